import PyProof.Rows.All
import Wide.All
import OpenK.AllK
import Wide.FinOn
import HandS.ForMost
import HandS.ForExc
import HandS.IsInst
import HandS.ExcIs
import HandS.TryMany
import HandS.CallSlots
import HandS.Flow
import HandS.Wide
import HandS.StrMore
import KE.KExcIs
import HandS.Deep
import HandS.TryOnly
import PyProof.ListStr
import HandS.Conv
import PyProof.Rows.StrDigitsNeg
import HandS.Replace
import HandS.Dict
import HandS.Small
import HandS.More
import HandS.EndBits
import KE.IntBitsLaws
import HandS.WordsDict
import PySem.Challenge.RW_paneworks_k36_the_shelf
set_option Elab.async false
set_option linter.all false
set_option maxRecDepth 100000
set_option maxHeartbeats 1000000
/-! A layer of our own over HandS: values as plain data, state as a list of slots and a list of owned things. -/
namespace PW
open PySem L2

abbrev Fp := Addr → Prop
/-- the written part, fixed through a law -/
class KC where
  K : PySem.W.Frag
variable [KC]
/-- a list of the written part -/
def KLst (K : PySem.W.Frag) (a : Addr) (xs : List V) : Prop := ∃ (o : Obj) (its : Array Value) (n : Nat), K.lookup a = some o ∧ o.cls = .type "list" ∧ o.dict = none ∧ o.data = .seq its n ∧ its.size ≤ sizeLine ∧ Vals xs its.toList
/-- a list that nobody writes any more -/
def LsAt (G : Fp) (H : Hp) (a : Addr) (xs : List V) : Prop := (Rd H a (.lst xs) ∧ ¬ G a) ∨ KLst KC.K a xs
theorem LsAt.sq {G : Fp} {H : Hp} {a : Addr} {xs : List V} (h : LsAt G H a xs) : SqL KC.K H a xs := h.imp And.left id

/-! ### data that nobody writes any more -/
mutual
inductive Is (G : Fp) (H : Hp) : V → PyData → Prop
  | non : Is G H .non .none
  | bl (b : Bool) : Is G H (.bl b) (.bool b)
  | int (i : Int) : Is G H (.int i) (.int i)
  | str (x : Str) : Is G H (.str x) (.str x)
  | lst {a : Addr} {xs : List V} {ds : List PyData} : LsAt G H a xs → IsAll G H xs ds → Is G H (.ref a) (.list ds)
  | tup {a : Addr} {xs : List V} {ds : List PyData} : Rd H a (.tup xs) → ¬ G a → IsAll G H xs ds → Is G H (.ref a) (.tuple ds)
inductive IsAll (G : Fp) (H : Hp) : List V → List PyData → Prop
  | nil : IsAll G H [] []
  | cons {v : V} {vs : List V} {d : PyData} {ds : List PyData} : Is G H v d → IsAll G H vs ds → IsAll G H (v :: vs) (d :: ds)
end

/-- from (G, H) to (G', H'): G's own things may have changed, all else that was tracked stands, what is owned new is fresh -/
structure Stp (G G' : Fp) (H H' : Hp) : Prop where
  keep : ∀ a o, H a = some o → ¬ G a → H' a = some o
  sub : ∀ a, G' a → G a ∨ H a = none
  old : ∀ a o, H a = some o → ∃ o', H' a = some o'
theorem Stp.refl (G : Fp) (H : Hp) : Stp G G H H := ⟨fun _ _ h _ => h, fun _ h => .inl h, fun _ o h => ⟨o, h⟩⟩
theorem Stp.fresh {G G' : Fp} {H H' : Hp} (s : Stp G G' H H') {a : Addr} (h : H' a = none) : H a = none := by
  cases e : H a with
  | none => rfl
  | some o => obtain ⟨o', q⟩ := s.old a o e; rw [h] at q; cases q
theorem Stp.trans {G G1 G2 : Fp} {H H1 H2 : Hp} (s : Stp G G1 H H1) (t : Stp G1 G2 H1 H2) : Stp G G2 H H2 where
  keep := fun a o h n => t.keep a o (s.keep a o h n) fun g => by
    rcases s.sub a g with q | q
    · exact n q
    · rw [h] at q; cases q
  sub := fun a g => by
    rcases t.sub a g with q | q
    · exact s.sub a q
    · exact .inr (s.fresh q)
  old := fun a o h => by
    obtain ⟨o1, q⟩ := s.old a o h
    exact t.old a o1 q
theorem Stp.same {G : Fp} {H H' : Hp} (h : Same H H') : Stp G G H H' := ⟨fun a o q _ => h a o q, fun _ g => .inl g, fun a o q => ⟨o, h a o q⟩⟩
theorem Stp.less {G G' : Fp} {H : Hp} (h : ∀ a, G' a → G a) : Stp G G' H H := ⟨fun _ _ q _ => q, fun a g => .inl (h a g), fun _ o q => ⟨o, q⟩⟩

section
variable {G G' : Fp} {H H' : Hp}
theorem rd_stp {a : Addr} {u : HO} (k : ∀ a o, H a = some o → ¬ G a → H' a = some o) (n : ¬ G a) (h : Rd H a u) : Rd H' a u := by
  rcases h with h | ⟨o, h⟩
  · exact .inl (k _ _ h n)
  · exact .inr ⟨o, k _ _ h n⟩
theorem rd_some {a : Addr} {u : HO} (h : Rd H a u) : ∃ o, H a = some o := by
  rcases h with h | ⟨o, h⟩
  · exact ⟨_, h⟩
  · exact ⟨_, h⟩
theorem ls_stp0 {a : Addr} {xs : List V} (k : ∀ a o, H a = some o → ¬ G a → H' a = some o) (s : ∀ a, G' a → G a ∨ H a = none) (h : LsAt G H a xs) : LsAt G' H' a xs := by
  rcases h with ⟨r, n⟩ | h
  · refine .inl ⟨rd_stp k n r, fun g => ?_⟩
    obtain ⟨o, q⟩ := rd_some r
    rcases s _ g with z | z
    · exact n z
    · rw [q] at z; cases z
  · exact .inr h
mutual
theorem Is.stp0 (k : ∀ a o, H a = some o → ¬ G a → H' a = some o) (s : ∀ a, G' a → G a ∨ H a = none) : ∀ {v : V} {d : PyData}, Is G H v d → Is G' H' v d
  | _, _, .non => .non
  | _, _, .bl b => .bl b
  | _, _, .int i => .int i
  | _, _, .str x => .str x
  | _, _, .lst r t => .lst (ls_stp0 k s r) (IsAll.stp0 k s t)
  | _, _, .tup r n t => .tup (rd_stp k n r) (fun g => by
      obtain ⟨o, q⟩ := rd_some r
      rcases s _ g with z | z
      · exact n z
      · rw [q] at z; cases z) (IsAll.stp0 k s t)
theorem IsAll.stp0 (k : ∀ a o, H a = some o → ¬ G a → H' a = some o) (s : ∀ a, G' a → G a ∨ H a = none) : ∀ {vs : List V} {ds : List PyData}, IsAll G H vs ds → IsAll G' H' vs ds
  | _, _, .nil => .nil
  | _, _, .cons h t => .cons (Is.stp0 k s h) (IsAll.stp0 k s t)
end
theorem Is.stp {v : V} {d : PyData} (s : Stp G G' H H') (h : Is G H v d) : Is G' H' v d := h.stp0 s.keep s.sub
theorem IsAll.stp {vs : List V} {ds : List PyData} (s : Stp G G' H H') (h : IsAll G H vs ds) : IsAll G' H' vs ds := h.stp0 s.keep s.sub
theorem IsAll.length : ∀ {vs : List V} {ds : List PyData}, IsAll G H vs ds → vs.length = ds.length
  | _, _, .nil => rfl
  | _, _, .cons _ t => congrArg (· + 1) (IsAll.length t)
theorem IsAll.get : ∀ {vs : List V} {ds : List PyData} {i : Nat} {d : PyData}, IsAll G H vs ds → ds[i]? = some d → ∃ v, vs[i]? = some v ∧ Is G H v d
  | _, _, _, _, .nil, e => by simp at e
  | _, _, 0, _, .cons h _, e => by simp at e; subst e; exact ⟨_, rfl, h⟩
  | _, _, i + 1, d, .cons _ t, e => by
    obtain ⟨v, h1, h2⟩ := IsAll.get (i := i) (d := d) t (by simpa using e)
    exact ⟨v, by simpa using h1, h2⟩
theorem IsAll.getV : ∀ {vs : List V} {ds : List PyData} {i : Nat} {v : V}, IsAll G H vs ds → vs[i]? = some v → ∃ d, ds[i]? = some d ∧ Is G H v d
  | _, _, _, _, .nil, e => by simp at e
  | _, _, 0, _, .cons h _, e => by simp at e; subst e; exact ⟨_, rfl, h⟩
  | _, _, i + 1, d, .cons _ t, e => by
    obtain ⟨v, h1, h2⟩ := IsAll.getV (i := i) (v := d) t (by simpa using e)
    exact ⟨v, by simpa using h1, h2⟩
theorem IsAll.append : ∀ {vs ws : List V} {ds es : List PyData}, IsAll G H vs ds → IsAll G H ws es → IsAll G H (vs ++ ws) (ds ++ es)
  | _, _, _, _, .nil, h => h
  | _, _, _, _, .cons a t, h => .cons a (t.append h)
theorem IsAll.take : ∀ {vs : List V} {ds : List PyData} (n : Nat), IsAll G H vs ds → IsAll G H (vs.take n) (ds.take n)
  | _, _, 0, _ => .nil
  | _, _, _ + 1, .nil => .nil
  | _, _, n + 1, .cons a t => .cons a (t.take n)
theorem IsAll.drop : ∀ {vs : List V} {ds : List PyData} (n : Nat), IsAll G H vs ds → IsAll G H (vs.drop n) (ds.drop n)
  | _, _, 0, h => h
  | _, _, _ + 1, .nil => .nil
  | _, _, n + 1, .cons _ t => t.drop n
theorem IsAll.set {v : V} {d : PyData} (h : Is G H v d) : ∀ {vs : List V} {ds : List PyData} (i : Nat), IsAll G H vs ds → IsAll G H (vs.set i v) (ds.set i d)
  | _, _, _, .nil => .nil
  | _, _, 0, .cons _ t => .cons h t
  | _, _, i + 1, .cons q t => .cons q (IsAll.set h i t)
/-- as HandS says it -/
theorem rd_sqL {K : PySem.W.Frag} {a : Addr} {xs : List V} (h : Rd H a (.lst xs)) : SqL K H a xs := .inl h
theorem rd_sqT {K : PySem.W.Frag} {a : Addr} {xs : List V} (h : Rd H a (.tup xs)) : SqT K H a xs := .inl h
mutual
theorem Is.dp : ∀ {v : V} {d : PyData}, Is G H v d → Dp KC.K H v d
  | _, _, .non => .non
  | _, _, .bl b => .bl b
  | _, _, .int i => .int i
  | _, _, .str x => .str x
  | _, _, .lst r t => .lst r.sq (IsAll.dp t)
  | _, _, .tup r _ t => .tup (rd_sqT r) (IsAll.dp t)
theorem IsAll.dp : ∀ {vs : List V} {ds : List PyData}, IsAll G H vs ds → DpAll KC.K H vs ds
  | _, _, .nil => .nil
  | _, _, .cons h t => .cons (Is.dp h) (IsAll.dp t)
end
end

/-! ### slots -/
inductive Sl where
  | un | d (x : PyData) | r (v : V) | n (ds : List PyData)
/-- a new list, once it is given a name, is plain data -/
def Sl.plain : Sl → Sl
  | .n ds => .d (.list ds)
  | s => s
def SlOk (G : Fp) (H : Hp) (v : V) : Sl → Prop
  | .un => True
  | .d x => Is G H v x
  | .r u => v = u
  | .n ds => Is G H v (.list ds)
/-- a result: behind a start in H0 -/
def Rs (G : Fp) (H0 H : Hp) (v : V) : Sl → Prop
  | .n ds => ∃ p vs, v = .ref p ∧ H0 p = none ∧ ¬ G p ∧ H p = some (.lst vs) ∧ IsAll G H vs ds
  | s => SlOk G H v s
section
variable {G G' : Fp} {H H' H0 : Hp} {v : V} {s : Sl}
theorem SlOk.stp (t : Stp G G' H H') (h : SlOk G H v s) : SlOk G' H' v s := by
  cases s with
  | un => trivial
  | d x => exact Is.stp t h
  | r u => exact h
  | n ds => exact Is.stp t h
theorem Rs.ok (h : Rs G H0 H v s) : SlOk G H v s := by
  cases s with
  | un => trivial
  | d x => exact h
  | r u => exact h
  | n ds => obtain ⟨p, vs, rfl, _, ng, hp, t⟩ := h; exact .lst (.inl ⟨.inl hp, ng⟩) t
theorem SlOk.plain (h : SlOk G H v s) : SlOk G H v s.plain := by
  cases s <;> exact h
theorem Rs.back {G0 G1 : Fp} {H1 : Hp} (t : Stp G0 G1 H1 H0) (h : Rs G H0 H v s) : Rs G H1 H v s := by
  cases s with
  | un => trivial
  | d x => exact h
  | r u => exact h
  | n ds => obtain ⟨p, vs, e, z, ng, hp, q⟩ := h; exact ⟨p, vs, e, t.fresh z, ng, hp, q⟩
theorem Rs.of_ok (h : SlOk G H v s) (hn : ∀ ds, s ≠ .n ds) : Rs G H0 H v s := by
  cases s with
  | n ds => exact absurd rfl (hn ds)
  | un => trivial
  | d x => exact h
  | r u => exact h
end
/-- the slots of a frame -/
def EnvOk (G : Fp) (H : Hp) : St → List Sl → Prop
  | [], [] => True
  | o :: σ, s :: ρ => (match s with
      | .un => True
      | s => ∃ v, o = some v ∧ SlOk G H v s) ∧ EnvOk G H σ ρ
  | _, _ => False
def SlAll (G : Fp) (H : Hp) : List V → List Sl → Prop
  | [], [] => True
  | v :: vs, s :: ss => SlOk G H v s ∧ SlAll G H vs ss
  | _, _ => False
section
variable {G G' : Fp} {H H' : Hp}
theorem EnvOk.stp (t : Stp G G' H H') : ∀ {σ : St} {ρ : List Sl}, EnvOk G H σ ρ → EnvOk G' H' σ ρ
  | [], [], _ => trivial
  | o :: σ, s :: ρ, ⟨h, q⟩ => by
    refine ⟨?_, q.stp t⟩
    cases s with
    | un => trivial
    | d x => obtain ⟨v, e, z⟩ := h; exact ⟨v, e, SlOk.stp t z⟩
    | r x => obtain ⟨v, e, z⟩ := h; exact ⟨v, e, SlOk.stp t z⟩
    | n x => obtain ⟨v, e, z⟩ := h; exact ⟨v, e, SlOk.stp t z⟩
  | [], _ :: _, h => h.elim
  | _ :: _, [], h => h.elim
theorem SlAll.stp (t : Stp G G' H H') : ∀ {vs : List V} {ss : List Sl}, SlAll G H vs ss → SlAll G' H' vs ss
  | [], [], _ => trivial
  | _ :: _, _ :: _, ⟨h, q⟩ => ⟨SlOk.stp t h, q.stp t⟩
  | [], _ :: _, h => h.elim
  | _ :: _, [], h => h.elim
theorem SlAll.length : ∀ {vs : List V} {ss : List Sl}, SlAll G H vs ss → vs.length = ss.length
  | [], [], _ => rfl
  | _ :: _, _ :: _, ⟨_, q⟩ => congrArg (· + 1) (SlAll.length q)
  | [], _ :: _, h => h.elim
  | _ :: _, [], h => h.elim
theorem SlAll.append : ∀ {vs ws : List V} {ss ts : List Sl}, SlAll G H vs ss → SlAll G H ws ts → SlAll G H (vs ++ ws) (ss ++ ts)
  | [], _, [], _, _, h => h
  | _ :: _, _, _ :: _, _, ⟨a, q⟩, h => ⟨a, q.append h⟩
  | [], _, _ :: _, _, h, _ => h.elim
  | _ :: _, _, [], _, h, _ => h.elim
theorem SlAll.get : ∀ {vs : List V} {ss : List Sl} {i : Nat} {s : Sl}, SlAll G H vs ss → ss[i]? = some s → ∃ v, vs[i]? = some v ∧ SlOk G H v s
  | [], [], _, _, _, e => by simp at e
  | _ :: _, _ :: _, 0, _, ⟨h, _⟩, e => by simp at e; subst e; exact ⟨_, rfl, h⟩
  | _ :: vs, _ :: ss, i + 1, s, ⟨_, q⟩, e => by
    obtain ⟨v, h1, h2⟩ := SlAll.get (i := i) (s := s) q (by simpa using e)
    exact ⟨v, by simpa using h1, h2⟩
  | [], _ :: _, _, _, h, _ => h.elim
  | _ :: _, [], _, _, h, _ => h.elim
theorem SlAll.set {v : V} {s : Sl} (h : SlOk G H v s) : ∀ {vs : List V} {ss : List Sl} (i : Nat), SlAll G H vs ss → SlAll G H (vs.set i v) (ss.set i s)
  | [], [], _, _ => trivial
  | _ :: _, _ :: _, 0, ⟨_, q⟩ => ⟨h, q⟩
  | _ :: _, _ :: _, i + 1, ⟨a, q⟩ => ⟨a, SlAll.set h i q⟩
  | [], _ :: _, _, h => h.elim
  | _ :: _, [], _, h => h.elim
theorem SlAll.of_is : ∀ {vs : List V} {ds : List PyData}, IsAll G H vs ds → SlAll G H vs (ds.map .d)
  | _, _, .nil => trivial
  | _, _, .cons h t => ⟨h, SlAll.of_is t⟩
theorem SlAll.is : ∀ {vs : List V} {ds : List PyData}, SlAll G H vs (ds.map .d) → IsAll G H vs ds
  | [], [], _ => .nil
  | _ :: _, _ :: _, ⟨h, q⟩ => .cons h (SlAll.is q)
  | [], _ :: _, h => h.elim
  | _ :: _, [], h => h.elim
theorem EnvOk.length : ∀ {σ : St} {ρ : List Sl}, EnvOk G H σ ρ → σ.length = ρ.length
  | [], [], _ => rfl
  | _ :: _, _ :: _, ⟨_, q⟩ => congrArg (· + 1) (EnvOk.length q)
  | [], _ :: _, h => h.elim
  | _ :: _, [], h => h.elim
end
/-- the slot of a name; ρ' is ρ with s there -/
inductive Slot : List Str → List Sl → Str → Nat → Sl → Prop
  | zero {x N s ρ} : Slot (x :: N) (s :: ρ) x 0 s
  | succ {x y N s t ρ i} : Slot N ρ x i s → Slot (y :: N) (t :: ρ) x (i + 1) s
inductive SetS : List Str → List Sl → Str → Nat → Sl → List Sl → Prop
  | zero {x N s t ρ} : SetS (x :: N) (t :: ρ) x 0 s (s :: ρ)
  | succ {x y N s t ρ ρ' i} : SetS N ρ x i s ρ' → SetS (y :: N) (t :: ρ) x (i + 1) s (t :: ρ')
theorem Slot.name : ∀ {N ρ x i s}, Slot N ρ x i s → N[i]? = some x
  | _, _, _, _, _, .zero => rfl
  | _, _, _, _, _, .succ h => by simpa using h.name
theorem SetS.name : ∀ {N ρ x i s ρ'}, SetS N ρ x i s ρ' → N[i]? = some x
  | _, _, _, _, _, _, .zero => rfl
  | _, _, _, _, _, _, .succ h => by simpa using h.name
theorem Slot.env {G : Fp} {H : Hp} : ∀ {N ρ x i s} {σ : St}, Slot N ρ x i s → s ≠ .un → EnvOk G H σ ρ → ∃ v, σ[i]? = some (some v) ∧ SlOk G H v s
  | _, _, _, _, s, o :: σ, .zero, hn, ⟨h, _⟩ => by
    cases s with
    | un => exact absurd rfl hn
    | d x => obtain ⟨v, rfl, z⟩ := h; exact ⟨v, rfl, z⟩
    | r x => obtain ⟨v, rfl, z⟩ := h; exact ⟨v, rfl, z⟩
    | n x => obtain ⟨v, rfl, z⟩ := h; exact ⟨v, rfl, z⟩
  | _, _, _, _, _, o :: σ, .succ t, hn, ⟨_, q⟩ => by
    obtain ⟨v, e, z⟩ := Slot.env (σ := σ) t hn q
    exact ⟨v, by simpa using e, z⟩
  | _, _, _, _, _, [], .zero, _, h => h.elim
  | _, _, _, _, _, [], .succ _, _, h => h.elim
theorem SetS.env {G : Fp} {H : Hp} {v : V} : ∀ {N ρ x i s ρ'} {σ : St}, SetS N ρ x i s ρ' → SlOk G H v s → EnvOk G H σ ρ → EnvOk G H (σ.set i (some v)) ρ'
  | _, _, _, _, s, _, o :: σ, .zero, hs, ⟨_, q⟩ => by
    refine ⟨?_, q⟩
    cases s with
    | un => trivial
    | d x => exact ⟨v, rfl, hs⟩
    | r x => exact ⟨v, rfl, hs⟩
    | n x => exact ⟨v, rfl, hs⟩
  | _, _, _, _, _, _, o :: σ, .succ t, hs, ⟨h, q⟩ => ⟨h, SetS.env (σ := σ) t hs q⟩
  | _, _, _, _, _, _, [], .zero, _, h => h.elim
  | _, _, _, _, _, _, [], .succ _, _, h => h.elim
/-- ρ' tells no more than ρ -/
inductive Le : List Sl → List Sl → Prop
  | nil : Le [] []
  | un {s ρ ρ'} : Le ρ ρ' → Le (s :: ρ) (.un :: ρ')
  | eq {s ρ ρ'} : Le ρ ρ' → Le (s :: ρ) (s :: ρ')
theorem Le.env {G : Fp} {H : Hp} : ∀ {ρ ρ' : List Sl} {σ : St}, Le ρ ρ' → EnvOk G H σ ρ → EnvOk G H σ ρ'
  | _, _, [], .nil, _ => trivial
  | _, _, _ :: _, .un t, ⟨_, q⟩ => ⟨trivial, t.env q⟩
  | _, _, _ :: _, .eq t, ⟨h, q⟩ => ⟨h, t.env q⟩
  | _, _, [], .un _, h => h.elim
  | _, _, [], .eq _, h => h.elim
  | _, _, _ :: _, .nil, h => h.elim
theorem Le.refl : ∀ ρ, Le ρ ρ
  | [] => .nil
  | _ :: ρ => .eq (Le.refl ρ)

/-! ### owned things -/
structure Mem where
  ok : Fp → Fp → Hp → Prop
  dom : ∀ {F G H}, ok F G H → ∀ a, F a → ∃ o, H a = some o
  step : ∀ {F G G' H H'}, ok F G H → (∀ a o, H a = some o → (F a ∨ ¬ G a) → H' a = some o) → (∀ a, G' a → G a ∨ H a = none) → ok F G' H'
def sepL : List Mem → Fp → Fp → Hp → Prop
  | [], F, _, _ => ∀ a, ¬ F a
  | A :: rs, F, G, H => ∃ F1 F2 : Fp, A.ok F1 G H ∧ sepL rs F2 G H ∧ (∀ a, F1 a → F2 a → False) ∧ (∀ a, F a ↔ F1 a ∨ F2 a)
theorem sepL.dom {H : Hp} {G : Fp} : ∀ {rs : List Mem} {F : Fp}, sepL rs F G H → ∀ a, F a → ∃ o, H a = some o
  | [], F, h, a, q => absurd q (h a)
  | A :: rs, F, ⟨F1, F2, h1, h2, _, e⟩, a, q => by
    rcases (e a).mp q with z | z
    · exact A.dom h1 a z
    · exact sepL.dom h2 a z
theorem sepL.step {H H' : Hp} {G G' : Fp} (s : ∀ a, G' a → G a ∨ H a = none) : ∀ {rs : List Mem} {F : Fp}, sepL rs F G H → (∀ a o, H a = some o → (F a ∨ ¬ G a) → H' a = some o) → sepL rs F G' H'
  | [], F, h, _ => h
  | A :: rs, F, ⟨F1, F2, h1, h2, d, e⟩, k =>
    ⟨F1, F2, A.step h1 (fun a o q z => k a o q (z.imp (fun z => (e a).mpr (.inl z)) id)) s, sepL.step s h2 (fun a o q z => k a o q (z.imp (fun z => (e a).mpr (.inr z)) id)), d, e⟩
def sepM (rs : List Mem) : Mem := ⟨sepL rs, fun h => sepL.dom h, fun h k s => sepL.step s h k⟩
theorem sepL.ext {H : Hp} {G F F' : Fp} {rs : List Mem} (e : ∀ a, F a ↔ F' a) (h : sepL rs F G H) : sepL rs F' G H := by
  have : F = F' := funext fun a => propext (e a)
  rw [← this]; exact h
/-- xs is taken out of rs: f puts something back -/
inductive Pick : List Mem → Mem → (List Mem → List Mem) → Prop
  | zero {A rs} : Pick (A :: rs) A (fun xs => xs ++ rs)
  | succ {A B rs f} : Pick rs A f → Pick (B :: rs) A (fun xs => B :: f xs)
theorem sepL.app {H : Hp} {G : Fp} : ∀ {xs ys : List Mem} {F : Fp}, sepL (xs ++ ys) F G H ↔ ∃ F1 F2 : Fp, sepL xs F1 G H ∧ sepL ys F2 G H ∧ (∀ a, F1 a → F2 a → False) ∧ (∀ a, F a ↔ F1 a ∨ F2 a)
  | [], ys, F => by
    constructor
    · intro h
      exact ⟨fun _ => False, F, fun _ z => z, h, fun _ z => z.elim, fun a => ⟨fun z => .inr z, fun z => z.elim False.elim id⟩⟩
    · rintro ⟨F1, F2, h1, h2, d, e⟩
      refine sepL.ext (F := F2) (fun a => ?_) h2
      rw [e a]
      exact ⟨.inr, fun z => z.elim (fun z => absurd z (h1 a)) id⟩
  | A :: xs, ys, F => by
    constructor
    · rintro ⟨F1, F2, h1, h2, d, e⟩
      obtain ⟨F3, F4, h3, h4, d2, e2⟩ := (sepL.app (xs := xs) (ys := ys)).mp h2
      refine ⟨fun a => F1 a ∨ F3 a, F4, ⟨F1, F3, h1, h3, fun a z y => d a z ((e2 a).mpr (.inl y)), fun a => Iff.rfl⟩, h4, fun a z y => ?_, fun a => ?_⟩
      · rcases z with z | z
        · exact d a z ((e2 a).mpr (.inr y))
        · exact d2 a z y
      · rw [e a, e2 a, or_assoc]
    · rintro ⟨F1, F2, ⟨F3, F4, h3, h4, d2, e2⟩, h2, d, e⟩
      refine ⟨F3, fun a => F4 a ∨ F2 a, h3, (sepL.app (xs := xs) (ys := ys)).mpr ⟨F4, F2, h4, h2, fun a z y => d a ((e2 a).mpr (.inr z)) y, fun a => Iff.rfl⟩, fun a z y => ?_, fun a => ?_⟩
      · rcases y with y | y
        · exact d2 a z y
        · exact d a ((e2 a).mpr (.inl z)) y
      · rw [e a, e2 a, or_assoc]
theorem Pick.split {H : Hp} {G : Fp} : ∀ {rs : List Mem} {A : Mem} {f : List Mem → List Mem}, Pick rs A f → (∀ {F : Fp}, sepL rs F G H ↔ sepL (A :: f []) F G H) := by
  intro rs A f h
  induction h with
  | zero => intro F; exact Iff.rfl
  | @succ A B rs f p ih =>
    intro F
    constructor
    · rintro ⟨F1, F2, h1, h2, d, e⟩
      obtain ⟨F3, F4, h3, h4, d2, e2⟩ := ih.mp h2
      refine ⟨F3, fun a => F1 a ∨ F4 a, h3, ⟨F1, F4, h1, h4, fun a z y => d a z ((e2 a).mpr (.inr y)), fun a => Iff.rfl⟩, fun a z y => ?_, fun a => ?_⟩
      · rcases y with y | y
        · exact d a y ((e2 a).mpr (.inl z))
        · exact d2 a z y
      · rw [e a, e2 a, or_left_comm]
    · rintro ⟨F1, F2, h1, ⟨F3, F4, h3, h4, d2, e2⟩, d, e⟩
      refine ⟨F3, fun a => F1 a ∨ F4 a, h3, ih.mpr ⟨F1, F4, h1, h4, fun a z y => d a z ((e2 a).mpr (.inr y)), fun a => Iff.rfl⟩, fun a z y => ?_, fun a => ?_⟩
      · rcases y with y | y
        · exact d a y ((e2 a).mpr (.inl z))
        · exact d2 a z y
      · rw [e a, e2 a, or_left_comm]
theorem Pick.put {H : Hp} {G : Fp} : ∀ {rs : List Mem} {A : Mem} {f : List Mem → List Mem}, Pick rs A f → ∀ {xs : List Mem} {F : Fp}, sepL (f xs) F G H ↔ sepL (xs ++ f []) F G H := by
  intro rs A f h
  induction h with
  | zero => intro xs F; exact Iff.rfl
  | @succ A B rs f p ih =>
    intro xs F
    constructor
    · rintro ⟨F1, F2, h1, h2, d, e⟩
      obtain ⟨F3, F4, h3, h4, d2, e2⟩ := sepL.app.mp (ih.mp h2)
      refine sepL.app.mpr ⟨F3, fun a => F1 a ∨ F4 a, h3, ⟨F1, F4, h1, h4, fun a z y => d a z ((e2 a).mpr (.inr y)), fun a => Iff.rfl⟩, fun a z y => ?_, fun a => ?_⟩
      · rcases y with y | y
        · exact d a y ((e2 a).mpr (.inl z))
        · exact d2 a z y
      · rw [e a, e2 a, or_left_comm]
    · intro h
      obtain ⟨F1, F2, h1, ⟨F3, F4, h3, h4, d2, e2⟩, d, e⟩ := sepL.app.mp h
      refine ⟨F3, fun a => F1 a ∨ F4 a, h3, ih.mpr (sepL.app.mpr ⟨F1, F4, h1, h4, fun a z y => d a z ((e2 a).mpr (.inr y)), fun a => Iff.rfl⟩), fun a z y => ?_, fun a => ?_⟩
      · rcases y with y | y
        · exact d a y ((e2 a).mpr (.inl z))
        · exact d2 a z y
      · rw [e a, e2 a, or_left_comm]
/-- one owned thing is let go: from now on it is plain -/
theorem sepL.drop {H : Hp} {rs : List Mem} {A : Mem} {f : List Mem → List Mem} {G : Fp} (p : Pick rs A f) (h : sepL rs G G H) : ∃ F1 G', A.ok F1 G H ∧ (∀ a, F1 a → G' a → False) ∧ Stp G G' H H ∧ sepL (f []) G' G' H := by
  obtain ⟨F1, F2, h1, h2, d, e⟩ := p.split.mp h
  have s : Stp G F2 H H := Stp.less fun a z => (e a).mpr (.inr z)
  exact ⟨F1, F2, h1, d, s, sepL.step s.sub h2 fun a o q _ => q⟩
/-- a new address joins -/
theorem sepL.join {H H' : Hp} {rs : List Mem} {A : Mem} {G : Fp} {p : Addr} (h : sepL rs G G H) (hs : Same H H') (hp : H p = none) (hA : A.ok (fun a => a = p) (fun a => a = p ∨ G a) H') :
    Stp G (fun a => a = p ∨ G a) H H' ∧ sepL (A :: rs) (fun a => a = p ∨ G a) (fun a => a = p ∨ G a) H' := by
  have s : Stp G (fun a => a = p ∨ G a) H H' := ⟨fun a o q _ => hs a o q, fun a g => by
    rcases g with rfl | g
    · exact .inr hp
    · exact .inl g, fun a o q => ⟨o, hs a o q⟩⟩
  refine ⟨s, fun a => a = p, G, hA, sepL.step s.sub h fun a o q _ => hs a o q, fun a e g => ?_, fun a => Iff.rfl⟩
  subst e
  obtain ⟨o, q⟩ := h.dom a g
  rw [hp] at q; cases q
/-- one owned thing is changed in place (its own footprint stays) -/
theorem sepL.change {H H' : Hp} {rs : List Mem} {A B : Mem} {f : List Mem → List Mem} {G : Fp} (p : Pick rs A f) (h : sepL rs G G H)
    (hB : ∀ F1, A.ok F1 G H → (∀ a, F1 a → G a) → (∀ a o, H a = some o → ¬ F1 a → H' a = some o) ∧ (∀ a o, H a = some o → ∃ o', H' a = some o') ∧ B.ok F1 G H') :
    Stp G G H H' ∧ sepL (f [B]) G G H' := by
  obtain ⟨F1, F2, h1, h2, d, e⟩ := p.split.mp h
  obtain ⟨k, o, hb⟩ := hB F1 h1 fun a z => (e a).mpr (.inl z)
  refine ⟨⟨fun a u q n => k a u q fun z => n ((e a).mpr (.inl z)), fun a g => .inl g, o⟩, p.put.mpr ⟨F1, F2, hb, sepL.step (fun a g => .inl g) h2 fun a u q z => k a u q fun y => ?_, d, e⟩⟩
  rcases z with z | z
  · exact d a y z
  · exact z ((e a).mpr (.inl y))
end PW

set_option maxHeartbeats 1000000
/-! The judgements over slots and owned things. -/
namespace PW
open PySem L2
variable [KC]

/-! ### the meaning of a piece, as a reading -/
def tE (X : Cx) (e : Expr) : TE := fun σ H Q => ∀ pins s, Inv X pins σ H s → wpAny (model X.prog X.w) X.A (eval e X.env) (EP X pins σ Q) X.xe s
def tT (X : Cx) (e : Expr) : TT := fun σ H Q => ∀ pins s, Inv X pins σ H s → wpAny (model X.prog X.w) X.A (isTrue e X.env (eval e X.env)) (TP X pins σ Q) X.xe s
def tW (X : Cx) (e : Expr) : TT := fun σ H Q => ∀ whole pins s, Inv X pins σ H s → wpAny (model X.prog X.w) X.A (isTrue e X.env whole) (TP X pins σ Q) X.xe s
def tA (X : Cx) (es : List Expr) : TA := fun σ H Q => ∀ pos pins s, Inv X pins σ H s → wpAny (model X.prog X.w) X.A (spliced (backTo pos (starEach es X.env))) (AP X pins σ Q) X.xe s
def tS (X : Cx) (st : Stmt) : TS := fun D σ H => ∀ pins s, Inv X pins σ H s → wpAny (model X.prog X.w) X.A (exec st X.env) (SP X pins D) X.xe s
def tSs (X : Cx) (st : List Stmt) : TS := fun D σ H => ∀ pins s, Inv X pins σ H s → wpAny (model X.prog X.w) X.A (execs st X.env) (SP X pins D) X.xe s
section
variable {X : Cx} {e : Expr} {es : List Expr} {st : Stmt} {sts : List Stmt} {σ : L2.St} {H : Hp}
theorem pe_t : PE X e (tE X e) := ⟨fun pins s _ _ _ I h => h pins s I⟩
theorem pt_t : PT X e (tT X e) := ⟨fun pins s _ _ _ I h => h pins s I⟩
theorem pw_t : L2.PW X e (tW X e) := ⟨fun whole pins s _ _ _ I h => h whole pins s I⟩
theorem pa_t : PA X es (tA X es) := ⟨fun pos pins s _ _ _ I h => h pos pins s I⟩
theorem ps_t : PS X st (tS X st) := ⟨fun pins s _ _ _ I h => h pins s I⟩
theorem pss_t : PSs X sts (tSs X sts) := ⟨fun pins s _ _ _ I h => h pins s I⟩
theorem tE_of {t : TE} {Q : VK} (h : PE X e t) (q : t σ H Q) : tE X e σ H Q := fun pins s I => h.run pins s σ H Q I q
theorem tT_of {t : TT} {Q} (h : PT X e t) (q : t σ H Q) : tT X e σ H Q := fun pins s I => h.run pins s σ H Q I q
theorem tW_of {t : TT} {Q} (h : L2.PW X e t) (q : t σ H Q) : tW X e σ H Q := fun whole pins s I => h.run whole pins s σ H Q I q
theorem tA_of {t : TA} {Q} (h : PA X es t) (q : t σ H Q) : tA X es σ H Q := fun pos pins s I => h.run pos pins s σ H Q I q
theorem tS_of {t : TS} {D} (h : PS X st t) (q : t D σ H) : tS X st D σ H := fun pins s I => h.run pins s σ H D I q
theorem tSs_of {t : TS} {D} (h : PSs X sts t) (q : t D σ H) : tSs X sts D σ H := fun pins s I => h.run pins s σ H D I q
end

/-! ### the context -/
/-- what is fixed through a law -/
structure Mo where
  P : Program
  w : World
  K : PySem.W.Frag
  mg : Str → Option Value
  base : Heap
structure Mo.Of (m : Mo) (X : Cx) : Prop where
  P : X.prog = m.P
  w : X.w = m.w
  K : X.K = m.K
  mg : X.mg = m.mg
  base : X.base = m.base
/-- the built-in names are nobody's own -/
structure Bl (mg : Str → Option Value) : Prop where
  len : mg "len" = none
  range : mg "range" = none
  isinstance : mg "isinstance" = none
  list : mg "list" = none
  int : mg "int" = none
  bool : mg "bool" = none
  str : mg "str" = none
  tuple : mg "tuple" = none
  dict : mg "dict" = none
  set : mg "set" = none
  sorted : mg "sorted" = none
  min : mg "min" = none
  max : mg "max" = none
  reversed : mg "reversed" = none
  ValueError : mg "ValueError" = none
/-! ### names of a scope, found by their look -/
inductive KdIn : List (Str × NameKind) → Str → NameKind → Prop
  | zero {x k l} : KdIn ((x, k) :: l) x k
  | succ {x k l p} : KdIn l x k → KdIn (p :: l) x k
/-- no name twice, none of the odd ones -/
def okB : List (Str × NameKind) → Bool
  | [] => true
  | (x, _) :: l => (l.all fun p => !(x == p.1)) && !(x == ("__debug__" : Str)) && !(x == ("__classdict__" : Str)) && !(x == ("__name__" : Str)) && okB l
def ScOk (sc : Scope) : Prop := okB sc.names = true
instance {sc : Scope} : Decidable (ScOk sc) := inferInstanceAs (Decidable (_ = true))
theorem KdIn.mem {l : List (Str × NameKind)} {x : Str} {k : NameKind} (h : KdIn l x k) : (x, k) ∈ l := by
  induction h with
  | zero => exact List.mem_cons_self
  | succ _ ih => exact List.mem_cons_of_mem _ ih
theorem KdIn.look {l : List (Str × NameKind)} {x : Str} {k : NameKind} (h : KdIn l x k) : okB l = true → l.lookup x = some k ∧ (x == ("__debug__" : Str)) = false ∧ (x == ("__classdict__" : Str)) = false ∧ (x == ("__name__" : Str)) = false := by
  induction h with
  | @zero x k l =>
    intro o
    simp only [okB, Bool.and_eq_true, Bool.not_eq_true'] at o
    exact ⟨by simp [List.lookup], o.1.1.1.2, o.1.1.2, o.1.2⟩
  | @succ x k l p h ih =>
    intro o
    obtain ⟨y, j⟩ := p
    simp only [okB, Bool.and_eq_true, Bool.not_eq_true', List.all_eq_true] at o
    have q := o.1.1.1.1 _ h.mem
    have ne : (x == y) = false := by
      cases e : (x == y) with
      | false => rfl
      | true =>
        have e := eq_of_beq e
        subst e
        simp at q
    have r := ih o.2
    exact ⟨by rw [List.lookup_cons, ne]; exact r.1, r.2⟩
theorem kd_of {x : Str} {k : NameKind} : ∀ {l : List (Str × NameKind)}, l.lookup x = some k → KdIn l x k
  | [], h => by simp at h
  | (y, j) :: l, h => by
    rw [List.lookup_cons] at h
    cases e : (x == y) with
    | true =>
      rw [e] at h
      have e := eq_of_beq e
      subst e
      cases h
      exact .zero
    | false =>
      rw [e] at h
      exact .succ (kd_of h)
def visK : NameKind → Bool
  | .local => true | .cell => true | .free => true
  | _ => false
/-- a name that is read here -/
def NmIn (l : List (Str × NameKind)) (x : Str) : Prop := ∃ k, KdIn l x k ∧ visK k = true
theorem nm_of {l : List (Str × NameKind)} {x : Str} {k : NameKind} (h : KdIn l x k) (hk : visK k = true) : NmIn l x := ⟨k, h, hk⟩
theorem nm_vis {sc : Scope} {x : Str} (h : Vis sc x) : NmIn sc.names x := by
  rcases h with h | h | h
  · exact ⟨_, kd_of h, rfl⟩
  · exact ⟨_, kd_of h, rfl⟩
  · exact ⟨_, kd_of h, rfl⟩
structure Ctx (m₀ : Mo) (N₀ : List Str) (sc₀ : Scope) (lv₀ : Nat) (xp₀ : Addr → List Sl → List Mem → Prop) (fF₀ cm₀ : Bool) where
  X : Cx
  W : WX
  hm : m₀.Of X
  hK : m₀.K = KC.K
  bl : Bl m₀.mg
  hN : X.N = N₀
  nd : N₀.Nodup
  hsc : X.env.scope = sc₀
  sok : ScOk sc₀
  calm : cm₀ = true → X.calm = true
  room : cm₀ = true → Room lv₀ X.A
  un : X.A.units + 200 < cLine
  fs : fF₀ = true → X.stack = X.env :: X.outer ∧ X.env.frame = some X.env.locals
  tk : Takes X W
  fn : fF₀ = true → ∀ x, X.fn x = true
  po : PassesOwn (model X.prog X.w) X.A X.env X.xe
section
variable {m₀ : Mo} {N₀ : List Str} {sc₀ : Scope} {lv₀ : Nat} {xp₀ : Addr → List Sl → List Mem → Prop} {fF₀ cm₀ : Bool}
theorem Ctx.look (c : Ctx m₀ N₀ sc₀ lv₀ xp₀ fF₀ cm₀) {x : Str} {k : NameKind} (h : KdIn sc₀.names x k) : sc₀.names.lookup x = some k := (h.look c.sok).1
theorem Ctx.nd1 (c : Ctx m₀ N₀ sc₀ lv₀ xp₀ fF₀ cm₀) {x : Str} {k : NameKind} (h : KdIn sc₀.names x k) : (x == ("__debug__" : Str)) = false := (h.look c.sok).2.1
theorem Ctx.nd2 (c : Ctx m₀ N₀ sc₀ lv₀ xp₀ fF₀ cm₀) {x : Str} {k : NameKind} (h : KdIn sc₀.names x k) : (x == ("__classdict__" : Str)) = false := (h.look c.sok).2.2.1
theorem Ctx.nd3 (c : Ctx m₀ N₀ sc₀ lv₀ xp₀ fF₀ cm₀) {x : Str} {k : NameKind} (h : KdIn sc₀.names x k) : x ≠ ("__name__" : Str) := fun e => by
  have q := (h.look c.sok).2.2.2
  subst e
  simp at q
theorem Ctx.vis (c : Ctx m₀ N₀ sc₀ lv₀ xp₀ fF₀ cm₀) {x : Str} (h : NmIn sc₀.names x) : Vis sc₀ x := by
  obtain ⟨k, h, hk⟩ := h
  have q := c.look h
  cases k with
  | «local» => exact .inl q
  | cell => exact .inr (.inl q)
  | free => exact .inr (.inr q)
  | _ => cases hk
theorem Ctx.ck (c : Ctx m₀ N₀ sc₀ lv₀ xp₀ fF₀ cm₀) : c.X.K = KC.K := c.hm.K.trans c.hK
def XOk (c : Ctx m₀ N₀ sc₀ lv₀ xp₀ fF₀ cm₀) (G : Fp) (H : Hp) : Prop := ∀ C σ' H' G' ρ' rs', Stp G G' H H' → EnvOk G' H' σ' ρ' → sepL rs' G' G' H' → xp₀ C ρ' rs' → c.W (.ref C) none σ' H'
theorem XOk.stp {c : Ctx m₀ N₀ sc₀ lv₀ xp₀ fF₀ cm₀} {G G' : Fp} {H H' : Hp} (t : Stp G G' H H') (h : XOk c G H) : XOk c G' H' := fun C σ' H2 G2 ρ' rs' s => h C σ' H2 G2 ρ' rs' (t.trans s)

/-! ### the judgements -/
def DX (c : Ctx m₀ N₀ sc₀ lv₀ xp₀ fF₀ cm₀) (e : Expr) (ρ : List Sl) (rs : List Mem) (K : Sl → List Mem → Prop) : Prop := ∀ (σ : L2.St) (H : Hp) (G : Fp) (Q : VK), EnvOk G H σ ρ → sepL rs G G H → XOk c G H →
  (∀ v H' G' sl rs', Stp G G' H H' → Rs G' H H' v sl → sepL rs' G' G' H' → K sl rs' → Q v H') → tE c.X e σ H Q
def DT (c : Ctx m₀ N₀ sc₀ lv₀ xp₀ fF₀ cm₀) (e : Expr) (ρ : List Sl) (rs : List Mem) (K : Bool → List Mem → Prop) : Prop := ∀ (σ : L2.St) (H : Hp) (G : Fp) (Q : Bool → Hp → Prop), EnvOk G H σ ρ → sepL rs G G H → XOk c G H →
  (∀ b H' G' rs', Stp G G' H H' → sepL rs' G' G' H' → K b rs' → Q b H') → tT c.X e σ H Q
def DW (c : Ctx m₀ N₀ sc₀ lv₀ xp₀ fF₀ cm₀) (e : Expr) (ρ : List Sl) (rs : List Mem) (K : Bool → List Mem → Prop) : Prop := ∀ (σ : L2.St) (H : Hp) (G : Fp) (Q : Bool → Hp → Prop), EnvOk G H σ ρ → sepL rs G G H → XOk c G H →
  (∀ b H' G' rs', Stp G G' H H' → sepL rs' G' G' H' → K b rs' → Q b H') → tW c.X e σ H Q
def DA (c : Ctx m₀ N₀ sc₀ lv₀ xp₀ fF₀ cm₀) (es : List Expr) (ρ : List Sl) (rs : List Mem) (K : List Sl → List Mem → Prop) : Prop := ∀ (σ : L2.St) (H : Hp) (G : Fp) (Q : List V → Hp → Prop), EnvOk G H σ ρ → sepL rs G G H → XOk c G H →
  (∀ vs H' G' ss rs', Stp G G' H H' → SlAll G' H' vs ss → sepL rs' G' G' H' → K ss rs' → Q vs H') → tA c.X es σ H Q
structure Post where
  nx : List Sl → List Mem → Prop
  rt : Sl → List Mem → Prop
  bk : List Sl → List Mem → Prop := fun _ _ => False
  ct : List Sl → List Mem → Prop := fun _ _ => False
structure DEnd (P : Post) (D : Ends) (G : Fp) (H : Hp) : Prop where
  nx : ∀ σ' H' G' ρ' rs', Stp G G' H H' → EnvOk G' H' σ' ρ' → sepL rs' G' G' H' → P.nx ρ' rs' → D.nx σ' H'
  rt : ∀ v H' G' sl rs', Stp G G' H H' → Rs G' H H' v sl → sepL rs' G' G' H' → P.rt sl rs' → D.rt v H'
  bk : ∀ σ' H' G' ρ' rs', Stp G G' H H' → EnvOk G' H' σ' ρ' → sepL rs' G' G' H' → P.bk ρ' rs' → D.bk σ' H'
  ct : ∀ σ' H' G' ρ' rs', Stp G G' H H' → EnvOk G' H' σ' ρ' → sepL rs' G' G' H' → P.ct ρ' rs' → D.ct σ' H'
theorem DEnd.stp {P : Post} {D : Ends} {G G' : Fp} {H H' : Hp} (t : Stp G G' H H') (d : DEnd P D G H) : DEnd P D G' H' where
  nx := fun σ' H2 G2 ρ' rs' s => d.nx σ' H2 G2 ρ' rs' (t.trans s)
  rt := fun v H2 G2 sl rs' s r => d.rt v H2 G2 sl rs' (t.trans s) (r.back t)
  bk := fun σ' H2 G2 ρ' rs' s => d.bk σ' H2 G2 ρ' rs' (t.trans s)
  ct := fun σ' H2 G2 ρ' rs' s => d.ct σ' H2 G2 ρ' rs' (t.trans s)
def DS (c : Ctx m₀ N₀ sc₀ lv₀ xp₀ fF₀ cm₀) (st : Stmt) (ρ : List Sl) (rs : List Mem) (P : Post) : Prop := ∀ (σ : L2.St) (H : Hp) (G : Fp) (D : Ends), EnvOk G H σ ρ → sepL rs G G H → XOk c G H → DEnd P D G H → tS c.X st D σ H
def DSs (c : Ctx m₀ N₀ sc₀ lv₀ xp₀ fF₀ cm₀) (sts : List Stmt) (ρ : List Sl) (rs : List Mem) (P : Post) : Prop := ∀ (σ : L2.St) (H : Hp) (G : Fp) (D : Ends), EnvOk G H σ ρ → sepL rs G G H → XOk c G H → DEnd P D G H → tSs c.X sts D σ H

/-! ### operations on values -/
def OpD (r : R2) (s1 s2 : Sl) (rs : List Mem) (K : Sl → List Mem → Prop) : Prop := ∀ (G : Fp) (H : Hp) (x y : V) (Q : VK), SlOk G H x s1 → SlOk G H y s2 → sepL rs G G H →
  (∀ v H' G' sl rs', Stp G G' H H' → Rs G' H H' v sl → sepL rs' G' G' H' → K sl rs' → Q v H') → r x y H Q
def CaD (r : List V → Hp → VK → Prop) (ss : List Sl) (rs : List Mem) (K : Sl → List Mem → Prop) : Prop := ∀ (G : Fp) (H : Hp) (vs : List V) (Q : VK), SlAll G H vs ss → sepL rs G G H →
  (∀ v H' G' sl rs', Stp G G' H H' → Rs G' H H' v sl → sepL rs' G' G' H' → K sl rs' → Q v H') → r vs H Q

section
variable {c : Ctx m₀ N₀ sc₀ lv₀ xp₀ fF₀ cm₀} {e a b : Expr} {es : List Expr} {ρ ρ' : List Sl} {rs : List Mem} {K : Sl → List Mem → Prop} {KB : Bool → List Mem → Prop} {KA : List Sl → List Mem → Prop} {P : Post} {x : Str} {pos pos' : Pos} {i : Nat} {s : Sl}

/-! ### names and constants -/
theorem dx_name (h : Slot N₀ ρ x i s) (hn : s ≠ .un) (k : K s rs) (hv : NmIn sc₀.names x := by first | exact nm_of (by with_reducible (repeat (first | exact KdIn.zero | apply KdIn.succ))) rfl | exact nm_vis (by first | exact Or.inl rfl | exact Or.inr (Or.inl rfl) | exact Or.inr (Or.inr rfl))) (hnn : (match s with | .n _ => False | _ => True) := by trivial) : DX c (.Name x pos) ρ rs K := by
  intro σ H G Q he hs hx hq
  obtain ⟨v, e, z⟩ := h.env hn he
  refine tE_of (pe_var (i := i) (by rw [c.hN]; exact h.name) (by rw [c.hsc]; exact c.vis hv) (c.nd1 hv.choose_spec.1) (c.nd2 hv.choose_spec.1)) ⟨v, e, ?_⟩
  exact hq v H G s rs (Stp.refl _ _) (Rs.of_ok z (fun ds q => by subst q; exact hnn)) hs k
theorem dx_const {t : TE} {v : V} {d : PyData} (h : PE c.X e (tC v)) (hv : ∀ G H, Is G H v d) (k : K (.d d) rs) : DX c e ρ rs K := by
  intro σ H G Q he hs hx hq
  exact tE_of h (hq v H G (.d d) rs (Stp.refl _ _) (hv G H) hs k)
theorem dx_int {n : Int} {j} (k : K (.d (.int n)) rs) : DX c (.Constant (.int n) j pos) ρ rs K := dx_const (t := tC (.int n)) pe_int (fun _ _ => .int n) k
theorem dx_bl {n : Bool} {j} (k : K (.d (.bool n)) rs) : DX c (.Constant (.bool n) j pos) ρ rs K := dx_const (t := tC (.bl n)) pe_bl (fun _ _ => .bl n) k
theorem dx_non {j} (k : K (.d .none) rs) : DX c (.Constant .none j pos) ρ rs K := dx_const (t := tC .non) pe_non (fun _ _ => .non) k
theorem dx_str {z : Str} {j} (k : K (.d (.str z)) rs) : DX c (.Constant (.str z) j pos) ρ rs K := dx_const (t := tC (.str z)) pe_str (fun _ _ => .str z) k
/-- a name of the module that has an int, a text -/
theorem dx_gint {n : Int} {t : Tok} (hm : m₀.mg x = some (.int n t)) (k : K (.d (.int n)) rs) (hg : KdIn sc₀.names x .globalImplicit := by first | ((with_reducible (repeat (first | exact KdIn.zero | apply KdIn.succ))); (first | (all_goals fail) | fail)) | exact kd_of rfl) : DX c (.Name x pos) ρ rs K :=
  dx_const (t := tC (.int n)) (pe_glob (v := .int n) (show c.X.env.kindOf x = _ by unfold Env.kindOf; rw [c.hsc]; exact c.look hg) (by rw [c.hm.mg]; exact hm) ⟨t, rfl⟩ (c.nd1 hg)) (fun _ _ => .int n) k
theorem dx_gstr {n : Str} {t : Tok} (hm : m₀.mg x = some (.str n t)) (k : K (.d (.str n)) rs) (hg : KdIn sc₀.names x .globalImplicit := by first | ((with_reducible (repeat (first | exact KdIn.zero | apply KdIn.succ))); (first | (all_goals fail) | fail)) | exact kd_of rfl) : DX c (.Name x pos) ρ rs K :=
  dx_const (t := tC (.str n)) (pe_glob (v := .str n) (show c.X.env.kindOf x = _ by unfold Env.kindOf; rw [c.hsc]; exact c.look hg) (by rw [c.hm.mg]; exact hm) ⟨t, rfl⟩ (c.nd1 hg)) (fun _ _ => .str n) k

/-! ### operators -/
theorem dx_bin {op : Operator} {r : R2} (ho : OpR c.X (binaryOp op) r) (h : DX c a ρ rs fun s1 r1 => DX c b ρ r1 fun s2 r2 => OpD r s1 s2 r2 K) : DX c (.BinOp a op b pos) ρ rs K := by
  intro σ H G Q he hs hx hq
  refine tE_of (pe_op ho pe_t pe_t) ?_
  refine h σ H G _ he hs hx fun v1 H1 G1 s1 r1 t1 h1 o1 k1 => ?_
  refine k1 σ H1 G1 _ (he.stp t1) o1 (hx.stp t1) fun v2 H2 G2 s2 r2 t2 h2 o2 k2 => ?_
  exact k2 G2 H2 v1 v2 Q (h1.ok.stp t2) h2.ok o2 fun v H' G' sl rs' t3 h3 o3 k3 => hq v H' G' sl rs' ((t1.trans t2).trans t3) (h3.back (t1.trans t2)) o3 k3
theorem dx_cmp {op : CmpOp} {r : R2} (ho : OpR c.X (compareOp op) r) (hm : behindInMarks op b = false) (h : DX c a ρ rs fun s1 r1 => DX c b ρ r1 fun s2 r2 => OpD r s1 s2 r2 K) : DX c (.Compare a [op] [b] pos) ρ rs K := by
  intro σ H G Q he hs hx hq
  refine tE_of (pe_cmpR ho pe_t pe_t hm) ?_
  refine h σ H G _ he hs hx fun v1 H1 G1 s1 r1 t1 h1 o1 k1 => ?_
  refine k1 σ H1 G1 _ (he.stp t1) o1 (hx.stp t1) fun v2 H2 G2 s2 r2 t2 h2 o2 k2 => ?_
  exact k2 G2 H2 v1 v2 Q (h1.ok.stp t2) h2.ok o2 fun v H' G' sl rs' t3 h3 o3 k3 => hq v H' G' sl rs' ((t1.trans t2).trans t3) (h3.back (t1.trans t2)) o3 k3
/-- the wish of a truth -/
def KT (KB : Bool → List Mem → Prop) : Sl → List Mem → Prop := fun s rs => ∃ b, s = .d (.bool b) ∧ KB b rs
theorem kt {v : Bool} (h : KB v rs) : KT KB (.d (.bool v)) rs := ⟨v, rfl, h⟩
theorem rs_bool {G : Fp} {H0 H : Hp} {v : V} {b : Bool} (h : Rs G H0 H v (.d (.bool b))) : v = .bl b := by
  have h : Is G H v (.bool b) := h
  cases h; rfl
theorem dt_cmp {op : CmpOp} {r : R2} (ho : OpR c.X (compareOp op) r) (hm : behindInMarks op b = false) (h : DX c a ρ rs fun s1 r1 => DX c b ρ r1 fun s2 r2 => OpD r s1 s2 r2 (KT KB)) : DT c (.Compare a [op] [b] pos) ρ rs KB := by
  intro σ H G Q he hs hx hq
  refine tT_of (pt_cmpR ho pe_t pe_t hm) ?_
  refine h σ H G _ he hs hx fun v1 H1 G1 s1 r1 t1 h1 o1 k1 => ?_
  refine k1 σ H1 G1 _ (he.stp t1) o1 (hx.stp t1) fun v2 H2 G2 s2 r2 t2 h2 o2 k2 => ?_
  refine k2 G2 H2 v1 v2 _ (h1.ok.stp t2) h2.ok o2 fun v H' G' sl rs' t3 h3 o3 k3 => ?_
  obtain ⟨bb, rfl, k3⟩ := k3
  exact ⟨bb, rs_bool h3, hq bb H' G' rs' ((t1.trans t2).trans t3) o3 k3⟩
/-- a <= b < c -/
theorem dx_chain {op op' : CmpOp} {r r' : R2} {d : Expr} (ho : OpR c.X (compareOp op) r) (ho' : OpR c.X (compareOp op') r')
    (h : DX c a ρ rs fun s1 r1 => DX c b ρ r1 fun s2 r2 => OpD r s1 s2 r2 (KT fun k r3 => if k = true then DX c d ρ r3 fun s3 r4 => OpD r' s2.plain s3 r4 K else K (.d (.bool false)) r3))
    (hm : lastMarks [op, op'] [b, d] = false := by rfl) : DX c (.Compare a [op, op'] [b, d] pos) ρ rs K := by
  intro σ H G Q he hs hx hq
  refine tE_of (pe_chain ho ho' pe_t pe_t pe_t (hm := hm)) ?_
  refine h σ H G _ he hs hx fun v1 H1 G1 s1 r1 t1 h1 o1 k1 => ?_
  refine k1 σ H1 G1 _ (he.stp t1) o1 (hx.stp t1) fun v2 H2 G2 s2 r2 t2 h2 o2 k2 => ?_
  refine k2 G2 H2 v1 v2 _ (h1.ok.stp t2) h2.ok o2 fun v H' G' sl rs' t3 h3 o3 k3 => ?_
  obtain ⟨bb, rfl, k3⟩ := k3
  refine ⟨bb, rs_bool h3, ?_⟩
  have t123 := (t1.trans t2).trans t3
  cases bb with
  | true =>
    refine k3 σ H' G' _ (he.stp t123) o3 (hx.stp t123) fun v4 H4 G4 s4 r4 t4 h4 o4 k4 => ?_
    refine k4 G4 H4 v2 v4 Q ((h2.ok.plain.stp t3).stp t4) h4.ok o4 fun v H' G' sl rs' t5 h5 o5 k5 => hq v H' G' sl rs' ((t123.trans t4).trans t5) (h5.back (t123.trans t4)) o5 k5
  | false => exact hq _ H' G' (.d (.bool false)) rs' t123 (.bl false) o3 k3
theorem dt_chain {op op' : CmpOp} {r r' : R2} {d : Expr} (ho : OpR c.X (compareOp op) r) (ho' : OpR c.X (compareOp op') r')
    (h : DX c a ρ rs fun s1 r1 => DX c b ρ r1 fun s2 r2 => OpD r s1 s2 r2 (KT fun k r3 => if k = true then DX c d ρ r3 fun s3 r4 => OpD r' s2.plain s3 r4 (KT KB) else KB false r3))
    (hm : lastMarks [op, op'] [b, d] = false := by rfl) : DT c (.Compare a [op, op'] [b, d] pos) ρ rs KB := by
  intro σ H G Q he hs hx hq
  refine tT_of (pt_chain ho ho' pe_t pe_t pe_t (hm := hm)) ?_
  refine h σ H G _ he hs hx fun v1 H1 G1 s1 r1 t1 h1 o1 k1 => ?_
  refine k1 σ H1 G1 _ (he.stp t1) o1 (hx.stp t1) fun v2 H2 G2 s2 r2 t2 h2 o2 k2 => ?_
  refine k2 G2 H2 v1 v2 _ (h1.ok.stp t2) h2.ok o2 fun v H' G' sl rs' t3 h3 o3 k3 => ?_
  obtain ⟨bb, rfl, k3⟩ := k3
  refine ⟨bb, rs_bool h3, ?_⟩
  have t123 := (t1.trans t2).trans t3
  cases bb with
  | true =>
    refine k3 σ H' G' _ (he.stp t123) o3 (hx.stp t123) fun v4 H4 G4 s4 r4 t4 h4 o4 k4 => ?_
    refine k4 G4 H4 v2 v4 _ ((h2.ok.plain.stp t3).stp t4) h4.ok o4 fun v H' G' sl rs' t5 h5 o5 k5 => ?_
    obtain ⟨b2, rfl, k5⟩ := k5
    exact ⟨b2, rs_bool h5, hq b2 H' G' rs' ((t123.trans t4).trans t5) o5 k5⟩
  | false => exact ⟨false, rfl, hq false H' G' rs' t123 o3 k3⟩

/-! ### tests -/
/-- an expression that gives a truth -/
theorem dt_val (h : DX c e ρ rs (KT KB)) (he : ∀ whole, isTrue e c.X.env whole = (do let v ← whole; standAt e.pos; holding [v] (truthy v)) := by intro _; rfl) : DT c e ρ rs KB := by
  intro σ H G Q hE hs hx hq
  refine tT_of (pt_val pe_t he) ?_
  refine h σ H G _ hE hs hx fun v1 H1 G1 s1 r1 t1 h1 o1 k1 => ?_
  obtain ⟨b, rfl, k1⟩ := k1
  exact ⟨b, rs_bool h1, hq b H1 G1 r1 t1 o1 k1⟩
/-- truth of any value -/
def TrD (s : Sl) (rs : List Mem) (KB : Bool → List Mem → Prop) : Prop := ∀ (G : Fp) (H : Hp) (x : V), SlOk G H x s → sepL rs G G H → ∃ b, TruV KC.K x H b ∧ KB b rs
theorem dt_tru (h : DX c e ρ rs fun s r => TrD s r KB) (he : ∀ whole, isTrue e c.X.env whole = (do let v ← whole; standAt e.pos; holding [v] (truthy v)) := by intro _; rfl) : DT c e ρ rs KB := by
  intro σ H G Q hE hs hx hq
  refine tT_of (pt_truth pe_t he) ?_
  refine h σ H G _ hE hs hx fun v1 H1 G1 s1 r1 t1 h1 o1 k1 => ?_
  obtain ⟨b, hb, kb⟩ := k1 G1 H1 v1 h1.ok o1
  exact ⟨b, c.ck ▸ hb, hq b H1 G1 r1 t1 o1 kb⟩
theorem tr_bool {b : Bool} (h : KB b rs) : TrD (.d (.bool b)) rs KB := fun G H x hx _ => by
  have hx : Is G H x (.bool b) := hx
  cases hx; exact ⟨b, rfl, h⟩
theorem tr_none (h : KB false rs) : TrD (.d .none) rs KB := fun G H x hx _ => by
  have hx : Is G H x .none := hx
  cases hx; exact ⟨false, rfl, h⟩
theorem tr_int {n : Int} (h : KB (decide (n ≠ 0)) rs) : TrD (.d (.int n)) rs KB := fun G H x hx _ => by
  have hx : Is G H x (.int n) := hx
  cases hx; refine ⟨_, ?_, h⟩; show _ = (n != 0); by_cases z : n = 0 <;> simp [z, bne, BEq.beq]
theorem isEmpty_is {G : Fp} {H : Hp} {vs : List V} {ds : List PyData} (h : IsAll G H vs ds) : (!vs.isEmpty) = !ds.isEmpty := by
  cases h <;> rfl
theorem tr_list {ds : List PyData} (h : KB (!ds.isEmpty) rs) : TrD (.d (.list ds)) rs KB := fun G H x hx _ => by
  have hx : Is G H x (.list ds) := hx
  cases hx with
  | lst r t => exact ⟨_, .inl ⟨_, r.sq, (isEmpty_is t).symm⟩, h⟩
theorem tr_tuple {ds : List PyData} (h : KB (!ds.isEmpty) rs) : TrD (.d (.tuple ds)) rs KB := fun G H x hx _ => by
  have hx : Is G H x (.tuple ds) := hx
  cases hx with
  | tup r n t => exact ⟨_, .inr (.inl ⟨_, .inl r, (isEmpty_is t).symm⟩), h⟩
theorem dt_not (h : DT c e ρ rs fun k r => KB (!k) r) : DT c (.UnaryOp .Not e pos) ρ rs KB := by
  intro σ H G Q hE hs hx hq
  refine tT_of (pt_not pt_t) ?_
  exact h σ H G _ hE hs hx fun k H1 G1 r1 t1 o1 k1 => hq _ H1 G1 r1 t1 o1 k1
theorem dw_and1 (h : DT c a ρ rs KB) : DW c (.BoolOp .And [a] pos) ρ rs KB := fun σ H G Q hE hs hx hq => tW_of (pw_and1 pt_t) (h σ H G _ hE hs hx hq)
theorem dw_or1 (h : DT c a ρ rs KB) : DW c (.BoolOp .Or [a] pos) ρ rs KB := fun σ H G Q hE hs hx hq => tW_of (pw_or1 pt_t) (h σ H G _ hE hs hx hq)
theorem dw_and (h : DT c a ρ rs fun k r => if k = true then DW c (.BoolOp .And (b :: es) pos) ρ r KB else KB false r) : DW c (.BoolOp .And (a :: b :: es) pos) ρ rs KB := by
  intro σ H G Q hE hs hx hq
  refine tW_of (pw_and pt_t pw_t) ?_
  refine h σ H G _ hE hs hx fun k H1 G1 r1 t1 o1 k1 => ?_
  cases k with
  | true => exact k1 σ H1 G1 Q (hE.stp t1) o1 (hx.stp t1) fun k H2 G2 r2 t2 => hq k H2 G2 r2 (t1.trans t2)
  | false => exact hq false H1 G1 r1 t1 o1 k1
theorem dw_or (h : DT c a ρ rs fun k r => if k = true then KB true r else DW c (.BoolOp .Or (b :: es) pos) ρ r KB) : DW c (.BoolOp .Or (a :: b :: es) pos) ρ rs KB := by
  intro σ H G Q hE hs hx hq
  refine tW_of (pw_or pt_t pw_t) ?_
  refine h σ H G _ hE hs hx fun k H1 G1 r1 t1 o1 k1 => ?_
  cases k with
  | true => exact hq true H1 G1 r1 t1 o1 k1
  | false => exact k1 σ H1 G1 Q (hE.stp t1) o1 (hx.stp t1) fun k H2 G2 r2 t2 => hq k H2 G2 r2 (t1.trans t2)
theorem dt_bool {op : BoolOp} (h : DW c (.BoolOp op es pos) ρ rs KB) : DT c (.BoolOp op es pos) ρ rs KB := fun σ H G Q hE hs hx hq => tT_of (L2.PW.pt pw_t) (h σ H G Q hE hs hx hq)
/-- as values -/
theorem dx_one {op : BoolOp} (h : DX c a ρ rs K) : DX c (.BoolOp op [a] pos) ρ rs K := fun σ H G Q hE hs hx hq => tE_of (pe_one pe_t) (h σ H G Q hE hs hx hq)
theorem dx_and (h : DX c a ρ rs (KT fun k r => if k = true then DX c (.BoolOp .And (b :: es) pos) ρ r K else K (.d (.bool false)) r)) : DX c (.BoolOp .And (a :: b :: es) pos) ρ rs K := by
  intro σ H G Q hE hs hx hq
  refine tE_of (pe_and pe_t pe_t) ?_
  refine h σ H G _ hE hs hx fun v H1 G1 s1 r1 t1 h1 o1 k1 => ?_
  obtain ⟨k, rfl, k1⟩ := k1
  refine ⟨k, rs_bool h1, ?_⟩
  cases k with
  | true => exact k1 σ H1 G1 Q (hE.stp t1) o1 (hx.stp t1) fun v H2 G2 s2 r2 t2 h2 => hq v H2 G2 s2 r2 (t1.trans t2) (h2.back t1)
  | false => exact hq _ H1 G1 (.d (.bool false)) r1 t1 (.bl false) o1 k1
theorem dx_or (h : DX c a ρ rs (KT fun k r => if k = true then K (.d (.bool true)) r else DX c (.BoolOp .Or (b :: es) pos) ρ r K)) : DX c (.BoolOp .Or (a :: b :: es) pos) ρ rs K := by
  intro σ H G Q hE hs hx hq
  refine tE_of (pe_or pe_t pe_t) ?_
  refine h σ H G _ hE hs hx fun v H1 G1 s1 r1 t1 h1 o1 k1 => ?_
  obtain ⟨k, rfl, k1⟩ := k1
  refine ⟨k, rs_bool h1, ?_⟩
  cases k with
  | true => exact hq _ H1 G1 (.d (.bool true)) r1 t1 (.bl true) o1 k1
  | false => exact k1 σ H1 G1 Q (hE.stp t1) o1 (hx.stp t1) fun v H2 G2 s2 r2 t2 h2 => hq v H2 G2 s2 r2 (t1.trans t2) (h2.back t1)
theorem dx_not (h : DX c a ρ rs (KT fun k r => K (.d (.bool (!k))) r)) : DX c (.UnaryOp .Not a pos) ρ rs K := by
  intro σ H G Q hE hs hx hq
  refine tE_of (pe_not pe_t) ?_
  refine h σ H G _ hE hs hx fun v H1 G1 s1 r1 t1 h1 o1 k1 => ?_
  obtain ⟨k, rfl, k1⟩ := k1
  exact ⟨k, rs_bool h1, hq _ H1 G1 (.d (.bool (!k))) r1 t1 (.bl _) o1 k1⟩
theorem dx_neg (h : DX c a ρ rs fun s r => ∃ n, s = .d (.int n) ∧ K (.d (.int (-n))) r) : DX c (.UnaryOp .USub a pos) ρ rs K := by
  intro σ H G Q hE hs hx hq
  refine tE_of (pe_un un_neg pe_t) ?_
  refine h σ H G _ hE hs hx fun v H1 G1 s1 r1 t1 h1 o1 k1 => ?_
  obtain ⟨n, rfl, k1⟩ := k1
  have h1 : Is G1 H1 v (.int n) := h1
  cases h1
  exact ⟨n, rfl, hq _ H1 G1 (.d (.int (-n))) r1 t1 (.int _) o1 k1⟩
theorem dx_ifExp {t : Expr} (h : DT c t ρ rs fun k r => if k = true then DX c a ρ r K else DX c b ρ r K) : DX c (.IfExp t a b pos) ρ rs K := by
  intro σ H G Q hE hs hx hq
  refine tE_of (pe_ifExp pt_t pe_t pe_t) ?_
  refine h σ H G _ hE hs hx fun k H1 G1 r1 t1 o1 k1 => ?_
  cases k with
  | true => exact k1 σ H1 G1 Q (hE.stp t1) o1 (hx.stp t1) fun v H2 G2 s2 r2 t2 h2 => hq v H2 G2 s2 r2 (t1.trans t2) (h2.back t1)
  | false => exact k1 σ H1 G1 Q (hE.stp t1) o1 (hx.stp t1) fun v H2 G2 s2 r2 t2 h2 => hq v H2 G2 s2 r2 (t1.trans t2) (h2.back t1)

/-! ### argument lists, displays -/
theorem da_nil (k : KA [] rs) : DA c [] ρ rs KA := fun σ H G Q hE hs hx hq => tA_of pa_nil (hq [] H G [] rs (Stp.refl _ _) trivial hs k)
theorem da_cons (h : DX c e ρ rs fun s r1 => DA c es ρ r1 fun ss r2 => KA (s.plain :: ss) r2) (hst : starEach (e :: es) c.X.env = (false, eval e c.X.env) :: starEach es c.X.env := by rfl) : DA c (e :: es) ρ rs KA := by
  intro σ H G Q hE hs hx hq
  refine tA_of (pa_cons pe_t pa_t hst) ?_
  refine h σ H G _ hE hs hx fun v H1 G1 s1 r1 t1 h1 o1 k1 => ?_
  exact k1 σ H1 G1 _ (hE.stp t1) o1 (hx.stp t1) fun vs H2 G2 ss r2 t2 h2 o2 k2 => hq (v :: vs) H2 G2 (s1.plain :: ss) r2 (t1.trans t2) ⟨h1.ok.plain.stp t2, h2⟩ o2 k2
/-- all of the slots are data -/
def Datas : List Sl → List PyData → Prop
  | [], [] => True
  | s :: ss, d :: ds => s = .d d ∧ Datas ss ds
  | _, _ => False
theorem Datas.is {G : Fp} {H : Hp} : ∀ {ss : List Sl} {ds : List PyData} {vs : List V}, Datas ss ds → SlAll G H vs ss → IsAll G H vs ds
  | [], [], [], _, _ => .nil
  | s :: ss, d :: ds, v :: vs, ⟨e, q⟩, ⟨h, t⟩ => by subst e; exact .cons h (q.is t)
  | [], [], _ :: _, _, h => h.elim
  | _ :: _, _ :: _, [], _, h => h.elim
  | [], _ :: _, _, h, _ => h.elim
  | _ :: _, [], _, h, _ => h.elim
theorem Datas.length : ∀ {ss : List Sl} {ds : List PyData}, Datas ss ds → ss.length = ds.length
  | [], [], _ => rfl
  | _ :: _, _ :: _, ⟨_, q⟩ => congrArg (· + 1) q.length
  | [], _ :: _, h => h.elim
  | _ :: _, [], h => h.elim
theorem Datas.of : ∀ (ds : List PyData), Datas (ds.map .d) ds
  | [] => trivial
  | _ :: ds => ⟨rfl, Datas.of ds⟩
theorem sepL.fresh {G : Fp} {H : Hp} {p : Addr} (hs : sepL rs G G H) (hp : H p = none) : ¬ G p := fun g => by
  obtain ⟨o, q⟩ := hs.dom p g
  rw [hp] at q; cases q
theorem same_new {H : Hp} {p : Addr} {o : HO} (h : H p = none) : Same H (upd H p o) := fun a u e => by rw [upd_ne (ne_of_none e h)]; exact e
theorem stp_new {G : Fp} {H : Hp} {p : Addr} {o : HO} (h : H p = none) : Stp G G H (upd H p o) := Stp.same (same_new h)
theorem dx_tup {x1} (h : DA c es ρ rs fun ss r => ∃ ds, Datas ss ds ∧ ss.length ≤ 100000 ∧ K (.d (.tuple ds)) r) : DX c (.Tuple es x1 pos) ρ rs K := by
  intro σ H G Q hE hs hx hq
  refine tE_of (pe_tup pa_t) ?_
  refine h σ H G _ hE hs hx fun vs H1 G1 ss r1 t1 h1 o1 k1 => ?_
  obtain ⟨ds, hd, hl, k1⟩ := k1
  refine ⟨Nat.le_trans (Nat.le_trans (Nat.le_of_eq h1.length) hl) (by decide), fun p hp => ?_⟩
  have t2 : Stp G1 G1 H1 (upd H1 p (.tup vs)) := stp_new hp
  exact hq _ _ G1 (.d (.tuple ds)) r1 (t1.trans t2) (.tup (.inl upd_same) (o1.fresh hp) ((hd.is h1).stp t2)) (sepL.step t2.sub o1 fun a o q _ => same_new hp a o q) k1
theorem dx_lst (h : DA c es ρ rs fun ss r => ∃ ds, Datas ss ds ∧ ss.length ≤ 100000 ∧ K (.n ds) r) : DX c (.List es pos) ρ rs K := by
  intro σ H G Q hE hs hx hq
  refine tE_of (pe_lst pa_t) ?_
  refine h σ H G _ hE hs hx fun vs H1 G1 ss r1 t1 h1 o1 k1 => ?_
  obtain ⟨ds, hd, hl, k1⟩ := k1
  refine ⟨Nat.le_trans (Nat.le_trans (Nat.le_of_eq h1.length) hl) (by decide), fun p hp => ?_⟩
  have t2 : Stp G1 G1 H1 (upd H1 p (.lst vs)) := stp_new hp
  exact hq _ _ G1 (.n ds) r1 (t1.trans t2) ⟨p, vs, rfl, t1.fresh hp, o1.fresh hp, upd_same, (hd.is h1).stp t2⟩ (sepL.step t2.sub o1 fun a o q _ => same_new hp a o q) k1

/-! ### statements -/
variable {st : Stmt} {sts : List Stmt}
theorem dss_nil (k : P.nx ρ rs) : DSs c [] ρ rs P := fun σ H G D hE hs hx hd => tSs_of pss_nil (hd.nx σ H G ρ rs (Stp.refl _ _) hE hs k)
theorem dss_cons (h : DS c st ρ rs { P with nx := fun ρ' r' => DSs c sts ρ' r' P }) : DSs c (st :: sts) ρ rs P := by
  intro σ H G D hE hs hx hd
  refine tSs_of (pss_cons ps_t pss_t) ?_
  exact h σ H G { D with nx := tSs c.X sts D } hE hs hx ⟨fun σ' H' G' ρ' r' t e o k => k σ' H' G' D e o (hx.stp t) (hd.stp t), hd.rt, hd.bk, hd.ct⟩
theorem dss_one (h : DS c st ρ rs P) : DSs c [st] ρ rs P := fun σ H G D hE hs hx hd => tSs_of (pss_one ps_t) (h σ H G D hE hs hx hd)
theorem ds_expr (h : DX c e ρ rs fun _ r => P.nx ρ r) (hw : swapsWith e none pos.line c.X.env = pure false := by rfl) : DS c (.Expr e pos) ρ rs P := by
  intro σ H G D hE hs hx hd
  refine tS_of (ps_expr pe_t hw) ?_
  exact h σ H G _ hE hs hx fun v H1 G1 s1 r1 t1 h1 o1 k1 => hd.nx σ H1 G1 ρ r1 t1 (hE.stp t1) o1 k1
theorem ds_ret (h : DX c e ρ rs P.rt) : DS c (.Return (some e) pos) ρ rs P := fun σ H G D hE hs hx hd => tS_of (ps_ret pe_t) (h σ H G _ hE hs hx hd.rt)
theorem ds_retN (h : P.rt (.d .none) rs) : DS c (.Return none pos) ρ rs P := fun σ H G D hE hs hx hd => tS_of ps_retN (hd.rt .non H G (.d .none) rs (Stp.refl _ _) .non hs h)
theorem ds_pass (h : P.nx ρ rs) : DS c (.Pass pos) ρ rs P := fun σ H G D hE hs hx hd => tS_of ps_pass (hd.nx σ H G ρ rs (Stp.refl _ _) hE hs h)
theorem ds_break (h : P.bk ρ rs) : DS c (.Break pos) ρ rs P := fun σ H G D hE hs hx hd => tS_of ps_break (hd.bk σ H G ρ rs (Stp.refl _ _) hE hs h)
theorem ds_continue (h : P.ct ρ rs) : DS c (.Continue pos) ρ rs P := fun σ H G D hE hs hx hd => tS_of ps_continue (hd.ct σ H G ρ rs (Stp.refl _ _) hE hs h)
theorem ds_if {A B : List Stmt} (h : DT c e ρ rs fun k r => if k = true then DSs c A ρ r P else DSs c B ρ r P) : DS c (.If e A B pos) ρ rs P := by
  intro σ H G D hE hs hx hd
  refine tS_of (ps_if pt_t pss_t pss_t) ?_
  refine h σ H G _ hE hs hx fun k H1 G1 r1 t1 o1 k1 => ?_
  cases k with
  | true => exact k1 σ H1 G1 D (hE.stp t1) o1 (hx.stp t1) (hd.stp t1)
  | false => exact k1 σ H1 G1 D (hE.stp t1) o1 (hx.stp t1) (hd.stp t1)
/-- a name that is stored -/
def LocF (c : Ctx m₀ N₀ sc₀ lv₀ xp₀ fF₀ cm₀) (x : Str) : Prop := sc₀.names.lookup x = some .local ∨ (sc₀.names.lookup x = some .cell ∧ fF₀ = true)
def locK (f : Bool) : NameKind → Bool
  | .local => true | .cell => f
  | _ => false
theorem locF_of {k : NameKind} (h : KdIn sc₀.names x k) (hk : locK fF₀ k = true) : LocF c x := by
  have q := c.look h
  cases k with
  | «local» => exact .inl q
  | cell => exact .inr ⟨q, hk⟩
  | _ => cases hk
theorem LocF.loc (hx : LocF c x) : Loc c.X.env.scope x := by
  rw [c.hsc]
  exact hx.imp id And.left
theorem c_hf (hx : LocF c x) : c.X.fn x = true ∨ c.X.env.scope.names.lookup x = some .local := by
  rcases hx with z | z
  · exact .inr (by rw [c.hsc]; exact z)
  · exact .inl (c.fn z.2 x)
/-- x = e -/
theorem ds_set (h : DX c e ρ rs fun s r => ∃ i ρ', SetS N₀ ρ x i s.plain ρ' ∧ P.nx ρ' r) (hl : LocF c x := by first | exact locF_of (by with_reducible (repeat (first | exact KdIn.zero | apply KdIn.succ))) rfl | exact Or.inl rfl | exact Or.inr ⟨rfl, rfl⟩) (hw : swapsWith e (some (.Name x pos')) pos.line c.X.env = pure false := by rfl) : DS c (.Assign [.Name x pos'] e pos) ρ rs P := by
  intro σ H G D hE hs hx hd
  have key : ∀ (i : Nat), c.X.N[i]? = some x → (tE c.X e σ H fun v H1 => D.nx (σ.set i (some v)) H1) → tS c.X (.Assign [.Name x pos'] e pos) D σ H := fun i hi q =>
    tS_of (ps_set (by rw [c.hN]; exact c.nd) hi hl.loc pe_t hw (c_hf hl)) q
  have hix : ∃ i : Nat, c.X.N[i]? = some x ∨ ∀ v H' G' sl rs', Stp G G' H H' → Rs G' H H' v sl → sepL rs' G' G' H' → (∃ i ρ', SetS N₀ ρ x i sl.plain ρ' ∧ P.nx ρ' rs') → False := by
    by_cases q : ∃ i : Nat, c.X.N[i]? = some x
    · obtain ⟨i, q⟩ := q
      exact ⟨i, .inl q⟩
    · exact ⟨0, .inr fun v H' G' sl rs' _ _ _ ⟨i, ρ', z, _⟩ => q ⟨i, by rw [c.hN]; exact z.name⟩⟩
  obtain ⟨i, hi | hno⟩ := hix
  · refine key i hi ?_
    refine h σ H G _ hE hs hx fun v H1 G1 s1 r1 t1 h1 o1 k1 => ?_
    obtain ⟨j, ρ', z, k1⟩ := k1
    have hj : c.X.N[j]? = some x := by rw [c.hN]; exact z.name
    have nd : c.X.N.Nodup := by rw [c.hN]; exact c.nd
    have ej : j = i := nd_ix nd hj hi
    subst ej
    exact hd.nx _ H1 G1 ρ' r1 t1 (z.env h1.ok.plain (hE.stp t1)) o1 k1
  · -- the name has no slot: the value's wish can never be met
    intro pins s I
    have : tE c.X e σ H fun v H1 => False := h σ H G _ hE hs hx fun v H1 G1 s1 r1 t1 h1 o1 k1 => hno v H1 G1 s1 r1 t1 h1 o1 k1
    have q : tS c.X (.Assign [.Name x pos'] e pos) D σ H := tS_of (ps_asg (g := fun _ _ _ _ => False) pe_t ⟨fun pins s σ H v u Q I r z => z.elim⟩ hw rfl) this
    exact q pins s I
end
end
end PW

set_option maxHeartbeats 1000000
/-! Operators, subscripts, slices, built-ins. -/
namespace PW
open PySem L2
variable [KC]
variable {m₀ : Mo} {N₀ : List Str} {sc₀ : Scope} {lv₀ : Nat} {xp₀ : Addr → List Sl → List Mem → Prop} {fF₀ cm₀ : Bool}

def Sl.asList : Sl → Option (List PyData)
  | .d (.list ds) => some ds
  | .n ds => some ds
  | _ => none
section
variable {G G' : Fp} {H H' : Hp} {v : V} {s : Sl} {ds : List PyData}
theorem SlOk.list (h : SlOk G H v s) (e : s.asList = some ds) : ∃ p vs, v = .ref p ∧ LsAt G H p vs ∧ IsAll G H vs ds := by
  have h : Is G H v (.list ds) := by
    cases s with
    | un => cases e
    | r u => cases e
    | n xs => cases e; exact h
    | d x =>
      cases x with
      | list xs => cases e; exact h
      | _ => cases e
  cases h with
  | lst r t => exact ⟨_, _, rfl, r, t⟩
theorem SlOk.int {i : Int} (h : SlOk G H v (.d (.int i))) : v = .int i := by
  have h : Is G H v (.int i) := h
  cases h; rfl
theorem SlOk.str {i : Str} (h : SlOk G H v (.d (.str i))) : v = .str i := by
  have h : Is G H v (.str i) := h
  cases h; rfl
theorem SlOk.bl {i : Bool} (h : SlOk G H v (.d (.bool i))) : v = .bl i := by
  have h : Is G H v (.bool i) := h
  cases h; rfl
theorem SlOk.non (h : SlOk G H v (.d .none)) : v = .non := by
  have h : Is G H v .none := h
  cases h; rfl
theorem SlOk.tuple (h : SlOk G H v (.d (.tuple ds))) : ∃ p vs, v = .ref p ∧ Rd H p (.tup vs) ∧ ¬ G p ∧ IsAll G H vs ds := by
  have h : Is G H v (.tuple ds) := h
  cases h with
  | tup r n t => exact ⟨_, _, rfl, r, n, t⟩
end

/-! ### one or the other -/
def rOr (r r' : R2) : R2 := fun x y H Q => r x y H Q ∨ r' x y H Q
theorem op_or {X : Cx} {f : Value → Value → Sem Value} {r r' : R2} (h : OpR X f r) (h' : OpR X f r') : OpR X f (rOr r r') := by
  intro pins s σ H x y v u Q I rx ry q
  rcases q with q | q
  · exact h pins s σ H x y v u Q I rx ry q
  · exact h' pins s σ H x y v u Q I rx ry q
def cOr (r r' : List V → Hp → VK → Prop) : List V → Hp → VK → Prop := fun vs H Q => r vs H Q ∨ r' vs H Q
theorem call_or {X : Cx} {f : Value} {r r' : List V → Hp → VK → Prop} (h : CallR X f r) (h' : CallR X f r') : CallR X f (cOr r r') := by
  intro pins s σ H xs us Q I rx q
  rcases q with q | q
  · exact h pins s σ H xs us Q I rx q
  · exact h' pins s σ H xs us Q I rx q
section
variable {rs : List Mem} {K : Sl → List Mem → Prop} {s1 s2 : Sl} {r r' : R2}
theorem od_l (h : OpD r s1 s2 rs K) : OpD (rOr r r') s1 s2 rs K := fun G H x y Q a b c d => .inl (h G H x y Q a b c d)
theorem od_r (h : OpD r' s1 s2 rs K) : OpD (rOr r r') s1 s2 rs K := fun G H x y Q a b c d => .inr (h G H x y Q a b c d)
variable {q q' : List V → Hp → VK → Prop} {ss : List Sl}
theorem cd_l (h : CaD q ss rs K) : CaD (cOr q q') ss rs K := fun G H vs Q a b c => .inl (h G H vs Q a b c)
theorem cd_r (h : CaD q' ss rs K) : CaD (cOr q q') ss rs K := fun G H vs Q a b c => .inr (h G H vs Q a b c)
/-- a result that is new data, the heap grown -/
theorem give {G : Fp} {H H' : Hp} {Q : VK} (hs : sepL rs G G H) (hq : ∀ v H' G' sl rs', Stp G G' H H' → Rs G' H H' v sl → sepL rs' G' G' H' → K sl rs' → Q v H') {v : V} {sl : Sl} (hh : Same H H') (hr : Rs G H H' v sl) (k : K sl rs) : Q v H' :=
  hq v H' G sl rs (Stp.same hh) hr (sepL.step (Stp.same hh).sub hs fun a o q _ => hh a o q) k
theorem give0 {G : Fp} {H : Hp} {Q : VK} (hs : sepL rs G G H) (hq : ∀ v H' G' sl rs', Stp G G' H H' → Rs G' H H' v sl → sepL rs' G' G' H' → K sl rs' → Q v H') {v : V} {sl : Sl} (hr : Rs G H H v sl) (k : K sl rs) : Q v H :=
  hq v H G sl rs (Stp.refl _ _) hr hs k
/-! ### arithmetic -/
theorem od_I0 {g : Int → Int → V} {gd : Int → Int → PyData} {i j : Int} (hg : ∀ i j G H, Is G H (g i j) (gd i j)) (k : K (.d (gd i j)) rs) : OpD (rI0 g) (.d (.int i)) (.d (.int j)) rs K := fun G H x y Q hx hy hs hq =>
  ⟨i, j, hx.int, hy.int, give0 hs hq (sl := .d (gd i j)) (hg i j G H) k⟩
theorem od_I {C : Int → Int → Prop} {g : Int → Int → V} {gd : Int → Int → PyData} {i j : Int} (hg : ∀ i j G H, Is G H (g i j) (gd i j)) (hc : C i j) (k : K (.d (gd i j)) rs) : OpD (rI C g) (.d (.int i)) (.d (.int j)) rs K := fun G H x y Q hx hy hs hq =>
  ⟨i, j, hx.int, hy.int, hc, give0 hs hq (sl := .d (gd i j)) (hg i j G H) k⟩
end
/-- list + list; read ones too -/
def rCatR (K : PySem.W.Frag) : R2 := fun x y H Q => ∃ l b xs zs, x = .ref l ∧ y = .ref b ∧ SqL K H l xs ∧ SqL K H b zs ∧ xs.length + zs.length ≤ sizeLine ∧ ∀ p, H p = none → Q (.ref p) (upd H p (.lst (xs ++ zs)))
theorem op_catR {X : Cx} : OpR X (binaryOp .Add) (rCatR X.K) := by
  intro pins s σ H x y v u Q I rx ry h
  obtain ⟨l, b, xs, zs, rfl, rfl, hH, hB, hz, q⟩ := h
  cases rx
  cases ry
  obtain ⟨its, r, ⟨⟨c1, d1, a1, sl1⟩, n, e, hc1, hd1, ha1⟩, z⟩ := I.list hH
  obtain ⟨its2, r2, ⟨⟨c2, d2, a2, sl2⟩, n2, e2, hc2, hd2, ha2⟩, z2⟩ := I.list hB
  simp only at hc1 hd1 ha1 hc2 hd2 ha2
  subst hc1 hd1 ha1 hc2 hd2 ha2
  have hl := r.length
  have hl2 := r2.length
  have hsz : its.toArray.size + its2.toArray.size ≤ sizeLine := by rw [List.size_toArray, List.size_toArray]; omega
  refine concat_meets ⟨_, e, rfl⟩ ⟨_, e2, rfl⟩ noFill_list_add seq_list_add F.slot_list_add F.entry_list_add (F.args_list_add_2 _ _)
    (PyProof.Rows.list_addW l b its.toArray its2.toArray n n2 none none sl1 sl2 hsz) ⟨e, e2, ?_⟩
  have ea : its.toArray ++ its2.toArray = (its ++ its2).toArray := by simp
  rw [ea]
  exact ⟨.ref _, _, I.lnew (t' := s.toks) (r.append r2) (by rw [List.length_append]; omega), rfl, q _ I.fresh⟩
def uAdd (K : PySem.W.Frag) : R2 := rOr (rI0 fun i j => .int (i + j)) (rOr (fun x y H Q => ∃ i j, x = .str i ∧ y = .str j ∧ i.length + j.length ≤ sizeLine ∧ Q (.str (i ++ j)) H) (rOr (rCatR K) (rCatT K)))
theorem op_uAdd {X : Cx} : OpR X (binaryOp .Add) (uAdd X.K) := op_or op_add (op_or op_add_str (op_or op_catR op_catT))
def uMul : R2 := rOr (rI IntMulOk fun i j => .int (i * j)) rRep
theorem op_uMul {X : Cx} : OpR X (binaryOp .Mult) uMul := op_or (opI fun _ _ _ _ _ _ _ hc q => PyProof.Rows.mul_int q hc) op_rep
section
variable {rs : List Mem} {K : Sl → List Mem → Prop} {s1 s2 : Sl} {i j : Int}
theorem od_add (k : K (.d (.int (i + j))) rs) : OpD (uAdd KC.K) (.d (.int i)) (.d (.int j)) rs K := od_l (od_I0 (gd := fun i j => .int (i + j)) (fun _ _ _ _ => .int _) k)
theorem od_adds {x y : Str} (hz : x.length + y.length ≤ 100000) (k : K (.d (.str (x ++ y))) rs) : OpD (uAdd KC.K) (.d (.str x)) (.d (.str y)) rs K := od_r (od_l fun G H a b Q hx hy hs hq =>
  ⟨x, y, hx.str, hy.str, Nat.le_trans hz (by decide), give0 hs hq (sl := .d (.str (x ++ y))) (Is.str _) k⟩)
theorem od_addl {xs ys : List PyData} (h1 : s1.asList = some xs) (h2 : s2.asList = some ys) (hz : xs.length + ys.length ≤ 100000) (k : K (.n (xs ++ ys)) rs) : OpD (uAdd KC.K) s1 s2 rs K := od_r (od_r (od_l fun G H a b Q hx hy hs hq => by
  obtain ⟨p, vs, rfl, r1, t1⟩ := hx.list h1
  obtain ⟨q, ws, rfl, r2, t2⟩ := hy.list h2
  refine ⟨p, q, vs, ws, rfl, rfl, r1.sq, r2.sq, by rw [t1.length, t2.length]; exact Nat.le_trans hz (by decide), fun z hp => ?_⟩
  exact give hs hq (sl := .n (xs ++ ys)) (same_new hp) ⟨z, vs ++ ws, rfl, hp, hs.fresh hp, upd_same, (t1.append t2).stp (stp_new hp)⟩ k))
theorem od_addt {xs ys : List PyData} (hn : xs ≠ []) (hz : xs.length + ys.length ≤ 100000) (k : K (.d (.tuple (xs ++ ys))) rs) : OpD (uAdd KC.K) (.d (.tuple xs)) (.d (.tuple ys)) rs K := od_r (od_r (od_r fun G H a b Q hx hy hs hq => by
  obtain ⟨p, vs, rfl, r1, n1, t1⟩ := hx.tuple
  obtain ⟨q, ws, rfl, r2, n2, t2⟩ := hy.tuple
  refine ⟨p, q, vs, ws, rfl, rfl, .inl r1, .inl r2, fun z => ?_, by rw [t1.length, t2.length]; exact Nat.le_trans hz (by decide), fun z => ?_, fun z l hp => ?_⟩
  · subst z; cases t1; exact hn rfl
  · subst z; cases t2
    rw [List.append_nil] at k
    exact give0 hs hq (sl := .d (.tuple xs)) (Is.tup r1 n1 t1) k
  · exact give hs hq (sl := .d (.tuple (xs ++ ys))) (same_new hp) (Is.tup (.inl upd_same) (hs.fresh hp) ((t1.append t2).stp (stp_new hp))) k))
theorem od_sub (k : K (.d (.int (i - j))) rs) : OpD (rI0 fun i j => .int (i - j)) (.d (.int i)) (.d (.int j)) rs K := od_I0 (gd := fun i j => .int (i - j)) (fun _ _ _ _ => .int _) k
theorem mul_ok (hi : -(2 ^ 300) < i ∧ i < 2 ^ 300) (hj : -(2 ^ 300) < j ∧ j < 2 ^ 300) : IntMulOk i j := CMulW.ok (wide_mul (a := 300) (b := 300) (by omega) (by omega) (by decide) (by decide) (by decide))
theorem mul_r (hj : -(2 ^ 64) < j ∧ j < 2 ^ 64) : IntMulOk i j := .of_right (intBits_le_64 hj.1 hj.2)
theorem mul_l (hi : -(2 ^ 64) < i ∧ i < 2 ^ 64) : IntMulOk i j := .of_left (intBits_le_64 hi.1 hi.2)
theorem od_mul (hc : IntMulOk i j) (k : K (.d (.int (i * j))) rs) : OpD uMul (.d (.int i)) (.d (.int j)) rs K := od_l (od_I (gd := fun i j => .int (i * j)) (fun _ _ _ _ => .int _) hc k)
theorem od_div (hc : 0 < j ∧ j < 2 ^ 300) (k : K (.d (.int (i / j))) rs) : OpD (rI CDivW fun i j => .int (i / j)) (.d (.int i)) (.d (.int j)) rs K := od_I (gd := fun i j => .int (i / j)) (fun _ _ _ _ => .int _) (by
  refine ⟨hc.1, ?_⟩
  have := PySem.Flt.log2_lt_of (n := j.natAbs) (k := 300) (by decide) (by omega)
  omega) k
theorem od_mod (hc : 0 < j) (k : K (.d (.int (i % j))) rs) : OpD (rI (fun _ j => 0 < j) fun i j => .int (i % j)) (.d (.int i)) (.d (.int j)) rs K := od_I (gd := fun i j => .int (i % j)) (fun _ _ _ _ => .int _) hc k
theorem od_pow (hc : CPow i j) (k : K (.d (.int (i ^ j.toNat))) rs) : OpD (rI CPow fun i j => .int (i ^ j.toNat)) (.d (.int i)) (.d (.int j)) rs K := od_I (gd := fun i j => .int (i ^ j.toNat)) (fun _ _ _ _ => .int _) hc k
theorem od_lt (k : K (.d (.bool (decide (i < j)))) rs) : OpD (rI0 fun i j => .bl (decide (i < j))) (.d (.int i)) (.d (.int j)) rs K := od_I0 (gd := fun i j => .bool (decide (i < j))) (fun _ _ _ _ => .bl _) k
theorem od_le (k : K (.d (.bool (decide (i ≤ j)))) rs) : OpD (rI0 fun i j => .bl (decide (i ≤ j))) (.d (.int i)) (.d (.int j)) rs K := od_I0 (gd := fun i j => .bool (decide (i ≤ j))) (fun _ _ _ _ => .bl _) k
theorem od_gt (k : K (.d (.bool (decide (j < i)))) rs) : OpD (rI0 fun i j => .bl (decide (j < i))) (.d (.int i)) (.d (.int j)) rs K := od_I0 (gd := fun i j => .bool (decide (j < i))) (fun _ _ _ _ => .bl _) k
theorem od_ge (k : K (.d (.bool (decide (j ≤ i)))) rs) : OpD (rI0 fun i j => .bl (decide (j ≤ i))) (.d (.int i)) (.d (.int j)) rs K := od_I0 (gd := fun i j => .bool (decide (j ≤ i))) (fun _ _ _ _ => .bl _) k
end
/-! ### == != is in -/
def uEq (K : PySem.W.Frag) : R2 := rOr rEq (rEqD K)
def uNe (K : PySem.W.Frag) : R2 := rOr rNe (rNeD K)
theorem op_uEq {X : Cx} (hu : X.A.units + 64 < cLine) : OpR X (compareOp .Eq) (uEq X.K) := op_or op_eq (op_eqD hu)
theorem op_uNe {X : Cx} (hu : X.A.units + 64 < cLine) : OpR X (compareOp .NotEq) (uNe X.K) := op_or op_ne (op_neD hu)
/-- what is == as plain Lean has it -/
inductive EqB : PyData → PyData → Bool → Prop
  | int (i j : Int) : EqB (.int i) (.int j) (decide (i = j))
  | str (x y : Str) : EqB (.str x) (.str y) (decide (x = y))
  | bl (x y : Bool) : EqB (.bool x) (.bool y) (decide (x = y))
  | nn : EqB .none .none true
  | ni (i : Int) : EqB .none (.int i) false
  | in_ (i : Int) : EqB (.int i) .none false
  | ns (x : Str) : EqB .none (.str x) false
  | sn (x : Str) : EqB (.str x) .none false
  | dat {d e : PyData} : SeqAt.shaped d = true → SeqAt.shaped e = true → EqB d e (PyData.eqv d e)
section
variable {rs : List Mem} {K : Sl → List Mem → Prop} {s1 s2 : Sl} {d e : PyData} {b : Bool}
theorem plain_d {s : Sl} (h : s.plain = .d d) {G : Fp} {H : Hp} {v : V} (q : SlOk G H v s) : Is G H v d := by
  cases s with
  | un => cases h
  | r u => cases h
  | d x => cases h; exact q
  | n xs => cases h; exact q
theorem od_eq (h1 : s1.plain = .d d) (h2 : s2.plain = .d e) (h : EqB d e b) (k : K (.d (.bool b)) rs) : OpD (uEq KC.K) s1 s2 rs K := fun G H x y Q hx hy hs hq => by
  have q1 := plain_d h1 hx
  have q2 := plain_d h2 hy
  have fin : Q (.bl b) H := give0 hs hq (sl := .d (.bool b)) (Is.bl b) k
  cases h with
  | int i j => cases q1; cases q2; exact .inl ⟨rfl, by have e : decide (V.int i = V.int j) = decide (i = j) := by simp
                                                       rw [e]; exact fin⟩
  | str i j => cases q1; cases q2; exact .inl ⟨rfl, by have e : decide (V.str i = V.str j) = decide (i = j) := by simp
                                                       rw [e]; exact fin⟩
  | bl i j => cases q1; cases q2; exact .inl ⟨rfl, by have e : decide (V.bl i = V.bl j) = decide (i = j) := by simp
                                                      rw [e]; exact fin⟩
  | nn => cases q1; cases q2; exact .inl ⟨rfl, fin⟩
  | ni i => cases q1; cases q2; exact .inl ⟨rfl, fin⟩
  | in_ i => cases q1; cases q2; exact .inl ⟨rfl, fin⟩
  | ns i => cases q1; cases q2; exact .inl ⟨rfl, fin⟩
  | sn i => cases q1; cases q2; exact .inl ⟨rfl, fin⟩
  | dat a b => exact .inr ⟨_, _, q1.dp, q2.dp, a, b, fin⟩
theorem od_ne (h1 : s1.plain = .d d) (h2 : s2.plain = .d e) (h : EqB d e b) (k : K (.d (.bool (!b))) rs) : OpD (uNe KC.K) s1 s2 rs K := fun G H x y Q hx hy hs hq => by
  have q1 := plain_d h1 hx
  have q2 := plain_d h2 hy
  have fin : Q (.bl (!b)) H := give0 hs hq (sl := .d (.bool (!b))) (Is.bl _) k
  cases h with
  | int i j => cases q1; cases q2; exact .inl ⟨rfl, by have e : decide (V.int i = V.int j) = decide (i = j) := by simp
                                                       rw [e]; exact fin⟩
  | str i j => cases q1; cases q2; exact .inl ⟨rfl, by have e : decide (V.str i = V.str j) = decide (i = j) := by simp
                                                       rw [e]; exact fin⟩
  | bl i j => cases q1; cases q2; exact .inl ⟨rfl, by have e : decide (V.bl i = V.bl j) = decide (i = j) := by simp
                                                      rw [e]; exact fin⟩
  | nn => cases q1; cases q2; exact .inl ⟨rfl, fin⟩
  | ni i => cases q1; cases q2; exact .inl ⟨rfl, fin⟩
  | in_ i => cases q1; cases q2; exact .inl ⟨rfl, fin⟩
  | ns i => cases q1; cases q2; exact .inl ⟨rfl, fin⟩
  | sn i => cases q1; cases q2; exact .inl ⟨rfl, fin⟩
  | dat a b => exact .inr ⟨_, _, q1.dp, q2.dp, a, b, fin⟩
/-- is None, is not None -/
def uIs : R2 := fun x y H Q => y = .non ∧ Q (.bl (decide (x = .non))) H
def uIsn : R2 := fun x y H Q => y = .non ∧ Q (.bl (!decide (x = .non))) H
theorem op_uIs {X : Cx} : OpR X (compareOp .Is) uIs := op_isN
theorem op_uIsn {X : Cx} : OpR X (compareOp .IsNot) uIsn := op_notN
def Sl.isNone : Sl → Option Bool
  | .d .none => some true
  | .r .non => some true
  | .un => none
  | _ => some false
theorem isNone_ok {G : Fp} {H : Hp} {x : V} {s : Sl} {b : Bool} (h : s.isNone = some b) (q : SlOk G H x s) : decide (x = .non) = b := by
  cases s with
  | un => cases h
  | r u =>
    have q : x = u := q
    subst q
    cases x <;> cases h <;> rfl
  | n xs =>
    have q : Is G H x (.list xs) := q
    cases h; cases q; rfl
  | d y =>
    have q : Is G H x y := q
    cases q <;> cases h <;> rfl
theorem od_is (h : s1.isNone = some b) (k : K (.d (.bool b)) rs) : OpD uIs s1 (.d .none) rs K := fun G H x y Q hx hy hs hq =>
  ⟨hy.non, by rw [isNone_ok h hx]; exact give0 hs hq (sl := .d (.bool b)) (Is.bl b) k⟩
theorem od_isn (h : s1.isNone = some b) (k : K (.d (.bool (!b))) rs) : OpD uIsn s1 (.d .none) rs K := fun G H x y Q hx hy hs hq =>
  ⟨hy.non, by rw [isNone_ok h hx]; exact give0 hs hq (sl := .d (.bool (!b))) (Is.bl _) k⟩
end
/-- x in s (one sign in a text), x in xs (flat) -/
def uIn (K : PySem.W.Frag) : R2 := rOr (fun x y H Q => ∃ (c : Nat) (z : Str), x = .str ⟨#[c]⟩ ∧ y = .str z ∧ Q (.bl (decide (c ∈ z.cps.toList))) H) (rIn K false)
def uNin (K : PySem.W.Frag) : R2 := rOr (fun x y H Q => ∃ (c : Nat) (z : Str), x = .str ⟨#[c]⟩ ∧ y = .str z ∧ Q (.bl (!decide (c ∈ z.cps.toList))) H) (rIn K true)
theorem op_uIn {X : Cx} : OpR X (compareOp .In) (uIn X.K) := op_or op_in_sign op_in_seq
theorem op_uNin {X : Cx} : OpR X (compareOp .NotIn) (uNin X.K) := op_or op_notIn_sign op_notIn_seq
def flatD : PyData → Bool
  | .none => true | .bool _ => true | .int _ => true | .str _ => true
  | _ => false
def eqF : PyData → PyData → Bool
  | .none, .none => true
  | .bool a, .bool b => a == b
  | .bool a, .int b => (if a then 1 else 0) == b
  | .int a, .bool b => a == (if b then 1 else 0)
  | .int a, .int b => a == b
  | .str a, .str b => a == b
  | _, _ => false
def Sl.asSeq : Sl → Option (List PyData)
  | .d (.list ds) => some ds
  | .d (.tuple ds) => some ds
  | .n ds => some ds
  | _ => none
section
variable {rs : List Mem} {K : Sl → List Mem → Prop} {s1 s2 : Sl} {d e : PyData} {b : Bool} {G : Fp} {H : Hp} {ds : List PyData}
theorem flat_is {v : V} (h : Is G H v d) (f : flatD d = true) : flatV v = true := by cases h <;> first | rfl | cases f
theorem eq_is {v u : V} (h : Is G H v d) (q : Is G H u e) (f : flatD d = true) (g : flatD e = true) : eqV v u = eqF d e := by
  cases h <;> cases q <;> first | rfl | cases f | cases g
theorem flat_all : ∀ {vs : List V} {ds : List PyData}, IsAll G H vs ds → ds.all flatD = true → vs.all flatV = true
  | _, _, .nil, _ => rfl
  | _, _, .cons h t, f => by
    rw [List.all_cons, Bool.and_eq_true] at f ⊢
    exact ⟨flat_is h f.1, flat_all t f.2⟩
theorem in_all {x : V} (hx : Is G H x d) (fx : flatD d = true) : ∀ {vs : List V} {ds : List PyData}, IsAll G H vs ds → ds.all flatD = true → inV x vs = ds.any fun y => eqF y d
  | _, _, .nil, _ => rfl
  | _, _, .cons h t, f => by
    rw [List.all_cons, Bool.and_eq_true] at f
    have ih := in_all hx fx t f.2
    unfold inV at ih ⊢
    rw [List.any_cons, List.any_cons, ih, eq_is h hx f.1 fx]
theorem SlOk.seq {v : V} {s : Sl} (h : SlOk G H v s) (e : s.asSeq = some ds) : ∃ p vs, v = .ref p ∧ (LsAt G H p vs ∨ Rd H p (.tup vs)) ∧ IsAll G H vs ds := by
  cases s with
  | un => cases e
  | r u => cases e
  | n xs =>
    cases e
    obtain ⟨p, vs, a, b, t⟩ := SlOk.list (s := .n _) h rfl
    exact ⟨p, vs, a, .inl b, t⟩
  | d x =>
    cases x with
    | list xs =>
      cases e
      obtain ⟨p, vs, a, b, t⟩ := SlOk.list (s := .d (.list _)) h rfl
      exact ⟨p, vs, a, .inl b, t⟩
    | tuple xs =>
      cases e
      obtain ⟨p, vs, a, b, _, t⟩ := SlOk.tuple h
      exact ⟨p, vs, a, .inr b, t⟩
    | _ => cases e
theorem od_ins {n : Nat} {z : Str} (k : K (.d (.bool (decide (n ∈ z.cps.toList)))) rs) : OpD (uIn KC.K) (.d (.str ⟨#[n]⟩)) (.d (.str z)) rs K := od_l fun G H x y Q hx hy hs hq =>
  ⟨n, z, hx.str, hy.str, give0 hs hq (sl := .d (.bool _)) (Is.bl _) k⟩
theorem od_nins {n : Nat} {z : Str} (k : K (.d (.bool (!decide (n ∈ z.cps.toList)))) rs) : OpD (uNin KC.K) (.d (.str ⟨#[n]⟩)) (.d (.str z)) rs K := od_l fun G H x y Q hx hy hs hq =>
  ⟨n, z, hx.str, hy.str, give0 hs hq (sl := .d (.bool _)) (Is.bl _) k⟩
theorem od_inl (h : s2.asSeq = some ds) (fd : flatD d = true) (fs : ds.all flatD = true) (k : K (.d (.bool (ds.any fun y => eqF y d))) rs) : OpD (uIn KC.K) (.d d) s2 rs K := od_r fun G H x y Q hx hy hs hq => by
  obtain ⟨p, vs, rfl, r, t⟩ := hy.seq h
  refine ⟨p, vs, rfl, r.imp LsAt.sq .inl, flat_is hx fd, flat_all t fs, ?_⟩
  show Q (.bl (inV x vs)) H
  rw [in_all hx fd t fs]
  exact give0 hs hq (sl := .d (.bool _)) (Is.bl _) k
theorem od_ninl (h : s2.asSeq = some ds) (fd : flatD d = true) (fs : ds.all flatD = true) (k : K (.d (.bool (!ds.any fun y => eqF y d))) rs) : OpD (uNin KC.K) (.d d) s2 rs K := od_r fun G H x y Q hx hy hs hq => by
  obtain ⟨p, vs, rfl, r, t⟩ := hy.seq h
  refine ⟨p, vs, rfl, r.imp LsAt.sq .inl, flat_is hx fd, flat_all t fs, ?_⟩
  show Q (.bl (!inV x vs)) H
  rw [in_all hx fd t fs]
  exact give0 hs hq (sl := .d (.bool _)) (Is.bl _) k
/-! ### xs[i] -/
theorem od_ixs {i : Int} (h : s1.asSeq = some ds) (hi : atI ds i = some d) (k : K (.d d) rs) : OpD (rIx KC.K) s1 (.d (.int i)) rs K := fun G H x y Q hx hy hs hq => by
  obtain ⟨p, vs, rfl, r, t⟩ := hx.seq h
  have ey := hy.int
  have hv : ∃ v, atI vs i = some v ∧ Is G H v d := by
    unfold atI at hi ⊢
    rw [t.length]
    cases e : ixN ds.length i with
    | none => rw [e] at hi; cases hi
    | some j => rw [e] at hi; exact t.get hi
  obtain ⟨v, hv, hd⟩ := hv
  have fin := give0 hs hq (sl := .d d) (v := v) hd k
  rcases r with r | r
  · exact .inl ⟨p, vs, i, v, rfl, ey, r.sq, hv, fin⟩
  · exact .inr (.inl ⟨p, vs, i, v, rfl, ey, .inl r, hv, fin⟩)
theorem od_ixt {i : Int} {z : Str} {n : Nat} (hz : z.length ≤ 100000) (hi : atI z.cps.toList i = some n) (k : K (.d (.str ⟨#[n]⟩)) rs) : OpD (rIx KC.K) (.d (.str z)) (.d (.int i)) rs K := fun G H x y Q hx hy hs hq =>
  .inr (.inr ⟨z, i, n, hx.str, hy.int, Nat.le_trans hz (by decide), hi, give0 hs hq (sl := .d (.str ⟨#[n]⟩)) (Is.str _) k⟩)
end
section
variable {c : Ctx m₀ N₀ sc₀ lv₀ xp₀ fF₀ cm₀} {e a b : Expr} {es : List Expr} {ρ ρ' : List Sl} {rs : List Mem} {K : Sl → List Mem → Prop} {KB : Bool → List Mem → Prop} {x : Str} {pos pos' p2 : Pos}
theorem dx_ix {r : R2} (hr : IxR c.X r) (h : DX c a ρ rs fun s1 r1 => DX c b ρ r1 fun s2 r2 => OpD r s1 s2 r2 K) (hp : PlainIx b := by exact fun _ _ => rfl) : DX c (.Subscript a b pos) ρ rs K := by
  intro σ H G Q he hs hx hq
  refine tE_of (pe_ix hr pe_t pe_t hp) ?_
  refine h σ H G _ he hs hx fun v1 H1 G1 s1 r1 t1 h1 o1 k1 => ?_
  refine k1 σ H1 G1 _ (he.stp t1) o1 (hx.stp t1) fun v2 H2 G2 s2 r2 t2 h2 o2 k2 => ?_
  exact k2 G2 H2 v1 v2 Q (h1.ok.stp t2) h2.ok o2 fun v H' G' sl rs' t3 h3 o3 k3 => hq v H' G' sl rs' ((t1.trans t2).trans t3) (h3.back (t1.trans t2)) o3 k3
/-! ### xs[lo:hi] -/
def DO (c : Ctx m₀ N₀ sc₀ lv₀ xp₀ fF₀ cm₀) (e : Option Expr) (ρ : List Sl) (rs : List Mem) (K : Option Int → List Mem → Prop) : Prop := match e with
  | none => K none rs
  | some e => DX c e ρ rs fun s r => ∃ i, s = .d (.int i) ∧ K (some i) r
def tO (X : Cx) : Option Expr → TO
  | none => tNoPart
  | some e => tPart (tE X e)
theorem po_t {X : Cx} : ∀ {e : Option Expr}, PO X e (tO X e)
  | none => po_none
  | some _ => po_some pe_t
theorem DO.run {e : Option Expr} {KO : Option Int → List Mem → Prop} (h : DO c e ρ rs KO) {σ : L2.St} {H : Hp} {G : Fp} {Q : Option Int → Hp → Prop} (he : EnvOk G H σ ρ) (hs : sepL rs G G H) (hx : XOk c G H)
    (hq : ∀ o H' G' rs', Stp G G' H H' → sepL rs' G' G' H' → KO o rs' → Q o H') : tO c.X e σ H Q := by
  cases e with
  | none => exact hq none H G rs (Stp.refl _ _) hs h
  | some e =>
    refine h σ H G _ he hs hx fun v H1 G1 s1 r1 t1 h1 o1 k1 => ?_
    obtain ⟨i, rfl, k1⟩ := k1
    exact ⟨i, SlOk.int h1, hq _ H1 G1 r1 t1 o1 k1⟩
def SlD (r : V → Option Int → Option Int → Hp → VK → Prop) (s : Sl) (lo hi : Option Int) (rs : List Mem) (K : Sl → List Mem → Prop) : Prop := ∀ (G : Fp) (H : Hp) (x : V) (Q : VK), SlOk G H x s → sepL rs G G H →
  (∀ v H' G' sl rs', Stp G G' H H' → Rs G' H H' v sl → sepL rs' G' G' H' → K sl rs' → Q v H') → r x lo hi H Q
def uSl (K : PySem.W.Frag) : V → Option Int → Option Int → Hp → VK → Prop := fun x lo hi H Q => rSlL K x lo hi H Q ∨ (rSlT K x lo hi H Q ∨ rSlS x lo hi H Q)
theorem sl_u {X : Cx} : SlR X (uSl X.K) := sl_list.or (sl_tup.or sl_str)
theorem dx_slice {lo hi : Option Expr} (h : DX c a ρ rs fun s r1 => DO c lo ρ r1 fun i r2 => DO c hi ρ r2 fun j r3 => SlD (uSl KC.K) s.plain i j r3 K) : DX c (.Subscript a (.Slice lo hi none p2) pos) ρ rs K := by
  intro σ H G Q he hs hx hq
  refine tE_of (pe_slice (c.ck ▸ sl_u) pe_t po_t po_t) ?_
  refine h σ H G _ he hs hx fun v1 H1 G1 s1 r1 t1 h1 o1 k1 => ?_
  refine k1.run (he.stp t1) o1 (hx.stp t1) fun i H2 G2 r2 t2 o2 k2 => ?_
  refine k2.run (he.stp (t1.trans t2)) o2 (hx.stp (t1.trans t2)) fun j H3 G3 r3 t3 o3 k3 => ?_
  exact k3 G3 H3 v1 Q ((h1.ok.plain.stp t2).stp t3) o3 fun v H' G' sl rs' t4 h4 o4 k4 => hq v H' G' sl rs' (((t1.trans t2).trans t3).trans t4) (h4.back ((t1.trans t2).trans t3)) o4 k4
def cutL {α : Type} (xs : List α) (lo hi : Option Int) : List α := (xs.drop (HT.sIx xs.length 0 lo)).take (HT.sIx xs.length xs.length hi - HT.sIx xs.length 0 lo)
theorem IsAll.cut {G : Fp} {H : Hp} {vs : List V} {ds : List PyData} (h : IsAll G H vs ds) (lo hi : Option Int) : IsAll G H (cutV vs lo hi) (cutL ds lo hi) := by
  unfold cutV cutL
  rw [h.length]
  exact (h.drop _).take _
theorem sd_list {ds : List PyData} {lo hi : Option Int} (k : K (.n (cutL ds lo hi)) rs) : SlD (uSl KC.K) (.d (.list ds)) lo hi rs K := fun G H x Q hx hs hq => by
  obtain ⟨p, vs, rfl, r, t⟩ := SlOk.list (s := .d (.list ds)) hx rfl
  refine .inl ⟨p, vs, rfl, r.sq, fun z hz => ?_⟩
  exact give hs hq (sl := .n (cutL ds lo hi)) (same_new hz) ⟨z, _, rfl, hz, hs.fresh hz, upd_same, (t.cut lo hi).stp (stp_new hz)⟩ k
theorem sd_tup {ds : List PyData} {lo hi : Option Int} (hw : ¬ (HT.sIx ds.length 0 lo = 0 ∧ HT.sIx ds.length ds.length hi = ds.length)) (k : K (.d (.tuple (cutL ds lo hi))) rs) : SlD (uSl KC.K) (.d (.tuple ds)) lo hi rs K := fun G H x Q hx hs hq => by
  obtain ⟨p, vs, rfl, r, n, t⟩ := SlOk.tuple hx
  refine .inr (.inl ⟨p, vs, rfl, .inl r, by rw [t.length]; exact hw, fun z hz => ?_⟩)
  exact give hs hq (sl := .d (.tuple (cutL ds lo hi))) (same_new hz) (Is.tup (.inl upd_same) (hs.fresh hz) ((t.cut lo hi).stp (stp_new hz))) k
theorem sd_str {z : Str} {lo hi : Option Int} (hz : z.length ≤ 100000) (k : K (.d (.str (cutS z lo hi))) rs) : SlD (uSl KC.K) (.d (.str z)) lo hi rs K := fun G H x Q hx hs hq =>
  .inr (.inr ⟨z, hx.str, Nat.le_trans hz (by decide), give0 hs hq (sl := .d (.str (cutS z lo hi))) (Is.str _) k⟩)
theorem cAdd : OpR c.X (binaryOp .Add) (uAdd KC.K) := c.ck ▸ op_uAdd
theorem cEq : OpR c.X (compareOp .Eq) (uEq KC.K) := c.ck ▸ op_uEq (by have := c.un; omega)
theorem cNe : OpR c.X (compareOp .NotEq) (uNe KC.K) := c.ck ▸ op_uNe (by have := c.un; omega)
theorem cIn : OpR c.X (compareOp .In) (uIn KC.K) := c.ck ▸ op_uIn
theorem cNin : OpR c.X (compareOp .NotIn) (uNin KC.K) := c.ck ▸ op_uNin
theorem cIx : IxR c.X (rIx KC.K) := c.ck ▸ ix_seq
end
end PW

set_option maxHeartbeats 1000000
/-! Loops and comprehensions. -/
namespace PW
open PySem L2
variable [KC]
variable {m₀ : Mo} {N₀ : List Str} {sc₀ : Scope} {lv₀ : Nat} {xp₀ : Addr → List Sl → List Mem → Prop} {fF₀ cm₀ : Bool}

/-- the place of a name -/
inductive IxOf : List Str → Str → Nat → Prop
  | zero {x N} : IxOf (x :: N) x 0
  | succ {x y N i} : IxOf N x i → IxOf (y :: N) x (i + 1)
theorem IxOf.get : ∀ {N x i}, IxOf N x i → N[i]? = some x
  | _, _, _, .zero => rfl
  | _, _, _, .succ h => by simpa using h.get

/-! ### what is walked -/
def tI (X : Cx) (tg it : Expr) : TI := fun σ H R => ∀ pins s, Inv X pins σ H s → wpAny (model X.prog X.w) X.A (eval it X.env) (fun v s1 => wpAny (model X.prog X.w) X.A (pyIter v) (PIE X pins σ tg R) X.xe s1) X.xe s
theorem pi_t {X : Cx} {tg it : Expr} : PI X tg it (tI X tg it) := ⟨fun pins s _ _ _ I h => h pins s I⟩
theorem tI_of {X : Cx} {tg it : Expr} {t : TI} {σ : L2.St} {H : Hp} {R : It → Hp → Prop} (h : PI X tg it t) (q : t σ H R) : tI X tg it σ H R := fun pins s I => h.run pins s σ H R I q
/-- J gives the items, as long as keep holds -/
def JOk (J : It) (items : List Sl) (keep : List Mem → Prop) (G : Fp) (H : Hp) : Prop := ∀ (G1 : Fp) (H1 : Hp) (r1 : List Mem), Stp G G1 H H1 → sepL r1 G1 G1 H1 → keep r1 →
  ∀ i, (i < items.length → J.go i H1 ∧ ∀ x H2, J.yld i H1 x H2 → H2 = H1 ∧ ∃ sl, items[i]? = some sl ∧ SlOk G1 H1 x sl) ∧ (items.length ≤ i → J.stop i H1)
def DI (c : Ctx m₀ N₀ sc₀ lv₀ xp₀ fF₀ cm₀) (tg it : Expr) (ρ : List Sl) (rs : List Mem) (K : List Sl → (List Mem → Prop) → List Mem → Prop) : Prop := ∀ (σ : L2.St) (H : Hp) (G : Fp) (R : It → Hp → Prop), EnvOk G H σ ρ → sepL rs G G H → XOk c G H →
  (∀ J H' G' items keep rs', Stp G G' H H' → sepL rs' G' G' H' → JOk J items keep G' H' → K items keep rs' → R J H') → tI c.X tg it σ H R
section
variable {c : Ctx m₀ N₀ sc₀ lv₀ xp₀ fF₀ cm₀} {e a b tg it : Expr} {es : List Expr} {ρ ρ' : List Sl} {rs : List Mem} {KI : List Sl → (List Mem → Prop) → List Mem → Prop} {x : Str} {pos pos' p2 : Pos}
theorem di_list (h : DX c it ρ rs fun s r => ∃ ds, s.asList = some ds ∧ KI (ds.map .d) (fun _ => True) r) : DI c tg it ρ rs KI := by
  intro σ H G R he hs hx hr
  refine tI_of (c.ck ▸ pi_list pe_t) ?_
  refine h σ H G _ he hs hx fun v H1 G1 s1 r1 t1 h1 o1 k1 => ?_
  obtain ⟨ds, e1, k1⟩ := k1
  obtain ⟨p, vs, rfl, rd, al⟩ := h1.ok.list e1
  refine ⟨p, rfl, ⟨vs, rd.sq⟩, hr _ H1 G1 _ _ r1 t1 o1 (fun G2 H2 r2 t2 o2 _ i => ?_) k1⟩
  have rd2 : SqL KC.K H2 p vs := (ls_stp0 t2.keep t2.sub rd).sq
  have al2 := al.stp t2
  constructor
  · intro hi
    have hi' : i < vs.length := by rw [al.length]; simpa using hi
    refine ⟨⟨vs, vs[i], rd2, by simp [hi']⟩, fun x H3 y => ?_⟩
    obtain ⟨e3, y⟩ := y
    obtain ⟨d, hd, hI⟩ := al2.getV (i := i) (v := x) (y vs (rd2))
    exact ⟨e3, .d d, by rw [List.getElem?_map, hd]; rfl, hI⟩
  · intro hi
    exact ⟨vs, rd2, by rw [al.length]; simpa using hi⟩
theorem di_tup (h : DX c it ρ rs fun s r => ∃ ds, s = .d (.tuple ds) ∧ KI (ds.map .d) (fun _ => True) r) : DI c tg it ρ rs KI := by
  intro σ H G R he hs hx hr
  refine tI_of (c.ck ▸ pi_tup pe_t) ?_
  refine h σ H G _ he hs hx fun v H1 G1 s1 r1 t1 h1 o1 k1 => ?_
  obtain ⟨ds, rfl, k1⟩ := k1
  obtain ⟨p, vs, rfl, rd, np, al⟩ := SlOk.tuple h1.ok
  refine ⟨p, rfl, ⟨vs, .inl rd⟩, hr _ H1 G1 _ _ r1 t1 o1 (fun G2 H2 r2 t2 o2 _ i => ?_) k1⟩
  have rd2 : Rd H2 p (.tup vs) := rd_stp t2.keep np rd
  have al2 := al.stp t2
  constructor
  · intro hi
    have hi' : i < vs.length := by rw [al.length]; simpa using hi
    refine ⟨⟨vs, vs[i], .inl rd2, by simp [hi']⟩, fun x H3 y => ?_⟩
    obtain ⟨e3, y⟩ := y
    obtain ⟨d, hd, hI⟩ := al2.getV (i := i) (v := x) (y vs (.inl rd2))
    exact ⟨e3, .d d, by rw [List.getElem?_map, hd]; rfl, hI⟩
  · intro hi
    exact ⟨vs, .inl rd2, by rw [al.length]; simpa using hi⟩
/-- the signs of a text -/
def signs (z : Str) : List Sl := z.cps.toList.map fun n => .d (.str ⟨#[n]⟩)
theorem di_str (h : DX c it ρ rs fun s r => ∃ z, s = .d (.str z) ∧ KI (signs z) (fun _ => True) r) : DI c tg it ρ rs KI := by
  intro σ H G R he hs hx hr
  refine tI_of (pi_str pe_t) ?_
  refine h σ H G _ he hs hx fun v H1 G1 s1 r1 t1 h1 o1 k1 => ?_
  obtain ⟨z, rfl, k1⟩ := k1
  refine ⟨z, h1.ok.str, hr _ H1 G1 _ _ r1 t1 o1 (fun G2 H2 r2 t2 o2 _ i => ?_) k1⟩
  constructor
  · intro hi
    have hi' : i < z.cps.size := by simpa [signs] using hi
    refine ⟨hi', fun x H3 y => ?_⟩
    obtain ⟨e3, n, hn, rfl⟩ := y
    refine ⟨e3, .d (.str ⟨#[n]⟩), ?_, Is.str _⟩
    have : z.cps.toList[i]? = some n := by simpa using hn
    unfold signs
    rw [List.getElem?_map, this]; rfl
  · intro hi
    show z.cps.size ≤ i
    simpa [signs] using hi
def rngS (lo : Int) (n : Nat) : List Sl := (List.range n).map fun k => .d (.int (lo + (k : Nat)))
theorem jok_rng {lo : Int} {n : Nat} {keep : List Mem → Prop} {G : Fp} {H : Hp} : JOk (Itr lo n) (rngS lo n) keep G H := fun G2 H2 r2 t2 o2 _ i => by
  constructor
  · intro hi
    have hi' : i < n := by simpa [rngS] using hi
    refine ⟨hi', fun x H3 y => ?_⟩
    obtain ⟨e3, rfl⟩ := y
    refine ⟨e3, .d (.int (lo + i)), ?_, Is.int _⟩
    unfold rngS
    rw [List.getElem?_map, List.getElem?_range hi']; rfl
  · intro hi
    show n ≤ i
    simpa [rngS] using hi
theorem di_range1 (h : DA c [a] ρ rs fun ss r => ∃ n : Int, ss = [.d (.int n)] ∧ (-(2 ^ 62) ≤ n ∧ n < 2 ^ 62) ∧ KI (rngS 0 n.toNat) (fun _ => True) r) (hg : KdIn sc₀.names ("range" : Str) .globalImplicit := by first | ((with_reducible (repeat (first | exact KdIn.zero | apply KdIn.succ))); (first | (all_goals fail) | fail)) | exact kd_of rfl)
    (hs : starEach [a] c.X.env = [(false, eval a c.X.env)] := by rfl) : DI c tg (.Call (.Name "range" pos') [a] [] pos) ρ rs KI := by
  intro σ H G R he hS hx hr
  refine tI_of (pi_range1 (show c.X.env.kindOf "range" = _ by unfold Env.kindOf; rw [c.hsc]; exact c.look hg) (by rw [c.hm.mg]; exact c.bl.range) pa_t hs) ?_
  refine h σ H G _ he hS hx fun vs H1 G1 ss r1 t1 h1 o1 k1 => ?_
  obtain ⟨n, rfl, hb, k1⟩ := k1
  match vs, h1 with
  | [v], h1 =>
    refine ⟨n, by rw [SlOk.int h1.1], hb.1, hb.2, hr _ H1 G1 _ _ r1 t1 o1 jok_rng k1⟩
theorem di_range2 (h : DA c [a, b] ρ rs fun ss r => ∃ n m : Int, ss = [.d (.int n), .d (.int m)] ∧ (-(2 ^ 62) ≤ n ∧ n < 2 ^ 62 ∧ -(2 ^ 62) ≤ m ∧ m < 2 ^ 62) ∧ KI (rngS n (m - n).toNat) (fun _ => True) r) (hg : KdIn sc₀.names ("range" : Str) .globalImplicit := by first | ((with_reducible (repeat (first | exact KdIn.zero | apply KdIn.succ))); (first | (all_goals fail) | fail)) | exact kd_of rfl)
    (hs : starEach [a, b] c.X.env = [(false, eval a c.X.env), (false, eval b c.X.env)] := by rfl) (hs2 : starEach [b] c.X.env = [(false, eval b c.X.env)] := by rfl) : DI c tg (.Call (.Name "range" pos') [a, b] [] pos) ρ rs KI := by
  intro σ H G R he hS hx hr
  refine tI_of (pi_range2 (show c.X.env.kindOf "range" = _ by unfold Env.kindOf; rw [c.hsc]; exact c.look hg) (by rw [c.hm.mg]; exact c.bl.range) pa_t hs hs2) ?_
  refine h σ H G _ he hS hx fun vs H1 G1 ss r1 t1 h1 o1 k1 => ?_
  obtain ⟨n, m, rfl, hb, k1⟩ := k1
  match vs, h1 with
  | [v, w], h1 =>
    refine ⟨n, m, by rw [SlOk.int h1.1, SlOk.int h1.2.1], hb, hr _ H1 G1 _ _ r1 t1 o1 jok_rng k1⟩
/-! ### weaker slots -/
theorem DSs.le {sts : List Stmt} {P : Post} (l : Le ρ ρ') (h : DSs c sts ρ' rs P) : DSs c sts ρ rs P := fun σ H G D he hs hx hd => h σ H G D (l.env he) hs hx hd
theorem ds_weak {st : Stmt} {P : Post} (h : DS c st ρ rs P) {P' : Post} (hn : ∀ ρ' r', P.nx ρ' r' → P'.nx ρ' r') (hr : ∀ s r', P.rt s r' → P'.rt s r') (hb : ∀ ρ' r', P.bk ρ' r' → P'.bk ρ' r') (hc : ∀ ρ' r', P.ct ρ' r' → P'.ct ρ' r') : DS c st ρ rs P' :=
  fun σ H G D he hs hx hd => h σ H G D he hs hx ⟨fun σ' H' G' ρ' r' t e o k => hd.nx σ' H' G' ρ' r' t e o (hn _ _ k), fun v H' G' s r' t q o k => hd.rt v H' G' s r' t q o (hr _ _ k), fun σ' H' G' ρ' r' t e o k => hd.bk σ' H' G' ρ' r' t e o (hb _ _ k), fun σ' H' G' ρ' r' t e o k => hd.ct σ' H' G' ρ' r' t e o (hc _ _ k)⟩
theorem dss_weak {sts : List Stmt} {P : Post} (h : DSs c sts ρ rs P) {P' : Post} (hn : ∀ ρ' r', P.nx ρ' r' → P'.nx ρ' r') (hr : ∀ s r', P.rt s r' → P'.rt s r') (hb : ∀ ρ' r', P.bk ρ' r' → P'.bk ρ' r') (hc : ∀ ρ' r', P.ct ρ' r' → P'.ct ρ' r') : DSs c sts ρ rs P' :=
  fun σ H G D he hs hx hd => h σ H G D he hs hx ⟨fun σ' H' G' ρ' r' t e o k => hd.nx σ' H' G' ρ' r' t e o (hn _ _ k), fun v H' G' s r' t q o k => hd.rt v H' G' s r' t q o (hr _ _ k), fun σ' H' G' ρ' r' t e o k => hd.bk σ' H' G' ρ' r' t e o (hb _ _ k), fun σ' H' G' ρ' r' t e o k => hd.ct σ' H' G' ρ' r' t e o (hc _ _ k)⟩

/-! ### for -/
/-- a loop over xs (as enc tells them): what holds behind pre is inv pre s, with the slots ρf s and the things rf s -/
def ForD (c : Ctx m₀ N₀ sc₀ lv₀ xp₀ fF₀ cm₀) (x : Str) (j : Nat) (body : List Stmt) {α : Type} (xs : List α) (enc : α → Sl) (keep : List Mem → Prop) (ρ : List Sl) (rs : List Mem) (P : Post) : Prop :=
  ∃ (S : Type) (ρf : S → List Sl) (rf : S → List Mem) (inv : List α → S → Prop), (∃ s, inv [] s ∧ Le ρ (ρf s) ∧ rs = rf s) ∧ (∀ pre s, inv pre s → keep (rf s)) ∧
    (∀ pre y post s, xs = pre ++ y :: post → inv pre s → ∃ ρ2, SetS N₀ (ρf s) x j (enc y) ρ2 ∧
      DSs c body ρ2 (rf s) ⟨fun ρ' r' => ∃ s', inv (pre ++ [y]) s' ∧ Le ρ' (ρf s') ∧ r' = rf s', P.rt, P.nx, fun ρ' r' => ∃ s', inv (pre ++ [y]) s' ∧ Le ρ' (ρf s') ∧ r' = rf s'⟩) ∧
    (∀ s, inv xs s → P.nx (ρf s) (rf s))
theorem ds_for {body : List Stmt} {P : Post} {j : Nat} (hj : IxOf N₀ x j) (h : DI c (.Name x p2) it ρ rs fun items keep r => ∃ (α : Type) (xs : List α) (enc : α → Sl), items = xs.map enc ∧ ForD c x j body xs enc keep ρ r P)
    (hcm : cm₀ = true := by rfl) (hl : LocF c x := by first | exact locF_of (by with_reducible (repeat (first | exact KdIn.zero | apply KdIn.succ))) rfl | exact Or.inl rfl | exact Or.inr ⟨rfl, rfl⟩) (hf : ∀ y, foldedSetIterable it c.X.env y = pure y := by intro _; rfl) : DS c (.For (.Name x p2) it body [] pos) ρ rs P := by
  intro σ H G D he hs hx hd
  have nd : c.X.N.Nodup := by rw [c.hN]; exact c.nd
  have hi : c.X.N[j]? = some x := by rw [c.hN]; exact hj.get
  refine tS_of (ps_for (tb := tSs c.X body) c.po (c.calm hcm) pi_t (pg_name nd hi hl.loc (c_hf hl)) pss_t hf) ?_
  refine h σ H G _ he hs hx fun J H1 G1 items keep r1 t1 o1 jok k1 => ?_
  obtain ⟨α, xs, enc, rfl, S, ρf, rf, inv, ⟨s0, i0, l0, rfl⟩, hk, ht, hend⟩ := k1
  refine ⟨fun i m σ' H' => m = xs.length - i ∧ i ≤ xs.length ∧ ∃ G' s, Stp G1 G' H1 H' ∧ EnvOk G' H' σ' (ρf s) ∧ sepL (rf s) G' G' H' ∧ inv (xs.take i) s,
    ⟨_, rfl, Nat.zero_le _, G1, s0, Stp.refl _ _, l0.env (he.stp t1), o1, i0⟩, ?_⟩
  rintro i m σ' H' ⟨rfl, hle, G', s, t2, e2, o2, iv⟩
  have jk := jok G' H' (rf s) t2 o2 (hk _ s iv) i
  by_cases hlt : i < xs.length
  · refine .inr ⟨(jk.1 (by simpa using hlt)).1, fun σ2 H2 => xs.length - (i + 1) < xs.length - i ∧ i + 1 ≤ xs.length ∧ ∃ G2 s, Stp G1 G2 H1 H2 ∧ EnvOk G2 H2 σ2 (ρf s) ∧ sepL (rf s) G2 G2 H2 ∧ inv (xs.take (i + 1)) s,
      fun σ2 H2 ⟨l, l2, r⟩ => ⟨_, l, rfl, l2, r⟩, fun y H2 yl => ?_⟩
    obtain ⟨rfl, sl, hsl, hy⟩ := (jk.1 (by simpa using hlt)).2 y H2 yl
    have hsl' : sl = enc xs[i] := by
      rw [List.getElem?_map, List.getElem?_eq_getElem hlt] at hsl
      exact (Option.some.inj hsl).symm
    subst hsl'
    have split : xs = xs.take i ++ xs[i] :: xs.drop (i + 1) := by simp
    obtain ⟨ρ2, hset, hb⟩ := ht (xs.take i) xs[i] (xs.drop (i + 1)) s split iv
    have tk : xs.take i ++ [xs[i]] = xs.take (i + 1) := by simp
    rw [tk] at hb
    refine hb _ H2 G' _ (hset.env hy e2) o2 (hx.stp (t1.trans t2)) ⟨fun σ3 H3 G3 ρ3 r3 t3 e3 o3 k3 => ?_, fun v H3 G3 sl r3 t3 => hd.rt v H3 G3 sl r3 ((t1.trans t2).trans t3) ∘ fun q => q.back (t1.trans t2), fun σ3 H3 G3 ρ3 r3 t3 => hd.nx σ3 H3 G3 ρ3 r3 ((t1.trans t2).trans t3), fun σ3 H3 G3 ρ3 r3 t3 e3 o3 k3 => ?_⟩
    · obtain ⟨s', i', l', rfl⟩ := k3
      exact ⟨by omega, by omega, G3, s', t2.trans t3, l'.env e3, o3, i'⟩
    · obtain ⟨s', i', l', rfl⟩ := k3
      exact ⟨by omega, by omega, G3, s', t2.trans t3, l'.env e3, o3, i'⟩
  · have hi : i = xs.length := by omega
    subst hi
    rw [List.take_length] at iv
    exact .inl ⟨jk.2 (by simp), hd.nx σ' H' G' (ρf s) (rf s) (t1.trans t2) e2 o2 (hend s iv)⟩

/-! ### while -/
theorem ds_while {t : Expr} {body : List Stmt} {P : Post} (S : Type) (ρf : S → List Sl) (rf : S → List Mem) (inv : S → Prop) (μ : S → Nat) (h0 : ∃ s, inv s ∧ Le ρ (ρf s) ∧ rs = rf s)
    (ht : ∀ s, inv s → DT c t (ρf s) (rf s) fun k r => if k = true then DSs c body (ρf s) r ⟨fun ρ' r' => ∃ s', inv s' ∧ μ s' < μ s ∧ Le ρ' (ρf s') ∧ r' = rf s', P.rt, P.nx, fun ρ' r' => ∃ s', inv s' ∧ μ s' < μ s ∧ Le ρ' (ρf s') ∧ r' = rf s'⟩ else P.nx (ρf s) r) :
    DS c (.While t body [] pos) ρ rs P := by
  intro σ H G D he hs hx hd
  refine tS_of (ps_while c.po pt_t pss_t) ?_
  obtain ⟨s0, i0, l0, rfl⟩ := h0
  refine ⟨fun m σ' H' => ∃ G' s, m = μ s ∧ Stp G G' H H' ∧ EnvOk G' H' σ' (ρf s) ∧ sepL (rf s) G' G' H' ∧ inv s, ⟨_, G, s0, rfl, Stp.refl _ _, l0.env he, hs, i0⟩, ?_⟩
  rintro m σ' H' ⟨G', s, rfl, t1, e1, o1, iv⟩
  refine ht s iv σ' H' G' _ e1 o1 (hx.stp t1) fun k H2 G2 r2 t2 o2 k2 => ?_
  cases k with
  | true =>
    refine ⟨fun σ3 H3 => ∃ G3 s', μ s' < μ s ∧ Stp G G3 H H3 ∧ EnvOk G3 H3 σ3 (ρf s') ∧ sepL (rf s') G3 G3 H3 ∧ inv s', fun σ3 H3 ⟨G3, s', lt, t3, e3, o3, i3⟩ => ⟨_, lt, G3, s', rfl, t3, e3, o3, i3⟩, ?_⟩
    refine k2 σ' H2 G2 _ (e1.stp t2) o2 (hx.stp (t1.trans t2)) ⟨fun σ3 H3 G3 ρ3 r3 t3 e3 o3 k3 => ?_, fun v H3 G3 sl r3 t3 => hd.rt v H3 G3 sl r3 ((t1.trans t2).trans t3) ∘ fun q => q.back (t1.trans t2), fun σ3 H3 G3 ρ3 r3 t3 => hd.nx σ3 H3 G3 ρ3 r3 ((t1.trans t2).trans t3), fun σ3 H3 G3 ρ3 r3 t3 e3 o3 k3 => ?_⟩
    · obtain ⟨s', i', lt, l', rfl⟩ := k3
      exact ⟨G3, s', lt, (t1.trans t2).trans t3, l'.env e3, o3, i'⟩
    · obtain ⟨s', i', lt, l', rfl⟩ := k3
      exact ⟨G3, s', lt, (t1.trans t2).trans t3, l'.env e3, o3, i'⟩
  | false => exact hd.nx σ' H2 G2 (ρf s) r2 (t1.trans t2) (e1.stp t2) o2 k2

/-! ### a list of one's own -/
theorem SlOk.stp0 {G G' : Fp} {H H' : Hp} {v : V} {s : Sl} (k : ∀ a o, H a = some o → ¬ G a → H' a = some o) (t : ∀ a, G' a → G a ∨ H a = none) (h : SlOk G H v s) : SlOk G' H' v s := by
  cases s with
  | un => trivial
  | d x => exact Is.stp0 k t h
  | r u => exact h
  | n ds => exact Is.stp0 k t h
theorem SlAll.stp0 {G G' : Fp} {H H' : Hp} (k : ∀ a o, H a = some o → ¬ G a → H' a = some o) (t : ∀ a, G' a → G a ∨ H a = none) : ∀ {vs : List V} {ss : List Sl}, SlAll G H vs ss → SlAll G' H' vs ss
  | [], [], _ => trivial
  | _ :: _, _ :: _, ⟨h, q⟩ => ⟨SlOk.stp0 k t h, q.stp0 k t⟩
  | [], _ :: _, h => h.elim
  | _ :: _, [], h => h.elim
def lstM (p : Addr) (ss : List Sl) : Mem where
  ok F G H := (∀ a, F a ↔ a = p) ∧ ∃ vs, H p = some (.lst vs) ∧ SlAll G H vs ss
  dom := fun ⟨e, vs, h, _⟩ a q => by
    have e2 := (e a).mp q
    subst e2
    exact ⟨_, h⟩
  step := fun ⟨e, vs, h, al⟩ k s => ⟨e, vs, k _ _ h (.inl ((e p).mpr rfl)), al.stp0 (fun a o q n => k a o q (.inr n)) s⟩
/-! ### comprehensions -/
def Ctx.blk (c : Ctx m₀ N₀ sc₀ lv₀ xp₀ fF₀ cm₀) (scope : Scope) (s : Shared) (H : Hp) (C : Addr) (cl : List (Str × Addr)) (fp : List Addr) (hso : ScOk (relS scope sc₀)) : Ctx m₀ N₀ (relS scope sc₀) lv₀ (fun _ _ _ => False) false cm₀ where
  X := c.X.blk s H scope (compEnvC scope cl C c.X.env) fp
  W := fun _ _ _ _ => False
  hm := ⟨c.hm.P, c.hm.w, c.hm.K, c.hm.mg, c.hm.base⟩
  hK := c.hK
  bl := c.bl
  hN := c.hN
  nd := c.nd
  hsc := by
    show relS scope c.X.env.scope = _
    rw [c.hsc]
  sok := hso
  calm := c.calm
  room := c.room
  un := c.un
  fs := fun z => absurd z Bool.false_ne_true
  tk := takes0
  fn := fun z => absurd z Bool.false_ne_true
  po := PassesOwn.never
/-- the block's readings, whatever the block's frame is -/
def tBE (X : Cx) (scope : Scope) (e : Expr) : TE := fun σ H Q => ∀ s H0 C cl fp, tE (X.blk s H0 scope (compEnvC scope cl C X.env) fp) e σ H Q
def tBT (X : Cx) (scope : Scope) (e : Expr) : TT := fun σ H Q => ∀ s H0 C cl fp, tT (X.blk s H0 scope (compEnvC scope cl C X.env) fp) e σ H Q
theorem pe_b {X : Cx} {scope : Scope} {e : Expr} (s H C cl fp) : PE (X.blk s H scope (compEnvC scope cl C X.env) fp) e (tBE X scope e) := ⟨fun pins s1 _ _ _ I h => h s H C cl fp pins s1 I⟩
theorem pt_b {X : Cx} {scope : Scope} {e : Expr} (s H C cl fp) : PT (X.blk s H scope (compEnvC scope cl C X.env) fp) e (tBT X scope e) := ⟨fun pins s1 _ _ _ I h => h s H C cl fp pins s1 I⟩
theorem xok_blk {scope : Scope} {s : Shared} {H0 : Hp} {C : Addr} {cl : List (Str × Addr)} {fp : List Addr} {hso : ScOk (relS scope sc₀)} {G : Fp} {H : Hp} : XOk (c.blk scope s H0 C cl fp hso) G H := fun _ _ _ _ _ _ _ _ _ z => z.elim
theorem set_un {G : Fp} {H : Hp} : ∀ {N ρ x i ρ'} {σ : L2.St}, SetS N ρ x i .un ρ' → EnvOk G H σ ρ → EnvOk G H (σ.set i none) ρ'
  | _, _, _, _, _, o :: σ, .zero, ⟨_, q⟩ => ⟨trivial, q⟩
  | _, _, _, _, _, o :: σ, .succ t, ⟨h, q⟩ => ⟨h, set_un (σ := σ) t q⟩
  | _, _, _, _, _, [], .zero, h => h.elim
  | _, _, _, _, _, [], .succ _, h => h.elim
theorem set_ix : ∀ {N ρ x i s ρ'} {j : Nat}, SetS N ρ x i s ρ' → IxOf N x j → N.Nodup → i = j
  | N, _, x, i, _, _, j, h, q, nd => nd_ix nd h.name q.get
/-- an element of a comprehension -/
def ElD (c : Ctx m₀ N₀ sc₀ lv₀ xp₀ fF₀ cm₀) (scope : Scope) (elt : Expr) (ρ2 : List Sl) (rs : List Mem) (d : PyData) : Prop := ∀ (A : Mem) s0 H0 C0 cl0 fp0 hso, DX (c.blk scope s0 H0 C0 cl0 fp0 hso) elt ρ2 (A :: rs) fun s r => s.plain = .d d ∧ r = A :: rs
def TsD (c : Ctx m₀ N₀ sc₀ lv₀ xp₀ fF₀ cm₀) (scope : Scope) (t : Expr) (ρ2 : List Sl) (rs : List Mem) (b : Bool) : Prop := ∀ (A : Mem) s0 H0 C0 cl0 fp0 hso, DT (c.blk scope s0 H0 C0 cl0 fp0 hso) t ρ2 (A :: rs) fun k r => k = b ∧ r = A :: rs
theorem lc_run {elt : Expr} {tt : TT} {scope : Scope} {j : Nat} {K : Sl → List Mem → Prop} (hso : ScOk (relS scope sc₀)) (hj : IxOf N₀ x j)
    (h : DI c (.Name x p2) it ρ rs fun items keep r => ∃ (α : Type) (xs : List α) (enc : α → Sl) (p : α → Bool) (h : α → PyData), items = xs.map enc ∧ (∀ A : Mem, keep (A :: r)) ∧ xs.length ≤ 100000 ∧
      (∃ ρw, SetS N₀ ρ x j .un ρw ∧ ∀ y ∈ xs, ∃ ρ2, SetS N₀ ρw x j (enc y) ρ2 ∧ (p y = true → ElD c scope elt ρ2 r (h y)) ∧
        ∀ (A : Mem) (σ : L2.St) (H : Hp) (G : Fp) (Q : Bool → Hp → Prop), EnvOk G H σ ρ2 → sepL (A :: r) G G H → (∀ H' G', Stp G G' H H' → sepL (A :: r) G' G' H' → Q (p y) H') → tt σ H Q) ∧
      K (.n ((xs.filter p).map h)) r)
    {σ : L2.St} {H : Hp} {G : Fp} {Q : VK} (he : EnvOk G H σ ρ) (hs : sepL rs G G H) (hx : XOk c G H) (hq : ∀ v H' G' sl rs', Stp G G' H H' → Rs G' H H' v sl → sepL rs' G' G' H' → K sl rs' → Q v H') :
    tLc (tI c.X (.Name x p2) it) (gName j) tt (tBE c.X scope elt) [j] σ H Q := by
  refine h σ H G _ he hs hx fun J H1 G1 items keep r1 t1 o1 jok k1 => ?_
  obtain ⟨α, xs, enc, p, hh, rfl, hk, hlen, ⟨ρw, hw, ht⟩, kend⟩ := k1
  intro D hD
  -- the new list at D is a thing of one's own meanwhile
  have key : ∀ (acc : List V) (G' : Fp) (H' : Hp) (ds : List PyData), H' D = some (.lst acc) → IsAll G' H' acc ds → G' D → sepL (lstM D (ds.map .d) :: r1) G' G' H' → True := fun _ _ _ _ _ _ _ _ => trivial
  have nG1 : ¬ G1 D := o1.fresh hD
  obtain ⟨tj, oj⟩ := sepL.join (A := lstM D []) (H' := upd H1 D (.lst [])) o1 (same_new hD) hD ⟨fun a => Iff.rfl, [], upd_same, trivial⟩
  refine ⟨fun i m H' => m = xs.length - i ∧ i ≤ xs.length ∧ ∃ G', Stp G1 G' H1 H' ∧ sepL (lstM D (((xs.take i).filter p).map (fun y => .d (hh y))) :: r1) G' G' H', ⟨_, rfl, Nat.zero_le _, _, tj, oj⟩, ?_⟩
  rintro i m H' ⟨rfl, hle, G', t2, o2⟩
  have jk := jok G' H' _ t2 o2 (hk _) i
  by_cases hlt : i < xs.length
  · have hgo := jk.1 (by simpa using hlt)
    refine .inr ⟨hgo.1, fun H2 => ∃ G2, Stp G1 G2 H1 H2 ∧ sepL (lstM D (((xs.take (i + 1)).filter p).map (fun y => .d (hh y))) :: r1) G2 G2 H2, fun H2 ⟨G2, a, b⟩ => ⟨_, by omega, rfl, by omega, G2, a, b⟩, fun v H2 yl => ?_⟩
    obtain ⟨rfl, sl, hsl, hy⟩ := hgo.2 v H2 yl
    have hsl' : sl = enc xs[i] := by
      rw [List.getElem?_map, List.getElem?_eq_getElem hlt] at hsl
      exact (Option.some.inj hsl).symm
    subst hsl'
    obtain ⟨ρ2, hset, hel, htt⟩ := ht xs[i] (List.getElem_mem hlt)
    have tk : xs.take (i + 1) = xs.take i ++ [xs[i]] := by simp
    have eEnv : EnvOk G' H2 ((wipe σ [j]).set j (some v)) ρ2 := hset.env hy (set_un hw ((he.stp t1).stp t2))
    refine ⟨?_, ?_⟩
    · show ((σ.set j none).set j (some v)).set j none = σ.set j none
      rw [List.set_set, List.set_set]
    refine htt _ _ H2 G' _ eEnv o2 fun H3 G3 t3 o3 => ?_
    cases hp : p xs[i] with
    | false =>
      show ∃ G2, _
      refine ⟨G3, t2.trans t3, ?_⟩
      rw [tk, List.filter_append, List.filter_cons, if_neg (by rw [hp]; exact Bool.false_ne_true)]
      simpa using o3
    | true =>
      show tBE c.X scope elt _ H3 _
      intro s0 H0 C0 cl0 fp0
      refine hel hp _ s0 H0 C0 cl0 fp0 hso _ H3 G3 _ (eEnv.stp t3) o3 xok_blk fun w H4 G4 s4 r4 t4 h4 o4 k4 => ?_
      obtain ⟨e4, rfl⟩ := k4
      have hw4 : Is G4 H4 w (hh xs[i]) := plain_d e4 h4.ok
      obtain ⟨F1, F2, ⟨eF, acc, hD4, al⟩, oR, dj, eG⟩ := id o4
      have hle4 : acc.length ≤ xs.length := by
        have := al.length
        rw [List.length_map] at this
        have l2 : ((xs.take i).filter p).length ≤ (xs.take i).length := List.length_filter_le _ _
        rw [List.length_take] at l2
        omega
      refine ⟨acc, hD4, Nat.lt_of_le_of_lt (Nat.le_trans hle4 hlen) (by decide), G4, ?_, ?_⟩
      · have t14 := (t2.trans t3).trans t4
        refine ⟨fun a o q n => ?_, t14.sub, fun a o q => ?_⟩
        · rw [upd_ne (ne_of_none q hD)]
          exact t14.keep a o q n
        · by_cases ea : a = D
          · subst ea; exact ⟨_, upd_same⟩
          · rw [upd_ne ea]; exact t14.old a o q
      · have kp : ∀ a o, H4 a = some o → ¬ F1 a → upd H4 D (.lst (acc ++ [w])) a = some o := fun a o q n => by
          rw [upd_ne fun z => n ((eF a).mpr z)]
          exact q
        have gD : G4 D := (eG D).mpr (.inl ((eF D).mpr rfl))
        have kG : ∀ a o, H4 a = some o → ¬ G4 a → upd H4 D (.lst (acc ++ [w])) a = some o := fun a o q n => kp a o q fun z => n ((eG a).mpr (.inl z))
        refine ⟨F1, F2, ⟨eF, acc ++ [w], upd_same, ?_⟩, sepL.step (fun a g => .inl g) oR (fun a o q z => kp a o q fun y => ?_), dj, eG⟩
        · rw [tk, List.filter_append, List.filter_cons, if_pos hp, List.filter_nil, List.map_append]
          exact (al.stp0 kG fun a g => .inl g).append ⟨hw4.stp0 kG fun a g => .inl g, trivial⟩
        · rcases z with z | z
          · exact dj a y z
          · exact z ((eG a).mpr (.inl y))
  · have hi : i = xs.length := by omega
    subst hi
    rw [List.take_length] at o2
    refine .inl ⟨jk.2 (by simp), ?_⟩
    obtain ⟨F1, G2, ⟨eF, acc, hD2, al⟩, dj, t3, o3⟩ := sepL.drop (Pick.zero) o2
    have al2 : SlAll G2 H' acc (((xs.filter p).map hh).map .d) := by
      rw [List.map_map]
      exact al.stp t3
    refine hq _ H' G2 (.n ((xs.filter p).map hh)) r1 ((t1.trans t2).trans t3) ⟨D, acc, rfl, t1.fresh hD, fun g => dj D ((eF D).mpr rfl) g, hD2, al2.is⟩ o3 kend
theorem dx_lc0 {elt : Expr} {scope : Scope} {j : Nat} {K : Sl → List Mem → Prop} (hj : IxOf N₀ x j) (hok : BlkOk N₀ sc₀ scope [(x, j)])
    (h : DI c (.Name x p2) it ρ rs fun items keep r => ∃ (α : Type) (xs : List α) (enc : α → Sl) (h : α → PyData), items = xs.map enc ∧ (∀ A : Mem, keep (A :: r)) ∧ xs.length ≤ 100000 ∧
      (∃ ρw, SetS N₀ ρ x j .un ρw ∧ ∀ y ∈ xs, ∃ ρ2, SetS N₀ ρw x j (enc y) ρ2 ∧ ElD c scope elt ρ2 r (h y)) ∧ K (.n (xs.map h)) r)
    (hso : ScOk (relS scope sc₀) := by decide +kernel) (hcm : cm₀ = true := by rfl) (hl : scope.names.lookup x = some .local := by rfl) (hr : (relS scope sc₀).names.lookup x = some .local := by rfl) (hf : ∀ y, foldedSetIterable it c.X.env y = pure y := by intro _; rfl) : DX c (.ListComp elt [⟨.Name x p2, it, [], 0⟩] scope pos) ρ rs K := by
  intro σ H G Q he hs hx hq
  have nd : c.X.N.Nodup := by rw [c.hN]; exact c.nd
  have hi : c.X.N[j]? = some x := by rw [c.hN]; exact hj.get
  refine tE_of (pe_lc (own := [(x, j)]) (g := gName j) (tt := tYes) (te := tBE c.X scope elt) (c.calm hcm) nd pi_t (by rw [c.hN, c.hsc]; exact hok) (fun s H C cl fp => pg_name nd hi (.inl (by show (relS scope c.X.env.scope).names.lookup x = _; rw [c.hsc]; exact hr)) (.inr (by show (relS scope c.X.env.scope).names.lookup x = _; rw [c.hsc]; exact hr))) (fun _ _ _ _ _ => pts_nil) (fun s H C cl fp => pe_b s H C cl fp) hf) ?_
  refine lc_run (K := K) hso hj ?_ he hs hx hq
  refine fun σ H G R a b d k => h σ H G R a b d fun J H' G' items keep rs' t o jo q => k J H' G' items keep rs' t o jo ?_
  obtain ⟨α, xs, enc, hh, e1, e2, e3, ⟨ρw, w1, w2⟩, e5⟩ := q
  refine ⟨α, xs, enc, fun _ => true, hh, e1, e2, e3, ⟨ρw, w1, fun y hy => ?_⟩, by
    have z : xs.filter (fun _ => true) = xs := List.filter_eq_self.mpr fun _ _ => rfl
    rw [z]; exact e5⟩
  obtain ⟨ρ2, s1, s2⟩ := w2 y hy
  exact ⟨ρ2, s1, fun _ => s2, fun A σ H G Q _ o2 hq => hq H G (Stp.refl _ _) o2⟩
theorem dx_lc1 {elt t : Expr} {scope : Scope} {j : Nat} {K : Sl → List Mem → Prop} (hj : IxOf N₀ x j) (hok : BlkOk N₀ sc₀ scope [(x, j)])
    (h : DI c (.Name x p2) it ρ rs fun items keep r => ∃ (α : Type) (xs : List α) (enc : α → Sl) (p : α → Bool) (h : α → PyData), items = xs.map enc ∧ (∀ A : Mem, keep (A :: r)) ∧ xs.length ≤ 100000 ∧
      (∃ ρw, SetS N₀ ρ x j .un ρw ∧ ∀ y ∈ xs, ∃ ρ2, SetS N₀ ρw x j (enc y) ρ2 ∧ TsD c scope t ρ2 r (p y) ∧ (p y = true → ElD c scope elt ρ2 r (h y))) ∧ K (.n ((xs.filter p).map h)) r)
    (hso : ScOk (relS scope sc₀) := by decide +kernel) (hcm : cm₀ = true := by rfl) (hl : scope.names.lookup x = some .local := by rfl) (hr : (relS scope sc₀).names.lookup x = some .local := by rfl) (hf : ∀ y, foldedSetIterable it c.X.env y = pure y := by intro _; rfl) : DX c (.ListComp elt [⟨.Name x p2, it, [t], 0⟩] scope pos) ρ rs K := by
  intro σ H G Q he hs hx hq
  have nd : c.X.N.Nodup := by rw [c.hN]; exact c.nd
  have hi : c.X.N[j]? = some x := by rw [c.hN]; exact hj.get
  refine tE_of (pe_lc (own := [(x, j)]) (g := gName j) (tt := tBT c.X scope t) (te := tBE c.X scope elt) (c.calm hcm) nd pi_t (by rw [c.hN, c.hsc]; exact hok) (fun s H C cl fp => pg_name nd hi (.inl (by show (relS scope c.X.env.scope).names.lookup x = _; rw [c.hsc]; exact hr)) (.inr (by show (relS scope c.X.env.scope).names.lookup x = _; rw [c.hsc]; exact hr))) (fun s H C cl fp => pts_one (pt_b s H C cl fp)) (fun s H C cl fp => pe_b s H C cl fp) hf) ?_
  refine lc_run (K := K) hso hj ?_ he hs hx hq
  refine fun σ H G R a b d k => h σ H G R a b d fun J H' G' items keep rs' t o jo q => k J H' G' items keep rs' t o jo ?_
  obtain ⟨α, xs, enc, p, hh, e1, e2, e3, ⟨ρw, w1, w2⟩, e5⟩ := q
  refine ⟨α, xs, enc, p, hh, e1, e2, e3, ⟨ρw, w1, fun y hy => ?_⟩, e5⟩
  obtain ⟨ρ2, s1, s2, s3⟩ := w2 y hy
  refine ⟨ρ2, s1, s3, fun A σ H G Q ee o2 hq => ?_⟩
  intro s0 H0 C0 cl0 fp0
  refine s2 A s0 H0 C0 cl0 fp0 hso σ H G _ ee o2 xok_blk fun k H1 G1 r1 t1 o1 k1 => ?_
  obtain ⟨rfl, rfl⟩ := k1
  exact hq H1 G1 t1 o1
/-- y = [..] -/
theorem ds_lc0 {P : Post} {y : Str} {py : Pos} {i : Nat} {elt : Expr} {scope : Scope} {j : Nat} (hiy : IxOf N₀ y i) (hj : IxOf N₀ x j) (hok : BlkOk N₀ sc₀ scope [(x, j)])
    (h : DI c (.Name x p2) it ρ rs fun items keep r => ∃ (α : Type) (xs : List α) (enc : α → Sl) (h : α → PyData), items = xs.map enc ∧ (∀ A : Mem, keep (A :: r)) ∧ xs.length ≤ 100000 ∧
      (∃ ρw, SetS N₀ ρ x j .un ρw ∧ ∀ y ∈ xs, ∃ ρ2, SetS N₀ ρw x j (enc y) ρ2 ∧ ElD c scope elt ρ2 r (h y)) ∧ ∃ ρ', SetS N₀ ρ y i (.d (.list (xs.map h))) ρ' ∧ P.nx ρ' r)
    (hso : ScOk (relS scope sc₀) := by decide +kernel) (hcm : cm₀ = true := by rfl) (hl : scope.names.lookup x = some .local := by rfl) (hr : (relS scope sc₀).names.lookup x = some .local := by rfl) (hyl : sc₀.names.lookup y = some .local := by rfl) (hkd : sc₀.kind = .function := by rfl) (hln : (py.line == pos.line) = true := by rfl) (hny : (scope.names.any fun (n, k) => n == y && (k == .local || k == .cell)) = false := by first | rfl | decide +kernel)
    (hf : ∀ y, foldedSetIterable it c.X.env y = pure y := by intro _; rfl) : DS c (.Assign [.Name y py] (.ListComp elt [⟨.Name x p2, it, [], 0⟩] scope pos) pos') ρ rs P := by
  intro σ H G D he hs hx hd
  have nd : c.X.N.Nodup := by rw [c.hN]; exact c.nd
  have hi : c.X.N[j]? = some x := by rw [c.hN]; exact hj.get
  have hyi : c.X.N[i]? = some y := by rw [c.hN]; exact hiy.get
  refine tS_of (ps_setLc (own := [(x, j)]) (g := gName j) (tt := tYes) (te := tBE c.X scope elt) (c.calm hcm) nd hyi (by rw [c.hsc]; exact hyl) (sw_true (by rw [c.hsc]; exact hkd) (by rw [c.hsc]; exact hyl) hln hny) pi_t (by rw [c.hN, c.hsc]; exact hok) (fun s H C cl fp => pg_name nd hi (.inl (by show (relS scope c.X.env.scope).names.lookup x = _; rw [c.hsc]; exact hr)) (.inr (by show (relS scope c.X.env.scope).names.lookup x = _; rw [c.hsc]; exact hr))) (fun _ _ _ _ _ => pts_nil) (fun s H C cl fp => pe_b s H C cl fp) hf) ?_
  refine lc_run (K := fun s r => ∃ ρ', SetS N₀ ρ y i s.plain ρ' ∧ P.nx ρ' r) (Q := fun v H' => D.nx (σ.set i (some v)) H') hso hj ?_ he hs hx fun v H' G' sl r' t q o ⟨ρ', z, k⟩ => hd.nx _ H' G' ρ' r' t (z.env q.ok.plain (he.stp t)) o k
  refine fun σ H G R a b d k => h σ H G R a b d fun J H' G' items keep rs' t o jo q => k J H' G' items keep rs' t o jo ?_
  obtain ⟨α, xs, enc, hh, e1, e2, e3, ⟨ρw, w1, w2⟩, e5⟩ := q
  refine ⟨α, xs, enc, fun _ => true, hh, e1, e2, e3, ⟨ρw, w1, fun y hy => ?_⟩, by
    have z : xs.filter (fun _ => true) = xs := List.filter_eq_self.mpr fun _ _ => rfl
    rw [z]; exact e5⟩
  obtain ⟨ρ2, s1, s2⟩ := w2 y hy
  exact ⟨ρ2, s1, fun _ => s2, fun A σ H G Q _ o2 hq => hq H G (Stp.refl _ _) o2⟩
/-- y = [..] -/
theorem ds_lc1 {P : Post} {y : Str} {py : Pos} {i : Nat} {elt t : Expr} {scope : Scope} {j : Nat} (hiy : IxOf N₀ y i) (hj : IxOf N₀ x j) (hok : BlkOk N₀ sc₀ scope [(x, j)])
    (h : DI c (.Name x p2) it ρ rs fun items keep r => ∃ (α : Type) (xs : List α) (enc : α → Sl) (p : α → Bool) (h : α → PyData), items = xs.map enc ∧ (∀ A : Mem, keep (A :: r)) ∧ xs.length ≤ 100000 ∧
      (∃ ρw, SetS N₀ ρ x j .un ρw ∧ ∀ y ∈ xs, ∃ ρ2, SetS N₀ ρw x j (enc y) ρ2 ∧ TsD c scope t ρ2 r (p y) ∧ (p y = true → ElD c scope elt ρ2 r (h y))) ∧ ∃ ρ', SetS N₀ ρ y i (.d (.list ((xs.filter p).map h))) ρ' ∧ P.nx ρ' r)
    (hso : ScOk (relS scope sc₀) := by decide +kernel) (hcm : cm₀ = true := by rfl) (hl : scope.names.lookup x = some .local := by rfl) (hr : (relS scope sc₀).names.lookup x = some .local := by rfl) (hyl : sc₀.names.lookup y = some .local := by rfl) (hkd : sc₀.kind = .function := by rfl) (hln : (py.line == pos.line) = true := by rfl) (hny : (scope.names.any fun (n, k) => n == y && (k == .local || k == .cell)) = false := by first | rfl | decide +kernel)
    (hf : ∀ y, foldedSetIterable it c.X.env y = pure y := by intro _; rfl) : DS c (.Assign [.Name y py] (.ListComp elt [⟨.Name x p2, it, [t], 0⟩] scope pos) pos') ρ rs P := by
  intro σ H G D he hs hx hd
  have nd : c.X.N.Nodup := by rw [c.hN]; exact c.nd
  have hi : c.X.N[j]? = some x := by rw [c.hN]; exact hj.get
  have hyi : c.X.N[i]? = some y := by rw [c.hN]; exact hiy.get
  refine tS_of (ps_setLc (own := [(x, j)]) (g := gName j) (tt := tBT c.X scope t) (te := tBE c.X scope elt) (c.calm hcm) nd hyi (by rw [c.hsc]; exact hyl) (sw_true (by rw [c.hsc]; exact hkd) (by rw [c.hsc]; exact hyl) hln hny) pi_t (by rw [c.hN, c.hsc]; exact hok) (fun s H C cl fp => pg_name nd hi (.inl (by show (relS scope c.X.env.scope).names.lookup x = _; rw [c.hsc]; exact hr)) (.inr (by show (relS scope c.X.env.scope).names.lookup x = _; rw [c.hsc]; exact hr))) (fun s H C cl fp => pts_one (pt_b s H C cl fp)) (fun s H C cl fp => pe_b s H C cl fp) hf) ?_
  refine lc_run (K := fun s r => ∃ ρ', SetS N₀ ρ y i s.plain ρ' ∧ P.nx ρ' r) (Q := fun v H' => D.nx (σ.set i (some v)) H') hso hj ?_ he hs hx fun v H' G' sl r' t q o ⟨ρ', z, k⟩ => hd.nx _ H' G' ρ' r' t (z.env q.ok.plain (he.stp t)) o k
  refine fun σ H G R a b d k => h σ H G R a b d fun J H' G' items keep rs' t o jo q => k J H' G' items keep rs' t o jo ?_
  obtain ⟨α, xs, enc, p, hh, e1, e2, e3, ⟨ρw, w1, w2⟩, e5⟩ := q
  refine ⟨α, xs, enc, p, hh, e1, e2, e3, ⟨ρw, w1, fun y hy => ?_⟩, e5⟩
  obtain ⟨ρ2, s1, s2, s3⟩ := w2 y hy
  refine ⟨ρ2, s1, s3, fun A σ H G Q ee o2 hq => ?_⟩
  intro s0 H0 C0 cl0 fp0
  refine s2 A s0 H0 C0 cl0 fp0 hso σ H G _ ee o2 xok_blk fun k H1 G1 r1 t1 o1 k1 => ?_
  obtain ⟨rfl, rfl⟩ := k1
  exact hq H1 G1 t1 o1
end
end PW

set_option maxHeartbeats 1000000
/-! Calls: built-ins, defs by their contracts. -/
namespace PW
open PySem L2
variable [KC]
variable {m₀ : Mo} {N₀ : List Str} {sc₀ : Scope} {lv₀ : Nat} {xp₀ : Addr → List Sl → List Mem → Prop} {fF₀ cm₀ : Bool}

section
variable {c : Ctx m₀ N₀ sc₀ lv₀ xp₀ fF₀ cm₀} {e a b : Expr} {es : List Expr} {ρ ρ' : List Sl} {rs : List Mem} {K : Sl → List Mem → Prop} {x : Str} {pos pos' p2 : Pos} {s : Sl} {ds : List PyData} {d : PyData}
theorem c_gl (hg : KdIn sc₀.names x .globalImplicit) : Gl c.X x := by
  show c.X.env.kindOf x = _
  unfold Env.kindOf
  rw [c.hsc]; exact c.look hg
theorem dx_callB {id : String} {r : List V → Hp → VK → Prop} (hc : CallR c.X (.builtin id) r) (hm : m₀.mg x = none) (hv : bootBuiltins x = some (.builtin id)) (h : DA c (e :: es) ρ rs fun ss r1 => CaD r ss r1 K) (hg : KdIn sc₀.names x .globalImplicit := by first | ((with_reducible (repeat (first | exact KdIn.zero | apply KdIn.succ))); (first | (all_goals fail) | fail)) | exact kd_of rfl)
     (he : starEach (e :: es) c.X.env = (false, eval e c.X.env) :: starEach es c.X.env := by rfl) (hpl : (backTo pos (starEach es c.X.env)).any (·.1) = false := by rfl) :
    DX c (.Call (.Name x p2) (e :: es) [] pos) ρ rs K := by
  intro σ H G Q hE hs hx hq
  refine tE_of (pe_callB hc (c_gl hg) (by rw [c.hm.mg]; exact hm) hv pa_t (c.nd3 hg) (c.nd1 hg) he hpl) ?_
  refine h σ H G _ hE hs hx fun vs H1 G1 ss r1 t1 h1 o1 k1 => ?_
  exact k1 G1 H1 vs Q h1 o1 fun v H' G' sl rs' t2 h2 o2 k2 => hq v H' G' sl rs' (t1.trans t2) (h2.back t1) o2 k2
theorem dx_callTy {T : String} {r : List V → Hp → VK → Prop} (hc : CallR c.X (.type T) r) (hm : m₀.mg x = none) (hv : bootBuiltins x = some (.type T)) (h : DA c (e :: es) ρ rs fun ss r1 => CaD r ss r1 K) (hg : KdIn sc₀.names x .globalImplicit := by first | ((with_reducible (repeat (first | exact KdIn.zero | apply KdIn.succ))); (first | (all_goals fail) | fail)) | exact kd_of rfl)
     (he : starEach (e :: es) c.X.env = (false, eval e c.X.env) :: starEach es c.X.env := by rfl) (hpl : (backTo pos (starEach es c.X.env)).any (·.1) = false := by rfl) :
    DX c (.Call (.Name x p2) (e :: es) [] pos) ρ rs K := by
  intro σ H G Q hE hs hx hq
  refine tE_of (pe_callTy hc (c_gl hg) (by rw [c.hm.mg]; exact hm) hv pa_t (c.nd3 hg) (c.nd1 hg) he hpl) ?_
  refine h σ H G _ hE hs hx fun vs H1 G1 ss r1 t1 h1 o1 k1 => ?_
  exact k1 G1 H1 vs Q h1 o1 fun v H' G' sl rs' t2 h2 o2 k2 => hq v H' G' sl rs' (t1.trans t2) (h2.back t1) o2 k2
/-- a built-in class by its name, not called -/
theorem dx_ty {T : String} (hm : m₀.mg x = none) (hv : bootBuiltins x = some (.type T)) (k : K (.r (.ty T)) rs) (hg : KdIn sc₀.names x .globalImplicit := by first | ((with_reducible (repeat (first | exact KdIn.zero | apply KdIn.succ))); (first | (all_goals fail) | fail)) | exact kd_of rfl)  : DX c (.Name x pos) ρ rs K := by
  intro σ H G Q hE hs hx hq
  refine tE_of (pe_bltn (v := .ty T) (c_gl hg) (by rw [c.hm.mg]; exact hm) hv rfl (c.nd3 hg) (c.nd1 hg)) ?_
  exact hq (.ty T) H G (.r (.ty T)) rs (Stp.refl _ _) rfl hs k
theorem b_len : bootBuiltins ("len" : Str) = some (.builtin "len") := by decide +kernel
theorem b_isi : bootBuiltins ("isinstance" : Str) = some (.builtin "isinstance") := by decide +kernel
theorem b_min : bootBuiltins ("min" : Str) = some (.builtin "min") := by decide +kernel
theorem b_max : bootBuiltins ("max" : Str) = some (.builtin "max") := by decide +kernel
theorem b_sorted : bootBuiltins ("sorted" : Str) = some (.builtin "sorted") := by decide +kernel
theorem b_int : bootBuiltins ("int" : Str) = some (.type "int") := by decide +kernel
theorem b_bool : bootBuiltins ("bool" : Str) = some (.type "bool") := by decide +kernel
theorem b_str : bootBuiltins ("str" : Str) = some (.type "str") := by decide +kernel
theorem b_list : bootBuiltins ("list" : Str) = some (.type "list") := by decide +kernel
theorem b_tuple : bootBuiltins ("tuple" : Str) = some (.type "tuple") := by decide +kernel
theorem b_dict : bootBuiltins ("dict" : Str) = some (.type "dict") := by decide +kernel
theorem b_VE : bootBuiltins ("ValueError" : Str) = some (.type "ValueError") := by decide +kernel
theorem dx_tint (k : K (.r (.ty "int")) rs) (hg : KdIn sc₀.names ("int" : Str) .globalImplicit := by first | ((with_reducible (repeat (first | exact KdIn.zero | apply KdIn.succ))); (first | (all_goals fail) | fail)) | exact kd_of rfl) : DX c (.Name "int" pos) ρ rs K := dx_ty c.bl.int b_int k hg
theorem dx_tbool (k : K (.r (.ty "bool")) rs) (hg : KdIn sc₀.names ("bool" : Str) .globalImplicit := by first | ((with_reducible (repeat (first | exact KdIn.zero | apply KdIn.succ))); (first | (all_goals fail) | fail)) | exact kd_of rfl) : DX c (.Name "bool" pos) ρ rs K := dx_ty c.bl.bool b_bool k hg
theorem dx_tstr (k : K (.r (.ty "str")) rs) (hg : KdIn sc₀.names ("str" : Str) .globalImplicit := by first | ((with_reducible (repeat (first | exact KdIn.zero | apply KdIn.succ))); (first | (all_goals fail) | fail)) | exact kd_of rfl) : DX c (.Name "str" pos) ρ rs K := dx_ty c.bl.str b_str k hg
theorem dx_tlist (k : K (.r (.ty "list")) rs) (hg : KdIn sc₀.names ("list" : Str) .globalImplicit := by first | ((with_reducible (repeat (first | exact KdIn.zero | apply KdIn.succ))); (first | (all_goals fail) | fail)) | exact kd_of rfl) : DX c (.Name "list" pos) ρ rs K := dx_ty c.bl.list b_list k hg
theorem dx_ttuple (k : K (.r (.ty "tuple")) rs) (hg : KdIn sc₀.names ("tuple" : Str) .globalImplicit := by first | ((with_reducible (repeat (first | exact KdIn.zero | apply KdIn.succ))); (first | (all_goals fail) | fail)) | exact kd_of rfl) : DX c (.Name "tuple" pos) ρ rs K := dx_ty c.bl.tuple b_tuple k hg
/-! ### len -/
def LenD (s : Sl) (rs : List Mem) (K : Sl → List Mem → Prop) : Prop := CaD (fun xs H Q => ∃ x n, xs = [x] ∧ LenV KC.K x H n ∧ Q (.int n) H) [s] rs K
theorem ld_seq (h : s.asSeq = some ds) (k : K (.d (.int ds.length)) rs) : LenD s rs K := fun G H vs Q hv hs hq => by
  match vs, hv with
  | [v], hv =>
    obtain ⟨p, ws, rfl, r, al⟩ := hv.1.seq h
    refine ⟨.ref p, ds.length, rfl, ?_, give0 hs hq (sl := .d (.int ds.length)) (Is.int _) k⟩
    rcases r with r | r
    · exact .inl ⟨ws, r.sq, al.length.symm⟩
    · exact .inr ⟨ws, .inl r, al.length.symm⟩
theorem ld_str {z : Str} (hz : z.length ≤ 100000) (k : K (.d (.int z.length)) rs) : LenD (.d (.str z)) rs K := fun G H vs Q hv hs hq => by
  match vs, hv with
  | [v], hv =>
    refine ⟨v, z.length, rfl, ?_, give0 hs hq (sl := .d (.int z.length)) (Is.int _) k⟩
    rw [hv.1.str]
    exact ⟨Nat.le_trans hz (by decide), rfl⟩
theorem dx_len (h : DX c a ρ rs fun s r1 => LenD s.plain r1 K) (hg : KdIn sc₀.names ("len" : Str) .globalImplicit := by first | ((with_reducible (repeat (first | exact KdIn.zero | apply KdIn.succ))); (first | (all_goals fail) | fail)) | exact kd_of rfl) (he : starEach [a] c.X.env = (false, eval a c.X.env) :: starEach [] c.X.env := by rfl) : DX c (.Call (.Name "len" p2) [a] [] pos) ρ rs K :=
  dx_callB (c.ck ▸ call_len) c.bl.len b_len (da_cons (fun σ H G Q a1 a2 a3 a4 => h σ H G Q a1 a2 a3 fun v H' G' sl rs' t r o k => a4 v H' G' sl rs' t r o (da_nil k)) he) hg (he := he) (hpl := rfl)
/-! ### isinstance -/
def tyD : PyData → String
  | .none => "NoneType" | .bool _ => "bool" | .int _ => "int" | .str _ => "str" | .list _ => "list" | .tuple _ => "tuple" | .dict _ => "dict"
def isD (T : String) : PyData → Bool
  | .none => false
  | .bool _ => T == "bool" || T == "int"
  | .int _ => T == "int"
  | .str _ => T == "str"
  | .list _ => T == "list"
  | .tuple _ => T == "tuple"
  | .dict _ => T == "dict"
theorem tyx {G : Fp} {H : Hp} {v : V} (h : Is G H v d) : TyX KC.K H v (.type (tyD d)) := by
  cases h with
  | non => exact .base .non
  | bl b => exact .base (.bl b)
  | int b => exact .base (.int b)
  | str b => exact .base (.str b)
  | lst r _ =>
    rcases r with ⟨r | ⟨o, r⟩, _⟩ | ⟨o, its, n, h1, h2, _⟩
    · exact .base (.lst r)
    · exact .base (.frz r)
    · exact .kList h1 h2
  | tup r _ _ =>
    rcases r with r | ⟨o, r⟩
    · exact .base (.tup r)
    · exact .fTuple r
theorem kits : ∀ T ∈ ["int", "bool", "str", "list", "tuple"], ∀ a ∈ ["NoneType", "bool", "int", "str", "list", "tuple"], kitB a T = some ((a == "bool" && (T == "bool" || T == "int")) || (a != "bool" && a == T)) := by decide +kernel
theorem kit_d {T : String} (hT : T ∈ ["int", "bool", "str", "list", "tuple"]) (hd : ∀ kvs, d ≠ .dict kvs) : kitB (tyD d) T = some (isD T d) := by
  have q := kits T hT (tyD d) (by cases d with
    | dict kvs => exact absurd rfl (hd kvs)
    | _ => simp [tyD])
  rw [q]
  simp only [List.mem_cons, List.not_mem_nil, or_false] at hT
  cases d with
  | dict kvs => exact absurd rfl (hd kvs)
  | _ => rcases hT with rfl | rfl | rfl | rfl | rfl <;> rfl
theorem is_nodict {G : Fp} {H : Hp} {v : V} (h : Is G H v d) : ∀ kvs, d ≠ .dict kvs := by
  intro kvs e; subst e; cases h
theorem cd_isi {T : String} (hT : T ∈ ["int", "bool", "str", "list", "tuple"]) (h : s.plain = .d d) (k : K (.d (.bool (isD T d))) rs) : CaD (rIsi KC.K) [s, .r (.ty T)] rs K := fun G H vs Q hv hs hq => by
  match vs, hv with
  | [v, w], hv =>
    have hI := plain_d h hv.1
    have hw : w = .ty T := hv.2.1
    subst hw
    exact ⟨v, .ty T, .type (tyD d), .type T, _, rfl, .ty T, tyx hI, kit_ty (kit_d hT (is_nodict hI)), give0 hs hq (sl := .d (.bool (isD T d))) (Is.bl _) k⟩
theorem dx_isi (h : DA c [a, b] ρ rs fun ss r1 => CaD (rIsi KC.K) ss r1 K) (hg : KdIn sc₀.names ("isinstance" : Str) .globalImplicit := by first | ((with_reducible (repeat (first | exact KdIn.zero | apply KdIn.succ))); (first | (all_goals fail) | fail)) | exact kd_of rfl) (he : starEach (a :: [b]) c.X.env = (false, eval a c.X.env) :: starEach [b] c.X.env := by rfl)
    (hpl : (backTo pos (starEach [b] c.X.env)).any (·.1) = false := by rfl) : DX c (.Call (.Name "isinstance" p2) [a, b] [] pos) ρ rs K := dx_callB (c.ck ▸ call_isi) c.bl.isinstance b_isi h hg (he := he) (hpl := hpl)
/-! ### list(xs), min, max -/
theorem cd_list (h : s.asSeq = some ds) (k : K (.n ds) rs) : CaD (fun xs H Q => ∃ p ys, xs = [.ref p] ∧ (SqL KC.K H p ys ∨ SqT KC.K H p ys) ∧ ∀ l, H l = none → Q (.ref l) (upd H l (.lst ys))) [s] rs K := fun G H vs Q hv hs hq => by
  match vs, hv with
  | [v], hv =>
    obtain ⟨p, ws, rfl, r, al⟩ := hv.1.seq h
    refine ⟨p, ws, rfl, r.imp LsAt.sq .inl, fun l hl => ?_⟩
    exact give hs hq (sl := .n ds) (same_new hl) ⟨l, ws, rfl, hl, hs.fresh hl, upd_same, al.stp (stp_new hl)⟩ k
theorem dx_list (h : DX c a ρ rs fun s r1 => ∃ ds, s.plain.asSeq = some ds ∧ K (.n ds) r1) (hg : KdIn sc₀.names ("list" : Str) .globalImplicit := by first | ((with_reducible (repeat (first | exact KdIn.zero | apply KdIn.succ))); (first | (all_goals fail) | fail)) | exact kd_of rfl) (he : starEach [a] c.X.env = (false, eval a c.X.env) :: starEach [] c.X.env := by rfl) :
    DX c (.Call (.Name "list" p2) [a] [] pos) ρ rs K :=
  dx_callTy (c.ck ▸ call_list_of) c.bl.list b_list (da_cons (fun σ H G Q a1 a2 a3 a4 => h σ H G Q a1 a2 a3 fun v H' G' sl rs' t r o ⟨ds, e, k⟩ => a4 v H' G' sl rs' t r o (da_nil (cd_list e k))) he) hg (he := he) (hpl := rfl)
theorem cd_min {i j : Int} (k : K (.d (.int (if j < i then j else i))) rs) : CaD (fun xs H Q => ∃ i j, xs = [.int i, .int j] ∧ Q (.int (if j < i then j else i)) H) [.d (.int i), .d (.int j)] rs K := fun G H vs Q hv hs hq => by
  match vs, hv with
  | [v, w], hv => exact ⟨i, j, by rw [hv.1.int, hv.2.1.int], give0 hs hq (sl := .d (.int _)) (Is.int _) k⟩
theorem cd_max {i j : Int} (k : K (.d (.int (if j > i then j else i))) rs) : CaD (fun xs H Q => ∃ i j, xs = [.int i, .int j] ∧ Q (.int (if j > i then j else i)) H) [.d (.int i), .d (.int j)] rs K := fun G H vs Q hv hs hq => by
  match vs, hv with
  | [v, w], hv => exact ⟨i, j, by rw [hv.1.int, hv.2.1.int], give0 hs hq (sl := .d (.int _)) (Is.int _) k⟩
theorem dx_min (h : DA c [a, b] ρ rs fun ss r1 => CaD (fun xs H Q => ∃ i j, xs = [.int i, .int j] ∧ Q (.int (if j < i then j else i)) H) ss r1 K) (hg : KdIn sc₀.names ("min" : Str) .globalImplicit := by first | ((with_reducible (repeat (first | exact KdIn.zero | apply KdIn.succ))); (first | (all_goals fail) | fail)) | exact kd_of rfl)
    (hcm : cm₀ = true := by rfl) (he : starEach (a :: [b]) c.X.env = (false, eval a c.X.env) :: starEach [b] c.X.env := by rfl) (hpl : (backTo pos (starEach [b] c.X.env)).any (·.1) = false := by rfl) : DX c (.Call (.Name "min" p2) [a, b] [] pos) ρ rs K := dx_callB (call_min2 (c.calm hcm)) c.bl.min b_min h hg (he := he) (hpl := hpl)
theorem dx_max (h : DA c [a, b] ρ rs fun ss r1 => CaD (fun xs H Q => ∃ i j, xs = [.int i, .int j] ∧ Q (.int (if j > i then j else i)) H) ss r1 K) (hg : KdIn sc₀.names ("max" : Str) .globalImplicit := by first | ((with_reducible (repeat (first | exact KdIn.zero | apply KdIn.succ))); (first | (all_goals fail) | fail)) | exact kd_of rfl)
    (hcm : cm₀ = true := by rfl) (he : starEach (a :: [b]) c.X.env = (false, eval a c.X.env) :: starEach [b] c.X.env := by rfl) (hpl : (backTo pos (starEach [b] c.X.env)).any (·.1) = false := by rfl) : DX c (.Call (.Name "max" p2) [a, b] [] pos) ρ rs K := dx_callB (call_max2 (c.calm hcm)) c.bl.max b_max h hg (he := he) (hpl := hpl)
end

/-! ### contracts -/
/-- from the arguments and the things handed over: what comes back with what things, or which class is raised with what things -/
abbrev Cn := List Sl → List Mem → (Sl → List Mem → Prop) → (Addr → List Mem → Prop) → Prop
def spC (C : Cn) : Sp := fun vs H Q E => ∃ (ss : List Sl) (fr : Mem) (rin : List Mem) (G : Fp) (res : Sl → List Mem → Prop) (exc : Addr → List Mem → Prop), SlAll G H vs ss ∧ sepL (rin ++ [fr]) G G H ∧ C ss rin res exc ∧
  (∀ v H' G' sl rs', Stp G G' H H' → Rs G' H H' v sl → sepL (rs' ++ [fr]) G' G' H' → res sl rs' → Q v H') ∧ (∀ D H' G' rs', Stp G G' H H' → sepL (rs' ++ [fr]) G' G' H' → exc D rs' → E (.ref D) none H')
/-- the def named x of the module keeps C, with room k -/
structure FnIs (m : Mo) (x : Str) (k : Nat) (C : Cn) : Prop where
  ex : ∃ f fd ps, FnOk m.P m.w m.K m.mg m.base (L2.CX m.P m.w) k f fd ps (spC C) ∧ m.mg x = some (.ref f) ∧ PySem.W.keepIn m.K (.ref f) = true ∧ Binds m.K fd ps []
/-- the method x of the class at D -/
structure MtIs (m : Mo) (D : Addr) (x : Str) (k : Nat) (C : Cn) : Prop where
  ex : ∃ f fd ps, FnOk m.P m.w m.K m.mg m.base (L2.CX m.P m.w) k f fd ps (spC C) ∧ Meth m.K D x f ∧ Binds m.K fd ps []
theorem sepM_app {H : Hp} {G F : Fp} {xs ys : List Mem} : sepL (xs ++ [sepM ys]) F G H ↔ sepL (xs ++ ys) F G H := by
  constructor
  · intro h
    obtain ⟨F1, F2, h1, ⟨F3, F4, h3, h4, d4, e4⟩, d, e⟩ := sepL.app.mp h
    refine sepL.app.mpr ⟨F1, F3, h1, h3, fun a z y => d a z ((e4 a).mpr (.inl y)), fun a => ?_⟩
    rw [e a, e4 a]
    exact ⟨fun z => z.imp id fun z => z.elim id fun z => absurd z (h4 a), fun z => z.imp id .inl⟩
  · intro h
    obtain ⟨F1, F2, h1, h2, d, e⟩ := sepL.app.mp h
    exact sepL.app.mpr ⟨F1, F2, h1, ⟨F2, fun _ => False, h2, fun _ z => z, fun _ _ z => z, fun a => ⟨.inl, fun z => z.elim id False.elim⟩⟩, d, e⟩
section
variable {c : Ctx m₀ N₀ sc₀ lv₀ xp₀ fF₀ cm₀} {e a b : Expr} {es : List Expr} {ρ ρ' : List Sl} {rs : List Mem} {K : Sl → List Mem → Prop} {x : Str} {pos pos' p2 apos : Pos} {k : Nat} {C : Cn}
theorem fn_at {m : Mo} {X : Cx} (h : m.Of X) {f : Addr} {fd : FuncData} {ps : List Str} {sp : Sp} (F : FnOk m.P m.w m.K m.mg m.base (L2.CX m.P m.w) k f fd ps sp) : FnOk X.prog X.w X.K X.mg X.base (L2.CX X.prog X.w) k f fd ps sp := by
  obtain ⟨P, w, K, mg, base⟩ := m
  obtain ⟨h1, h2, h3, h4, h5⟩ := h
  dsimp only at h1 h2 h3 h4 h5 F
  subst h1 h2 h3 h4 h5
  exact F
/-- how a call ends, by the contract -/
def CallEnd (c : Ctx m₀ N₀ sc₀ lv₀ xp₀ fF₀ cm₀) (C : Cn) (ss : List Sl) (ρ : List Sl) (r1 : List Mem) (K : Sl → List Mem → Prop) : Prop :=
  ∀ (σ : L2.St) (H : Hp) (G : Fp) (vs : List V) (Q : VK), EnvOk G H σ ρ → sepL r1 G G H → XOk c G H → SlAll G H vs ss →
    (∀ v H' G' sl rs', Stp G G' H H' → Rs G' H H' v sl → sepL rs' G' G' H' → K sl rs' → Q v H') → spC C vs H Q (WE c.W σ)
theorem CallEnd.run {ss : List Sl} {r1 : List Mem} (h : CallEnd c C ss ρ r1 K) {σ : L2.St} {H : Hp} {G : Fp} {vs : List V} {Q : VK} (he : EnvOk G H σ ρ) (hs : sepL r1 G G H) (hx : XOk c G H) (hv : SlAll G H vs ss)
    (hq : ∀ v H' G' sl rs', Stp G G' H H' → Rs G' H H' v sl → sepL rs' G' G' H' → K sl rs' → Q v H') : spC C vs H Q (WE c.W σ) := h σ H G vs Q he hs hx hv hq
theorem dx_call (F : FnIs m₀ x k C) (h : DA c (e :: es) ρ rs fun ss r1 => CallEnd c C ss ρ r1 K) (hcm : cm₀ = true := by rfl) (hk : k ≤ lv₀ := by decide) (hg : KdIn sc₀.names x .globalImplicit := by first | ((with_reducible (repeat (first | exact KdIn.zero | apply KdIn.succ))); (first | (all_goals fail) | fail)) | exact kd_of rfl)
    (he : starEach (e :: es) c.X.env = (false, eval e c.X.env) :: starEach es c.X.env := by rfl) (hpl : (backTo pos (starEach es c.X.env)).any (·.1) = false := by rfl) : DX c (.Call (.Name x p2) (e :: es) [] pos) ρ rs K := by
  intro σ H G Q hE hs hx hq
  obtain ⟨f, fd, ps, F, h1, h2, h3⟩ := F.ex
  refine tE_of (pe_callS (fn_at c.hm F) ((c.room hcm).mono hk) (c_gl hg) (by rw [c.hm.mg]; exact h1) (by rw [c.hm.K]; exact h2) (by rw [c.hm.K]; exact h3) (fun σ => passAt c.tk σ) pa_t (c.nd1 hg) he hpl) ?_
  refine h σ H G _ hE hs hx fun vs H1 G1 ss r1 t1 q1 o1 k1 => ?_
  exact k1.run (hE.stp t1) o1 (hx.stp t1) q1 fun v H' G' sl rs' t2 h2 o2 k2 => hq v H' G' sl rs' (t1.trans t2) (h2.back t1) o2 k2
/-- without arguments: nothing is raised -/
theorem dx_call0 (F : FnIs m₀ x k C) (h : C [] [] (fun s r2 => K s (r2 ++ rs)) (fun _ _ => False)) (hcm : cm₀ = true := by rfl) (hk : k ≤ lv₀ := by decide) (hg : KdIn sc₀.names x .globalImplicit := by first | ((with_reducible (repeat (first | exact KdIn.zero | apply KdIn.succ))); (first | (all_goals fail) | fail)) | exact kd_of rfl) : DX c (.Call (.Name x p2) [] [] pos) ρ rs K := by
  intro σ H G Q hE hs hx hq
  obtain ⟨f, fd, ps, F, h1, h2, h3⟩ := F.ex
  refine tE_of (pe_call0 (fn_at c.hm F) ((c.room hcm).mono hk) (c_gl hg) (by rw [c.hm.mg]; exact h1) (by rw [c.hm.K]; exact h2) (by rw [c.hm.K]; exact h3) .nil passL (c.nd1 hg)) ?_
  refine ⟨[], sepM rs, [], G, _, _, trivial, sepM_app.mpr hs, h, fun v H' G' sl rs' t r o k => hq v H' G' sl _ t r (sepM_app.mp o) k, fun D H' G' rs' t o k => k⟩
end
/-! ### a def of the text keeps its contract -/
theorem env_start {G : Fp} {H : Hp} : ∀ {vs : List V} {ss : List Sl} (n : Nat), SlAll G H vs ss → EnvOk G H (vs.map some ++ List.replicate n none) (ss ++ List.replicate n .un)
  | [], [], 0, _ => trivial
  | [], [], n + 1, _ => ⟨trivial, env_start (vs := []) (ss := []) n trivial⟩
  | v :: vs, s :: ss, n, ⟨h, q⟩ => by
    refine ⟨?_, env_start n q⟩
    cases s with
    | un => trivial
    | d x => exact ⟨v, rfl, h⟩
    | r x => exact ⟨v, rfl, h⟩
    | n x => exact ⟨v, rfl, h⟩
  | [], _ :: _, _, h => h.elim
  | _ :: _, [], _, h => h.elim
/-- rs gives rs2; something may be let go -/
def Ent (rs rs2 : List Mem) : Prop := ∀ (G : Fp) (H : Hp), sepL rs G G H → ∃ G' : Fp, (∀ a, G' a → G a) ∧ sepL rs2 G' G' H
theorem ent_refl {rs : List Mem} : Ent rs rs := fun G H h => ⟨G, fun _ z => z, h⟩
theorem ent_of_eq {rs rs2 : List Mem} (e : rs = rs2) : Ent rs rs2 := e ▸ ent_refl
theorem ent_trans {a b d : List Mem} (h : Ent a b) (h2 : Ent b d) : Ent a d := fun G H q => by
  obtain ⟨G1, s1, q1⟩ := h G H q
  obtain ⟨G2, s2, q2⟩ := h2 G1 H q1
  exact ⟨G2, fun x z => s1 x (s2 x z), q2⟩
theorem ent_drop {rs : List Mem} {A : Mem} {f : List Mem → List Mem} (pk : Pick rs A f) : Ent rs (f []) := fun G H h => by
  obtain ⟨F1, F2, h1, h2, d, e⟩ := pk.split.mp h
  have s : Stp G F2 H H := Stp.less fun a z => (e a).mpr (.inr z)
  exact ⟨F2, fun a z => (e a).mpr (.inr z), sepL.step s.sub h2 fun a o q _ => q⟩
theorem ent_take {xs ys : List Mem} : Ent (xs ++ ys) xs := fun G H h => by
  obtain ⟨F1, F2, h1, h2, d, e⟩ := sepL.app.mp h
  exact ⟨F1, fun a z => (e a).mpr (.inl z), sepL.step (fun a z => .inl ((e a).mpr (.inl z))) h1 fun a o q _ => q⟩
/-- the things Bs are in rs; rest is what is left -/
inductive Grab : List Mem → List Mem → List Mem → Prop
  | nil {rs} : Grab rs [] rs
  | cons {rs A f Bs rest} : Pick rs A f → Grab (f []) Bs rest → Grab rs (A :: Bs) rest
theorem Grab.sep {G : Fp} {H : Hp} {rs Bs rest : List Mem} (g : Grab rs Bs rest) : ∀ {F : Fp}, sepL rs F G H → sepL (Bs ++ rest) F G H := by
  induction g with
  | nil => intro F h; exact h
  | cons pk _ ih =>
    intro F h
    obtain ⟨F1, F2, h1, h2, d, e⟩ := pk.split.mp h
    exact ⟨F1, F2, h1, ih h2, d, e⟩
theorem ent_grab {rs Bs rest : List Mem} (g : Grab rs Bs rest) : Ent rs Bs := ent_trans (fun G H h => ⟨G, fun _ z => z, g.sep h⟩) ent_take
/-- things behind a door -/
def exM {α : Type} (fam : α → List Mem) : Mem where
  ok F G H := ∃ q, sepL (fam q) F G H
  dom := fun ⟨q, h⟩ => h.dom
  step := fun ⟨q, h⟩ k s => ⟨q, sepL.step s h k⟩
theorem ent_box {α : Type} {fam : α → List Mem} {q : α} (xs tl : List Mem) : Ent (xs ++ (fam q ++ tl)) (xs ++ exM fam :: tl) := fun G H h => by
  obtain ⟨F1, F2, h1, h2, d, e⟩ := sepL.app.mp h
  obtain ⟨F3, F4, h3, h4, d2, e2⟩ := sepL.app.mp h2
  exact ⟨G, fun _ z => z, sepL.app.mpr ⟨F1, F2, h1, ⟨F3, F4, ⟨q, h3⟩, h4, d2, e2⟩, d, e⟩⟩
theorem sep_open {α : Type} {fam : α → List Mem} {xs tl : List Mem} {G : Fp} {H : Hp} (h : sepL (xs ++ exM fam :: tl) G G H) : ∃ q, sepL (xs ++ (fam q ++ tl)) G G H := by
  obtain ⟨F1, F2, h1, ⟨F3, F4, ⟨q, h3⟩, h4, d2, e2⟩, d, e⟩ := sepL.app.mp h
  exact ⟨q, sepL.app.mpr ⟨F1, F2, h1, sepL.app.mpr ⟨F3, F4, h3, h4, d2, e2⟩, d, e⟩⟩
theorem Rs.less {G G' : Fp} {H0 H : Hp} {v : V} {s : Sl} (l : ∀ a, G' a → G a) (h : Rs G H0 H v s) : Rs G' H0 H v s := by
  have t : Stp G G' H H := Stp.less l
  cases s with
  | un => trivial
  | d x => exact Is.stp t h
  | r u => exact h
  | n ds => obtain ⟨p, vs, e, z, ng, hp, q⟩ := h; exact ⟨p, vs, e, z, fun g => ng (l p g), hp, q.stp t⟩
section
variable {c : Ctx m₀ N₀ sc₀ lv₀ xp₀ fF₀ cm₀} {e : Expr} {sts : List Stmt} {ρ : List Sl} {rs rs2 : List Mem} {P : Post} {K : Sl → List Mem → Prop}
theorem dss_ent (h : Ent rs rs2) (k : DSs c sts ρ rs2 P) : DSs c sts ρ rs P := by
  intro σ H G D he hs hx hd
  obtain ⟨G', l, o⟩ := h G H hs
  have t : Stp G G' H H := Stp.less l
  exact k σ H G' D (he.stp t) o (hx.stp t) (hd.stp t)
theorem dss_open {α : Type} {fam : α → List Mem} (xs : List Mem) {tl : List Mem} (k : ∀ q, DSs c sts ρ (xs ++ (fam q ++ tl)) P) : DSs c sts ρ (xs ++ exM fam :: tl) P := by
  intro σ H G D he hs hx hd
  obtain ⟨q, o⟩ := sep_open hs
  exact k q σ H G D he o hx hd
/-- at a block's end -/
theorem dss_post (h : DSs c sts ρ rs { P with nx := fun ρ' r' => ∃ r2, Ent r' r2 ∧ P.nx ρ' r2 }) : DSs c sts ρ rs P := by
  intro σ H G D he hs hx hd
  refine h σ H G D he hs hx ⟨fun σ' H' G' ρ' r' t e o ⟨r2, l, k⟩ => ?_, hd.rt, hd.bk, hd.ct⟩
  obtain ⟨G2, l, o2⟩ := l G' H' o
  have t2 : Stp G' G2 H' H' := Stp.less l
  exact hd.nx σ' H' G2 ρ' r2 (t.trans t2) (e.stp t2) o2 k
theorem dx_ent (h : DX c e ρ rs fun s r => ∃ r2, Ent r r2 ∧ K s r2) : DX c e ρ rs K := by
  intro σ H G Q he hs hx hq
  refine h σ H G Q he hs hx fun v H' G' sl r' t r o ⟨r2, l, k⟩ => ?_
  obtain ⟨G2, l, o2⟩ := l G' H' o
  exact hq v H' G2 sl r2 (t.trans (Stp.less l)) (r.less l) o2 k
end
/-- a result and its things, as another says it -/
def EntS (s : Sl) (rs : List Mem) (s2 : Sl) (rs2 : List Mem) : Prop := ∀ (G : Fp) (H0 H : Hp) (v : V), sepL rs G G H → Rs G H0 H v s → ∃ G' : Fp, (∀ a, G' a → G a) ∧ sepL rs2 G' G' H ∧ Rs G' H0 H v s2
theorem ents_of {s : Sl} {rs rs2 : List Mem} (h : Ent rs rs2) : EntS s rs s rs2 := fun G H0 H v o r => by
  obtain ⟨G', l, o2⟩ := h G H o
  exact ⟨G', l, o2, r.less l⟩
theorem ents_frz {q : Addr} {ds : List PyData} {rs rs2 : List Mem} {f : List Mem → List Mem} (pk : Pick rs (lstM q (ds.map .d)) f) (h : Ent (f []) rs2) : EntS (.r (.ref q)) rs (.d (.list ds)) rs2 := fun G H0 H v o r => by
  obtain ⟨F1, F2, ⟨eF, vs, hp, al⟩, h2, d, e⟩ := pk.split.mp o
  have l : ∀ a, F2 a → G a := fun a z => (e a).mpr (.inr z)
  have o2 : sepL (f []) F2 F2 H := sepL.step (fun a z => .inl (l a z)) h2 fun a o q _ => q
  obtain ⟨G', l2, o3⟩ := h F2 H o2
  have ev : v = .ref q := r
  subst ev
  have t : Stp G G' H H := Stp.less fun a z => l a (l2 a z)
  exact ⟨G', fun a z => l a (l2 a z), o3, show Is G' H (.ref q) (.list ds) from .lst (.inl ⟨.inl hp, fun g => d q ((eF q).mpr rfl) (l2 q g)⟩) (al.stp t).is⟩
/-- the wishes of a def's body -/
def bodyPost (fr : Mem) (res : Sl → List Mem → Prop) : Post := ⟨fun _ rs => ∃ rs', Ent rs (rs' ++ [fr]) ∧ res (.d .none) rs', fun s rs => ∃ s2 rs', EntS s rs s2 (rs' ++ [fr]) ∧ res s2 rs', fun _ _ => False, fun _ _ => False⟩
theorem fn_ok {m : Mo} {C : Cn} {x qual : Str} {st : Stmt} {f : Addr} {fd : FuncData} {N ps : List Str} {sc : Scope} {k : Nat} (F : Fun m.K x qual st f fd) (S : FnScope N ps (defScope st)) (hsc : defScope st = sc) (bl : Bl m.mg) (hK : m.K = KC.K)
    (len : ∀ ss rin res exc, C ss rin res exc → ss.length = ps.length) (n : Nat) (hn : N.length - ps.length = n)
    (body : ∀ (ss : List Sl) (rin : List Mem) (fr : Mem) (res : Sl → List Mem → Prop) (exc : Addr → List Mem → Prop) (c : Ctx m N sc k (fun D _ rs => ∃ rs', Ent rs (rs' ++ [fr]) ∧ exc D rs') true true), C ss rin res exc →
      DSs c (defBody st) (ss ++ List.replicate n .un) (rin ++ [fr]) (bodyPost fr res)) (hok : ScOk sc := by decide +kernel) : FnOk m.P m.w m.K m.mg m.base (L2.CX m.P m.w) (k + 1) f fd ps (spC C) := by
  refine F.okX S (fun vs H Q E h => ?_) (fun cdv A outer s H vs Q E hr h => ⟨tSs (cxOf (L2.CX m.P m.w) m.P m.w m.K m.mg m.base N qual (defScope st) f cdv A outer s H E) (defBody st), pss_t, ?_⟩)
  · obtain ⟨ss, fr, rin, G, res, exc, hv, _, hC, _⟩ := h
    rw [hv.length]; exact len _ _ _ _ hC
  · obtain ⟨ss, fr, rin, G, res, exc, hv, hs, hC, hres, hexc⟩ := h
    have hl : vs.length = ps.length := by rw [hv.length]; exact len _ _ _ _ hC
    subst hsc
    have B := body ss rin fr res exc ⟨cxOf (L2.CX m.P m.w) m.P m.w m.K m.mg m.base N qual (defScope st) f cdv A outer s H E, fun cls d _ H => E cls d H, ⟨rfl, rfl, rfl, rfl, rfl⟩, hK, bl, rfl, S.nd, rfl, hok, fun _ => rfl, fun _ => hr, (by have hu := hr.un; exact Nat.lt_of_le_of_lt (Nat.add_le_add_right (Nat.le_add_right _ _) _) hu), fun _ => ⟨rfl, rfl⟩, takes_of rfl rfl rfl rfl, fun _ _ => rfl, passes_of rfl⟩ hC
    have e0 : L2.start N vs = vs.map some ++ List.replicate n none := by unfold L2.start; rw [hl, hn]
    rw [e0]
    refine B _ H G _ (env_start n hv) hs (fun D σ' H' G' ρ' rs' t e o kx => ?_) ⟨fun σ' H' G' ρ' rs' t e o kx => ?_, fun v H' G' sl rs' t q o kx => ?_, fun _ _ _ _ _ _ _ _ z => z.elim, fun _ _ _ _ _ _ _ _ z => z.elim⟩
    · obtain ⟨r2, l, kx⟩ := kx
      obtain ⟨G2, l, o2⟩ := l G' H' o
      exact hexc D H' G2 r2 (t.trans (Stp.less l)) o2 kx
    · obtain ⟨r2, l, kx⟩ := kx
      obtain ⟨G2, l, o2⟩ := l G' H' o
      exact hres .non H' G2 (.d .none) r2 (t.trans (Stp.less l)) Is.non o2 kx
    · obtain ⟨s2, r2, l, kx⟩ := kx
      obtain ⟨G2, l, o2, q2⟩ := l G' H H' v o q
      exact hres v H' G2 s2 r2 (t.trans (Stp.less l)) q2 o2 kx
theorem fin {fr : Mem} {res : Sl → List Mem → Prop} {s : Sl} {rs : List Mem} (rs' : List Mem) (h : Ent rs (rs' ++ [fr])) (hr : res s rs') : (bodyPost fr res).rt s rs := ⟨s, rs', ents_of h, hr⟩
theorem fin_frz {fr : Mem} {res : Sl → List Mem → Prop} {q : Addr} {ds : List PyData} {rs : List Mem} {f : List Mem → List Mem} (rs' : List Mem) (pk : Pick rs (lstM q (ds.map .d)) f) (h : Ent (f []) (rs' ++ [fr])) (hr : res (.d (.list ds)) rs') : (bodyPost fr res).rt (.r (.ref q)) rs := ⟨_, rs', ents_frz pk h, hr⟩
end PW

set_option maxHeartbeats 1000000
/-! The ends of a law. -/
namespace PW
open PySem L2
section
variable [KC]
/-- a law's own contract: a list of at most 63 ints comes in, True comes out -/
def lawC : Cn := fun ss rin res _ => ∃ ns : List Int, ss = [.d (.list (ns.map .int))] ∧ rin = [] ∧ ns.length ≤ 63 ∧ res (.d (.bool true)) []
theorem is_ints {G : Fp} {H : Hp} : ∀ ns : List Int, IsAll G H (ns.map V.int) (ns.map PyData.int)
  | [] => .nil
  | n :: ns => .cons (.int n) (is_ints ns)
theorem law_in {H : Hp} {a : Addr} {ns : List Int} (hl : ns.length ≤ 63) (h : SqL KC.K H a (ns.map V.int)) : spC lawC [.ref a] H (fun v _ => v = .bl true) (fun _ _ _ => False) := by
  refine ⟨[.d (.list (ns.map .int))], sepM [], [], fun _ => False, fun s _ => s = .d (.bool true), fun _ _ => False, ⟨?_, trivial⟩, ?_, ⟨ns, rfl, rfl, hl, rfl⟩, fun v H' G' sl rs' t r o k => ?_, fun _ _ _ _ _ _ z => z⟩
  · refine Is.lst ?_ (is_ints ns)
    rcases h with h | h
    · exact .inl ⟨h, id⟩
    · exact .inr h
  · exact ⟨fun _ => False, fun _ => False, fun _ z => z, fun _ z => z, fun _ z => z.elim, fun _ => ⟨False.elim, fun z => z.elim id id⟩⟩
  · subst k
    exact rs_bool r
end
theorem cx_no {P : Program} {w : World} {outer : List Env} {H : Hp} {s : Shared} {e : Value} {s' : Shared} (h : L2.CX P w outer H s (fun _ _ _ => False) e s') : False := by
  obtain ⟨_, _, _, _, _, _, _, _, _, _, _, _, z⟩ := h
  exact z
/-- the end of a law row: what is left is the law's def -/
theorem law_walk {l : PySem.W.OpenLaw} {k : Nat} {q : Program} {loose : List Str} {XP : (Str → Option Value) → Heap → Prop} {YP : World → Heap → Prop} {d : DefRec} {K : Params → PySem.W.Frag} {x : Str}
    (hn : l.most = some 63) (hdf : d.params.defaults = []) (hr : Room k callerA) (hY : ∀ (w : World) (h : Heap), YP w h → (K w.params).In h)
    (F : ∀ (w : World) (mg : Str → Option Value) (fa : Addr) (h : Heap), (K w.params).In h → h.Ns mainGlobals mg → mg d.name = some (.ref fa) →
      ∃ fd : FuncData, (∀ (s : Shared) (u : Value), BindsTo s fd ⟨[u], []⟩ [(x, u)]) ∧
        ∀ base : Heap, FnOk l.prog w (K w.params) mg base (L2.CX l.prog w) k fa fd [x] (@spC ⟨K w.params⟩ lawC)) :
    PySem.W.WalkO q loose XP YP l.row.toRowW d [] (fun f vs => PySem.call f vs) := by
  refine L2.walk_of (K := K) (n := 63) (k := k) (x := x) (CX := fun w => L2.CX l.prog w) (sp := fun w => @spC ⟨K w.params⟩ lawC) hn (by decide) hdf hr hY ?_ ?_ (fun w H s e s' => cx_no)
  · intro w mg fa h KX G hmg
    obtain ⟨fd, h1, h2⟩ := F w mg fa h KX G hmg
    exact ⟨fd, h1, fun base _ _ => h2 base⟩
  · intro w H a ns hl _ hS
    exact @law_in ⟨K w.params⟩ H a ns hl hS
end PW

set_option maxHeartbeats 1000000
/-! Glue. -/
namespace PW
open PySem L2
variable [KC]
variable {m₀ : Mo} {N₀ : List Str} {sc₀ : Scope} {lv₀ : Nat} {xp₀ : Addr → List Sl → List Mem → Prop} {fF₀ cm₀ : Bool}
section
variable {c : Ctx m₀ N₀ sc₀ lv₀ xp₀ fF₀ cm₀} {e a b : Expr} {es : List Expr} {ρ ρ' : List Sl} {rs : List Mem} {K : Sl → List Mem → Prop} {KB : Bool → List Mem → Prop} {KA : List Sl → List Mem → Prop} {P : Post} {x : Str} {pos pos' p2 : Pos} {st : Stmt} {sts : List Stmt}
theorem do_none {K : Option Int → List Mem → Prop} (h : K none rs) : DO c none ρ rs K := h
theorem do_some {K : Option Int → List Mem → Prop} (h : DX c e ρ rs fun s r => ∃ i, s = .d (.int i) ∧ K (some i) r) : DO c (some e) ρ rs K := h
theorem ex_int {i : Int} {K : Int → Prop} (h : K i) : ∃ j, Sl.d (.int i) = .d (.int j) ∧ K j := ⟨i, rfl, h⟩
theorem ex_str {i : Str} {K : Str → Prop} (h : K i) : ∃ j, Sl.d (.str i) = .d (.str j) ∧ K j := ⟨i, rfl, h⟩
theorem ex_list {s : Sl} {ds : List PyData} {K : List PyData → Prop} (e : s.asList = some ds) (h : K ds) : ∃ ds, s.asList = some ds ∧ K ds := ⟨ds, e, h⟩
theorem datas_nil : Datas [] [] := trivial
theorem datas_cons {d : PyData} {ss : List Sl} {ds : List PyData} (h : Datas ss ds) : Datas (.d d :: ss) (d :: ds) := ⟨rfl, h⟩
theorem ex_datas {ss : List Sl} {ds : List PyData} {B : Prop} {K : List PyData → Prop} (h : Datas ss ds) (hb : B) (k : K ds) : ∃ ds, Datas ss ds ∧ B ∧ K ds := ⟨ds, h, hb, k⟩
theorem ite_tt {A B : Prop} (h : A) : if true = true then A else B := h
theorem ite_ff {A B : Prop} (h : B) : if false = true then A else B := h
theorem ite_nt {A B : Prop} (h : B) : if (!true) = true then A else B := h
theorem ite_nf {A B : Prop} (h : A) : if (!false) = true then A else B := h
theorem ite_t {k : Bool} {A B : Prop} (e : k = true) (h : A) : if k = true then A else B := by rw [if_pos e]; exact h
theorem ite_f {k : Bool} {A B : Prop} (e : k = false) (h : B) : if k = true then A else B := by rw [if_neg (by rw [e]; exact Bool.false_ne_true)]; exact h
theorem ite_d {p : Prop} [Decidable p] {A B : Prop} (h1 : p → A) (h2 : ¬ p → B) : if decide p = true then A else B := by
  by_cases h : p
  · rw [if_pos (decide_eq_true h)]; exact h1 h
  · rw [if_neg (fun z => h (of_decide_eq_true z))]; exact h2 h
theorem ite_nd {p : Prop} [Decidable p] {A B : Prop} (h1 : ¬ p → A) (h2 : p → B) : if (!decide p) = true then A else B := by
  by_cases h : p
  · rw [decide_eq_true h]; exact h2 h
  · rw [decide_eq_false h]; exact h1 h
theorem ite_b {k : Bool} {A B : Prop} (h1 : k = true → A) (h2 : k = false → B) : if k = true then A else B := by
  cases k with
  | true => exact h1 rfl
  | false => exact h2 rfl
theorem dx_weak {K' : Sl → List Mem → Prop} (h : DX c e ρ rs K) (hk : ∀ s r, K s r → K' s r) : DX c e ρ rs K' := fun σ H G Q a1 a2 a3 a4 => h σ H G Q a1 a2 a3 fun v H' G' sl rs' t r o k => a4 v H' G' sl rs' t r o (hk _ _ k)
theorem dt_weak {K' : Bool → List Mem → Prop} (h : DT c e ρ rs KB) (hk : ∀ s r, KB s r → K' s r) : DT c e ρ rs K' := fun σ H G Q a1 a2 a3 a4 => h σ H G Q a1 a2 a3 fun b H' G' rs' t o k => a4 b H' G' rs' t o (hk _ _ k)
theorem dss_cut {I : List Sl → List Mem → Prop} (h : DS c st ρ rs { P with nx := I }) (h2 : ∀ ρ' r', I ρ' r' → DSs c sts ρ' r' P) : DSs c (st :: sts) ρ rs P :=
  dss_cons (ds_weak h (fun ρ' r' k => h2 ρ' r' k) (fun _ _ k => k) (fun _ _ k => k) (fun _ _ k => k))
theorem ite_dt {p : Prop} [Decidable p] {A B : Prop} (h : p) (a : A) : if decide p = true then A else B := ite_t (decide_eq_true h) a
theorem ite_df {p : Prop} [Decidable p] {A B : Prop} (h : ¬ p) (a : B) : if decide p = true then A else B := ite_f (decide_eq_false h) a
theorem ite_ndt {p : Prop} [Decidable p] {A B : Prop} (h : ¬ p) (a : A) : if (!decide p) = true then A else B := ite_t (by rw [decide_eq_false h]; rfl) a
theorem ite_ndf {p : Prop} [Decidable p] {A B : Prop} (h : p) (a : B) : if (!decide p) = true then A else B := ite_f (by rw [decide_eq_true h]; rfl) a
theorem ite_nn {k : Bool} {A B : Prop} (h : if k = true then A else B) : if (!!k) = true then A else B := by rw [Bool.not_not]; exact h
theorem ce_inl {C : Cn} {ss : List Sl} {r1 : List Mem} (h : C ss [] (fun s r2 => K s (r2 ++ r1)) (fun D r2 => xp₀ D ρ (r2 ++ r1))) : CallEnd c C ss ρ r1 K := fun σ H G vs Q he hs hx hv hq =>
  ⟨ss, sepM r1, [], G, _, _, hv, sepM_app.mpr hs, h, fun v H' G' sl rs' t r o k => hq v H' G' sl _ t r (sepM_app.mp o) k, fun D H' G' rs' t o k => hx D σ H' G' ρ _ t (he.stp t) (sepM_app.mp o) k⟩
theorem ce_inr {C : Cn} {ss : List Sl} {r1 : List Mem} {A : Mem} {f : List Mem → List Mem} (p : Pick r1 A f) (h : C ss [A] (fun s r2 => K s (f r2)) (fun D r2 => xp₀ D ρ (f r2))) : CallEnd c C ss ρ r1 K := fun σ H G vs Q he hs hx hv hq =>
  ⟨ss, sepM (f []), [A], G, _, _, hv, sepM_app.mpr (p.split.mp hs), h, fun v H' G' sl rs' t r o k => hq v H' G' sl _ t r (p.put.mpr (sepM_app.mp o)) k, fun D H' G' rs' t o k => hx D σ H' G' ρ _ t (he.stp t) (p.put.mpr (sepM_app.mp o)) k⟩
theorem end_rt {fr : Mem} {res : Sl → List Mem → Prop} {s : Sl} (h : res s []) : (bodyPost fr res).rt s [fr] := fin [] ent_refl h
theorem end_rtT {fr : Mem} {res : Sl → List Mem → Prop} {b : Bool} (hb : b = true) (h : res (.d (.bool true)) []) : (bodyPost fr res).rt (.d (.bool b)) [fr] := fin [] ent_refl (by rw [hb]; exact h)
theorem cd_isiT {T : String} {s : Sl} {d : PyData} (hT : T ∈ ["int", "bool", "str", "list", "tuple"]) (h : s.plain = .d d) (hb : isD T d = true) (k : K (.d (.bool true)) rs) : CaD (rIsi KC.K) [s, .r (.ty T)] rs K := cd_isi hT h (by rw [hb]; exact k)
theorem cd_isiF {T : String} {s : Sl} {d : PyData} (hT : T ∈ ["int", "bool", "str", "list", "tuple"]) (h : s.plain = .d d) (hb : isD T d = false) (k : K (.d (.bool false)) rs) : CaD (rIsi KC.K) [s, .r (.ty T)] rs K := cd_isi hT h (by rw [hb]; exact k)
theorem end_nx {fr : Mem} {res : Sl → List Mem → Prop} (h : res (.d .none) []) : (bodyPost fr res).nx ρ [fr] := ⟨[], ent_refl, h⟩
theorem end_rt1 {fr A : Mem} {res : Sl → List Mem → Prop} {s : Sl} (h : res s [A]) : (bodyPost fr res).rt s [A, fr] := fin [A] ent_refl h
theorem end_nx1 {fr A : Mem} {res : Sl → List Mem → Prop} (h : res (.d .none) [A]) : (bodyPost fr res).nx ρ [A, fr] := ⟨[A], ent_refl, h⟩
/-- a thing that is needed no more -/
theorem dss_drop {A : Mem} {f : List Mem → List Mem} (pk : Pick rs A f) (h : DSs c sts ρ (f []) P) : DSs c sts ρ rs P := by
  intro σ H G D he hs hx hd
  obtain ⟨F1, G2, _, _, t, o⟩ := sepL.drop pk hs
  exact h σ H G2 D (he.stp t) o (hx.stp t) (hd.stp t)
theorem dx_drop (h : DX c e ρ rs fun s r => ∃ A f, Pick r A f ∧ (∀ ds, s ≠ .n ds) ∧ K s (f [])) : DX c e ρ rs K := by
  intro σ H G Q he hs hx hq
  refine h σ H G _ he hs hx fun v H1 G1 s1 r1 t1 h1 o1 ⟨A, f, pk, hn, k1⟩ => ?_
  obtain ⟨F1, G2, _, _, t, o⟩ := sepL.drop pk o1
  exact hq v H1 G2 s1 _ (t1.trans t) (Rs.of_ok (h1.ok.stp t) hn) o k1
/-- a name forgotten -/
theorem dss_le {ρ' : List Sl} (l : Le ρ ρ') (h : DSs c sts ρ' rs P) : DSs c sts ρ rs P := DSs.le l h
/-- a loop that leaves nothing behind -/
theorem for_un {x : Str} {j : Nat} {body : List Stmt} {α : Type} {xs : List α} {enc : α → Sl} {keep : List Mem → Prop} {ρ0 : List Sl} (h0 : Le ρ ρ0) (hk : keep rs) (hend : P.nx ρ0 rs)
    (turn : ∀ y ∈ xs, ∃ ρ2, SetS N₀ ρ0 x j (enc y) ρ2 ∧ DSs c body ρ2 rs ⟨fun ρ' r' => Le ρ' ρ0 ∧ r' = rs, P.rt, P.nx, fun ρ' r' => Le ρ' ρ0 ∧ r' = rs⟩) : ForD c x j body xs enc keep ρ rs P := by
  refine ⟨Unit, fun _ => ρ0, fun _ => rs, fun _ _ => True, ⟨(), trivial, h0, rfl⟩, fun _ _ _ => hk, fun pre y post _ e _ => ?_, fun _ _ => hend⟩
  obtain ⟨ρ2, hset, hb⟩ := turn y (by rw [e]; simp)
  exact ⟨ρ2, hset, dss_weak hb (fun _ _ k => ⟨(), trivial, k.1, k.2⟩) (fun _ _ k => k) (fun _ _ k => k) fun _ _ k => ⟨(), trivial, k.1, k.2⟩⟩
end
/-! ### lists cut -/
theorem cutL_map {α β : Type} (f : α → β) (xs : List α) (lo hi : Option Int) : cutL (xs.map f) lo hi = (cutL xs lo hi).map f := by
  unfold cutL
  rw [List.length_map, ← List.map_drop, ← List.map_take]
theorem cutL_len {α : Type} (xs : List α) (lo hi : Option Int) : (cutL xs lo hi).length ≤ xs.length := by
  unfold cutL
  rw [List.length_take, List.length_drop]
  omega
/-- [numbers] + xs[..] as what is walked -/
theorem walk_ints (ys ns : List Int) (lo hi : Option Int) : (ys.map PyData.int ++ cutL (ns.map PyData.int) lo hi).map Sl.d = (ys ++ cutL ns lo hi).map fun n => .d (.int n) := by
  rw [cutL_map, ← List.map_append, List.map_map]; rfl
theorem walk_eq (ys ns : List Int) (zs : List PyData) (h : zs = ys.map PyData.int) (lo hi : Option Int) : (zs ++ cutL (ns.map PyData.int) lo hi).map Sl.d = (ys ++ cutL ns lo hi).map fun n => .d (.int n) := by
  subst h; exact walk_ints ys ns lo hi
end PW

set_option maxHeartbeats 1000000
/-! Lists of one's own. -/
namespace PW
open PySem L2
variable [KC]
variable {m₀ : Mo} {N₀ : List Str} {sc₀ : Scope} {lv₀ : Nat} {xp₀ : Addr → List Sl → List Mem → Prop} {fF₀ cm₀ : Bool}
theorem own_new {G : Fp} {H : Hp} {rs : List Mem} {p : Addr} {vs : List V} {ss : List Sl} (hs : sepL rs G G H) (hp : H p = none) (al : SlAll G H vs ss) :
    Stp G (fun a => a = p ∨ G a) H (upd H p (.lst vs)) ∧ sepL (lstM p ss :: rs) (fun a => a = p ∨ G a) (fun a => a = p ∨ G a) (upd H p (.lst vs)) :=
  sepL.join hs (same_new hp) hp ⟨fun a => Iff.rfl, vs, upd_same, al.stp0 (fun a o q _ => same_new hp a o q) fun a g => g.elim (fun e => .inr (e ▸ hp)) .inl⟩
/-- what a list of one's own holds, and how it is changed -/
theorem lst_at {G : Fp} {H : Hp} {rs : List Mem} {p : Addr} {ss : List Sl} {f : List Mem → List Mem} (pk : Pick rs (lstM p ss) f) (hs : sepL rs G G H) :
    ∃ vs, H p = some (.lst vs) ∧ SlAll G H vs ss ∧ G p ∧ ∀ ws ss', SlAll G H ws ss' → Stp G G H (upd H p (.lst ws)) ∧ sepL (f [lstM p ss']) G G (upd H p (.lst ws)) := by
  obtain ⟨F1, F2, ⟨eF, vs, hp, al⟩, _, dj, eG⟩ := pk.split.mp hs
  have gp : G p := (eG p).mpr (.inl ((eF p).mpr rfl))
  refine ⟨vs, hp, al, gp, fun ws ss' aw => ?_⟩
  refine sepL.change (B := lstM p ss') pk hs fun F1 hA sub => ⟨fun a o q n => ?_, fun a o q => ?_, ?_⟩
  · obtain ⟨e1, _⟩ := hA
    rw [upd_ne fun z => n ((e1 a).mpr z)]; exact q
  · by_cases ea : a = p
    · subst ea; exact ⟨_, upd_same⟩
    · rw [upd_ne ea]; exact ⟨o, q⟩
  · obtain ⟨e1, _⟩ := hA
    refine ⟨e1, ws, upd_same, aw.stp0 (fun a o q n => ?_) fun a g => .inl g⟩
    rw [upd_ne (fun z => n (by rw [z]; exact gp))]; exact q
section
variable {c : Ctx m₀ N₀ sc₀ lv₀ xp₀ fF₀ cm₀} {e a b o : Expr} {es : List Expr} {ρ ρ' : List Sl} {rs : List Mem} {K : Sl → List Mem → Prop} {KB : Bool → List Mem → Prop} {KA : List Sl → List Mem → Prop} {P : Post} {x : Str} {pos pos' p2 apos cpos : Pos} {st : Stmt} {sts : List Stmt} {s1 s2 : Sl}
/-- [..], owned -/
theorem dx_lstO (h : DA c es ρ rs fun ss r => ss.length ≤ 100000 ∧ ∀ p, K (.r (.ref p)) (lstM p ss :: r)) : DX c (.List es pos) ρ rs K := by
  intro σ H G Q he hs hx hq
  refine tE_of (pe_lst pa_t) ?_
  refine h σ H G _ he hs hx fun vs H1 G1 ss r1 t1 h1 o1 k1 => ?_
  refine ⟨Nat.le_trans (Nat.le_trans (Nat.le_of_eq h1.length) k1.1) (by decide), fun p hp => ?_⟩
  obtain ⟨t2, o2⟩ := own_new o1 hp h1
  exact hq _ _ _ (.r (.ref p)) _ (t1.trans t2) rfl o2 (k1.2 p)
/-- what is owned is let go -/
theorem dx_frz (h : DX c e ρ rs fun s r => ∃ p ds f, s = .r (.ref p) ∧ Pick r (lstM p (ds.map .d)) f ∧ K (.d (.list ds)) (f [])) : DX c e ρ rs K := by
  intro σ H G Q he hs hx hq
  refine h σ H G _ he hs hx fun v H1 G1 s1 r1 t1 h1 o1 k1 => ?_
  obtain ⟨p, ds, f, rfl, pk, k1⟩ := k1
  have ev : v = .ref p := h1
  subst ev
  obtain ⟨F1, G2, ⟨eF, vs, hp, al⟩, dj, t2, o2⟩ := sepL.drop pk o1
  exact hq _ H1 G2 (.d (.list ds)) _ (t1.trans t2) (.lst (.inl ⟨.inl hp, fun g => dj p ((eF p).mpr rfl) g⟩) (al.stp t2).is) o2 k1
theorem od_ixo {i : Int} {p : Addr} {ss : List Sl} {f : List Mem → List Mem} {s : Sl} (pk : Pick rs (lstM p ss) f) (hi : atI ss i = some s) (hn : ∀ ds, s ≠ .n ds) (k : K s rs) : OpD (rIx KC.K) (.r (.ref p)) (.d (.int i)) rs K := fun G H x y Q hx hy hs hq => by
  have ex : x = .ref p := hx
  subst ex
  have ey := hy.int
  obtain ⟨vs, hp, al, _, _⟩ := lst_at pk hs
  have hv : ∃ v, atI vs i = some v ∧ SlOk G H v s := by
    unfold atI at hi ⊢
    rw [al.length]
    cases e : ixN ss.length i with
    | none => rw [e] at hi; cases hi
    | some j => rw [e] at hi; exact al.get hi
  obtain ⟨v, hv, hd⟩ := hv
  exact .inl ⟨p, vs, i, v, rfl, ey, .inl (.inl hp), hv, give0 hs hq (Rs.of_ok hd hn) k⟩
theorem ld_own {p : Addr} {ss : List Sl} {f : List Mem → List Mem} (pk : Pick rs (lstM p ss) f) (k : K (.d (.int ss.length)) rs) : LenD (.r (.ref p)) rs K := fun G H vs Q hv hs hq => by
  match vs, hv with
  | [v], hv =>
    have ev : v = .ref p := hv.1
    subst ev
    obtain ⟨ws, hp, al, _, _⟩ := lst_at pk hs
    exact ⟨.ref p, ss.length, rfl, .inl ⟨ws, .inl (.inl hp), al.length.symm⟩, give0 hs hq (sl := .d (.int ss.length)) (Is.int _) k⟩
theorem di_own {tg it : Expr} {KI : List Sl → (List Mem → Prop) → List Mem → Prop} (h : DX c it ρ rs fun s r => ∃ p ss f, s = .r (.ref p) ∧ Pick r (lstM p ss) f ∧ KI ss (fun r' => ∃ f', Pick r' (lstM p ss) f') r) : DI c tg it ρ rs KI := by
  intro σ H G R he hs hx hr
  refine tI_of (c.ck ▸ pi_list pe_t) ?_
  refine h σ H G _ he hs hx fun v H1 G1 s1 r1 t1 h1 o1 k1 => ?_
  obtain ⟨p, ss, f, rfl, pk, k1⟩ := k1
  have ev : v = .ref p := h1
  subst ev
  obtain ⟨vs, hp, al, _, _⟩ := lst_at pk o1
  refine ⟨p, rfl, ⟨vs, .inl (.inl hp)⟩, hr _ H1 G1 _ _ r1 t1 o1 (fun G2 H2 r2 t2 o2 kp i => ?_) k1⟩
  obtain ⟨f', pk'⟩ := kp
  obtain ⟨vs, hp, al, _, _⟩ := lst_at pk' o2
  have rd2 : SqL KC.K H2 p vs := .inl (.inl hp)
  constructor
  · intro hi
    have hi' : i < vs.length := by rw [al.length]; exact hi
    refine ⟨⟨vs, vs[i], rd2, by simp [hi']⟩, fun x H3 y => ?_⟩
    obtain ⟨e3, y⟩ := y
    have hxi := y vs rd2
    obtain ⟨s, hs⟩ : ∃ s, ss[i]? = some s := ⟨ss[i], by simp [hi]⟩
    obtain ⟨w, hw, hk⟩ := al.get hs
    rw [hxi] at hw
    cases hw
    exact ⟨e3, s, hs, hk⟩
  · intro hi
    exact ⟨vs, rd2, by rw [al.length]; exact hi⟩
/-- as data, looked at -/
def View (rs : List Mem) (s : Sl) (d : PyData) : Prop := ∀ (G : Fp) (H : Hp) (v : V), SlOk G H v s → sepL rs G G H → Dp KC.K H v d
theorem view_d {d : PyData} {s : Sl} (h : s.plain = .d d) : View rs s d := fun G H v q _ => (plain_d h q).dp
theorem view_own {p : Addr} {ds : List PyData} {f : List Mem → List Mem} (pk : Pick rs (lstM p (ds.map .d)) f) : View rs (.r (.ref p)) (.list ds) := fun G H v q hs => by
  have ev : v = .ref p := q
  subst ev
  obtain ⟨vs, hp, al, _, _⟩ := lst_at pk hs
  exact .lst (.inl (.inl hp)) (IsAll.dp al.is)
theorem od_eqv {d e : PyData} (h1 : View rs s1 d) (h2 : View rs s2 e) (a : SeqAt.shaped d = true) (b : SeqAt.shaped e = true) (k : K (.d (.bool (PyData.eqv d e))) rs) : OpD (uEq KC.K) s1 s2 rs K := fun G H x y Q hx hy hs hq =>
  .inr ⟨_, _, h1 G H x hx hs, h2 G H y hy hs, a, b, give0 hs hq (sl := .d (.bool (PyData.eqv d e))) (Is.bl _) k⟩
theorem od_nev {d e : PyData} (h1 : View rs s1 d) (h2 : View rs s2 e) (a : SeqAt.shaped d = true) (b : SeqAt.shaped e = true) (k : K (.d (.bool (!PyData.eqv d e))) rs) : OpD (uNe KC.K) s1 s2 rs K := fun G H x y Q hx hy hs hq =>
  .inr ⟨_, _, h1 G H x hx hs, h2 G H y hy hs, a, b, give0 hs hq (sl := .d (.bool (!PyData.eqv d e))) (Is.bl _) k⟩
theorem tr_own {p : Addr} {ss : List Sl} {f : List Mem → List Mem} (pk : Pick rs (lstM p ss) f) (h : KB (!ss.isEmpty) rs) : TrD (.r (.ref p)) rs KB := fun G H x hx hs => by
  have ev : x = .ref p := hx
  subst ev
  obtain ⟨vs, hp, al, _, _⟩ := lst_at pk hs
  refine ⟨_, .inl ⟨_, .inl (.inl hp), ?_⟩, h⟩
  have := al.length
  cases vs <;> cases ss <;> first | rfl | simp at this
/-- a method's call as the text has it -/
structure MeOk (X : Cx) (o : Expr) (m : Str) (e : Expr) (es : List Expr) (apos cpos : Pos) : Prop where
  hs : starEach (e :: es) X.env = (false, eval e X.env) :: starEach es X.env
  hb : attributeBase o m X.env (eval o X.env) = eval o X.env
  hl : (apos.endLine == cpos.line) = true
  hf : ((((backTo cpos (starEach (e :: es) X.env)).all fun x => !x.fst) && (backToKw cpos (keywordEach [] X.env)).all fun x => x.fst.isSome) && decide (((e :: es).length + ([] : List Keyword).length + if ([] : List Keyword).isEmpty = true then 0 else 1) < 30)) = true
/-- x.append(e) -/
theorem dx_append (h : DX c o ρ rs fun s r => ∃ p ss f, s = .r (.ref p) ∧ Pick r (lstM p ss) f ∧ DA c [a] ρ r fun ts r2 => ∃ t ss2 f2, ts = [t] ∧ Pick r2 (lstM p ss2) f2 ∧ ss2.length < 100000 ∧ K (.d .none) (f2 [lstM p (ss2 ++ [t])]))
    (hm : MeOk c.X o "append" a [] apos cpos := by exact ⟨rfl, rfl, rfl, rfl⟩) : DX c (.Call (.Attribute o "append" apos) [a] [] cpos) ρ rs K := by
  intro σ H G Q he hs hx hq
  refine tE_of (pe_bm PySem.F.plainAttrs_list PySem.F.slot_list_append PySem.F.type_list_append mt_append pe_t pa_t (hs := hm.hs) (hbase := hm.hb) (hline := hm.hl) (hfew := hm.hf)) ?_
  refine h σ H G _ he hs hx fun v H1 G1 s1 r1 t1 h1 o1 k1 => ?_
  obtain ⟨p, ss, f, rfl, pk, k1⟩ := k1
  have ev : v = .ref p := h1
  subst ev
  obtain ⟨vs, hp, al, _, _⟩ := lst_at pk o1
  refine ⟨?_, ?_⟩
  · exact .inl ⟨rfl, vs, .inl (.inl hp)⟩
  refine k1 σ H1 G1 _ (he.stp t1) o1 (hx.stp t1) fun us H2 G2 ts r2 t2 h2 o2 k2 => ?_
  obtain ⟨t, ss2, f2, rfl, pk2, hl, k2⟩ := k2
  match us, h2 with
  | [y], h2 =>
    obtain ⟨vs2, hp2, al2, _, ch⟩ := lst_at pk2 o2
    obtain ⟨t3, o3⟩ := ch (vs2 ++ [y]) (ss2 ++ [t]) (al2.append h2)
    exact ⟨p, vs2, y, rfl, rfl, hp2, by rw [al2.length]; exact Nat.lt_of_lt_of_le hl (by decide), hq .non _ G2 (.d .none) _ ((t1.trans t2).trans t3) Is.non o3 k2⟩
/-- x[i] = e -/
theorem ds_seti {i : Expr} (h : DX c e ρ rs fun s r => DX c o ρ r fun s1 r1 => DX c i ρ r1 fun s2 r2 => ∃ p ss f k j, s1 = .r (.ref p) ∧ s2 = .d (.int k) ∧ Pick r2 (lstM p ss) f ∧ ixN ss.length k = some j ∧ P.nx ρ (f [lstM p (ss.set j s.plain)])) (hw : swapsWith e (some (.Subscript o i pos')) pos.line c.X.env = pure false := by rfl)
    (ha : ∀ v, assign (.Subscript o i pos') c.X.env v = (do let ov ← holding [v] (eval o c.X.env); let iv ← holding [v, ov] (eval i c.X.env); standAt pos'; holding [v, ov, iv] (setItem ov iv v); release [v, ov, iv] []) := by intro _; rfl) :
    DS c (.Assign [.Subscript o i pos'] e pos) ρ rs P := by
  intro σ H G D he hs hx hd
  refine tS_of (ps_asg pe_t (pg_sub pe_t pe_t set_list ha) hw rfl) ?_
  refine h σ H G _ he hs hx fun v H1 G1 s r1 t1 h1 o1 k1 => ?_
  refine k1 σ H1 G1 _ (he.stp t1) o1 (hx.stp t1) fun v2 H2 G2 s1 r2 t2 h2 o2 k2 => ?_
  refine k2 σ H2 G2 _ ((he.stp t1).stp t2) o2 ((hx.stp t1).stp t2) fun v3 H3 G3 s2 r3 t3 h3 o3 k3 => ?_
  obtain ⟨p, ss, f, k, j, rfl, rfl, pk, hj, k3⟩ := k3
  have e2 : v2 = .ref p := h2
  obtain ⟨vs, hp, al, _, ch⟩ := lst_at pk o3
  obtain ⟨t4, o4⟩ := ch (vs.set j v) (ss.set j s.plain) (al.set ((h1.ok.plain.stp t2).stp t3) j)
  exact ⟨p, vs, k, j, e2, h3.ok.int, hp, by rw [al.length]; exact hj, hd.nx σ _ G3 ρ _ (((t1.trans t2).trans t3).trans t4) ((((he.stp t1).stp t2).stp t3).stp t4) o4 k3⟩
theorem ex_own {p : Addr} {ss : List Sl} {f : List Mem → List Mem} {K : Addr → List Sl → (List Mem → List Mem) → Prop} (pk : Pick rs (lstM p ss) f) (k : K p ss f) : ∃ p' ss' f', Sl.r (.ref p) = .r (.ref p') ∧ Pick rs (lstM p' ss') f' ∧ K p' ss' f' := ⟨p, ss, f, rfl, pk, k⟩
theorem ex_app {p : Addr} {s : Sl} {ss : List Sl} {f : List Mem → List Mem} {B : List Sl → Prop} {K : Sl → List Sl → (List Mem → List Mem) → Prop} (pk : Pick rs (lstM p ss) f) (hb : B ss) (k : K s ss f) : ∃ t ss' f', [s] = [t] ∧ Pick rs (lstM p ss') f' ∧ B ss' ∧ K t ss' f' := ⟨s, ss, f, rfl, pk, hb, k⟩
theorem ex_frz {p : Addr} {ds : List PyData} {f : List Mem → List Mem} {K : List PyData → (List Mem → List Mem) → Prop} (pk : Pick rs (lstM p (ds.map .d)) f) (k : K ds f) : ∃ p' ds' f', Sl.r (.ref p) = .r (.ref p') ∧ Pick rs (lstM p' (ds'.map .d)) f' ∧ K ds' f' := ⟨p, ds, f, rfl, pk, k⟩
end
theorem atI_map {α β : Type} (g : α → β) (xs : List α) (i : Int) : atI (xs.map g) i = (atI xs i).map g := by
  unfold atI
  rw [List.length_map]
  cases ixN xs.length i with
  | none => rfl
  | some j => simp
theorem atI_in {α : Type} {xs : List α} {i : Int} (h : 0 ≤ i ∧ i < xs.length) : ∃ v, atI xs i = some v ∧ xs[i.toNat]? = some v := by
  have hj : i.toNat < xs.length := by omega
  refine ⟨xs[i.toNat], ?_, by simp [hj]⟩
  unfold atI ixN
  rw [if_pos h.1, if_pos h.2]
  simp [hj]
theorem atI_ints {xs : List Int} {i : Int} (h : 0 ≤ i ∧ i < xs.length) : ∃ v, atI (xs.map PyData.int) i = some (.int v) ∧ xs[i.toNat]? = some v := by
  obtain ⟨v, h1, h2⟩ := atI_in h
  exact ⟨v, by rw [atI_map, h1]; rfl, h2⟩
end PW

set_option maxHeartbeats 1000000
/-! Refusals: own errors raised, caught, asked for their class. -/
namespace PW
open PySem L2 PySem.W
/-- isinstance of a caught error and a tuple of classes -/
def rIsET (K : Frag) (D a : Addr) : List V → Hp → VK → Prop := fun xs H Q => ∃ (tp : Addr) (Cs : List Addr) (b : Bool), xs = [.ref a, .ref tp] ∧ H tp = some (.tup (Cs.map V.ref)) ∧ kitAny K (.ref D) (Cs.map Value.ref) = some b ∧ Q (.bl b) H
theorem vals_refs : ∀ {Cs : List Addr} {its : List Value}, Vals (Cs.map V.ref) its → its = Cs.map Value.ref := by
  intro Cs
  induction Cs with
  | nil => intro its h; cases h; rfl
  | cons C Cs ih =>
    intro its h
    cases h with
    | cons r t =>
      rw [ih t]
      have r : _ = Value.ref C := r
      rw [r]; rfl
theorem call_isET {X : Cx} {a D : Addr} {oe : Obj} {pn : List (Addr × Obj)} (C : ExcC X.K D) (hc : (clsIn X.K D).isSome = true) (hz : Zc (.ref D) none oe) (hf : ∃ vs, oe.data = .fields vs) : CallR (X.suite a ((a, oe) :: pn)) (.builtin "isinstance") (rIsET X.K D a) := by
  intro pins s σ H xs us Q I rx h
  obtain ⟨tp, Cs, b, rfl, hH, hk, q⟩ := h
  obtain ⟨its, hv, ht, _⟩ := I.tuple (a := tp) (.inl (.inl hH))
  have e := vals_refs hv
  subst e
  cases rx with
  | cons r1 t1 =>
    cases t1 with
    | cons r2 t2 =>
      cases t2
      have r1 : _ = Value.ref a := r1
      have r2 : _ = Value.ref tp := r2
      subst r1 r2
      have hp := (I.pin (a, oe) (by simp)).1
      have kx : KitX X.K (.ref a) (.ref D) fun h => InstAt h a oe D none := kitx_exc hc C.hg C.hk C.hs C.ha C.hn C.ht C.hm
      obtain ⟨⟨cls, dd, da, sl⟩, ho, hcls, n, hd⟩ := ht
      dsimp only at hcls hd
      subst hcls hd
      have ia : InstAt s.heap a oe D none := by
        obtain ⟨vs, hvs⟩ := hf
        refine ⟨hp, hz.1, ?_, ?_⟩
        · unfold notCls; rw [hvs]
        · rw [hz.2]; trivial
      exact kia_tup kx I.kIn ia ho hk (fun z => nomatch z) fun tk => ⟨.bl b, H, I.tok tk, rfl, q⟩
/-! ### the classes of a text -/
structure Xc (m : Mo) (x : Str) (D : Addr) : Prop where
  q : excIn m.K D [.type "ValueError", .type "Exception", .type "BaseException", .type "object"] "ValueError.__new__" = true
  kp : keepIn m.K (.ref D) = true
  ty : typeIn m.K (.ref D) = some (.type "type")
  cl : (clsIn m.K D).isSome = true
  ec : ExcC m.K D
/-- rs: the classes that are raised; ts: those that are asked for -/
structure Errs (m : Mo) (E : Str → Addr) (rs ts : List Str) : Prop where
  xc : ∀ x ∈ rs, Xc m x (E x)
  nm : ∀ y ∈ ts, m.mg y = some (.ref (E y))
  kit : ∀ x ∈ rs, ∀ y ∈ ts, kitOne m.K (.ref (E x)) (.ref (E y)) = some (decide (x = y) || decide (y = ("PaneError" : Str)))
  kitV : ∀ x ∈ rs, kitOne m.K (.ref (E x)) (.type "ValueError") = some true
  ex : ∀ x ∈ rs, exmOne m.K (.ref (E x)) (.ref (E "PaneError")) = some true
variable [KC]
variable {m₀ : Mo} {N₀ : List Str} {sc₀ : Scope} {lv₀ : Nat} {xp₀ : Addr → List Sl → List Mem → Prop} {fF₀ cm₀ : Bool}
/-- a suite's context: the error at a, of the class at D -/
structure ExcAt (c : Ctx m₀ N₀ sc₀ lv₀ xp₀ fF₀ cm₀) (a D : Addr) : Prop where
  one : CallR c.X (.builtin "isinstance") (rIsE m₀.K D a)
  many : CallR c.X (.builtin "isinstance") (rIsET m₀.K D a)
section
variable {c : Ctx m₀ N₀ sc₀ lv₀ xp₀ fF₀ cm₀} {e a b o : Expr} {es : List Expr} {ρ ρ' : List Sl} {rs : List Mem} {K : Sl → List Mem → Prop} {P : Post} {x y : Str} {pos pos' p2 p3 np : Pos} {E : Str → Addr} {ra ts : List Str} {D q : Addr}
theorem ds_raise {z : Str} {j : Nat} (er : Errs m₀ E ra ts) (hx : x ∈ ra) (ht : x ∈ ts) (k : xp₀ (E x) ρ rs) (hg : KdIn sc₀.names x .globalImplicit := by first | ((with_reducible (repeat (first | exact KdIn.zero | apply KdIn.succ))); (first | (all_goals fail) | fail)) | exact kd_of rfl) (hcm : cm₀ = true := by rfl) :
    DS c (.Raise (some (.Call (.Name x p2) [.Constant (.str z) j p3] [] pos)) none pos') ρ rs P := by
  intro σ H G D he hs hX hd'
  have xc := er.xc x hx
  have eK := c.hm.K
  refine tS_of (ps_raise (c.calm hcm) c.tk (pmk_own PySem.F.excBase_ValueError (by rw [eK]; exact xc.q) (by rw [c.hm.mg]; exact er.nm x ht) (by rw [eK]; exact xc.kp) (raises_own (by rw [eK]; exact xc.ec.hs) (by rw [eK]; exact xc.ty)) (c_gl hg) (c.nd1 hg))) ?_
  exact hX (E x) σ H G ρ rs (Stp.refl _ _) he hs k
/-- the name of a class, not called -/
theorem dx_gcls (er : Errs m₀ E ra ts) (hy : y ∈ ts) (k : K (.r (.ref (E y))) rs) (hg : KdIn sc₀.names y .globalImplicit := by first | ((with_reducible (repeat (first | exact KdIn.zero | apply KdIn.succ))); (first | (all_goals fail) | fail)) | exact kd_of rfl) : DX c (.Name y pos) ρ rs K := by
  intro σ H G Q hE hs hx hq
  refine tE_of (pe_glob (v := .ref (E y)) (c_gl hg) (by rw [c.hm.mg]; exact er.nm y hy) rfl (c.nd1 hg)) ?_
  exact hq (.ref (E y)) H G (.r (.ref (E y))) rs (Stp.refl _ _) rfl hs k
theorem dx_tVE (hm : m₀.mg "ValueError" = none) (k : K (.r (.ty "ValueError")) rs) (hg : KdIn sc₀.names ("ValueError" : Str) .globalImplicit := by first | ((with_reducible (repeat (first | exact KdIn.zero | apply KdIn.succ))); (first | (all_goals fail) | fail)) | exact kd_of rfl) : DX c (.Name "ValueError" pos) ρ rs K := dx_ty hm b_VE k hg
theorem dx_isE (A : ExcAt c q D) (h : DA c [a, b] ρ rs fun ss r1 => CaD (rIsE m₀.K D q) ss r1 K) (hg : KdIn sc₀.names ("isinstance" : Str) .globalImplicit := by first | ((with_reducible (repeat (first | exact KdIn.zero | apply KdIn.succ))); (first | (all_goals fail) | fail)) | exact kd_of rfl) (he : starEach (a :: [b]) c.X.env = (false, eval a c.X.env) :: starEach [b] c.X.env := by rfl)
    (hpl : (backTo pos (starEach [b] c.X.env)).any (·.1) = false := by rfl) : DX c (.Call (.Name "isinstance" p2) [a, b] [] pos) ρ rs K := dx_callB A.one c.bl.isinstance b_isi h hg (he := he) (hpl := hpl)
theorem cd_isE1 {r : Bool} (er : Errs m₀ E ra ts) (hx : x ∈ ra) (hy : y ∈ ts) (hb : (decide (x = y) || decide (y = ("PaneError" : Str))) = r) (k : K (.d (.bool r)) rs) : CaD (rIsE m₀.K (E x) q) [.r (.ref q), .r (.ref (E y))] rs K := fun G H vs Q hv hs hq => by
  match vs, hv with
  | [v, w], hv =>
    have ev : v = .ref q := hv.1
    have ew : w = .ref (E y) := hv.2.1
    subst ev ew
    exact ⟨.ref (E y), .ref (E y), r, rfl, fun u z => z, by rw [← hb]; exact er.kit x hx y hy, give0 hs hq (sl := .d (.bool r)) (Is.bl r) k⟩
theorem cd_isEV (er : Errs m₀ E ra ts) (hx : x ∈ ra) (k : K (.d (.bool true)) rs) : CaD (rIsE m₀.K (E x) q) [.r (.ref q), .r (.ty "ValueError")] rs K := fun G H vs Q hv hs hq => by
  match vs, hv with
  | [v, w], hv =>
    have ev : v = .ref q := hv.1
    have ew : w = .ty "ValueError" := hv.2.1
    subst ev ew
    exact ⟨.ty "ValueError", .type "ValueError", true, rfl, fun u z => z, er.kitV x hx, give0 hs hq (sl := .d (.bool true)) (Is.bl true) k⟩
inductive RefsE (E : Str → Addr) : List Sl → List Str → Prop
  | nil : RefsE E [] []
  | cons {y ss ys} : RefsE E ss ys → RefsE E (.r (.ref (E y)) :: ss) (y :: ys)
theorem RefsE.vs {G : Fp} {H : Hp} : ∀ {ss : List Sl} {ys : List Str} {vs : List V}, RefsE E ss ys → SlAll G H vs ss → vs = (ys.map E).map V.ref
  | _, _, [], .nil, _ => rfl
  | _, _, v :: vs, .cons t, ⟨h, q⟩ => by
    have h : v = _ := h
    rw [h, t.vs q]; rfl
  | _, _, _ :: _, .nil, h => h.elim
  | _, _, [], .cons _, h => h.elim
theorem kitAny_er (er : Errs m₀ E ra ts) (hx : x ∈ ra) : ∀ {ys : List Str}, (∀ y ∈ ys, y ∈ ts) → kitAny m₀.K (.ref (E x)) ((ys.map E).map Value.ref) = some (ys.any fun y => decide (x = y) || decide (y = ("PaneError" : Str)))
  | [], _ => rfl
  | y :: ys, h => by
    have ih := kitAny_er er hx (ys := ys) fun z hz => h z (List.mem_cons_of_mem _ hz)
    have k := er.kit x hx y (h y List.mem_cons_self)
    rw [List.map_cons, List.map_cons]
    show (match kitOne m₀.K (.ref (E x)) (.ref (E y)) with | some true => some true | some false => kitAny m₀.K (.ref (E x)) ((ys.map E).map Value.ref) | none => none) = _
    rw [k, List.any_cons]
    cases (decide (x = y) || decide (y = ("PaneError" : Str))) with
    | true => rfl
    | false => rw [ih]; rfl
theorem dx_isET {kk} (er : Errs m₀ E ra ts) (A : ExcAt c q (E x)) (hx : x ∈ ra) (h : DX c a ρ rs fun s r => s = .r (.ref q) ∧ DA c es ρ r fun ss r2 => ∃ ys, RefsE E ss ys ∧ ∃ w, ((ys.all fun y => decide (y ∈ ts)) && decide (ys.length ≤ 100) && ((ys.any fun y => decide (x = y) || decide (y = ("PaneError" : Str))) == w)) = true ∧ K (.d (.bool w)) r2)
    (hg : KdIn sc₀.names ("isinstance" : Str) .globalImplicit := by first | ((with_reducible (repeat (first | exact KdIn.zero | apply KdIn.succ))); (first | (all_goals fail) | fail)) | exact kd_of rfl) (he : starEach (a :: [.Tuple es kk p3]) c.X.env = (false, eval a c.X.env) :: starEach [.Tuple es kk p3] c.X.env := by rfl) (he2 : starEach (.Tuple es kk p3 :: []) c.X.env = (false, eval (.Tuple es kk p3) c.X.env) :: starEach [] c.X.env := by rfl)
    (hpl : (backTo pos (starEach [.Tuple es kk p3] c.X.env)).any (·.1) = false := by rfl) : DX c (.Call (.Name "isinstance" p2) [a, .Tuple es kk p3] [] pos) ρ rs K := by
  intro σ H G Q hE hs hX hq
  refine tE_of (pe_callB A.many (c_gl hg) (by rw [c.hm.mg]; exact c.bl.isinstance) b_isi (pa_cons pe_t (pa_cons (pe_tup pa_t) pa_nil he2) he) (c.nd3 hg) (c.nd1 hg) he hpl) ?_
  refine h σ H G _ hE hs hX fun v H1 G1 s1 r1 t1 h1 o1 k1 => ?_
  obtain ⟨rfl, k1⟩ := k1
  have ev : v = .ref q := h1
  subst ev
  refine k1 σ H1 G1 _ (hE.stp t1) o1 (hX.stp t1) fun vs H2 G2 ss r2 t2 h2 o2 k2 => ?_
  obtain ⟨ys, hr, w, hw, k2⟩ := k2
  simp only [Bool.and_eq_true, List.all_eq_true, decide_eq_true_eq, beq_iff_eq] at hw
  have evs := hr.vs h2
  subst evs
  refine ⟨Nat.le_trans (by rw [List.length_map, List.length_map]; exact hw.1.2) (by decide), fun p hp => ?_⟩
  have t3 : Stp G2 G2 H2 (upd H2 p (.tup ((ys.map E).map V.ref))) := stp_new hp
  refine ⟨p, ys.map E, w, rfl, upd_same, ?_, ?_⟩
  · rw [← hw.2]; exact kitAny_er er hx hw.1.1
  · exact hq (.bl w) _ G2 (.d (.bool w)) r2 ((t1.trans t2).trans t3) (Is.bl w) (sepL.step t3.sub o2 fun a o q _ => same_new hp a o q) k2
/-! ### try -/
def Ctx.tr (c : Ctx m₀ N₀ sc₀ lv₀ xp₀ fF₀ cm₀) (pn : List (Addr × Obj)) (xe : Value → Shared → Prop) (W : WX) (xp : Addr → List Sl → List Mem → Prop) (tk : Takes (c.X.tr pn xe) W) (po : PassesOwn (model c.X.prog c.X.w) c.X.A c.X.env xe) : Ctx m₀ N₀ sc₀ lv₀ xp fF₀ cm₀ where
  X := c.X.tr pn xe
  W := W
  hm := ⟨c.hm.P, c.hm.w, c.hm.K, c.hm.mg, c.hm.base⟩
  hK := c.hK
  bl := c.bl
  hN := c.hN
  nd := c.nd
  hsc := c.hsc
  sok := c.sok
  calm := c.calm
  room := c.room
  un := c.un
  fs := c.fs
  tk := tk
  fn := c.fn
  po := po
def Ctx.suite (c : Ctx m₀ N₀ sc₀ lv₀ xp₀ fF₀ cm₀) (a : Addr) (pn : List (Addr × Obj)) : Ctx m₀ N₀ sc₀ lv₀ (fun _ _ _ => False) fF₀ false where
  X := c.X.suite a pn
  W := fun _ _ _ _ => False
  hm := ⟨c.hm.P, c.hm.w, c.hm.K, c.hm.mg, c.hm.base⟩
  hK := c.hK
  bl := c.bl
  hN := c.hN
  nd := c.nd
  hsc := c.hsc
  sok := c.sok
  calm := fun z => absurd z Bool.false_ne_true
  room := fun z => absurd z Bool.false_ne_true
  un := c.un
  fs := c.fs
  tk := takes0
  fn := c.fn
  po := PassesOwn.never
/-- what a caught error asks: D, the slots, the things as they stand -/
def CatchD (m₀ : Mo) (N₀ : List Str) (sc₀ : Scope) (lv₀ : Nat) (fF₀ : Bool) (E : Str → Addr) (ra : List Str) (n : Str) (suite : List Stmt) (P : Post) (D : Addr) (ρ : List Sl) (rs : List Mem) : Prop :=
  ∃ x ∈ ra, D = E x ∧ ∀ (a : Addr) (c' : Ctx m₀ N₀ sc₀ lv₀ (fun _ _ _ => False) fF₀ false), ExcAt c' a (E x) → ∃ i ρ2, SetS N₀ ρ n i (.r (.ref a)) ρ2 ∧
    DSs c' suite ρ2 rs ⟨fun ρ3 r3 => ∃ ρ4, SetS N₀ ρ3 n i .un ρ4 ∧ P.nx ρ4 r3, P.rt, fun ρ3 r3 => ∃ ρ4, SetS N₀ ρ3 n i .un ρ4 ∧ P.bk ρ4 r3, fun ρ3 r3 => ∃ ρ4, SetS N₀ ρ3 n i .un ρ4 ∧ P.ct ρ4 r3⟩
theorem xok0 {c : Ctx m₀ N₀ sc₀ lv₀ (fun _ _ _ => False) fF₀ cm₀} {G : Fp} {H : Hp} : XOk c G H := fun _ _ _ _ _ _ _ _ _ z => z.elim
theorem ds_try {body suite : List Stmt} {b₀ : Stmt} {n : Str} {i : Nat} (er : Errs m₀ E ra ts) (hp : ("PaneError" : Str) ∈ ts) (hi : IxOf N₀ n i)
    (body_ : ∀ c' : Ctx m₀ N₀ sc₀ lv₀ (CatchD m₀ N₀ sc₀ lv₀ fF₀ E ra n (b₀ :: suite) P) fF₀ cm₀, DSs c' body ρ rs P)
    (hF : fF₀ = true := by rfl) (hg : KdIn sc₀.names ("PaneError" : Str) .globalImplicit := by first | ((with_reducible (repeat (first | exact KdIn.zero | apply KdIn.succ))); (first | (all_goals fail) | fail)) | exact kd_of rfl) (hn : sc₀.names.lookup n = some .local := by rfl) :
    DS c (.Try body [.ExceptHandler (some (.Name "PaneError" np)) (some n) (b₀ :: suite) pos'] [] [] pos) ρ rs P := by
  intro σ H G D he hs hX hd
  have eK := c.hm.K
  have hcz : ∀ (x : Str), x ∈ ra → ∀ (a : Addr) (oe : Obj) (pn : List (Addr × Obj)), Zc (.ref (E x)) none oe → (∃ vs, oe.data = .fields vs) → ExcAt (c.suite a ((a, oe) :: pn)) a (E x) := fun x hx a oe pn hz hf =>
    ⟨eK ▸ call_isE (X := c.X) (eK.symm ▸ (er.xc x hx).ec) hz hf, eK ▸ call_isET (X := c.X) (eK.symm ▸ (er.xc x hx).ec) (eK.symm ▸ (er.xc x hx).cl) hz hf⟩
  refine tS_of (ps_try_as (i := i) (c := .ref (E "PaneError")) (tb := fun W D σ H => ∀ pn xe, Takes (c.X.tr pn xe) W → PassesOwn (model c.X.prog c.X.w) c.X.A c.X.env xe → tSs (c.X.tr pn xe) body D σ H)
    (ts := fun a cls d D σ H => ∀ oe pn, Zc cls d oe → (∃ vs, oe.data = .fields vs) → tSs (c.X.suite a ((a, oe) :: pn)) (b₀ :: suite) D σ H) (Wout := fun _ _ _ _ => False)
    (c.fs hF).1 (c.fs hF).2 (by rw [c.hN]; exact c.nd) (by rw [c.hN]; exact hi.get) (by show c.X.env.kindOf n = _; unfold Env.kindOf; rw [c.hsc]; exact hn) ⟨c_gl hg, c.nd1 hg, .inl (by rw [c.hm.mg]; exact er.nm _ hp)⟩ takes0
    (fun W pn xe tk po => ⟨fun pins s _ _ _ I h => h pn xe tk po pins s I⟩) (fun a oe cls d pn hz hf => ⟨fun pins s _ _ _ I h => h oe pn hz hf pins s I⟩)) ?_
  intro pn xe tk po
  refine body_ (c.tr pn xe _ _ tk po) σ H G D he hs (fun C σ' H' G' ρ' rs' t e o k => ?_) hd
  obtain ⟨x, hx, rfl, k⟩ := k
  refine ⟨true, eK ▸ er.ex x hx, fun _ a ha => ?_, fun z => Bool.noConfusion z⟩
  intro oe pn' hz hf
  obtain ⟨j, ρ2, hset, k⟩ := k a (c.suite a ((a, oe) :: pn')) (hcz x hx a oe pn' hz hf)
  have ej : j = i := set_ix hset hi c.nd
  subst ej
  have hd2 := hd.stp t
  refine k _ H' G' _ (hset.env (show SlOk G' H' (.ref a) (.r (.ref a)) from rfl) e) o xok0 ⟨fun σ3 H3 G3 ρ3 r3 t3 e3 o3 ⟨ρ4, hu, k3⟩ => hd2.nx _ H3 G3 ρ4 r3 t3 (set_un hu e3) o3 k3, hd2.rt, fun σ3 H3 G3 ρ3 r3 t3 e3 o3 ⟨ρ4, hu, k3⟩ => hd2.bk _ H3 G3 ρ4 r3 t3 (set_un hu e3) o3 k3, fun σ3 H3 G3 ρ3 r3 t3 e3 o3 ⟨ρ4, hu, k3⟩ => hd2.ct _ H3 G3 ρ4 r3 t3 (set_un hu e3) o3 k3⟩
end
end PW

set_option maxHeartbeats 1000000
/-! More glue: refusals, powers, texts. -/
namespace PW
open PySem L2
variable [KC]
variable {m₀ : Mo} {N₀ : List Str} {sc₀ : Scope} {lv₀ : Nat} {xp₀ : Addr → List Sl → List Mem → Prop} {fF₀ cm₀ : Bool}
section
variable {c : Ctx m₀ N₀ sc₀ lv₀ xp₀ fF₀ cm₀} {e a b o : Expr} {es : List Expr} {ρ ρ' : List Sl} {rs : List Mem} {K : Sl → List Mem → Prop} {KB : Bool → List Mem → Prop} {P : Post} {x y : Str} {pos pos' p2 p3 np apos cpos : Pos} {E : Str → Addr} {ra ts : List Str} {D q : Addr} {st : Stmt} {sts : List Stmt}
theorem end_ex {fr : Mem} {exc : Addr → List Mem → Prop} (h : exc D []) : ∃ rs', Ent [fr] (rs' ++ [fr]) ∧ exc D rs' := ⟨[], ent_refl, h⟩
theorem end_ex1 {fr A : Mem} {exc : Addr → List Mem → Prop} (h : exc D [A]) : ∃ rs', Ent [A, fr] (rs' ++ [fr]) ∧ exc D rs' := ⟨[A], ent_refl, h⟩
theorem catch_of {n : Str} {suite : List Stmt} (hx : x ∈ ra) (h : ∀ (a : Addr) (c' : Ctx m₀ N₀ sc₀ lv₀ (fun _ _ _ => False) fF₀ false), ExcAt c' a (E x) → ∃ i ρ2, SetS N₀ ρ n i (.r (.ref a)) ρ2 ∧
    DSs c' suite ρ2 rs ⟨fun ρ3 r3 => ∃ ρ4, SetS N₀ ρ3 n i .un ρ4 ∧ P.nx ρ4 r3, P.rt, fun ρ3 r3 => ∃ ρ4, SetS N₀ ρ3 n i .un ρ4 ∧ P.bk ρ4 r3, fun ρ3 r3 => ∃ ρ4, SetS N₀ ρ3 n i .un ρ4 ∧ P.ct ρ4 r3⟩) : CatchD m₀ N₀ sc₀ lv₀ fF₀ E ra n suite P (E x) ρ rs := ⟨x, hx, rfl, h⟩
theorem ex_refs {ss : List Sl} {ys : List Str} {w : Bool} {B : List Str → Bool → Prop} {K : Bool → Prop} (h : RefsE E ss ys) (hb : B ys w) (k : K w) : ∃ ys, RefsE E ss ys ∧ ∃ w, B ys w ∧ K w := ⟨ys, h, w, hb, k⟩
theorem ex_eqr {u : V} {B : Prop} (h : B) : Sl.r u = .r u ∧ B := ⟨rfl, h⟩
/-- any item -/
theorem od_ixA {s1 : Sl} {ds : List PyData} {i : Int} (h : s1.asSeq = some ds) (hi : 0 ≤ i ∧ i < ds.length) (k : ∀ d, d ∈ ds → K (.d d) rs) : OpD (rIx KC.K) s1 (.d (.int i)) rs K := by
  obtain ⟨d, h1, h2⟩ := atI_in hi
  exact od_ixs h h1 (k d (List.mem_of_getElem? h2))
theorem ds_doc {z : Str} {j : Nat} (h : P.nx ρ rs) : DS c (.Expr (.Constant (.str z) j pos) pos') ρ rs P := fun σ H G D hE hs hx hd => tS_of ps_doc (hd.nx σ H G ρ rs (Stp.refl _ _) hE hs h)
theorem cpow10 {n : Int} (h : 0 ≤ n ∧ n ≤ 1000 := by decide) : CPow 10 n := ⟨h.1, by omega, by decide⟩
theorem od_p3 (k : K (.d (.int 1000)) rs) : OpD (rI CPow fun i j => .int (i ^ j.toNat)) (.d (.int 10)) (.d (.int 3)) rs K := od_pow cpow10 (by rw [show (10 : Int) ^ (3 : Int).toNat = 1000 from by decide +kernel]; exact k)
theorem od_p6 (k : K (.d (.int 1000000)) rs) : OpD (rI CPow fun i j => .int (i ^ j.toNat)) (.d (.int 10)) (.d (.int 6)) rs K := od_pow cpow10 (by rw [show (10 : Int) ^ (6 : Int).toNat = 1000000 from by decide +kernel]; exact k)
theorem od_p9 (k : K (.d (.int 1000000000)) rs) : OpD (rI CPow fun i j => .int (i ^ j.toNat)) (.d (.int 10)) (.d (.int 9)) rs K := od_pow cpow10 (by rw [show (10 : Int) ^ (9 : Int).toNat = 1000000000 from by decide +kernel]; exact k)
theorem od_p20 (k : K (.d (.int 100000000000000000000)) rs) : OpD (rI CPow fun i j => .int (i ^ j.toNat)) (.d (.int 10)) (.d (.int 20)) rs K := od_pow cpow10 (by rw [show (10 : Int) ^ (20 : Int).toNat = 100000000000000000000 from by decide +kernel]; exact k)
theorem od_p30 (k : K (.d (.int 1000000000000000000000000000000)) rs) : OpD (rI CPow fun i j => .int (i ^ j.toNat)) (.d (.int 10)) (.d (.int 30)) rs K := od_pow cpow10 (by rw [show (10 : Int) ^ (30 : Int).toNat = 1000000000000000000000000000000 from by decide +kernel]; exact k)
theorem od_p40 (k : K (.d (.int 10000000000000000000000000000000000000000)) rs) : OpD (rI CPow fun i j => .int (i ^ j.toNat)) (.d (.int 10)) (.d (.int 40)) rs K := od_pow cpow10 (by rw [show (10 : Int) ^ (40 : Int).toNat = 10000000000000000000000000000000000000000 from by decide +kernel]; exact k)
theorem od_p50 (k : K (.d (.int 100000000000000000000000000000000000000000000000000)) rs) : OpD (rI CPow fun i j => .int (i ^ j.toNat)) (.d (.int 10)) (.d (.int 50)) rs K := od_pow cpow10 (by rw [show (10 : Int) ^ (50 : Int).toNat = 100000000000000000000000000000000000000000000000000 from by decide +kernel]; exact k)
theorem od_p58 (k : K (.d (.int 10000000000000000000000000000000000000000000000000000000000)) rs) : OpD (rI CPow fun i j => .int (i ^ j.toNat)) (.d (.int 10)) (.d (.int 58)) rs K := od_pow cpow10 (by rw [show (10 : Int) ^ (58 : Int).toNat = 10000000000000000000000000000000000000000000000000000000000 from by decide +kernel]; exact k)
theorem od_p59 (k : K (.d (.int 100000000000000000000000000000000000000000000000000000000000)) rs) : OpD (rI CPow fun i j => .int (i ^ j.toNat)) (.d (.int 10)) (.d (.int 59)) rs K := od_pow cpow10 (by rw [show (10 : Int) ^ (59 : Int).toNat = 100000000000000000000000000000000000000000000000000000000000 from by decide +kernel]; exact k)
theorem od_p60 (k : K (.d (.int 1000000000000000000000000000000000000000000000000000000000000)) rs) : OpD (rI CPow fun i j => .int (i ^ j.toNat)) (.d (.int 10)) (.d (.int 60)) rs K := od_pow cpow10 (by rw [show (10 : Int) ^ (60 : Int).toNat = 1000000000000000000000000000000000000000000000000000000000000 from by decide +kernel]; exact k)
/-! ### str(n), int(s) -/
def showI (n : Int) : Str := Str.ofString (toString n)
theorem cd_str {n : Int} (hn : n.natAbs.log2 < 1920) (k : K (.d (.str (showI n))) rs) : CaD (fun xs H Q => ∃ i : Int, xs = [.int i] ∧ i.natAbs.log2 < 1920 ∧ Q (.str (Str.ofString (toString i))) H) [.d (.int n)] rs K := fun G H vs Q hv hs hq => by
  match vs, hv with
  | [v], hv => exact ⟨n, by rw [hv.1.int], hn, give0 hs hq (sl := .d (.str (showI n))) (Is.str _) k⟩
theorem dx_cstr (h : DX c a ρ rs fun s r1 => ∃ n : Int, s = .d (.int n) ∧ n.natAbs.log2 < 1920 ∧ K (.d (.str (showI n))) r1) (hg : KdIn sc₀.names ("str" : Str) .globalImplicit := by first | ((with_reducible (repeat (first | exact KdIn.zero | apply KdIn.succ))); (first | (all_goals fail) | fail)) | exact kd_of rfl) (he : starEach [a] c.X.env = (false, eval a c.X.env) :: starEach [] c.X.env := by rfl) :
    DX c (.Call (.Name "str" p2) [a] [] pos) ρ rs K :=
  dx_callTy call_str_int c.bl.str b_str (da_cons (fun σ H G Q a1 a2 a3 a4 => h σ H G Q a1 a2 a3 fun v H' G' sl rs' t r o ⟨n, e, hn, k⟩ => a4 v H' G' sl rs' t r o (da_nil (by subst e; exact cd_str hn k))) he) hg (he := he) (hpl := rfl)
theorem cd_int {z : Str} {n : Int} (hz : PySem.intText? z = some n) (hl : z.length ≤ 640) (k : K (.d (.int n)) rs) : CaD (fun xs H Q => ∃ (a : Str) (n : Int), xs = [.str a] ∧ PySem.intText? a = some n ∧ a.length ≤ 640 ∧ Q (.int n) H) [.d (.str z)] rs K := fun G H vs Q hv hs hq => by
  match vs, hv with
  | [v], hv => exact ⟨z, n, by rw [hv.1.str], hz, hl, give0 hs hq (sl := .d (.int n)) (Is.int _) k⟩
theorem dx_cint (h : DX c a ρ rs fun s r1 => ∃ z : Str, s = .d (.str z) ∧ ∃ n, PySem.intText? z = some n ∧ z.length ≤ 640 ∧ K (.d (.int n)) r1) (hg : KdIn sc₀.names ("int" : Str) .globalImplicit := by first | ((with_reducible (repeat (first | exact KdIn.zero | apply KdIn.succ))); (first | (all_goals fail) | fail)) | exact kd_of rfl) (he : starEach [a] c.X.env = (false, eval a c.X.env) :: starEach [] c.X.env := by rfl) :
    DX c (.Call (.Name "int" p2) [a] [] pos) ρ rs K :=
  dx_callTy call_int_str c.bl.int b_int (da_cons (fun σ H G Q a1 a2 a3 a4 => h σ H G Q a1 a2 a3 fun v H' G' sl rs' t r o ⟨z, e, n, h1, h2, k⟩ => a4 v H' G' sl rs' t r o (da_nil (by subst e; exact cd_int h1 h2 k))) he) hg (he := he) (hpl := rfl)
theorem log2_ok {n : Int} (h : -(10 ^ 70) < n ∧ n < 10 ^ 70) : n.natAbs.log2 < 1920 := by
  have := PySem.Flt.log2_lt_of (n := n.natAbs) (k := 300) (by decide) (by omega)
  omega
/-! ### a thing is itself -/
mutual
theorem eqv_refl : ∀ d : PyData, d.canLay0 = true → PyData.eqv d d = true
  | .none, _ => rfl
  | .bool b, _ => by show (b == b) = true; simp
  | .int i, _ => by show (i == i) = true; simp
  | .str z, _ => by show (z == z) = true; simp
  | .list xs, h => eqvAll_refl xs h
  | .tuple xs, h => eqvAll_refl xs h
  | .dict kvs, h => nomatch h
theorem eqvAll_refl : ∀ xs : List PyData, PyData.canLayAll0 xs = true → PyData.eqvAll xs xs = true
  | [], _ => rfl
  | x :: xs, h => by
    have h : (x.canLay0 && PyData.canLayAll0 xs) = true := h
    rw [Bool.and_eq_true] at h
    show (PyData.eqv x x && PyData.eqvAll xs xs) = true
    rw [eqv_refl x h.1, eqvAll_refl xs h.2]; rfl
end
theorem eqv_shaped {d : PyData} (h : SeqAt.shaped d = true) : PyData.eqv d d = true := by
  unfold SeqAt.shaped at h
  rw [Bool.and_eq_true] at h
  exact eqv_refl d h.1
theorem od_eqS {s1 s2 : Sl} {d : PyData} (h1 : s1.plain = .d d) (h2 : s2.plain = .d d) (h : SeqAt.shaped d = true) (k : K (.d (.bool true)) rs) : OpD (uEq KC.K) s1 s2 rs K := od_eq h1 h2 (.dat h h) (by rw [eqv_shaped h]; exact k)
theorem od_neS {s1 s2 : Sl} {d : PyData} (h1 : s1.plain = .d d) (h2 : s2.plain = .d d) (h : SeqAt.shaped d = true) (k : K (.d (.bool false)) rs) : OpD (uNe KC.K) s1 s2 rs K := od_ne h1 h2 (.dat h h) (by rw [eqv_shaped h]; exact k)
/-! ### what kind of error -/
section
open PySem.W
theorem kit_yes {K : Frag} {D C : Addr} (hc : isClsIn K C = true) (ht : typeIn K (.ref C) = some (.type "type")) (hs : subIn K (.ref D) (.ref C) = some true) : kitOne K (.ref D) (.ref C) = some true := by
  unfold kitOne
  split
  · rfl
  · unfold kitCls
    dsimp only
    rw [if_pos]
    · exact hs
    · rw [ht]
      have hc : (clsIn K C).isSome = true := hc
      rw [hc]; rfl
theorem kit_no {K : Frag} {D C : Addr} (hc : isClsIn K C = true) (ht : typeIn K (.ref C) = some (.type "type")) (hr : subIn K (.ref D) (.ref D) = some true) (hs : subIn K (.ref D) (.ref C) = some false) : kitOne K (.ref D) (.ref C) = some false := by
  unfold kitOne
  split
  · rename_i e
    have e := eq_of_beq e
    cases e
    rw [hr] at hs; cases hs
  · unfold kitCls
    dsimp only
    rw [if_pos]
    · exact hs
    · rw [ht]
      have hc : (clsIn K C).isSome = true := hc
      rw [hc]; rfl
theorem kit_ve {K : Frag} {D : Addr} (hs : subIn K (.ref D) (.type "ValueError") = some true) : kitOne K (.ref D) (.type "ValueError") = some true := by
  unfold kitOne
  rw [if_neg (by intro z; cases eq_of_beq z)]
  unfold kitCls
  dsimp only
  rw [if_pos (by decide +kernel)]; exact hs
theorem exm_pe {K : Frag} {D C : Addr} (hb : subIn K (.ref C) (.type "BaseException") = some true) (hc : isClsIn K C = true) (ht : typeIn K (.ref C) = some (.type "type")) (hs : subIn K (.ref D) (.ref C) = some true) : exmOne K (.ref D) (.ref C) = some true := by
  unfold exmOne
  rw [hb, if_pos (by rfl)]
  unfold kitCls
  dsimp only
  rw [if_pos]
  · exact hs
  · rw [ht]
    have hc : (clsIn K C).isSome = true := hc
    rw [hc]; rfl
end
/-! ### whole -/
def wholeD (d : PyData) : Bool := isD "int" d && !isD "bool" d
theorem wholeD_int {d : PyData} (h : wholeD d = true) : ∃ n, d = .int n := by
  cases d with
  | int n => exact ⟨n, rfl⟩
  | _ => exact absurd h (by intro z; cases z)
end
end PW

set_option maxHeartbeats 1000000
/-! Objects of the text's classes. -/
namespace PW
open PySem L2
variable [KC]
variable {m₀ : Mo} {N₀ : List Str} {sc₀ : Scope} {lv₀ : Nat} {xp₀ : Addr → List Sl → List Mem → Prop} {fF₀ cm₀ : Bool}
/-- fields of an object -/
def FldAll (G : Fp) (H : Hp) : List (Str × V) → List (Str × Sl) → Prop
  | [], [] => True
  | (f, v) :: vs, (g, s) :: ss => f = g ∧ SlOk G H v s ∧ FldAll G H vs ss
  | _, _ => False
theorem FldAll.stp0 {G G' : Fp} {H H' : Hp} (k : ∀ a o, H a = some o → ¬ G a → H' a = some o) (t : ∀ a, G' a → G a ∨ H a = none) : ∀ {vs : List (Str × V)} {ss : List (Str × Sl)}, FldAll G H vs ss → FldAll G' H' vs ss
  | [], [], _ => trivial
  | (_, _) :: _, (_, _) :: _, ⟨e, h, q⟩ => ⟨e, SlOk.stp0 k t h, q.stp0 k t⟩
  | [], _ :: _, h => h.elim
  | _ :: _, [], h => h.elim
theorem FldAll.length {G : Fp} {H : Hp} : ∀ {vs : List (Str × V)} {ss : List (Str × Sl)}, FldAll G H vs ss → vs.length = ss.length
  | [], [], _ => rfl
  | (_, _) :: _, (_, _) :: _, ⟨_, _, q⟩ => congrArg (· + 1) q.length
  | [], _ :: _, h => h.elim
  | _ :: _, [], h => h.elim
/-- a field's place, found by its look -/
inductive FldAt : List (Str × Sl) → Str → Sl → Prop
  | zero {f s l} : FldAt ((f, s) :: l) f s
  | succ {f s l p} : FldAt l f s → FldAt (p :: l) f s
inductive FldSet : List (Str × Sl) → Str → Sl → List (Str × Sl) → Prop
  | zero {f s t l} : FldSet ((f, t) :: l) f s ((f, s) :: l)
  | succ {f s l l' p} : FldSet l f s l' → FldSet (p :: l) f s (p :: l')
theorem FldAt.mem {l : List (Str × Sl)} {f : Str} {s : Sl} (h : FldAt l f s) : f ∈ l.map (·.1) := by
  induction h with
  | zero => simp
  | succ _ ih => simp only [List.map_cons, List.mem_cons]; exact .inr ih
theorem FldSet.mem {l l' : List (Str × Sl)} {f : Str} {s : Sl} (h : FldSet l f s l') : f ∈ l.map (·.1) := by
  induction h with
  | zero => simp
  | succ _ ih => simp only [List.map_cons, List.mem_cons]; exact .inr ih
theorem FldSet.names {l l' : List (Str × Sl)} {f : Str} {s : Sl} (h : FldSet l f s l') : l'.map (·.1) = l.map (·.1) := by
  induction h with
  | zero => rfl
  | succ _ ih => simp only [List.map_cons, ih]
theorem FldAt.get {G : Fp} {H : Hp} {f : Str} {s : Sl} {l : List (Str × Sl)} (h : FldAt l f s) : ∀ {vs : List (Str × V)}, (l.map (·.1)).Nodup → FldAll G H vs l → ∃ v, vs.lookup f = some v ∧ SlOk G H v s := by
  induction h with
  | @zero f s l =>
    intro vs nd q
    match vs, q with
    | (g, v) :: vs, ⟨e, h, q⟩ => subst e; exact ⟨v, by simp [List.lookup], h⟩
  | @succ f s l p h ih =>
    intro vs nd q
    obtain ⟨g2, s2⟩ := p
    match vs, q with
    | (g, v) :: vs', ⟨e, h2, q'⟩ =>
      subst e
      rw [List.map_cons, List.nodup_cons] at nd
      have ne : (f == g) = false := by
        cases z : (f == g) with
        | false => rfl
        | true => have z := eq_of_beq z; subst z; exact absurd h.mem nd.1
      obtain ⟨w, h3, h4⟩ := ih nd.2 q'
      exact ⟨w, by rw [List.lookup_cons, ne]; exact h3, h4⟩
theorem FldSet.put {G : Fp} {H : Hp} {f : Str} {s : Sl} {v : V} {l l' : List (Str × Sl)} (h : FldSet l f s l') : ∀ {vs : List (Str × V)}, (l.map (·.1)).Nodup → SlOk G H v s → FldAll G H vs l → FldAll G H (putF f v vs) l' := by
  induction h with
  | @zero f s t l =>
    intro vs nd hv q
    match vs, q with
    | (g, w) :: vs', ⟨e, h, q'⟩ =>
      subst e
      show FldAll G H (if g = g then (g, v) :: vs' else (g, w) :: putF g v vs') _
      rw [if_pos rfl]; exact ⟨rfl, hv, q'⟩
  | @succ f s l l' p h ih =>
    intro vs nd hv q
    obtain ⟨g2, s2⟩ := p
    match vs, q with
    | (g, w) :: vs', ⟨e, h2, q'⟩ =>
      subst e
      rw [List.map_cons, List.nodup_cons] at nd
      have ne : ¬ g = f := fun z => by subst z; exact nd.1 h.mem
      show FldAll G H (if g = f then (g, v) :: vs' else (g, w) :: putF f v vs') _
      rw [if_neg ne]; exact ⟨rfl, h2, ih nd.2 hv q'⟩
theorem fld_new {G : Fp} {H : Hp} {f : Str} {s : Sl} {v : V} : ∀ {vs : List (Str × V)} {l : List (Str × Sl)}, f ∉ l.map (·.1) → SlOk G H v s → FldAll G H vs l → FldAll G H (putF f v vs) (l ++ [(f, s)])
  | [], [], _, hv, _ => ⟨rfl, hv, trivial⟩
  | (g, w) :: vs, (g2, s2) :: l, nd, hv, ⟨e, h2, q⟩ => by
    subst e
    rw [List.map_cons, List.mem_cons, not_or] at nd
    show FldAll G H (if g = f then (g, v) :: vs else (g, w) :: putF f v vs) _
    rw [if_neg fun z => nd.1 z.symm]; exact ⟨rfl, h2, fld_new nd.2 hv q⟩
  | [], _ :: _, _, _, h => h.elim
  | _ :: _, [], _, _, h => h.elim
theorem fld_none {G : Fp} {H : Hp} {f : Str} : ∀ {vs : List (Str × V)} {l : List (Str × Sl)}, f ∉ l.map (·.1) → FldAll G H vs l → vs.lookup f = none
  | [], [], _, _ => rfl
  | (g, w) :: vs, (g2, s2) :: l, nd, ⟨e, h2, q⟩ => by
    subst e
    rw [List.map_cons, List.mem_cons, not_or] at nd
    have ne : (f == g) = false := by
      cases z : (f == g) with
      | false => rfl
      | true => exact absurd (eq_of_beq z) nd.1
    rw [List.lookup_cons, ne]; exact fld_none nd.2 q
  | [], _ :: _, _, h => h.elim
  | _ :: _, [], _, h => h.elim
/-- an object at p, of the class at C -/
def insM (C p : Addr) (fs : List (Str × Sl)) : Mem where
  ok F G H := ∃ dx vs, (∀ a, F a ↔ a = p ∨ a = dx) ∧ dx ≠ p ∧ H p = some (.ins C dx vs) ∧ H dx = some (.own p) ∧ FldAll G H vs fs
  dom := fun ⟨dx, vs, e, _, h1, h2, _⟩ a q => by
    rcases (e a).mp q with z | z
    · subst z; exact ⟨_, h1⟩
    · subst z; exact ⟨_, h2⟩
  step := fun ⟨dx, vs, e, n, h1, h2, al⟩ k s => ⟨dx, vs, e, n, k _ _ h1 (.inl ((e p).mpr (.inl rfl))), k _ _ h2 (.inl ((e dx).mpr (.inr rfl))), al.stp0 (fun a o q n => k a o q (.inr n)) s⟩
/-- what an object's fields are, and how they are changed -/
theorem ins_at {G : Fp} {H : Hp} {rs : List Mem} {C p : Addr} {fs : List (Str × Sl)} {f : List Mem → List Mem} (pk : Pick rs (insM C p fs) f) (hs : sepL rs G G H) :
    ∃ dx vs, H p = some (.ins C dx vs) ∧ FldAll G H vs fs ∧ G p ∧ ∀ ws fs', FldAll G H ws fs' → Stp G G H (upd H p (.ins C dx ws)) ∧ sepL (f [insM C p fs']) G G (upd H p (.ins C dx ws)) := by
  obtain ⟨F1, F2, ⟨dx, vs, eF, n, h1, h2, al⟩, _, dj, eG⟩ := pk.split.mp hs
  have gp : G p := (eG p).mpr (.inl ((eF p).mpr (.inl rfl)))
  refine ⟨dx, vs, h1, al, gp, fun ws fs' aw => ?_⟩
  refine sepL.change (B := insM C p fs') pk hs fun F1 hA sub => ?_
  obtain ⟨dx', vs', e1, n', h1', h2', al'⟩ := hA
  have edx : dx' = dx := by rw [h1] at h1'; cases h1'; rfl
  subst edx
  have gdx : G dx' := sub _ ((e1 dx').mpr (.inr rfl))
  refine ⟨fun a o q n => ?_, fun a o q => ?_, dx', ws, e1, n', upd_same, ?_, aw.stp0 (fun a o q n => ?_) fun a g => .inl g⟩
  · rw [upd_ne fun z => n ((e1 a).mpr (.inl z))]; exact q
  · by_cases ea : a = p
    · subst ea; exact ⟨_, upd_same⟩
    · rw [upd_ne ea]; exact ⟨o, q⟩
  · rw [upd_ne n']; exact h2'
  · rw [upd_ne (fun z => n (by rw [z]; exact gp))]; exact q
/-- a class of plain objects, and the names that are none of its own -/
structure ObjC (m : Mo) (C : Addr) (fs : List Str) : Prop where
  cls : Cls m.K C
  na : ∀ f ∈ fs, NoAttr m.K C f
structure FldC (m : Mo) (C : Addr) (f : Str) : Prop where
  cls : Cls m.K C
  na : NoAttr m.K C f
theorem fldc {m : Mo} {C : Addr} {as : List Str} {f : Str} (oc : ObjC m C as) (hf : f ∈ as) : FldC m C f := ⟨oc.cls, oc.na f hf⟩
section
variable {c : Ctx m₀ N₀ sc₀ lv₀ xp₀ fF₀ cm₀} {e a b o : Expr} {es : List Expr} {ρ ρ' : List Sl} {rs : List Mem} {K : Sl → List Mem → Prop} {P : Post} {x f : Str} {pos pos' p2 apos cpos : Pos} {st : Stmt} {sts : List Stmt} {C : Addr} {as : List Str} {k : Nat} {Q0 : Cn}
/-- o.f -/
theorem dx_fld (h : DX c o ρ rs fun s r => ∃ C p fs g sl, s = .r (.ref p) ∧ Pick r (insM C p fs) g ∧ FldC m₀ C f ∧ FldAt fs f sl ∧ (fs.map (·.1)).Nodup ∧ (∀ ds, sl ≠ .n ds) ∧ K sl r)
    (hb : attributeBase o f c.X.env (eval o c.X.env) = eval o c.X.env := by rfl) : DX c (.Attribute o f pos) ρ rs K := by
  intro σ H G Q he hs hx hq
  refine tE_of (pe_fld pe_t hb) ?_
  refine h σ H G _ he hs hx fun v H1 G1 s1 r1 t1 h1 o1 k1 => ?_
  obtain ⟨C, p, fs, g, sl, rfl, pk, fc, ha, nd, hn, k1⟩ := k1
  have ev : v = .ref p := h1
  subst ev
  obtain ⟨dx, vs, hp, al, _, _⟩ := ins_at pk o1
  obtain ⟨w, hw, hk⟩ := ha.get nd al
  exact ⟨p, C, dx, vs, w, rfl, hp, c.hm.K ▸ fc.cls, c.hm.K ▸ fc.na, hw, hq w H1 G1 sl r1 t1 (Rs.of_ok hk hn) o1 k1⟩
/-- o.f = e -/
theorem ds_fld (h : DX c e ρ rs fun s r => DX c o ρ r fun s1 r1 => ∃ C p fs g fs', s1 = .r (.ref p) ∧ Pick r1 (insM C p fs) g ∧ FldC m₀ C f ∧ (FldSet fs f s.plain fs' ∨ (f ∉ fs.map (·.1) ∧ fs' = fs ++ [(f, s.plain)])) ∧ (fs.map (·.1)).Nodup ∧ fs.length < 100 ∧ P.nx ρ (g [insM C p fs']))
    (hw : swapsWith e (some (.Attribute o f pos')) pos.line c.X.env = pure false := by rfl) : DS c (.Assign [.Attribute o f pos'] e pos) ρ rs P := by
  intro σ H G D he hs hx hd
  refine tS_of (ps_fld pe_t pe_t hw) ?_
  refine h σ H G _ he hs hx fun v H1 G1 s r1 t1 h1 o1 k1 => ?_
  refine k1 σ H1 G1 _ (he.stp t1) o1 (hx.stp t1) fun v2 H2 G2 s1 r2 t2 h2 o2 k2 => ?_
  obtain ⟨C, p, fs, g, fs', rfl, pk, fc, hset, nd, hl, k2⟩ := k2
  have ev : v2 = .ref p := h2
  subst ev
  obtain ⟨dx, vs, hp, al, _, ch⟩ := ins_at pk o2
  have hv : SlOk G2 H2 v s.plain := h1.ok.plain.stp t2
  have hput : FldAll G2 H2 (putF f v vs) fs' := by
    rcases hset with z | ⟨z, rfl⟩
    · exact z.put nd hv al
    · exact fld_new z hv al
  obtain ⟨t3, o3⟩ := ch _ _ hput
  exact ⟨p, C, dx, vs, rfl, hp, c.hm.K ▸ fc.cls, c.hm.K ▸ fc.na, by rw [al.length]; exact Nat.lt_trans hl (by decide), hd.nx σ _ G2 ρ _ ((t1.trans t2).trans t3) (((he.stp t1).stp t2).stp t3) o3 k2⟩
theorem ex_fld {p : Addr} {fs : List (Str × Sl)} {g : List Mem → List Mem} {sl : Sl} {B : Sl → Prop} (pk : Pick rs (insM C p fs) g) (fc : FldC m₀ C f) (ha : FldAt fs f sl) (nd : (fs.map (·.1)).Nodup) (hn : ∀ ds, sl ≠ .n ds) (k : B sl) :
    ∃ C p' fs' g' sl', Sl.r (.ref p) = .r (.ref p') ∧ Pick rs (insM C p' fs') g' ∧ FldC m₀ C f ∧ FldAt fs' f sl' ∧ (fs'.map (·.1)).Nodup ∧ (∀ ds, sl' ≠ .n ds) ∧ B sl' := ⟨C, p, fs, g, sl, rfl, pk, fc, ha, nd, hn, k⟩
theorem ex_fset {p : Addr} {fs fs1 : List (Str × Sl)} {g : List Mem → List Mem} {s : Sl} {B : Addr → Addr → (List Mem → List Mem) → List (Str × Sl) → Prop} (pk : Pick rs (insM C p fs) g) (fc : FldC m₀ C f) (ha : FldSet fs f s fs1) (nd : (fs.map (·.1)).Nodup) (hl : fs.length < 100) (k : B C p g fs1) :
    ∃ C p' fs' g' fs2, Sl.r (.ref p) = .r (.ref p') ∧ Pick rs (insM C p' fs') g' ∧ FldC m₀ C f ∧ (FldSet fs' f s fs2 ∨ (f ∉ fs'.map (·.1) ∧ fs2 = fs' ++ [(f, s)])) ∧ (fs'.map (·.1)).Nodup ∧ fs'.length < 100 ∧ B C p' g' fs2 := ⟨C, p, fs, g, fs1, rfl, pk, fc, .inl ha, nd, hl, k⟩
theorem ex_fnew {p : Addr} {fs : List (Str × Sl)} {g : List Mem → List Mem} {s : Sl} {B : Addr → Addr → (List Mem → List Mem) → List (Str × Sl) → Prop} (pk : Pick rs (insM C p fs) g) (fc : FldC m₀ C f) (ha : f ∉ fs.map (·.1)) (nd : (fs.map (·.1)).Nodup) (hl : fs.length < 100) (k : B C p g (fs ++ [(f, s)])) :
    ∃ C p' fs' g' fs2, Sl.r (.ref p) = .r (.ref p') ∧ Pick rs (insM C p' fs') g' ∧ FldC m₀ C f ∧ (FldSet fs' f s fs2 ∨ (f ∉ fs'.map (·.1) ∧ fs2 = fs' ++ [(f, s)])) ∧ (fs'.map (·.1)).Nodup ∧ fs'.length < 100 ∧ B C p' g' fs2 := ⟨C, p, fs, g, _, rfl, pk, fc, .inr ⟨ha, rfl⟩, nd, hl, k⟩
/-! ### methods -/
/-- the thing A has an object of C at p, with no field x -/
def InsAt (A : Mem) (C p : Addr) (x : Str) : Prop := ∀ F G H, A.ok F G H → ∃ dx fs, H p = some (.ins C dx fs) ∧ fs.lookup x = none
theorem insAt_ins {p : Addr} {fs : List (Str × Sl)} (h : x ∉ fs.map (·.1)) : InsAt (insM C p fs) C p x := fun F G H ⟨dx, vs, _, _, h1, _, al⟩ => ⟨dx, vs, h1, fld_none h al⟩
theorem insAt_ex {α : Type} {fam : α → List Mem} {p : Addr} {fs : α → List (Str × Sl)} {tl : α → List Mem} (e : ∀ q, fam q = insM C p (fs q) :: tl q) (h : ∀ q, x ∉ (fs q).map (·.1)) : InsAt (exM fam) C p x := fun F G H ⟨q, z⟩ => by
  rw [e q] at z
  obtain ⟨F1, F2, h1, _⟩ := z
  exact insAt_ins (h q) F1 G H h1
theorem run_meth {X : Cx} {CX : CXT} {k : Nat} {g C : Addr} {fd : FuncData} {ps : List Str} {sp : Sp} {E : L2.St → XK} {m : Str} {pos apos : Pos} {e o : Expr} {es : List Expr} {ta : TE} {t : TA} {pl : Sem Bool} (he : PE X o ta) (ca : Cls X.K C) (hm : Meth X.K C m g)
    (F : FnOk X.prog X.w X.K X.mg X.base CX k g fd ps sp) (hr : Room k X.A) (hb : Binds X.K fd ps []) (hx : ∀ σ, PassesAt CX X σ (E σ)) (ha : PA X (e :: es) t)
    (h1 : starEach (e :: es) X.env = (false, eval e X.env) :: starEach es X.env) (h2 : (backTo pos (starEach es X.env)).any (·.1) = false)
    (ht : eval (.Call (.Attribute o m apos) (e :: es) [] pos) X.env = (do let ov ← eval o X.env; standAt apos.atName; let (f, first) ← holding [ov] (getMethod ov m pl); callWith pos f first (backTo pos (starEach (e :: es) X.env)) (backToKw pos (keywordEach [] X.env)))) :
    PE X (.Call (.Attribute o m apos) (e :: es) [] pos) (fun σ H Q => ta σ H fun x H1 => ∃ a dx fs, x = .ref a ∧ H1 a = some (.ins C dx fs) ∧ fs.lookup m = none ∧ t σ H1 fun vs H2 => sp (x :: vs) H2 Q (E σ)) := by
  constructor
  intro pins s σ H Q I h
  refine PySem.W.methodCall_KW (pl := pl) (he := ht) ?_
  refine thn (he.run pins s σ H _ I h) ?_
  rintro u s1 ⟨x, H1, I1, rx, a, dx, fs, rfl, ea, l, q⟩
  have eu : u = Value.ref a := rx
  rw [eu]
  apply getmeth_ok I1 ea ca hm l
  apply PySem.W.callWith_K (h₀ := X.base) I.ok.mod.kin hm.kp _ h1 h2
  refine thn (ha.run pos pins s1 σ H1 _ I1 q) ?_
  rintro us s2 ⟨vs, H2, I2, r, q2⟩
  refine ⟨I2.kIn, ?_⟩
  exact run_fnS (vs := .ref a :: vs) F hr hb (hx σ) I2 (.cons rfl r) q2
theorem sep_ins {A : Mem} {p : Addr} {g : List Mem → List Mem} (pk : Pick rs A g) (ia : InsAt A C p x) {G : Fp} {H : Hp} (hs : sepL rs G G H) : ∃ dx fs, H p = some (.ins C dx fs) ∧ fs.lookup x = none := by
  obtain ⟨F1, F2, h1, _⟩ := pk.split.mp hs
  exact ia _ _ _ h1
theorem dx_meth {pl : Sem Bool} (F : MtIs m₀ C x k Q0) (oc : ObjC m₀ C as) (h : DX c o ρ rs fun s r => ∃ p A g, s = .r (.ref p) ∧ Pick r A g ∧ InsAt A C p x ∧ DA c (e :: es) ρ r fun ss r1 => CallEnd c Q0 (.r (.ref p) :: ss) ρ r1 K)
    (hk : k ≤ lv₀ := by decide) (hcm : cm₀ = true := by rfl) (h1 : starEach (e :: es) c.X.env = (false, eval e c.X.env) :: starEach es c.X.env := by rfl) (h2 : (backTo pos (starEach es c.X.env)).any (·.1) = false := by rfl)
    (ht : eval (.Call (.Attribute o x apos) (e :: es) [] pos) c.X.env = (do let ov ← eval o c.X.env; standAt apos.atName; let (f, first) ← holding [ov] (getMethod ov x pl); callWith pos f first (backTo pos (starEach (e :: es) c.X.env)) (backToKw pos (keywordEach [] c.X.env))) := by rfl) :
    DX c (.Call (.Attribute o x apos) (e :: es) [] pos) ρ rs K := by
  intro σ H G Q hE hs hx hq
  obtain ⟨f, fd, ps, F, mt, hb⟩ := F.ex
  refine tE_of (run_meth (E := fun σ => WE c.W σ) pe_t (by rw [c.hm.K]; exact oc.cls) (by rw [c.hm.K]; exact mt) (fn_at c.hm F) ((c.room hcm).mono hk) (by rw [c.hm.K]; exact hb) (fun σ => passAt c.tk σ) pa_t h1 h2 ht) ?_
  refine h σ H G _ hE hs hx fun v H1 G1 s1 r1 t1 q1 o1 k1 => ?_
  obtain ⟨p, A, g, rfl, pk, ia, k1⟩ := k1
  have ev : v = .ref p := q1
  subst ev
  obtain ⟨dx, fs, hp, hl⟩ := sep_ins pk ia o1
  refine ⟨p, dx, fs, rfl, hp, hl, ?_⟩
  refine k1 σ H1 G1 _ (hE.stp t1) o1 (hx.stp t1) fun vs H2 G2 ss r2 t2 q2 o2 k2 => ?_
  exact k2.run ((hE.stp t1).stp t2) o2 ((hx.stp t1).stp t2) (show SlAll G2 H2 (.ref p :: vs) (.r (.ref p) :: ss) from ⟨rfl, q2⟩) fun v H' G' sl rs' t3 h3 o3 k3 => hq v H' G' sl rs' ((t1.trans t2).trans t3) (h3.back (t1.trans t2)) o3 k3
/-- without arguments: nothing is raised -/
def CallEnd0 (C : Cn) (ss : List Sl) (r1 : List Mem) (K : Sl → List Mem → Prop) : Prop :=
  (C ss [] (fun s r2 => K s (r2 ++ r1)) (fun _ _ => False)) ∨ ∃ A f, Pick r1 A f ∧ C ss [A] (fun s r2 => K s (f r2)) (fun _ _ => False)
theorem CallEnd0.run {C : Cn} {ss : List Sl} {r1 : List Mem} (h : CallEnd0 C ss r1 K) {H : Hp} {G : Fp} {vs : List V} {Q : VK} (hs : sepL r1 G G H) (hv : SlAll G H vs ss)
    (hq : ∀ v H' G' sl rs', Stp G G' H H' → Rs G' H H' v sl → sepL rs' G' G' H' → K sl rs' → Q v H') : spC C vs H Q (fun _ _ _ => False) := by
  rcases h with h | ⟨A, f, p, h⟩
  · refine ⟨ss, sepM r1, [], G, _, _, hv, sepM_app.mpr hs, h, fun v H' G' sl rs' t r o k => hq v H' G' sl _ t r (sepM_app.mp o) k, fun D H' G' rs' t o k => k⟩
  · refine ⟨ss, sepM (f []), [A], G, _, _, hv, sepM_app.mpr (p.split.mp hs), h, fun v H' G' sl rs' t r o k => hq v H' G' sl _ t r (p.put.mpr (sepM_app.mp o)) k, fun D H' G' rs' t o k => k⟩
theorem ce0_inr {C : Cn} {ss : List Sl} {r1 : List Mem} {A : Mem} {f : List Mem → List Mem} (p : Pick r1 A f) (h : C ss [A] (fun s r2 => K s (f r2)) (fun _ _ => False)) : CallEnd0 C ss r1 K := .inr ⟨A, f, p, h⟩
theorem dx_meth0 {pl : Sem Bool} (F : MtIs m₀ C x k Q0) (oc : ObjC m₀ C as) (h : DX c o ρ rs fun s r => ∃ p A g, s = .r (.ref p) ∧ Pick r A g ∧ InsAt A C p x ∧ CallEnd0 Q0 [.r (.ref p)] r K)
    (hk : k ≤ lv₀ := by decide) (hcm : cm₀ = true := by rfl)
    (ht : eval (.Call (.Attribute o x apos) [] [] pos) c.X.env = (do let ov ← eval o c.X.env; standAt apos.atName; let (f, first) ← holding [ov] (getMethod ov x pl); callWith pos f first (backTo pos (starEach [] c.X.env)) (backToKw pos (keywordEach [] c.X.env))) := by rfl) :
    DX c (.Call (.Attribute o x apos) [] [] pos) ρ rs K := by
  intro σ H G Q hE hs hx hq
  obtain ⟨f, fd, ps, F, mt, hb⟩ := F.ex
  refine tE_of (pe_meth0 pe_t (by rw [c.hm.K]; exact oc.cls) (by rw [c.hm.K]; exact mt) (fn_at c.hm F) ((c.room hcm).mono hk) (by rw [c.hm.K]; exact hb) .nil passL ht) ?_
  refine h σ H G _ hE hs hx fun v H1 G1 s1 r1 t1 q1 o1 k1 => ?_
  obtain ⟨p, A, g, rfl, pk, ia, k1⟩ := k1
  have ev : v = .ref p := q1
  subst ev
  obtain ⟨dx, fs, hp, hl⟩ := sep_ins pk ia o1
  refine ⟨p, dx, fs, rfl, hp, hl, ?_⟩
  exact k1.run o1 (show SlAll G1 H1 [.ref p] [.r (.ref p)] from ⟨rfl, trivial⟩) fun v H' G' sl rs' t3 h3 o3 k3 => hq v H' G' sl rs' (t1.trans t3) (h3.back t1) o3 k3
/-! ### an object made -/
/-- the class named x: its place, its __init__ -/
structure MkIs (m : Mo) (x : Str) (C : Addr) (k : Nat) (Q : Cn) : Prop where
  ex : ∃ f fd ps, FnOk m.P m.w m.K m.mg m.base (L2.CX m.P m.w) k f fd ps (spC Q) ∧ Mk m.K C f ∧ m.mg x = some (.ref C) ∧ Binds m.K fd ps []
theorem own_ins {G : Fp} {H : Hp} {rs : List Mem} {p dx : Addr} (hs : sepL rs G G H) (hp : H p = none) (hd : H dx = none) (ne : dx ≠ p) :
    ∃ G', Stp G G' H (upd (upd H dx (.own p)) p (.ins C dx [])) ∧ sepL (insM C p [] :: rs) G' G' (upd (upd H dx (.own p)) p (.ins C dx [])) := by
  have hsame : Same H (upd (upd H dx (.own p)) p (.ins C dx [])) := fun a u e => by rw [upd_ne (ne_of_none e hp), upd_ne (ne_of_none e hd)]; exact e
  have s : Stp G (fun a => (a = p ∨ a = dx) ∨ G a) H (upd (upd H dx (.own p)) p (.ins C dx [])) := ⟨fun a o q _ => hsame a o q, fun a g => by
    rcases g with (rfl | rfl) | g
    · exact .inr hp
    · exact .inr hd
    · exact .inl g, fun a o q => ⟨o, hsame a o q⟩⟩
  refine ⟨_, s, fun a => a = p ∨ a = dx, G, ⟨dx, [], fun a => Iff.rfl, ne, upd_same, by rw [upd_ne ne]; exact upd_same, trivial⟩, sepL.step s.sub hs fun a o q _ => hsame a o q, fun a e g => ?_, fun a => Iff.rfl⟩
  rcases e with rfl | rfl
  · exact hs.fresh hp g
  · exact hs.fresh hd g
theorem dx_make (M : MkIs m₀ x C k Q0) (h : DA c (e :: es) ρ rs fun ss r1 => ∀ p, Q0 (.r (.ref p) :: ss) [insM C p []] (fun s r2 => s = .d .none ∧ K (.r (.ref p)) (r2 ++ r1)) (fun _ _ => False))
    (hk : k + 1 ≤ lv₀ := by decide) (hcm : cm₀ = true := by rfl) (hg : KdIn sc₀.names x .globalImplicit := by first | ((with_reducible (repeat (first | exact KdIn.zero | apply KdIn.succ))); (first | (all_goals fail) | fail)) | exact kd_of rfl)
    (h1 : starEach (e :: es) c.X.env = (false, eval e c.X.env) :: starEach es c.X.env := by rfl) (h2 : (backTo pos (starEach es c.X.env)).any (·.1) = false := by rfl) : DX c (.Call (.Name x p2) (e :: es) [] pos) ρ rs K := by
  intro σ H G Q hE hs hx hq
  obtain ⟨f, fd, ps, F, mk, hmg, hb⟩ := M.ex
  refine tE_of (pe_make (by rw [c.hm.K]; exact mk) (fn_at c.hm F) ((c.room hcm).mono hk) (c_gl hg) (by rw [c.hm.mg]; exact hmg) (by rw [c.hm.K]; exact hb) .nil passL pa_t (c.nd1 hg) h1 h2) ?_
  refine h σ H G _ hE hs hx fun vs H1 G1 ss r1 t1 q1 o1 k1 => ?_
  intro p dx hp hd ne
  obtain ⟨G2, t2, o2⟩ := own_ins (C := C) o1 hp hd ne
  rw [List.append_nil]
  refine ⟨.r (.ref p) :: ss, sepM r1, [insM C p []], G2, _, _, (show SlAll G2 _ (.ref p :: vs) (.r (.ref p) :: ss) from ⟨rfl, q1.stp t2⟩), sepM_app.mpr o2, k1 p, fun v H' G' sl rs' t r o ⟨es, k⟩ => ?_, fun D H' G' rs' t o k => k⟩
  subst es
  have hv : Is G' H' v .none := r
  refine ⟨by cases hv; rfl, ?_⟩
  exact hq (.ref p) H' G' (.r (.ref p)) _ ((t1.trans t2).trans t) rfl (sepM_app.mp o) k
end
end PW

set_option maxHeartbeats 1000000
/-! New lists, owned from the start. -/
namespace PW
open PySem L2
variable [KC]
variable {m₀ : Mo} {N₀ : List Str} {sc₀ : Scope} {lv₀ : Nat} {xp₀ : Addr → List Sl → List Mem → Prop} {fF₀ cm₀ : Bool}
section
variable {c : Ctx m₀ N₀ sc₀ lv₀ xp₀ fF₀ cm₀} {e a b tg it : Expr} {es : List Expr} {ρ ρ' : List Sl} {rs : List Mem} {KI : List Sl → (List Mem → Prop) → List Mem → Prop} {x : Str} {pos pos' p2 : Pos}
theorem lc_runO {elt : Expr} {tt : TT} {scope : Scope} {j : Nat} {K : Sl → List Mem → Prop} (hso : ScOk (relS scope sc₀)) (hj : IxOf N₀ x j)
    (h : DI c (.Name x p2) it ρ rs fun items keep r => ∃ (α : Type) (xs : List α) (enc : α → Sl) (p : α → Bool) (h : α → PyData), items = xs.map enc ∧ (∀ A : Mem, keep (A :: r)) ∧ xs.length ≤ 100000 ∧
      (∃ ρw, SetS N₀ ρ x j .un ρw ∧ ∀ y ∈ xs, ∃ ρ2, SetS N₀ ρw x j (enc y) ρ2 ∧ (p y = true → ElD c scope elt ρ2 r (h y)) ∧
        ∀ (A : Mem) (σ : L2.St) (H : Hp) (G : Fp) (Q : Bool → Hp → Prop), EnvOk G H σ ρ2 → sepL (A :: r) G G H → (∀ H' G', Stp G G' H H' → sepL (A :: r) G' G' H' → Q (p y) H') → tt σ H Q) ∧
      ∀ D, K (.r (.ref D)) (lstM D (((xs.filter p).map h).map .d) :: r))
    {σ : L2.St} {H : Hp} {G : Fp} {Q : VK} (he : EnvOk G H σ ρ) (hs : sepL rs G G H) (hx : XOk c G H) (hq : ∀ v H' G' sl rs', Stp G G' H H' → Rs G' H H' v sl → sepL rs' G' G' H' → K sl rs' → Q v H') :
    tLc (tI c.X (.Name x p2) it) (gName j) tt (tBE c.X scope elt) [j] σ H Q := by
  refine h σ H G _ he hs hx fun J H1 G1 items keep r1 t1 o1 jok k1 => ?_
  obtain ⟨α, xs, enc, p, hh, rfl, hk, hlen, ⟨ρw, hw, ht⟩, kend⟩ := k1
  intro D hD
  -- the new list at D is a thing of one's own meanwhile
  have key : ∀ (acc : List V) (G' : Fp) (H' : Hp) (ds : List PyData), H' D = some (.lst acc) → IsAll G' H' acc ds → G' D → sepL (lstM D (ds.map .d) :: r1) G' G' H' → True := fun _ _ _ _ _ _ _ _ => trivial
  have nG1 : ¬ G1 D := o1.fresh hD
  obtain ⟨tj, oj⟩ := sepL.join (A := lstM D []) (H' := upd H1 D (.lst [])) o1 (same_new hD) hD ⟨fun a => Iff.rfl, [], upd_same, trivial⟩
  refine ⟨fun i m H' => m = xs.length - i ∧ i ≤ xs.length ∧ ∃ G', Stp G1 G' H1 H' ∧ sepL (lstM D (((xs.take i).filter p).map (fun y => .d (hh y))) :: r1) G' G' H', ⟨_, rfl, Nat.zero_le _, _, tj, oj⟩, ?_⟩
  rintro i m H' ⟨rfl, hle, G', t2, o2⟩
  have jk := jok G' H' _ t2 o2 (hk _) i
  by_cases hlt : i < xs.length
  · have hgo := jk.1 (by simpa using hlt)
    refine .inr ⟨hgo.1, fun H2 => ∃ G2, Stp G1 G2 H1 H2 ∧ sepL (lstM D (((xs.take (i + 1)).filter p).map (fun y => .d (hh y))) :: r1) G2 G2 H2, fun H2 ⟨G2, a, b⟩ => ⟨_, by omega, rfl, by omega, G2, a, b⟩, fun v H2 yl => ?_⟩
    obtain ⟨rfl, sl, hsl, hy⟩ := hgo.2 v H2 yl
    have hsl' : sl = enc xs[i] := by
      rw [List.getElem?_map, List.getElem?_eq_getElem hlt] at hsl
      exact (Option.some.inj hsl).symm
    subst hsl'
    obtain ⟨ρ2, hset, hel, htt⟩ := ht xs[i] (List.getElem_mem hlt)
    have tk : xs.take (i + 1) = xs.take i ++ [xs[i]] := by simp
    have eEnv : EnvOk G' H2 ((wipe σ [j]).set j (some v)) ρ2 := hset.env hy (set_un hw ((he.stp t1).stp t2))
    refine ⟨?_, ?_⟩
    · show ((σ.set j none).set j (some v)).set j none = σ.set j none
      rw [List.set_set, List.set_set]
    refine htt _ _ H2 G' _ eEnv o2 fun H3 G3 t3 o3 => ?_
    cases hp : p xs[i] with
    | false =>
      show ∃ G2, _
      refine ⟨G3, t2.trans t3, ?_⟩
      rw [tk, List.filter_append, List.filter_cons, if_neg (by rw [hp]; exact Bool.false_ne_true)]
      simpa using o3
    | true =>
      show tBE c.X scope elt _ H3 _
      intro s0 H0 C0 cl0 fp0
      refine hel hp _ s0 H0 C0 cl0 fp0 hso _ H3 G3 _ (eEnv.stp t3) o3 xok_blk fun w H4 G4 s4 r4 t4 h4 o4 k4 => ?_
      obtain ⟨e4, rfl⟩ := k4
      have hw4 : Is G4 H4 w (hh xs[i]) := plain_d e4 h4.ok
      obtain ⟨F1, F2, ⟨eF, acc, hD4, al⟩, oR, dj, eG⟩ := id o4
      have hle4 : acc.length ≤ xs.length := by
        have := al.length
        rw [List.length_map] at this
        have l2 : ((xs.take i).filter p).length ≤ (xs.take i).length := List.length_filter_le _ _
        rw [List.length_take] at l2
        omega
      refine ⟨acc, hD4, Nat.lt_of_le_of_lt (Nat.le_trans hle4 hlen) (by decide), G4, ?_, ?_⟩
      · have t14 := (t2.trans t3).trans t4
        refine ⟨fun a o q n => ?_, t14.sub, fun a o q => ?_⟩
        · rw [upd_ne (ne_of_none q hD)]
          exact t14.keep a o q n
        · by_cases ea : a = D
          · subst ea; exact ⟨_, upd_same⟩
          · rw [upd_ne ea]; exact t14.old a o q
      · have kp : ∀ a o, H4 a = some o → ¬ F1 a → upd H4 D (.lst (acc ++ [w])) a = some o := fun a o q n => by
          rw [upd_ne fun z => n ((eF a).mpr z)]
          exact q
        have gD : G4 D := (eG D).mpr (.inl ((eF D).mpr rfl))
        have kG : ∀ a o, H4 a = some o → ¬ G4 a → upd H4 D (.lst (acc ++ [w])) a = some o := fun a o q n => kp a o q fun z => n ((eG a).mpr (.inl z))
        refine ⟨F1, F2, ⟨eF, acc ++ [w], upd_same, ?_⟩, sepL.step (fun a g => .inl g) oR (fun a o q z => kp a o q fun y => ?_), dj, eG⟩
        · rw [tk, List.filter_append, List.filter_cons, if_pos hp, List.filter_nil, List.map_append]
          exact (al.stp0 kG fun a g => .inl g).append ⟨hw4.stp0 kG fun a g => .inl g, trivial⟩
        · rcases z with z | z
          · exact dj a y z
          · exact z ((eG a).mpr (.inl y))
  · have hi : i = xs.length := by omega
    subst hi
    rw [List.take_length] at o2
    refine .inl ⟨jk.2 (by simp), ?_⟩
    have e : ((xs.filter p).map hh).map Sl.d = (xs.filter p).map fun y => .d (hh y) := by rw [List.map_map]; rfl
    exact hq (.ref D) H' G' (.r (.ref D)) _ (t1.trans t2) rfl (by rw [e]; exact o2) (kend D)
theorem dx_lc0O {elt : Expr} {scope : Scope} {j : Nat} {K : Sl → List Mem → Prop} (hj : IxOf N₀ x j) (hok : BlkOk N₀ sc₀ scope [(x, j)])
    (h : DI c (.Name x p2) it ρ rs fun items keep r => ∃ (α : Type) (xs : List α) (enc : α → Sl) (h : α → PyData), items = xs.map enc ∧ (∀ A : Mem, keep (A :: r)) ∧ xs.length ≤ 100000 ∧
      (∃ ρw, SetS N₀ ρ x j .un ρw ∧ ∀ y ∈ xs, ∃ ρ2, SetS N₀ ρw x j (enc y) ρ2 ∧ ElD c scope elt ρ2 r (h y)) ∧ ∀ D, K (.r (.ref D)) (lstM D ((xs.map h).map .d) :: r))
    (hso : ScOk (relS scope sc₀) := by decide +kernel) (hcm : cm₀ = true := by rfl) (hl : scope.names.lookup x = some .local := by rfl) (hr : (relS scope sc₀).names.lookup x = some .local := by rfl) (hf : ∀ y, foldedSetIterable it c.X.env y = pure y := by intro _; rfl) : DX c (.ListComp elt [⟨.Name x p2, it, [], 0⟩] scope pos) ρ rs K := by
  intro σ H G Q he hs hx hq
  have nd : c.X.N.Nodup := by rw [c.hN]; exact c.nd
  have hi : c.X.N[j]? = some x := by rw [c.hN]; exact hj.get
  refine tE_of (pe_lc (own := [(x, j)]) (g := gName j) (tt := tYes) (te := tBE c.X scope elt) (c.calm hcm) nd pi_t (by rw [c.hN, c.hsc]; exact hok) (fun s H C cl fp => pg_name nd hi (.inl (by show (relS scope c.X.env.scope).names.lookup x = _; rw [c.hsc]; exact hr)) (.inr (by show (relS scope c.X.env.scope).names.lookup x = _; rw [c.hsc]; exact hr))) (fun _ _ _ _ _ => pts_nil) (fun s H C cl fp => pe_b s H C cl fp) hf) ?_
  refine lc_runO (K := K) hso hj ?_ he hs hx hq
  refine fun σ H G R a b d k => h σ H G R a b d fun J H' G' items keep rs' t o jo q => k J H' G' items keep rs' t o jo ?_
  obtain ⟨α, xs, enc, hh, e1, e2, e3, ⟨ρw, w1, w2⟩, e5⟩ := q
  refine ⟨α, xs, enc, fun _ => true, hh, e1, e2, e3, ⟨ρw, w1, fun y hy => ?_⟩, by
    have z : xs.filter (fun _ => true) = xs := List.filter_eq_self.mpr fun _ _ => rfl
    rw [z]; exact e5⟩
  obtain ⟨ρ2, s1, s2⟩ := w2 y hy
  exact ⟨ρ2, s1, fun _ => s2, fun A σ H G Q _ o2 hq => hq H G (Stp.refl _ _) o2⟩
theorem dx_lc1O {elt t : Expr} {scope : Scope} {j : Nat} {K : Sl → List Mem → Prop} (hj : IxOf N₀ x j) (hok : BlkOk N₀ sc₀ scope [(x, j)])
    (h : DI c (.Name x p2) it ρ rs fun items keep r => ∃ (α : Type) (xs : List α) (enc : α → Sl) (p : α → Bool) (h : α → PyData), items = xs.map enc ∧ (∀ A : Mem, keep (A :: r)) ∧ xs.length ≤ 100000 ∧
      (∃ ρw, SetS N₀ ρ x j .un ρw ∧ ∀ y ∈ xs, ∃ ρ2, SetS N₀ ρw x j (enc y) ρ2 ∧ TsD c scope t ρ2 r (p y) ∧ (p y = true → ElD c scope elt ρ2 r (h y))) ∧ ∀ D, K (.r (.ref D)) (lstM D (((xs.filter p).map h).map .d) :: r))
    (hso : ScOk (relS scope sc₀) := by decide +kernel) (hcm : cm₀ = true := by rfl) (hl : scope.names.lookup x = some .local := by rfl) (hr : (relS scope sc₀).names.lookup x = some .local := by rfl) (hf : ∀ y, foldedSetIterable it c.X.env y = pure y := by intro _; rfl) : DX c (.ListComp elt [⟨.Name x p2, it, [t], 0⟩] scope pos) ρ rs K := by
  intro σ H G Q he hs hx hq
  have nd : c.X.N.Nodup := by rw [c.hN]; exact c.nd
  have hi : c.X.N[j]? = some x := by rw [c.hN]; exact hj.get
  refine tE_of (pe_lc (own := [(x, j)]) (g := gName j) (tt := tBT c.X scope t) (te := tBE c.X scope elt) (c.calm hcm) nd pi_t (by rw [c.hN, c.hsc]; exact hok) (fun s H C cl fp => pg_name nd hi (.inl (by show (relS scope c.X.env.scope).names.lookup x = _; rw [c.hsc]; exact hr)) (.inr (by show (relS scope c.X.env.scope).names.lookup x = _; rw [c.hsc]; exact hr))) (fun s H C cl fp => pts_one (pt_b s H C cl fp)) (fun s H C cl fp => pe_b s H C cl fp) hf) ?_
  refine lc_runO (K := K) hso hj ?_ he hs hx hq
  refine fun σ H G R a b d k => h σ H G R a b d fun J H' G' items keep rs' t o jo q => k J H' G' items keep rs' t o jo ?_
  obtain ⟨α, xs, enc, p, hh, e1, e2, e3, ⟨ρw, w1, w2⟩, e5⟩ := q
  refine ⟨α, xs, enc, p, hh, e1, e2, e3, ⟨ρw, w1, fun y hy => ?_⟩, e5⟩
  obtain ⟨ρ2, s1, s2, s3⟩ := w2 y hy
  refine ⟨ρ2, s1, s3, fun A σ H G Q ee o2 hq => ?_⟩
  intro s0 H0 C0 cl0 fp0
  refine s2 A s0 H0 C0 cl0 fp0 hso σ H G _ ee o2 xok_blk fun k H1 G1 r1 t1 o1 k1 => ?_
  obtain ⟨rfl, rfl⟩ := k1
  exact hq H1 G1 t1 o1
theorem ds_lc0O {P : Post} {y : Str} {py : Pos} {i : Nat} {elt : Expr} {scope : Scope} {j : Nat} (hiy : IxOf N₀ y i) (hj : IxOf N₀ x j) (hok : BlkOk N₀ sc₀ scope [(x, j)])
    (h : DI c (.Name x p2) it ρ rs fun items keep r => ∃ (α : Type) (xs : List α) (enc : α → Sl) (h : α → PyData), items = xs.map enc ∧ (∀ A : Mem, keep (A :: r)) ∧ xs.length ≤ 100000 ∧
      (∃ ρw, SetS N₀ ρ x j .un ρw ∧ ∀ y ∈ xs, ∃ ρ2, SetS N₀ ρw x j (enc y) ρ2 ∧ ElD c scope elt ρ2 r (h y)) ∧ ∀ D, ∃ ρ', SetS N₀ ρ y i (.r (.ref D)) ρ' ∧ P.nx ρ' (lstM D ((xs.map h).map .d) :: r))
    (hso : ScOk (relS scope sc₀) := by decide +kernel) (hcm : cm₀ = true := by rfl) (hl : scope.names.lookup x = some .local := by rfl) (hr : (relS scope sc₀).names.lookup x = some .local := by rfl) (hyl : sc₀.names.lookup y = some .local := by rfl) (hkd : sc₀.kind = .function := by rfl) (hln : (py.line == pos.line) = true := by rfl) (hny : (scope.names.any fun (n, k) => n == y && (k == .local || k == .cell)) = false := by first | rfl | decide +kernel)
    (hf : ∀ y, foldedSetIterable it c.X.env y = pure y := by intro _; rfl) : DS c (.Assign [.Name y py] (.ListComp elt [⟨.Name x p2, it, [], 0⟩] scope pos) pos') ρ rs P := by
  intro σ H G D he hs hx hd
  have nd : c.X.N.Nodup := by rw [c.hN]; exact c.nd
  have hi : c.X.N[j]? = some x := by rw [c.hN]; exact hj.get
  have hyi : c.X.N[i]? = some y := by rw [c.hN]; exact hiy.get
  refine tS_of (ps_setLc (own := [(x, j)]) (g := gName j) (tt := tYes) (te := tBE c.X scope elt) (c.calm hcm) nd hyi (by rw [c.hsc]; exact hyl) (sw_true (by rw [c.hsc]; exact hkd) (by rw [c.hsc]; exact hyl) hln hny) pi_t (by rw [c.hN, c.hsc]; exact hok) (fun s H C cl fp => pg_name nd hi (.inl (by show (relS scope c.X.env.scope).names.lookup x = _; rw [c.hsc]; exact hr)) (.inr (by show (relS scope c.X.env.scope).names.lookup x = _; rw [c.hsc]; exact hr))) (fun _ _ _ _ _ => pts_nil) (fun s H C cl fp => pe_b s H C cl fp) hf) ?_
  refine lc_runO (K := fun s r => ∃ ρ', SetS N₀ ρ y i s.plain ρ' ∧ P.nx ρ' r) (Q := fun v H' => D.nx (σ.set i (some v)) H') hso hj ?_ he hs hx fun v H' G' sl r' t q o ⟨ρ', z, k⟩ => hd.nx _ H' G' ρ' r' t (z.env q.ok.plain (he.stp t)) o k
  refine fun σ H G R a b d k => h σ H G R a b d fun J H' G' items keep rs' t o jo q => k J H' G' items keep rs' t o jo ?_
  obtain ⟨α, xs, enc, hh, e1, e2, e3, ⟨ρw, w1, w2⟩, e5⟩ := q
  refine ⟨α, xs, enc, fun _ => true, hh, e1, e2, e3, ⟨ρw, w1, fun y hy => ?_⟩, by
    have z : xs.filter (fun _ => true) = xs := List.filter_eq_self.mpr fun _ _ => rfl
    rw [z]; exact e5⟩
  obtain ⟨ρ2, s1, s2⟩ := w2 y hy
  exact ⟨ρ2, s1, fun _ => s2, fun A σ H G Q _ o2 hq => hq H G (Stp.refl _ _) o2⟩
theorem ds_lc1O {P : Post} {y : Str} {py : Pos} {i : Nat} {elt t : Expr} {scope : Scope} {j : Nat} (hiy : IxOf N₀ y i) (hj : IxOf N₀ x j) (hok : BlkOk N₀ sc₀ scope [(x, j)])
    (h : DI c (.Name x p2) it ρ rs fun items keep r => ∃ (α : Type) (xs : List α) (enc : α → Sl) (p : α → Bool) (h : α → PyData), items = xs.map enc ∧ (∀ A : Mem, keep (A :: r)) ∧ xs.length ≤ 100000 ∧
      (∃ ρw, SetS N₀ ρ x j .un ρw ∧ ∀ y ∈ xs, ∃ ρ2, SetS N₀ ρw x j (enc y) ρ2 ∧ TsD c scope t ρ2 r (p y) ∧ (p y = true → ElD c scope elt ρ2 r (h y))) ∧ ∀ D, ∃ ρ', SetS N₀ ρ y i (.r (.ref D)) ρ' ∧ P.nx ρ' (lstM D (((xs.filter p).map h).map .d) :: r))
    (hso : ScOk (relS scope sc₀) := by decide +kernel) (hcm : cm₀ = true := by rfl) (hl : scope.names.lookup x = some .local := by rfl) (hr : (relS scope sc₀).names.lookup x = some .local := by rfl) (hyl : sc₀.names.lookup y = some .local := by rfl) (hkd : sc₀.kind = .function := by rfl) (hln : (py.line == pos.line) = true := by rfl) (hny : (scope.names.any fun (n, k) => n == y && (k == .local || k == .cell)) = false := by first | rfl | decide +kernel)
    (hf : ∀ y, foldedSetIterable it c.X.env y = pure y := by intro _; rfl) : DS c (.Assign [.Name y py] (.ListComp elt [⟨.Name x p2, it, [t], 0⟩] scope pos) pos') ρ rs P := by
  intro σ H G D he hs hx hd
  have nd : c.X.N.Nodup := by rw [c.hN]; exact c.nd
  have hi : c.X.N[j]? = some x := by rw [c.hN]; exact hj.get
  have hyi : c.X.N[i]? = some y := by rw [c.hN]; exact hiy.get
  refine tS_of (ps_setLc (own := [(x, j)]) (g := gName j) (tt := tBT c.X scope t) (te := tBE c.X scope elt) (c.calm hcm) nd hyi (by rw [c.hsc]; exact hyl) (sw_true (by rw [c.hsc]; exact hkd) (by rw [c.hsc]; exact hyl) hln hny) pi_t (by rw [c.hN, c.hsc]; exact hok) (fun s H C cl fp => pg_name nd hi (.inl (by show (relS scope c.X.env.scope).names.lookup x = _; rw [c.hsc]; exact hr)) (.inr (by show (relS scope c.X.env.scope).names.lookup x = _; rw [c.hsc]; exact hr))) (fun s H C cl fp => pts_one (pt_b s H C cl fp)) (fun s H C cl fp => pe_b s H C cl fp) hf) ?_
  refine lc_runO (K := fun s r => ∃ ρ', SetS N₀ ρ y i s.plain ρ' ∧ P.nx ρ' r) (Q := fun v H' => D.nx (σ.set i (some v)) H') hso hj ?_ he hs hx fun v H' G' sl r' t q o ⟨ρ', z, k⟩ => hd.nx _ H' G' ρ' r' t (z.env q.ok.plain (he.stp t)) o k
  refine fun σ H G R a b d k => h σ H G R a b d fun J H' G' items keep rs' t o jo q => k J H' G' items keep rs' t o jo ?_
  obtain ⟨α, xs, enc, p, hh, e1, e2, e3, ⟨ρw, w1, w2⟩, e5⟩ := q
  refine ⟨α, xs, enc, p, hh, e1, e2, e3, ⟨ρw, w1, fun y hy => ?_⟩, e5⟩
  obtain ⟨ρ2, s1, s2, s3⟩ := w2 y hy
  refine ⟨ρ2, s1, s3, fun A σ H G Q ee o2 hq => ?_⟩
  intro s0 H0 C0 cl0 fp0
  refine s2 A s0 H0 C0 cl0 fp0 hso σ H G _ ee o2 xok_blk fun k H1 G1 r1 t1 o1 k1 => ?_
  obtain ⟨rfl, rfl⟩ := k1
  exact hq H1 G1 t1 o1
end
section
variable {c : Ctx m₀ N₀ sc₀ lv₀ xp₀ fF₀ cm₀} {e a b o : Expr} {es : List Expr} {ρ ρ' : List Sl} {rs : List Mem} {K : Sl → List Mem → Prop} {P : Post} {x f : Str} {pos pos' p2 : Pos} {s1 s2 : Sl}
theorem cut_all {G : Fp} {H : Hp} {vs : List V} {ss : List Sl} (h : SlAll G H vs ss) (lo hi : Option Int) : SlAll G H (cutV vs lo hi) (cutL ss lo hi) := by
  have hd : ∀ (n : Nat) {vs : List V} {ss : List Sl}, SlAll G H vs ss → SlAll G H (vs.drop n) (ss.drop n) := by
    intro n
    induction n with
    | zero => intro vs ss h; exact h
    | succ n ih =>
      intro vs ss h
      match vs, ss, h with
      | [], [], _ => exact trivial
      | _ :: vs, _ :: ss, h => exact ih h.2
  have ht : ∀ (n : Nat) {vs : List V} {ss : List Sl}, SlAll G H vs ss → SlAll G H (vs.take n) (ss.take n) := by
    intro n
    induction n with
    | zero => intro vs ss h; cases vs <;> cases ss <;> exact trivial
    | succ n ih =>
      intro vs ss h
      match vs, ss, h with
      | [], [], _ => exact trivial
      | _ :: vs, _ :: ss, h => exact ⟨h.1, ih h.2⟩
  unfold cutV cutL
  rw [h.length]
  exact ht _ (hd _ h)
theorem ex_seq {s : Sl} {ds : List PyData} {K : List PyData → Prop} (e : s.asSeq = some ds) (h : K ds) : ∃ ds, s.asSeq = some ds ∧ K ds := ⟨ds, e, h⟩
def isI : PyData → Bool
  | .int _ => true
  | _ => false
/-- any item of a list of ints -/
theorem od_ixI {rs : List Mem} {K : Sl → List Mem → Prop} {s1 : Sl} {ds : List PyData} {i : Int} (h : s1.asSeq = some ds) (hi : 0 ≤ i ∧ i < ds.length) (ha : ds.all isI = true) (k : ∀ n : Int, K (.d (.int n)) rs) : OpD (rIx KC.K) s1 (.d (.int i)) rs K := od_ixA h hi fun d hd => by
  have := List.all_eq_true.mp ha d hd
  cases d with
  | int n => exact k n
  | _ => cases this
theorem layAll : ∀ {ds : List PyData}, (∀ d ∈ ds, d.canLay0 = true) → PyData.canLayAll0 ds = true
  | [], _ => rfl
  | d :: ds, h => by
    show (d.canLay0 && PyData.canLayAll0 ds) = true
    rw [h d List.mem_cons_self, layAll fun x hx => h x (List.mem_cons_of_mem _ hx)]; rfl
theorem depAll {n : Nat} : ∀ {ds : List PyData}, (∀ d ∈ ds, d.depth ≤ n) → PyData.depthAll ds ≤ n
  | [], _ => Nat.zero_le _
  | d :: ds, h => by
    show max d.depth (PyData.depthAll ds) ≤ n
    exact Nat.max_le.mpr ⟨h d List.mem_cons_self, depAll fun x hx => h x (List.mem_cons_of_mem _ hx)⟩
theorem shaped_list {ds : List PyData} (n : Nat) (hn : n + 1 ≤ 64) (h : ∀ d ∈ ds, d.canLay0 = true ∧ d.depth ≤ n) : SeqAt.shaped (.list ds) = true := by
  unfold SeqAt.shaped
  rw [Bool.and_eq_true]
  refine ⟨layAll fun d hd => (h d hd).1, decide_eq_true ?_⟩
  have := depAll (n := n) fun d hd => (h d hd).2
  show PyData.depthAll ds + 1 ≤ 64
  omega
theorem eqv_t2 (a b d e : Int) : PyData.eqv (.tuple [.int a, .int b]) (.tuple [.int d, .int e]) = (decide (a = d) && decide (b = e)) := by
  show ((a == d) && ((b == e) && true)) = _
  rw [Bool.and_true]
  by_cases h : a = d <;> by_cases h2 : b = e <;> simp [h, h2]
def Has (rs Bs : List Mem) : Prop := ∃ rest, Grab rs Bs rest
theorem has_nil {rs : List Mem} : Has rs [] := ⟨rs, .nil⟩
theorem has_cons {rs Bs : List Mem} {A : Mem} {f : List Mem → List Mem} (pk : Pick rs A f) (h : Has (f []) Bs) : Has rs (A :: Bs) := h.elim fun r g => ⟨r, .cons pk g⟩
theorem ent_has {rs Bs : List Mem} (h : Has rs Bs) : Ent rs Bs := h.elim fun _ g => ent_grab g
theorem cut_1 {α : Type} (xs : List α) : cutL xs (some 1) none = xs.drop 1 := by
  unfold cutL HT.sIx
  simp only [show ¬ ((1 : Int) < 0) by decide, if_false]
  rw [show (1 : Int).toNat = 1 from rfl]
  cases xs with
  | nil => rfl
  | cons a l =>
    rw [List.length_cons, Nat.min_eq_left (by omega), List.drop_succ_cons, List.drop_zero]
    exact List.take_of_length_le (by simp)
/-- xs[lo:hi] of an owned list, owned -/
theorem sd_own {p : Addr} {ss : List Sl} {f : List Mem → List Mem} {lo hi : Option Int} (pk : Pick rs (lstM p ss) f) (k : ∀ q, K (.r (.ref q)) (lstM q (cutL ss lo hi) :: rs)) : SlD (uSl KC.K) (.r (.ref p)) lo hi rs K := fun G H x Q hx hs hq => by
  have ex : x = .ref p := hx
  subst ex
  obtain ⟨vs, hp, al, _, _⟩ := lst_at pk hs
  refine .inl ⟨p, vs, rfl, .inl (.inl hp), fun z hz => ?_⟩
  obtain ⟨t, o⟩ := own_new hs hz (cut_all al lo hi)
  exact hq _ _ _ (.r (.ref z)) _ t rfl o (k z)
theorem sd_t42 {x1 x2 x3 x4 : PyData} (k : K (.d (.tuple [x1, x2])) rs) : SlD (uSl KC.K) (.d (.tuple [x1, x2, x3, x4])) none (some 2) rs K := sd_tup (by simp only [List.length_cons, List.length_nil]; decide) k
theorem sd_t4f2 {x1 x2 x3 x4 : PyData} (k : K (.d (.tuple [x3, x4])) rs) : SlD (uSl KC.K) (.d (.tuple [x1, x2, x3, x4])) (some 2) none rs K := sd_tup (by simp only [List.length_cons, List.length_nil]; decide) k
/-- list(xs) of an owned list, owned -/
theorem dx_listO (h : DX c a ρ rs fun s r1 => ∃ p ss f, s = .r (.ref p) ∧ Pick r1 (lstM p ss) f ∧ ∀ q, K (.r (.ref q)) (lstM q ss :: r1)) (hg : KdIn sc₀.names ("list" : Str) .globalImplicit := by first | ((with_reducible (repeat (first | exact KdIn.zero | apply KdIn.succ))); (first | (all_goals fail) | fail)) | exact kd_of rfl) (he : starEach [a] c.X.env = (false, eval a c.X.env) :: starEach [] c.X.env := by rfl) :
    DX c (.Call (.Name "list" p2) [a] [] pos) ρ rs K := by
  refine dx_callTy (c.ck ▸ call_list_of) c.bl.list b_list (da_cons (fun σ H G Q a1 a2 a3 a4 => h σ H G Q a1 a2 a3 fun v H' G' sl rs' t r o ⟨p, ss, f, e, pk, k⟩ => a4 v H' G' sl rs' t r o (da_nil ?_)) he) hg (he := he) (hpl := rfl)
  subst e
  intro G H vs Q hv hs hq
  match vs, hv with
  | [v], hv =>
    have ev : v = .ref p := hv.1
    subst ev
    obtain ⟨ws, hp, al, _, _⟩ := lst_at pk hs
    refine ⟨p, ws, rfl, .inl (.inl (.inl hp)), fun l hl => ?_⟩
    obtain ⟨t, o⟩ := own_new hs hl al
    exact hq _ _ _ (.r (.ref l)) _ t rfl o (k l)
/-- list(xs) of a plain one, owned -/
theorem dx_listD (h : DX c a ρ rs fun s r1 => ∃ ds, s.plain.asSeq = some ds ∧ ∀ q, K (.r (.ref q)) (lstM q (ds.map .d) :: r1)) (hg : KdIn sc₀.names ("list" : Str) .globalImplicit := by first | ((with_reducible (repeat (first | exact KdIn.zero | apply KdIn.succ))); (first | (all_goals fail) | fail)) | exact kd_of rfl) (he : starEach [a] c.X.env = (false, eval a c.X.env) :: starEach [] c.X.env := by rfl) :
    DX c (.Call (.Name "list" p2) [a] [] pos) ρ rs K := by
  refine dx_callTy (c.ck ▸ call_list_of) c.bl.list b_list (da_cons (fun σ H G Q a1 a2 a3 a4 => h σ H G Q a1 a2 a3 fun v H' G' sl rs' t r o ⟨ds, e, k⟩ => a4 v H' G' sl rs' t r o (da_nil ?_)) he) hg (he := he) (hpl := rfl)
  intro G H vs Q hv hs hq
  match vs, hv with
  | [v], hv =>
    obtain ⟨p, ws, rfl, r, al⟩ := hv.1.seq e
    refine ⟨p, ws, rfl, r.imp LsAt.sq .inl, fun l hl => ?_⟩
    obtain ⟨t, o⟩ := own_new hs hl (SlAll.of_is al)
    exact hq _ _ _ (.r (.ref l)) _ t rfl o (k l)
end
end PW

set_option maxHeartbeats 1000000
/-! Texts. -/
namespace PW
open PySem L2
variable [KC]
variable {m₀ : Mo} {N₀ : List Str} {sc₀ : Scope} {lv₀ : Nat} {xp₀ : Addr → List Sl → List Mem → Prop} {fF₀ cm₀ : Bool}
/-- a method of a text with one argument, as the text has it -/
structure M1ok (X : Cx) (o : Expr) (m : Str) (e : Expr) (apos pos : Pos) : Prop where
  hs : starEach [e] X.env = [(false, eval e X.env)]
  hb : attributeBase o m X.env (eval o X.env) = eval o X.env
  hl : (apos.endLine == pos.line) = true
section
variable {c : Ctx m₀ N₀ sc₀ lv₀ xp₀ fF₀ cm₀} {e a b o : Expr} {es : List Expr} {ρ ρ' : List Sl} {rs : List Mem} {K : Sl → List Mem → Prop} {P : Post} {x f : Str} {pos pos' p2 apos : Pos} {s1 s2 : Sl}
theorem dx_join (h : DX c o ρ rs fun s r => ∃ z, s = .d (.str z) ∧ DX c a ρ r fun s2 r2 => ∃ ys : List Str, s2.asList = some (ys.map .str) ∧ (ys.map (·.length)).sum + ys.length * z.length ≤ 16777216 ∧ K (.d (.str (Txt.join z ys))) r2)
    (hm : M1ok c.X o "join" a apos pos := by exact ⟨rfl, rfl, rfl⟩) : DX c (.Call (.Attribute o "join" apos) [a] [] pos) ρ rs K := by
  intro σ H G Q he hs hx hq
  refine tE_of (pe_join pe_t pe_t hm.hs hm.hb hm.hl) ?_
  refine h σ H G _ he hs hx fun v H1 G1 s1 r1 t1 h1 o1 k1 => ?_
  obtain ⟨z, rfl, k1⟩ := k1
  refine ⟨⟨z, h1.ok.str⟩, ?_⟩
  refine k1 σ H1 G1 _ (he.stp t1) o1 (hx.stp t1) fun w H2 G2 s2 r2 t2 h2 o2 k2 => ?_
  obtain ⟨ys, ey, hb, k2⟩ := k2
  obtain ⟨p, vs, rfl, rd, al⟩ := h2.ok.list ey
  have ev : vs = ys.map V.str := by
    clear ey hb k2 rd
    induction ys generalizing vs with
    | nil => cases al; rfl
    | cons y ys ih =>
      cases al with
      | cons q t => cases q; rw [ih _ t]; rfl
  subst ev
  exact ⟨z, p, ys, h1.ok.str, rfl, .inl (c.ck ▸ rd.sq), hb, hq _ H2 G2 (.d (.str _)) r2 (t1.trans t2) (Is.str _) o2 k2⟩
theorem dx_find (h : DX c o ρ rs fun s r => ∃ z, s = .d (.str z) ∧ DX c a ρ r fun s2 r2 => ∃ y, s2 = .d (.str y) ∧ K (.d (.int (Txt.find z y))) r2)
    (hm : M1ok c.X o "find" a apos pos := by exact ⟨rfl, rfl, rfl⟩) : DX c (.Call (.Attribute o "find" apos) [a] [] pos) ρ rs K := by
  intro σ H G Q he hs hx hq
  refine tE_of (pe_m1 PySem.F.slot_str_find PySem.F.type_str_find mt_find pe_t pe_t hm.hs hm.hb hm.hl) ?_
  refine h σ H G _ he hs hx fun v H1 G1 s1 r1 t1 h1 o1 k1 => ?_
  obtain ⟨z, rfl, k1⟩ := k1
  refine ⟨⟨z, h1.ok.str⟩, ?_⟩
  refine k1 σ H1 G1 _ (he.stp t1) o1 (hx.stp t1) fun w H2 G2 s2 r2 t2 h2 o2 k2 => ?_
  obtain ⟨y, rfl, k2⟩ := k2
  exact ⟨z, y, h1.ok.str, by rw [h2.ok.str], hq _ H2 G2 (.d (.int _)) r2 (t1.trans t2) (Is.int _) o2 k2⟩
end
def nm : Option Str → PyData
  | none => .none
  | some z => .str z
def okO : Option Str → Prop
  | none => True
  | some z => PyData.strOk z = true
theorem od_isnm {rs : List Mem} {K : Sl → List Mem → Prop} {n : Option Str} (k : K (.d (.bool n.isNone)) rs) : OpD uIs (.d (nm n)) (.d .none) rs K := by
  cases n with
  | none => exact od_is rfl k
  | some z => exact od_is rfl k
theorem od_isnnm {rs : List Mem} {K : Sl → List Mem → Prop} {n : Option Str} (k : K (.d (.bool (!n.isNone))) rs) : OpD uIsn (.d (nm n)) (.d .none) rs K := by
  cases n with
  | none => exact od_isn rfl k
  | some z => exact od_isn rfl k
theorem od_nenm {rs : List Mem} {K : Sl → List Mem → Prop} {n k : Option Str} (h : K (.d (.bool (!decide (n = k)))) rs) : OpD (uNe KC.K) (.d (nm n)) (.d (nm k)) rs K := by
  cases n with
  | none => cases k with
    | none => exact od_ne rfl rfl .nn h
    | some z => exact od_ne rfl rfl (.ns z) h
  | some y => cases k with
    | none => exact od_ne rfl rfl (.sn y) h
    | some z =>
      refine od_ne rfl rfl (.str y z) ?_
      have e : decide (y = z) = decide (some y = some z) := by by_cases q : y = z <;> simp [q]
      rw [e]; exact h
theorem atI_mem {α : Type} {xs : List α} {i : Int} (h : -(xs.length : Int) ≤ i ∧ i < xs.length) : ∃ v, atI xs i = some v ∧ v ∈ xs := by
  by_cases h0 : 0 ≤ i
  · obtain ⟨v, h1, h2⟩ := atI_in (xs := xs) (i := i) ⟨h0, h.2⟩
    exact ⟨v, h1, List.mem_of_getElem? h2⟩
  · have hj : (i + xs.length).toNat < xs.length := by omega
    refine ⟨xs[(i + xs.length).toNat], ?_, List.getElem_mem hj⟩
    unfold atI ixN
    rw [if_neg h0, if_pos h.1]
    simp [hj]
theorem ex_seti {rs : List Mem} {p : Addr} {ss : List Sl} {f : List Mem → List Mem} {k : Int} {j : Nat} {B : Addr → List Sl → (List Mem → List Mem) → Nat → Prop} (pk : Pick rs (lstM p ss) f) (hj : ixN ss.length k = some j) (h : B p ss f j) :
    ∃ p' ss' f' k' j', Sl.r (.ref p) = .r (.ref p') ∧ Sl.d (.int k) = .d (.int k') ∧ Pick rs (lstM p' ss') f' ∧ ixN ss'.length k' = some j' ∧ B p' ss' f' j' := ⟨p, ss, f, k, j, rfl, rfl, pk, hj, h⟩
theorem end_rtE {fr : Mem} {res : Sl → List Mem → Prop} {b b' : Bool} (e : b = b') (h : res (.d (.bool b)) []) : (bodyPost fr res).rt (.d (.bool b')) [fr] := fin [] ent_refl (e ▸ h)
theorem sd_t625 {rs : List Mem} {K : Sl → List Mem → Prop} {x1 x2 x3 x4 x5 x6 : PyData} (k : K (.d (.tuple [x3, x4, x5])) rs) : SlD (uSl KC.K) (.d (.tuple [x1, x2, x3, x4, x5, x6])) (some 2) (some 5) rs K := sd_tup (by simp only [List.length_cons, List.length_nil]; decide) k
section
variable {c : Ctx m₀ N₀ sc₀ lv₀ xp₀ fF₀ cm₀} {ρ : List Sl} {rs : List Mem} {P : Post} {A B : List Stmt}
/-- both ways meet again -/
theorem ite_cut {k : Bool} (I : List Sl → List Mem → Prop) (h1 : k = true → DSs c A ρ rs { P with nx := I }) (h2 : k = false → DSs c B ρ rs { P with nx := I }) (h3 : ∀ ρ' r', I ρ' r' → P.nx ρ' r') : if k = true then DSs c A ρ rs P else DSs c B ρ rs P := by
  cases k with
  | true => exact dss_weak (h1 rfl) h3 (fun _ _ z => z) (fun _ _ z => z) fun _ _ z => z
  | false => exact dss_weak (h2 rfl) h3 (fun _ _ z => z) (fun _ _ z => z) fun _ _ z => z
end
theorem fold_signs (g : Str) (hg : g.cps = #[]) : ∀ (ns : List Nat) (acc : Array Nat), (ns.map fun n => (⟨#[n]⟩ : Str)).foldl (fun acc p => acc ++ g.cps ++ p.cps) acc = acc ++ ns.toArray
  | [], acc => by simp
  | n :: ns, acc => by
    rw [List.map_cons, List.foldl_cons, fold_signs g hg ns, hg]
    apply Array.ext'
    simp
theorem join_signs (g : Str) (hg : g.cps = #[]) (ns : List Nat) : Txt.join g (ns.map fun n => (⟨#[n]⟩ : Str)) = ⟨ns.toArray⟩ := by
  unfold Txt.join Builtin.Str.glued
  cases ns with
  | nil => rfl
  | cons n ns =>
    rw [List.map_cons, List.headD_cons, List.drop_succ_cons, List.drop_zero, fold_signs g hg]
    congr 1
    apply Array.ext'
    simp
theorem sum_ones (ns : List Nat) : ((ns.map fun n => (⟨#[n]⟩ : Str)).map (·.length)).sum = ns.length := by
  induction ns with
  | nil => rfl
  | cons n ns ih => rw [List.map_cons, List.map_cons, List.sum_cons, ih, List.length_cons, Nat.add_comm]; rfl
/-! ### signs that are signs -/
theorem ok_mk {ns : List Nat} (h : ∀ n ∈ ns, n < 1114112) : PyData.strOk ⟨ns.toArray⟩ = true := by
  unfold PyData.strOk
  rw [Array.all_eq_true_iff_forall_mem]
  intro n hn
  exact decide_eq_true (h n (by simpa using hn))
theorem ok_mem {z : Str} (h : PyData.strOk z = true) : ∀ n ∈ z.cps.toList, n < 1114112 := by
  unfold PyData.strOk at h
  rw [Array.all_eq_true_iff_forall_mem] at h
  intro n hn
  exact of_decide_eq_true (h n (by simpa using hn))
theorem ok_cut {z : Str} (h : PyData.strOk z = true) (lo hi : Option Int) : PyData.strOk (cutS z lo hi) = true := by
  unfold cutS
  exact ok_mk fun n hn => ok_mem h n (List.mem_of_mem_drop (List.mem_of_mem_take hn))
theorem ok_app {x y : Str} (h : PyData.strOk x = true) (h2 : PyData.strOk y = true) : PyData.strOk (x ++ y) = true := by
  have e : (x ++ y : Str) = ⟨(x.cps.toList ++ y.cps.toList).toArray⟩ := by
    show (⟨x.cps ++ y.cps⟩ : Str) = _
    congr 1
    apply Array.ext'
    simp
  rw [e]
  exact ok_mk fun n hn => (List.mem_append.mp hn).elim (ok_mem h n) (ok_mem h2 n)
theorem cut_lenS (z : Str) (lo hi : Option Int) : (cutS z lo hi).length ≤ z.length := by
  unfold cutS
  show (List.toArray _).size ≤ z.cps.size
  rw [List.size_toArray, List.length_take, List.length_drop]
  have : z.cps.toList.length = z.cps.size := by simp
  omega
theorem app_lenS (x y : Str) : (x ++ y : Str).length = x.length + y.length := by
  show (x.cps ++ y.cps).size = _
  rw [Array.size_append]; rfl
end PW

set_option maxHeartbeats 1000000
/-! Backwards, in, times. -/
namespace PW
open PySem L2
variable [KC]
variable {m₀ : Mo} {N₀ : List Str} {sc₀ : Scope} {lv₀ : Nat} {xp₀ : Addr → List Sl → List Mem → Prop} {fF₀ cm₀ : Bool}
section
variable {c : Ctx m₀ N₀ sc₀ lv₀ xp₀ fF₀ cm₀} {e a b o tg : Expr} {es : List Expr} {ρ ρ' : List Sl} {rs : List Mem} {K : Sl → List Mem → Prop} {KI : List Sl → (List Mem → Prop) → List Mem → Prop} {P : Post} {x f : Str} {pos pos' p2 apos : Pos} {s1 s2 : Sl}
/-- for x in reversed(xs) -/
theorem di_rev (h : DA c [a] ρ rs fun ss r => ∃ s ds, ss = [s] ∧ s.asList = some ds ∧ KI (ds.map .d).reverse (fun _ => True) r) (hg : KdIn sc₀.names ("reversed" : Str) .globalImplicit := by first | ((with_reducible (repeat (first | exact KdIn.zero | apply KdIn.succ))); (first | (all_goals fail) | fail)) | exact kd_of rfl)
    (hs : starEach [a] c.X.env = [(false, eval a c.X.env)] := by rfl) : DI c tg (.Call (.Name "reversed" p2) [a] [] pos) ρ rs KI := by
  intro σ H G R he hS hx hr
  refine tI_of (c.ck ▸ pi_reversed (c_gl hg) (by rw [c.hm.mg]; exact c.bl.reversed) pa_t hs) ?_
  refine h σ H G _ he hS hx fun vs H1 G1 ss r1 t1 h1 o1 k1 => ?_
  obtain ⟨s, ds, rfl, e1, k1⟩ := k1
  match vs, h1 with
  | [v], h1 =>
    obtain ⟨p, xs, rfl, rd, al⟩ := h1.1.list e1
    refine ⟨p, xs, rfl, rd.sq, hr _ H1 G1 _ _ r1 t1 o1 (fun G2 H2 r2 t2 o2 _ i => ?_) k1⟩
    have rd2 : SqL KC.K H2 p xs := (ls_stp0 t2.keep t2.sub rd).sq
    have al2 := al.stp t2
    have hlen : ((ds.map Sl.d).reverse).length = xs.length := by rw [List.length_reverse, List.length_map, al.length]
    constructor
    · intro hi
      rw [hlen] at hi
      refine ⟨⟨hi, xs, xs[xs.length - 1 - i], rd2, by simp⟩, fun y H3 z => ?_⟩
      obtain ⟨e3, z⟩ := z
      obtain ⟨d, hd, hI⟩ := al2.getV (i := xs.length - 1 - i) (v := y) (z xs rd2)
      refine ⟨e3, .d d, ?_, hI⟩
      rw [List.getElem?_reverse (by rw [List.length_map, ← al.length]; exact hi), List.length_map, ← al.length, List.getElem?_map, hd]; rfl
    · intro hi
      rw [hlen] at hi
      exact hi
/-- d in [..], any data -/
theorem cInD : OpR c.X (compareOp .In) (rInD KC.K) := c.ck ▸ op_inD (by have := c.un; omega)
theorem cNinD : OpR c.X (compareOp .NotIn) (rNotInD KC.K) := c.ck ▸ op_notInD (by have := c.un; omega)
theorem od_inD {d : PyData} {ds : List PyData} (v1 : View rs s1 d) (v2 : View rs s2 (.list ds)) (h1 : SeqAt.shaped d = true) (h2 : SeqAt.shaped (.list ds) = true) (k : K (.d (.bool (ds.any fun z => PyData.eqv z d))) rs) : OpD (rInD KC.K) s1 s2 rs K := fun G H x y Q hx hy hs hq =>
  ⟨d, ds, v1 G H x hx hs, v2 G H y hy hs, h1, h2, give0 hs hq (sl := .d (.bool _)) (Is.bl _) k⟩
theorem od_ninD {d : PyData} {ds : List PyData} (v1 : View rs s1 d) (v2 : View rs s2 (.list ds)) (h1 : SeqAt.shaped d = true) (h2 : SeqAt.shaped (.list ds) = true) (k : K (.d (.bool (!ds.any fun z => PyData.eqv z d))) rs) : OpD (rNotInD KC.K) s1 s2 rs K := fun G H x y Q hx hy hs hq =>
  ⟨d, ds, v1 G H x hx hs, v2 G H y hy hs, h1, h2, give0 hs hq (sl := .d (.bool _)) (Is.bl _) k⟩
theorem all_rep {G : Fp} {H : Hp} {vs : List V} {ss : List Sl} (h : SlAll G H vs ss) : ∀ n : Nat, SlAll G H (List.replicate n vs).flatten (List.replicate n ss).flatten
  | 0 => trivial
  | n + 1 => by
    rw [List.replicate_succ, List.replicate_succ, List.flatten_cons, List.flatten_cons]
    exact h.append (all_rep h n)
/-- [..] * k, owned -/
theorem od_mulO {p : Addr} {ss : List Sl} {g : List Mem → List Mem} {k : Int} (pk : Pick rs (lstM p ss) g) (hk : -(2 ^ 60) ≤ k ∧ k < 2 ^ 60) (hl : ss.length * k.toNat ≤ 100000) (kk : ∀ q, K (.r (.ref q)) (lstM q (List.replicate k.toNat ss).flatten :: rs)) : OpD uMul (.r (.ref p)) (.d (.int k)) rs K := od_r fun G H x y Q hx hy hs hq => by
  have ex : x = .ref p := hx
  subst ex
  obtain ⟨vs, hp, al, _, _⟩ := lst_at pk hs
  refine ⟨p, k, vs, rfl, hy.int, hp, by omega, by omega, by rw [al.length]; exact Nat.le_trans hl (by decide), fun q hq0 => ?_⟩
  obtain ⟨t, o⟩ := own_new hs hq0 (all_rep al k.toNat)
  exact hq _ _ _ (.r (.ref q)) _ t rfl o (kk q)
end
end PW

set_option maxHeartbeats 1000000
/-! Lists of one's own, lent to a call as plain data. -/
namespace PW
open PySem L2
variable [KC]
variable {m₀ : Mo} {N₀ : List Str} {sc₀ : Scope} {lv₀ : Nat} {xp₀ : Addr → List Sl → List Mem → Prop} {fF₀ cm₀ : Bool}
/-! ### data without lists -/
mutual
def noL : PyData → Bool
  | .list _ => false
  | .dict _ => false
  | .tuple ds => noLA ds
  | _ => true
def noLA : List PyData → Bool
  | [] => true
  | d :: ds => noL d && noLA ds
end
/-- G' has, beyond G, only lists -/
def More (G G' : Fp) (H : Hp) : Prop := ∀ a, G' a → G a ∨ ∃ vs, H a = some (.lst vs)
section
variable {G G' : Fp} {H : Hp}
theorem noL_t (ds : List PyData) : noL (.tuple ds) = noLA ds := by simp only [noL]
theorem noL_l (ds : List PyData) : noL (.list ds) = false := by simp only [noL]
theorem noLA_c (d : PyData) (ds : List PyData) : noLA (d :: ds) = (noL d && noLA ds) := by simp only [noLA]
theorem tup_more (m : More G G' H) {a : Addr} {xs : List V} (r : Rd H a (.tup xs)) (n : ¬ G a) : ¬ G' a := fun g => by
  rcases m a g with z | ⟨vs, z⟩
  · exact n z
  · rcases r with r | ⟨o, r⟩
    · rw [z] at r; cases r
    · rw [z] at r; cases r
mutual
theorem Is.more (m : More G G' H) : ∀ {v : V} {d : PyData}, Is G H v d → noL d = true → Is G' H v d
  | _, _, .non, _ => .non
  | _, _, .bl b, _ => .bl b
  | _, _, .int i, _ => .int i
  | _, _, .str x, _ => .str x
  | _, _, .lst (ds := ds) _ _, h => by rw [noL_l ds] at h; cases h
  | _, _, .tup (ds := ds) r n t, h => .tup r (tup_more m r n) (IsAll.more m t ((noL_t ds).symm.trans h))
theorem IsAll.more (m : More G G' H) : ∀ {vs : List V} {ds : List PyData}, IsAll G H vs ds → noLA ds = true → IsAll G' H vs ds
  | _, _, .nil, _ => .nil
  | _, _, .cons (d := d) (ds := ds) a t, h => .cons (Is.more m a (Bool.and_eq_true_iff.mp ((noLA_c d ds).symm.trans h)).1) (IsAll.more m t (Bool.and_eq_true_iff.mp ((noLA_c d ds).symm.trans h)).2)
end
theorem noLA_map {α : Type} {f : α → PyData} (h : ∀ a, noL (f a) = true) : ∀ xs : List α, noLA (xs.map f) = true
  | [] => rfl
  | x :: xs => by
    rw [List.map_cons, noLA_c, h x, noLA_map h xs]; rfl
def noS : Sl → Bool
  | .d x => noL x
  | .n _ => false
  | _ => true
theorem SlOk.more (m : More G G' H) {v : V} {s : Sl} (hn : noS s = true) (h : SlOk G H v s) : SlOk G' H v s := by
  cases s with
  | un => trivial
  | d x => exact Is.more m h hn
  | r u => exact h
  | n ds => cases hn
def noSA (ss : List Sl) : Prop := ∀ s ∈ ss, noS s = true
theorem SlAll.more (m : More G G' H) : ∀ {vs : List V} {ss : List Sl}, noSA ss → SlAll G H vs ss → SlAll G' H vs ss
  | [], [], _, _ => trivial
  | _ :: _, _ :: _, hn, ⟨h, q⟩ => ⟨h.more m (hn _ List.mem_cons_self), SlAll.more m (fun s z => hn s (List.mem_cons_of_mem _ z)) q⟩
  | [], _ :: _, _, h => h.elim
  | _ :: _, [], _, h => h.elim
theorem FldAll.more (m : More G G' H) : ∀ {vs : List (Str × V)} {ss : List (Str × Sl)}, noSA (ss.map (·.2)) → FldAll G H vs ss → FldAll G' H vs ss
  | [], [], _, _ => trivial
  | (_, _) :: _, (_, _) :: _, hn, ⟨e, h, q⟩ => ⟨e, h.more m (hn _ List.mem_cons_self), FldAll.more m (fun s z => hn s (List.mem_cons_of_mem _ z)) q⟩
  | [], _ :: _, _, h => h.elim
  | _ :: _, [], _, h => h.elim
end
/-- a thing without lists in its data -/
def Lnd (A : Mem) : Prop := ∀ F G G' H, A.ok F G H → More G G' H → A.ok F G' H
def LndA (rs : List Mem) : Prop := ∀ A ∈ rs, Lnd A
theorem lnd_lst {p : Addr} {ss : List Sl} (h : noSA ss) : Lnd (lstM p ss) := fun F G G' H ⟨e, vs, hp, al⟩ m => ⟨e, vs, hp, al.more m h⟩
theorem lnd_map {α : Type} {p : Addr} {f : α → PyData} {xs : List α} (h : ∀ a, noL (f a) = true) : Lnd (lstM p ((xs.map f).map .d)) := lnd_lst fun s z => by
  obtain ⟨d, hd, rfl⟩ := List.mem_map.mp z
  obtain ⟨a, _, rfl⟩ := List.mem_map.mp hd
  exact h a
theorem lnd_ins {C p : Addr} {fs : List (Str × Sl)} (h : noSA (fs.map (·.2))) : Lnd (insM C p fs) := fun F G G' H ⟨dx, vs, e, n, h1, h2, al⟩ m => ⟨dx, vs, e, n, h1, h2, al.more m h⟩
theorem lnda_nil : LndA [] := fun _ z => nomatch z
theorem lnda_cons {A : Mem} {rs : List Mem} (h : Lnd A) (t : LndA rs) : LndA (A :: rs) := fun B z => by
  rcases List.mem_cons.mp z with rfl | z
  · exact h
  · exact t B z
theorem sepL.more {G G' : Fp} {H : Hp} (m : More G G' H) : ∀ {rs : List Mem} {F : Fp}, LndA rs → sepL rs F G H → sepL rs F G' H
  | [], F, _, h => h
  | A :: rs, F, hl, ⟨F1, F2, h1, h2, d, e⟩ => ⟨F1, F2, hl A List.mem_cons_self F1 G G' H h1 m, sepL.more m (fun B z => hl B (List.mem_cons_of_mem _ z)) h2, d, e⟩
theorem lnd_ex {α : Type} {fam : α → List Mem} (h : ∀ q, LndA (fam q)) : Lnd (exM fam) := fun F G G' H ⟨q, z⟩ m => ⟨q, sepL.more m (h q) z⟩
/-! ### lists lent -/
def lentM (L : List (Addr × List PyData)) : List Mem := L.map fun q => lstM q.1 (q.2.map .d)
theorem lent_nil : lentM [] = [] := rfl
theorem lent_cons (p : Addr) (ds : List PyData) (L : List (Addr × List PyData)) : lentM ((p, ds) :: L) = lstM p (ds.map .d) :: lentM L := rfl
inductive LentS (L : List (Addr × List PyData)) : List Sl → List Sl → Prop
  | nil : LentS L [] []
  | lend {p ds ss ss'} : (p, ds) ∈ L → LentS L ss ss' → LentS L (.r (.ref p) :: ss) (.d (.list ds) :: ss')
  | eq {s ss ss'} : LentS L ss ss' → LentS L (s :: ss) (s :: ss')
theorem lent_at {G : Fp} {H : Hp} : ∀ {L : List (Addr × List PyData)} {F : Fp}, sepL (lentM L) F G H →
    (∀ p ds, (p, ds) ∈ L → ∃ vs, H p = some (.lst vs) ∧ IsAll G H vs ds ∧ F p) ∧ ∀ a, F a → ∃ vs, H a = some (.lst vs)
  | [], F, h => ⟨fun _ _ z => (nomatch z), fun a z => (h a z).elim⟩
  | (p, ds) :: L, F, ⟨F1, F2, ⟨e1, vs, hp, al⟩, h2, _, e⟩ => by
    obtain ⟨i1, i2⟩ := lent_at h2
    refine ⟨fun q es z => ?_, fun a z => ?_⟩
    · rcases List.mem_cons.mp z with z | z
      · cases z
        exact ⟨vs, hp, al.is, (e p).mpr (.inl ((e1 p).mpr rfl))⟩
      · obtain ⟨ws, a, b, f⟩ := i1 q es z
        exact ⟨ws, a, b, (e q).mpr (.inr f)⟩
    · rcases (e a).mp z with z | z
      · have := (e1 a).mp z
        subst this
        exact ⟨vs, hp⟩
      · exact i2 a z
theorem lent_sl {G G' F : Fp} {H : Hp} {L : List (Addr × List PyData)} (hL : ∀ p ds, (p, ds) ∈ L → ∃ vs, H p = some (.lst vs) ∧ IsAll G H vs ds ∧ F p) (hs : ∀ a, G' a → G a) (hd : ∀ a, F a → ¬ G' a) {ss ss' : List Sl} (l : LentS L ss ss') : ∀ {vs : List V}, SlAll G H vs ss → SlAll G' H vs ss' := by
  induction l with
  | nil =>
    intro vs h
    cases vs with
    | nil => trivial
    | cons _ _ => exact h.elim
  | @lend p ds ss ss' hm _ ih =>
    intro vs h
    cases vs with
    | nil => exact h.elim
    | cons v vs =>
      obtain ⟨h1, h2⟩ := h
      have ev : v = .ref p := h1
      subst ev
      obtain ⟨ws, hp, al, f⟩ := hL p ds hm
      exact ⟨.lst (.inl ⟨.inl hp, hd p f⟩) (al.stp (Stp.less hs)), ih h2⟩
  | eq _ ih =>
    intro vs h
    cases vs with
    | nil => exact h.elim
    | cons v vs => exact ⟨h.1.stp (Stp.less hs), ih h.2⟩
/-- rest, just as it stands in H -/
def asM (FT : Fp) (H : Hp) (hd : ∀ a, FT a → ∃ o, H a = some o) : Mem where
  ok F _ H1 := (∀ a, F a ↔ FT a) ∧ ∀ a o, FT a → H a = some o → H1 a = some o
  dom := fun ⟨e, h⟩ a q => by
    obtain ⟨o, z⟩ := hd a ((e a).mp q)
    exact ⟨o, h a o ((e a).mp q) z⟩
  step := fun ⟨e, h⟩ k s => ⟨e, fun a o f z => k a o (h a o f z) (.inl ((e a).mpr f))⟩
theorem lend_back {G G2 FL FR FT : Fp} {H H' : Hp} {L : List (Addr × List PyData)} {rest r2 : List Mem} {hd : ∀ a, FT a → ∃ o, H a = some o}
    (hL : sepL (lentM L) FL G H) (hT : sepL rest FT G H) (hLR : ∀ a, FL a → FR a → False) (hLT : ∀ a, FL a → FT a → False) (hRT : ∀ a, FR a → FT a → False) (hG : ∀ a, G a ↔ (FL a ∨ FR a) ∨ FT a)
    (t : Stp (fun a => FR a ∨ FT a) G2 H H') (o : sepL (r2 ++ [asM FT H hd]) G2 G2 H') (hl : LndA r2) :
    ∃ G3 : Fp, Stp G G3 H H' ∧ sepL (r2 ++ (lentM L ++ rest)) G3 G3 H' ∧ More G2 G3 H' ∧ (∀ a, H a = none → G3 a → G2 a) := by
  have ll := (lent_at hL).2
  have nL : ∀ a, FL a → ¬ (FR a ∨ FT a) := fun a f z => z.elim (hLR a f) (hLT a f)
  have kL : ∀ a u, H a = some u → FL a → H' a = some u := fun a u q f => t.keep a u q (nL a f)
  obtain ⟨F1, F2, o1, ⟨F3, F4, ⟨e3, k3⟩, o4, _, e2⟩, d12, e12⟩ := sepL.app.mp o
  have e4 : ∀ a, F2 a ↔ FT a := fun a => by
    rw [e2 a, e3 a]
    exact ⟨fun z => z.elim id fun z => (o4 a z).elim, .inl⟩
  have nF1 : ∀ a, F1 a → FL a → False := fun a f g => by
    rcases t.sub a ((e12 a).mpr (.inl f)) with z | z
    · exact nL a g z
    · obtain ⟨vs, q⟩ := ll a g
      rw [z] at q; cases q
  have mo : More G2 (fun a => G2 a ∨ FL a) H' := fun a z => z.imp id fun z => by
    obtain ⟨vs, q⟩ := ll a z
    exact ⟨vs, kL a _ q z⟩
  have st : Stp G (fun a => G2 a ∨ FL a) H H' := ⟨fun a u q n => t.keep a u q fun z => n ((hG a).mpr (z.elim (fun z => .inl (.inr z)) .inr)), fun a z => by
    rcases z with z | z
    · exact (t.sub a z).imp (fun z => (hG a).mpr (z.elim (fun z => .inl (.inr z)) .inr)) id
    · exact .inl ((hG a).mpr (.inl (.inl z))), t.old⟩
  have kG : ∀ a u, H a = some u → ¬ G a → H' a = some u := fun a u q n => st.keep a u q n
  refine ⟨fun a => G2 a ∨ FL a, st, ?_, mo, fun a z g => g.elim id fun g => by
    obtain ⟨vs, q⟩ := ll a g
    rw [z] at q; cases q⟩
  refine sepL.app.mpr ⟨F1, fun a => FL a ∨ FT a, sepL.more mo hl o1, sepL.app.mpr ⟨FL, FT, sepL.step st.sub hL fun a u q z => z.elim (kL a u q) (kG a u q), sepL.step st.sub hT fun a u q z => z.elim (fun f => k3 a u f q) (kG a u q), hLT, fun a => Iff.rfl⟩, fun a f z => ?_, fun a => ?_⟩
  · rcases z with z | z
    · exact nF1 a f z
    · exact d12 a f ((e4 a).mpr z)
  · rw [e12 a, e4 a]
    constructor
    · rintro ((z | z) | z)
      · exact .inl z
      · exact .inr (.inr z)
      · exact .inr (.inl z)
    · rintro (z | z | z)
      · exact .inl (.inl z)
      · exact .inr z
      · exact .inl (.inr z)
/-- a result that holds no list, or is a new one without such -/
def noR : Sl → Bool
  | .n ds => noLA ds
  | s => noS s
theorem Rs.more {G G' : Fp} {H0 H : Hp} {v : V} {s : Sl} (m : More G G' H) (hf : ∀ a, H0 a = none → G' a → G a) (hn : noR s = true) (h : Rs G H0 H v s) : Rs G' H0 H v s := by
  cases s with
  | un => trivial
  | d x => exact Is.more m h hn
  | r u => exact h
  | n ds =>
    obtain ⟨p, vs, e, z, ng, hp, t⟩ := h
    exact ⟨p, vs, e, z, fun g => ng (hf p z g), hp, IsAll.more m t hn⟩
theorem grab1 {r1 : List Mem} {A : Mem} {f : List Mem → List Mem} (p : Pick r1 A f) : Grab r1 [A] (f []) := .cons p .nil
theorem grab2 {r1 : List Mem} {A B : Mem} {f g : List Mem → List Mem} (p : Pick r1 A f) (q : Pick (f []) B g) : Grab r1 [A, B] (g []) := .cons p (grab1 q)
theorem grab3 {r1 : List Mem} {A B C : Mem} {f g h : List Mem → List Mem} (p : Pick r1 A f) (q : Pick (f []) B g) (r : Pick (g []) C h) : Grab r1 [A, B, C] (h []) := .cons p (grab2 q r)
section
variable {c : Ctx m₀ N₀ sc₀ lv₀ xp₀ fF₀ cm₀} {e a b o : Expr} {es : List Expr} {ρ ρ' : List Sl} {r1 rs : List Mem} {K : Sl → List Mem → Prop} {P : Post} {x f : Str} {pos pos' p2 apos : Pos} {s1 s2 : Sl}
theorem ce_lend {C : Cn} (L : List (Addr × List PyData)) {rin rest : List Mem} {ss ss' : List Sl} (gr : Grab r1 (lentM L ++ rin) rest) (hl : LentS L ss ss')
    (h : C ss' rin (fun s r2 => noR s = true ∧ LndA r2 ∧ K s (r2 ++ (lentM L ++ rest))) (fun D r2 => LndA r2 ∧ xp₀ D ρ (r2 ++ (lentM L ++ rest)))) : CallEnd c C ss ρ r1 K := fun σ H G vs Q he hs hx hv hq => by
  obtain ⟨F0, FT, h0, hT, d0, e0⟩ := sepL.app.mp (gr.sep hs)
  obtain ⟨FL, FR, hL, hR, d1, e1⟩ := sepL.app.mp h0
  have hG : ∀ a, G a ↔ (FL a ∨ FR a) ∨ FT a := fun a => by rw [e0 a, e1 a]
  have hLT : ∀ a, FL a → FT a → False := fun a f g => d0 a ((e1 a).mpr (.inl f)) g
  have hRT : ∀ a, FR a → FT a → False := fun a f g => d0 a ((e1 a).mpr (.inr f)) g
  have hd : ∀ a, FT a → ∃ o, H a = some o := fun a z => hT.dom a z
  have sub : ∀ a, (FR a ∨ FT a) → G a := fun a z => (hG a).mpr (z.elim (fun z => .inl (.inr z)) .inr)
  refine ⟨ss', asM FT H hd, rin, fun a => FR a ∨ FT a, _, _, lent_sl (lent_at hL).1 sub (fun a f z => z.elim (d1 a f) (hLT a f)) hl hv, ?_, h, ?_, ?_⟩
  · exact sepL.app.mpr ⟨FR, FT, sepL.step (G := G) (fun a z => .inl (sub a z)) hR fun a u q _ => q, ⟨FT, fun _ => False, ⟨fun a => Iff.rfl, fun a u _ q => q⟩, fun _ z => z, fun _ _ z => z, fun a => ⟨.inl, fun z => z.elim id False.elim⟩⟩, hRT, fun a => Iff.rfl⟩
  · rintro v H' G2 sl r2 t r o ⟨hn, hA, k⟩
    obtain ⟨G3, st, sp, mo, hf⟩ := lend_back hL hT d1 hLT hRT hG t o hA
    exact hq v H' G3 sl _ st (r.more mo hf hn) sp k
  · rintro D H' G2 r2 t o ⟨hA, k⟩
    obtain ⟨G3, st, sp, mo, hf⟩ := lend_back hL hT d1 hLT hRT hG t o hA
    exact hx D σ H' G3 ρ _ st (he.stp st) sp k
/-- some things handed over -/
theorem ce_gr {C : Cn} {rin rest : List Mem} {ss : List Sl} (gr : Grab r1 rin rest) (h : C ss rin (fun s r2 => K s (r2 ++ rest)) (fun D r2 => xp₀ D ρ (r2 ++ rest))) : CallEnd c C ss ρ r1 K := fun σ H G vs Q he hs hx hv hq =>
  ⟨ss, sepM rest, rin, G, _, _, hv, sepM_app.mpr (gr.sep hs), h, fun v H' G' sl rs' t r o k => hq v H' G' sl _ t r (sepM_app.mp o) k, fun D H' G' rs' t o k => hx D σ H' G' ρ _ t (he.stp t) (sepM_app.mp o) k⟩
/-- list(xs), owned, whatever xs is -/
def LiD (s : Sl) (r : List Mem) (K : Sl → List Mem → Prop) : Prop := (∃ ds, s.plain.asSeq = some ds ∧ ∀ q, K (.r (.ref q)) (lstM q (ds.map .d) :: r)) ∨ (∃ p ss f, s = .r (.ref p) ∧ Pick r (lstM p ss) f ∧ ∀ q, K (.r (.ref q)) (lstM q ss :: r))
theorem li_d {s : Sl} {ds : List PyData} (e : s.plain.asSeq = some ds) (k : ∀ q, K (.r (.ref q)) (lstM q (ds.map .d) :: rs)) : LiD s rs K := .inl ⟨ds, e, k⟩
theorem li_o {p : Addr} {ss : List Sl} {g : List Mem → List Mem} (pk : Pick rs (lstM p ss) g) (k : ∀ q, K (.r (.ref q)) (lstM q ss :: rs)) : LiD (.r (.ref p)) rs K := .inr ⟨p, ss, g, rfl, pk, k⟩
theorem dx_listU (h : DX c a ρ rs fun s r1 => LiD s r1 K) (hg : KdIn sc₀.names ("list" : Str) .globalImplicit := by first | ((with_reducible (repeat (first | exact KdIn.zero | apply KdIn.succ))); (first | (all_goals fail) | fail)) | exact kd_of rfl) (he : starEach [a] c.X.env = (false, eval a c.X.env) :: starEach [] c.X.env := by rfl) : DX c (.Call (.Name "list" p2) [a] [] pos) ρ rs K := by
  refine dx_callTy (c.ck ▸ call_list_of) c.bl.list b_list (da_cons (fun σ H G Q a1 a2 a3 a4 => h σ H G Q a1 a2 a3 fun v H' G' sl rs' t r o k => a4 v H' G' sl rs' t r o (da_nil ?_)) he) hg (he := he) (hpl := rfl)
  intro G H vs Q hv hs hq
  match vs, hv with
  | [v], hv =>
    rcases k with ⟨ds, e, k⟩ | ⟨p, ss, f, e, pk, k⟩
    · obtain ⟨p, ws, rfl, r, al⟩ := hv.1.seq e
      refine ⟨p, ws, rfl, r.imp LsAt.sq .inl, fun l hl => ?_⟩
      obtain ⟨t, o⟩ := own_new hs hl (SlAll.of_is al)
      exact hq _ _ _ (.r (.ref l)) _ t rfl o (k l)
    · subst e
      have ev : v = .ref p := hv.1
      subst ev
      obtain ⟨ws, hp, al, _, _⟩ := lst_at pk hs
      refine ⟨p, ws, rfl, .inl (.inl (.inl hp)), fun l hl => ?_⟩
      obtain ⟨t, o⟩ := own_new hs hl al
      exact hq _ _ _ (.r (.ref l)) _ t rfl o (k l)
theorem dx_open {α : Type} {fam : α → List Mem} (xs : List Mem) {tl : List Mem} (k : ∀ q, DX c e ρ (xs ++ (fam q ++ tl)) K) : DX c e ρ (xs ++ exM fam :: tl) K := by
  intro σ H G Q he hs hx hq
  obtain ⟨q, o⟩ := sep_open hs
  exact k q σ H G Q he o hx hq
theorem dt_open {α : Type} {fam : α → List Mem} {KB : Bool → List Mem → Prop} (xs : List Mem) {tl : List Mem} (k : ∀ q, DT c e ρ (xs ++ (fam q ++ tl)) KB) : DT c e ρ (xs ++ exM fam :: tl) KB := by
  intro σ H G Q he hs hx hq
  obtain ⟨q, o⟩ := sep_open hs
  exact k q σ H G Q he o hx hq
theorem flat_rep {α : Type} (x : α) : ∀ n : Nat, (List.replicate n [x]).flatten = List.replicate n x
  | 0 => rfl
  | n + 1 => by rw [List.replicate_succ, List.flatten_cons, flat_rep x n]; rfl
/-- [x] * k, owned -/
theorem dx_rep (h : DX c a ρ rs fun s r => ∀ p, DX c b ρ (lstM p [s.plain] :: r) fun s2 r2 => ∃ (k : Int) (f : List Mem → List Mem), s2 = .d (.int k) ∧ (-(2 ^ 60) ≤ k ∧ k ≤ 100000) ∧ Pick r2 (lstM p [s.plain]) f ∧ ∀ q, K (.r (.ref q)) (lstM q (List.replicate k.toNat s.plain) :: f []))
    (hst : starEach [a] c.X.env = (false, eval a c.X.env) :: starEach [] c.X.env := by rfl) : DX c (.BinOp (.List [a] pos') .Mult b pos) ρ rs K := by
  refine dx_bin op_uMul (dx_lstO (da_cons (dx_weak h fun s r k => da_nil ?_) hst))
  refine ⟨by show 1 ≤ 100000; decide, fun p => dx_weak (k p) fun s2 r2 k2 => ?_⟩
  obtain ⟨k, f, rfl, hk, pk, kk⟩ := k2
  refine od_r fun G H x y Q hx hy hs hq => ?_
  have ex : x = .ref p := hx
  subst ex
  obtain ⟨vs, hp, al, _, _⟩ := lst_at pk hs
  refine ⟨p, k, vs, rfl, hy.int, hp, by omega, by omega, by rw [al.length]; show 1 * _ ≤ _; have e : sizeLine = 1000000000000 ∨ 100000 ≤ sizeLine := .inr (by decide); omega, fun q hq0 => ?_⟩
  obtain ⟨t, o⟩ := own_new hs hq0 (all_rep al k.toNat)
  rw [flat_rep] at o
  obtain ⟨F1, G2, _, _, t2, o2⟩ := sepL.drop (.succ pk) o
  exact hq _ _ _ (.r (.ref q)) _ (t.trans t2) rfl o2 (kk q)
/-- [x] * k, plain -/
theorem dx_repD (h : DX c a ρ rs fun s r => ∃ d, s.plain = .d d ∧ ∀ p, DX c b ρ (lstM p [.d d] :: r) fun s2 r2 => ∃ (k : Int) (f : List Mem → List Mem), s2 = .d (.int k) ∧ (-(2 ^ 60) ≤ k ∧ k ≤ 100000) ∧ Pick r2 (lstM p [.d d]) f ∧ K (.d (.list (List.replicate k.toNat d))) (f []))
    (hst : starEach [a] c.X.env = (false, eval a c.X.env) :: starEach [] c.X.env := by rfl) : DX c (.BinOp (.List [a] pos') .Mult b pos) ρ rs K := by
  refine dx_frz (dx_rep (dx_weak h fun s r k p => ?_) hst)
  obtain ⟨d, e, k⟩ := k
  rw [e]
  refine dx_weak (k p) fun s2 r2 k2 => ?_
  obtain ⟨k, f, rfl, hk, pk, kk⟩ := k2
  exact ⟨k, f, rfl, hk, pk, fun q => ⟨q, List.replicate k.toNat d, fun xs => xs ++ f [], rfl, by rw [List.map_replicate]; exact .zero, kk⟩⟩
theorem ex_rep {k : Int} {s : Sl} {p : Addr} {f : List Mem → List Mem} {B : Int → (List Mem → List Mem) → Prop} (pk : Pick rs (lstM p [s]) f) (hk : -(2 ^ 60) ≤ k ∧ k ≤ 100000) (h : B k f) :
    ∃ (k' : Int) (f' : List Mem → List Mem), Sl.d (.int k) = .d (.int k') ∧ (-(2 ^ 60) ≤ k' ∧ k' ≤ 100000) ∧ Pick rs (lstM p [s]) f' ∧ B k' f' := ⟨k, f, rfl, hk, pk, h⟩
theorem ex_dat {d : PyData} {B : PyData → Prop} (h : B d) : ∃ e, Sl.d d = .d e ∧ B e := ⟨d, rfl, h⟩
end
end PW
/-! ### rows of truths -/
namespace PW
open PySem L2
def bat (ms : List Bool) (i : Int) : Bool := ms.getD i.toNat false
theorem bat_get {ms : List Bool} {i : Int} (h : 0 ≤ i ∧ i < ms.length) : ms[i.toNat]? = some (bat ms i) := by
  unfold bat
  have : i.toNat < ms.length := by omega
  rw [List.getD_eq_getElem?_getD, List.getElem?_eq_getElem this]; rfl
theorem bat_set {ms : List Bool} {i j : Int} {b : Bool} (hi : 0 ≤ i ∧ i < ms.length) (hj : 0 ≤ j) : bat (ms.set i.toNat b) j = if j = i then b else bat ms j := by
  unfold bat
  rw [List.getD_eq_getElem?_getD, List.getD_eq_getElem?_getD, List.getElem?_set]
  by_cases e : j = i
  · subst e
    rw [if_pos rfl, if_pos rfl, if_pos (by omega)]; rfl
  · rw [if_neg (by omega), if_neg e]
theorem bat_ext {a b : List Bool} (hl : a.length = b.length) (h : ∀ i : Int, 0 ≤ i → i < a.length → bat a i = bat b i) : a = b := by
  refine List.ext_getElem hl fun i h1 h2 => ?_
  have := h i (by omega) (by omega)
  unfold bat at this
  simpa [List.getD_eq_getElem?_getD, h1, h2] using this
theorem mem_bat {ms : List Bool} (h : true ∈ ms) : ∃ i : Int, 0 ≤ i ∧ i < ms.length ∧ bat ms i = true := by
  obtain ⟨i, hi, e⟩ := List.getElem_of_mem h
  exact ⟨i, by omega, by omega, by unfold bat; simp [hi, e]⟩
theorem bat_mem {ms : List Bool} {i : Int} (h : 0 ≤ i ∧ i < ms.length) (e : bat ms i = true) : true ∈ ms := by
  have := bat_get h
  rw [e] at this
  exact List.mem_of_getElem? this
variable [KC]
theorem ixN_in {n : Nat} {i : Int} (h : 0 ≤ i ∧ i < n) : ixN n i = some i.toNat := by
  unfold ixN
  rw [if_pos h.1, if_pos (by omega)]
theorem atI_b {ms : List Bool} {i : Int} (h : 0 ≤ i ∧ i < ms.length) : atI (ms.map PyData.bool) i = some (.bool (bat ms i)) := by
  unfold atI
  rw [List.length_map, ixN_in h]
  show (ms.map PyData.bool)[i.toNat]? = _
  rw [List.getElem?_map, bat_get h]; rfl
theorem atI_bs {ms : List Bool} {i : Int} (h : 0 ≤ i ∧ i < ms.length) : atI ((ms.map PyData.bool).map Sl.d) i = some (.d (.bool (bat ms i))) := by
  rw [atI_map, atI_b h]; rfl
theorem ixN_bs {ms : List Bool} {i : Int} (h : 0 ≤ i ∧ i < ms.length) : ixN ((ms.map PyData.bool).map Sl.d).length i = some i.toNat := by
  rw [List.length_map, List.length_map]; exact ixN_in h
theorem set_bs {ms : List Bool} {j : Nat} {b : Bool} : ((ms.map PyData.bool).map Sl.d).set j (.d (.bool b)) = ((ms.set j b).map PyData.bool).map Sl.d := by
  rw [List.map_set, List.map_set]
theorem range_split {n y : Nat} {pre post : List Nat} (e : List.range n = pre ++ y :: post) : y = pre.length ∧ y < n := by
  have h1 : (List.range n)[pre.length]? = some y := by rw [e]; simp
  have hl := congrArg List.length e
  rw [List.length_range, List.length_append, List.length_cons] at hl
  have hlt : pre.length < n := by omega
  rw [List.getElem?_eq_getElem (by simpa using hlt)] at h1
  simp at h1
  omega
theorem any_b (ms : List Bool) : ((ms.map PyData.bool).any fun y => eqF y (.bool true)) = decide (true ∈ ms) := by
  induction ms with
  | nil => rfl
  | cons b ms ih =>
    rw [List.map_cons, List.any_cons, ih]
    cases b <;> simp [eqF]
theorem flat_b (ms : List Bool) : (ms.map PyData.bool).all flatD = true := by
  induction ms with
  | nil => rfl
  | cons b ms ih => rw [List.map_cons, List.all_cons, ih]; rfl
theorem shaped_b (ms : List Bool) : SeqAt.shaped (.list (ms.map PyData.bool)) = true := shaped_list 0 (by decide) fun d hd => by
  obtain ⟨b, _, rfl⟩ := List.mem_map.mp hd
  exact ⟨rfl, Nat.le_refl 0⟩
end PW

set_option maxHeartbeats 1000000
/-! clear, pop; two names in a for; except X without a name; a list of one's own made plain. -/
namespace PW
open PySem L2
variable [KC]
variable {m₀ : Mo} {N₀ : List Str} {sc₀ : Scope} {lv₀ : Nat} {xp₀ : Addr → List Sl → List Mem → Prop} {fF₀ cm₀ : Bool}
theorem SlAll.dropLast {G : Fp} {H : Hp} : ∀ {vs : List V} {ss : List Sl}, SlAll G H vs ss → SlAll G H vs.dropLast ss.dropLast
  | [], [], _ => trivial
  | [_], [_], _ => trivial
  | _ :: _ :: _, _ :: _ :: _, ⟨h, q⟩ => ⟨h, SlAll.dropLast q⟩
  | [], _ :: _, h => h.elim
  | _ :: _, [], h => h.elim
  | [_], _ :: _ :: _, h => h.2.elim
  | _ :: _ :: _, [_], h => h.2.elim
/-- the slots of the list at q, made plain -/
inductive FrzS (q : Addr) (ds : List PyData) : List Sl → List Sl → Prop
  | nil : FrzS q ds [] []
  | here {ρ ρ'} : FrzS q ds ρ ρ' → FrzS q ds (.r (.ref q) :: ρ) (.d (.list ds) :: ρ')
  | eq {s ρ ρ'} : FrzS q ds ρ ρ' → FrzS q ds (s :: ρ) (s :: ρ')
theorem FrzS.env {q : Addr} {ds : List PyData} {G : Fp} {H : Hp} (hq : Is G H (.ref q) (.list ds)) {ρ ρ' : List Sl} (h : FrzS q ds ρ ρ') : ∀ {σ : L2.St}, EnvOk G H σ ρ → EnvOk G H σ ρ' := by
  induction h with
  | nil => exact id
  | here _ ih =>
    intro σ e
    cases σ with
    | nil => exact e.elim
    | cons o σ =>
      obtain ⟨⟨v, e1, z⟩, q2⟩ := e
      have ev : v = .ref q := z
      subst ev
      exact ⟨⟨_, e1, hq⟩, ih q2⟩
  | eq _ ih =>
    intro σ e
    cases σ with
    | nil => exact e.elim
    | cons o σ => exact ⟨e.1, ih e.2⟩
section
variable {c : Ctx m₀ N₀ sc₀ lv₀ xp₀ fF₀ cm₀} {e a b o it : Expr} {es : List Expr} {ρ ρ' : List Sl} {r1 rs : List Mem} {K : Sl → List Mem → Prop} {P : Post} {x y f : Str} {pos pos' p2 p3 apos cpos : Pos} {s1 s2 : Sl} {sts : List Stmt}
theorem dss_frz {q : Addr} {ds : List PyData} {g : List Mem → List Mem} (pk : Pick rs (lstM q (ds.map .d)) g) (hf : FrzS q ds ρ ρ') (k : DSs c sts ρ' (g []) P) : DSs c sts ρ rs P := by
  intro σ H G D he hs hx hd
  obtain ⟨F1, G2, ⟨eF, vs, hp, al⟩, dj, t, o⟩ := sepL.drop pk hs
  exact k σ H G2 D (hf.env (.lst (.inl ⟨.inl hp, fun g => dj q ((eF q).mpr rfl) g⟩) (al.stp t).is) (he.stp t)) o (hx.stp t) (hd.stp t)
structure Me0Ok (X : Cx) (o : Expr) (m : Str) (apos cpos : Pos) : Prop where
  hb : attributeBase o m X.env (eval o X.env) = eval o X.env
  hl : (apos.endLine == cpos.line) = true
/-- x.clear() -/
theorem dx_clear (h : DX c o ρ rs fun s r => ∃ p ss f, s = .r (.ref p) ∧ Pick r (lstM p ss) f ∧ K (.d .none) (f [lstM p []]))
    (hm : Me0Ok c.X o "clear" apos cpos := by exact ⟨rfl, rfl⟩) : DX c (.Call (.Attribute o "clear" apos) [] [] cpos) ρ rs K := by
  intro σ H G Q he hs hx hq
  refine tE_of (pe_bm0 PySem.F.plainAttrs_list PySem.F.slot_list_clear PySem.F.type_list_clear mt_clear pe_t (hbase := hm.hb) (hline := hm.hl)) ?_
  refine h σ H G _ he hs hx fun v H1 G1 s1 r1 t1 h1 o1 k1 => ?_
  obtain ⟨p, ss, f, rfl, pk, k1⟩ := k1
  have ev : v = .ref p := h1
  subst ev
  obtain ⟨vs, hp, al, _, ch⟩ := lst_at pk o1
  refine ⟨.inl ⟨rfl, vs, .inl (.inl hp)⟩, p, vs, rfl, rfl, hp, ?_⟩
  obtain ⟨t2, o2⟩ := ch [] [] trivial
  exact hq .non _ G1 (.d .none) _ (t1.trans t2) Is.non o2 k1
/-- x.pop() -/
theorem dx_pop (h : DX c o ρ rs fun s r => ∃ p ss t f, s = .r (.ref p) ∧ Pick r (lstM p (ss ++ [t])) f ∧ (∀ ds, t ≠ .n ds) ∧ K t (f [lstM p ss]))
    (hm : Me0Ok c.X o "pop" apos cpos := by exact ⟨rfl, rfl⟩) : DX c (.Call (.Attribute o "pop" apos) [] [] cpos) ρ rs K := by
  intro σ H G Q he hs hx hq
  refine tE_of (pe_bm0 PySem.F.plainAttrs_list PySem.F.slot_list_pop PySem.F.type_list_pop mt_pop pe_t (hbase := hm.hb) (hline := hm.hl)) ?_
  refine h σ H G _ he hs hx fun v H1 G1 s1 r1 t1 h1 o1 k1 => ?_
  obtain ⟨p, ss, t, f, rfl, pk, hn, k1⟩ := k1
  have ev : v = .ref p := h1
  subst ev
  obtain ⟨vs, hp, al, _, ch⟩ := lst_at pk o1
  have hl := al.length
  rw [List.length_append, List.length_cons, List.length_nil] at hl
  obtain ⟨y, hy, hk⟩ := al.get (i := vs.length - 1) (s := t) (by rw [hl]; simp)
  refine ⟨.inl ⟨rfl, vs, .inl (.inl hp)⟩, p, vs, y, rfl, rfl, hp, hy, ?_⟩
  have al2 := al.dropLast
  rw [List.dropLast_concat] at al2
  obtain ⟨t2, o2⟩ := ch _ _ al2
  exact hq y _ G1 t _ (t1.trans t2) (Rs.of_ok (hk.stp t2) hn) o2 k1
/-- for x, y in it: body -/
def ForD2 (c : Ctx m₀ N₀ sc₀ lv₀ xp₀ fF₀ cm₀) (x : Str) (j : Nat) (y : Str) (j2 : Nat) (body : List Stmt) {α : Type} (xs : List α) (e1 e2 : α → PyData) (keep : List Mem → Prop) (ρ : List Sl) (rs : List Mem) (P : Post) : Prop :=
  ∃ (S : Type) (ρf : S → List Sl) (rf : S → List Mem) (inv : List α → S → Prop), (∃ s, inv [] s ∧ Le ρ (ρf s) ∧ rs = rf s) ∧ (∀ pre s, inv pre s → keep (rf s)) ∧
    (∀ pre z post s, xs = pre ++ z :: post → inv pre s → ∃ ρ1 ρ2, SetS N₀ (ρf s) x j (.d (e1 z)) ρ1 ∧ SetS N₀ ρ1 y j2 (.d (e2 z)) ρ2 ∧
      DSs c body ρ2 (rf s) ⟨fun ρ' r' => ∃ s', inv (pre ++ [z]) s' ∧ Le ρ' (ρf s') ∧ r' = rf s', P.rt, P.nx, fun ρ' r' => ∃ s', inv (pre ++ [z]) s' ∧ Le ρ' (ρf s') ∧ r' = rf s'⟩) ∧
    (∀ s, inv xs s → P.nx (ρf s) (rf s))
theorem is_two {G : Fp} {H : Hp} {vs : List V} {d1 d2 : PyData} (h : IsAll G H vs [d1, d2]) : ∃ v1 v2, vs = [v1, v2] ∧ Is G H v1 d1 ∧ Is G H v2 d2 := by
  cases h with
  | cons a t =>
    cases t with
    | cons b u =>
      cases u with
      | nil => exact ⟨_, _, rfl, a, b⟩
theorem ds_for2 {body : List Stmt} {kk : Nat} {j j2 : Nat} (hj : IxOf N₀ x j) (hj2 : IxOf N₀ y j2) (h : DI c (.Tuple [.Name x p2, .Name y p3] kk pos') it ρ rs fun items keep r => ∃ (α : Type) (xs : List α) (e1 e2 : α → PyData), items = xs.map (fun z => .d (.tuple [e1 z, e2 z])) ∧ ForD2 c x j y j2 body xs e1 e2 keep ρ r P)
    (hcm : cm₀ = true := by rfl) (hl : LocF c x := by first | exact locF_of (by with_reducible (repeat (first | exact KdIn.zero | apply KdIn.succ))) rfl | exact Or.inl rfl | exact Or.inr ⟨rfl, rfl⟩) (hl2 : LocF c y := by first | exact locF_of (by with_reducible (repeat (first | exact KdIn.zero | apply KdIn.succ))) rfl | exact Or.inl rfl | exact Or.inr ⟨rfl, rfl⟩) (hf : ∀ z, foldedSetIterable it c.X.env z = pure z := by intro _; rfl) : DS c (.For (.Tuple [.Name x p2, .Name y p3] kk pos') it body [] pos) ρ rs P := by
  intro σ H G D he hs hx hd
  have nd : c.X.N.Nodup := by rw [c.hN]; exact c.nd
  have hi : c.X.N[j]? = some x := by rw [c.hN]; exact hj.get
  have hi2 : c.X.N[j2]? = some y := by rw [c.hN]; exact hj2.get
  refine tS_of (ps_for (tb := tSs c.X body) c.po (c.calm hcm) pi_t (pg_tup (c.calm hcm) (pgs_cons (pg_name nd hi hl.loc (c_hf hl)) (pgs_cons (pg_name nd hi2 hl2.loc (c_hf hl2)) pgs_nil))) pss_t hf) ?_
  refine h σ H G _ he hs hx fun J H1 G1 items keep r1 t1 o1 jok k1 => ?_
  obtain ⟨α, xs, e1, e2, rfl, S, ρf, rf, inv, ⟨s0, i0, l0, rfl⟩, hk, ht, hend⟩ := k1
  refine ⟨fun i m σ' H' => m = xs.length - i ∧ i ≤ xs.length ∧ ∃ G' s, Stp G1 G' H1 H' ∧ EnvOk G' H' σ' (ρf s) ∧ sepL (rf s) G' G' H' ∧ inv (xs.take i) s,
    ⟨_, rfl, Nat.zero_le _, G1, s0, Stp.refl _ _, l0.env (he.stp t1), o1, i0⟩, ?_⟩
  rintro i m σ' H' ⟨rfl, hle, G', s, t2, en2, o2, iv⟩
  have jk := jok G' H' (rf s) t2 o2 (hk _ s iv) i
  by_cases hlt : i < xs.length
  · refine .inr ⟨(jk.1 (by simpa using hlt)).1, fun σ2 H2 => xs.length - (i + 1) < xs.length - i ∧ i + 1 ≤ xs.length ∧ ∃ G2 s, Stp G1 G2 H1 H2 ∧ EnvOk G2 H2 σ2 (ρf s) ∧ sepL (rf s) G2 G2 H2 ∧ inv (xs.take (i + 1)) s,
      fun σ2 H2 ⟨l, l2, r⟩ => ⟨_, l, rfl, l2, r⟩, fun w H2 yl => ?_⟩
    obtain ⟨rfl, sl, hsl, hy⟩ := (jk.1 (by simpa using hlt)).2 w H2 yl
    have hsl' : sl = .d (.tuple [e1 xs[i], e2 xs[i]]) := by
      rw [List.getElem?_map, List.getElem?_eq_getElem hlt] at hsl
      exact (Option.some.inj hsl).symm
    subst hsl'
    obtain ⟨p, vs, rfl, rd, _, al⟩ := hy.tuple
    obtain ⟨v1, v2, rfl, a1, a2⟩ := is_two al
    have split : xs = xs.take i ++ xs[i] :: xs.drop (i + 1) := by simp
    obtain ⟨ρ1, ρ2, hset, hset2, hb⟩ := ht (xs.take i) xs[i] (xs.drop (i + 1)) s split iv
    have tk : xs.take i ++ [xs[i]] = xs.take (i + 1) := by simp
    rw [tk] at hb
    refine ⟨p, [v1, v2], rfl, rd_sqT rd, rfl, v1, [v2], rfl, v2, [], rfl, rfl, ?_⟩
    refine hb _ H2 G' _ (hset2.env a2 (hset.env a1 en2)) o2 (hx.stp (t1.trans t2)) ⟨fun σ3 H3 G3 ρ3 r3 t3 e3 o3 k3 => ?_, fun v H3 G3 sl r3 t3 => hd.rt v H3 G3 sl r3 ((t1.trans t2).trans t3) ∘ fun q => q.back (t1.trans t2), fun σ3 H3 G3 ρ3 r3 t3 => hd.nx σ3 H3 G3 ρ3 r3 ((t1.trans t2).trans t3), fun σ3 H3 G3 ρ3 r3 t3 e3 o3 k3 => ?_⟩
    · obtain ⟨s', i', l', rfl⟩ := k3
      exact ⟨by omega, by omega, G3, s', t2.trans t3, l'.env e3, o3, i'⟩
    · obtain ⟨s', i', l', rfl⟩ := k3
      exact ⟨by omega, by omega, G3, s', t2.trans t3, l'.env e3, o3, i'⟩
  · have hi : i = xs.length := by omega
    subst hi
    rw [List.take_length] at iv
    exact .inl ⟨jk.2 (by simp), hd.nx σ' H' G' (ρf s) (rf s) (t1.trans t2) en2 o2 (hend s iv)⟩
/-- try: .. except y: without a name; only y is raised -/
def CatchX (m₀ : Mo) (N₀ : List Str) (sc₀ : Scope) (lv₀ : Nat) (fF₀ : Bool) (E : Str → Addr) (y : Str) (suite : List Stmt) (P : Post) (D : Addr) (ρ : List Sl) (rs : List Mem) : Prop :=
  D = E y ∧ ∀ (c' : Ctx m₀ N₀ sc₀ lv₀ (fun _ _ _ => False) fF₀ false), DSs c' suite ρ rs P
theorem ds_tryX {E : Str → Addr} {ra ts : List Str} {body suite : List Stmt} {b₀ : Stmt} {np : Pos} (er : Errs m₀ E ra ts) (hp : y ∈ ts) (hex : PySem.W.exmOne m₀.K (.ref (E y)) (.ref (E y)) = some true)
    (body_ : ∀ c' : Ctx m₀ N₀ sc₀ lv₀ (CatchX m₀ N₀ sc₀ lv₀ fF₀ E y (b₀ :: suite) P) fF₀ cm₀, DSs c' body ρ rs P)
    (hF : fF₀ = true := by rfl) (hg : KdIn sc₀.names y .globalImplicit := by first | ((with_reducible (repeat (first | exact KdIn.zero | apply KdIn.succ))); (first | (all_goals fail) | fail)) | exact kd_of rfl) :
    DS c (.Try body [.ExceptHandler (some (.Name y np)) none (b₀ :: suite) pos'] [] [] pos) ρ rs P := by
  intro σ H G D he hs hX hd
  have eK := c.hm.K
  refine tS_of (ps_try_only (c := .ref (E y)) (tb := fun W D σ H => ∀ pn xe, Takes (c.X.tr pn xe) W → PassesOwn (model c.X.prog c.X.w) c.X.A c.X.env xe → tSs (c.X.tr pn xe) body D σ H)
    (ts := fun a cls d D σ H => ∀ oe pn, Zc cls d oe → (∃ vs, oe.data = .fields vs) → tSs (c.X.suite a ((a, oe) :: pn)) (b₀ :: suite) D σ H) (Wout := fun _ _ _ _ => False)
    (c.fs hF).1 (c.fs hF).2 ⟨c_gl hg, c.nd1 hg, .inl (by rw [c.hm.mg]; exact er.nm _ hp)⟩ takes0
    (fun W pn xe tk po => ⟨fun pins s _ _ _ I h => h pn xe tk po pins s I⟩) (fun a oe cls d pn hz hf => ⟨fun pins s _ _ _ I h => h oe pn hz hf pins s I⟩)) ?_
  intro pn xe tk po
  refine body_ (c.tr pn xe _ _ tk po) σ H G D he hs (fun C σ' H' G' ρ' rs' t e o k => ?_) hd
  obtain ⟨rfl, k⟩ := k
  refine ⟨true, eK ▸ hex, fun _ a ha => ?_, fun z => Bool.noConfusion z⟩
  intro oe pn' hz hf
  have hd2 := hd.stp t
  exact k (c.suite a ((a, oe) :: pn')) _ H' G' _ e o xok0 ⟨hd2.nx, hd2.rt, hd2.bk, hd2.ct⟩
theorem catchX {E : Str → Addr} {suite : List Stmt} {st : Stmt} (h : ∀ (c' : Ctx m₀ N₀ sc₀ lv₀ (fun _ _ _ => False) fF₀ false), DSs c' (st :: suite) ρ rs P) : CatchX m₀ N₀ sc₀ lv₀ fF₀ E y (st :: suite) P (E y) ρ rs := ⟨rfl, h⟩
theorem ds_ent {st : Stmt} {rs2 : List Mem} (h : Ent rs rs2) (k : DS c st ρ rs2 P) : DS c st ρ rs P := by
  intro σ H G D he hs hx hd
  obtain ⟨G', l, o⟩ := h G H hs
  have t : Stp G G' H H := Stp.less l
  exact k σ H G' D (he.stp t) o (hx.stp t) (hd.stp t)
end
end PW

set_option maxHeartbeats 1000000
/-! list(a text). -/
namespace PW
open PySem L2
def signV (z : Str) : List V := z.cps.toList.map fun n => V.str ⟨#[n]⟩
theorem call_listS {X : Cx} (hc : X.calm = true) : CallR X (.type "list") (fun xs H Q => ∃ z, xs = [.str z] ∧ z.cps.size ≤ sizeLine ∧ ∀ l, H l = none → Q (.ref l) (upd H l (.lst (signV z)))) := by
  intro pins s σ H xs us Q I r h
  obtain ⟨z, e, hz, q⟩ := h
  subst e
  obtain ⟨u, eu, t, e2⟩ := vals1 r
  subst eu
  subst e2
  refine call_list_str (I.ok.hd hc) z t (hn := hz) fun h' tk acc' c' hkeep hS hacc => ?_
  have hlen : (signV z).length = z.cps.size := by unfold signV; rw [List.length_map]; simp
  refine ⟨.ref s.heap.objs.size, upd H s.heap.objs.size (.lst (signV z)), I.laid hkeep (Nat.le_refl _) (show ObjOk X.prog X.w _ _ _ (.lst (signV z)) from ⟨?_, acc'.toList, c', ?_, ?_⟩), rfl, q _ (I.hok.fresh (Nat.le_refl _))⟩
  · rw [hlen]; exact hz
  · have el : acc'.toList.length = acc'.size := by simp
    refine vals_of_at (by rw [hlen, el, hacc.1]) fun j x w h1 h2 => ?_
    obtain ⟨n, u, hn, hw⟩ := hacc.2 j w (by rw [← Array.getElem?_toList]; exact h2)
    subst hw
    have e1 : (signV z)[j]? = some (.str ⟨#[n]⟩) := by
      unfold signV
      rw [List.getElem?_map, Array.getElem?_toList, hn]; rfl
    rw [e1] at h1
    cases h1
    exact ⟨u, rfl⟩
  · simpa using hS
variable [KC]
variable {m₀ : Mo} {N₀ : List Str} {sc₀ : Scope} {lv₀ : Nat} {xp₀ : Addr → List Sl → List Mem → Prop} {fF₀ cm₀ : Bool}
def signD (z : Str) : List PyData := z.cps.toList.map fun n => PyData.str ⟨#[n]⟩
theorem is_signs {G : Fp} {H : Hp} (z : Str) : IsAll G H (signV z) (signD z) := by
  unfold signV signD
  induction z.cps.toList with
  | nil => exact .nil
  | cons n l ih => exact .cons (.str _) ih
section
variable {c : Ctx m₀ N₀ sc₀ lv₀ xp₀ fF₀ cm₀} {e a b o it : Expr} {es : List Expr} {ρ ρ' : List Sl} {r1 rs : List Mem} {K : Sl → List Mem → Prop} {P : Post} {x y f : Str} {pos pos' p2 p3 apos cpos : Pos} {s1 s2 : Sl} {sts : List Stmt}
def LsD (s : Sl) (r : List Mem) (K : Sl → List Mem → Prop) : Prop := (∃ ds, s.asSeq = some ds ∧ K (.n ds) r) ∨ (∃ z, s = .d (.str z) ∧ z.length ≤ 100000 ∧ K (.n (signD z)) r)
theorem ls_d {s : Sl} {ds : List PyData} (e : s.asSeq = some ds) (k : K (.n ds) rs) : LsD s rs K := .inl ⟨ds, e, k⟩
theorem ls_s {z : Str} (hz : z.length ≤ 100000) (k : K (.n (signD z)) rs) : LsD (.d (.str z)) rs K := .inr ⟨z, rfl, hz, k⟩
theorem dx_listA (h : DX c a ρ rs fun s r1 => LsD s.plain r1 K) (hg : KdIn sc₀.names ("list" : Str) .globalImplicit := by first | ((with_reducible (repeat (first | exact KdIn.zero | apply KdIn.succ))); (first | (all_goals fail) | fail)) | exact kd_of rfl) (he : starEach [a] c.X.env = (false, eval a c.X.env) :: starEach [] c.X.env := by rfl) (hcm : cm₀ = true := by rfl) : DX c (.Call (.Name "list" p2) [a] [] pos) ρ rs K := by
  refine dx_callTy (call_or (c.ck ▸ call_list_of) (call_listS (c.calm hcm))) c.bl.list b_list (da_cons (fun σ H G Q a1 a2 a3 a4 => h σ H G Q a1 a2 a3 fun v H' G' sl rs' t r o k => a4 v H' G' sl rs' t r o (da_nil ?_)) he) hg (he := he) (hpl := rfl)
  rcases k with ⟨ds, e, k⟩ | ⟨z, e, hz, k⟩
  · exact cd_l (cd_list e k)
  · refine cd_r fun G H vs Q hv hs hq => ?_
    match vs, hv with
    | [v], hv =>
      have hv1 := hv.1
      rw [e] at hv1
      have ev := hv1.str
      subst ev
      refine ⟨z, rfl, Nat.le_trans hz (by decide), fun l hl => ?_⟩
      have st : Stp G G H (upd H l (.lst (signV z))) := stp_new hl
      exact hq _ _ G (.n (signD z)) _ st ⟨l, _, rfl, hl, hs.fresh hl, upd_same, is_signs z⟩ (sepL.step st.sub hs fun a o q _ => same_new hl a o q) k
end
end PW

set_option maxHeartbeats 1000000
/-! text.index, text.split; parts of texts. -/
namespace PW
open PySem L2
theorem cut_front (z : Str) : (cutS z none (some 1)).cps.toList = z.cps.toList.take 1 := by
  unfold cutS
  have e : z.length = z.cps.toList.length := by show z.cps.size = _; simp
  rw [show HT.sIx z.length 0 none = 0 from rfl, show HT.sIx z.length z.length (some 1) = min 1 z.length from HT.sIx_nat _ _ 1]
  show (List.take _ (List.drop 0 _)) = _
  rw [List.drop_zero, Nat.sub_zero, e, ← List.take_take, List.take_length]
theorem cut_tail (z : Str) : (cutS z (some 1) none).cps.toList = z.cps.toList.drop 1 := by
  unfold cutS
  have e : z.length = z.cps.toList.length := by show z.cps.size = _; simp
  rw [show HT.sIx z.length z.length none = z.length from rfl, show HT.sIx z.length 0 (some 1) = min 1 z.length from HT.sIx_nat _ _ 1, e]
  show (List.take _ (List.drop _ _)) = _
  rw [List.take_of_length_le (by rw [List.length_drop]; exact Nat.le_refl _)]
  by_cases h : z.cps.toList.length = 0
  · rw [List.length_eq_zero_iff.mp h]; rfl
  · rw [Nat.min_eq_left (by omega)]
theorem str_ext {a b : Str} (h : a.cps.toList = b.cps.toList) : a = b := by
  cases a; cases b
  congr 1
  exact Array.ext' h
theorem str_len (z : Str) : z.length = z.cps.toList.length := by show z.cps.size = _; simp
variable [KC]
variable {m₀ : Mo} {N₀ : List Str} {sc₀ : Scope} {lv₀ : Nat} {xp₀ : Addr → List Sl → List Mem → Prop} {fF₀ cm₀ : Bool}
section
variable {c : Ctx m₀ N₀ sc₀ lv₀ xp₀ fF₀ cm₀} {e a b o it : Expr} {es : List Expr} {ρ ρ' : List Sl} {r1 rs : List Mem} {K : Sl → List Mem → Prop} {P : Post} {x y f : Str} {pos pos' p2 p3 apos cpos : Pos} {s1 s2 : Sl} {sts : List Stmt}
theorem dx_sindex (h : DX c o ρ rs fun s r => ∃ z, s = .d (.str z) ∧ DX c a ρ r fun s2 r2 => ∃ y i rest, s2 = .d (.str y) ∧ Builtin.Str.occurrences z y 0 z.length 1 = i :: rest ∧ K (.d (.int (i : Nat))) r2)
    (hm : M1ok c.X o "index" a apos pos := by exact ⟨rfl, rfl, rfl⟩) : DX c (.Call (.Attribute o "index" apos) [a] [] pos) ρ rs K := by
  intro σ H G Q he hs hx hq
  refine tE_of (pe_m1 PySem.F.slot_str_index PySem.F.type_str_index mt_sindex pe_t pe_t hm.hs hm.hb hm.hl) ?_
  refine h σ H G _ he hs hx fun v H1 G1 s1 r1 t1 h1 o1 k1 => ?_
  obtain ⟨z, rfl, k1⟩ := k1
  refine ⟨⟨z, h1.ok.str⟩, ?_⟩
  refine k1 σ H1 G1 _ (he.stp t1) o1 (hx.stp t1) fun w H2 G2 s2 r2 t2 h2 o2 k2 => ?_
  obtain ⟨y, i, rest, rfl, ho, k2⟩ := k2
  exact ⟨z, y, i, rest, h1.ok.str, by rw [h2.ok.str], ho, hq _ H2 G2 (.d (.int _)) r2 (t1.trans t2) (Is.int _) o2 k2⟩
theorem is_strs {G : Fp} {H : Hp} : ∀ ys : List Str, IsAll G H (ys.map V.str) (ys.map PyData.str)
  | [] => .nil
  | y :: ys => .cons (.str y) (is_strs ys)
theorem dx_split (h : DX c o ρ rs fun s r => ∃ z, s = .d (.str z) ∧ DX c a ρ r fun s2 r2 => ∃ y, s2 = .d (.str y) ∧ (y.length == 0) = false ∧ z.length ≤ 100000 ∧ K (.n ((Txt.split z y).map .str)) r2)
    (hm : M1ok c.X o "split" a apos pos := by exact ⟨rfl, rfl, rfl⟩) : DX c (.Call (.Attribute o "split" apos) [a] [] pos) ρ rs K := by
  intro σ H G Q he hs hx hq
  refine tE_of (pe_m1 PySem.F.slot_str_split PySem.F.type_str_split mt_split pe_t pe_t hm.hs hm.hb hm.hl) ?_
  refine h σ H G _ he hs hx fun v H1 G1 s1 r1 t1 h1 o1 k1 => ?_
  obtain ⟨z, rfl, k1⟩ := k1
  refine ⟨⟨z, h1.ok.str⟩, ?_⟩
  refine k1 σ H1 G1 _ (he.stp t1) o1 (hx.stp t1) fun w H2 G2 s2 r2 t2 h2 o2 k2 => ?_
  obtain ⟨y, rfl, hy, hz, k2⟩ := k2
  refine ⟨z, y, h1.ok.str, by rw [h2.ok.str], hy, Nat.le_trans (Nat.add_le_add_right hz 2) (by decide), fun p hp => ?_⟩
  have st : Stp G2 G2 H2 (upd H2 p (.lst ((Txt.split z y).map V.str))) := stp_new hp
  exact hq _ _ G2 (.n ((Txt.split z y).map .str)) r2 ((t1.trans t2).trans st) ⟨p, _, rfl, (t1.trans t2).fresh hp, o2.fresh hp, upd_same, is_strs _⟩ (sepL.step st.sub o2 fun a o q _ => same_new hp a o q) k2
end
end PW
namespace PW
open PySem L2
variable [KC]
variable {m₀ : Mo} {N₀ : List Str} {sc₀ : Scope} {lv₀ : Nat} {xp₀ : Addr → List Sl → List Mem → Prop} {fF₀ cm₀ : Bool}
/-- a display of texts, told by its texts alone -/
inductive StrC : List Expr → List Str → Prop
  | nil : StrC [] []
  | cons {z j pos es zs} : StrC es zs → StrC (.Constant (.str z) j pos :: es) (z :: zs)
section
variable {c : Ctx m₀ N₀ sc₀ lv₀ xp₀ fF₀ cm₀} {es : List Expr} {zs : List Str} {L b : Expr} {ρ : List Sl} {rs : List Mem} {K : Sl → List Mem → Prop} {pos pos' : Pos}
theorem da_weak {KA KA' : List Sl → List Mem → Prop} (h : DA c es ρ rs KA) (hk : ∀ s r, KA s r → KA' s r) : DA c es ρ rs KA' := fun σ H G Q a1 a2 a3 a4 => h σ H G Q a1 a2 a3 fun v H' G' sl rs' t r o k => a4 v H' G' sl rs' t r o (hk _ _ k)
theorem da_strs (h : StrC es zs) : DA c es ρ rs fun ss r => ss = (zs.map PyData.str).map .d ∧ r = rs := by
  induction h with
  | nil => exact da_nil ⟨rfl, rfl⟩
  | cons _ ih => exact da_cons (dx_str (da_weak ih fun s r k => ⟨by rw [k.1]; rfl, k.2⟩))
theorem dx_strs (h : StrC es zs) (hl : zs.length ≤ 100000) (k : K (.n (zs.map .str)) rs) : DX c (.List es pos) ρ rs K :=
  dx_lst (da_weak (da_strs h) fun ss r q => ⟨zs.map .str, by rw [q.1]; exact Datas.of _, by rw [q.1]; simpa using hl, by rw [q.2]; exact k⟩)
/-- [texts][i] -/
theorem dx_ixS (hL : L = .List es pos') (h : StrC es zs) (hl : zs.length ≤ 100000) (k : DX c b ρ rs fun s2 r2 => OpD (rIx KC.K) (.n (zs.map .str)) s2 r2 K) (hp : PlainIx b := by exact fun _ _ => rfl) : DX c (.Subscript L b pos) ρ rs K := by
  subst hL
  exact dx_ix cIx (dx_strs h hl k) hp
end
end PW

set_option maxHeartbeats 1000000
/-! Dicts of one's own, with ints or texts as keys. -/
namespace PW
open PySem L2
variable [KC]
variable {m₀ : Mo} {N₀ : List Str} {sc₀ : Scope} {lv₀ : Nat} {xp₀ : Addr → List Sl → List Mem → Prop} {fF₀ cm₀ : Bool}
abbrev DKv := List (Key × Sl)
def valS (kvs : DKv) (k : Key) : Option Sl := (kvs.find? fun kv => decide (kv.1 = k)).map (·.2)
def putS (kvs : DKv) (k : Key) (s : Sl) : DKv := if (kvs.any fun kv => decide (kv.1 = k)) = true then kvs.map (fun kv => if kv.1 = k then (kv.1, s) else kv) else kvs ++ [(k, s)]
def dropS (kvs : DKv) (k : Key) : DKv := kvs.filter fun kv => decide (kv.1 ≠ k)
/-- a key as a slot -/
def keyD : Key → PyData
  | .inl i => .int i
  | .inr z => .str z
def KvAll (G : Fp) (H : Hp) : List (Key × V) → DKv → Prop
  | [], [] => True
  | (k, v) :: vs, (j, s) :: ss => k = j ∧ SlOk G H v s ∧ KvAll G H vs ss
  | _, _ => False
theorem KvAll.stp0 {G G' : Fp} {H H' : Hp} (k : ∀ a o, H a = some o → ¬ G a → H' a = some o) (t : ∀ a, G' a → G a ∨ H a = none) : ∀ {vs : List (Key × V)} {ss : DKv}, KvAll G H vs ss → KvAll G' H' vs ss
  | [], [], _ => trivial
  | (_, _) :: _, (_, _) :: _, ⟨e, h, q⟩ => ⟨e, SlOk.stp0 k t h, KvAll.stp0 k t q⟩
  | [], _ :: _, h => h.elim
  | _ :: _, [], h => h.elim
section
variable {G : Fp} {H : Hp}
theorem KvAll.length : ∀ {vs : List (Key × V)} {ss : DKv}, KvAll G H vs ss → vs.length = ss.length
  | [], [], _ => rfl
  | (_, _) :: _, (_, _) :: _, ⟨_, _, q⟩ => congrArg (· + 1) (KvAll.length q)
  | [], _ :: _, h => h.elim
  | _ :: _, [], h => h.elim
theorem KvAll.keys : ∀ {vs : List (Key × V)} {ss : DKv}, KvAll G H vs ss → vs.map (·.1) = ss.map (·.1)
  | [], [], _ => rfl
  | (_, _) :: _, (_, _) :: _, ⟨e, _, q⟩ => by rw [List.map_cons, List.map_cons, q.keys]; dsimp only; rw [e]
  | [], _ :: _, h => h.elim
  | _ :: _, [], h => h.elim
theorem KvAll.val (k : Key) : ∀ {vs : List (Key × V)} {ss : DKv}, KvAll G H vs ss → (valS ss k = none ∧ valV vs k = none) ∨ ∃ s v, valS ss k = some s ∧ valV vs k = some v ∧ SlOk G H v s
  | [], [], _ => .inl ⟨rfl, rfl⟩
  | (j, v) :: vs, (j2, s) :: ss, ⟨e, h, q⟩ => by
    subst e
    by_cases ek : j = k
    · refine .inr ⟨s, v, ?_, ?_, h⟩
      · unfold valS; rw [List.find?_cons, decide_eq_true ek]; rfl
      · unfold valV; rw [List.find?_cons, decide_eq_true ek]; rfl
    · have e1 : valS ((j, s) :: ss) k = valS ss k := by unfold valS; rw [List.find?_cons, decide_eq_false ek]
      have e2 : valV ((j, v) :: vs) k = valV vs k := by unfold valV; rw [List.find?_cons, decide_eq_false ek]
      rw [e1, e2]
      exact q.val k
  | [], _ :: _, h => h.elim
  | _ :: _, [], h => h.elim
theorem KvAll.any (k : Key) : ∀ {vs : List (Key × V)} {ss : DKv}, KvAll G H vs ss → (vs.any fun kv => decide (kv.1 = k)) = ss.any fun kv => decide (kv.1 = k)
  | [], [], _ => rfl
  | (_, _) :: _, (_, _) :: _, ⟨e, _, q⟩ => by rw [List.any_cons, List.any_cons, q.any k]; dsimp only; rw [e]
  | [], _ :: _, h => h.elim
  | _ :: _, [], h => h.elim
theorem KvAll.map (k : Key) {v : V} {s : Sl} (hv : SlOk G H v s) : ∀ {vs : List (Key × V)} {ss : DKv}, KvAll G H vs ss → KvAll G H (vs.map fun kv => if kv.1 = k then (kv.1, v) else kv) (ss.map fun kv => if kv.1 = k then (kv.1, s) else kv)
  | [], [], _ => trivial
  | (j, _) :: _, (_, _) :: _, ⟨e, h, q⟩ => by
    subst e
    rw [List.map_cons, List.map_cons]
    dsimp only
    by_cases ek : j = k
    · rw [if_pos ek, if_pos ek]; exact ⟨rfl, hv, q.map k hv⟩
    · rw [if_neg ek, if_neg ek]; exact ⟨rfl, h, q.map k hv⟩
  | [], _ :: _, h => h.elim
  | _ :: _, [], h => h.elim
theorem KvAll.snoc (k : Key) {v : V} {s : Sl} (hv : SlOk G H v s) : ∀ {vs : List (Key × V)} {ss : DKv}, KvAll G H vs ss → KvAll G H (vs ++ [(k, v)]) (ss ++ [(k, s)])
  | [], [], _ => ⟨rfl, hv, trivial⟩
  | (_, _) :: _, (_, _) :: _, ⟨e, h, q⟩ => ⟨e, h, q.snoc k hv⟩
  | [], _ :: _, h => h.elim
  | _ :: _, [], h => h.elim
theorem KvAll.put (k : Key) {v : V} {s : Sl} (hv : SlOk G H v s) {vs : List (Key × V)} {ss : DKv} (h : KvAll G H vs ss) : KvAll G H (putK vs k v) (putS ss k s) := by
  unfold putK putS
  rw [h.any k]
  split
  · exact h.map k hv
  · exact h.snoc k hv
theorem KvAll.drop (k : Key) : ∀ {vs : List (Key × V)} {ss : DKv}, KvAll G H vs ss → KvAll G H (dropK vs k) (dropS ss k)
  | [], [], _ => trivial
  | (j, _) :: _, (_, _) :: _, ⟨e, h, q⟩ => by
    subst e
    unfold dropK dropS
    rw [List.filter_cons, List.filter_cons]
    dsimp only
    by_cases ek : j = k
    · rw [if_neg (by simp [ek]), if_neg (by simp [ek])]; exact q.drop k
    · rw [if_pos (by simp [ek]), if_pos (by simp [ek])]; exact ⟨rfl, h, q.drop k⟩
  | [], _ :: _, h => h.elim
  | _ :: _, [], h => h.elim
theorem key_is {k : Key} {v : V} (h : SlOk G H v (.d (keyD k))) : v = kV k := by
  cases k with
  | inl i => exact h.int
  | inr z => exact h.str
end
def dictM (p : Addr) (kvs : DKv) : Mem where
  ok F G H := (∀ a, F a ↔ a = p) ∧ ∃ vs, H p = some (.dK vs) ∧ KvAll G H vs kvs
  dom := fun ⟨e, vs, h, _⟩ a q => by
    have e2 := (e a).mp q
    subst e2
    exact ⟨_, h⟩
  step := fun ⟨e, vs, h, al⟩ k s => ⟨e, vs, k _ _ h (.inl ((e p).mpr rfl)), al.stp0 (fun a o q n => k a o q (.inr n)) s⟩
theorem KvAll.more {G G' : Fp} {H : Hp} (m : More G G' H) : ∀ {vs : List (Key × V)} {ss : DKv}, noSA (ss.map (·.2)) → KvAll G H vs ss → KvAll G' H vs ss
  | [], [], _, _ => trivial
  | (_, _) :: _, (_, _) :: _, hn, ⟨e, h, q⟩ => ⟨e, h.more m (hn _ List.mem_cons_self), KvAll.more m (fun s z => hn s (List.mem_cons_of_mem _ z)) q⟩
  | [], _ :: _, _, h => h.elim
  | _ :: _, [], _, h => h.elim
theorem lnd_dict {p : Addr} {kvs : DKv} (h : noSA (kvs.map (·.2))) : Lnd (dictM p kvs) := fun F G G' H ⟨e, vs, hp, al⟩ m => ⟨e, vs, hp, al.more m h⟩
theorem dict_at {G : Fp} {H : Hp} {rs : List Mem} {p : Addr} {kvs : DKv} {f : List Mem → List Mem} (pk : Pick rs (dictM p kvs) f) (hs : sepL rs G G H) :
    ∃ vs, H p = some (.dK vs) ∧ KvAll G H vs kvs ∧ G p ∧ ∀ ws kv2, KvAll G H ws kv2 → Stp G G H (upd H p (.dK ws)) ∧ sepL (f [dictM p kv2]) G G (upd H p (.dK ws)) := by
  obtain ⟨F1, F2, ⟨eF, vs, hp, al⟩, _, dj, eG⟩ := pk.split.mp hs
  have gp : G p := (eG p).mpr (.inl ((eF p).mpr rfl))
  refine ⟨vs, hp, al, gp, fun ws kv2 aw => ?_⟩
  refine sepL.change (B := dictM p kv2) pk hs fun F1 hA sub => ⟨fun a o q n => ?_, fun a o q => ?_, ?_⟩
  · obtain ⟨e1, _⟩ := hA
    rw [upd_ne fun z => n ((e1 a).mpr z)]; exact q
  · by_cases ea : a = p
    · subst ea; exact ⟨_, upd_same⟩
    · rw [upd_ne ea]; exact ⟨o, q⟩
  · obtain ⟨e1, _⟩ := hA
    refine ⟨e1, ws, upd_same, aw.stp0 (fun a o q n => ?_) fun a g => .inl g⟩
    rw [upd_ne (fun z => n (by rw [z]; exact gp))]; exact q
theorem own_dict {G : Fp} {H : Hp} {rs : List Mem} {p : Addr} {vs : List (Key × V)} {kvs : DKv} (hs : sepL rs G G H) (hp : H p = none) (al : KvAll G H vs kvs) :
    Stp G (fun a => a = p ∨ G a) H (upd H p (.dK vs)) ∧ sepL (dictM p kvs :: rs) (fun a => a = p ∨ G a) (fun a => a = p ∨ G a) (upd H p (.dK vs)) :=
  sepL.join hs (same_new hp) hp ⟨fun a => Iff.rfl, vs, upd_same, al.stp0 (fun a o q _ => same_new hp a o q) fun a g => g.elim (fun e => .inr (e ▸ hp)) .inl⟩
section
variable {c : Ctx m₀ N₀ sc₀ lv₀ xp₀ fF₀ cm₀} {e a b o i it : Expr} {es : List Expr} {ρ ρ' : List Sl} {r1 rs : List Mem} {K : Sl → List Mem → Prop} {P : Post} {x y f : Str} {pos pos' p2 p3 apos cpos : Pos} {s1 s2 : Sl} {sts : List Stmt}
/-- {} -/
theorem dx_dnew (k : ∀ p, K (.r (.ref p)) (dictM p [] :: rs)) : DX c (.Dict [] [] pos) ρ rs K := by
  intro σ H G Q he hs hx hq
  refine tE_of pe_dnewK fun p hp => ?_
  obtain ⟨t, o⟩ := own_dict (vs := []) (kvs := []) hs hp trivial
  exact hq _ _ _ (.r (.ref p)) _ t rfl o (k p)
/-- d[k], there -/
theorem dx_dget (h : DX c o ρ rs fun s1 r1 => DX c i ρ r1 fun s2 r2 => ∃ p kvs f k s, s1 = .r (.ref p) ∧ s2 = .d (keyD k) ∧ Pick r2 (dictM p kvs) f ∧ valS kvs k = some s ∧ (∀ ds, s ≠ .n ds) ∧ K s r2)
    (hp : NoSl i := by exact fun _ _ => rfl) : DX c (.Subscript o i pos) ρ rs K := by
  intro σ H G Q he hs hx hq
  refine tE_of (pe_dget (by have := c.un; omega) pe_t pe_t hp) ?_
  refine h σ H G _ he hs hx fun v1 H1 G1 t1 r1 st1 h1 o1 k1 => ?_
  refine k1 σ H1 G1 _ (he.stp st1) o1 (hx.stp st1) fun v2 H2 G2 t2 r2 st2 h2 o2 k2 => ?_
  obtain ⟨p, kvs, f, k, s, rfl, rfl, pk, hv, hn, k2⟩ := k2
  have e1 : v1 = .ref p := h1
  obtain ⟨vs, hp, al, _, _⟩ := dict_at pk o2
  rcases al.val k with ⟨z, _⟩ | ⟨s', v, z1, z2, z3⟩
  · rw [z] at hv; cases hv
  · rw [z1] at hv
    cases hv
    refine ⟨p, v, e1, ?_, hq v H2 G2 s r2 (st1.trans st2) (Rs.of_ok z3 hn) o2 k2⟩
    rw [key_is h2.ok, ← z2]
    exact DGet.k hp
/-- d.get(k): there or None -/
theorem dx_dget1 (h : DX c o ρ rs fun s1 r1 => ∃ p kvs f, s1 = .r (.ref p) ∧ Pick r1 (dictM p kvs) f ∧ DX c i ρ r1 fun s2 r2 => ∃ kv2 f2 k, s2 = .d (keyD k) ∧ Pick r2 (dictM p kv2) f2 ∧ (∀ s, valS kv2 k = some s → ∀ ds, s ≠ .n ds) ∧ K ((valS kv2 k).getD (.d .none)) r2)
    (m : M1 c.X o "get" apos i cpos := by exact ⟨rfl, rfl, rfl, rfl⟩) : DX c (.Call (.Attribute o "get" apos) [i] [] cpos) ρ rs K := by
  intro σ H G Q he hs hx hq
  refine tE_of (pe_dget1 (by have := c.un; omega) pe_t pe_t m) ?_
  refine h σ H G _ he hs hx fun v1 H1 G1 t1 r1 st1 h1 o1 k1 => ?_
  obtain ⟨p, kvs, f, rfl, pk, k1⟩ := k1
  have e1 : v1 = .ref p := h1
  obtain ⟨vs, hp, al, _, _⟩ := dict_at pk o1
  refine ⟨p, e1, .inl ⟨vs, .inl hp⟩, ?_⟩
  refine k1 σ H1 G1 _ (he.stp st1) o1 (hx.stp st1) fun v2 H2 G2 t2 r2 st2 h2 o2 k2 => ?_
  obtain ⟨kv2, f2, k, rfl, pk2, hn, k2⟩ := k2
  obtain ⟨vs2, hp2, al2, _, _⟩ := dict_at pk2 o2
  refine ⟨valV vs2 k, by rw [key_is h2.ok]; exact DGet.k hp2, ?_⟩
  rcases al2.val k with ⟨z1, z2⟩ | ⟨s, v, z1, z2, z3⟩
  · rw [z1] at k2
    rw [z2]
    exact hq .non H2 G2 (.d .none) r2 (st1.trans st2) Is.non o2 k2
  · rw [z1] at k2
    rw [z2]
    exact hq v H2 G2 s r2 (st1.trans st2) (Rs.of_ok z3 (hn s z1)) o2 k2
/-- d[k] = e -/
theorem ds_dput (h : DX c e ρ rs fun s r => DX c o ρ r fun s1 r1 => DX c i ρ r1 fun s2 r2 => ∃ p kvs f k, s1 = .r (.ref p) ∧ s2 = .d (keyD k) ∧ Pick r2 (dictM p kvs) f ∧ kvs.length ≤ 100000 ∧ P.nx ρ (f [dictM p (putS kvs k s.plain)])) (hw : swapsWith e (some (.Subscript o i pos')) pos.line c.X.env = pure false := by rfl)
    (ha : ∀ v, assign (.Subscript o i pos') c.X.env v = (do let ov ← holding [v] (eval o c.X.env); let iv ← holding [v, ov] (eval i c.X.env); standAt pos'; holding [v, ov, iv] (setItem ov iv v); release [v, ov, iv] []) := by intro _; rfl) :
    DS c (.Assign [.Subscript o i pos'] e pos) ρ rs P := by
  intro σ H G D he hs hx hd
  refine tS_of (ps_asg pe_t (pg_sub pe_t pe_t (set_dict (by have := c.un; omega)) ha) hw rfl) ?_
  refine h σ H G _ he hs hx fun v H1 G1 s r1 t1 h1 o1 k1 => ?_
  refine k1 σ H1 G1 _ (he.stp t1) o1 (hx.stp t1) fun v2 H2 G2 s1 r2 t2 h2 o2 k2 => ?_
  refine k2 σ H2 G2 _ ((he.stp t1).stp t2) o2 ((hx.stp t1).stp t2) fun v3 H3 G3 s2 r3 t3 h3 o3 k3 => ?_
  obtain ⟨p, kvs, f, k, rfl, rfl, pk, hl, k3⟩ := k3
  have e2 : v2 = .ref p := h2
  obtain ⟨vs, hp, al, _, ch⟩ := dict_at pk o3
  obtain ⟨t4, o4⟩ := ch (putK vs k v) (putS kvs k s.plain) (al.put k ((h1.ok.plain.stp t2).stp t3))
  refine ⟨p, _, e2, ?_, hd.nx σ _ G3 ρ _ (((t1.trans t2).trans t3).trans t4) ((((he.stp t1).stp t2).stp t3).stp t4) o4 k3⟩
  rw [key_is h3.ok]
  exact DPut.k hp (by rw [al.length]; exact Nat.lt_of_le_of_lt hl (by decide))
/-- d.pop(k), there -/
theorem dx_dpop1 (h : DX c o ρ rs fun s1 r1 => ∃ p kvs f, s1 = .r (.ref p) ∧ Pick r1 (dictM p kvs) f ∧ DX c i ρ r1 fun s2 r2 => ∃ kv2 f2 k s, s2 = .d (keyD k) ∧ Pick r2 (dictM p kv2) f2 ∧ valS kv2 k = some s ∧ (∀ ds, s ≠ .n ds) ∧ K s (f2 [dictM p (dropS kv2 k)]))
    (m : M1 c.X o "pop" apos i cpos := by exact ⟨rfl, rfl, rfl, rfl⟩) : DX c (.Call (.Attribute o "pop" apos) [i] [] cpos) ρ rs K := by
  intro σ H G Q he hs hx hq
  refine tE_of (pe_dpop1 pe_t pe_t m) ?_
  refine h σ H G _ he hs hx fun v1 H1 G1 t1 r1 st1 h1 o1 k1 => ?_
  obtain ⟨p, kvs, f, rfl, pk, k1⟩ := k1
  have e1 : v1 = .ref p := h1
  obtain ⟨vs, hp, al, _, _⟩ := dict_at pk o1
  refine ⟨p, e1, .inl ⟨vs, .inl hp⟩, ?_⟩
  refine k1 σ H1 G1 _ (he.stp st1) o1 (hx.stp st1) fun v2 H2 G2 t2 r2 st2 h2 o2 k2 => ?_
  obtain ⟨kv2, f2, k, s, rfl, pk2, hv, hn, k2⟩ := k2
  obtain ⟨vs2, hp2, al2, _, ch⟩ := dict_at pk2 o2
  rcases al2.val k with ⟨z, _⟩ | ⟨s', v, z1, z2, z3⟩
  · rw [z] at hv; cases hv
  · rw [z1] at hv
    cases hv
    obtain ⟨t3, o3⟩ := ch (dropK vs2 k) (dropS kv2 k) (al2.drop k)
    exact ⟨vs2, k, v, hp2, key_is h2.ok, z2, hq v _ G2 s _ ((st1.trans st2).trans t3) (Rs.of_ok (z3.stp t3) hn) o3 k2⟩
/-- d.pop(k, x) -/
theorem dx_dpop2 (h : DX c o ρ rs fun s1 r1 => ∃ p kvs f, s1 = .r (.ref p) ∧ Pick r1 (dictM p kvs) f ∧ DX c i ρ r1 fun s2 r2 => DX c b ρ r2 fun s3 r3 => ∃ kv2 f2 k, s2.plain = .d (keyD k) ∧ Pick r3 (dictM p kv2) f2 ∧ (∀ s, valS kv2 k = some s → (∀ ds, s ≠ .n ds) ∧ K s (f2 [dictM p (dropS kv2 k)])) ∧ (valS kv2 k = none → K s3 r3))
    (m : M2 c.X o "pop" apos i b cpos := by exact ⟨rfl, rfl, rfl, rfl⟩) : DX c (.Call (.Attribute o "pop" apos) [i, b] [] cpos) ρ rs K := by
  intro σ H G Q he hs hx hq
  refine tE_of (pe_dpop2 pe_t pe_t pe_t m) ?_
  refine h σ H G _ he hs hx fun v1 H1 G1 t1 r1 st1 h1 o1 k1 => ?_
  obtain ⟨p, kvs, f, rfl, pk, k1⟩ := k1
  have e1 : v1 = .ref p := h1
  obtain ⟨vs, hp, al, _, _⟩ := dict_at pk o1
  refine ⟨p, e1, .inl ⟨vs, .inl hp⟩, ?_⟩
  refine k1 σ H1 G1 _ (he.stp st1) o1 (hx.stp st1) fun v2 H2 G2 t2 r2 st2 h2 o2 k2 => ?_
  refine k2 σ H2 G2 _ ((he.stp st1).stp st2) o2 ((hx.stp st1).stp st2) fun v3 H3 G3 t3 r3 st3 h3 o3 k3 => ?_
  obtain ⟨kv2, f2, k, ek, pk2, hs1, hs2⟩ := k3
  have st := (st1.trans st2).trans st3
  have e2 : v2 = kV k := key_is (by rw [← ek]; exact h2.ok.plain)
  obtain ⟨vs2, hp2, al2, _, ch⟩ := dict_at pk2 o3
  obtain ⟨t4, o4⟩ := ch (dropK vs2 k) (dropS kv2 k) (al2.drop k)
  refine ⟨vs2, k, hp2, e2, fun v hv => ?_, fun hv => ?_⟩
  · rcases al2.val k with ⟨_, z⟩ | ⟨s, v', z1, z2, z3⟩
    · rw [z] at hv; cases hv
    · rw [z2] at hv
      cases hv
      obtain ⟨hn, kk⟩ := hs1 s z1
      exact hq v _ G3 s _ (st.trans t4) (Rs.of_ok (z3.stp t4) hn) o4 kk
  · rcases al2.val k with ⟨z, _⟩ | ⟨s, v', z1, z2, z3⟩
    · exact hq v3 H3 G3 t3 r3 st (h3.back (st1.trans st2)) o3 (hs2 z)
    · rw [z2] at hv; cases hv
/-- k in d -/
theorem dx_din (h : DX c i ρ rs fun s2 r1 => DX c o ρ r1 fun s1 r2 => ∃ p kvs f k, s1 = .r (.ref p) ∧ s2.plain = .d (keyD k) ∧ Pick r2 (dictM p kvs) f ∧ K (.d (.bool (valS kvs k).isSome)) r2) (hm : behindInMarks .In o = false := by rfl) : DX c (.Compare i [.In] [o] pos) ρ rs K := by
  intro σ H G Q he hs hx hq
  refine tE_of (pe_cmp (pc_din (by have := c.un; omega) pe_t pe_t) hm) ?_
  refine h σ H G _ he hs hx fun v1 H1 G1 t1 r1 st1 h1 o1 k1 => ?_
  refine k1 σ H1 G1 _ (he.stp st1) o1 (hx.stp st1) fun v2 H2 G2 t2 r2 st2 h2 o2 k2 => ?_
  obtain ⟨p, kvs, f, k, rfl, ek, pk, k2⟩ := k2
  have e1 : v2 = .ref p := h2
  have e2 : v1 = kV k := key_is (by rw [← ek]; exact h1.ok.plain.stp st2)
  obtain ⟨vs, hp, al, _, _⟩ := dict_at pk o2
  refine ⟨p, valV vs k, e1, by rw [e2]; exact DGet.k hp, ?_⟩
  have ei : (valV vs k).isSome = (valS kvs k).isSome := by
    rcases al.val k with ⟨z1, z2⟩ | ⟨s, v, z1, z2, _⟩ <;> rw [z1, z2] <;> rfl
  rw [ei]
  exact hq _ H2 G2 (.d (.bool _)) r2 (st1.trans st2) (Is.bl _) o2 k2
/-- sorted(d), the keys ints -/
theorem dx_sortedD (h : DX c a ρ rs fun s r => ∃ p kvs f ks, s = .r (.ref p) ∧ Pick r (dictM p kvs) f ∧ kvs.map (·.1) = ks.map Sum.inl ∧ ks.length < 64 ∧ ∀ ys : List Int, ys.Perm ks → ys.Pairwise (· ≤ ·) → K (.n (ys.map .int)) r)
    (hg : KdIn sc₀.names ("sorted" : Str) .globalImplicit := by first | ((with_reducible (repeat (first | exact KdIn.zero | apply KdIn.succ))); (first | (all_goals fail) | fail)) | exact kd_of rfl) (he : starEach [a] c.X.env = (false, eval a c.X.env) :: starEach [] c.X.env := by rfl) (hcm : cm₀ = true := by rfl) : DX c (.Call (.Name "sorted" p2) [a] [] pos) ρ rs K := by
  refine dx_callB (call_sortedDI (c.calm hcm)) c.bl.sorted b_sorted (da_cons (dx_weak h fun s r k => da_nil ?_) he) hg (he := he) (hpl := rfl)
  obtain ⟨p, kvs, f, ks, rfl, pk, ek, hl, k⟩ := k
  intro G H vs Q hv hs hq
  match vs, hv with
  | [v], hv =>
    have ev : v = .ref p := hv.1
    subst ev
    obtain ⟨ws, hp, al, _, _⟩ := dict_at pk hs
    refine ⟨p, ws, ks, rfl, .inl hp, by rw [al.keys, ek], hl, fun ys q hperm hpw hz => ?_⟩
    have st : Stp G G H (upd H q (.lst (ys.map V.int))) := stp_new hz
    exact hq _ _ G (.n (ys.map .int)) _ st ⟨q, _, rfl, hz, hs.fresh hz, upd_same, is_ints ys⟩ (sepL.step st.sub hs fun a o q _ => same_new hz a o q) (k ys hperm hpw)
/-- C(): an object made, without arguments -/
theorem dx_make0 {k : Nat} {C : Addr} {Q0 : Cn} (M : MkIs m₀ x C k Q0) (h : ∀ p, Q0 [.r (.ref p)] [insM C p []] (fun s r2 => s = .d .none ∧ K (.r (.ref p)) (r2 ++ rs)) (fun _ _ => False))
    (hk : k + 1 ≤ lv₀ := by decide) (hcm : cm₀ = true := by rfl) (hg : KdIn sc₀.names x .globalImplicit := by first | ((with_reducible (repeat (first | exact KdIn.zero | apply KdIn.succ))); (first | (all_goals fail) | fail)) | exact kd_of rfl) : DX c (.Call (.Name x p2) [] [] pos) ρ rs K := by
  intro σ H G Q hE hs hx hq
  obtain ⟨f, fd, ps, F, mk, hmg, hb⟩ := M.ex
  refine tE_of (pe_make0 (by rw [c.hm.K]; exact mk) (fn_at c.hm F) ((c.room hcm).mono hk) (c_gl hg) (by rw [c.hm.mg]; exact hmg) (by rw [c.hm.K]; exact hb) .nil passL (c.nd1 hg)) ?_
  intro p dx hp hd ne
  obtain ⟨G2, t2, o2⟩ := own_ins (C := C) hs hp hd ne
  refine ⟨[.r (.ref p)], sepM rs, [insM C p []], G2, _, _, (show SlAll G2 _ [.ref p] [.r (.ref p)] from ⟨rfl, trivial⟩), sepM_app.mpr o2, h p, fun v H' G' sl rs' t r o ⟨es, k⟩ => ?_, fun D H' G' rs' t o k => k⟩
  subst es
  have hv : Is G' H' v .none := r
  refine ⟨by cases hv; rfl, ?_⟩
  exact hq (.ref p) H' G' (.r (.ref p)) _ (t2.trans t) rfl (sepM_app.mp o) k
end
end PW

set_option maxHeartbeats 1000000
/-! The bits of a script's numbers; a law's end that tells them. -/
namespace PW
open PySem L2
/-- no number of a script lies beyond it -/
@[irreducible] def BM : Int := ((2 ^ 1048576 : Nat) : Int)
theorem bm_def : BM = ((2 ^ 1048576 : Nat) : Int) := by unfold BM; rfl
theorem bm_ge {n : Nat} (h : n ≤ 1048576) : ((2 ^ n : Nat) : Int) ≤ BM := by
  unfold BM
  exact Int.ofNat_le.mpr (Nat.pow_le_pow_right (by decide) h)
theorem bm_big : (1000000000000000000000000000000 : Int) ≤ BM := Int.le_trans (by decide) (bm_ge (n := 300) (by decide))
theorem bm_of {n : Int} (h : Builtin.Int.intBits n ≤ 1048576) : -BM ≤ n ∧ n ≤ BM := by
  have h1 := intBits_le_iff.mp h
  have h2 : (n.natAbs : Int) ≤ BM := by
    unfold BM
    exact Int.ofNat_le.mpr (Nat.le_of_lt h1)
  omega
theorem mul_bm {i j : Int} (hi : -(16 * BM) ≤ i ∧ i ≤ 16 * BM) (hj : -(2 ^ 300) < j ∧ j < 2 ^ 300) : IntMulOk i j := by
  have e := bm_def
  have hb : Builtin.Int.intBits i ≤ 1048581 := by
    refine intBits_le_iff.mpr ?_
    have h2 : (2 ^ 1048581 : Nat) = 2 ^ 1048576 * 32 := by rw [show (1048581 : Nat) = 1048576 + 5 from rfl, Nat.pow_add]
    rw [h2]
    have hp : 0 < 2 ^ 1048576 := Nat.two_pow_pos _
    generalize hP : (2 ^ 1048576 : Nat) = P at e hp ⊢
    rw [e] at hi
    omega
  have hj2 : Builtin.Int.intBits j ≤ 300 := by
    refine intBits_le_iff.mpr ?_
    have h2 : ((2 ^ 300 : Nat) : Int) = 2 ^ 300 := by decide +kernel
    omega
  exact IntMulOk.of_le hb hj2 (by decide)
section
variable [KC]
def lawCB : Cn := fun ss rin res _ => ∃ ns : List Int, ss = [.d (.list (ns.map .int))] ∧ rin = [] ∧ (ns.length ≤ 63 ∧ ∀ n ∈ ns, -BM ≤ n ∧ n ≤ BM) ∧ res (.d (.bool true)) []
theorem law_inB {H : Hp} {a : Addr} {ns : List Int} (hl : ns.length ≤ 63) (hb : ∀ n ∈ ns, Builtin.Int.intBits n ≤ 1048576) (h : SqL KC.K H a (ns.map V.int)) : spC lawCB [.ref a] H (fun v _ => v = .bl true) (fun _ _ _ => False) := by
  refine ⟨[.d (.list (ns.map .int))], sepM [], [], fun _ => False, fun s _ => s = .d (.bool true), fun _ _ => False, ⟨?_, trivial⟩, ?_, ⟨ns, rfl, rfl, ⟨hl, fun n hn => bm_of (hb n hn)⟩, rfl⟩, fun v H' G' sl rs' t r o k => ?_, fun _ _ _ _ _ _ z => z⟩
  · refine Is.lst ?_ (is_ints ns)
    rcases h with h | h
    · exact .inl ⟨h, id⟩
    · exact .inr h
  · exact ⟨fun _ => False, fun _ => False, fun _ z => z, fun _ z => z, fun _ z => z.elim, fun _ => ⟨False.elim, fun z => z.elim id id⟩⟩
  · subst k
    exact rs_bool r
end
theorem law_walkB {l : PySem.W.OpenLaw} {k : Nat} {q : Program} {loose : List Str} {XP : (Str → Option Value) → Heap → Prop} {YP : World → Heap → Prop} {d : DefRec} {K : Params → PySem.W.Frag} {x : Str}
    (hn : l.most = some 63) (hdf : d.params.defaults = []) (hr : Room k callerA) (hY : ∀ (w : World) (h : Heap), YP w h → (K w.params).In h)
    (F : ∀ (w : World) (mg : Str → Option Value) (fa : Addr) (h : Heap), (K w.params).In h → h.Ns mainGlobals mg → mg d.name = some (.ref fa) →
      ∃ fd : FuncData, (∀ (s : Shared) (u : Value), BindsTo s fd ⟨[u], []⟩ [(x, u)]) ∧
        ∀ base : Heap, FnOk l.prog w (K w.params) mg base (L2.CX l.prog w) k fa fd [x] (@spC ⟨K w.params⟩ lawCB)) :
    PySem.W.WalkO q loose XP YP l.row.toRowW d [] (fun f vs => PySem.call f vs) := by
  refine L2.walk_ofB (K := K) (n := 63) (k := k) (x := x) (CX := fun w => L2.CX l.prog w) (sp := fun w => @spC ⟨K w.params⟩ lawCB) hn (by decide) hdf hr hY ?_ ?_ (fun w H s e s' => cx_no)
  · intro w mg fa h KX G hmg
    obtain ⟨fd, h1, h2⟩ := F w mg fa h KX G hmg
    exact ⟨fd, h1, fun base _ _ => h2 base⟩
  · intro w H a ns hl hb _ hS
    exact @law_inB ⟨K w.params⟩ H a ns hl hb hS
/-- data that _law_alike goes through, so deep -/
inductive AlikeOk : Nat → PyData → Prop
  | non (n) : AlikeOk n .none
  | bl (n b) : AlikeOk n (.bool b)
  | int (n i) : AlikeOk n (.int i)
  | str (n) (s : Str) : AlikeOk n (.str s)
  | tup {n ds} : ds.length ≤ 40000 → (∀ d ∈ ds, AlikeOk n d) → AlikeOk (n + 1) (.tuple ds)
  | lst {n ds} : ds.length ≤ 40000 → (∀ d ∈ ds, AlikeOk n d) → AlikeOk (n + 1) (.list ds)
theorem AlikeOk.mono {n : Nat} {d : PyData} (h : AlikeOk n d) : AlikeOk (n + 1) d := by
  induction h with
  | non => exact .non _
  | bl => exact .bl _ _
  | int => exact .int _ _
  | str => exact .str _ _
  | tup h _ ih => exact .tup h ih
  | lst h _ ih => exact .lst h ih
section
variable [KC] {m₀ : Mo} {N₀ : List Str} {sc₀ : Scope} {lv₀ : Nat} {xp₀ : Addr → List Sl → List Mem → Prop} {fF₀ cm₀ : Bool} {c : Ctx m₀ N₀ sc₀ lv₀ xp₀ fF₀ cm₀} {a o : Expr} {ρ : List Sl} {rs : List Mem} {K : Sl → List Mem → Prop} {pos apos cpos : Pos}
/-- xs.index(y), xs plain -/
theorem dx_lindex (h : DX c o ρ rs fun s r => ∃ ds, s.plain = .d (.list ds) ∧ DA c [a] ρ r fun ts r2 => ∃ t d j z, ts = [t] ∧ t.plain = .d d ∧ SeqAt.shaped (.list ds) = true ∧ SeqAt.shaped d = true ∧ ds[j]? = some z ∧ PyData.eqv z d = true ∧ (∀ (m : Nat) (z' : PyData), m < j → ds[m]? = some z' → PyData.eqv z' d = false) ∧ K (.d (.int (j : Nat))) r2)
    (hm : MeOk c.X o "index" a [] apos cpos := by exact ⟨rfl, rfl, rfl, rfl⟩) : DX c (.Call (.Attribute o "index" apos) [a] [] cpos) ρ rs K := by
  intro σ H G Q he hs hx hq
  refine tE_of (pe_bm PySem.F.plainAttrs_list PySem.F.slot_list_index PySem.F.type_list_index (mt_indexD (by have := c.un; omega)) pe_t pa_t (hs := hm.hs) (hbase := hm.hb) (hline := hm.hl) (hfew := hm.hf)) ?_
  refine h σ H G _ he hs hx fun v H1 G1 s1 r1 t1 h1 o1 k1 => ?_
  obtain ⟨ds, e1, k1⟩ := k1
  have i1 : Is G1 H1 v (.list ds) := plain_d e1 h1.ok
  obtain ⟨p, vs, rfl, rd, al⟩ := (show SlOk G1 H1 v (.d (.list ds)) from i1).list rfl
  refine ⟨.inl ⟨rfl, vs, c.ck ▸ rd.sq⟩, ?_⟩
  refine k1 σ H1 G1 _ (he.stp t1) o1 (hx.stp t1) fun us H2 G2 ts r2 t2 h2 o2 k2 => ?_
  obtain ⟨t, d, j, z, rfl, e2, sl, sd, hz, hzj, hno, k2⟩ := k2
  match us, h2 with
  | [y], h2 =>
    refine ⟨p, y, d, ds, j, z, rfl, rfl, c.ck ▸ (i1.stp t2).dp, c.ck ▸ (plain_d e2 h2.1).dp, sl, sd, hz, hzj, hno, ?_⟩
    exact hq _ H2 G2 (.d (.int _)) r2 (t1.trans t2) (Is.int _) o2 k2
end
end PW

set_option maxHeartbeats 1000000
/-! Collections of things; dicts copied, listed, counted, asked for truth. -/
namespace PW
open PySem L2
variable [KC]
variable {m₀ : Mo} {N₀ : List Str} {sc₀ : Scope} {lv₀ : Nat} {xp₀ : Addr → List Sl → List Mem → Prop} {fF₀ cm₀ : Bool}
theorem pick_mid (A : Mem) (ys : List Mem) : ∀ xs : List Mem, ∃ f, Pick (xs ++ A :: ys) A f ∧ ∀ zs, f zs = xs ++ (zs ++ ys)
  | [] => ⟨_, .zero, fun _ => rfl⟩
  | B :: xs => by
    obtain ⟨f, p, e⟩ := pick_mid A ys xs
    exact ⟨_, .succ p, fun zs => by show B :: f zs = _; rw [e]; rfl⟩
theorem sep_mid {H : Hp} {G F : Fp} {A : Mem} {xs ys : List Mem} : sepL (xs ++ A :: ys) F G H ↔ sepL (A :: (xs ++ ys)) F G H := by
  obtain ⟨f, p, e⟩ := pick_mid A ys xs
  have := p.split (H := H) (G := G) (F := F)
  rw [e []] at this
  exact this
theorem sep_fold {H : Hp} {G F : Fp} {xs ys : List Mem} : sepL (sepM xs :: ys) F G H ↔ sepL (xs ++ ys) F G H := by
  constructor
  · rintro ⟨F1, F2, h1, h2, d, e⟩
    exact sepL.app.mpr ⟨F1, F2, h1, h2, d, e⟩
  · intro h
    obtain ⟨F1, F2, h1, h2, d, e⟩ := sepL.app.mp h
    exact ⟨F1, F2, h1, h2, d, e⟩
/-- as many things as a list tells -/
def famM {α : Type} (f : α → Mem) (l : List α) : Mem := sepM (l.map f)
theorem ent_iff {a b : List Mem} (h : ∀ {G F : Fp} {H : Hp}, sepL a F G H → sepL b F G H) : Ent a b := fun G H q => ⟨G, fun _ z => z, h q⟩
theorem take_mid {α : Type} {l : List α} {i : Nat} {x : α} (h : l[i]? = some x) : l = l.take i ++ x :: l.drop (i + 1) ∧ i < l.length := by
  obtain ⟨hi, rfl⟩ := List.getElem?_eq_some_iff.mp h
  exact ⟨by simp, hi⟩
section
variable {α : Type} {f : α → Mem} {l : List α} {i : Nat} {x y : α} {rs : List Mem}
theorem fam_out (h : l[i]? = some x) : Ent (famM f l :: rs) (f x :: famM f (l.take i ++ l.drop (i + 1)) :: rs) := ent_iff fun {G F H} q => by
  obtain ⟨e, hi⟩ := take_mid h
  have q := sep_fold.mp q
  rw [e, List.map_append, List.map_cons, List.append_assoc, List.cons_append] at q
  have q := sep_mid.mp q
  obtain ⟨F1, F2, h1, h2, d, e2⟩ := q
  refine ⟨F1, F2, h1, sep_fold.mpr ?_, d, e2⟩
  rw [List.map_append, List.append_assoc]; exact h2
theorem fam_in (h : i < l.length) : Ent (f y :: famM f (l.take i ++ l.drop (i + 1)) :: rs) (famM f (l.set i y) :: rs) := ent_iff fun {G F H} q => by
  refine sep_fold.mpr ?_
  have e : l.set i y = l.take i ++ y :: l.drop (i + 1) := by rw [List.set_eq_take_append_cons_drop, if_pos h]
  rw [e, List.map_append, List.map_cons, List.append_assoc, List.cons_append]
  refine sep_mid.mpr ?_
  obtain ⟨F1, F2, h1, h2, d, e2⟩ := q
  refine ⟨F1, F2, h1, ?_, d, e2⟩
  have h2 := sep_fold.mp h2
  rw [List.map_append, List.append_assoc] at h2; exact h2
theorem fam_add : Ent (f y :: famM f l :: rs) (famM f (l ++ [y]) :: rs) := ent_iff fun {G F H} q => by
  refine sep_fold.mpr ?_
  rw [List.map_append, List.append_assoc]
  refine sep_mid.mpr ?_
  obtain ⟨F1, F2, h1, h2, d, e2⟩ := q
  exact ⟨F1, F2, h1, sep_fold.mp h2, d, e2⟩
theorem fam_cons : Ent (f y :: famM f l :: rs) (famM f (y :: l) :: rs) := ent_iff fun {G F H} q => by
  refine sep_fold.mpr ?_
  obtain ⟨F1, F2, h1, h2, d, e2⟩ := q
  exact ⟨F1, F2, h1, sep_fold.mp h2, d, e2⟩
theorem fam_uncons : Ent (famM f (y :: l) :: rs) (f y :: famM f l :: rs) := ent_iff fun {G F H} q => by
  obtain ⟨F1, F2, h1, h2, d, e2⟩ := sep_fold.mp q
  exact ⟨F1, F2, h1, sep_fold.mpr h2, d, e2⟩
theorem fam_nil : Ent rs (famM f [] :: rs) := ent_iff fun {G F H} q => ⟨fun _ => False, F, fun _ z => z, q, fun _ z => z.elim, fun _ => ⟨.inr, fun z => z.elim False.elim id⟩⟩
theorem fam_back (h : l[i]? = some x) : Ent (f x :: famM f (l.take i ++ l.drop (i + 1)) :: rs) (famM f l :: rs) := by
  obtain ⟨hi, e⟩ := List.getElem?_eq_some_iff.mp h
  have := fam_in (f := f) (y := x) (rs := rs) hi
  have e2 : l.set i x = l := by rw [← e]; exact List.set_getElem_self hi
  rwa [e2] at this
/-- under what stands ahead -/
theorem ent_under {xs a b : List Mem} (h : Ent a b) (hh : ∀ {G F : Fp} {H : Hp}, sepL a F G H → sepL b F G H) : Ent (xs ++ a) (xs ++ b) := ent_iff fun {G F H} q => by
  obtain ⟨F1, F2, h1, h2, d, e⟩ := sepL.app.mp q
  exact sepL.app.mpr ⟨F1, F2, h1, hh h2, d, e⟩
end
/-- the same, wherever the rest is -/
def SE (a b : List Mem) : Prop := ∀ (G F : Fp) (H : Hp), sepL a F G H → sepL b F G H
theorem SE.ent {a b : List Mem} (h : SE a b) : Ent a b := ent_iff fun q => h _ _ _ q
theorem SE.refl {a : List Mem} : SE a a := fun _ _ _ h => h
theorem SE.trans {a b d : List Mem} (h : SE a b) (k : SE b d) : SE a d := fun _ _ _ q => k _ _ _ (h _ _ _ q)
theorem SE.cons {A : Mem} {a b : List Mem} (h : SE a b) : SE (A :: a) (A :: b) := fun _ _ _ ⟨F1, F2, h1, h2, d, e⟩ => ⟨F1, F2, h1, h _ _ _ h2, d, e⟩
theorem SE.swap {A B : Mem} {a : List Mem} : SE (A :: B :: a) (B :: A :: a) := fun G F H h => (Pick.split (.succ .zero)).mp h
section
variable {α : Type} {f g : α → Mem} {l : List α} {i : Nat} {x y : α} {rs : List Mem}
theorem se_out (h : l[i]? = some x) : SE (famM f l :: rs) (f x :: famM f (l.take i ++ l.drop (i + 1)) :: rs) := fun G F H q => by
  obtain ⟨e, hi⟩ := take_mid h
  have q := sep_fold.mp q
  rw [e, List.map_append, List.map_cons, List.append_assoc, List.cons_append] at q
  have q := sep_mid.mp q
  obtain ⟨F1, F2, h1, h2, d, e2⟩ := q
  refine ⟨F1, F2, h1, sep_fold.mpr ?_, d, e2⟩
  rw [List.map_append, List.append_assoc]; exact h2
theorem se_in (h : i < l.length) : SE (f y :: famM f (l.take i ++ l.drop (i + 1)) :: rs) (famM f (l.set i y) :: rs) := fun G F H q => by
  refine sep_fold.mpr ?_
  have e : l.set i y = l.take i ++ y :: l.drop (i + 1) := by rw [List.set_eq_take_append_cons_drop, if_pos h]
  rw [e, List.map_append, List.map_cons, List.append_assoc, List.cons_append]
  refine sep_mid.mpr ?_
  obtain ⟨F1, F2, h1, h2, d, e2⟩ := q
  refine ⟨F1, F2, h1, ?_, d, e2⟩
  have h2 := sep_fold.mp h2
  rw [List.map_append, List.append_assoc] at h2; exact h2
theorem se_add : SE (f y :: famM f l :: rs) (famM f (l ++ [y]) :: rs) := fun G F H q => by
  refine sep_fold.mpr ?_
  rw [List.map_append, List.append_assoc]
  refine sep_mid.mpr ?_
  obtain ⟨F1, F2, h1, h2, d, e2⟩ := q
  exact ⟨F1, F2, h1, sep_fold.mp h2, d, e2⟩
theorem se_nil : SE rs (famM f [] :: rs) := fun G F H q => ⟨fun _ => False, F, fun _ z => z, q, fun _ z => z.elim, fun _ => ⟨.inr, fun z => z.elim False.elim id⟩⟩
/-- two families side by side -/
theorem se_out2 (h : l[i]? = some x) : SE (famM f l :: famM g l :: rs) (f x :: g x :: famM f (l.take i ++ l.drop (i + 1)) :: famM g (l.take i ++ l.drop (i + 1)) :: rs) :=
  (se_out h).trans (.cons (SE.trans (.cons (se_out h)) .swap))
theorem se_in2 (h : i < l.length) : SE (f y :: g y :: famM f (l.take i ++ l.drop (i + 1)) :: famM g (l.take i ++ l.drop (i + 1)) :: rs) (famM f (l.set i y) :: famM g (l.set i y) :: rs) :=
  SE.trans (.cons .swap) ((se_in h).trans (.cons (se_in h)))
theorem se_add2 : SE (f y :: g y :: famM f l :: famM g l :: rs) (famM f (l ++ [y]) :: famM g (l ++ [y]) :: rs) :=
  SE.trans (.cons .swap) (se_add.trans (.cons se_add))
theorem set_self {l : List α} (h : l[i]? = some x) : l.set i x = l := by
  obtain ⟨hi, e⟩ := List.getElem?_eq_some_iff.mp h
  rw [← e]; exact List.set_getElem_self hi
theorem se_back2 (h : l[i]? = some x) : SE (f x :: g x :: famM f (l.take i ++ l.drop (i + 1)) :: famM g (l.take i ++ l.drop (i + 1)) :: rs) (famM f l :: famM g l :: rs) := by
  have := se_in2 (f := f) (g := g) (y := x) (rs := rs) (List.getElem?_eq_some_iff.mp h).choose
  rwa [set_self h] at this
theorem se_back (h : l[i]? = some x) : SE (f x :: famM f (l.take i ++ l.drop (i + 1)) :: rs) (famM f l :: rs) := by
  have := se_in (f := f) (y := x) (rs := rs) (List.getElem?_eq_some_iff.mp h).choose
  rwa [set_self h] at this
end
section
variable {c : Ctx m₀ N₀ sc₀ lv₀ xp₀ fF₀ cm₀} {e a b o i it : Expr} {es : List Expr} {ρ ρ' : List Sl} {r1 rs rs2 : List Mem} {K : Sl → List Mem → Prop} {KB : Bool → List Mem → Prop} {P : Post} {x y f : Str} {pos pos' p2 p3 apos cpos : Pos} {s1 s2 : Sl} {sts : List Stmt}
/-- other words for the things, ahead of an expression -/
theorem dx_ent0 (h : Ent rs rs2) (k : DX c e ρ rs2 K) : DX c e ρ rs K := by
  intro σ H G Q he hs hx hq
  obtain ⟨G', l, o⟩ := h G H hs
  have t : Stp G G' H H := Stp.less l
  exact k σ H G' Q (he.stp t) o (hx.stp t) fun v H2 G2 sl r t2 h2 o2 k2 => hq v H2 G2 sl r (t.trans t2) (h2.back t) o2 k2
theorem dt_ent0 (h : Ent rs rs2) (k : DT c e ρ rs2 KB) : DT c e ρ rs KB := by
  intro σ H G Q he hs hx hq
  obtain ⟨G', l, o⟩ := h G H hs
  have t : Stp G G' H H := Stp.less l
  exact k σ H G' Q (he.stp t) o (hx.stp t) fun v H2 G2 r t2 o2 k2 => hq v H2 G2 r (t.trans t2) o2 k2
theorem dt_ent (h : DT c e ρ rs fun b r => ∃ r2, Ent r r2 ∧ KB b r2) : DT c e ρ rs KB := by
  intro σ H G Q he hs hx hq
  refine h σ H G Q he hs hx fun b H2 G2 r t2 o2 ⟨r2, en, k2⟩ => ?_
  obtain ⟨G', l, o⟩ := en G2 H2 o2
  exact hq b H2 G' r2 (t2.trans (Stp.less l)) o k2
/-- the truth of a dict -/
theorem tr_dict {p : Addr} {kvs : DKv} {g : List Mem → List Mem} (pk : Pick rs (dictM p kvs) g) (h : KB (!kvs.isEmpty) rs) : TrD (.r (.ref p)) rs KB := fun G H x hx hs => by
  have ex : x = .ref p := hx
  subst ex
  obtain ⟨vs, hp, al, _, _⟩ := dict_at pk hs
  refine ⟨!kvs.isEmpty, .inr (.inr ⟨vs, hp, ?_⟩), h⟩
  have := al.length
  cases vs with
  | nil => cases kvs with
    | nil => rfl
    | cons _ _ => cases this
  | cons _ _ => cases kvs with
    | nil => cases this
    | cons _ _ => rfl
/-- len(d) -/
theorem dx_dlen (h : DX c a ρ rs fun s r => ∃ p kvs g, s = .r (.ref p) ∧ Pick r (dictM p kvs) g ∧ K (.d (.int kvs.length)) r)
    (hg : KdIn sc₀.names ("len" : Str) .globalImplicit := by first | ((with_reducible (repeat (first | exact KdIn.zero | apply KdIn.succ))); (first | (all_goals fail) | fail)) | exact kd_of rfl) (he : starEach [a] c.X.env = (false, eval a c.X.env) :: starEach [] c.X.env := by rfl) : DX c (.Call (.Name "len" p2) [a] [] pos) ρ rs K := by
  refine dx_callB call_lenD c.bl.len (by decide +kernel) (da_cons (dx_weak h fun s r k => da_nil ?_) he) hg (he := he) (hpl := rfl)
  obtain ⟨p, kvs, g, rfl, pk, k⟩ := k
  intro G H vs Q hv hs hq
  match vs, hv with
  | [v], hv =>
    have ev : v = .ref p := hv.1
    subst ev
    obtain ⟨ws, hp, al, _, _⟩ := dict_at pk hs
    refine ⟨p, ws, rfl, hp, ?_⟩
    rw [al.length]
    exact hq _ _ G (.d (.int kvs.length)) _ (Stp.refl _ _) (Is.int _) hs k
theorem kvall_keys {G : Fp} {H : Hp} : ∀ {vs : List (Key × V)} {ss : DKv}, KvAll G H vs ss → IsAll G H (vs.map fun kv => kV kv.1) (ss.map fun kv => keyD kv.1)
  | [], [], _ => .nil
  | (k, _) :: _, (k2, _) :: _, ⟨e, _, q⟩ => by
    have e : k = k2 := e
    subst e
    refine .cons ?_ (kvall_keys q)
    cases k with
    | inl i => exact .int i
    | inr z => exact .str z
  | [], _ :: _, h => h.elim
  | _ :: _, [], h => h.elim
/-- list(d) -/
theorem dx_dlist (h : DX c a ρ rs fun s r => ∃ p kvs g, s = .r (.ref p) ∧ Pick r (dictM p kvs) g ∧ K (.n (kvs.map fun kv => keyD kv.1)) r)
    (hg : KdIn sc₀.names ("list" : Str) .globalImplicit := by first | ((with_reducible (repeat (first | exact KdIn.zero | apply KdIn.succ))); (first | (all_goals fail) | fail)) | exact kd_of rfl) (he : starEach [a] c.X.env = (false, eval a c.X.env) :: starEach [] c.X.env := by rfl) (hcm : cm₀ = true := by rfl) : DX c (.Call (.Name "list" p2) [a] [] pos) ρ rs K := by
  refine dx_callTy (call_listD (c.calm hcm)) c.bl.list b_list (da_cons (dx_weak h fun s r k => da_nil ?_) he) hg (he := he) (hpl := rfl)
  obtain ⟨p, kvs, g, rfl, pk, k⟩ := k
  intro G H vs Q hv hs hq
  match vs, hv with
  | [v], hv =>
    have ev : v = .ref p := hv.1
    subst ev
    obtain ⟨ws, hp, al, _, _⟩ := dict_at pk hs
    refine ⟨p, ws, rfl, .inl hp, fun q hz => ?_⟩
    have st : Stp G G H (upd H q (.lst (ws.map fun kv => kV kv.1))) := stp_new hz
    exact hq _ _ G (.n _) _ st ⟨q, _, rfl, hz, hs.fresh hz, upd_same, (kvall_keys al).stp st⟩ (sepL.step st.sub hs fun a o q _ => same_new hz a o q) k
/-- dict(d), owned -/
theorem dx_dictO (h : DX c a ρ rs fun s r => ∃ p kvs g, s = .r (.ref p) ∧ Pick r (dictM p kvs) g ∧ ∀ q, K (.r (.ref q)) (dictM q kvs :: r))
    (hg : KdIn sc₀.names ("dict" : Str) .globalImplicit := by first | ((with_reducible (repeat (first | exact KdIn.zero | apply KdIn.succ))); (first | (all_goals fail) | fail)) | exact kd_of rfl) (he : starEach [a] c.X.env = (false, eval a c.X.env) :: starEach [] c.X.env := by rfl) : DX c (.Call (.Name "dict" p2) [a] [] pos) ρ rs K := by
  refine dx_callTy call_dictD c.bl.dict (by decide +kernel) (da_cons (dx_weak h fun s r k => da_nil ?_) he) hg (he := he) (hpl := rfl)
  obtain ⟨p, kvs, g, rfl, pk, k⟩ := k
  intro G H vs Q hv hs hq
  match vs, hv with
  | [v], hv =>
    have ev : v = .ref p := hv.1
    subst ev
    obtain ⟨ws, hp, al, _, _⟩ := dict_at pk hs
    refine ⟨p, ws, rfl, .inl hp, fun q hz => ?_⟩
    obtain ⟨t, o⟩ := own_dict hs hz al
    exact hq _ _ _ (.r (.ref q)) _ t rfl o (k q)
/-- d.get(k, x) -/
theorem dx_dget2 (h : DX c o ρ rs fun s1 r1 => ∃ p kvs f, s1 = .r (.ref p) ∧ Pick r1 (dictM p kvs) f ∧ DX c i ρ r1 fun s2 r2 => DX c b ρ r2 fun s3 r3 => ∃ kv2 f2 k d, s2.plain = .d (keyD k) ∧ s3 = .d d ∧ Pick r3 (dictM p kv2) f2 ∧ (∀ s, valS kv2 k = some s → ∀ ds, s ≠ .n ds) ∧ K ((valS kv2 k).getD (.d d)) r3)
    (m : M2 c.X o "get" apos i b cpos := by exact ⟨rfl, rfl, rfl, rfl⟩) : DX c (.Call (.Attribute o "get" apos) [i, b] [] cpos) ρ rs K := by
  intro σ H G Q he hs hx hq
  refine tE_of (pe_dget2 (by have := c.un; omega) pe_t pe_t pe_t m) ?_
  refine h σ H G _ he hs hx fun v1 H1 G1 t1 r1 st1 h1 o1 k1 => ?_
  obtain ⟨p, kvs, f, rfl, pk, k1⟩ := k1
  have e1 : v1 = .ref p := h1
  obtain ⟨vs, hp, al, _, _⟩ := dict_at pk o1
  refine ⟨p, e1, .inl ⟨vs, .inl hp⟩, ?_⟩
  refine k1 σ H1 G1 _ (he.stp st1) o1 (hx.stp st1) fun v2 H2 G2 t2 r2 st2 h2 o2 k2 => ?_
  refine k2 σ H2 G2 _ ((he.stp st1).stp st2) o2 ((hx.stp st1).stp st2) fun v3 H3 G3 t3 r3 st3 h3 o3 k3 => ?_
  obtain ⟨kv2, f2, k, d, ek, rfl, pk2, hn, k3⟩ := k3
  have st := (st1.trans st2).trans st3
  have e2 : v2 = kV k := key_is (by rw [← ek]; exact h2.ok.plain)
  obtain ⟨vs2, hp2, al2, _, _⟩ := dict_at pk2 o3
  refine ⟨valV vs2 k, by rw [e2]; exact DGet.k hp2, ?_⟩
  rcases al2.val k with ⟨z1, z2⟩ | ⟨s, v, z1, z2, z3⟩
  · rw [z1] at k3
    rw [z2]
    exact hq v3 H3 G3 (.d d) r3 st (h3.back (st1.trans st2)) o3 k3
  · rw [z1] at k3
    rw [z2]
    exact hq v H3 G3 s r3 st (Rs.of_ok z3 (hn s z1)) o3 k3
theorem isSome_eq {vs : List (Key × V)} {kvs : DKv} {G : Fp} {H : Hp} (al : KvAll G H vs kvs) (k : Key) : (valV vs k).isSome = (valS kvs k).isSome := by
  rcases al.val k with ⟨z1, z2⟩ | ⟨s, v, z1, z2, _⟩ <;> rw [z1, z2] <;> rfl
/-- k not in d -/
theorem dx_dnin (h : DX c i ρ rs fun s2 r1 => DX c o ρ r1 fun s1 r2 => ∃ p kvs f k, s1 = .r (.ref p) ∧ s2.plain = .d (keyD k) ∧ Pick r2 (dictM p kvs) f ∧ K (.d (.bool (!(valS kvs k).isSome))) r2) (hm : behindInMarks .NotIn o = false := by rfl) : DX c (.Compare i [.NotIn] [o] pos) ρ rs K := by
  intro σ H G Q he hs hx hq
  refine tE_of (pe_cmp (pc_dnotin (by have := c.un; omega) pe_t pe_t) hm) ?_
  refine h σ H G _ he hs hx fun v1 H1 G1 t1 r1 st1 h1 o1 k1 => ?_
  refine k1 σ H1 G1 _ (he.stp st1) o1 (hx.stp st1) fun v2 H2 G2 t2 r2 st2 h2 o2 k2 => ?_
  obtain ⟨p, kvs, f, k, rfl, ek, pk, k2⟩ := k2
  have e1 : v2 = .ref p := h2
  have e2 : v1 = kV k := key_is (by rw [← ek]; exact h1.ok.plain.stp st2)
  obtain ⟨vs, hp, al, _, _⟩ := dict_at pk o2
  refine ⟨p, valV vs k, e1, by rw [e2]; exact DGet.k hp, ?_⟩
  rw [isSome_eq al k]
  exact hq _ H2 G2 (.d (.bool _)) r2 (st1.trans st2) (Is.bl _) o2 k2
theorem dt_din (h : DX c i ρ rs fun s2 r1 => DX c o ρ r1 fun s1 r2 => ∃ p kvs f k, s1 = .r (.ref p) ∧ s2.plain = .d (keyD k) ∧ Pick r2 (dictM p kvs) f ∧ KB (valS kvs k).isSome r2) (hm : behindInMarks .In o = false := by rfl) : DT c (.Compare i [.In] [o] pos) ρ rs KB := by
  intro σ H G Q he hs hx hq
  refine tT_of (pt_cmp (pc_din (by have := c.un; omega) pe_t pe_t) hm) ?_
  refine h σ H G _ he hs hx fun v1 H1 G1 t1 r1 st1 h1 o1 k1 => ?_
  refine k1 σ H1 G1 _ (he.stp st1) o1 (hx.stp st1) fun v2 H2 G2 t2 r2 st2 h2 o2 k2 => ?_
  obtain ⟨p, kvs, f, k, rfl, ek, pk, k2⟩ := k2
  have e1 : v2 = .ref p := h2
  have e2 : v1 = kV k := key_is (by rw [← ek]; exact h1.ok.plain.stp st2)
  obtain ⟨vs, hp, al, _, _⟩ := dict_at pk o2
  refine ⟨p, valV vs k, e1, by rw [e2]; exact DGet.k hp, _, rfl, ?_⟩
  rw [isSome_eq al k]
  exact hq _ H2 G2 r2 (st1.trans st2) o2 k2
theorem dt_dnin (h : DX c i ρ rs fun s2 r1 => DX c o ρ r1 fun s1 r2 => ∃ p kvs f k, s1 = .r (.ref p) ∧ s2.plain = .d (keyD k) ∧ Pick r2 (dictM p kvs) f ∧ KB (!(valS kvs k).isSome) r2) (hm : behindInMarks .NotIn o = false := by rfl) : DT c (.Compare i [.NotIn] [o] pos) ρ rs KB := by
  intro σ H G Q he hs hx hq
  refine tT_of (pt_cmp (pc_dnotin (by have := c.un; omega) pe_t pe_t) hm) ?_
  refine h σ H G _ he hs hx fun v1 H1 G1 t1 r1 st1 h1 o1 k1 => ?_
  refine k1 σ H1 G1 _ (he.stp st1) o1 (hx.stp st1) fun v2 H2 G2 t2 r2 st2 h2 o2 k2 => ?_
  obtain ⟨p, kvs, f, k, rfl, ek, pk, k2⟩ := k2
  have e1 : v2 = .ref p := h2
  have e2 : v1 = kV k := key_is (by rw [← ek]; exact h1.ok.plain.stp st2)
  obtain ⟨vs, hp, al, _, _⟩ := dict_at pk o2
  refine ⟨p, valV vs k, e1, by rw [e2]; exact DGet.k hp, _, rfl, ?_⟩
  rw [isSome_eq al k]
  exact hq _ H2 G2 r2 (st1.trans st2) o2 k2
theorem ex_dic {p : Addr} {kvs : DKv} {g : List Mem → List Mem} {B : Addr → DKv → (List Mem → List Mem) → Prop} (pk : Pick rs (dictM p kvs) g) (k : B p kvs g) : ∃ p' kvs' g', Sl.r (.ref p) = .r (.ref p') ∧ Pick rs (dictM p' kvs') g' ∧ B p' kvs' g' := ⟨p, kvs, g, rfl, pk, k⟩
theorem ex_din1 {p : Addr} {kvs : DKv} {g : List Mem → List Mem} {n : Int} {B : Addr → DKv → (List Mem → List Mem) → Key → Prop} (pk : Pick rs (dictM p kvs) g) (k : B p kvs g (.inl n)) : ∃ p' kvs' g' k, Sl.r (.ref p) = .r (.ref p') ∧ (Sl.d (.int n)).plain = .d (keyD k) ∧ Pick rs (dictM p' kvs') g' ∧ B p' kvs' g' k := ⟨p, kvs, g, .inl n, rfl, rfl, pk, k⟩
theorem ex_din2 {p : Addr} {kvs : DKv} {g : List Mem → List Mem} {n : Str} {B : Addr → DKv → (List Mem → List Mem) → Key → Prop} (pk : Pick rs (dictM p kvs) g) (k : B p kvs g (.inr n)) : ∃ p' kvs' g' k, Sl.r (.ref p) = .r (.ref p') ∧ (Sl.d (.str n)).plain = .d (keyD k) ∧ Pick rs (dictM p' kvs') g' ∧ B p' kvs' g' k := ⟨p, kvs, g, .inr n, rfl, rfl, pk, k⟩
theorem ex_dlen {p : Addr} {kvs : DKv} {g : List Mem → List Mem} {B : Addr → DKv → (List Mem → List Mem) → Prop} (pk : Pick rs (dictM p kvs) g) (k : B p kvs g) : ∃ p' kvs' g', Sl.r (.ref p) = .r (.ref p') ∧ Pick rs (dictM p' kvs') g' ∧ B p' kvs' g' := ⟨p, kvs, g, rfl, pk, k⟩
theorem ex_dget {p : Addr} {kvs : DKv} {g : List Mem → List Mem} {n : Int} {s : Sl} {B : Addr → DKv → (List Mem → List Mem) → Key → Sl → Prop} (pk : Pick rs (dictM p kvs) g) (hv : valS kvs (.inl n) = some s) (hn : ∀ ds, s ≠ .n ds) (k : B p kvs g (.inl n) s) : ∃ p' kvs' g' k s', Sl.r (.ref p) = .r (.ref p') ∧ Sl.d (.int n) = .d (keyD k) ∧ Pick rs (dictM p' kvs') g' ∧ valS kvs' k = some s' ∧ (∀ ds, s' ≠ .n ds) ∧ B p' kvs' g' k s' := ⟨p, kvs, g, .inl n, s, rfl, rfl, pk, hv, hn, k⟩
theorem ex_dgetS {p : Addr} {kvs : DKv} {g : List Mem → List Mem} {n : Str} {s : Sl} {B : Addr → DKv → (List Mem → List Mem) → Key → Sl → Prop} (pk : Pick rs (dictM p kvs) g) (hv : valS kvs (.inr n) = some s) (hn : ∀ ds, s ≠ .n ds) (k : B p kvs g (.inr n) s) : ∃ p' kvs' g' k s', Sl.r (.ref p) = .r (.ref p') ∧ Sl.d (.str n) = .d (keyD k) ∧ Pick rs (dictM p' kvs') g' ∧ valS kvs' k = some s' ∧ (∀ ds, s' ≠ .n ds) ∧ B p' kvs' g' k s' := ⟨p, kvs, g, .inr n, s, rfl, rfl, pk, hv, hn, k⟩
end
end PW

set_option maxHeartbeats 1000000
/-! Dicts as lists of pairs; what a list has at a key. -/
namespace PW
open PySem L2
variable [KC]
theorem valS_cons (p : Key × Sl) (r : DKv) (k : Key) : valS (p :: r) k = if p.1 = k then some p.2 else valS r k := by
  unfold valS
  rw [List.find?_cons]
  by_cases e : p.1 = k
  · rw [decide_eq_true e, if_pos e]; rfl
  · rw [decide_eq_false e, if_neg e]
theorem valS_any (k : Key) : ∀ kvs : DKv, (kvs.any fun kv => decide (kv.1 = k)) = (valS kvs k).isSome
  | [] => rfl
  | p :: r => by
    rw [List.any_cons, valS_cons, valS_any k r]
    by_cases e : p.1 = k
    · rw [decide_eq_true e, if_pos e]; rfl
    · rw [decide_eq_false e, if_neg e]; rfl
theorem valS_map (k j : Key) (s : Sl) : ∀ kvs : DKv, valS (kvs.map fun kv => if kv.1 = k then (kv.1, s) else kv) j = (valS kvs j).map fun x => if j = k then s else x
  | [] => rfl
  | p :: r => by
    rw [List.map_cons, valS_cons, valS_cons, valS_map k j s r]
    by_cases e : p.1 = k
    · rw [if_pos e]
      by_cases ej : p.1 = j
      · rw [if_pos ej, if_pos ej, Option.map_some, if_pos (ej.symm.trans e)]
      · rw [if_neg ej, if_neg ej]
    · rw [if_neg e]
      by_cases ej : p.1 = j
      · rw [if_pos ej, if_pos ej, Option.map_some, if_neg fun z => e (ej.trans z)]
      · rw [if_neg ej, if_neg ej]
theorem valS_snoc (k j : Key) (s : Sl) : ∀ kvs : DKv, valS (kvs ++ [(k, s)]) j = (valS kvs j).or (if k = j then some s else none)
  | [] => by rw [List.nil_append, valS_cons]; rfl
  | p :: r => by
    rw [List.cons_append, valS_cons, valS_cons, valS_snoc k j s r]
    by_cases e : p.1 = j
    · rw [if_pos e, if_pos e]; rfl
    · rw [if_neg e, if_neg e]
theorem valS_put (kvs : DKv) (k j : Key) (s : Sl) : valS (putS kvs k s) j = if j = k then some s else valS kvs j := by
  unfold putS
  rw [valS_any]
  cases h : valS kvs k with
  | some x =>
    rw [Option.isSome_some, if_pos rfl, valS_map]
    by_cases e : j = k
    · rw [if_pos e, e, h, Option.map_some, if_pos rfl]
    · rw [if_neg e]
      cases valS kvs j with
      | none => rfl
      | some y => rw [Option.map_some, if_neg e]
  | none =>
    rw [Option.isSome_none, if_neg Bool.false_ne_true, valS_snoc]
    by_cases e : j = k
    · rw [if_pos e, e, h, if_pos rfl]; rfl
    · rw [if_neg e, if_neg fun z => e z.symm]
      cases valS kvs j <;> rfl
theorem valS_drop (k j : Key) : ∀ kvs : DKv, valS (dropS kvs k) j = if j = k then none else valS kvs j
  | [] => by unfold dropS; split <;> rfl
  | p :: r => by
    have ih := valS_drop k j r
    unfold dropS at ih ⊢
    rw [List.filter_cons, valS_cons]
    by_cases e : p.1 = k
    · rw [if_neg (by simp [e]), ih]
      by_cases ej : j = k
      · rw [if_pos ej, if_pos ej]
      · rw [if_neg ej, if_neg ej, if_neg fun z => ej (z.symm.trans e)]
    · rw [if_pos (by simp [e]), valS_cons, ih]
      by_cases ej : j = k
      · rw [if_pos ej, if_pos ej, if_neg fun z => e (z.trans ej)]
      · rw [if_neg ej, if_neg ej]
theorem keys_put (kvs : DKv) (k : Key) (s : Sl) : (putS kvs k s).map (·.1) = if (valS kvs k).isSome = true then kvs.map (·.1) else kvs.map (·.1) ++ [k] := by
  unfold putS
  rw [valS_any]
  split
  · rw [List.map_map]
    refine List.map_congr_left fun p _ => ?_
    show (if p.1 = k then (p.1, s) else p).1 = p.1
    split <;> rfl
  · rw [List.map_append]; rfl
theorem keys_drop (kvs : DKv) (k : Key) : (dropS kvs k).map (·.1) = (kvs.map (·.1)).filter fun j => decide (j ≠ k) := by
  unfold dropS
  rw [List.filter_map]; rfl
theorem valS_mem (k : Key) : ∀ kvs : DKv, (valS kvs k).isSome = true ↔ k ∈ kvs.map (·.1)
  | [] => by simp [valS]
  | p :: r => by
    rw [valS_cons, List.map_cons, List.mem_cons, ← valS_mem k r]
    by_cases e : p.1 = k
    · rw [if_pos e]; simp [e]
    · rw [if_neg e]
      constructor
      · exact .inr
      · rintro (q | q)
        · exact absurd q.symm e
        · exact q
theorem drop_no {kvs : DKv} {k : Key} (h : valS kvs k = none) : dropS kvs k = kvs := by
  unfold dropS
  refine List.filter_eq_self.mpr fun p hp => decide_eq_true fun e => ?_
  have : (valS kvs k).isSome = true := (valS_mem k kvs).mpr (by rw [← e]; exact List.mem_map_of_mem hp)
  rw [h] at this; cases this
theorem put_len (kvs : DKv) (k : Key) (s : Sl) : (putS kvs k s).length ≤ kvs.length + 1 := by
  unfold putS
  split
  · rw [List.length_map]; omega
  · rw [List.length_append]; exact Nat.le_refl _
theorem valS_at {k : Key} {s : Sl} : ∀ {kvs : DKv}, (kvs.map (·.1)).Nodup → (k, s) ∈ kvs → valS kvs k = some s
  | [], _, h => nomatch h
  | p :: r, hn, h => by
    rw [List.map_cons, List.nodup_cons] at hn
    rw [valS_cons]
    rcases List.mem_cons.mp h with h | h
    · rw [← h, if_pos rfl]
    · rw [if_neg fun e => hn.1 (by rw [e]; exact List.mem_map_of_mem (f := (·.1)) h)]
      exact valS_at hn.2 h
theorem drop_len (kvs : DKv) (k : Key) : (dropS kvs k).length ≤ kvs.length := by
  unfold dropS
  exact List.length_filter_le _ _
theorem put_new {kvs : DKv} {k : Key} {s : Sl} (h : valS kvs k = none) : putS kvs k s = kvs ++ [(k, s)] := by
  unfold putS
  rw [valS_any, h, Option.isSome_none, if_neg Bool.false_ne_true]
section
variable {α : Type} {f : α → Key × Sl} {l : List α} {i : Nat} {x y : α}
theorem nd_mid (h : l[i]? = some x) (nd : (l.map fun z => (f z).1).Nodup) : ∀ z ∈ l.take i ++ l.drop (i + 1), (f z).1 ≠ (f x).1 := fun z hz e => by
  obtain ⟨el, _⟩ := take_mid h
  rw [el, List.map_append, List.map_cons] at nd
  obtain ⟨n1, n2, n3⟩ := List.nodup_append.mp nd
  rw [List.nodup_cons] at n2
  rcases List.mem_append.mp hz with hz | hz
  · exact n3 _ (List.mem_map_of_mem (f := fun z => (f z).1) hz) _ List.mem_cons_self e
  · exact n2.1 (by rw [← e]; exact List.mem_map_of_mem (f := fun z => (f z).1) hz)
theorem dict_val (h : l[i]? = some x) (nd : (l.map fun z => (f z).1).Nodup) : valS (l.map f) (f x).1 = some (f x).2 :=
  valS_at (by rw [List.map_map]; exact nd) (List.mem_map_of_mem (List.mem_of_getElem? h))
theorem dict_no {k : Key} (h : k ∉ l.map fun z => (f z).1) : valS (l.map f) k = none := by
  cases e : valS (l.map f) k with
  | none => rfl
  | some s =>
    have := (valS_mem k (l.map f)).mp (by rw [e]; rfl)
    rw [List.map_map] at this
    exact absurd this h
theorem dict_drop (h : l[i]? = some x) (nd : (l.map fun z => (f z).1).Nodup) : dropS (l.map f) (f x).1 = (l.take i ++ l.drop (i + 1)).map f := by
  obtain ⟨el, _⟩ := take_mid h
  have key := nd_mid h nd
  unfold dropS
  conv => lhs; rw [el]
  rw [List.map_append, List.map_cons, List.filter_append, List.filter_cons, if_neg (by simp), ← List.filter_append, ← List.map_append]
  refine List.filter_eq_self.mpr fun p hp => ?_
  obtain ⟨z, hz, rfl⟩ := List.mem_map.mp hp
  exact decide_eq_true (key z hz)
theorem dict_put (h : l[i]? = some x) (nd : (l.map fun z => (f z).1).Nodup) (e : (f y).1 = (f x).1) : putS (l.map f) (f x).1 (f y).2 = (l.set i y).map f := by
  obtain ⟨el, hi⟩ := take_mid h
  have key := nd_mid h nd
  unfold putS
  rw [valS_any, dict_val h nd, Option.isSome_some, if_pos rfl]
  have e2 : l.set i y = l.take i ++ y :: l.drop (i + 1) := by rw [List.set_eq_take_append_cons_drop, if_pos hi]
  rw [e2]
  conv => lhs; rw [el]
  rw [List.map_append, List.map_append, List.map_cons, List.map_cons, List.map_append, List.map_cons, if_pos rfl]
  have same : ∀ m : List α, (∀ z ∈ m, (f z).1 ≠ (f x).1) → (m.map f).map (fun kv => if kv.1 = (f x).1 then (kv.1, (f y).2) else kv) = m.map f := fun m hm => by
    rw [List.map_map]
    exact List.map_congr_left fun z hz => if_neg (hm z hz)
  rw [same _ fun z hz => key z (List.mem_append_left _ hz), same _ fun z hz => key z (List.mem_append_right _ hz), ← e]
theorem at_key (k : Key) (h : k ∈ l.map fun z => (f z).1) : ∃ (i : Nat) (x : α), l[i]? = some x ∧ (f x).1 = k := by
  obtain ⟨x, hx, e⟩ := List.mem_map.mp h
  obtain ⟨i, hi⟩ := List.mem_iff_getElem?.mp hx
  exact ⟨i, x, hi, e⟩
end
section
variable {m₀ : Mo} {N₀ : List Str} {sc₀ : Scope} {lv₀ : Nat} {xp₀ : Addr → List Sl → List Mem → Prop} {fF₀ cm₀ : Bool} {c : Ctx m₀ N₀ sc₀ lv₀ xp₀ fF₀ cm₀} {a o : Expr} {ρ : List Sl} {rs : List Mem} {K : Sl → List Mem → Prop} {pos apos cpos : Pos}
/-- xs.index(y), xs owned -/
theorem dx_lindexO (h : DX c o ρ rs fun s r => ∃ p ds g, s = .r (.ref p) ∧ Pick r (lstM p (ds.map .d)) g ∧ DA c [a] ρ r fun ts r2 => ∃ t d j z g2, ts = [t] ∧ t.plain = .d d ∧ Pick r2 (lstM p (ds.map .d)) g2 ∧ SeqAt.shaped (.list ds) = true ∧ SeqAt.shaped d = true ∧ ds[j]? = some z ∧ PyData.eqv z d = true ∧ (∀ (m : Nat) (z' : PyData), m < j → ds[m]? = some z' → PyData.eqv z' d = false) ∧ K (.d (.int (j : Nat))) r2)
    (hm : MeOk c.X o "index" a [] apos cpos := by exact ⟨rfl, rfl, rfl, rfl⟩) : DX c (.Call (.Attribute o "index" apos) [a] [] cpos) ρ rs K := by
  intro σ H G Q he hs hx hq
  refine tE_of (pe_bm PySem.F.plainAttrs_list PySem.F.slot_list_index PySem.F.type_list_index (mt_indexD (by have := c.un; omega)) pe_t pa_t (hs := hm.hs) (hbase := hm.hb) (hline := hm.hl) (hfew := hm.hf)) ?_
  refine h σ H G _ he hs hx fun v H1 G1 s1 r1 t1 h1 o1 k1 => ?_
  obtain ⟨p, ds, g, rfl, pk, k1⟩ := k1
  have ev : v = .ref p := h1
  subst ev
  obtain ⟨vs, hp, al, _, _⟩ := lst_at pk o1
  refine ⟨.inl ⟨rfl, vs, .inl (.inl hp)⟩, ?_⟩
  refine k1 σ H1 G1 _ (he.stp t1) o1 (hx.stp t1) fun us H2 G2 ts r2 t2 h2 o2 k2 => ?_
  obtain ⟨t, d, j, z, g2, rfl, e2, pk2, sl, sd, hz, hzj, hno, k2⟩ := k2
  match us, h2 with
  | [y], h2 =>
    refine ⟨p, y, d, ds, j, z, rfl, rfl, c.ck ▸ view_own pk2 G2 H2 (.ref p) rfl o2, c.ck ▸ (plain_d e2 h2.1).dp, sl, sd, hz, hzj, hno, ?_⟩
    exact hq _ H2 G2 (.d (.int _)) r2 (t1.trans t2) (Is.int _) o2 k2
theorem ex_dputI {p : Addr} {kvs : DKv} {g : List Mem → List Mem} {n : Int} {B : Addr → DKv → (List Mem → List Mem) → Key → Prop} (pk : Pick rs (dictM p kvs) g) (hl : kvs.length ≤ 100000) (k : B p kvs g (.inl n)) : ∃ p' kvs' g' k, Sl.r (.ref p) = .r (.ref p') ∧ Sl.d (.int n) = .d (keyD k) ∧ Pick rs (dictM p' kvs') g' ∧ kvs'.length ≤ 100000 ∧ B p' kvs' g' k := ⟨p, kvs, g, .inl n, rfl, rfl, pk, hl, k⟩
theorem ex_dputS {p : Addr} {kvs : DKv} {g : List Mem → List Mem} {n : Str} {B : Addr → DKv → (List Mem → List Mem) → Key → Prop} (pk : Pick rs (dictM p kvs) g) (hl : kvs.length ≤ 100000) (k : B p kvs g (.inr n)) : ∃ p' kvs' g' k, Sl.r (.ref p) = .r (.ref p') ∧ Sl.d (.str n) = .d (keyD k) ∧ Pick rs (dictM p' kvs') g' ∧ kvs'.length ≤ 100000 ∧ B p' kvs' g' k := ⟨p, kvs, g, .inr n, rfl, rfl, pk, hl, k⟩
theorem ex_dpopI {p : Addr} {kvs : DKv} {g : List Mem → List Mem} {n : Int} {s : Sl} {B : DKv → (List Mem → List Mem) → Key → Sl → Prop} (pk : Pick rs (dictM p kvs) g) (hv : valS kvs (.inl n) = some s) (hn : ∀ ds, s ≠ .n ds) (k : B kvs g (.inl n) s) : ∃ kvs' g' k s', Sl.d (.int n) = .d (keyD k) ∧ Pick rs (dictM p kvs') g' ∧ valS kvs' k = some s' ∧ (∀ ds, s' ≠ .n ds) ∧ B kvs' g' k s' := ⟨kvs, g, .inl n, s, rfl, pk, hv, hn, k⟩
theorem ex_dpopS {p : Addr} {kvs : DKv} {g : List Mem → List Mem} {n : Str} {s : Sl} {B : DKv → (List Mem → List Mem) → Key → Sl → Prop} (pk : Pick rs (dictM p kvs) g) (hv : valS kvs (.inr n) = some s) (hn : ∀ ds, s ≠ .n ds) (k : B kvs g (.inr n) s) : ∃ kvs' g' k s', Sl.d (.str n) = .d (keyD k) ∧ Pick rs (dictM p kvs') g' ∧ valS kvs' k = some s' ∧ (∀ ds, s' ≠ .n ds) ∧ B kvs' g' k s' := ⟨kvs, g, .inr n, s, rfl, pk, hv, hn, k⟩
/-- d in xs, xs owned, all flat -/
theorem od_inO {p : Addr} {ds : List PyData} {d : PyData} {g : List Mem → List Mem} (pk : Pick rs (lstM p (ds.map .d)) g) (fd : flatD d = true) (fs : ds.all flatD = true) (k : K (.d (.bool (ds.any fun y => eqF y d))) rs) : OpD (uIn KC.K) (.d d) (.r (.ref p)) rs K := od_r fun G H x y Q hx hy hs hq => by
  have ey : y = .ref p := hy
  subst ey
  obtain ⟨vs, hp, al, _, _⟩ := lst_at pk hs
  have al := al.is
  refine ⟨p, vs, rfl, .inl (.inl (.inl hp)), flat_is hx fd, flat_all al fs, ?_⟩
  show Q (.bl (inV x vs)) H
  rw [in_all hx fd al fs]
  exact give0 hs hq (sl := .d (.bool _)) (Is.bl _) k
theorem od_ninO {p : Addr} {ds : List PyData} {d : PyData} {g : List Mem → List Mem} (pk : Pick rs (lstM p (ds.map .d)) g) (fd : flatD d = true) (fs : ds.all flatD = true) (k : K (.d (.bool (!ds.any fun y => eqF y d))) rs) : OpD (uNin KC.K) (.d d) (.r (.ref p)) rs K := od_r fun G H x y Q hx hy hs hq => by
  have ey : y = .ref p := hy
  subst ey
  obtain ⟨vs, hp, al, _, _⟩ := lst_at pk hs
  have al := al.is
  refine ⟨p, vs, rfl, .inl (.inl (.inl hp)), flat_is hx fd, flat_all al fs, ?_⟩
  show Q (.bl (!inV x vs)) H
  rw [in_all hx fd al fs]
  exact give0 hs hq (sl := .d (.bool _)) (Is.bl _) k
end
end PW

set_option maxHeartbeats 4000000
namespace My
open PySem L2 PW
/-! ### the text by places -/
def top (i : Nat) : Stmt := PySem.Challenge.pw_paneworks_k36_the_shelf.main.body.getD i (.Pass ⟨0, 0, 0, 0⟩)
abbrev s_Shelf___init__ : Stmt := inClass (top 12) 0
@[reducible] def c_Shelf___init__ : Scope := { kind := .function, names := [(PySem.Str.ofString "self", .«local»), (PySem.Str.ofString "many", .«local»), (PySem.Str.ofString "range", .globalImplicit)], isGenerator := false, isCoroutine := false, more := [(PySem.Str.ofString "fast", (PySem.Const.str "self")), (PySem.Str.ofString "fast", (PySem.Const.str "many")), (PySem.Str.ofString "fast", (PySem.Const.str "place"))] }
theorem e_Shelf___init__ : defScope s_Shelf___init__ = c_Shelf___init__ := rfl
abbrev n_Shelf___init__ : List Str := ["self", "many", "place"]
theorem f_Shelf___init__ : FnScope n_Shelf___init__ ["self", "many"] (defScope s_Shelf___init__) := ⟨rfl, rfl, rfl, by decide +kernel, rfl, by decide +kernel, by decide +kernel⟩
abbrev s_Shelf_put_on : Stmt := inClass (top 12) 1
@[reducible] def c_Shelf_put_on : Scope := { kind := .function, names := [(PySem.Str.ofString "self", .«local»), (PySem.Str.ofString "sheet", .«local»), (PySem.Str.ofString "row", .«local»), (PySem.Str.ofString "place", .«local»), (PySem.Str.ofString "range", .globalImplicit), (PySem.Str.ofString "len", .globalImplicit), (PySem.Str.ofString "list", .globalImplicit), (PySem.Str.ofString "Full", .globalImplicit)], isGenerator := false, isCoroutine := false, more := [] }
theorem e_Shelf_put_on : defScope s_Shelf_put_on = c_Shelf_put_on := rfl
abbrev n_Shelf_put_on : List Str := ["self", "sheet", "row", "place"]
theorem f_Shelf_put_on : FnScope n_Shelf_put_on ["self", "sheet", "row"] (defScope s_Shelf_put_on) := ⟨rfl, rfl, rfl, by decide +kernel, rfl, by decide +kernel, by decide +kernel⟩
abbrev s_Shelf_take_off : Stmt := inClass (top 12) 2
@[reducible] def c_Shelf_take_off : Scope := { kind := .function, names := [(PySem.Str.ofString "self", .«local»), (PySem.Str.ofString "sheet", .«local»), (PySem.Str.ofString "place", .«local»)], isGenerator := false, isCoroutine := false, more := [] }
theorem e_Shelf_take_off : defScope s_Shelf_take_off = c_Shelf_take_off := rfl
abbrev n_Shelf_take_off : List Str := ["self", "sheet", "place"]
theorem f_Shelf_take_off : FnScope n_Shelf_take_off ["self", "sheet"] (defScope s_Shelf_take_off) := ⟨rfl, rfl, rfl, by decide +kernel, rfl, by decide +kernel, by decide +kernel⟩
abbrev s_Shelf_row_of_sheet : Stmt := inClass (top 12) 3
@[reducible] def c_Shelf_row_of_sheet : Scope := { kind := .function, names := [(PySem.Str.ofString "self", .«local»), (PySem.Str.ofString "sheet", .«local»), (PySem.Str.ofString "list", .globalImplicit)], isGenerator := false, isCoroutine := false, more := [] }
theorem e_Shelf_row_of_sheet : defScope s_Shelf_row_of_sheet = c_Shelf_row_of_sheet := rfl
abbrev n_Shelf_row_of_sheet : List Str := ["self", "sheet"]
theorem f_Shelf_row_of_sheet : FnScope n_Shelf_row_of_sheet ["self", "sheet"] (defScope s_Shelf_row_of_sheet) := ⟨rfl, rfl, rfl, by decide +kernel, rfl, by decide +kernel, by decide +kernel⟩
abbrev s_Shelf_has : Stmt := inClass (top 12) 4
@[reducible] def c_Shelf_has : Scope := { kind := .function, names := [(PySem.Str.ofString "self", .«local»), (PySem.Str.ofString "sheet", .«local»)], isGenerator := false, isCoroutine := false, more := [] }
theorem e_Shelf_has : defScope s_Shelf_has = c_Shelf_has := rfl
abbrev n_Shelf_has : List Str := ["self", "sheet"]
theorem f_Shelf_has : FnScope n_Shelf_has ["self", "sheet"] (defScope s_Shelf_has) := ⟨rfl, rfl, rfl, by decide +kernel, rfl, by decide +kernel, by decide +kernel⟩
abbrev s_Shelf_is_full : Stmt := inClass (top 12) 5
@[reducible] def c_Shelf_is_full : Scope := { kind := .function, names := [(PySem.Str.ofString "self", .«local»)], isGenerator := false, isCoroutine := false, more := [] }
theorem e_Shelf_is_full : defScope s_Shelf_is_full = c_Shelf_is_full := rfl
abbrev n_Shelf_is_full : List Str := ["self"]
theorem f_Shelf_is_full : FnScope n_Shelf_is_full ["self"] (defScope s_Shelf_is_full) := ⟨rfl, rfl, rfl, by decide +kernel, rfl, by decide +kernel, by decide +kernel⟩
abbrev s_Shelf_sheets : Stmt := inClass (top 12) 6
@[reducible] def c_Shelf_sheets : Scope := { kind := .function, names := [(PySem.Str.ofString "self", .«local»), (PySem.Str.ofString "list", .globalImplicit)], isGenerator := false, isCoroutine := false, more := [] }
theorem e_Shelf_sheets : defScope s_Shelf_sheets = c_Shelf_sheets := rfl
abbrev n_Shelf_sheets : List Str := ["self"]
theorem f_Shelf_sheets : FnScope n_Shelf_sheets ["self"] (defScope s_Shelf_sheets) := ⟨rfl, rfl, rfl, by decide +kernel, rfl, by decide +kernel, by decide +kernel⟩
abbrev s_Lcell_at : Stmt := top 14
@[reducible] def c_Lcell_at : Scope := { kind := .function, names := [(PySem.Str.ofString "_law_script", .«local»), (PySem.Str.ofString "_law_k", .«local»), (PySem.Str.ofString "len", .globalImplicit)], isGenerator := false, isCoroutine := false, more := [] }
theorem e_Lcell_at : defScope s_Lcell_at = c_Lcell_at := rfl
abbrev n_Lcell_at : List Str := ["_law_script", "_law_k"]
theorem f_Lcell_at : FnScope n_Lcell_at ["_law_script", "_law_k"] (defScope s_Lcell_at) := ⟨rfl, rfl, rfl, by decide +kernel, rfl, by decide +kernel, by decide +kernel⟩
abbrev s_Lwhole : Stmt := top 15
@[reducible] def c_Lwhole : Scope := { kind := .function, names := [(PySem.Str.ofString "_law_found", .«local»), (PySem.Str.ofString "isinstance", .globalImplicit), (PySem.Str.ofString "int", .globalImplicit), (PySem.Str.ofString "bool", .globalImplicit)], isGenerator := false, isCoroutine := false, more := [] }
theorem e_Lwhole : defScope s_Lwhole = c_Lwhole := rfl
abbrev n_Lwhole : List Str := ["_law_found"]
theorem f_Lwhole : FnScope n_Lwhole ["_law_found"] (defScope s_Lwhole) := ⟨rfl, rfl, rfl, by decide +kernel, rfl, by decide +kernel, by decide +kernel⟩
abbrev s_Lalike : Stmt := top 16
@[reducible] def c_Lalike : Scope := { kind := .function, names := [(PySem.Str.ofString "_law_found", .«local»), (PySem.Str.ofString "_law_due", .«local»), (PySem.Str.ofString "_law_k", .«local»), (PySem.Str.ofString "isinstance", .globalImplicit), (PySem.Str.ofString "bool", .globalImplicit), (PySem.Str.ofString "int", .globalImplicit), (PySem.Str.ofString "_law_whole", .globalImplicit), (PySem.Str.ofString "str", .globalImplicit), (PySem.Str.ofString "tuple", .globalImplicit), (PySem.Str.ofString "list", .globalImplicit), (PySem.Str.ofString "len", .globalImplicit), (PySem.Str.ofString "range", .globalImplicit), (PySem.Str.ofString "_law_alike", .globalImplicit)], isGenerator := false, isCoroutine := false, more := [] }
theorem e_Lalike : defScope s_Lalike = c_Lalike := rfl
abbrev n_Lalike : List Str := ["_law_found", "_law_due", "_law_k"]
theorem f_Lalike : FnScope n_Lalike ["_law_found", "_law_due"] (defScope s_Lalike) := ⟨rfl, rfl, rfl, by decide +kernel, rfl, by decide +kernel, by decide +kernel⟩
abbrev s_Lnum : Stmt := top 17
@[reducible] def c_Lnum : Scope := { kind := .function, names := [(PySem.Str.ofString "_law_cell", .«local»), (PySem.Str.ofString "_law_k", .«local»), (PySem.Str.ofString "_law_most", .«local»), (PySem.Str.ofString "_law_big", .«local»), (PySem.Str.ofString "_law_way", .«local»)], isGenerator := false, isCoroutine := false, more := [] }
theorem e_Lnum : defScope s_Lnum = c_Lnum := rfl
abbrev n_Lnum : List Str := ["_law_cell", "_law_k", "_law_most", "_law_big", "_law_way"]
theorem f_Lnum : FnScope n_Lnum ["_law_cell", "_law_k"] (defScope s_Lnum) := ⟨rfl, rfl, rfl, by decide +kernel, rfl, by decide +kernel, by decide +kernel⟩
abbrev s_Lrow : Stmt := top 18
@[reducible] def c_Lrow : Scope := { kind := .function, names := [(PySem.Str.ofString "_law_cell", .cell), (PySem.Str.ofString "range", .globalImplicit)], isGenerator := false, isCoroutine := false, more := [(PySem.Str.ofString "fast", (PySem.Const.str "_law_cell")), (PySem.Str.ofString "fast", (PySem.Const.str "_law_k"))] }
theorem e_Lrow : defScope s_Lrow = c_Lrow := rfl
abbrev n_Lrow : List Str := ["_law_cell", "_law_k"]
theorem f_Lrow : FnScope n_Lrow ["_law_cell"] (defScope s_Lrow) := ⟨rfl, rfl, rfl, by decide +kernel, rfl, by decide +kernel, by decide +kernel⟩
abbrev s_Lfresh : Stmt := top 19
@[reducible] def c_Lfresh : Scope := { kind := .function, names := [(PySem.Str.ofString "_law_cell", .«local»), (PySem.Str.ofString "_law_rows", .«local»), (PySem.Str.ofString "_law_sheet", .«local»)], isGenerator := false, isCoroutine := false, more := [] }
theorem e_Lfresh : defScope s_Lfresh = c_Lfresh := rfl
abbrev n_Lfresh : List Str := ["_law_cell", "_law_rows", "_law_sheet"]
theorem f_Lfresh : FnScope n_Lfresh ["_law_cell", "_law_rows"] (defScope s_Lfresh) := ⟨rfl, rfl, rfl, by decide +kernel, rfl, by decide +kernel, by decide +kernel⟩
abbrev s_Lrefused : Stmt := top 20
@[reducible] def c_Lrefused : Scope := { kind := .function, names := [(PySem.Str.ofString "_law_shelf", .«local»), (PySem.Str.ofString "_law_sheet", .«local»), (PySem.Str.ofString "_law_row_here", .«local»), (PySem.Str.ofString "_law_own", .«local»), (PySem.Str.ofString "e", .«local»), (PySem.Str.ofString "PaneError", .globalImplicit), (PySem.Str.ofString "isinstance", .globalImplicit), (PySem.Str.ofString "Full", .globalImplicit), (PySem.Str.ofString "ValueError", .globalImplicit), (PySem.Str.ofString "NoNumber", .globalImplicit), (PySem.Str.ofString "NoSpace", .globalImplicit), (PySem.Str.ofString "NoFile", .globalImplicit), (PySem.Str.ofString "NoPage", .globalImplicit), (PySem.Str.ofString "NoRight", .globalImplicit), (PySem.Str.ofString "Taken", .globalImplicit), (PySem.Str.ofString "Held", .globalImplicit), (PySem.Str.ofString "NoRow", .globalImplicit)], isGenerator := false, isCoroutine := false, more := [] }
theorem e_Lrefused : defScope s_Lrefused = c_Lrefused := rfl
abbrev n_Lrefused : List Str := ["_law_shelf", "_law_sheet", "_law_row_here", "_law_own", "e"]
theorem f_Lrefused : FnScope n_Lrefused ["_law_shelf", "_law_sheet", "_law_row_here"] (defScope s_Lrefused) := ⟨rfl, rfl, rfl, by decide +kernel, rfl, by decide +kernel, by decide +kernel⟩
abbrev s_Lput : Stmt := top 21
@[reducible] def c_Lput : Scope := { kind := .function, names := [(PySem.Str.ofString "_law_shelf", .«local»), (PySem.Str.ofString "_law_spots", .«local»), (PySem.Str.ofString "_law_rows", .«local»), (PySem.Str.ofString "_law_sheet", .«local»), (PySem.Str.ofString "_law_row_here", .«local»), (PySem.Str.ofString "_law_spot", .«local»), (PySem.Str.ofString "_law_handed", .«local»), (PySem.Str.ofString "list", .globalImplicit), (PySem.Str.ofString "_law_alike", .globalImplicit)], isGenerator := false, isCoroutine := false, more := [] }
theorem e_Lput : defScope s_Lput = c_Lput := rfl
abbrev n_Lput : List Str := ["_law_shelf", "_law_spots", "_law_rows", "_law_sheet", "_law_row_here", "_law_spot", "_law_handed"]
theorem f_Lput : FnScope n_Lput ["_law_shelf", "_law_spots", "_law_rows", "_law_sheet", "_law_row_here"] (defScope s_Lput) := ⟨rfl, rfl, rfl, by decide +kernel, rfl, by decide +kernel, by decide +kernel⟩
abbrev s_Ltaken : Stmt := top 22
@[reducible] def c_Ltaken : Scope := { kind := .function, names := [(PySem.Str.ofString "_law_shelf", .«local»), (PySem.Str.ofString "_law_spots", .«local»), (PySem.Str.ofString "_law_rows", .«local»), (PySem.Str.ofString "_law_sheet", .«local»), (PySem.Str.ofString "_law_told", .«local»), (PySem.Str.ofString "_law_alike", .globalImplicit)], isGenerator := false, isCoroutine := false, more := [] }
theorem e_Ltaken : defScope s_Ltaken = c_Ltaken := rfl
abbrev n_Ltaken : List Str := ["_law_shelf", "_law_spots", "_law_rows", "_law_sheet", "_law_told"]
theorem f_Ltaken : FnScope n_Ltaken ["_law_shelf", "_law_spots", "_law_rows", "_law_sheet"] (defScope s_Ltaken) := ⟨rfl, rfl, rfl, by decide +kernel, rfl, by decide +kernel, by decide +kernel⟩
abbrev s_Ldeed : Stmt := top 23
@[reducible] def c_Ldeed : Scope := { kind := .function, names := [(PySem.Str.ofString "_law_shelf", .«local»), (PySem.Str.ofString "_law_spots", .«local»), (PySem.Str.ofString "_law_rows", .«local»), (PySem.Str.ofString "_law_cell", .«local»), (PySem.Str.ofString "_law_lying", .«local»), (PySem.Str.ofString "_law_kind", .«local»), (PySem.Str.ofString "_law_sheet", .«local»), (PySem.Str.ofString "_law_row_here", .«local»), (PySem.Str.ofString "_law_told", .«local»), (PySem.Str.ofString "list", .globalImplicit), (PySem.Str.ofString "len", .globalImplicit), (PySem.Str.ofString "_law_fresh", .globalImplicit), (PySem.Str.ofString "_law_row", .globalImplicit), (PySem.Str.ofString "_law_put", .globalImplicit), (PySem.Str.ofString "_law_refused", .globalImplicit), (PySem.Str.ofString "_law_taken", .globalImplicit), (PySem.Str.ofString "_law_alike", .globalImplicit)], isGenerator := false, isCoroutine := false, more := [] }
theorem e_Ldeed : defScope s_Ldeed = c_Ldeed := rfl
abbrev n_Ldeed : List Str := ["_law_shelf", "_law_spots", "_law_rows", "_law_cell", "_law_lying", "_law_kind", "_law_sheet", "_law_row_here", "_law_told"]
theorem f_Ldeed : FnScope n_Ldeed ["_law_shelf", "_law_spots", "_law_rows", "_law_cell"] (defScope s_Ldeed) := ⟨rfl, rfl, rfl, by decide +kernel, rfl, by decide +kernel, by decide +kernel⟩
abbrev s_Lis_shelf : Stmt := top 24
@[reducible] def c_Lis_shelf : Scope := { kind := .function, names := [(PySem.Str.ofString "_law_shelf", .«local»), (PySem.Str.ofString "_law_spots", .«local»), (PySem.Str.ofString "_law_rows", .«local»), (PySem.Str.ofString "_law_cell", .«local»), (PySem.Str.ofString "_law_held", .«local»), (PySem.Str.ofString "_law_sheet", .«local»), (PySem.Str.ofString "_law_told", .«local»), (PySem.Str.ofString "len", .globalImplicit), (PySem.Str.ofString "list", .globalImplicit), (PySem.Str.ofString "_law_alike", .globalImplicit)], isGenerator := false, isCoroutine := false, more := [] }
theorem e_Lis_shelf : defScope s_Lis_shelf = c_Lis_shelf := rfl
abbrev n_Lis_shelf : List Str := ["_law_shelf", "_law_spots", "_law_rows", "_law_cell", "_law_held", "_law_sheet", "_law_told"]
theorem f_Lis_shelf : FnScope n_Lis_shelf ["_law_shelf", "_law_spots", "_law_rows", "_law_cell", "_law_held"] (defScope s_Lis_shelf) := ⟨rfl, rfl, rfl, by decide +kernel, rfl, by decide +kernel, by decide +kernel⟩
abbrev s_law : Stmt := top 25
@[reducible] def c_law : Scope := { kind := .function, names := [(PySem.Str.ofString "_law_script", .«local»), (PySem.Str.ofString "_law_first", .«local»), (PySem.Str.ofString "_law_second", .«local»), (PySem.Str.ofString "_law_many", .«local»), (PySem.Str.ofString "_law_begun", .«local»), (PySem.Str.ofString "_law_beside", .«local»), (PySem.Str.ofString "_law_shelf", .«local»), (PySem.Str.ofString "_law_spots", .«local»), (PySem.Str.ofString "_law_rows", .«local»), (PySem.Str.ofString "_law_held", .«local»), (PySem.Str.ofString "_law_k", .«local»), (PySem.Str.ofString "_law_cell", .«local»), (PySem.Str.ofString "_law_sheet", .«local»), (PySem.Str.ofString "_law_told", .«local»), (PySem.Str.ofString "_law_copied", .«local»), (PySem.Str.ofString "_law_cell_at", .globalImplicit), (PySem.Str.ofString "max", .globalImplicit), (PySem.Str.ofString "min", .globalImplicit), (PySem.Str.ofString "Shelf", .globalImplicit), (PySem.Str.ofString "_law_alike", .globalImplicit), (PySem.Str.ofString "_law_is_shelf", .globalImplicit), (PySem.Str.ofString "range", .globalImplicit), (PySem.Str.ofString "_law_put", .globalImplicit), (PySem.Str.ofString "_law_row", .globalImplicit), (PySem.Str.ofString "_law_deed", .globalImplicit), (PySem.Str.ofString "list", .globalImplicit)], isGenerator := false, isCoroutine := false, more := [] }
theorem e_law : defScope s_law = c_law := rfl
abbrev n_law : List Str := ["_law_script", "_law_first", "_law_second", "_law_many", "_law_begun", "_law_beside", "_law_shelf", "_law_spots", "_law_rows", "_law_held", "_law_k", "_law_cell", "_law_sheet", "_law_told", "_law_copied"]
theorem f_law : FnScope n_law ["_law_script"] (defScope s_law) := ⟨rfl, rfl, rfl, by decide +kernel, rfl, by decide +kernel, by decide +kernel⟩
def letters : Str := "abcdefghijklmnopqrstuvwxyz"
def letAt (i : Int) : Nat := letters.cps.toList.getD i.toNat 0
theorem let_len : letters.cps.toList.length = 26 := by decide +kernel
theorem txt_at [KC] (z : Str) {i : Int} (h : 0 ≤ i ∧ i < z.length) : ∃ n, atI z.cps.toList i = some n := by
  obtain ⟨v, h1, _⟩ := PW.atI_in (xs := z.cps.toList) (i := i) (by rw [show z.cps.toList.length = z.length by show _ = z.cps.size; simp]; exact h)
  exact ⟨v, h1⟩

/-! ### the shelf -/
section
variable [KC]
def oS : Option Int → PyData
  | some n => .int n
  | none => .none
abbrev Srow := Int × List Int
def kvR (x : Srow × Addr) : Key × Sl := (.inl x.1.1, .r (.ref x.2))
abbrev rowM (x : Srow × Addr) : Mem := lstM x.2 ((x.1.2.map PyData.int).map .d)
abbrev RwA (rw : List Srow) := {l : List (Srow × Addr) // l.map (·.1) = rw}
def shelfF (C p : Addr) (sh : List (Option Int)) (rw : List Srow) (z : Addr × Addr × RwA rw) : List Mem := [insM C p [("my_sheets", .r (.ref z.1)), ("my_rows", .r (.ref z.2.1))], lstM z.1 ((sh.map oS).map .d), dictM z.2.1 (z.2.2.1.map kvR), famM rowM z.2.2.1]
def shelfM (C p : Addr) (sh : List (Option Int)) (rw : List Srow) : Mem := exM (shelfF C p sh rw)
theorem at_shelf {C p : Addr} {sh : List (Option Int)} {rw : List Srow} {x : Str} (h : x ∉ [("my_sheets" : Str), "my_rows"]) : InsAt (shelfM C p sh rw) C p x := insAt_ex (fs := fun q => [("my_sheets", .r (.ref q.1)), ("my_rows", .r (.ref q.2.1))]) (fun _ => rfl) fun _ => h
end
section
variable [KC] {m₀ : Mo} {N₀ : List Str} {sc₀ : Scope} {lv₀ : Nat} {xp₀ : Addr → List Sl → List Mem → Prop} {fF₀ cm₀ : Bool} {c : PW.Ctx m₀ N₀ sc₀ lv₀ xp₀ fF₀ cm₀} {rs : List Mem} {ρ : List Sl} {K : Sl → List Mem → Prop} {C p : Addr} {sh : List (Option Int)} {rw : List Srow} {g : List Mem → List Mem}
theorem ce_shelf {Q : Cn} {ss : List Sl} (pk : Pick rs (shelfM C p sh rw) g) (h : Q (.r (.ref p) :: ss) [shelfM C p sh rw] (fun s r2 => K s (g r2)) (fun D r2 => xp₀ D ρ (g r2))) : CallEnd c Q (.r (.ref p) :: ss) ρ rs K := ce_inr pk h
theorem ce0_shelf {Q : Cn} (pk : Pick rs (shelfM C p sh rw) g) (h : Q [.r (.ref p)] [shelfM C p sh rw] (fun s r2 => K s (g r2)) (fun _ _ => False)) : CallEnd0 Q [.r (.ref p)] rs K := ce0_inr pk h
theorem me_shelf {x : Str} {B : Addr → Prop} (pk : Pick rs (shelfM C p sh rw) g) (hx : x ∉ [("my_sheets" : Str), "my_rows"]) (h : B p) : ∃ p' A g, Sl.r (.ref p) = .r (.ref p') ∧ Pick rs A g ∧ InsAt A C p' x ∧ B p' := ⟨p, _, g, rfl, pk, at_shelf hx, h⟩
end

abbrev raD : List Str := ["Full"]
abbrev tsD : List Str := ["PaneError", "NoNumber", "NoSpace", "NoFile", "NoPage", "NoRight", "Taken", "Held", "Full", "NoRow"]
--DICO .Attribute _ "my_rows" _
--DICT .Attribute _ "my_rows" _
--DICT .Name "_law_rows" _
--OWL _law_handed
--FRA row_of_sheet
/-! ### the steps -/
local macro_rules | `(tactic| walk_at "sl") => `(tactic| ((repeat with_reducible first | exact Slot.zero | apply Slot.succ); (first | (all_goals fail) | fail)))
local macro_rules | `(tactic| walk_at "set") => `(tactic| ((repeat with_reducible first | exact SetS.zero | apply SetS.succ); (first | (all_goals fail) | fail)))
local macro_rules | `(tactic| walk_at "ix") => `(tactic| ((repeat with_reducible first | exact IxOf.zero | apply IxOf.succ); (first | (all_goals fail) | fail)))
local macro_rules | `(tactic| walk_at "pick") => `(tactic| ((repeat with_reducible first | exact Pick.zero | apply Pick.succ); (first | (all_goals fail) | fail)))
local macro_rules | `(tactic| walk_at "fld") => `(tactic| ((repeat with_reducible first | exact FldAt.zero | apply FldAt.succ); (first | (all_goals fail) | fail)))
local macro_rules | `(tactic| walk_at "fset") => `(tactic| ((repeat with_reducible first | exact FldSet.zero | apply FldSet.succ); (first | (all_goals fail) | fail)))
local macro_rules | `(tactic| walk_at "grab") => `(tactic| (repeat (first | exact has_nil | refine has_cons (by ((repeat with_reducible first | exact Pick.zero | apply Pick.succ); (first | (all_goals fail) | fail))) ?_ | dsimp only [List.nil_append, List.cons_append, List.map_nil])))
local macro_rules | `(tactic| walk_at "pick2") => `(tactic| ((dsimp only [List.nil_append, List.cons_append]); ((repeat with_reducible first | exact Pick.zero | apply Pick.succ); (first | (all_goals fail) | fail))))
local macro_rules | `(tactic| walk_at "lent") => `(tactic| (repeat (first | exact LentS.nil | refine LentS.lend (by first | exact List.mem_cons_self | exact List.mem_cons_of_mem _ List.mem_cons_self) ?_ | refine LentS.eq ?_)))
local macro_rules | `(tactic| walk_at "datas") => `(tactic| ((repeat with_reducible first | exact datas_nil | apply datas_cons); (first | (all_goals fail) | fail)))
local macro_rules | `(tactic| walk_at "le0") => `(tactic| (repeat (first | exact Le.nil | (with_reducible apply Le.eq) | (with_reducible apply Le.un) | apply Le.eq)))
local macro_rules | `(tactic| walk_at "le") => `(tactic| ((repeat with_reducible first | exact Le.nil | apply Le.eq | apply Le.un); (first | (all_goals fail) | fail)))
local macro_rules | `(tactic| walk_at "num") => `(tactic| (first | omega | decide | (simp; omega)))
local macro_rules | `(tactic| walk_at "len") => `(tactic| (first | (with_reducible assumption) | decide | ((try simp only [List.length_cons, List.length_nil, List.length_append, List.length_map, List.length_replicate]); omega) | (refine Nat.le_trans (cutL_len _ _ _) ?_; (try simp only [List.length_cons, List.length_nil, List.length_append, List.length_map, List.length_replicate]); omega) | (refine Nat.le_trans (Nat.add_le_add_left (cutL_len _ _ _) _) ?_; (try simp only [List.length_cons, List.length_nil, List.length_append, List.length_map, List.length_replicate]); omega) | (refine Nat.le_trans (Nat.add_le_add_right (cutL_len _ _ _) _) ?_; (try simp only [List.length_cons, List.length_nil, List.length_append, List.length_map, List.length_replicate]); omega)))
local macro_rules | `(tactic| walk_at "go") => `(tactic| (repeat (first | (first | ((with_reducible show DX _ _ _ _ _); (first | ((with_reducible show DX _ (.Subscript (.Attribute _ "my_rows" _) _ _) _ _ _); refine dx_dget ?_) | ((with_reducible show DX _ (.Call (.Attribute (.Attribute _ "my_rows" _) "get" _) [_] _ _) _ _ _); refine dx_dget1 ?_) | ((with_reducible show DX _ (.Call (.Attribute (.Attribute _ "my_rows" _) "get" _) [_, _] _ _) _ _ _); refine dx_dget2 ?_) | ((with_reducible show DX _ (.Call (.Attribute (.Attribute _ "my_rows" _) "pop" _) [_] _ _) _ _ _); refine dx_dpop1 ?_) | ((with_reducible show DX _ (.Call (.Attribute (.Attribute _ "my_rows" _) "pop" _) [_, _] _ _) _ _ _); refine dx_dpop2 ?_) | ((with_reducible show DX _ (.Call (.Name "len" _) [(.Attribute _ "my_rows" _)] _ _) _ _ _); refine dx_dlen ?_) | ((with_reducible show DX _ (.Call (.Name "list" _) [(.Attribute _ "my_rows" _)] _ _) _ _ _); refine dx_dlist ?_) | ((with_reducible show DX _ (.Call (.Name "dict" _) [(.Attribute _ "my_rows" _)] _ _) _ _ _); refine dx_dictO ?_) | ((with_reducible show DX _ (.Call (.Name "sorted" _) [(.Attribute _ "my_rows" _)] _ _) _ _ _); refine dx_sortedD ?_) | ((with_reducible show DX _ (.Compare _ [.In] [(.Attribute _ "my_rows" _)] _) _ _ _); refine dx_din ?_) | ((with_reducible show DX _ (.Compare _ [.NotIn] [(.Attribute _ "my_rows" _)] _) _ _ _); refine dx_dnin ?_) | ((with_reducible show DX _ (.Subscript (.Name "_law_rows" _) _ _) _ _ _); refine dx_dget ?_) | ((with_reducible show DX _ (.Call (.Attribute (.Name "_law_rows" _) "get" _) [_] _ _) _ _ _); refine dx_dget1 ?_) | ((with_reducible show DX _ (.Call (.Attribute (.Name "_law_rows" _) "get" _) [_, _] _ _) _ _ _); refine dx_dget2 ?_) | ((with_reducible show DX _ (.Call (.Attribute (.Name "_law_rows" _) "pop" _) [_] _ _) _ _ _); refine dx_dpop1 ?_) | ((with_reducible show DX _ (.Call (.Attribute (.Name "_law_rows" _) "pop" _) [_, _] _ _) _ _ _); refine dx_dpop2 ?_) | ((with_reducible show DX _ (.Call (.Name "len" _) [(.Name "_law_rows" _)] _ _) _ _ _); refine dx_dlen ?_) | ((with_reducible show DX _ (.Call (.Name "list" _) [(.Name "_law_rows" _)] _ _) _ _ _); refine dx_dlist ?_) | ((with_reducible show DX _ (.Call (.Name "dict" _) [(.Name "_law_rows" _)] _ _) _ _ _); refine dx_dictO ?_) | ((with_reducible show DX _ (.Call (.Name "sorted" _) [(.Name "_law_rows" _)] _ _) _ _ _); refine dx_sortedD ?_) | ((with_reducible show DX _ (.Compare _ [.In] [(.Name "_law_rows" _)] _) _ _ _); refine dx_din ?_) | ((with_reducible show DX _ (.Compare _ [.NotIn] [(.Name "_law_rows" _)] _) _ _ _); refine dx_dnin ?_) | ((with_reducible show DX _ (.Name _ _) _ _ _); (first | refine dx_name (by ((repeat with_reducible first | exact Slot.zero | apply Slot.succ); (first | (all_goals fail) | fail))) (by exact fun e => nomatch e) ?_ | refine dx_gint (by with_reducible assumption) ?_ | refine dx_gstr (by with_reducible assumption) ?_ | refine dx_gcls (by with_reducible assumption) (by decide +kernel) ?_ | ((with_reducible show DX _ (.Name "int" _) _ _ _); refine dx_tint ?_) | ((with_reducible show DX _ (.Name "bool" _) _ _ _); refine dx_tbool ?_) | ((with_reducible show DX _ (.Name "str" _) _ _ _); refine dx_tstr ?_) | ((with_reducible show DX _ (.Name "list" _) _ _ _); refine dx_tlist ?_) | ((with_reducible show DX _ (.Name "tuple" _) _ _ _); refine dx_ttuple ?_) | ((with_reducible show DX _ (.Name "ValueError" _) _ _ _); refine dx_tVE (by with_reducible assumption) ?_))) | ((with_reducible show DX _ (.Constant _ _ _) _ _ _); (first | ((with_reducible show DX _ (.Constant (.int _) _ _) _ _ _); refine dx_int ?_) | ((with_reducible show DX _ (.Constant (.str _) _ _) _ _ _); refine dx_str ?_) | ((with_reducible show DX _ (.Constant (.bool _) _ _) _ _ _); refine dx_bl ?_) | refine dx_non ?_)) | ((with_reducible show DX _ (.BinOp (.List [_] _) .Mult _ _) _ _ _); refine dx_repD ?_) | ((with_reducible show DX _ (.BinOp _ _ _ _) _ _ _); (first | ((with_reducible show DX _ (.BinOp _ .Add _ _) _ _ _); refine dx_bin cAdd ?_) | ((with_reducible show DX _ (.BinOp _ .Sub _ _) _ _ _); refine dx_bin op_sub ?_) | ((with_reducible show DX _ (.BinOp _ .Mult _ _) _ _ _); refine dx_bin op_uMul ?_) | ((with_reducible show DX _ (.BinOp _ .FloorDiv _ _) _ _ _); refine dx_bin op_fdivW ?_) | ((with_reducible show DX _ (.BinOp _ .Mod _ _) _ _ _); refine dx_bin op_mod ?_) | ((with_reducible show DX _ (.BinOp _ .Pow _ _) _ _ _); refine dx_bin op_pow ?_))) | ((with_reducible show DX _ (.Compare _ [_] _ _) _ _ _); (first | ((with_reducible show DX _ (.Compare _ [.Eq] [_] _) _ _ _); refine dx_cmp cEq (nomark _) ?_) | ((with_reducible show DX _ (.Compare _ [.NotEq] [_] _) _ _ _); refine dx_cmp cNe (nomark _) ?_) | ((with_reducible show DX _ (.Compare _ [.Lt] [_] _) _ _ _); refine dx_cmp op_lt (nomark _) ?_) | ((with_reducible show DX _ (.Compare _ [.LtE] [_] _) _ _ _); refine dx_cmp op_le (nomark _) ?_) | ((with_reducible show DX _ (.Compare _ [.Gt] [_] _) _ _ _); refine dx_cmp op_gt (nomark _) ?_) | ((with_reducible show DX _ (.Compare _ [.GtE] [_] _) _ _ _); refine dx_cmp op_ge (nomark _) ?_) | ((with_reducible show DX _ (.Compare _ [.Is] [_] _) _ _ _); refine dx_cmp op_uIs (nomark _) ?_) | ((with_reducible show DX _ (.Compare _ [.IsNot] [_] _) _ _ _); refine dx_cmp op_uIsn (nomark _) ?_) | ((with_reducible show DX _ (.Compare _ [.In] [_] _) _ _ _); refine dx_cmp cIn (rfl) ?_) | ((with_reducible show DX _ (.Compare _ [.NotIn] [_] _) _ _ _); refine dx_cmp cNin (rfl) ?_))) | ((with_reducible show DX _ (.Compare _ [_, _] _ _) _ _ _); (first | ((with_reducible show DX _ (.Compare _ [.LtE, .Lt] [_, _] _) _ _ _); refine dx_chain op_le op_lt ?_) | ((with_reducible show DX _ (.Compare _ [.LtE, .LtE] [_, _] _) _ _ _); refine dx_chain op_le op_le ?_))) | ((with_reducible show DX _ (.BoolOp _ [_] _) _ _ _); refine dx_one ?_) | ((with_reducible show DX _ (.BoolOp .And _ _) _ _ _); refine dx_and ?_) | ((with_reducible show DX _ (.BoolOp .Or _ _) _ _ _); refine dx_or ?_) | ((with_reducible show DX _ (.UnaryOp .Not _ _) _ _ _); refine dx_not ?_) | ((with_reducible show DX _ (.UnaryOp _ _ _) _ _ _); refine dx_neg ?_) | ((with_reducible show DX _ (.Subscript _ (.Slice _ _ _ _) _) _ _ _); refine dx_slice ?_) | ((with_reducible show DX _ (.Subscript _ _ _) _ _ _); refine dx_ix cIx ?_) | ((with_reducible show DX _ (.Tuple _ _ _) _ _ _); refine dx_tup ?_) | ((with_reducible show DX _ (.IfExp _ _ _ _) _ _ _); refine dx_ifExp ?_) | ((with_reducible show DX _ (.List _ _) _ _ _); refine dx_lst ?_) | ((with_reducible show DX _ (.Dict [] [] _) _ _ _); refine dx_dnew ?_) | ((with_reducible show DX _ (.Attribute _ _ _) _ _ _); refine dx_fld ?_) | ((with_reducible show DX _ (.Call (.Attribute _ "clear" _) [] _ _) _ _ _); refine dx_clear ?_) | ((with_reducible show DX _ (.Call (.Attribute _ "pop" _) [] _ _) _ _ _); refine dx_pop ?_) | ((with_reducible show DX _ (.Call (.Attribute _ _ _) [] _ _) _ _ _); refine dx_meth0 (by with_reducible assumption) (by with_reducible assumption) ?_) | ((with_reducible show DX _ (.Call (.Name _ _) [] _ _) _ _ _); refine dx_call0 (by with_reducible assumption) ?_) | ((with_reducible show DX _ (.Call (.Attribute _ "append" _) [_] _ _) _ _ _); refine dx_append ?_) | ((with_reducible show DX _ (.Call (.Attribute _ "join" _) [_] _ _) _ _ _); refine dx_join ?_) | ((with_reducible show DX _ (.Call (.Attribute _ "find" _) [_] _ _) _ _ _); refine dx_find ?_) | ((with_reducible show DX _ (.Call (.Attribute (.Constant (.str _) _ _) "index" _) [_] _ _) _ _ _); refine dx_sindex ?_) | ((with_reducible show DX _ (.Call (.Attribute _ "split" _) [_] _ _) _ _ _); refine dx_split ?_) | ((with_reducible show DX _ (.Call (.Attribute _ _ _) _ _ _) _ _ _); refine dx_meth (by with_reducible assumption) (by with_reducible assumption) ?_) | ((with_reducible show DX _ (.Call (.Name _ _) _ _ _) _ _ _); (first | ((with_reducible show DX _ (.Call (.Name "len" _) _ _ _) _ _ _); refine dx_len ?_) | ((with_reducible show DX _ (.Call (.Name "isinstance" _) _ _ _) _ _ _); (first | ((with_reducible show DX _ (.Call _ [_, .Tuple _ _ _] _ _) _ _ _); refine dx_isET (by with_reducible assumption) (by with_reducible assumption) (by decide +kernel) ?_) | ((with_reducible show DX _ (.Call _ [_, .Name _ _] _ _) _ _ _); first | refine dx_isE (by with_reducible assumption) ?_ | refine dx_isi ?_))) | ((with_reducible show DX _ (.Call (.Name "list" _) _ _ _) _ _ _); (first | refine dx_listA ?_ | refine dx_list ?_)) | ((with_reducible show DX _ (.Call (.Name "min" _) _ _ _) _ _ _); refine dx_min ?_) | ((with_reducible show DX _ (.Call (.Name "max" _) _ _ _) _ _ _); refine dx_max ?_) | ((with_reducible show DX _ (.Call (.Name "str" _) _ _ _) _ _ _); refine dx_cstr ?_) | ((with_reducible show DX _ (.Call (.Name "int" _) _ _ _) _ _ _); refine dx_cint ?_) | refine dx_call (by with_reducible assumption) ?_ | refine dx_make (by with_reducible assumption) ?_)))) | ((with_reducible show OpD _ _ _ _ _); (first | ((with_reducible show OpD (uAdd _) (.d (.int _)) (.d (.int _)) _ _); refine od_add ?_) | ((with_reducible show OpD (uAdd _) (.d (.str _)) (.d (.str _)) _ _); refine od_adds (by (first | (with_reducible assumption) | decide | ((try simp only [List.length_cons, List.length_nil, List.length_append, List.length_map, List.length_replicate]); omega) | (refine Nat.le_trans (cutL_len _ _ _) ?_; (try simp only [List.length_cons, List.length_nil, List.length_append, List.length_map, List.length_replicate]); omega) | (refine Nat.le_trans (Nat.add_le_add_left (cutL_len _ _ _) _) ?_; (try simp only [List.length_cons, List.length_nil, List.length_append, List.length_map, List.length_replicate]); omega) | (refine Nat.le_trans (Nat.add_le_add_right (cutL_len _ _ _) _) ?_; (try simp only [List.length_cons, List.length_nil, List.length_append, List.length_map, List.length_replicate]); omega))) ?_) | ((with_reducible show OpD (uAdd _) (.d (.tuple _)) (.d (.tuple _)) _ _); refine od_addt (by first | exact List.cons_ne_nil _ _ | decide) (by (first | (with_reducible assumption) | decide | ((try simp only [List.length_cons, List.length_nil, List.length_append, List.length_map, List.length_replicate]); omega) | (refine Nat.le_trans (cutL_len _ _ _) ?_; (try simp only [List.length_cons, List.length_nil, List.length_append, List.length_map, List.length_replicate]); omega) | (refine Nat.le_trans (Nat.add_le_add_left (cutL_len _ _ _) _) ?_; (try simp only [List.length_cons, List.length_nil, List.length_append, List.length_map, List.length_replicate]); omega) | (refine Nat.le_trans (Nat.add_le_add_right (cutL_len _ _ _) _) ?_; (try simp only [List.length_cons, List.length_nil, List.length_append, List.length_map, List.length_replicate]); omega))) ?_) | ((with_reducible show OpD (uAdd _) _ _ _ _); refine od_addl rfl rfl (by (first | (with_reducible assumption) | decide | ((try simp only [List.length_cons, List.length_nil, List.length_append, List.length_map, List.length_replicate]); omega) | (refine Nat.le_trans (cutL_len _ _ _) ?_; (try simp only [List.length_cons, List.length_nil, List.length_append, List.length_map, List.length_replicate]); omega) | (refine Nat.le_trans (Nat.add_le_add_left (cutL_len _ _ _) _) ?_; (try simp only [List.length_cons, List.length_nil, List.length_append, List.length_map, List.length_replicate]); omega) | (refine Nat.le_trans (Nat.add_le_add_right (cutL_len _ _ _) _) ?_; (try simp only [List.length_cons, List.length_nil, List.length_append, List.length_map, List.length_replicate]); omega))) ?_) | ((with_reducible show OpD (rI0 fun i j => .int (i - j)) _ _ _ _); refine od_sub ?_) | ((with_reducible show OpD uMul (.d (.int _)) (.d (.int _)) _ _); (first | refine od_mul (mul_r (by (first | omega | decide | (simp; omega)))) ?_ | refine od_mul (mul_l (by (first | omega | decide | (simp; omega)))) ?_ | refine od_mul (mul_ok (by (first | omega | decide | (simp; omega))) (by (first | omega | decide | (simp; omega)))) ?_)) | ((with_reducible show OpD (rI CDivW _) _ _ _ _); refine od_div (by (first | omega | decide | (simp; omega))) ?_) | ((with_reducible show OpD (rI CPow _) (.d (.int 10)) _ _ _); (first | (with_reducible refine od_p60 ?_) | (with_reducible refine od_p59 ?_) | (with_reducible refine od_p20 ?_) | (with_reducible refine od_p40 ?_) | (with_reducible refine od_p6 ?_) | (with_reducible refine od_p9 ?_) | (with_reducible refine od_p50 ?_) | (with_reducible refine od_p58 ?_) | (with_reducible refine od_p30 ?_) | (with_reducible refine od_p3 ?_))) | ((with_reducible show OpD (rI CPow _) _ _ _ _); refine od_pow (by decide) ?_) | ((with_reducible show OpD (rI0 fun i j => .bl (decide (i < j))) _ _ _ _); refine od_lt ?_) | ((with_reducible show OpD (rI0 fun i j => .bl (decide (i ≤ j))) _ _ _ _); refine od_le ?_) | ((with_reducible show OpD (rI0 fun i j => .bl (decide (j < i))) _ _ _ _); refine od_gt ?_) | ((with_reducible show OpD (rI0 fun i j => .bl (decide (j ≤ i))) _ _ _ _); refine od_ge ?_) | ((with_reducible show OpD (rI _ _) _ _ _ _); refine od_mod (by (first | omega | decide | (simp; omega))) ?_) | ((with_reducible show OpD (uEq _) _ _ _ _); (first | refine od_eq rfl rfl (by first | exact .int _ _ | exact .str _ _ | exact .bl _ _ | exact .nn | exact .ni _ | exact .in_ _ | exact .ns _ | exact .sn _) ?_ | refine od_eqS rfl rfl (by first | (with_reducible assumption) | decide +kernel | rfl) ?_ | refine od_eq rfl rfl (.dat (by first | (with_reducible assumption) | decide +kernel | rfl) (by first | (with_reducible assumption) | decide +kernel | rfl)) ?_)) | ((with_reducible show OpD (uNe _) _ _ _ _); (first | (with_reducible refine od_nenm ?_) | refine od_ne rfl rfl (by first | exact .int _ _ | exact .str _ _ | exact .bl _ _ | exact .nn | exact .ni _ | exact .in_ _ | exact .ns _ | exact .sn _) ?_ | refine od_neS rfl rfl (by first | (with_reducible assumption) | decide +kernel | rfl) ?_ | refine od_ne rfl rfl (.dat (by first | (with_reducible assumption) | decide +kernel | rfl) (by first | (with_reducible assumption) | decide +kernel | rfl)) ?_)) | ((with_reducible show OpD (uNin _) (.d (.str _)) (.d (.str _)) _ _); refine od_nins ?_) | ((with_reducible show OpD (uIn _) (.d (.str _)) (.d (.str _)) _ _); refine od_ins ?_) | ((with_reducible show OpD (uIn _) (.d _) (.r (.ref _)) _ _); refine od_inO (by ((repeat with_reducible first | exact Pick.zero | apply Pick.succ); (first | (all_goals fail) | fail))) rfl (by with_reducible assumption) ?_) | ((with_reducible show OpD (uNin _) (.d _) (.r (.ref _)) _ _); refine od_ninO (by ((repeat with_reducible first | exact Pick.zero | apply Pick.succ); (first | (all_goals fail) | fail))) rfl (by with_reducible assumption) ?_) | ((with_reducible show OpD uIs _ _ _ _); (first | (with_reducible refine od_isnm ?_) | refine od_is rfl ?_)) | ((with_reducible show OpD uIsn _ _ _ _); (first | (with_reducible refine od_isnnm ?_) | refine od_isn rfl ?_)) | ((with_reducible show OpD (rIx _) (.r (.ref _)) _ _ _); refine od_ixo (by ((repeat with_reducible first | exact Pick.zero | apply Pick.succ); (first | (all_goals fail) | fail))) (by first | rfl | with_reducible assumption) (by exact fun _ z => nomatch z) ?_) | ((with_reducible show OpD (rIx _) (.d (.str _)) _ _ _); refine od_ixt (by (first | (with_reducible assumption) | decide | ((try simp only [List.length_cons, List.length_nil, List.length_append, List.length_map, List.length_replicate]); omega) | (refine Nat.le_trans (cutL_len _ _ _) ?_; (try simp only [List.length_cons, List.length_nil, List.length_append, List.length_map, List.length_replicate]); omega) | (refine Nat.le_trans (Nat.add_le_add_left (cutL_len _ _ _) _) ?_; (try simp only [List.length_cons, List.length_nil, List.length_append, List.length_map, List.length_replicate]); omega) | (refine Nat.le_trans (Nat.add_le_add_right (cutL_len _ _ _) _) ?_; (try simp only [List.length_cons, List.length_nil, List.length_append, List.length_map, List.length_replicate]); omega))) (by with_reducible assumption) ?_) | ((with_reducible show OpD (rIx _) _ _ _ _); refine od_ixs rfl (by first | rfl | with_reducible assumption) ?_))) | ((with_reducible show DS _ _ _ _ _); (first | ((with_reducible show DS _ (.Assign [.Subscript (.Attribute _ "my_rows" _) _ _] (.Call (.Name "list" _) [_] _ _) _) _ _ _); refine ds_dput (dx_listU ?_)) | ((with_reducible show DS _ (.Assign [.Subscript (.Attribute _ "my_rows" _) _ _] _ _) _ _ _); refine ds_dput ?_) | ((with_reducible show DS _ (.Assign [.Subscript (.Name "_law_rows" _) _ _] _ _) _ _ _); refine ds_dput ?_) | ((with_reducible show DS _ (.Assign [.Name "_law_handed" _] (.Call (.Name "list" _) _ _ _) _) _ _ _); refine ds_set (dx_listU ?_)) | ((with_reducible show DS _ (.Assign [.Name _ _] _ _) _ _ _); (fail_if_success (with_reducible show DS _ (.Assign _ (.List [] _) _) _ _ _)); (fail_if_success (with_reducible show DS _ (.Assign _ (.ListComp _ _ _ _) _) _ _ _)); refine ds_set ?_) | ((with_reducible show DS _ (.Assign [.Attribute _ _ _] _ _) _ _ _); (fail_if_success (with_reducible show DS _ (.Assign _ (.List _ _) _) _ _ _)); (fail_if_success (with_reducible show DS _ (.Assign _ (.ListComp _ _ _ _) _) _ _ _)); refine ds_fld ?_) | ((with_reducible show DS _ (.Assign [.Subscript _ _ _] _ _) _ _ _); (fail_if_success (with_reducible show DS _ (.Assign [.Subscript (.Subscript _ _ _) _ _] _ _) _ _ _)); refine ds_seti ?_) | ((with_reducible show DS _ (.Return (some _) _) _ _ _); refine ds_ret ?_) | ((with_reducible show DS _ (.Return none _) _ _ _); refine ds_retN ?_) | ((with_reducible show DS _ (.If _ _ _ _) _ _ _); refine ds_if ?_) | ((with_reducible show DS _ (.Expr (.Constant _ _ _) _) _ _ _); refine ds_doc ?_) | ((with_reducible show DS _ (.Expr _ _) _ _ _); refine ds_expr ?_) | ((with_reducible show DS _ (.Pass _) _ _ _); refine ds_pass ?_) | ((with_reducible show DS _ (.Break _) _ _ _); refine ds_break ?_) | ((with_reducible show DS _ (.Continue _) _ _ _); refine ds_continue ?_) | ((with_reducible show DS _ (.Raise (some (.Call (.Name _ _) [.Constant (.str _) _ _] [] _)) none _) _ _ _); refine ds_raise (by with_reducible assumption) (by decide +kernel) (by decide +kernel) ?_))) | ((with_reducible show DSs _ _ _ _ _); (first | ((with_reducible show DSs _ (_ :: _) _ _ _); refine dss_cons ?_) | ((with_reducible show DSs _ [] _ _ _); refine dss_nil ?_))) | ((with_reducible show DT _ _ _ _ _); (first | ((with_reducible show DT _ (.Compare _ [.In] [(.Attribute _ "my_rows" _)] _) _ _ _); refine dt_din ?_) | ((with_reducible show DT _ (.Compare _ [.NotIn] [(.Attribute _ "my_rows" _)] _) _ _ _); refine dt_dnin ?_) | ((with_reducible show DT _ (.Compare _ [.In] [(.Name "_law_rows" _)] _) _ _ _); refine dt_din ?_) | ((with_reducible show DT _ (.Compare _ [.NotIn] [(.Name "_law_rows" _)] _) _ _ _); refine dt_dnin ?_) | ((with_reducible show DT _ (.BoolOp _ _ _) _ _ _); refine dt_bool ?_) | ((with_reducible show DT _ (.UnaryOp .Not _ _) _ _ _); refine dt_not ?_) | ((with_reducible show DT _ (.Compare _ [_] _ _) _ _ _); (first | ((with_reducible show DT _ (.Compare _ [.Eq] [_] _) _ _ _); refine dt_cmp cEq (nomark _) ?_) | ((with_reducible show DT _ (.Compare _ [.NotEq] [_] _) _ _ _); refine dt_cmp cNe (nomark _) ?_) | ((with_reducible show DT _ (.Compare _ [.Lt] [_] _) _ _ _); refine dt_cmp op_lt (nomark _) ?_) | ((with_reducible show DT _ (.Compare _ [.LtE] [_] _) _ _ _); refine dt_cmp op_le (nomark _) ?_) | ((with_reducible show DT _ (.Compare _ [.Gt] [_] _) _ _ _); refine dt_cmp op_gt (nomark _) ?_) | ((with_reducible show DT _ (.Compare _ [.GtE] [_] _) _ _ _); refine dt_cmp op_ge (nomark _) ?_) | ((with_reducible show DT _ (.Compare _ [.Is] [_] _) _ _ _); refine dt_cmp op_uIs (nomark _) ?_) | ((with_reducible show DT _ (.Compare _ [.IsNot] [_] _) _ _ _); refine dt_cmp op_uIsn (nomark _) ?_) | ((with_reducible show DT _ (.Compare _ [.In] [_] _) _ _ _); refine dt_cmp cIn (rfl) ?_) | ((with_reducible show DT _ (.Compare _ [.NotIn] [_] _) _ _ _); refine dt_cmp cNin (rfl) ?_))) | ((with_reducible show DT _ (.Compare _ [_, _] _ _) _ _ _); (first | ((with_reducible show DT _ (.Compare _ [.LtE, .Lt] [_, _] _) _ _ _); refine dt_chain op_le op_lt ?_) | ((with_reducible show DT _ (.Compare _ [.LtE, .LtE] [_, _] _) _ _ _); refine dt_chain op_le op_le ?_))) | ((with_reducible show DT _ _ _ _ _); refine dt_tru ?_))) | ((with_reducible show DW _ _ _ _ _); (first | ((with_reducible show DW _ (.BoolOp .And [_] _) _ _ _); refine dw_and1 ?_) | ((with_reducible show DW _ (.BoolOp .Or [_] _) _ _ _); refine dw_or1 ?_) | ((with_reducible show DW _ (.BoolOp .And _ _) _ _ _); refine dw_and ?_) | ((with_reducible show DW _ (.BoolOp .Or _ _) _ _ _); refine dw_or ?_))) | ((with_reducible show DA _ _ _ _ _); (first | ((with_reducible show DA _ (.Call (.Attribute _ "row_of_sheet" _) _ _ _ :: _) _ _ _); refine da_cons (dx_frz ?_)) | ((with_reducible show DA _ (_ :: _) _ _ _); refine da_cons ?_) | ((with_reducible show DA _ [] _ _ _); refine da_nil ?_))) | ((with_reducible show if _ = true then _ else _); (first | (with_reducible refine ite_tt ?_) | (with_reducible refine ite_ff ?_) | (with_reducible refine ite_nt ?_) | (with_reducible refine ite_nf ?_) | ((with_reducible show if decide _ = true then _ else _); first | refine ite_dt (by (first | (with_reducible assumption) | omega | decide +kernel | ((simp only [List.length_cons, List.length_nil, List.length_map, List.length_append]); omega) | ((simp only [List.length_cons, List.length_nil, List.length_map, List.length_append]); (first | (all_goals fail) | fail)))) ?_ | refine ite_df (by (first | (with_reducible assumption) | omega | decide +kernel | ((simp only [List.length_cons, List.length_nil, List.length_map, List.length_append]); omega) | ((simp only [List.length_cons, List.length_nil, List.length_map, List.length_append]); (first | (all_goals fail) | fail)))) ?_) | ((with_reducible show if (!decide _) = true then _ else _); first | refine ite_ndf (by (first | (with_reducible assumption) | omega | decide +kernel | ((simp only [List.length_cons, List.length_nil, List.length_map, List.length_append]); omega) | ((simp only [List.length_cons, List.length_nil, List.length_map, List.length_append]); (first | (all_goals fail) | fail)))) ?_ | refine ite_ndt (by (first | (with_reducible assumption) | omega | decide +kernel | ((simp only [List.length_cons, List.length_nil, List.length_map, List.length_append]); omega) | ((simp only [List.length_cons, List.length_nil, List.length_map, List.length_append]); (first | (all_goals fail) | fail)))) ?_) | (with_reducible refine ite_nn ?_) | ((with_reducible show if PyData.eqv _ _ = true then _ else _); first | refine ite_t (by decide +kernel) ?_ | refine ite_f (by decide +kernel) ?_ | refine ite_t rfl ?_ | refine ite_f rfl ?_) | ((with_reducible show if (!PyData.eqv _ _) = true then _ else _); first | refine ite_t (by decide +kernel) ?_ | refine ite_f (by decide +kernel) ?_ | refine ite_t rfl ?_ | refine ite_f rfl ?_) | ((with_reducible show if wholeD (.int _) = true then _ else _); refine ite_t rfl ?_) | ((with_reducible show if (!wholeD (.int _)) = true then _ else _); refine ite_f rfl ?_) | ((with_reducible show if isD _ _ = true then _ else _); first | refine ite_t rfl ?_ | refine ite_f rfl ?_) | ((with_reducible show if (!isD _ _) = true then _ else _); first | refine ite_t rfl ?_ | refine ite_f rfl ?_))) | ((with_reducible show Exists _); (first | (with_reducible refine me_shelf (by ((repeat with_reducible first | exact Pick.zero | apply Pick.succ); (first | (all_goals fail) | fail))) (by decide +kernel) ?_) | ((with_reducible show ∃ i ρ', SetS _ _ _ i _ ρ' ∧ _); refine ⟨_, _, by ((repeat with_reducible first | exact SetS.zero | apply SetS.succ); (first | (all_goals fail) | fail)), ?_⟩) | (with_reducible refine ex_list rfl ?_) | ((with_reducible show ∃ ds, Sl.asSeq _ = some ds ∧ _); refine ex_seq rfl ?_) | ((with_reducible show ∃ ds, Datas _ ds ∧ _); refine ex_datas (by ((repeat with_reducible first | exact datas_nil | apply datas_cons); (first | (all_goals fail) | fail))) (by first | exact Nat.le_of_ble_eq_true rfl | (first | (with_reducible assumption) | decide | ((try simp only [List.length_cons, List.length_nil, List.length_append, List.length_map, List.length_replicate]); omega) | (refine Nat.le_trans (cutL_len _ _ _) ?_; (try simp only [List.length_cons, List.length_nil, List.length_append, List.length_map, List.length_replicate]); omega) | (refine Nat.le_trans (Nat.add_le_add_left (cutL_len _ _ _) _) ?_; (try simp only [List.length_cons, List.length_nil, List.length_append, List.length_map, List.length_replicate]); omega) | (refine Nat.le_trans (Nat.add_le_add_right (cutL_len _ _ _) _) ?_; (try simp only [List.length_cons, List.length_nil, List.length_append, List.length_map, List.length_replicate]); omega))) ?_) | ((with_reducible show ∃ C p fs g sl, _ = Sl.r (.ref p) ∧ Pick _ (insM C p fs) g ∧ FldC _ C _ ∧ FldAt fs _ sl ∧ _); refine ex_fld (by ((repeat with_reducible first | exact Pick.zero | apply Pick.succ); (first | (all_goals fail) | fail))) (fldc (by with_reducible assumption) (by decide +kernel)) (by ((repeat with_reducible first | exact FldAt.zero | apply FldAt.succ); (first | (all_goals fail) | fail))) (by (simp only [List.map_cons, List.map_nil]); decide +kernel) (by exact fun _ z => nomatch z) ?_) | ((with_reducible show ∃ C p fs g fs2, _ = Sl.r (.ref p) ∧ Pick _ (insM C p fs) g ∧ FldC _ C _ ∧ (FldSet fs _ _ fs2 ∨ _) ∧ _); first | refine ex_fset (by ((repeat with_reducible first | exact Pick.zero | apply Pick.succ); (first | (all_goals fail) | fail))) (fldc (by with_reducible assumption) (by decide +kernel)) (by ((repeat with_reducible first | exact FldSet.zero | apply FldSet.succ); (first | (all_goals fail) | fail))) (by (simp only [List.map_cons, List.map_nil]); decide +kernel) (by exact Nat.le_of_ble_eq_true rfl) ?_ | refine ex_fnew (by ((repeat with_reducible first | exact Pick.zero | apply Pick.succ); (first | (all_goals fail) | fail))) (fldc (by with_reducible assumption) (by decide +kernel)) (by (simp only [List.map_cons, List.map_nil]); decide +kernel) (by (simp only [List.map_cons, List.map_nil]); decide +kernel) (by exact Nat.le_of_ble_eq_true rfl) ?_) | ((with_reducible show ∃ p ss f k j, _ = Sl.r (.ref p) ∧ _ = Sl.d (.int k) ∧ _); refine ex_seti (by ((repeat with_reducible first | exact Pick.zero | apply Pick.succ); (first | (all_goals fail) | fail))) (by first | with_reducible assumption | rfl) ?_) | (with_reducible refine ex_frz (by ((repeat with_reducible first | exact Pick.zero | apply Pick.succ); (first | (all_goals fail) | fail))) ?_) | (with_reducible refine ex_own (by ((repeat with_reducible first | exact Pick.zero | apply Pick.succ); (first | (all_goals fail) | fail))) ?_) | (with_reducible refine ex_app (by ((repeat with_reducible first | exact Pick.zero | apply Pick.succ); (first | (all_goals fail) | fail))) (by (first | (with_reducible assumption) | decide | ((try simp only [List.length_cons, List.length_nil, List.length_append, List.length_map, List.length_replicate]); omega) | (refine Nat.le_trans (cutL_len _ _ _) ?_; (try simp only [List.length_cons, List.length_nil, List.length_append, List.length_map, List.length_replicate]); omega) | (refine Nat.le_trans (Nat.add_le_add_left (cutL_len _ _ _) _) ?_; (try simp only [List.length_cons, List.length_nil, List.length_append, List.length_map, List.length_replicate]); omega) | (refine Nat.le_trans (Nat.add_le_add_right (cutL_len _ _ _) _) ?_; (try simp only [List.length_cons, List.length_nil, List.length_append, List.length_map, List.length_replicate]); omega))) ?_) | ((with_reducible show ∃ ys, RefsE _ _ ys ∧ _); (first | refine ex_refs (w := false) (by ((repeat with_reducible first | exact RefsE.nil | apply RefsE.cons); (first | (all_goals fail) | fail))) (by decide +kernel) ?_ | refine ex_refs (w := true) (by ((repeat with_reducible first | exact RefsE.nil | apply RefsE.cons); (first | (all_goals fail) | fail))) (by decide +kernel) ?_)) | ((with_reducible show ∃ rs', Ent [_] (rs' ++ [_]) ∧ _); (refine end_ex ?_; with_reducible assumption)) | ((with_reducible show ∃ ρ', SetS _ _ _ _ _ ρ' ∧ _); refine ⟨_, by ((repeat with_reducible first | exact SetS.zero | apply SetS.succ); (first | (all_goals fail) | fail)), ?_⟩) | (with_reducible refine ex_rep (by ((repeat with_reducible first | exact Pick.zero | apply Pick.succ); (first | (all_goals fail) | fail))) (by (first | omega | decide | (simp; omega))) ?_) | (with_reducible refine ex_dat ?_) | (with_reducible refine ex_int ?_) | (with_reducible refine ex_str ?_) | (with_reducible refine ex_dic (by ((repeat with_reducible first | exact Pick.zero | apply Pick.succ); (first | (all_goals fail) | fail))) ?_) | (with_reducible refine ex_din1 (by ((repeat with_reducible first | exact Pick.zero | apply Pick.succ); (first | (all_goals fail) | fail))) ?_) | (with_reducible refine ex_din2 (by ((repeat with_reducible first | exact Pick.zero | apply Pick.succ); (first | (all_goals fail) | fail))) ?_) | (with_reducible refine ex_dlen (by ((repeat with_reducible first | exact Pick.zero | apply Pick.succ); (first | (all_goals fail) | fail))) ?_) | ((with_reducible show ∃ p kvs f k, _ = Sl.r (.ref p) ∧ _ = Sl.d (keyD k) ∧ Pick _ (dictM p kvs) f ∧ kvs.length ≤ _ ∧ _); first | refine ex_dputI (by ((repeat with_reducible first | exact Pick.zero | apply Pick.succ); (first | (all_goals fail) | fail))) (by (first | (with_reducible assumption) | decide | ((try simp only [List.length_cons, List.length_nil, List.length_append, List.length_map, List.length_replicate]); omega) | (refine Nat.le_trans (cutL_len _ _ _) ?_; (try simp only [List.length_cons, List.length_nil, List.length_append, List.length_map, List.length_replicate]); omega) | (refine Nat.le_trans (Nat.add_le_add_left (cutL_len _ _ _) _) ?_; (try simp only [List.length_cons, List.length_nil, List.length_append, List.length_map, List.length_replicate]); omega) | (refine Nat.le_trans (Nat.add_le_add_right (cutL_len _ _ _) _) ?_; (try simp only [List.length_cons, List.length_nil, List.length_append, List.length_map, List.length_replicate]); omega))) ?_ | refine ex_dputS (by ((repeat with_reducible first | exact Pick.zero | apply Pick.succ); (first | (all_goals fail) | fail))) (by (first | (with_reducible assumption) | decide | ((try simp only [List.length_cons, List.length_nil, List.length_append, List.length_map, List.length_replicate]); omega) | (refine Nat.le_trans (cutL_len _ _ _) ?_; (try simp only [List.length_cons, List.length_nil, List.length_append, List.length_map, List.length_replicate]); omega) | (refine Nat.le_trans (Nat.add_le_add_left (cutL_len _ _ _) _) ?_; (try simp only [List.length_cons, List.length_nil, List.length_append, List.length_map, List.length_replicate]); omega) | (refine Nat.le_trans (Nat.add_le_add_right (cutL_len _ _ _) _) ?_; (try simp only [List.length_cons, List.length_nil, List.length_append, List.length_map, List.length_replicate]); omega))) ?_) | ((with_reducible show ∃ p kvs f k, _ = Sl.r (.ref p) ∧ _ = Sl.d (keyD k) ∧ Pick _ (dictM p kvs) f ∧ _); first | refine ex_din1 (by ((repeat with_reducible first | exact Pick.zero | apply Pick.succ); (first | (all_goals fail) | fail))) ?_ | refine ex_din2 (by ((repeat with_reducible first | exact Pick.zero | apply Pick.succ); (first | (all_goals fail) | fail))) ?_) | ((with_reducible show ∃ kvs f k s, _ = Sl.d (keyD k) ∧ Pick _ (dictM _ kvs) f ∧ valS kvs k = some s ∧ _); first | refine ex_dpopI (by ((repeat with_reducible first | exact Pick.zero | apply Pick.succ); (first | (all_goals fail) | fail))) (by with_reducible assumption) (by exact fun _ z => nomatch z) ?_ | refine ex_dpopS (by ((repeat with_reducible first | exact Pick.zero | apply Pick.succ); (first | (all_goals fail) | fail))) (by with_reducible assumption) (by exact fun _ z => nomatch z) ?_) | ((with_reducible show ∃ p kvs f k s, _ = Sl.r (.ref p) ∧ _ = Sl.d (keyD k) ∧ Pick _ (dictM p kvs) f ∧ _); first | refine ex_dget (by ((repeat with_reducible first | exact Pick.zero | apply Pick.succ); (first | (all_goals fail) | fail))) (by with_reducible assumption) (by exact fun _ z => nomatch z) ?_ | refine ex_dgetS (by ((repeat with_reducible first | exact Pick.zero | apply Pick.succ); (first | (all_goals fail) | fail))) (by with_reducible assumption) (by exact fun _ z => nomatch z) ?_))) | (first | (with_reducible refine kt ?_) | ((with_reducible show ∀ _ : Addr, _); intro q) | ((with_reducible show Le _ _ ∧ _ = _); exact ⟨by ((repeat with_reducible first | exact Le.nil | apply Le.eq | apply Le.un); (first | (all_goals fail) | fail)), rfl⟩) | ((with_reducible show CallEnd _ _ _ _ _ _); (first | ((with_reducible refine ce_shelf (by ((repeat with_reducible first | exact Pick.zero | apply Pick.succ); (first | (all_goals fail) | fail))) ?_); (first | refine ⟨_, rfl, rfl, by (first | (with_reducible trivial) | (with_reducible assumption) | omega | (exact ⟨by with_reducible assumption, by with_reducible assumption⟩)), ?_⟩ | refine ⟨_, _, rfl, rfl, by (first | (with_reducible trivial) | (with_reducible assumption) | omega | (exact ⟨by with_reducible assumption, by with_reducible assumption⟩)), ?_⟩ | refine ⟨_, _, _, rfl, rfl, by (first | (with_reducible trivial) | (with_reducible assumption) | omega | (exact ⟨by with_reducible assumption, by with_reducible assumption⟩)), ?_⟩ | refine ⟨_, _, _, _, rfl, rfl, by (first | (with_reducible trivial) | (with_reducible assumption) | omega | (exact ⟨by with_reducible assumption, by with_reducible assumption⟩)), ?_⟩ | refine ⟨_, _, _, _, _, rfl, rfl, by (first | (with_reducible trivial) | (with_reducible assumption) | omega | (exact ⟨by with_reducible assumption, by with_reducible assumption⟩)), ?_⟩ | refine ⟨_, _, _, _, _, _, rfl, rfl, by (first | (with_reducible trivial) | (with_reducible assumption) | omega | (exact ⟨by with_reducible assumption, by with_reducible assumption⟩)), ?_⟩ | refine ⟨_, _, _, _, _, _, _, rfl, rfl, by (first | (with_reducible trivial) | (with_reducible assumption) | omega | (exact ⟨by with_reducible assumption, by with_reducible assumption⟩)), ?_⟩ | refine ⟨_, _, _, _, _, _, _, _, rfl, rfl, by (first | (with_reducible trivial) | (with_reducible assumption) | omega | (exact ⟨by with_reducible assumption, by with_reducible assumption⟩)), ?_⟩)) | (refine ce_inl ?_; first | refine ⟨_, rfl, rfl, by (first | (with_reducible trivial) | (with_reducible assumption) | omega | (exact ⟨by with_reducible assumption, by with_reducible assumption⟩)), ?_⟩ | refine ⟨_, _, rfl, rfl, by (first | (with_reducible trivial) | (with_reducible assumption) | omega | (exact ⟨by with_reducible assumption, by with_reducible assumption⟩)), ?_⟩ | refine ⟨_, _, _, rfl, rfl, by (first | (with_reducible trivial) | (with_reducible assumption) | omega | (exact ⟨by with_reducible assumption, by with_reducible assumption⟩)), ?_⟩ | refine ⟨_, _, _, _, rfl, rfl, by (first | (with_reducible trivial) | (with_reducible assumption) | omega | (exact ⟨by with_reducible assumption, by with_reducible assumption⟩)), ?_⟩ | refine ⟨_, _, _, _, _, rfl, rfl, by (first | (with_reducible trivial) | (with_reducible assumption) | omega | (exact ⟨by with_reducible assumption, by with_reducible assumption⟩)), ?_⟩ | refine ⟨_, _, _, _, _, _, rfl, rfl, by (first | (with_reducible trivial) | (with_reducible assumption) | omega | (exact ⟨by with_reducible assumption, by with_reducible assumption⟩)), ?_⟩))) | ((with_reducible show CallEnd0 _ _ _ _); (first | ((with_reducible refine ce0_shelf (by ((repeat with_reducible first | exact Pick.zero | apply Pick.succ); (first | (all_goals fail) | fail))) ?_); (first | refine ⟨_, rfl, rfl, by (first | (with_reducible trivial) | (with_reducible assumption) | omega | (exact ⟨by with_reducible assumption, by with_reducible assumption⟩)), ?_⟩ | refine ⟨_, _, rfl, rfl, by (first | (with_reducible trivial) | (with_reducible assumption) | omega | (exact ⟨by with_reducible assumption, by with_reducible assumption⟩)), ?_⟩ | refine ⟨_, _, _, rfl, rfl, by (first | (with_reducible trivial) | (with_reducible assumption) | omega | (exact ⟨by with_reducible assumption, by with_reducible assumption⟩)), ?_⟩ | refine ⟨_, _, _, _, rfl, rfl, by (first | (with_reducible trivial) | (with_reducible assumption) | omega | (exact ⟨by with_reducible assumption, by with_reducible assumption⟩)), ?_⟩ | refine ⟨_, _, _, _, _, rfl, rfl, by (first | (with_reducible trivial) | (with_reducible assumption) | omega | (exact ⟨by with_reducible assumption, by with_reducible assumption⟩)), ?_⟩ | refine ⟨_, _, _, _, _, _, rfl, rfl, by (first | (with_reducible trivial) | (with_reducible assumption) | omega | (exact ⟨by with_reducible assumption, by with_reducible assumption⟩)), ?_⟩ | refine ⟨_, _, _, _, _, _, _, rfl, rfl, by (first | (with_reducible trivial) | (with_reducible assumption) | omega | (exact ⟨by with_reducible assumption, by with_reducible assumption⟩)), ?_⟩ | refine ⟨_, _, _, _, _, _, _, _, rfl, rfl, by (first | (with_reducible trivial) | (with_reducible assumption) | omega | (exact ⟨by with_reducible assumption, by with_reducible assumption⟩)), ?_⟩)))) | ((with_reducible show (bodyPost _ _).rt _ _); (first | (refine end_rt ?_; with_reducible assumption) | refine end_rtT (decide_eq_true (by omega)) (by with_reducible assumption) | refine end_rtT rfl (by with_reducible assumption))) | ((with_reducible show TrD (.d (.bool _)) _ _); refine tr_bool ?_) | ((with_reducible show TrD (.d .none) _ _); refine tr_none ?_) | ((with_reducible show TrD (.d (.int _)) _ _); refine tr_int ?_) | ((with_reducible show TrD (.d (.list _)) _ _); refine tr_list ?_) | ((with_reducible show TrD (.d (.tuple _)) _ _); refine tr_tuple ?_) | ((with_reducible show TrD (.r (.ref _)) _ _); (first | refine tr_own (by ((repeat with_reducible first | exact Pick.zero | apply Pick.succ); (first | (all_goals fail) | fail))) ?_ | refine tr_dict (by ((repeat with_reducible first | exact Pick.zero | apply Pick.succ); (first | (all_goals fail) | fail))) ?_)) | ((with_reducible show CaD (rIsi _) _ _ _); (first | refine cd_isiT (by decide) rfl rfl ?_ | refine cd_isiF (by decide) rfl rfl ?_ | refine cd_isi (by decide) rfl ?_)) | ((with_reducible show CaD _ [.d (.int _), .d (.int _)] _ _); (first | refine cd_min ?_ | refine cd_max ?_)) | ((with_reducible show LenD (.d (.str _)) _ _); refine ld_str (by (first | (with_reducible assumption) | decide | ((try simp only [List.length_cons, List.length_nil, List.length_append, List.length_map, List.length_replicate]); omega) | (refine Nat.le_trans (cutL_len _ _ _) ?_; (try simp only [List.length_cons, List.length_nil, List.length_append, List.length_map, List.length_replicate]); omega) | (refine Nat.le_trans (Nat.add_le_add_left (cutL_len _ _ _) _) ?_; (try simp only [List.length_cons, List.length_nil, List.length_append, List.length_map, List.length_replicate]); omega) | (refine Nat.le_trans (Nat.add_le_add_right (cutL_len _ _ _) _) ?_; (try simp only [List.length_cons, List.length_nil, List.length_append, List.length_map, List.length_replicate]); omega))) ?_) | ((with_reducible show LenD (.r (.ref _)) _ _); refine ld_own (by ((repeat with_reducible first | exact Pick.zero | apply Pick.succ); (first | (all_goals fail) | fail))) ?_) | ((with_reducible show LenD _ _ _); refine ld_seq rfl ?_) | ((with_reducible show SlD _ (.d (.list _)) _ _ _ _); refine sd_list ?_) | ((with_reducible show SlD _ (.n _) _ _ _ _); refine sd_list ?_) | ((with_reducible show SlD _ (.r (.ref _)) _ _ _ _); refine sd_own (by ((repeat with_reducible first | exact Pick.zero | apply Pick.succ); (first | (all_goals fail) | fail))) (fun q => ?_)) | ((with_reducible show SlD _ (.d (.str _)) _ _ _ _); refine sd_str (by (first | (with_reducible assumption) | decide | ((try simp only [List.length_cons, List.length_nil, List.length_append, List.length_map, List.length_replicate]); omega) | (refine Nat.le_trans (cutL_len _ _ _) ?_; (try simp only [List.length_cons, List.length_nil, List.length_append, List.length_map, List.length_replicate]); omega) | (refine Nat.le_trans (Nat.add_le_add_left (cutL_len _ _ _) _) ?_; (try simp only [List.length_cons, List.length_nil, List.length_append, List.length_map, List.length_replicate]); omega) | (refine Nat.le_trans (Nat.add_le_add_right (cutL_len _ _ _) _) ?_; (try simp only [List.length_cons, List.length_nil, List.length_append, List.length_map, List.length_replicate]); omega))) ?_) | ((with_reducible show SlD _ (.d (.tuple [_, _, _, _])) none (some 2) _ _); refine sd_t42 ?_) | ((with_reducible show SlD _ (.d (.tuple [_, _, _, _, _, _])) (some 2) (some 5) _ _); refine sd_t625 ?_) | ((with_reducible show SlD _ (.d (.tuple [_, _, _, _])) (some 2) none _ _); refine sd_t4f2 ?_) | ((with_reducible show SlD _ (.d (.tuple _)) _ _ _ _); refine sd_tup (by first | decide | ((simp only [List.length_cons, List.length_nil]); decide +kernel)) ?_) | ((with_reducible show DO _ none _ _ _); refine do_none ?_) | ((with_reducible show DO _ (some _) _ _ _); refine do_some ?_) | (with_reducible refine ex_eqr ?_) | ((with_reducible show LsD _ _ _); first | refine ls_s (by (first | (with_reducible assumption) | decide | ((try simp only [List.length_cons, List.length_nil, List.length_append, List.length_map, List.length_replicate]); omega) | (refine Nat.le_trans (cutL_len _ _ _) ?_; (try simp only [List.length_cons, List.length_nil, List.length_append, List.length_map, List.length_replicate]); omega) | (refine Nat.le_trans (Nat.add_le_add_left (cutL_len _ _ _) _) ?_; (try simp only [List.length_cons, List.length_nil, List.length_append, List.length_map, List.length_replicate]); omega) | (refine Nat.le_trans (Nat.add_le_add_right (cutL_len _ _ _) _) ?_; (try simp only [List.length_cons, List.length_nil, List.length_append, List.length_map, List.length_replicate]); omega))) ?_ | refine ls_d rfl ?_) | ((with_reducible show LiD _ _ _); first | refine li_o (by ((repeat with_reducible first | exact Pick.zero | apply Pick.succ); (first | (all_goals fail) | fail))) (fun q => ?_) | refine li_d rfl (fun q => ?_)) | ((with_reducible show _ < 1920 ∧ _); refine ⟨log2_ok (by (first | omega | decide | (simp; omega))), ?_⟩) | ((with_reducible show CaD (rIsE _ _ _) [_, .r (.ty _)] _ _); refine cd_isEV (by with_reducible assumption) (by decide +kernel) ?_) | ((with_reducible show CaD (rIsE _ _ _) _ _ _); (first | refine cd_isE1 (r := true) (by with_reducible assumption) (by decide +kernel) (by decide +kernel) (by decide +kernel) ?_ | refine cd_isE1 (r := false) (by with_reducible assumption) (by decide +kernel) (by decide +kernel) (by decide +kernel) ?_)))) | dsimp only [List.nil_append, List.cons_append, Sl.plain])))
local macro_rules | `(tactic| walk_at "auto") => `(tactic| (repeat' (first | (first | ((with_reducible show DX _ _ _ _ _); (first | ((with_reducible show DX _ (.Subscript (.Attribute _ "my_rows" _) _ _) _ _ _); refine dx_dget ?_) | ((with_reducible show DX _ (.Call (.Attribute (.Attribute _ "my_rows" _) "get" _) [_] _ _) _ _ _); refine dx_dget1 ?_) | ((with_reducible show DX _ (.Call (.Attribute (.Attribute _ "my_rows" _) "get" _) [_, _] _ _) _ _ _); refine dx_dget2 ?_) | ((with_reducible show DX _ (.Call (.Attribute (.Attribute _ "my_rows" _) "pop" _) [_] _ _) _ _ _); refine dx_dpop1 ?_) | ((with_reducible show DX _ (.Call (.Attribute (.Attribute _ "my_rows" _) "pop" _) [_, _] _ _) _ _ _); refine dx_dpop2 ?_) | ((with_reducible show DX _ (.Call (.Name "len" _) [(.Attribute _ "my_rows" _)] _ _) _ _ _); refine dx_dlen ?_) | ((with_reducible show DX _ (.Call (.Name "list" _) [(.Attribute _ "my_rows" _)] _ _) _ _ _); refine dx_dlist ?_) | ((with_reducible show DX _ (.Call (.Name "dict" _) [(.Attribute _ "my_rows" _)] _ _) _ _ _); refine dx_dictO ?_) | ((with_reducible show DX _ (.Call (.Name "sorted" _) [(.Attribute _ "my_rows" _)] _ _) _ _ _); refine dx_sortedD ?_) | ((with_reducible show DX _ (.Compare _ [.In] [(.Attribute _ "my_rows" _)] _) _ _ _); refine dx_din ?_) | ((with_reducible show DX _ (.Compare _ [.NotIn] [(.Attribute _ "my_rows" _)] _) _ _ _); refine dx_dnin ?_) | ((with_reducible show DX _ (.Subscript (.Name "_law_rows" _) _ _) _ _ _); refine dx_dget ?_) | ((with_reducible show DX _ (.Call (.Attribute (.Name "_law_rows" _) "get" _) [_] _ _) _ _ _); refine dx_dget1 ?_) | ((with_reducible show DX _ (.Call (.Attribute (.Name "_law_rows" _) "get" _) [_, _] _ _) _ _ _); refine dx_dget2 ?_) | ((with_reducible show DX _ (.Call (.Attribute (.Name "_law_rows" _) "pop" _) [_] _ _) _ _ _); refine dx_dpop1 ?_) | ((with_reducible show DX _ (.Call (.Attribute (.Name "_law_rows" _) "pop" _) [_, _] _ _) _ _ _); refine dx_dpop2 ?_) | ((with_reducible show DX _ (.Call (.Name "len" _) [(.Name "_law_rows" _)] _ _) _ _ _); refine dx_dlen ?_) | ((with_reducible show DX _ (.Call (.Name "list" _) [(.Name "_law_rows" _)] _ _) _ _ _); refine dx_dlist ?_) | ((with_reducible show DX _ (.Call (.Name "dict" _) [(.Name "_law_rows" _)] _ _) _ _ _); refine dx_dictO ?_) | ((with_reducible show DX _ (.Call (.Name "sorted" _) [(.Name "_law_rows" _)] _ _) _ _ _); refine dx_sortedD ?_) | ((with_reducible show DX _ (.Compare _ [.In] [(.Name "_law_rows" _)] _) _ _ _); refine dx_din ?_) | ((with_reducible show DX _ (.Compare _ [.NotIn] [(.Name "_law_rows" _)] _) _ _ _); refine dx_dnin ?_) | ((with_reducible show DX _ (.Name _ _) _ _ _); (first | refine dx_name (by ((repeat with_reducible first | exact Slot.zero | apply Slot.succ); (first | (all_goals fail) | fail))) (by exact fun e => nomatch e) ?_ | refine dx_gint (by with_reducible assumption) ?_ | refine dx_gstr (by with_reducible assumption) ?_ | refine dx_gcls (by with_reducible assumption) (by decide +kernel) ?_ | ((with_reducible show DX _ (.Name "int" _) _ _ _); refine dx_tint ?_) | ((with_reducible show DX _ (.Name "bool" _) _ _ _); refine dx_tbool ?_) | ((with_reducible show DX _ (.Name "str" _) _ _ _); refine dx_tstr ?_) | ((with_reducible show DX _ (.Name "list" _) _ _ _); refine dx_tlist ?_) | ((with_reducible show DX _ (.Name "tuple" _) _ _ _); refine dx_ttuple ?_) | ((with_reducible show DX _ (.Name "ValueError" _) _ _ _); refine dx_tVE (by with_reducible assumption) ?_))) | ((with_reducible show DX _ (.Constant _ _ _) _ _ _); (first | ((with_reducible show DX _ (.Constant (.int _) _ _) _ _ _); refine dx_int ?_) | ((with_reducible show DX _ (.Constant (.str _) _ _) _ _ _); refine dx_str ?_) | ((with_reducible show DX _ (.Constant (.bool _) _ _) _ _ _); refine dx_bl ?_) | refine dx_non ?_)) | ((with_reducible show DX _ (.BinOp (.List [_] _) .Mult _ _) _ _ _); refine dx_repD ?_) | ((with_reducible show DX _ (.BinOp _ _ _ _) _ _ _); (first | ((with_reducible show DX _ (.BinOp _ .Add _ _) _ _ _); refine dx_bin cAdd ?_) | ((with_reducible show DX _ (.BinOp _ .Sub _ _) _ _ _); refine dx_bin op_sub ?_) | ((with_reducible show DX _ (.BinOp _ .Mult _ _) _ _ _); refine dx_bin op_uMul ?_) | ((with_reducible show DX _ (.BinOp _ .FloorDiv _ _) _ _ _); refine dx_bin op_fdivW ?_) | ((with_reducible show DX _ (.BinOp _ .Mod _ _) _ _ _); refine dx_bin op_mod ?_) | ((with_reducible show DX _ (.BinOp _ .Pow _ _) _ _ _); refine dx_bin op_pow ?_))) | ((with_reducible show DX _ (.Compare _ [_] _ _) _ _ _); (first | ((with_reducible show DX _ (.Compare _ [.Eq] [_] _) _ _ _); refine dx_cmp cEq (nomark _) ?_) | ((with_reducible show DX _ (.Compare _ [.NotEq] [_] _) _ _ _); refine dx_cmp cNe (nomark _) ?_) | ((with_reducible show DX _ (.Compare _ [.Lt] [_] _) _ _ _); refine dx_cmp op_lt (nomark _) ?_) | ((with_reducible show DX _ (.Compare _ [.LtE] [_] _) _ _ _); refine dx_cmp op_le (nomark _) ?_) | ((with_reducible show DX _ (.Compare _ [.Gt] [_] _) _ _ _); refine dx_cmp op_gt (nomark _) ?_) | ((with_reducible show DX _ (.Compare _ [.GtE] [_] _) _ _ _); refine dx_cmp op_ge (nomark _) ?_) | ((with_reducible show DX _ (.Compare _ [.Is] [_] _) _ _ _); refine dx_cmp op_uIs (nomark _) ?_) | ((with_reducible show DX _ (.Compare _ [.IsNot] [_] _) _ _ _); refine dx_cmp op_uIsn (nomark _) ?_) | ((with_reducible show DX _ (.Compare _ [.In] [_] _) _ _ _); refine dx_cmp cIn (rfl) ?_) | ((with_reducible show DX _ (.Compare _ [.NotIn] [_] _) _ _ _); refine dx_cmp cNin (rfl) ?_))) | ((with_reducible show DX _ (.Compare _ [_, _] _ _) _ _ _); (first | ((with_reducible show DX _ (.Compare _ [.LtE, .Lt] [_, _] _) _ _ _); refine dx_chain op_le op_lt ?_) | ((with_reducible show DX _ (.Compare _ [.LtE, .LtE] [_, _] _) _ _ _); refine dx_chain op_le op_le ?_))) | ((with_reducible show DX _ (.BoolOp _ [_] _) _ _ _); refine dx_one ?_) | ((with_reducible show DX _ (.BoolOp .And _ _) _ _ _); refine dx_and ?_) | ((with_reducible show DX _ (.BoolOp .Or _ _) _ _ _); refine dx_or ?_) | ((with_reducible show DX _ (.UnaryOp .Not _ _) _ _ _); refine dx_not ?_) | ((with_reducible show DX _ (.UnaryOp _ _ _) _ _ _); refine dx_neg ?_) | ((with_reducible show DX _ (.Subscript _ (.Slice _ _ _ _) _) _ _ _); refine dx_slice ?_) | ((with_reducible show DX _ (.Subscript _ _ _) _ _ _); refine dx_ix cIx ?_) | ((with_reducible show DX _ (.Tuple _ _ _) _ _ _); refine dx_tup ?_) | ((with_reducible show DX _ (.IfExp _ _ _ _) _ _ _); refine dx_ifExp ?_) | ((with_reducible show DX _ (.List _ _) _ _ _); refine dx_lst ?_) | ((with_reducible show DX _ (.Dict [] [] _) _ _ _); refine dx_dnew ?_) | ((with_reducible show DX _ (.Attribute _ _ _) _ _ _); refine dx_fld ?_) | ((with_reducible show DX _ (.Call (.Attribute _ "clear" _) [] _ _) _ _ _); refine dx_clear ?_) | ((with_reducible show DX _ (.Call (.Attribute _ "pop" _) [] _ _) _ _ _); refine dx_pop ?_) | ((with_reducible show DX _ (.Call (.Attribute _ _ _) [] _ _) _ _ _); refine dx_meth0 (by with_reducible assumption) (by with_reducible assumption) ?_) | ((with_reducible show DX _ (.Call (.Name _ _) [] _ _) _ _ _); refine dx_call0 (by with_reducible assumption) ?_) | ((with_reducible show DX _ (.Call (.Attribute _ "append" _) [_] _ _) _ _ _); refine dx_append ?_) | ((with_reducible show DX _ (.Call (.Attribute _ "join" _) [_] _ _) _ _ _); refine dx_join ?_) | ((with_reducible show DX _ (.Call (.Attribute _ "find" _) [_] _ _) _ _ _); refine dx_find ?_) | ((with_reducible show DX _ (.Call (.Attribute (.Constant (.str _) _ _) "index" _) [_] _ _) _ _ _); refine dx_sindex ?_) | ((with_reducible show DX _ (.Call (.Attribute _ "split" _) [_] _ _) _ _ _); refine dx_split ?_) | ((with_reducible show DX _ (.Call (.Attribute _ _ _) _ _ _) _ _ _); refine dx_meth (by with_reducible assumption) (by with_reducible assumption) ?_) | ((with_reducible show DX _ (.Call (.Name _ _) _ _ _) _ _ _); (first | ((with_reducible show DX _ (.Call (.Name "len" _) _ _ _) _ _ _); refine dx_len ?_) | ((with_reducible show DX _ (.Call (.Name "isinstance" _) _ _ _) _ _ _); (first | ((with_reducible show DX _ (.Call _ [_, .Tuple _ _ _] _ _) _ _ _); refine dx_isET (by with_reducible assumption) (by with_reducible assumption) (by decide +kernel) ?_) | ((with_reducible show DX _ (.Call _ [_, .Name _ _] _ _) _ _ _); first | refine dx_isE (by with_reducible assumption) ?_ | refine dx_isi ?_))) | ((with_reducible show DX _ (.Call (.Name "list" _) _ _ _) _ _ _); (first | refine dx_listA ?_ | refine dx_list ?_)) | ((with_reducible show DX _ (.Call (.Name "min" _) _ _ _) _ _ _); refine dx_min ?_) | ((with_reducible show DX _ (.Call (.Name "max" _) _ _ _) _ _ _); refine dx_max ?_) | ((with_reducible show DX _ (.Call (.Name "str" _) _ _ _) _ _ _); refine dx_cstr ?_) | ((with_reducible show DX _ (.Call (.Name "int" _) _ _ _) _ _ _); refine dx_cint ?_) | refine dx_call (by with_reducible assumption) ?_ | refine dx_make (by with_reducible assumption) ?_)))) | ((with_reducible show OpD _ _ _ _ _); (first | ((with_reducible show OpD (uAdd _) (.d (.int _)) (.d (.int _)) _ _); refine od_add ?_) | ((with_reducible show OpD (uAdd _) (.d (.str _)) (.d (.str _)) _ _); refine od_adds (by (first | (with_reducible assumption) | decide | ((try simp only [List.length_cons, List.length_nil, List.length_append, List.length_map, List.length_replicate]); omega) | (refine Nat.le_trans (cutL_len _ _ _) ?_; (try simp only [List.length_cons, List.length_nil, List.length_append, List.length_map, List.length_replicate]); omega) | (refine Nat.le_trans (Nat.add_le_add_left (cutL_len _ _ _) _) ?_; (try simp only [List.length_cons, List.length_nil, List.length_append, List.length_map, List.length_replicate]); omega) | (refine Nat.le_trans (Nat.add_le_add_right (cutL_len _ _ _) _) ?_; (try simp only [List.length_cons, List.length_nil, List.length_append, List.length_map, List.length_replicate]); omega))) ?_) | ((with_reducible show OpD (uAdd _) (.d (.tuple _)) (.d (.tuple _)) _ _); refine od_addt (by first | exact List.cons_ne_nil _ _ | decide) (by (first | (with_reducible assumption) | decide | ((try simp only [List.length_cons, List.length_nil, List.length_append, List.length_map, List.length_replicate]); omega) | (refine Nat.le_trans (cutL_len _ _ _) ?_; (try simp only [List.length_cons, List.length_nil, List.length_append, List.length_map, List.length_replicate]); omega) | (refine Nat.le_trans (Nat.add_le_add_left (cutL_len _ _ _) _) ?_; (try simp only [List.length_cons, List.length_nil, List.length_append, List.length_map, List.length_replicate]); omega) | (refine Nat.le_trans (Nat.add_le_add_right (cutL_len _ _ _) _) ?_; (try simp only [List.length_cons, List.length_nil, List.length_append, List.length_map, List.length_replicate]); omega))) ?_) | ((with_reducible show OpD (uAdd _) _ _ _ _); refine od_addl rfl rfl (by (first | (with_reducible assumption) | decide | ((try simp only [List.length_cons, List.length_nil, List.length_append, List.length_map, List.length_replicate]); omega) | (refine Nat.le_trans (cutL_len _ _ _) ?_; (try simp only [List.length_cons, List.length_nil, List.length_append, List.length_map, List.length_replicate]); omega) | (refine Nat.le_trans (Nat.add_le_add_left (cutL_len _ _ _) _) ?_; (try simp only [List.length_cons, List.length_nil, List.length_append, List.length_map, List.length_replicate]); omega) | (refine Nat.le_trans (Nat.add_le_add_right (cutL_len _ _ _) _) ?_; (try simp only [List.length_cons, List.length_nil, List.length_append, List.length_map, List.length_replicate]); omega))) ?_) | ((with_reducible show OpD (rI0 fun i j => .int (i - j)) _ _ _ _); refine od_sub ?_) | ((with_reducible show OpD uMul (.d (.int _)) (.d (.int _)) _ _); (first | refine od_mul (mul_r (by (first | omega | decide | (simp; omega)))) ?_ | refine od_mul (mul_l (by (first | omega | decide | (simp; omega)))) ?_ | refine od_mul (mul_ok (by (first | omega | decide | (simp; omega))) (by (first | omega | decide | (simp; omega)))) ?_)) | ((with_reducible show OpD (rI CDivW _) _ _ _ _); refine od_div (by (first | omega | decide | (simp; omega))) ?_) | ((with_reducible show OpD (rI CPow _) (.d (.int 10)) _ _ _); (first | (with_reducible refine od_p60 ?_) | (with_reducible refine od_p59 ?_) | (with_reducible refine od_p20 ?_) | (with_reducible refine od_p40 ?_) | (with_reducible refine od_p6 ?_) | (with_reducible refine od_p9 ?_) | (with_reducible refine od_p50 ?_) | (with_reducible refine od_p58 ?_) | (with_reducible refine od_p30 ?_) | (with_reducible refine od_p3 ?_))) | ((with_reducible show OpD (rI CPow _) _ _ _ _); refine od_pow (by decide) ?_) | ((with_reducible show OpD (rI0 fun i j => .bl (decide (i < j))) _ _ _ _); refine od_lt ?_) | ((with_reducible show OpD (rI0 fun i j => .bl (decide (i ≤ j))) _ _ _ _); refine od_le ?_) | ((with_reducible show OpD (rI0 fun i j => .bl (decide (j < i))) _ _ _ _); refine od_gt ?_) | ((with_reducible show OpD (rI0 fun i j => .bl (decide (j ≤ i))) _ _ _ _); refine od_ge ?_) | ((with_reducible show OpD (rI _ _) _ _ _ _); refine od_mod (by (first | omega | decide | (simp; omega))) ?_) | ((with_reducible show OpD (uEq _) _ _ _ _); (first | refine od_eq rfl rfl (by first | exact .int _ _ | exact .str _ _ | exact .bl _ _ | exact .nn | exact .ni _ | exact .in_ _ | exact .ns _ | exact .sn _) ?_ | refine od_eqS rfl rfl (by first | (with_reducible assumption) | decide +kernel | rfl) ?_ | refine od_eq rfl rfl (.dat (by first | (with_reducible assumption) | decide +kernel | rfl) (by first | (with_reducible assumption) | decide +kernel | rfl)) ?_)) | ((with_reducible show OpD (uNe _) _ _ _ _); (first | (with_reducible refine od_nenm ?_) | refine od_ne rfl rfl (by first | exact .int _ _ | exact .str _ _ | exact .bl _ _ | exact .nn | exact .ni _ | exact .in_ _ | exact .ns _ | exact .sn _) ?_ | refine od_neS rfl rfl (by first | (with_reducible assumption) | decide +kernel | rfl) ?_ | refine od_ne rfl rfl (.dat (by first | (with_reducible assumption) | decide +kernel | rfl) (by first | (with_reducible assumption) | decide +kernel | rfl)) ?_)) | ((with_reducible show OpD (uNin _) (.d (.str _)) (.d (.str _)) _ _); refine od_nins ?_) | ((with_reducible show OpD (uIn _) (.d (.str _)) (.d (.str _)) _ _); refine od_ins ?_) | ((with_reducible show OpD (uIn _) (.d _) (.r (.ref _)) _ _); refine od_inO (by ((repeat with_reducible first | exact Pick.zero | apply Pick.succ); (first | (all_goals fail) | fail))) rfl (by with_reducible assumption) ?_) | ((with_reducible show OpD (uNin _) (.d _) (.r (.ref _)) _ _); refine od_ninO (by ((repeat with_reducible first | exact Pick.zero | apply Pick.succ); (first | (all_goals fail) | fail))) rfl (by with_reducible assumption) ?_) | ((with_reducible show OpD uIs _ _ _ _); (first | (with_reducible refine od_isnm ?_) | refine od_is rfl ?_)) | ((with_reducible show OpD uIsn _ _ _ _); (first | (with_reducible refine od_isnnm ?_) | refine od_isn rfl ?_)) | ((with_reducible show OpD (rIx _) (.r (.ref _)) _ _ _); refine od_ixo (by ((repeat with_reducible first | exact Pick.zero | apply Pick.succ); (first | (all_goals fail) | fail))) (by first | rfl | with_reducible assumption) (by exact fun _ z => nomatch z) ?_) | ((with_reducible show OpD (rIx _) (.d (.str _)) _ _ _); refine od_ixt (by (first | (with_reducible assumption) | decide | ((try simp only [List.length_cons, List.length_nil, List.length_append, List.length_map, List.length_replicate]); omega) | (refine Nat.le_trans (cutL_len _ _ _) ?_; (try simp only [List.length_cons, List.length_nil, List.length_append, List.length_map, List.length_replicate]); omega) | (refine Nat.le_trans (Nat.add_le_add_left (cutL_len _ _ _) _) ?_; (try simp only [List.length_cons, List.length_nil, List.length_append, List.length_map, List.length_replicate]); omega) | (refine Nat.le_trans (Nat.add_le_add_right (cutL_len _ _ _) _) ?_; (try simp only [List.length_cons, List.length_nil, List.length_append, List.length_map, List.length_replicate]); omega))) (by with_reducible assumption) ?_) | ((with_reducible show OpD (rIx _) _ _ _ _); refine od_ixs rfl (by first | rfl | with_reducible assumption) ?_))) | ((with_reducible show DS _ _ _ _ _); (first | ((with_reducible show DS _ (.Assign [.Subscript (.Attribute _ "my_rows" _) _ _] (.Call (.Name "list" _) [_] _ _) _) _ _ _); refine ds_dput (dx_listU ?_)) | ((with_reducible show DS _ (.Assign [.Subscript (.Attribute _ "my_rows" _) _ _] _ _) _ _ _); refine ds_dput ?_) | ((with_reducible show DS _ (.Assign [.Subscript (.Name "_law_rows" _) _ _] _ _) _ _ _); refine ds_dput ?_) | ((with_reducible show DS _ (.Assign [.Name "_law_handed" _] (.Call (.Name "list" _) _ _ _) _) _ _ _); refine ds_set (dx_listU ?_)) | ((with_reducible show DS _ (.Assign [.Name _ _] _ _) _ _ _); (fail_if_success (with_reducible show DS _ (.Assign _ (.List [] _) _) _ _ _)); (fail_if_success (with_reducible show DS _ (.Assign _ (.ListComp _ _ _ _) _) _ _ _)); refine ds_set ?_) | ((with_reducible show DS _ (.Assign [.Attribute _ _ _] _ _) _ _ _); (fail_if_success (with_reducible show DS _ (.Assign _ (.List _ _) _) _ _ _)); (fail_if_success (with_reducible show DS _ (.Assign _ (.ListComp _ _ _ _) _) _ _ _)); refine ds_fld ?_) | ((with_reducible show DS _ (.Assign [.Subscript _ _ _] _ _) _ _ _); (fail_if_success (with_reducible show DS _ (.Assign [.Subscript (.Subscript _ _ _) _ _] _ _) _ _ _)); refine ds_seti ?_) | ((with_reducible show DS _ (.Return (some _) _) _ _ _); refine ds_ret ?_) | ((with_reducible show DS _ (.Return none _) _ _ _); refine ds_retN ?_) | ((with_reducible show DS _ (.If _ _ _ _) _ _ _); refine ds_if ?_) | ((with_reducible show DS _ (.Expr (.Constant _ _ _) _) _ _ _); refine ds_doc ?_) | ((with_reducible show DS _ (.Expr _ _) _ _ _); refine ds_expr ?_) | ((with_reducible show DS _ (.Pass _) _ _ _); refine ds_pass ?_) | ((with_reducible show DS _ (.Break _) _ _ _); refine ds_break ?_) | ((with_reducible show DS _ (.Continue _) _ _ _); refine ds_continue ?_) | ((with_reducible show DS _ (.Raise (some (.Call (.Name _ _) [.Constant (.str _) _ _] [] _)) none _) _ _ _); refine ds_raise (by with_reducible assumption) (by decide +kernel) (by decide +kernel) ?_))) | ((with_reducible show DSs _ _ _ _ _); (first | ((with_reducible show DSs _ (_ :: _) _ _ _); refine dss_cons ?_) | ((with_reducible show DSs _ [] _ _ _); refine dss_nil ?_))) | ((with_reducible show DT _ _ _ _ _); (first | ((with_reducible show DT _ (.Compare _ [.In] [(.Attribute _ "my_rows" _)] _) _ _ _); refine dt_din ?_) | ((with_reducible show DT _ (.Compare _ [.NotIn] [(.Attribute _ "my_rows" _)] _) _ _ _); refine dt_dnin ?_) | ((with_reducible show DT _ (.Compare _ [.In] [(.Name "_law_rows" _)] _) _ _ _); refine dt_din ?_) | ((with_reducible show DT _ (.Compare _ [.NotIn] [(.Name "_law_rows" _)] _) _ _ _); refine dt_dnin ?_) | ((with_reducible show DT _ (.BoolOp _ _ _) _ _ _); refine dt_bool ?_) | ((with_reducible show DT _ (.UnaryOp .Not _ _) _ _ _); refine dt_not ?_) | ((with_reducible show DT _ (.Compare _ [_] _ _) _ _ _); (first | ((with_reducible show DT _ (.Compare _ [.Eq] [_] _) _ _ _); refine dt_cmp cEq (nomark _) ?_) | ((with_reducible show DT _ (.Compare _ [.NotEq] [_] _) _ _ _); refine dt_cmp cNe (nomark _) ?_) | ((with_reducible show DT _ (.Compare _ [.Lt] [_] _) _ _ _); refine dt_cmp op_lt (nomark _) ?_) | ((with_reducible show DT _ (.Compare _ [.LtE] [_] _) _ _ _); refine dt_cmp op_le (nomark _) ?_) | ((with_reducible show DT _ (.Compare _ [.Gt] [_] _) _ _ _); refine dt_cmp op_gt (nomark _) ?_) | ((with_reducible show DT _ (.Compare _ [.GtE] [_] _) _ _ _); refine dt_cmp op_ge (nomark _) ?_) | ((with_reducible show DT _ (.Compare _ [.Is] [_] _) _ _ _); refine dt_cmp op_uIs (nomark _) ?_) | ((with_reducible show DT _ (.Compare _ [.IsNot] [_] _) _ _ _); refine dt_cmp op_uIsn (nomark _) ?_) | ((with_reducible show DT _ (.Compare _ [.In] [_] _) _ _ _); refine dt_cmp cIn (rfl) ?_) | ((with_reducible show DT _ (.Compare _ [.NotIn] [_] _) _ _ _); refine dt_cmp cNin (rfl) ?_))) | ((with_reducible show DT _ (.Compare _ [_, _] _ _) _ _ _); (first | ((with_reducible show DT _ (.Compare _ [.LtE, .Lt] [_, _] _) _ _ _); refine dt_chain op_le op_lt ?_) | ((with_reducible show DT _ (.Compare _ [.LtE, .LtE] [_, _] _) _ _ _); refine dt_chain op_le op_le ?_))) | ((with_reducible show DT _ _ _ _ _); refine dt_tru ?_))) | ((with_reducible show DW _ _ _ _ _); (first | ((with_reducible show DW _ (.BoolOp .And [_] _) _ _ _); refine dw_and1 ?_) | ((with_reducible show DW _ (.BoolOp .Or [_] _) _ _ _); refine dw_or1 ?_) | ((with_reducible show DW _ (.BoolOp .And _ _) _ _ _); refine dw_and ?_) | ((with_reducible show DW _ (.BoolOp .Or _ _) _ _ _); refine dw_or ?_))) | ((with_reducible show DA _ _ _ _ _); (first | ((with_reducible show DA _ (.Call (.Attribute _ "row_of_sheet" _) _ _ _ :: _) _ _ _); refine da_cons (dx_frz ?_)) | ((with_reducible show DA _ (_ :: _) _ _ _); refine da_cons ?_) | ((with_reducible show DA _ [] _ _ _); refine da_nil ?_))) | ((with_reducible show if _ = true then _ else _); (first | (with_reducible refine ite_tt ?_) | (with_reducible refine ite_ff ?_) | (with_reducible refine ite_nt ?_) | (with_reducible refine ite_nf ?_) | ((with_reducible show if decide _ = true then _ else _); first | refine ite_dt (by (first | (with_reducible assumption) | omega | decide +kernel | ((simp only [List.length_cons, List.length_nil, List.length_map, List.length_append]); omega) | ((simp only [List.length_cons, List.length_nil, List.length_map, List.length_append]); (first | (all_goals fail) | fail)))) ?_ | refine ite_df (by (first | (with_reducible assumption) | omega | decide +kernel | ((simp only [List.length_cons, List.length_nil, List.length_map, List.length_append]); omega) | ((simp only [List.length_cons, List.length_nil, List.length_map, List.length_append]); (first | (all_goals fail) | fail)))) ?_) | ((with_reducible show if (!decide _) = true then _ else _); first | refine ite_ndf (by (first | (with_reducible assumption) | omega | decide +kernel | ((simp only [List.length_cons, List.length_nil, List.length_map, List.length_append]); omega) | ((simp only [List.length_cons, List.length_nil, List.length_map, List.length_append]); (first | (all_goals fail) | fail)))) ?_ | refine ite_ndt (by (first | (with_reducible assumption) | omega | decide +kernel | ((simp only [List.length_cons, List.length_nil, List.length_map, List.length_append]); omega) | ((simp only [List.length_cons, List.length_nil, List.length_map, List.length_append]); (first | (all_goals fail) | fail)))) ?_) | (with_reducible refine ite_nn ?_) | ((with_reducible show if PyData.eqv _ _ = true then _ else _); first | refine ite_t (by decide +kernel) ?_ | refine ite_f (by decide +kernel) ?_ | refine ite_t rfl ?_ | refine ite_f rfl ?_) | ((with_reducible show if (!PyData.eqv _ _) = true then _ else _); first | refine ite_t (by decide +kernel) ?_ | refine ite_f (by decide +kernel) ?_ | refine ite_t rfl ?_ | refine ite_f rfl ?_) | ((with_reducible show if wholeD (.int _) = true then _ else _); refine ite_t rfl ?_) | ((with_reducible show if (!wholeD (.int _)) = true then _ else _); refine ite_f rfl ?_) | ((with_reducible show if isD _ _ = true then _ else _); first | refine ite_t rfl ?_ | refine ite_f rfl ?_) | ((with_reducible show if (!isD _ _) = true then _ else _); first | refine ite_t rfl ?_ | refine ite_f rfl ?_))) | ((with_reducible show Exists _); (first | (with_reducible refine me_shelf (by ((repeat with_reducible first | exact Pick.zero | apply Pick.succ); (first | (all_goals fail) | fail))) (by decide +kernel) ?_) | ((with_reducible show ∃ i ρ', SetS _ _ _ i _ ρ' ∧ _); refine ⟨_, _, by ((repeat with_reducible first | exact SetS.zero | apply SetS.succ); (first | (all_goals fail) | fail)), ?_⟩) | (with_reducible refine ex_list rfl ?_) | ((with_reducible show ∃ ds, Sl.asSeq _ = some ds ∧ _); refine ex_seq rfl ?_) | ((with_reducible show ∃ ds, Datas _ ds ∧ _); refine ex_datas (by ((repeat with_reducible first | exact datas_nil | apply datas_cons); (first | (all_goals fail) | fail))) (by first | exact Nat.le_of_ble_eq_true rfl | (first | (with_reducible assumption) | decide | ((try simp only [List.length_cons, List.length_nil, List.length_append, List.length_map, List.length_replicate]); omega) | (refine Nat.le_trans (cutL_len _ _ _) ?_; (try simp only [List.length_cons, List.length_nil, List.length_append, List.length_map, List.length_replicate]); omega) | (refine Nat.le_trans (Nat.add_le_add_left (cutL_len _ _ _) _) ?_; (try simp only [List.length_cons, List.length_nil, List.length_append, List.length_map, List.length_replicate]); omega) | (refine Nat.le_trans (Nat.add_le_add_right (cutL_len _ _ _) _) ?_; (try simp only [List.length_cons, List.length_nil, List.length_append, List.length_map, List.length_replicate]); omega))) ?_) | ((with_reducible show ∃ C p fs g sl, _ = Sl.r (.ref p) ∧ Pick _ (insM C p fs) g ∧ FldC _ C _ ∧ FldAt fs _ sl ∧ _); refine ex_fld (by ((repeat with_reducible first | exact Pick.zero | apply Pick.succ); (first | (all_goals fail) | fail))) (fldc (by with_reducible assumption) (by decide +kernel)) (by ((repeat with_reducible first | exact FldAt.zero | apply FldAt.succ); (first | (all_goals fail) | fail))) (by (simp only [List.map_cons, List.map_nil]); decide +kernel) (by exact fun _ z => nomatch z) ?_) | ((with_reducible show ∃ C p fs g fs2, _ = Sl.r (.ref p) ∧ Pick _ (insM C p fs) g ∧ FldC _ C _ ∧ (FldSet fs _ _ fs2 ∨ _) ∧ _); first | refine ex_fset (by ((repeat with_reducible first | exact Pick.zero | apply Pick.succ); (first | (all_goals fail) | fail))) (fldc (by with_reducible assumption) (by decide +kernel)) (by ((repeat with_reducible first | exact FldSet.zero | apply FldSet.succ); (first | (all_goals fail) | fail))) (by (simp only [List.map_cons, List.map_nil]); decide +kernel) (by exact Nat.le_of_ble_eq_true rfl) ?_ | refine ex_fnew (by ((repeat with_reducible first | exact Pick.zero | apply Pick.succ); (first | (all_goals fail) | fail))) (fldc (by with_reducible assumption) (by decide +kernel)) (by (simp only [List.map_cons, List.map_nil]); decide +kernel) (by (simp only [List.map_cons, List.map_nil]); decide +kernel) (by exact Nat.le_of_ble_eq_true rfl) ?_) | ((with_reducible show ∃ p ss f k j, _ = Sl.r (.ref p) ∧ _ = Sl.d (.int k) ∧ _); refine ex_seti (by ((repeat with_reducible first | exact Pick.zero | apply Pick.succ); (first | (all_goals fail) | fail))) (by first | with_reducible assumption | rfl) ?_) | (with_reducible refine ex_frz (by ((repeat with_reducible first | exact Pick.zero | apply Pick.succ); (first | (all_goals fail) | fail))) ?_) | (with_reducible refine ex_own (by ((repeat with_reducible first | exact Pick.zero | apply Pick.succ); (first | (all_goals fail) | fail))) ?_) | (with_reducible refine ex_app (by ((repeat with_reducible first | exact Pick.zero | apply Pick.succ); (first | (all_goals fail) | fail))) (by (first | (with_reducible assumption) | decide | ((try simp only [List.length_cons, List.length_nil, List.length_append, List.length_map, List.length_replicate]); omega) | (refine Nat.le_trans (cutL_len _ _ _) ?_; (try simp only [List.length_cons, List.length_nil, List.length_append, List.length_map, List.length_replicate]); omega) | (refine Nat.le_trans (Nat.add_le_add_left (cutL_len _ _ _) _) ?_; (try simp only [List.length_cons, List.length_nil, List.length_append, List.length_map, List.length_replicate]); omega) | (refine Nat.le_trans (Nat.add_le_add_right (cutL_len _ _ _) _) ?_; (try simp only [List.length_cons, List.length_nil, List.length_append, List.length_map, List.length_replicate]); omega))) ?_) | ((with_reducible show ∃ ys, RefsE _ _ ys ∧ _); (first | refine ex_refs (w := false) (by ((repeat with_reducible first | exact RefsE.nil | apply RefsE.cons); (first | (all_goals fail) | fail))) (by decide +kernel) ?_ | refine ex_refs (w := true) (by ((repeat with_reducible first | exact RefsE.nil | apply RefsE.cons); (first | (all_goals fail) | fail))) (by decide +kernel) ?_)) | ((with_reducible show ∃ rs', Ent [_] (rs' ++ [_]) ∧ _); (refine end_ex ?_; with_reducible assumption)) | ((with_reducible show ∃ ρ', SetS _ _ _ _ _ ρ' ∧ _); refine ⟨_, by ((repeat with_reducible first | exact SetS.zero | apply SetS.succ); (first | (all_goals fail) | fail)), ?_⟩) | (with_reducible refine ex_rep (by ((repeat with_reducible first | exact Pick.zero | apply Pick.succ); (first | (all_goals fail) | fail))) (by (first | omega | decide | (simp; omega))) ?_) | (with_reducible refine ex_dat ?_) | (with_reducible refine ex_int ?_) | (with_reducible refine ex_str ?_) | (with_reducible refine ex_dic (by ((repeat with_reducible first | exact Pick.zero | apply Pick.succ); (first | (all_goals fail) | fail))) ?_) | (with_reducible refine ex_din1 (by ((repeat with_reducible first | exact Pick.zero | apply Pick.succ); (first | (all_goals fail) | fail))) ?_) | (with_reducible refine ex_din2 (by ((repeat with_reducible first | exact Pick.zero | apply Pick.succ); (first | (all_goals fail) | fail))) ?_) | (with_reducible refine ex_dlen (by ((repeat with_reducible first | exact Pick.zero | apply Pick.succ); (first | (all_goals fail) | fail))) ?_) | ((with_reducible show ∃ p kvs f k, _ = Sl.r (.ref p) ∧ _ = Sl.d (keyD k) ∧ Pick _ (dictM p kvs) f ∧ kvs.length ≤ _ ∧ _); first | refine ex_dputI (by ((repeat with_reducible first | exact Pick.zero | apply Pick.succ); (first | (all_goals fail) | fail))) (by (first | (with_reducible assumption) | decide | ((try simp only [List.length_cons, List.length_nil, List.length_append, List.length_map, List.length_replicate]); omega) | (refine Nat.le_trans (cutL_len _ _ _) ?_; (try simp only [List.length_cons, List.length_nil, List.length_append, List.length_map, List.length_replicate]); omega) | (refine Nat.le_trans (Nat.add_le_add_left (cutL_len _ _ _) _) ?_; (try simp only [List.length_cons, List.length_nil, List.length_append, List.length_map, List.length_replicate]); omega) | (refine Nat.le_trans (Nat.add_le_add_right (cutL_len _ _ _) _) ?_; (try simp only [List.length_cons, List.length_nil, List.length_append, List.length_map, List.length_replicate]); omega))) ?_ | refine ex_dputS (by ((repeat with_reducible first | exact Pick.zero | apply Pick.succ); (first | (all_goals fail) | fail))) (by (first | (with_reducible assumption) | decide | ((try simp only [List.length_cons, List.length_nil, List.length_append, List.length_map, List.length_replicate]); omega) | (refine Nat.le_trans (cutL_len _ _ _) ?_; (try simp only [List.length_cons, List.length_nil, List.length_append, List.length_map, List.length_replicate]); omega) | (refine Nat.le_trans (Nat.add_le_add_left (cutL_len _ _ _) _) ?_; (try simp only [List.length_cons, List.length_nil, List.length_append, List.length_map, List.length_replicate]); omega) | (refine Nat.le_trans (Nat.add_le_add_right (cutL_len _ _ _) _) ?_; (try simp only [List.length_cons, List.length_nil, List.length_append, List.length_map, List.length_replicate]); omega))) ?_) | ((with_reducible show ∃ p kvs f k, _ = Sl.r (.ref p) ∧ _ = Sl.d (keyD k) ∧ Pick _ (dictM p kvs) f ∧ _); first | refine ex_din1 (by ((repeat with_reducible first | exact Pick.zero | apply Pick.succ); (first | (all_goals fail) | fail))) ?_ | refine ex_din2 (by ((repeat with_reducible first | exact Pick.zero | apply Pick.succ); (first | (all_goals fail) | fail))) ?_) | ((with_reducible show ∃ kvs f k s, _ = Sl.d (keyD k) ∧ Pick _ (dictM _ kvs) f ∧ valS kvs k = some s ∧ _); first | refine ex_dpopI (by ((repeat with_reducible first | exact Pick.zero | apply Pick.succ); (first | (all_goals fail) | fail))) (by with_reducible assumption) (by exact fun _ z => nomatch z) ?_ | refine ex_dpopS (by ((repeat with_reducible first | exact Pick.zero | apply Pick.succ); (first | (all_goals fail) | fail))) (by with_reducible assumption) (by exact fun _ z => nomatch z) ?_) | ((with_reducible show ∃ p kvs f k s, _ = Sl.r (.ref p) ∧ _ = Sl.d (keyD k) ∧ Pick _ (dictM p kvs) f ∧ _); first | refine ex_dget (by ((repeat with_reducible first | exact Pick.zero | apply Pick.succ); (first | (all_goals fail) | fail))) (by with_reducible assumption) (by exact fun _ z => nomatch z) ?_ | refine ex_dgetS (by ((repeat with_reducible first | exact Pick.zero | apply Pick.succ); (first | (all_goals fail) | fail))) (by with_reducible assumption) (by exact fun _ z => nomatch z) ?_))) | (first | (with_reducible refine kt ?_) | ((with_reducible show ∀ _ : Addr, _); intro q) | ((with_reducible show Le _ _ ∧ _ = _); exact ⟨by ((repeat with_reducible first | exact Le.nil | apply Le.eq | apply Le.un); (first | (all_goals fail) | fail)), rfl⟩) | ((with_reducible show CallEnd _ _ _ _ _ _); (first | ((with_reducible refine ce_shelf (by ((repeat with_reducible first | exact Pick.zero | apply Pick.succ); (first | (all_goals fail) | fail))) ?_); (first | refine ⟨_, rfl, rfl, by (first | (with_reducible trivial) | (with_reducible assumption) | omega | (exact ⟨by with_reducible assumption, by with_reducible assumption⟩)), ?_⟩ | refine ⟨_, _, rfl, rfl, by (first | (with_reducible trivial) | (with_reducible assumption) | omega | (exact ⟨by with_reducible assumption, by with_reducible assumption⟩)), ?_⟩ | refine ⟨_, _, _, rfl, rfl, by (first | (with_reducible trivial) | (with_reducible assumption) | omega | (exact ⟨by with_reducible assumption, by with_reducible assumption⟩)), ?_⟩ | refine ⟨_, _, _, _, rfl, rfl, by (first | (with_reducible trivial) | (with_reducible assumption) | omega | (exact ⟨by with_reducible assumption, by with_reducible assumption⟩)), ?_⟩ | refine ⟨_, _, _, _, _, rfl, rfl, by (first | (with_reducible trivial) | (with_reducible assumption) | omega | (exact ⟨by with_reducible assumption, by with_reducible assumption⟩)), ?_⟩ | refine ⟨_, _, _, _, _, _, rfl, rfl, by (first | (with_reducible trivial) | (with_reducible assumption) | omega | (exact ⟨by with_reducible assumption, by with_reducible assumption⟩)), ?_⟩ | refine ⟨_, _, _, _, _, _, _, rfl, rfl, by (first | (with_reducible trivial) | (with_reducible assumption) | omega | (exact ⟨by with_reducible assumption, by with_reducible assumption⟩)), ?_⟩ | refine ⟨_, _, _, _, _, _, _, _, rfl, rfl, by (first | (with_reducible trivial) | (with_reducible assumption) | omega | (exact ⟨by with_reducible assumption, by with_reducible assumption⟩)), ?_⟩)) | (refine ce_inl ?_; first | refine ⟨_, rfl, rfl, by (first | (with_reducible trivial) | (with_reducible assumption) | omega | (exact ⟨by with_reducible assumption, by with_reducible assumption⟩)), ?_⟩ | refine ⟨_, _, rfl, rfl, by (first | (with_reducible trivial) | (with_reducible assumption) | omega | (exact ⟨by with_reducible assumption, by with_reducible assumption⟩)), ?_⟩ | refine ⟨_, _, _, rfl, rfl, by (first | (with_reducible trivial) | (with_reducible assumption) | omega | (exact ⟨by with_reducible assumption, by with_reducible assumption⟩)), ?_⟩ | refine ⟨_, _, _, _, rfl, rfl, by (first | (with_reducible trivial) | (with_reducible assumption) | omega | (exact ⟨by with_reducible assumption, by with_reducible assumption⟩)), ?_⟩ | refine ⟨_, _, _, _, _, rfl, rfl, by (first | (with_reducible trivial) | (with_reducible assumption) | omega | (exact ⟨by with_reducible assumption, by with_reducible assumption⟩)), ?_⟩ | refine ⟨_, _, _, _, _, _, rfl, rfl, by (first | (with_reducible trivial) | (with_reducible assumption) | omega | (exact ⟨by with_reducible assumption, by with_reducible assumption⟩)), ?_⟩))) | ((with_reducible show CallEnd0 _ _ _ _); (first | ((with_reducible refine ce0_shelf (by ((repeat with_reducible first | exact Pick.zero | apply Pick.succ); (first | (all_goals fail) | fail))) ?_); (first | refine ⟨_, rfl, rfl, by (first | (with_reducible trivial) | (with_reducible assumption) | omega | (exact ⟨by with_reducible assumption, by with_reducible assumption⟩)), ?_⟩ | refine ⟨_, _, rfl, rfl, by (first | (with_reducible trivial) | (with_reducible assumption) | omega | (exact ⟨by with_reducible assumption, by with_reducible assumption⟩)), ?_⟩ | refine ⟨_, _, _, rfl, rfl, by (first | (with_reducible trivial) | (with_reducible assumption) | omega | (exact ⟨by with_reducible assumption, by with_reducible assumption⟩)), ?_⟩ | refine ⟨_, _, _, _, rfl, rfl, by (first | (with_reducible trivial) | (with_reducible assumption) | omega | (exact ⟨by with_reducible assumption, by with_reducible assumption⟩)), ?_⟩ | refine ⟨_, _, _, _, _, rfl, rfl, by (first | (with_reducible trivial) | (with_reducible assumption) | omega | (exact ⟨by with_reducible assumption, by with_reducible assumption⟩)), ?_⟩ | refine ⟨_, _, _, _, _, _, rfl, rfl, by (first | (with_reducible trivial) | (with_reducible assumption) | omega | (exact ⟨by with_reducible assumption, by with_reducible assumption⟩)), ?_⟩ | refine ⟨_, _, _, _, _, _, _, rfl, rfl, by (first | (with_reducible trivial) | (with_reducible assumption) | omega | (exact ⟨by with_reducible assumption, by with_reducible assumption⟩)), ?_⟩ | refine ⟨_, _, _, _, _, _, _, _, rfl, rfl, by (first | (with_reducible trivial) | (with_reducible assumption) | omega | (exact ⟨by with_reducible assumption, by with_reducible assumption⟩)), ?_⟩)))) | ((with_reducible show (bodyPost _ _).rt _ _); (first | (refine end_rt ?_; with_reducible assumption) | refine end_rtT (decide_eq_true (by omega)) (by with_reducible assumption) | refine end_rtT rfl (by with_reducible assumption))) | ((with_reducible show TrD (.d (.bool _)) _ _); refine tr_bool ?_) | ((with_reducible show TrD (.d .none) _ _); refine tr_none ?_) | ((with_reducible show TrD (.d (.int _)) _ _); refine tr_int ?_) | ((with_reducible show TrD (.d (.list _)) _ _); refine tr_list ?_) | ((with_reducible show TrD (.d (.tuple _)) _ _); refine tr_tuple ?_) | ((with_reducible show TrD (.r (.ref _)) _ _); (first | refine tr_own (by ((repeat with_reducible first | exact Pick.zero | apply Pick.succ); (first | (all_goals fail) | fail))) ?_ | refine tr_dict (by ((repeat with_reducible first | exact Pick.zero | apply Pick.succ); (first | (all_goals fail) | fail))) ?_)) | ((with_reducible show CaD (rIsi _) _ _ _); (first | refine cd_isiT (by decide) rfl rfl ?_ | refine cd_isiF (by decide) rfl rfl ?_ | refine cd_isi (by decide) rfl ?_)) | ((with_reducible show CaD _ [.d (.int _), .d (.int _)] _ _); (first | refine cd_min ?_ | refine cd_max ?_)) | ((with_reducible show LenD (.d (.str _)) _ _); refine ld_str (by (first | (with_reducible assumption) | decide | ((try simp only [List.length_cons, List.length_nil, List.length_append, List.length_map, List.length_replicate]); omega) | (refine Nat.le_trans (cutL_len _ _ _) ?_; (try simp only [List.length_cons, List.length_nil, List.length_append, List.length_map, List.length_replicate]); omega) | (refine Nat.le_trans (Nat.add_le_add_left (cutL_len _ _ _) _) ?_; (try simp only [List.length_cons, List.length_nil, List.length_append, List.length_map, List.length_replicate]); omega) | (refine Nat.le_trans (Nat.add_le_add_right (cutL_len _ _ _) _) ?_; (try simp only [List.length_cons, List.length_nil, List.length_append, List.length_map, List.length_replicate]); omega))) ?_) | ((with_reducible show LenD (.r (.ref _)) _ _); refine ld_own (by ((repeat with_reducible first | exact Pick.zero | apply Pick.succ); (first | (all_goals fail) | fail))) ?_) | ((with_reducible show LenD _ _ _); refine ld_seq rfl ?_) | ((with_reducible show SlD _ (.d (.list _)) _ _ _ _); refine sd_list ?_) | ((with_reducible show SlD _ (.n _) _ _ _ _); refine sd_list ?_) | ((with_reducible show SlD _ (.r (.ref _)) _ _ _ _); refine sd_own (by ((repeat with_reducible first | exact Pick.zero | apply Pick.succ); (first | (all_goals fail) | fail))) (fun q => ?_)) | ((with_reducible show SlD _ (.d (.str _)) _ _ _ _); refine sd_str (by (first | (with_reducible assumption) | decide | ((try simp only [List.length_cons, List.length_nil, List.length_append, List.length_map, List.length_replicate]); omega) | (refine Nat.le_trans (cutL_len _ _ _) ?_; (try simp only [List.length_cons, List.length_nil, List.length_append, List.length_map, List.length_replicate]); omega) | (refine Nat.le_trans (Nat.add_le_add_left (cutL_len _ _ _) _) ?_; (try simp only [List.length_cons, List.length_nil, List.length_append, List.length_map, List.length_replicate]); omega) | (refine Nat.le_trans (Nat.add_le_add_right (cutL_len _ _ _) _) ?_; (try simp only [List.length_cons, List.length_nil, List.length_append, List.length_map, List.length_replicate]); omega))) ?_) | ((with_reducible show SlD _ (.d (.tuple [_, _, _, _])) none (some 2) _ _); refine sd_t42 ?_) | ((with_reducible show SlD _ (.d (.tuple [_, _, _, _, _, _])) (some 2) (some 5) _ _); refine sd_t625 ?_) | ((with_reducible show SlD _ (.d (.tuple [_, _, _, _])) (some 2) none _ _); refine sd_t4f2 ?_) | ((with_reducible show SlD _ (.d (.tuple _)) _ _ _ _); refine sd_tup (by first | decide | ((simp only [List.length_cons, List.length_nil]); decide +kernel)) ?_) | ((with_reducible show DO _ none _ _ _); refine do_none ?_) | ((with_reducible show DO _ (some _) _ _ _); refine do_some ?_) | (with_reducible refine ex_eqr ?_) | ((with_reducible show LsD _ _ _); first | refine ls_s (by (first | (with_reducible assumption) | decide | ((try simp only [List.length_cons, List.length_nil, List.length_append, List.length_map, List.length_replicate]); omega) | (refine Nat.le_trans (cutL_len _ _ _) ?_; (try simp only [List.length_cons, List.length_nil, List.length_append, List.length_map, List.length_replicate]); omega) | (refine Nat.le_trans (Nat.add_le_add_left (cutL_len _ _ _) _) ?_; (try simp only [List.length_cons, List.length_nil, List.length_append, List.length_map, List.length_replicate]); omega) | (refine Nat.le_trans (Nat.add_le_add_right (cutL_len _ _ _) _) ?_; (try simp only [List.length_cons, List.length_nil, List.length_append, List.length_map, List.length_replicate]); omega))) ?_ | refine ls_d rfl ?_) | ((with_reducible show LiD _ _ _); first | refine li_o (by ((repeat with_reducible first | exact Pick.zero | apply Pick.succ); (first | (all_goals fail) | fail))) (fun q => ?_) | refine li_d rfl (fun q => ?_)) | ((with_reducible show _ < 1920 ∧ _); refine ⟨log2_ok (by (first | omega | decide | (simp; omega))), ?_⟩) | ((with_reducible show CaD (rIsE _ _ _) [_, .r (.ty _)] _ _); refine cd_isEV (by with_reducible assumption) (by decide +kernel) ?_) | ((with_reducible show CaD (rIsE _ _ _) _ _ _); (first | refine cd_isE1 (r := true) (by with_reducible assumption) (by decide +kernel) (by decide +kernel) (by decide +kernel) ?_ | refine cd_isE1 (r := false) (by with_reducible assumption) (by decide +kernel) (by decide +kernel) (by decide +kernel) ?_)))) | dsimp only [List.nil_append, List.cons_append, Sl.plain] | refine ite_d (fun h => ?_) (fun h => ?_) | refine ite_nd (fun h => ?_) (fun h => ?_) | refine ite_b (fun h => ?_) (fun h => ?_) | refine od_ixI rfl ⟨by omega, by (simp only [List.length_cons, List.length_nil]; omega)⟩ rfl (fun i => ?_) | refine od_ixA rfl ⟨by omega, by (simp only [List.length_cons, List.length_nil]; omega)⟩ (fun d hd => ?_) | intro z)))
local macro_rules | `(tactic| walk_at "nrm") => `(tactic| (dsimp only [List.replicate, List.cons_append, List.nil_append, List.append_nil]))
local macro_rules | `(tactic| walk_at "st") => `(tactic| ((try dsimp only [List.replicate, List.cons_append, List.nil_append, List.append_nil]); refine dss_cons ?_))
local macro_rules | `(tactic| walk_at "end") => `(tactic| (first | (with_reducible exact ⟨[], rfl, by assumption⟩) | exact ⟨[], rfl, by assumption⟩))
local macro_rules | `(tactic| walk_at "all") => `(tactic| (walk_at "st"; walk_at "go"; walk_at "end"))
section
variable [KC] {m : Mo} {C : Addr} {E : Str → Addr}
theorem enS {C p a b : Addr} {sh : List (Option Int)} {rw : List Srow} {l : List (Srow × Addr)} {rs : List Mem} (hl : l.map (·.1) = rw) : Ent (insM C p [("my_sheets", .r (.ref a)), ("my_rows", .r (.ref b))] :: lstM a ((sh.map oS).map .d) :: dictM b (l.map kvR) :: famM rowM l :: rs) (shelfM C p sh rw :: rs) := ent_box (fam := shelfF C p sh rw) (q := (a, b, ⟨l, hl⟩)) [] rs
theorem set_oS (sh : List (Option Int)) (i : Nat) (o : Option Int) : ((sh.map oS).map Sl.d).set i (.d (oS o)) = ((sh.set i o).map oS).map .d := by rw [List.map_set, List.map_set]
theorem at_oS {sh : List (Option Int)} {i : Int} {o : Option Int} (h : atI sh i = some o) : atI ((sh.map oS).map Sl.d) i = some (.d (oS o)) := by rw [atI_map, atI_map, h]; rfl
theorem ix_oS {sh : List (Option Int)} {i : Int} (h : 0 ≤ i ∧ i < sh.length) : ixN ((sh.map oS).map Sl.d).length i = some i.toNat := ixN_in (by rw [List.length_map, List.length_map]; exact h)
/-- a shelf whose dict and places agree in form -/
structure ShOk (sh : List (Option Int)) (rw : List Srow) : Prop where
  len : sh.length ≤ 1000
  nd : (rw.map (·.1)).Nodup
  few : rw.length ≤ 1000
theorem ShOk.keys {sh : List (Option Int)} {rw : List Srow} (h : ShOk sh rw) {l : List (Srow × Addr)} (hl : l.map (·.1) = rw) : (l.map fun z => (kvR z).1).Nodup := by
  have e : (l.map fun z => (kvR z).1) = (rw.map (·.1)).map Sum.inl := by rw [← hl, List.map_map, List.map_map]; rfl
  rw [e]
  unfold List.Nodup
  rw [List.pairwise_map]
  exact h.nd.imp fun h e => h (Sum.inl.inj e)
theorem rw_mem {rw : List Srow} {l : List (Srow × Addr)} (hl : l.map (·.1) = rw) (s : Int) : (Sum.inl s : Key) ∈ (l.map fun z => (kvR z).1) ↔ s ∈ rw.map (·.1) := by
  have e : (l.map fun z => (kvR z).1) = (rw.map (·.1)).map Sum.inl := by rw [← hl, List.map_map, List.map_map]; rfl
  rw [e, List.mem_map]
  constructor
  · rintro ⟨x, hx, e⟩; cases e; exact hx
  · exact fun h => ⟨s, h, rfl⟩
def K_Shelf___init__ (C : Addr) : Cn := fun ss rin res _ => ∃ (p : Addr) (n : Int), ss = [.r (.ref p), .d (.int n)] ∧ rin = [insM C p []] ∧ (0 ≤ n ∧ n ≤ 1000) ∧ res (.d .none) [shelfM C p (List.replicate n.toNat none) []]
theorem ok_Shelf___init__ (hK : m.K = KC.K) (bl : Bl m.mg) {f fd} (F : Fun m.K "__init__" "Shelf.__init__" s_Shelf___init__ f fd) (oc : ObjC m C ["my_sheets", "my_rows"]) :
    FnOk m.P m.w m.K m.mg m.base (L2.CX m.P m.w) 1 f fd ["self", "many"] (spC (K_Shelf___init__ C)) := by
  refine fn_ok F f_Shelf___init__ e_Shelf___init__ bl hK (by rintro _ _ _ _ ⟨_, _, rfl, _⟩; rfl) 1 rfl ?_
  rintro ss rin fr res exc c hC
  obtain ⟨p, n, rfl, rfl, hn, hr⟩ := hC
  walk_at "st"; walk_at "go"
  refine ds_fld (dx_lc0O (by walk_at "ix") (blkOk_by (by decide +kernel)) (di_range1 ?_))
  walk_at "go"
  refine ⟨n, rfl, by omega, Nat, List.range n.toNat, fun k => .d (.int (0 + (k : Nat))), fun _ => .none, rfl, fun A => trivial, by rw [List.length_range]; omega, ⟨_, by walk_at "set", fun k _ => ⟨_, by walk_at "set", ?_⟩⟩, fun D => ?_⟩
  · intro A s0 H0 C0 cl0 fp0 hso
    walk_at "go"
    exact ⟨rfl, rfl⟩
  rw [show (List.range n.toNat).map (fun _ => PyData.none) = (List.replicate n.toNat (none : Option Int)).map oS by rw [List.map_replicate]; exact List.ext_getElem (by simp) fun i h1 h2 => by simp [oS]]
  walk_at "go"
  rename_i q
  exact ⟨[shelfM C p (List.replicate n.toNat none) []], ent_trans (ent_has (Bs := [insM C p [("my_sheets", .r (.ref D)), ("my_rows", .r (.ref q))], lstM D (((List.replicate n.toNat none).map oS).map .d), dictM q [], fr]) (by walk_at "grab")) (ent_trans (SE.cons (SE.cons (SE.cons (se_nil (f := rowM))))).ent (enS (l := []) rfl)), hr⟩
def K_Shelf_has (C : Addr) : Cn := fun ss rin res _ => ∃ (p : Addr) (sh : List (Option Int)) (rw : List Srow) (s : Int), ss = [.r (.ref p), .d (.int s)] ∧ rin = [shelfM C p sh rw] ∧ True ∧ res (.d (.bool (decide (s ∈ rw.map (·.1))))) [shelfM C p sh rw]
theorem ok_Shelf_has (hK : m.K = KC.K) (bl : Bl m.mg) {f fd} (F : Fun m.K "has" "Shelf.has" s_Shelf_has f fd) (oc : ObjC m C ["my_sheets", "my_rows"]) :
    FnOk m.P m.w m.K m.mg m.base (L2.CX m.P m.w) 1 f fd ["self", "sheet"] (spC (K_Shelf_has C)) := by
  refine fn_ok F f_Shelf_has e_Shelf_has bl hK (by rintro _ _ _ _ ⟨_, _, _, _, rfl, _⟩; rfl) 0 rfl ?_
  rintro ss rin fr res exc c hC
  obtain ⟨p, sh, rw', s, rfl, rfl, _, hr⟩ := hC
  walk_at "nrm"
  refine dss_open (fam := shelfF C p sh rw') [] fun z => ?_
  obtain ⟨a, b, l, hl⟩ := z
  dsimp only [shelfF, List.nil_append, List.cons_append]
  walk_at "st"; walk_at "go"
  have e : (valS (l.map kvR) (.inl s)).isSome = decide (s ∈ rw'.map (·.1)) := by
    rw [Bool.eq_iff_iff, valS_mem, List.map_map, decide_eq_true_iff]
    exact rw_mem hl s
  rw [e]
  exact fin [shelfM C p sh rw'] (enS hl) hr
def K_Shelf_is_full (C : Addr) : Cn := fun ss rin res _ => ∃ (p : Addr) (sh : List (Option Int)) (rw : List Srow), ss = [.r (.ref p)] ∧ rin = [shelfM C p sh rw] ∧ True ∧ res (.d (.bool (decide (none ∉ sh)))) [shelfM C p sh rw]
theorem shaped_oS (sh : List (Option Int)) : SeqAt.shaped (.list (sh.map oS)) = true := shaped_list 0 (by decide) fun d hd => by
  obtain ⟨o, _, rfl⟩ := List.mem_map.mp hd
  cases o <;> exact ⟨rfl, Nat.le_refl 0⟩
theorem any_none (sh : List (Option Int)) : ((sh.map oS).any fun y => PyData.eqv y .none) = decide (none ∈ sh) := by
  rw [Bool.eq_iff_iff, decide_eq_true_iff, List.any_eq_true]
  constructor
  · rintro ⟨d, hd, he⟩
    obtain ⟨o, ho, rfl⟩ := List.mem_map.mp hd
    cases o with
    | none => exact ho
    | some n => cases he
  · exact fun h => ⟨.none, List.mem_map.mpr ⟨none, h, rfl⟩, rfl⟩
theorem ok_Shelf_is_full (hK : m.K = KC.K) (bl : Bl m.mg) {f fd} (F : Fun m.K "is_full" "Shelf.is_full" s_Shelf_is_full f fd) (oc : ObjC m C ["my_sheets", "my_rows"]) :
    FnOk m.P m.w m.K m.mg m.base (L2.CX m.P m.w) 1 f fd ["self"] (spC (K_Shelf_is_full C)) := by
  refine fn_ok F f_Shelf_is_full e_Shelf_is_full bl hK (by rintro _ _ _ _ ⟨_, _, _, rfl, _⟩; rfl) 0 rfl ?_
  rintro ss rin fr res exc c hC
  obtain ⟨p, sh, rw', rfl, rfl, _, hr⟩ := hC
  walk_at "nrm"
  refine dss_open (fam := shelfF C p sh rw') [] fun z => ?_
  obtain ⟨a, b, l, hl⟩ := z
  dsimp only [shelfF, List.nil_append, List.cons_append]
  refine dss_cons (ds_ret (dx_cmp cNinD rfl ?_))
  walk_at "go"
  refine od_ninD (view_d rfl) (view_own (by walk_at "pick")) rfl (shaped_oS sh) ?_
  rw [any_none, ← decide_not]
  exact fin [shelfM C p sh rw'] (enS hl) hr
def K_Shelf_sheets (C : Addr) : Cn := fun ss rin res _ => ∃ (p : Addr) (sh : List (Option Int)) (rw : List Srow), ss = [.r (.ref p)] ∧ rin = [shelfM C p sh rw] ∧ True ∧ ∀ q, res (.r (.ref q)) [lstM q ((sh.map oS).map .d), shelfM C p sh rw]
theorem ok_Shelf_sheets (hK : m.K = KC.K) (bl : Bl m.mg) {f fd} (F : Fun m.K "sheets" "Shelf.sheets" s_Shelf_sheets f fd) (oc : ObjC m C ["my_sheets", "my_rows"]) :
    FnOk m.P m.w m.K m.mg m.base (L2.CX m.P m.w) 1 f fd ["self"] (spC (K_Shelf_sheets C)) := by
  refine fn_ok F f_Shelf_sheets e_Shelf_sheets bl hK (by rintro _ _ _ _ ⟨_, _, _, rfl, _⟩; rfl) 0 rfl ?_
  rintro ss rin fr res exc c hC
  obtain ⟨p, sh, rw', rfl, rfl, _, hr⟩ := hC
  walk_at "nrm"
  refine dss_open (fam := shelfF C p sh rw') [] fun z => ?_
  obtain ⟨a, b, l, hl⟩ := z
  dsimp only [shelfF, List.nil_append, List.cons_append]
  refine dss_cons (ds_ret (dx_listO ?_))
  walk_at "go"
  rename_i q
  exact fin [lstM q ((sh.map oS).map .d), shelfM C p sh rw'] (ent_box (fam := shelfF C p sh rw') (q := (a, b, ⟨l, hl⟩)) [lstM q ((sh.map oS).map .d)] [fr]) (hr q)
end
section
variable [KC] {m : Mo} {C : Addr} {E : Str → Addr}
theorem row_at {rw : List Srow} {l : List (Srow × Addr)} (hl : l.map (·.1) = rw) {i : Nat} {x : Srow × Addr} (h : l[i]? = some x) : rw[i]? = some x.1 := by rw [← hl, List.getElem?_map, h]; rfl
def K_Shelf_row_of_sheet (C : Addr) : Cn := fun ss rin res _ => ∃ (p : Addr) (sh : List (Option Int)) (rw : List Srow) (s : Int) (r : List Int), ss = [.r (.ref p), .d (.int s)] ∧ rin = [shelfM C p sh rw] ∧ (ShOk sh rw ∧ (s, r) ∈ rw) ∧ ∀ q, res (.r (.ref q)) [lstM q ((r.map PyData.int).map .d), shelfM C p sh rw]
theorem ok_Shelf_row_of_sheet (hK : m.K = KC.K) (bl : Bl m.mg) {f fd} (F : Fun m.K "row_of_sheet" "Shelf.row_of_sheet" s_Shelf_row_of_sheet f fd) (oc : ObjC m C ["my_sheets", "my_rows"]) :
    FnOk m.P m.w m.K m.mg m.base (L2.CX m.P m.w) 1 f fd ["self", "sheet"] (spC (K_Shelf_row_of_sheet C)) := by
  refine fn_ok F f_Shelf_row_of_sheet e_Shelf_row_of_sheet bl hK (by rintro _ _ _ _ ⟨_, _, _, _, _, rfl, _⟩; rfl) 0 rfl ?_
  rintro ss rin fr res exc c hC
  obtain ⟨p, sh, rw', s, r, rfl, rfl, ⟨ho, hm⟩, hr⟩ := hC
  walk_at "nrm"
  refine dss_open (fam := shelfF C p sh rw') [] fun z => ?_
  obtain ⟨a, b, l, hl⟩ := z
  dsimp only [shelfF, List.nil_append, List.cons_append]
  rw [← hl] at hm
  obtain ⟨x, hx, ex⟩ := List.mem_map.mp hm
  obtain ⟨i, hi⟩ := List.mem_iff_getElem?.mp hx
  have hv := dict_val (f := kvR) hi (ho.keys hl)
  rw [show (kvR x).1 = Sum.inl s from congrArg (fun y : Srow => (Sum.inl y.1 : Key)) ex, show (kvR x).2 = .r (.ref x.2) from rfl] at hv
  refine dss_ent (rs2 := famM rowM l :: [insM C p [("my_sheets", .r (.ref a)), ("my_rows", .r (.ref b))], lstM a ((sh.map oS).map .d), dictM b (l.map kvR), fr]) (ent_has (by walk_at "grab")) ?_
  refine dss_ent (se_out hi).ent ?_
  rw [show rowM x = lstM x.2 ((r.map PyData.int).map .d) by unfold rowM; rw [ex]]
  refine dss_cons (ds_ret (dx_listO ?_))
  walk_at "go"
  rename_i q
  have hb := se_back (f := rowM) (rs := [insM C p [("my_sheets", .r (.ref a)), ("my_rows", .r (.ref b))], lstM a ((sh.map oS).map .d), dictM b (l.map kvR), fr]) hi
  rw [show rowM x = lstM x.2 ((r.map PyData.int).map .d) by unfold rowM; rw [ex]] at hb
  exact fin [lstM q ((r.map PyData.int).map .d), shelfM C p sh rw'] (ent_trans (SE.cons hb).ent (ent_trans (ent_has (Bs := [lstM q ((r.map PyData.int).map .d), insM C p [("my_sheets", .r (.ref a)), ("my_rows", .r (.ref b))], lstM a ((sh.map oS).map .d), dictM b (l.map kvR), famM rowM l, fr]) (by walk_at "grab")) (ent_box (fam := shelfF C p sh rw') (q := (a, b, ⟨l, hl⟩)) [lstM q ((r.map PyData.int).map .d)] [fr]))) (hr q)
def K_Shelf_take_off (C : Addr) : Cn := fun ss rin res _ => ∃ (p : Addr) (sh : List (Option Int)) (rw : List Srow) (s : Int) (r : List Int) (i k : Nat), ss = [.r (.ref p), .d (.int s)] ∧ rin = [shelfM C p sh rw] ∧ (ShOk sh rw ∧ rw[i]? = some (s, r) ∧ sh[k]? = some (some s) ∧ ∀ j, j < k → sh[j]? ≠ some (some s)) ∧ ∀ q, res (.r (.ref q)) [lstM q ((r.map PyData.int).map .d), shelfM C p (sh.set k none) (rw.take i ++ rw.drop (i + 1))]
theorem ok_Shelf_take_off (hK : m.K = KC.K) (bl : Bl m.mg) {f fd} (F : Fun m.K "take_off" "Shelf.take_off" s_Shelf_take_off f fd) (oc : ObjC m C ["my_sheets", "my_rows"]) :
    FnOk m.P m.w m.K m.mg m.base (L2.CX m.P m.w) 1 f fd ["self", "sheet"] (spC (K_Shelf_take_off C)) := by
  refine fn_ok F f_Shelf_take_off e_Shelf_take_off bl hK (by rintro _ _ _ _ ⟨_, _, _, _, _, _, _, rfl, _⟩; rfl) 1 rfl ?_
  rintro ss rin fr res exc c hC
  obtain ⟨p, sh, rw', s, r, i, k, rfl, rfl, ⟨ho, hm, hk, hn⟩, hr⟩ := hC
  walk_at "nrm"
  refine dss_open (fam := shelfF C p sh rw') [] fun z => ?_
  obtain ⟨a, b, l, hl⟩ := z
  dsimp only [shelfF, List.nil_append, List.cons_append]
  have hi : ∃ x, l[i]? = some x ∧ x.1 = (s, r) := by
    rw [← hl, List.getElem?_map] at hm
    cases e : l[i]? with
    | none => rw [e] at hm; cases hm
    | some x => rw [e] at hm; exact ⟨x, rfl, Option.some.inj hm⟩
  obtain ⟨x, hi, ex⟩ := hi
  have hv := dict_val (f := kvR) hi (ho.keys hl)
  have hd := dict_drop (f := kvR) hi (ho.keys hl)
  have ek : (kvR x).1 = Sum.inl s := congrArg (fun y : Srow => (Sum.inl y.1 : Key)) ex
  rw [ek, show (kvR x).2 = .r (.ref x.2) from rfl] at hv
  rw [ek] at hd
  obtain ⟨hkl, _⟩ := List.getElem?_eq_some_iff.mp hk
  have hix := ix_oS (sh := sh) (i := (k : Int)) (by omega)
  rw [Int.toNat_natCast] at hix
  refine dss_cons (ds_set (dx_lindexO ?_))
  walk_at "go"
  refine ⟨a, sh.map oS, _, rfl, by walk_at "pick", ?_⟩
  walk_at "go"
  refine ⟨_, .int s, k, .int s, _, rfl, rfl, by walk_at "pick", shaped_oS sh, rfl, by rw [List.getElem?_map, hk]; rfl, by show ((s == s) = true); exact beq_self_eq_true s, fun m' z' hm' hz' => ?_, _, _, by walk_at "set", ?_⟩
  · rw [List.getElem?_map] at hz'
    cases e : sh[m']? with
    | none => rw [e] at hz'; cases hz'
    | some o =>
      rw [e] at hz'
      cases hz'
      cases o with
      | none => rfl
      | some n =>
        show (n == s) = false
        refine beq_eq_false_iff_ne.mpr fun en => ?_
        subst en
        exact hn m' hm' e
  walk_at "go"
  rw [hd, show Sl.d PyData.none = .d (oS none) from rfl, set_oS]
  refine fin [lstM x.2 ((r.map PyData.int).map .d), shelfM C p (sh.set k none) (rw'.take i ++ rw'.drop (i + 1))] ?_ (hr _)
  refine ent_trans (ent_has (Bs := [famM rowM l, insM C p [("my_sheets", .r (.ref a)), ("my_rows", .r (.ref b))], lstM a (((sh.set k none).map oS).map .d), dictM b ((l.take i ++ l.drop (i + 1)).map kvR), fr]) (by walk_at "grab")) ?_
  refine ent_trans (se_out hi).ent ?_
  rw [show rowM x = lstM x.2 ((r.map PyData.int).map .d) by unfold rowM; rw [ex]]
  refine ent_trans (ent_has (Bs := [lstM x.2 ((r.map PyData.int).map .d), insM C p [("my_sheets", .r (.ref a)), ("my_rows", .r (.ref b))], lstM a (((sh.set k none).map oS).map .d), dictM b ((l.take i ++ l.drop (i + 1)).map kvR), famM rowM (l.take i ++ l.drop (i + 1)), fr]) (by walk_at "grab")) ?_
  exact ent_box (fam := shelfF C p (sh.set k none) (rw'.take i ++ rw'.drop (i + 1))) (q := (a, b, ⟨l.take i ++ l.drop (i + 1), by rw [List.map_append, List.map_take, List.map_drop, hl]⟩)) [lstM x.2 ((r.map PyData.int).map .d)] [fr]
def K_Shelf_put_on (C : Addr) (E : Str → Addr) : Cn := fun ss rin res exc => ∃ (p : Addr) (sh : List (Option Int)) (rw : List Srow) (s : Int) (r : List Int), ss = [.r (.ref p), .d (.int s), .d (.list (r.map .int))] ∧ rin = [shelfM C p sh rw] ∧ (ShOk sh rw ∧ s ∉ rw.map (·.1)) ∧
  (∀ k : Nat, sh[k]? = some none → (∀ j, j < k → sh[j]? ≠ some none) → res (.d (.int k)) [shelfM C p (sh.set k (some s)) (rw ++ [(s, r)])]) ∧ (none ∉ sh → exc (E "Full") [shelfM C p sh rw])
theorem ok_Shelf_put_on (hK : m.K = KC.K) (bl : Bl m.mg) {f fd} (F : Fun m.K "put_on" "Shelf.put_on" s_Shelf_put_on f fd) (er : Errs m E raD tsD) (oc : ObjC m C ["my_sheets", "my_rows"]) :
    FnOk m.P m.w m.K m.mg m.base (L2.CX m.P m.w) 1 f fd ["self", "sheet", "row"] (spC (K_Shelf_put_on C E)) := by
  refine fn_ok F f_Shelf_put_on e_Shelf_put_on bl hK (by rintro _ _ _ _ ⟨_, _, _, _, _, rfl, _⟩; rfl) 1 rfl ?_
  rintro ss rin fr res exc c hC
  obtain ⟨p, sh, rw', s, r, rfl, rfl, ⟨ho, hs⟩, hr, hx⟩ := hC
  walk_at "nrm"
  refine dss_open (fam := shelfF C p sh rw') [] fun z => ?_
  obtain ⟨a, b, l, hl⟩ := z
  dsimp only [shelfF, List.nil_append, List.cons_append]
  have hno : valS (l.map kvR) (.inl s) = none := dict_no fun z => hs ((rw_mem hl s).mp z)
  have hpt := put_new (s := .r (.ref a)) hno
  refine dss_cons (ds_for (by walk_at "ix") (di_range1 ?_))
  walk_at "go"
  have hsl := ho.len
  refine ⟨_, rfl, by rw [List.length_map, List.length_map]; omega, Nat, List.range _, fun k => .d (.int (0 + (k : Nat))), rfl, Unit, fun _ => [.r (.ref p), .d (.int s), .d (.list (r.map .int)), .un], fun _ => [insM C p [("my_sheets", .r (.ref a)), ("my_rows", .r (.ref b))], lstM a ((sh.map oS).map .d), dictM b (l.map kvR), famM rowM l, fr], fun pre _ => ∀ j, j < pre.length → sh[j]? ≠ some none,
    ⟨(), fun _ h => absurd h (Nat.not_lt_zero _), by walk_at "le0", rfl⟩, fun _ _ _ => trivial, ?_, ?_⟩
  · rintro pre k post _ e inv
    obtain ⟨rfl, hk⟩ := range_split e
    rw [List.length_map, List.length_map, Int.toNat_natCast] at hk
    obtain ⟨o, ha, hg⟩ := atI_in (xs := sh) (i := 0 + (pre.length : Int)) (by omega)
    rw [show (0 + (pre.length : Int)).toNat = pre.length by omega] at hg
    have hat := at_oS ha
    have hix := ix_oS (sh := sh) (i := 0 + (pre.length : Int)) (by omega)
    rw [show (0 + (pre.length : Int)).toNat = pre.length by omega] at hix
    refine ⟨_, by walk_at "set", ?_⟩
    cases o with
    | none =>
      have hat : atI ((sh.map oS).map Sl.d) (0 + (pre.length : Int)) = some (.d .none) := hat
      have hll : (l.map kvR).length ≤ 100000 := by
        have h1 := congrArg List.length hl
        have h2 := ho.few
        rw [List.length_map] at h1 ⊢
        omega
      walk_at "go"
      rename_i q
      rw [put_new hno, show Sl.d (PyData.int s) = .d (oS (some s)) from rfl, set_oS, Int.zero_add]
      refine fin [shelfM C p (sh.set pre.length (some s)) (rw' ++ [(s, r)])] ?_ (hr _ hg inv)
      refine ent_trans (ent_has (Bs := [rowM ((s, r), q), famM rowM l, insM C p [("my_sheets", .r (.ref a)), ("my_rows", .r (.ref b))], lstM a (((sh.set pre.length (some s)).map oS).map .d), dictM b (l.map kvR ++ [(.inl s, .r (.ref q))]), fr]) (by walk_at "grab")) ?_
      refine ent_trans se_add.ent ?_
      refine ent_trans (ent_has (Bs := [insM C p [("my_sheets", .r (.ref a)), ("my_rows", .r (.ref b))], lstM a (((sh.set pre.length (some s)).map oS).map .d), dictM b (l.map kvR ++ [(.inl s, .r (.ref q))]), famM rowM (l ++ [((s, r), q)]), fr]) (by walk_at "grab")) ?_
      rw [show l.map kvR ++ [(Sum.inl s, Sl.r (.ref q))] = (l ++ [((s, r), q)]).map kvR by rw [List.map_append]; rfl]
      exact enS (by rw [List.map_append, hl]; rfl)
    | some n =>
      have hat : atI ((sh.map oS).map Sl.d) (0 + (pre.length : Int)) = some (.d (.int n)) := hat
      walk_at "go"
      refine ⟨(), fun j hj => ?_, by walk_at "le", rfl⟩
      rw [List.length_append, List.length_cons, List.length_nil] at hj
      by_cases ej : j = pre.length
      · rw [ej, hg]; intro z; cases z
      · exact inv j (by omega)
  · intro _ inv
    rw [List.length_range, List.length_map, List.length_map, Int.toNat_natCast] at inv
    have hf : none ∉ sh := fun h => by
      obtain ⟨j, hj⟩ := List.mem_iff_getElem?.mp h
      exact inv j (List.getElem?_eq_some_iff.mp hj).choose hj
    walk_at "go"
    exact ⟨[shelfM C p sh rw'], enS hl, hx hf⟩
end

section
variable [KC] {m : Mo}
def K_Lwhole : Cn := fun ss rin res _ => ∃ n : Int, ss = [.d (.int n)] ∧ rin = [] ∧ True ∧ res (.d (.bool true)) []
theorem ok_Lwhole (hK : m.K = KC.K) (bl : Bl m.mg) {f fd} (F : Fun m.K "_law_whole" "_law_whole" s_Lwhole f fd) :
    FnOk m.P m.w m.K m.mg m.base (L2.CX m.P m.w) 1 f fd ["_law_found"] (spC K_Lwhole) := by
  refine fn_ok F f_Lwhole e_Lwhole bl hK (by rintro _ _ _ _ ⟨_, rfl, _⟩; rfl) 0 rfl ?_
  rintro ss rin fr res exc c hC
  obtain ⟨n, rfl, rfl, _, hr⟩ := hC
  walk_at "st"; walk_at "go"
def K_Lalike (n : Nat) : Cn := fun ss rin res _ => ∃ d : PyData, ss = [.d d, .d d] ∧ rin = [] ∧ AlikeOk n d ∧ res (.d (.bool true)) []
theorem ok_Lalike0 (hK : m.K = KC.K) (bl : Bl m.mg) {f fd} (F : Fun m.K "_law_alike" "_law_alike" s_Lalike f fd) (h1 : FnIs m "_law_whole" 1 K_Lwhole) :
    FnOk m.P m.w m.K m.mg m.base (L2.CX m.P m.w) 2 f fd ["_law_found", "_law_due"] (spC (K_Lalike 0)) := by
  refine fn_ok F f_Lalike e_Lalike bl hK (by rintro _ _ _ _ ⟨_, rfl, _⟩; rfl) 1 rfl ?_
  rintro ss rin fr res exc c hC
  obtain ⟨d, rfl, rfl, hd, hr⟩ := hC
  cases hd with
  | non => walk_at "st"; walk_at "go"
  | bl _ b => cases b <;> (walk_at "st"; walk_at "go")
  | int _ i => walk_at "st"; walk_at "go"
  | str _ s => walk_at "st"; walk_at "go"; rw [decide_eq_true rfl]; walk_at "go"
theorem ok_Lalike1 (hK : m.K = KC.K) (bl : Bl m.mg) {f fd} (F : Fun m.K "_law_alike" "_law_alike" s_Lalike f fd) (h1 : FnIs m "_law_whole" 1 K_Lwhole) (h2 : FnIs m "_law_alike" 2 (K_Lalike 0)) :
    FnOk m.P m.w m.K m.mg m.base (L2.CX m.P m.w) 3 f fd ["_law_found", "_law_due"] (spC (K_Lalike 1)) := by
  refine fn_ok F f_Lalike e_Lalike bl hK (by rintro _ _ _ _ ⟨_, rfl, _⟩; rfl) 1 rfl ?_
  rintro ss rin fr res exc c hC
  obtain ⟨d, rfl, rfl, hd, hr⟩ := hC
  cases hd with
  | non => walk_at "st"; walk_at "go"
  | bl _ b => cases b <;> (walk_at "st"; walk_at "go")
  | int _ i => walk_at "st"; walk_at "go"
  | str _ s => walk_at "st"; walk_at "go"; rw [decide_eq_true rfl]; walk_at "go"
  | @tup _ ds hl ha =>
    walk_at "st"; walk_at "go"
    refine ds_for (by walk_at "ix") (di_range1 ?_)
    walk_at "go"
    refine ⟨_, rfl, by omega, Nat, List.range _, fun k => .d (.int (0 + (k : Nat))), rfl, ?_⟩
    refine for_un (ρ0 := [.d (.tuple ds), .d (.tuple ds), .un]) (by walk_at "le") trivial ?_ fun k hk => ⟨_, by walk_at "set", ?_⟩
    · walk_at "go"
    · rw [List.mem_range, Int.toNat_natCast] at hk
      obtain ⟨d, hd1, hd2⟩ := atI_in (xs := ds) (i := 0 + (k : Int)) (by omega)
      have hdk := ha d (List.mem_of_getElem? hd2)
      walk_at "go"
  | @lst _ ds hl ha =>
    walk_at "st"; walk_at "go"
    refine ds_for (by walk_at "ix") (di_range1 ?_)
    walk_at "go"
    refine ⟨_, rfl, by omega, Nat, List.range _, fun k => .d (.int (0 + (k : Nat))), rfl, ?_⟩
    refine for_un (ρ0 := [.d (.list ds), .d (.list ds), .un]) (by walk_at "le") trivial ?_ fun k hk => ⟨_, by walk_at "set", ?_⟩
    · walk_at "go"
    · rw [List.mem_range, Int.toNat_natCast] at hk
      obtain ⟨d, hd1, hd2⟩ := atI_in (xs := ds) (i := 0 + (k : Int)) (by omega)
      have hdk := ha d (List.mem_of_getElem? hd2)
      walk_at "go"
theorem ok_Lalike2 (hK : m.K = KC.K) (bl : Bl m.mg) {f fd} (F : Fun m.K "_law_alike" "_law_alike" s_Lalike f fd) (h1 : FnIs m "_law_whole" 1 K_Lwhole) (h2 : FnIs m "_law_alike" 3 (K_Lalike 1)) :
    FnOk m.P m.w m.K m.mg m.base (L2.CX m.P m.w) 4 f fd ["_law_found", "_law_due"] (spC (K_Lalike 2)) := by
  refine fn_ok F f_Lalike e_Lalike bl hK (by rintro _ _ _ _ ⟨_, rfl, _⟩; rfl) 1 rfl ?_
  rintro ss rin fr res exc c hC
  obtain ⟨d, rfl, rfl, hd, hr⟩ := hC
  cases hd with
  | non => walk_at "st"; walk_at "go"
  | bl _ b => cases b <;> (walk_at "st"; walk_at "go")
  | int _ i => walk_at "st"; walk_at "go"
  | str _ s => walk_at "st"; walk_at "go"; rw [decide_eq_true rfl]; walk_at "go"
  | @tup _ ds hl ha =>
    walk_at "st"; walk_at "go"
    refine ds_for (by walk_at "ix") (di_range1 ?_)
    walk_at "go"
    refine ⟨_, rfl, by omega, Nat, List.range _, fun k => .d (.int (0 + (k : Nat))), rfl, ?_⟩
    refine for_un (ρ0 := [.d (.tuple ds), .d (.tuple ds), .un]) (by walk_at "le") trivial ?_ fun k hk => ⟨_, by walk_at "set", ?_⟩
    · walk_at "go"
    · rw [List.mem_range, Int.toNat_natCast] at hk
      obtain ⟨d, hd1, hd2⟩ := atI_in (xs := ds) (i := 0 + (k : Int)) (by omega)
      have hdk := ha d (List.mem_of_getElem? hd2)
      walk_at "go"
  | @lst _ ds hl ha =>
    walk_at "st"; walk_at "go"
    refine ds_for (by walk_at "ix") (di_range1 ?_)
    walk_at "go"
    refine ⟨_, rfl, by omega, Nat, List.range _, fun k => .d (.int (0 + (k : Nat))), rfl, ?_⟩
    refine for_un (ρ0 := [.d (.list ds), .d (.list ds), .un]) (by walk_at "le") trivial ?_ fun k hk => ⟨_, by walk_at "set", ?_⟩
    · walk_at "go"
    · rw [List.mem_range, Int.toNat_natCast] at hk
      obtain ⟨d, hd1, hd2⟩ := atI_in (xs := ds) (i := 0 + (k : Int)) (by omega)
      have hdk := ha d (List.mem_of_getElem? hd2)
      walk_at "go"
end

section
variable [KC] {m : Mo}
def lfac (k : Int) : Int := [48271, 100000000000000000000 + 39, 10000000000000000000000000000000000000000 + 121, 100000000000000000000000000000000000000000000000000000000000 + 7].getD (k % 4).toNat 0
def lbig (c k : Int) : Int := c * lfac k + 7919 * k * k
def lnums (big : Int) : List Int := [big % 9, big % (1000000000000000000000000000000000000000000000000000000000000 - 1 + 1), -(big % (1000000000000000000000000000000000000000000000000000000000000 - 1 + 1)), 1000000000000000000000000000000000000000000000000000000000000 - 1 - big % 2, big % 2 - (1000000000000000000000000000000000000000000000000000000000000 - 1), -1 - big % 7]
def lnum (c k : Int) : Int := (lnums (lbig c k)).getD ((c + 5 * k) * 69621 % 15101 % 6).toNat 0
def K_Lnum : Cn := fun ss rin res _ => ∃ c k : Int, ss = [.d (.int c), .d (.int k)] ∧ rin = [] ∧ ((-(8 * BM) ≤ c ∧ c ≤ 8 * BM) ∧ 0 ≤ k ∧ k ≤ 1000) ∧ res (.d (.int (lnum c k))) []
theorem ok_Lnum (hK : m.K = KC.K) (bl : Bl m.mg) {f fd} (F : Fun m.K "_law_num" "_law_num" s_Lnum f fd) :
    FnOk m.P m.w m.K m.mg m.base (L2.CX m.P m.w) 1 f fd ["_law_cell", "_law_k"] (spC K_Lnum) := by
  refine fn_ok F f_Lnum e_Lnum bl hK (by rintro _ _ _ _ ⟨_, _, rfl, _⟩; rfl) 3 rfl ?_
  rintro ss rin fr res exc c hC
  obtain ⟨c', k, rfl, rfl, ⟨hc, hk⟩, hr⟩ := hC
  have hm := bm_big
  walk_at "nrm"
  refine dss_cut (I := fun ρ' r' => ρ' = [.d (.int c'), .d (.int k), .d (.int (1000000000000000000000000000000000000000000000000000000000000 - 1)), .un, .un] ∧ r' = [fr]) ?_ ?_
  · walk_at "go"
    exact ⟨rfl, rfl⟩
  rintro _ _ ⟨rfl, rfl⟩
  refine dss_cut (I := fun ρ' r' => ρ' = [.d (.int c'), .d (.int k), .d (.int (1000000000000000000000000000000000000000000000000000000000000 - 1)), .d (.int (lbig c' k)), .un] ∧ r' = [fr]) ?_ ?_
  · have h4 : k % 4 = 0 ∨ k % 4 = 1 ∨ k % 4 = 2 ∨ k % 4 = 3 := by omega
    rcases h4 with h | h | h | h
    all_goals
      have e : lbig c' k = c' * lfac k + 7919 * k * k := rfl
      unfold lfac at e
      rw [h] at e
      walk_at "go"
      refine od_ixs rfl (by rw [h]; rfl) ?_
      walk_at "go"
      try (refine od_mul (mul_bm (by omega) (by decide +kernel)) ?_; walk_at "go")
      exact ⟨by rw [e]; rfl, rfl⟩
  rintro _ _ ⟨rfl, rfl⟩
  walk_at "go"
  obtain ⟨v, hv, hg⟩ := atI_in (xs := (lnums (lbig c' k)).map PyData.int) (i := (c' + 5 * k) * 69621 % 15101 % 6) (by show _ ∧ _ < ((6 : Nat) : Int); omega)
  have e : lnum c' k = (lnums (lbig c' k)).getD ((c' + 5 * k) * 69621 % 15101 % 6).toNat 0 := rfl
  rw [List.getElem?_map] at hg
  rw [List.getD_eq_getElem?_getD] at e
  refine od_ixs rfl hv ?_
  cases h : (lnums (lbig c' k))[((c' + 5 * k) * 69621 % 15101 % 6).toNat]? with
  | none => rw [h] at hg; cases hg
  | some n =>
    rw [h] at hg e
    cases hg
    rw [show n = lnum c' k from e.symm]
    walk_at "go"
theorem lnum_le (c k : Int) : -1000000000000000000000000000000000000000000000000000000000000 < lnum c k ∧ lnum c k < 1000000000000000000000000000000000000000000000000000000000000 := by
  unfold lnum
  rw [List.getD_eq_getElem?_getD]
  cases h : (lnums (lbig c k))[((c + 5 * k) * 69621 % 15101 % 6).toNat]? with
  | none => exact ⟨by decide, by decide⟩
  | some n =>
    have hm := List.mem_of_getElem? h
    unfold lnums at hm
    simp only [List.mem_cons, List.not_mem_nil, or_false] at hm
    show _ < n ∧ n < _
    omega
def lrow (c : Int) : List Int := [lnum c 0, lnum (c + 31) 1, lnum (c + 62) 2, lnum (c + 93) 3]
def K_Lrow : Cn := fun ss rin res _ => ∃ c : Int, ss = [.d (.int c)] ∧ rin = [] ∧ (-(4 * BM) ≤ c ∧ c ≤ 4 * BM) ∧ res (.n ((lrow c).map .int)) []
theorem ok_Lrow (hK : m.K = KC.K) (bl : Bl m.mg) {f fd} (F : Fun m.K "_law_row" "_law_row" s_Lrow f fd) (h1 : FnIs m "_law_num" 1 K_Lnum) :
    FnOk m.P m.w m.K m.mg m.base (L2.CX m.P m.w) 2 f fd ["_law_cell"] (spC K_Lrow) := by
  refine fn_ok F f_Lrow e_Lrow bl hK (by rintro _ _ _ _ ⟨_, rfl, _⟩; rfl) 1 rfl ?_
  rintro ss rin fr res exc c hC
  obtain ⟨c', rfl, rfl, hc, hr⟩ := hC
  have hm := bm_big
  walk_at "st"
  refine ds_ret (dx_lc0 (by walk_at "ix") (blkOk_by (by decide +kernel)) (di_range1 ?_))
  walk_at "go"
  refine ⟨_, rfl, by omega, Nat, List.range 4, fun k => .d (.int (0 + (k : Nat))), fun k => .int (lnum (c' + 31 * k) k), rfl, fun A => trivial, by rw [List.length_range]; omega, ⟨_, by walk_at "set", fun k hk => ⟨_, by walk_at "set", ?_⟩⟩, ?_⟩
  · intro A s0 H0 C0 cl0 fp0 hso
    rw [List.mem_range] at hk
    have hcond : (-(8 * BM) ≤ c' + 31 * (0 + (k : Int)) ∧ c' + 31 * (0 + (k : Int)) ≤ 8 * BM) ∧ 0 ≤ 0 + (k : Int) ∧ 0 + (k : Int) ≤ 1000 := by omega
    walk_at "go"
    rw [Int.zero_add]
    exact ⟨rfl, rfl⟩
  · have e : (List.range 4).map (fun k : Nat => PyData.int (lnum (c' + 31 * k) k)) = (lrow c').map .int := by
      show [PyData.int (lnum (c' + 31 * 0) 0), PyData.int (lnum (c' + 31 * 1) 1), PyData.int (lnum (c' + 31 * 2) 2), PyData.int (lnum (c' + 31 * 3) 3)] = _
      rw [Int.mul_zero, Int.add_zero]; rfl
    rw [e]
    exact end_rt hr
end

section
variable [KC] {m : Mo}
def cellAt (ns : List Int) (k : Int) : Int := ns.getD k.toNat 0
def K_Lcell_at : Cn := fun ss rin res _ => ∃ (ns : List Int) (k : Int), ss = [.d (.list (ns.map .int)), .d (.int k)] ∧ rin = [] ∧ 0 ≤ k ∧ res (.d (.int (cellAt ns k))) []
theorem ok_Lcell_at (hK : m.K = KC.K) (bl : Bl m.mg) {f fd} (F : Fun m.K "_law_cell_at" "_law_cell_at" s_Lcell_at f fd) :
    FnOk m.P m.w m.K m.mg m.base (L2.CX m.P m.w) 1 f fd ["_law_script", "_law_k"] (spC K_Lcell_at) := by
  refine fn_ok F f_Lcell_at e_Lcell_at bl hK (by rintro _ _ _ _ ⟨_, _, rfl, _⟩; rfl) 0 rfl ?_
  rintro ss rin fr res exc c hC
  obtain ⟨ns, k, rfl, rfl, hk, hr⟩ := hC
  unfold cellAt at hr
  walk_at "st"; walk_at "go"
  rw [List.length_map]
  refine ite_d (fun h => ?_) (fun h => ?_)
  · obtain ⟨v, hv, hg⟩ := atI_ints (xs := ns) (i := k) ⟨hk, h⟩
    rw [List.getD_eq_getElem?_getD, hg] at hr
    walk_at "go"
    exact end_rt hr
  · rw [List.getD_eq_getElem?_getD, List.getElem?_eq_none (l := ns) (i := k.toNat) (by omega)] at hr
    walk_at "go"
    exact end_rt hr
end

section
variable [KC] {m : Mo} {C : Addr} {E : Str → Addr}
def kvP (x : Srow) : Key × Sl := (.inl x.1, .d (.list (x.2.map .int)))
abbrev pdM (w : Addr) (rw : List Srow) : Mem := dictM w (rw.map kvP)
abbrev spM (q : Addr) (sh : List (Option Int)) : Mem := lstM q ((sh.map oS).map .d)
structure Sv (sh : List (Option Int)) (rw : List Srow) : Prop where
  ok : ShOk sh rw
  has : ∀ s ∈ rw.map (·.1), some s ∈ sh
  four : ∀ x ∈ rw, x.2.length = 4
theorem first_at {α : Type} {o : α} : ∀ {l : List α}, o ∈ l → ∃ k : Nat, l[k]? = some o ∧ ∀ j, j < k → l[j]? ≠ some o
  | [], h => by cases h
  | a :: l, h => by
    by_cases e : a = o
    · exact ⟨0, by rw [e]; rfl, fun j hj => absurd hj (Nat.not_lt_zero _)⟩
    · rcases List.mem_cons.mp h with h | h
      · exact absurd h.symm e
      · obtain ⟨k, h1, h2⟩ := first_at h
        refine ⟨k + 1, by simpa using h1, fun j hj => ?_⟩
        cases j with
        | zero => intro z; exact e (by simpa using z)
        | succ j => intro z; exact h2 j (by omega) (by simpa using z)
theorem pd_keys (rw : List Srow) : (rw.map fun z => (kvP z).1) = (rw.map (·.1)).map Sum.inl := by rw [List.map_map]; rfl
theorem pd_some (rw : List Srow) (s : Int) : (valS (rw.map kvP) (.inl s)).isSome = decide (s ∈ rw.map (·.1)) := by
  rw [Bool.eq_iff_iff, valS_mem, List.map_map, decide_eq_true_iff, show ((fun x : Key × Sl => x.1) ∘ kvP) = fun z => (kvP z).1 from rfl, pd_keys, List.mem_map]
  constructor
  · rintro ⟨x, hx, e⟩; cases e; exact hx
  · exact fun h => ⟨s, h, rfl⟩
theorem inl_nd {l : List Int} (h : l.Nodup) : (l.map (Sum.inl : Int → Key)).Nodup := by
  unfold List.Nodup
  rw [List.pairwise_map]
  exact List.Pairwise.imp (fun h e => h (Sum.inl.inj e)) h
theorem pd_nd {rw : List Srow} (h : (rw.map (·.1)).Nodup) : (rw.map fun z => (kvP z).1).Nodup := by rw [pd_keys]; exact inl_nd h
theorem pd_at {rw : List Srow} (h : (rw.map (·.1)).Nodup) {i : Nat} {s : Int} {r : List Int} (hi : rw[i]? = some (s, r)) : valS (rw.map kvP) (.inl s) = some (.d (.list (r.map .int))) := dict_val (f := kvP) hi (pd_nd h)
theorem pd_drop {rw : List Srow} (h : (rw.map (·.1)).Nodup) {i : Nat} {s : Int} {r : List Int} (hi : rw[i]? = some (s, r)) : dropS (rw.map kvP) (.inl s) = (rw.take i ++ rw.drop (i + 1)).map kvP := dict_drop (f := kvP) hi (pd_nd h)
theorem pd_put {rw : List Srow} {s : Int} {r : List Int} (h : s ∉ rw.map (·.1)) : putS (rw.map kvP) (.inl s) (.d (.list (r.map .int))) = (rw ++ [(s, r)]).map kvP := by
  rw [put_new, List.map_append]; rfl
  have := pd_some rw s
  rw [decide_eq_false h] at this
  cases e : valS (rw.map kvP) (.inl s) with
  | none => rfl
  | some _ => rw [e] at this; cases this
theorem key_ix {rw : List Srow} {s : Int} (h : s ∈ rw.map (·.1)) : ∃ (i : Nat) (r : List Int), rw[i]? = some (s, r) := by
  obtain ⟨⟨s2, r⟩, hx, rfl⟩ := List.mem_map.mp h
  obtain ⟨i, hi⟩ := List.mem_iff_getElem?.mp hx
  exact ⟨i, r, hi⟩
def K_Lfresh : Cn := fun ss rin res _ => ∃ (c : Int) (w : Addr) (rw : List Srow), ss = [.d (.int c), .r (.ref w)] ∧ rin = [pdM w rw] ∧ True ∧ ∀ s : Int, s ∉ rw.map (·.1) → res (.d (.int s)) [pdM w rw]
theorem above_lt {rw : List Srow} {s : Int} (h : s ∈ rw.map (·.1)) : (rw.filter fun x => decide (s + 1 ≤ x.1)).length < (rw.filter fun x => decide (s ≤ x.1)).length := by
  obtain ⟨x, hx, rfl⟩ := List.mem_map.mp h
  have e : (rw.filter fun y => decide (x.1 + 1 ≤ y.1)) = (rw.filter fun y => decide (x.1 ≤ y.1)).filter fun y => decide (x.1 + 1 ≤ y.1) := by
    rw [List.filter_filter]
    refine List.filter_congr fun y _ => ?_
    by_cases h1 : x.1 + 1 ≤ y.1
    · rw [decide_eq_true h1, decide_eq_true (show x.1 ≤ y.1 by omega)]; rfl
    · rw [decide_eq_false h1]; rfl
  rw [e]
  refine List.length_filter_lt_length_iff_exists.mpr ⟨x, List.mem_filter.mpr ⟨hx, decide_eq_true (Int.le_refl _)⟩, ?_⟩
  simp
  omega
theorem ok_Lfresh (hK : m.K = KC.K) (bl : Bl m.mg) {f fd} (F : Fun m.K "_law_fresh" "_law_fresh" s_Lfresh f fd) :
    FnOk m.P m.w m.K m.mg m.base (L2.CX m.P m.w) 1 f fd ["_law_cell", "_law_rows"] (spC K_Lfresh) := by
  refine fn_ok F f_Lfresh e_Lfresh bl hK (by rintro _ _ _ _ ⟨_, _, _, rfl, _⟩; rfl) 1 rfl ?_
  rintro ss rin fr res exc c hC
  obtain ⟨c', w, rw', rfl, rfl, _, hr⟩ := hC
  walk_at "nrm"
  refine dss_cut (I := fun ρ' r' => ∃ s : Int, ρ' = [.d (.int c'), .r (.ref w), .d (.int s)] ∧ r' = [pdM w rw', fr]) ?_ ?_
  · walk_at "go"
    refine od_ixA rfl ⟨by omega, by (simp only [List.length_cons, List.length_nil]; omega)⟩ (fun d hd => ?_)
    simp only [List.mem_cons, List.not_mem_nil, or_false] at hd
    rcases hd with rfl | rfl | rfl <;> (walk_at "go"; exact ⟨_, rfl, rfl⟩)
  rintro _ _ ⟨s0, rfl, rfl⟩
  refine dss_cons (ds_while Int (fun s => [.d (.int c'), .r (.ref w), .d (.int s)]) (fun s => [pdM w rw', fr]) (fun _ => True) (fun s => (rw'.filter fun x => decide (s ≤ x.1)).length)
    ⟨s0, trivial, by walk_at "le0", rfl⟩ ?_)
  rintro s _
  walk_at "go"
  rw [pd_some]
  refine ite_d (fun h => ?_) (fun h => ?_)
  · walk_at "go"
    exact ⟨s + 1, trivial, above_lt h, by walk_at "le", rfl⟩
  · walk_at "go"
    exact fin [pdM w rw'] ent_refl (hr s h)
theorem lnd_shelf {C p : Addr} {sh : List (Option Int)} {rw : List Srow} : Lnd (shelfM C p sh rw) := lnd_ex fun z => lnda_cons (lnd_ins (by
  intro s hs
  simp only [List.map_cons, List.map_nil, List.mem_cons, List.not_mem_nil, or_false] at hs
  rcases hs with rfl | rfl <;> rfl)) (lnda_cons (lnd_map fun o => by cases o <;> rfl) (lnda_cons (lnd_dict fun s hs => by
    rw [List.map_map] at hs
    obtain ⟨x, _, rfl⟩ := List.mem_map.mp hs
    rfl) (lnda_cons (fun F G G' H h mo => sepL.more mo (fun B hB => by
      obtain ⟨x, _, rfl⟩ := List.mem_map.mp hB
      exact lnd_map fun _ => rfl) h) lnda_nil)))
def K_Lrefused (C : Addr) : Cn := fun ss rin res _ => ∃ (p : Addr) (sh : List (Option Int)) (rw : List Srow) (s : Int) (r : List Int), ss = [.r (.ref p), .d (.int s), .d (.list (r.map .int))] ∧ rin = [shelfM C p sh rw] ∧ (ShOk sh rw ∧ s ∉ rw.map (·.1) ∧ none ∉ sh) ∧ res (.d (.bool true)) [shelfM C p sh rw]
theorem ok_Lrefused (hK : m.K = KC.K) (bl : Bl m.mg) {f fd} (F : Fun m.K "_law_refused" "_law_refused" s_Lrefused f fd) (er : Errs m E raD tsD) (hVE : m.mg "ValueError" = none) (oc : ObjC m C ["my_sheets", "my_rows"]) (hc : MtIs m C "put_on" 1 (K_Shelf_put_on C E)) :
    FnOk m.P m.w m.K m.mg m.base (L2.CX m.P m.w) 2 f fd ["_law_shelf", "_law_sheet", "_law_row_here"] (spC (K_Lrefused C)) := by
  refine fn_ok F f_Lrefused e_Lrefused bl hK (by rintro _ _ _ _ ⟨_, _, _, _, _, rfl, _⟩; rfl) 2 rfl ?_
  rintro ss rin fr res exc c hC
  obtain ⟨p, sh, rw', s, r, rfl, rfl, ⟨ho, hs, hn⟩, hr⟩ := hC
  walk_at "st"; walk_at "go"
  refine ds_try er (by decide +kernel) (by walk_at "ix") fun c' => ?_
  walk_at "go"
  refine ⟨fun k hk _ => absurd (List.mem_of_getElem? hk) hn, fun _ => ?_⟩
  refine catch_of (by decide +kernel) fun a c2 A => ⟨_, _, by walk_at "set", ?_⟩
  walk_at "go"
  exact fin _ ent_refl hr
def K_Lput (C : Addr) : Cn := fun ss rin res _ => ∃ (p q w : Addr) (sh : List (Option Int)) (rw : List Srow) (s : Int) (r : List Int), ss = [.r (.ref p), .r (.ref q), .r (.ref w), .d (.int s), .d (.list (r.map .int))] ∧ rin = [shelfM C p sh rw, spM q sh, pdM w rw] ∧ (ShOk sh rw ∧ s ∉ rw.map (·.1) ∧ none ∈ sh ∧ r.length = 4) ∧
  ∀ k : Nat, sh[k]? = some none → (∀ j, j < k → sh[j]? ≠ some none) → res (.d (.bool true)) [shelfM C p (sh.set k (some s)) (rw ++ [(s, r)]), spM q (sh.set k (some s)), pdM w (rw ++ [(s, r)])]
theorem ok_Lput (hK : m.K = KC.K) (bl : Bl m.mg) {f fd} (F : Fun m.K "_law_put" "_law_put" s_Lput f fd) (oc : ObjC m C ["my_sheets", "my_rows"]) (hc : MtIs m C "put_on" 1 (K_Shelf_put_on C E)) (h1 : FnIs m "_law_alike" 4 (K_Lalike 2)) :
    FnOk m.P m.w m.K m.mg m.base (L2.CX m.P m.w) 5 f fd ["_law_shelf", "_law_spots", "_law_rows", "_law_sheet", "_law_row_here"] (spC (K_Lput C)) := by
  refine fn_ok F f_Lput e_Lput bl hK (by rintro _ _ _ _ ⟨_, _, _, _, _, _, _, rfl, _⟩; rfl) 2 rfl ?_
  rintro ss rin fr res exc c hC
  obtain ⟨p, q, w, sh, rw', s, r, rfl, rfl, ⟨ho, hs, hn, h4⟩, hr⟩ := hC
  obtain ⟨k, hk, hkn⟩ := first_at hn
  obtain ⟨hkl, _⟩ := List.getElem?_eq_some_iff.mp hk
  have hsl := ho.len
  have hix := ix_oS (sh := sh) (i := (k : Int)) (by omega)
  rw [Int.toNat_natCast] at hix
  have a1 : AlikeOk 2 (.int (k : Nat)) := .int _ _
  have a2 : AlikeOk 2 (.list (r.map .int)) := .lst (by rw [List.length_map]; omega) fun d hd => by
    obtain ⟨n, _, rfl⟩ := List.mem_map.mp hd
    exact .int _ _
  have hix1 : ixN ((r.map PyData.int).map Sl.d).length 1 = some (1 : Int).toNat := ixN_in (by rw [List.length_map, List.length_map]; omega)
  have hwl : (rw'.map kvP).length ≤ 100000 := by rw [List.length_map]; exact Nat.le_trans ho.few (by decide)
  walk_at "nrm"
  refine dss_cons (ds_set (dx_lindexO ?_))
  walk_at "go"
  refine ⟨q, sh.map oS, _, rfl, by walk_at "pick", ?_⟩
  walk_at "go"
  refine ⟨_, .none, k, .none, _, rfl, rfl, by walk_at "pick", shaped_oS sh, rfl, by rw [List.getElem?_map, hk]; rfl, rfl, fun m' z' hm' hz' => ?_, _, _, by walk_at "set", ?_⟩
  · rw [List.getElem?_map] at hz'
    cases e : sh[m']? with
    | none => rw [e] at hz'; cases hz'
    | some o =>
      rw [e] at hz'
      cases hz'
      cases o with
      | none => exact absurd e (hkn m' hm')
      | some n => rfl
  walk_at "go"
  rename_i h
  refine ce_lend [(h, r.map .int)] (rin := [shelfM C p sh rw']) (grab2 (by walk_at "pick") (by walk_at "pick2")) (by walk_at "lent") ⟨p, sh, rw', s, r, rfl, rfl, ⟨ho, hs⟩, fun k2 hk2 hkn2 => ?_, fun z => absurd hn z⟩
  have ek : k2 = k := by
    rcases Nat.lt_trichotomy k2 k with z | z | z
    · exact absurd hk2 (hkn k2 z)
    · exact z
    · exact absurd hk (hkn2 k z)
  subst ek
  refine ⟨rfl, lnda_cons lnd_shelf lnda_nil, ?_⟩
  dsimp only [lent_cons, lent_nil, List.nil_append, List.cons_append]
  walk_at "go"
  refine ce_lend [(h, r.map .int)] (rin := []) (grab1 (by walk_at "pick")) (by walk_at "lent") ⟨_, rfl, rfl, a2, rfl, lnda_nil, ?_⟩
  dsimp only [lent_cons, lent_nil, List.nil_append, List.cons_append]
  walk_at "go"
  rw [pd_put hs, show Sl.d (PyData.int s) = .d (oS (some s)) from rfl, set_oS]
  exact fin [shelfM C p (sh.set k2 (some s)) (rw' ++ [(s, r)]), spM q (sh.set k2 (some s)), pdM w (rw' ++ [(s, r)])] (ent_has (by walk_at "grab")) (hr k2 hk hkn)
end
section
variable [KC] {m : Mo} {C : Addr} {E : Str → Addr}
theorem flat_oS (sh : List (Option Int)) : (sh.map oS).all flatD = true := by
  rw [List.all_eq_true]
  intro d hd
  obtain ⟨o, _, rfl⟩ := List.mem_map.mp hd
  cases o <;> rfl
theorem any_oS (sh : List (Option Int)) : ((sh.map oS).any fun y => eqF y .none) = decide (none ∈ sh) := by
  rw [Bool.eq_iff_iff, decide_eq_true_iff, List.any_eq_true]
  constructor
  · rintro ⟨d, hd, he⟩
    obtain ⟨o, ho, rfl⟩ := List.mem_map.mp hd
    cases o with
    | none => exact ho
    | some n => cases he
  · exact fun h => ⟨.none, List.mem_map.mpr ⟨none, h, rfl⟩, rfl⟩
theorem mem_rest {α : Type} {l : List α} {i : Nat} {x : α} (h : x ∈ l.take i ++ l.drop (i + 1)) : x ∈ l := by
  rcases List.mem_append.mp h with h | h
  · exact List.mem_of_mem_take h
  · exact List.mem_of_mem_drop h
theorem map_rest {α β : Type} (f : α → β) (l : List α) (i : Nat) : (l.take i ++ l.drop (i + 1)).map f = (l.map f).take i ++ (l.map f).drop (i + 1) := by rw [List.map_append, List.map_take, List.map_drop]
theorem rest_len {α : Type} {l : List α} {i : Nat} {x : α} (h : l[i]? = some x) : (l.take i ++ l.drop (i + 1)).length + 1 = l.length := by
  obtain ⟨hi, _⟩ := List.getElem?_eq_some_iff.mp h
  rw [List.length_append, List.length_take, List.length_drop]
  omega
theorem rest_sub {α : Type} (l : List α) (i : Nat) : (l.take i ++ l.drop (i + 1)).Sublist l := by
  conv => rhs; rw [← List.take_append_drop i l]
  refine List.Sublist.append (List.Sublist.refl _) ?_
  rw [← List.drop_drop]
  exact List.drop_sublist _ _
theorem rest_no {α : Type} {l : List α} {i : Nat} {x : α} (h : l[i]? = some x) (nd : l.Nodup) : x ∉ l.take i ++ l.drop (i + 1) := fun hx => by
  obtain ⟨e, _⟩ := take_mid h
  rw [e] at nd
  obtain ⟨_, n2, n3⟩ := List.nodup_append.mp nd
  rcases List.mem_append.mp hx with z | z
  · exact n3 _ z _ List.mem_cons_self rfl
  · exact (List.nodup_cons.mp n2).1 z
theorem Sv.put {sh : List (Option Int)} {rw : List Srow} (h : Sv sh rw) {k : Nat} {s : Int} {r : List Int} (hk : sh[k]? = some none) (hs : s ∉ rw.map (·.1)) (h4 : r.length = 4) (hl : rw.length < 1000) : Sv (sh.set k (some s)) (rw ++ [(s, r)]) where
  ok := ⟨by rw [List.length_set]; exact h.ok.len, by
    rw [List.map_append, List.nodup_append]
    refine ⟨h.ok.nd, by simp, fun a ha b hb => ?_⟩
    rw [show b = s from List.mem_singleton.mp hb]
    rintro rfl
    exact hs ha, by rw [List.length_append, List.length_cons, List.length_nil]; omega⟩
  has := fun t ht => by
    rw [List.map_append] at ht
    have hkl := (List.getElem?_eq_some_iff.mp hk).choose
    rcases List.mem_append.mp ht with ht | ht
    · obtain ⟨j, hj⟩ := List.mem_iff_getElem?.mp (h.has t ht)
      refine List.mem_iff_getElem?.mpr ⟨j, ?_⟩
      rw [List.getElem?_set, if_neg fun e => by subst e; rw [hk] at hj; cases hj]
      exact hj
    · rw [show t = s from List.mem_singleton.mp ht]
      exact List.mem_iff_getElem?.mpr ⟨k, by rw [List.getElem?_set, if_pos rfl, if_pos hkl]⟩
  four := fun x hx => by
    rcases List.mem_append.mp hx with hx | hx
    · exact h.four x hx
    · rw [List.mem_singleton.mp hx]; exact h4
theorem Sv.take {sh : List (Option Int)} {rw : List Srow} (h : Sv sh rw) {k i : Nat} {s : Int} {r : List Int} (hk : sh[k]? = some (some s)) (hi : rw[i]? = some (s, r)) : Sv (sh.set k none) (rw.take i ++ rw.drop (i + 1)) ∧ s ∉ (rw.take i ++ rw.drop (i + 1)).map (·.1) := by
  have hs : s ∉ (rw.take i ++ rw.drop (i + 1)).map (·.1) := by
    rw [map_rest]
    exact rest_no (by rw [List.getElem?_map, hi]; rfl) h.ok.nd
  refine ⟨⟨⟨by rw [List.length_set]; exact h.ok.len, ?_, Nat.le_trans (rest_sub rw i).length_le h.ok.few⟩, fun t ht => ?_, fun x hx => h.four x (mem_rest hx)⟩, hs⟩
  · rw [map_rest]
    exact h.ok.nd.sublist (rest_sub _ i)
  · have hts : t ≠ s := fun e => hs (e ▸ ht)
    have ht2 : t ∈ rw.map (·.1) := by
      obtain ⟨x, hx, e⟩ := List.mem_map.mp ht
      exact List.mem_map.mpr ⟨x, mem_rest hx, e⟩
    obtain ⟨j, hj⟩ := List.mem_iff_getElem?.mp (h.has t ht2)
    refine List.mem_iff_getElem?.mpr ⟨j, ?_⟩
    rw [List.getElem?_set, if_neg fun e => by subst e; rw [hk] at hj; exact hts (Option.some.inj (Option.some.inj hj)).symm]
    exact hj
def K_Ltaken (C : Addr) : Cn := fun ss rin res _ => ∃ (p q w : Addr) (sh : List (Option Int)) (rw : List Srow) (s : Int) (r : List Int) (i : Nat), ss = [.r (.ref p), .r (.ref q), .r (.ref w), .d (.int s)] ∧ rin = [shelfM C p sh rw, spM q sh, pdM w rw] ∧ (Sv sh rw ∧ rw[i]? = some (s, r)) ∧
  ∀ k : Nat, sh[k]? = some (some s) → res (.d (.bool true)) [shelfM C p (sh.set k none) (rw.take i ++ rw.drop (i + 1)), spM q (sh.set k none), pdM w (rw.take i ++ rw.drop (i + 1))]
theorem ok_Ltaken (hK : m.K = KC.K) (bl : Bl m.mg) {f fd} (F : Fun m.K "_law_taken" "_law_taken" s_Ltaken f fd) (oc : ObjC m C ["my_sheets", "my_rows"]) (hc : MtIs m C "take_off" 1 (K_Shelf_take_off C)) (h1 : FnIs m "_law_alike" 4 (K_Lalike 2)) :
    FnOk m.P m.w m.K m.mg m.base (L2.CX m.P m.w) 5 f fd ["_law_shelf", "_law_spots", "_law_rows", "_law_sheet"] (spC (K_Ltaken C)) := by
  refine fn_ok F f_Ltaken e_Ltaken bl hK (by rintro _ _ _ _ ⟨_, _, _, _, _, _, _, _, rfl, _⟩; rfl) 1 rfl ?_
  rintro ss rin fr res exc c hC
  obtain ⟨p, q, w, sh, rw', s, r, i, rfl, rfl, ⟨hv, hi⟩, hr⟩ := hC
  have ho := hv.ok
  obtain ⟨k, hk, hkn⟩ := first_at (hv.has s (List.mem_map_of_mem (f := (·.1)) (List.mem_of_getElem? hi)))
  have hr4 : r.length = 4 := hv.four _ (List.mem_of_getElem? hi)
  obtain ⟨hkl, _⟩ := List.getElem?_eq_some_iff.mp hk
  have hsl := ho.len
  have hix := ix_oS (sh := sh) (i := (k : Int)) (by omega)
  rw [Int.toNat_natCast] at hix
  have a2 : AlikeOk 2 (.list (r.map .int)) := .lst (by rw [List.length_map]; omega) fun d hd => by
    obtain ⟨n, _, rfl⟩ := List.mem_map.mp hd
    exact .int _ _
  have hix1 : ixN ((r.map PyData.int).map Sl.d).length 2 = some (2 : Int).toNat := ixN_in (by rw [List.length_map, List.length_map]; omega)
  have hva := pd_at ho.nd hi
  have hdr := pd_drop ho.nd hi
  walk_at "st"; walk_at "go"
  rename_i t
  refine ce_lend [(t, r.map .int)] (rin := []) (grab1 (by walk_at "pick")) (by walk_at "lent") ⟨_, rfl, rfl, a2, rfl, lnda_nil, ?_⟩
  dsimp only [lent_cons, lent_nil, List.nil_append, List.cons_append]
  walk_at "go"
  refine dx_lindexO ?_
  walk_at "go"
  refine ⟨q, sh.map oS, _, rfl, by walk_at "pick", ?_⟩
  walk_at "go"
  refine ⟨_, .int s, k, .int s, _, rfl, rfl, by walk_at "pick", shaped_oS sh, rfl, by rw [List.getElem?_map, hk]; rfl, by show ((s == s) = true); exact beq_self_eq_true s, fun m' z' hm' hz' => ?_, ?_⟩
  · rw [List.getElem?_map] at hz'
    cases e : sh[m']? with
    | none => rw [e] at hz'; cases hz'
    | some o =>
      rw [e] at hz'
      cases hz'
      cases o with
      | none => rfl
      | some n =>
        show (n == s) = false
        refine beq_eq_false_iff_ne.mpr fun en => ?_
        subst en
        exact hkn m' hm' e
  walk_at "go"
  rw [hdr, show Sl.d PyData.none = .d (oS none) from rfl, set_oS]
  exact fin [shelfM C p (sh.set k none) (rw'.take i ++ rw'.drop (i + 1)), spM q (sh.set k none), pdM w (rw'.take i ++ rw'.drop (i + 1))] (ent_has (by walk_at "grab")) (hr k hk)
def K_Ldeed (C : Addr) : Cn := fun ss rin res _ => ∃ (p q w : Addr) (sh : List (Option Int)) (rw : List Srow) (c : Int), ss = [.r (.ref p), .r (.ref q), .r (.ref w), .d (.int c)] ∧ rin = [shelfM C p sh rw, spM q sh, pdM w rw] ∧ (Sv sh rw ∧ rw.length < 900 ∧ -BM ≤ c ∧ c ≤ BM) ∧
  ∀ sh2 rw2, Sv sh2 rw2 → sh2.length = sh.length → rw2.length ≤ rw.length + 1 → res (.d (.bool true)) [shelfM C p sh2 rw2, spM q sh2, pdM w rw2]
theorem ok_Ldeed (hK : m.K = KC.K) (bl : Bl m.mg) {f fd} (F : Fun m.K "_law_deed" "_law_deed" s_Ldeed f fd) (oc : ObjC m C ["my_sheets", "my_rows"]) (hc : MtIs m C "row_of_sheet" 1 (K_Shelf_row_of_sheet C))
    (h1 : FnIs m "_law_alike" 4 (K_Lalike 2)) (h2 : FnIs m "_law_fresh" 1 K_Lfresh) (h3 : FnIs m "_law_row" 2 K_Lrow) (h4 : FnIs m "_law_put" 5 (K_Lput C)) (h5 : FnIs m "_law_refused" 2 (K_Lrefused C)) (h6 : FnIs m "_law_taken" 5 (K_Ltaken C)) :
    FnOk m.P m.w m.K m.mg m.base (L2.CX m.P m.w) 6 f fd ["_law_shelf", "_law_spots", "_law_rows", "_law_cell"] (spC (K_Ldeed C)) := by
  refine fn_ok F f_Ldeed e_Ldeed bl hK (by rintro _ _ _ _ ⟨_, _, _, _, _, _, rfl, _⟩; rfl) 5 rfl ?_
  rintro ss rin fr res exc c hC
  obtain ⟨p, q, w, sh, rw', c', rfl, rfl, ⟨hv, hl, hc⟩, hr⟩ := hC
  have hbm := bm_big
  have ho := hv.ok
  have hfl := flat_oS sh
  have hcr : -(4 * BM) ≤ c' / 5 ∧ c' / 5 ≤ 4 * BM := by omega
  have ely : ((rw'.map kvP).map fun kv => keyD kv.1) = (rw'.map (·.1)).map PyData.int := by rw [List.map_map, List.map_map]; rfl
  have hlt : ∀ k : Nat, (sh.set k none).length = sh.length := fun k => List.length_set
  have pick : ∀ i : Int, 0 < rw'.length → ∃ (s : Int) (r : List Int), atI ((rw'.map (·.1)).map PyData.int) (i % (rw'.length : Int)) = some (.int s) ∧ rw'[(i % (rw'.length : Int)).toNat]? = some (s, r) := fun i hp => by
    have hm1 := Int.emod_nonneg i (show (rw'.length : Int) ≠ 0 by omega)
    have hm2 := Int.emod_lt_of_pos i (show 0 < (rw'.length : Int) by omega)
    obtain ⟨v, hv1, hv2⟩ := atI_ints (xs := rw'.map (·.1)) (i := i % (rw'.length : Int)) ⟨hm1, by rw [List.length_map]; exact hm2⟩
    rw [List.getElem?_map] at hv2
    cases e : rw'[(i % (rw'.length : Int)).toNat]? with
    | none => rw [e] at hv2; cases hv2
    | some x => rw [e] at hv2; cases hv2; exact ⟨_, x.2, hv1, rfl⟩
  have hasK : ∀ {i : Nat} {s : Int} {r : List Int}, rw'[i]? = some (s, r) → ∃ k : Nat, sh[k]? = some (some s) := fun h => List.mem_iff_getElem?.mp (hv.has _ (List.mem_map_of_mem (f := (·.1)) (List.mem_of_getElem? h)))
  walk_at "st"; walk_at "go"
  rw [ely]
  refine ite_d (fun h0 => ?a) (fun h0 => ?b)
  case' b =>
    walk_at "go"
    rw [List.length_map, List.length_map]
    refine ite_d (fun h1 => ?b1) (fun h1 => ?b2)
  case b2 =>
    have hp : 0 < rw'.length := by omega
    obtain ⟨s, r, hs1, hs2⟩ := pick (c' / 5) hp
    walk_at "go"
    rw [List.length_map, List.length_map]
    walk_at "go"
    obtain ⟨k, hk⟩ := hasK hs2
    have hr4 : r.length = 4 := hv.four _ (List.mem_of_getElem? hs2)
    have hva := pd_at ho.nd hs2
    have a2 : AlikeOk 2 (.list (r.map .int)) := .lst (by rw [List.length_map]; omega) fun d hd => by
      obtain ⟨n, _, rfl⟩ := List.mem_map.mp hd
      exact .int _ _
    have hix1 : ixN ((r.map PyData.int).map Sl.d).length (c' / 5 % 4) = some (c' / 5 % 4).toNat := ixN_in (by rw [List.length_map, List.length_map]; omega)
    have hrs : ShOk sh rw' ∧ (s, r) ∈ rw' := ⟨ho, List.mem_of_getElem? hs2⟩
    refine ite_d (fun h2 => ?_) (fun h2 => ?_)
    · walk_at "go"
      refine ce_gr (rin := [shelfM C p sh rw', spM q sh, pdM w rw']) (grab3 (by walk_at "pick") (by walk_at "pick2") (by walk_at "pick2")) ⟨p, q, w, sh, rw', s, r, _, rfl, rfl, ⟨hv, hs2⟩, fun k hk => ?_⟩
      dsimp only [List.nil_append, List.cons_append]
      walk_at "go"
      exact fin [shelfM C p _ _, spM q _, pdM w _] ent_refl (hr _ _ (hv.take hk hs2).1 List.length_set (by have := rest_len hs2; omega))
    · walk_at "go"
      rename_i t
      refine ce_lend [(t, r.map .int)] (rin := []) (grab1 (by walk_at "pick")) (by walk_at "lent") ⟨_, rfl, rfl, a2, rfl, lnda_nil, ?_⟩
      dsimp only [lent_cons, lent_nil, List.nil_append, List.cons_append]
      walk_at "go"
      exact fin [shelfM C p sh rw', spM q sh, pdM w rw'] (ent_has (by walk_at "grab")) (hr sh rw' hv rfl (Nat.le_succ _))
  all_goals
    walk_at "go"
    refine ce_gr (rin := [pdM w rw']) (grab1 (by walk_at "pick")) ⟨c', w, rw', rfl, rfl, trivial, fun s hs => ?_⟩
    dsimp only [List.nil_append, List.cons_append]
    walk_at "go"
    rw [any_oS]
    refine ite_d (fun h2 => ?_) (fun h2 => ?_)
    · walk_at "go"
      refine ce_gr (rin := [shelfM C p sh rw', spM q sh, pdM w rw']) (grab3 (by walk_at "pick") (by walk_at "pick2") (by walk_at "pick2")) ⟨p, q, w, sh, rw', s, _, rfl, rfl, ⟨ho, hs, h2, rfl⟩, fun k hk _ => ?_⟩
      dsimp only [List.nil_append, List.cons_append]
      walk_at "go"
      exact fin [shelfM C p _ _, spM q _, pdM w _] ent_refl (hr _ _ (hv.put hk hs rfl (by omega)) List.length_set (by rw [List.length_append]; exact Nat.le_refl _))
    · walk_at "go"
      first
        | exact fin [shelfM C p sh rw', spM q sh, pdM w rw'] (ent_has (by walk_at "grab")) (hr sh rw' hv rfl (Nat.le_succ _))
        | rw [List.length_map, List.length_map]
          refine ite_d (fun h3 => ?_) (fun h3 => ?_)
          · walk_at "go"
            exact fin [shelfM C p sh rw', spM q sh, pdM w rw'] (ent_has (by walk_at "grab")) (hr sh rw' hv rfl (Nat.le_succ _))
          walk_at "go"
          refine ite_d (fun h4 => ?_) (fun h4 => ?_)
          · walk_at "go"
            exact fin [shelfM C p sh rw', spM q sh, pdM w rw'] (ent_has (by walk_at "grab")) (hr sh rw' hv rfl (Nat.le_succ _))
          obtain ⟨t, r, ht1, ht2⟩ := pick (c' / 30) (by omega)
          walk_at "go"
          rw [List.length_map, List.length_map]
          walk_at "go"
          refine ce_gr (rin := [shelfM C p sh rw', spM q sh, pdM w rw']) (grab3 (by walk_at "pick") (by walk_at "pick2") (by walk_at "pick2")) ⟨p, q, w, sh, rw', t, r, _, rfl, rfl, ⟨hv, ht2⟩, fun k hk => ?_⟩
          dsimp only [List.nil_append, List.cons_append]
          walk_at "go"
          obtain ⟨hv2, _⟩ := hv.take hk ht2
          have hkl := (List.getElem?_eq_some_iff.mp hk).choose
          have hrl := rest_len ht2
          have hs2 : s ∉ (rw'.take (c' / 30 % (rw'.length : Int)).toNat ++ rw'.drop ((c' / 30 % (rw'.length : Int)).toNat + 1)).map (·.1) := fun z => by
            obtain ⟨x, hx, e⟩ := List.mem_map.mp z
            exact hs (List.mem_map.mpr ⟨x, mem_rest hx, e⟩)
          refine ce_gr (rin := [shelfM C p (sh.set k none) _, spM q (sh.set k none), pdM w _]) (grab3 (by walk_at "pick") (by walk_at "pick2") (by walk_at "pick2")) ⟨p, q, w, sh.set k none, _, s, _, rfl, rfl, ⟨hv2.ok, hs2, List.mem_iff_getElem?.mpr ⟨k, by rw [List.getElem?_set, if_pos rfl, if_pos hkl]⟩, rfl⟩, fun k2 hk2 _ => ?_⟩
          dsimp only [List.nil_append, List.cons_append]
          walk_at "go"
          exact fin [shelfM C p _ _, spM q _, pdM w _] ent_refl (hr _ _ (hv2.put hk2 hs2 rfl (by omega)) (by rw [List.length_set, List.length_set]) (by rw [List.length_append, List.length_cons, List.length_nil]; omega))
end
section
variable [KC] {m : Mo} {C : Addr} {E : Str → Addr}
def hD (l : List PyData) : PyData := .tuple [.list l, .list l]
abbrev heM (q : Addr) (hs : List (List PyData)) : Mem := lstM q ((hs.map hD).map .d)
theorem alike_oS (sh : List (Option Int)) (h : sh.length ≤ 1000) : AlikeOk 2 (.list (sh.map oS)) := .lst (by rw [List.length_map]; omega) fun d hd => by
  obtain ⟨o, _, rfl⟩ := List.mem_map.mp hd
  cases o
  · exact .non _
  · exact .int _ _
def K_Lis_shelf (C : Addr) : Cn := fun ss rin res _ => ∃ (p q w h : Addr) (sh : List (Option Int)) (rw : List Srow) (c : Int) (hs : List (List PyData)), ss = [.r (.ref p), .r (.ref q), .r (.ref w), .d (.int c), .r (.ref h)] ∧ rin = [shelfM C p sh rw, spM q sh, pdM w rw, heM h hs] ∧ (Sv sh rw ∧ hs.length < 1000) ∧
  res (.d (.bool true)) [shelfM C p sh rw, spM q sh, pdM w rw, heM h hs] ∧ ∀ l, SeqAt.shaped (.list l) = true → res (.d (.bool true)) [shelfM C p sh rw, spM q sh, pdM w rw, heM h (hs ++ [l])]
theorem ok_Lis_shelf (hK : m.K = KC.K) (bl : Bl m.mg) {f fd} (F : Fun m.K "_law_is_shelf" "_law_is_shelf" s_Lis_shelf f fd) (oc : ObjC m C ["my_sheets", "my_rows"]) (hc1 : MtIs m C "has" 1 (K_Shelf_has C)) (hc2 : MtIs m C "is_full" 1 (K_Shelf_is_full C)) (hc3 : MtIs m C "sheets" 1 (K_Shelf_sheets C)) (h1 : FnIs m "_law_alike" 4 (K_Lalike 2)) :
    FnOk m.P m.w m.K m.mg m.base (L2.CX m.P m.w) 5 f fd ["_law_shelf", "_law_spots", "_law_rows", "_law_cell", "_law_held"] (spC (K_Lis_shelf C)) := by
  refine fn_ok F f_Lis_shelf e_Lis_shelf bl hK (by rintro _ _ _ _ ⟨_, _, _, _, _, _, _, _, rfl, _⟩; rfl) 2 rfl ?_
  rintro ss rin fr res exc c hC
  obtain ⟨p, q, w, h, sh, rw', c', hs, rfl, rfl, ⟨hv, hhl⟩, hr1, hr2⟩ := hC
  have ho := hv.ok
  have hfl := flat_oS sh
  have ab : ∀ b : Bool, AlikeOk 2 (.bool b) := fun b => .bl _ _
  have aos := alike_oS sh ho.len
  have ely : ((rw'.map kvP).map fun kv => keyD kv.1) = (rw'.map (·.1)).map PyData.int := by rw [List.map_map, List.map_map]; rfl
  walk_at "nrm"
  refine dss_cut (I := fun ρ' r' => ∃ s : Int, ρ' = [.r (.ref p), .r (.ref q), .r (.ref w), .d (.int c'), .r (.ref h), .d (.int s), .un] ∧ r' = [shelfM C p sh rw', spM q sh, pdM w rw', heM h hs, fr]) ?_ ?_
  · walk_at "go"
    refine od_ixA rfl ⟨by omega, by (simp only [List.length_cons, List.length_nil]; omega)⟩ (fun d hd => ?_)
    simp only [List.mem_cons, List.not_mem_nil, or_false] at hd
    rcases hd with rfl | rfl | rfl <;> (walk_at "go"; exact ⟨_, rfl, rfl⟩)
  rintro _ _ ⟨s0, rfl, rfl⟩
  refine dss_cut (I := fun ρ' r' => ∃ s : Int, ρ' = [.r (.ref p), .r (.ref q), .r (.ref w), .d (.int c'), .r (.ref h), .d (.int s), .un] ∧ r' = [shelfM C p sh rw', spM q sh, pdM w rw', heM h hs, fr]) ?_ ?_
  · walk_at "go"
    rw [List.length_map]
    refine ite_d (fun h0 => ?_) (fun h0 => ?_)
    · walk_at "go"
      refine ite_d (fun h1 => ?_) (fun h1 => ?_)
      · walk_at "go"
        rw [ely, List.length_map]
        have hm1 := Int.emod_nonneg (c' / 8) (show (rw'.length : Int) ≠ 0 by omega)
        have hm2 := Int.emod_lt_of_pos (c' / 8) (show 0 < (rw'.length : Int) by omega)
        obtain ⟨v, hv1, hv2⟩ := atI_ints (xs := rw'.map (·.1)) (i := c' / 8 % (rw'.length : Int)) ⟨hm1, by rw [List.length_map]; exact hm2⟩
        walk_at "go"
        exact ⟨_, rfl, rfl⟩
      · walk_at "go"
        exact ⟨_, rfl, rfl⟩
    · walk_at "go"
      exact ⟨_, rfl, rfl⟩
  rintro _ _ ⟨s, rfl, rfl⟩
  have ab1 := ab (decide (s ∈ rw'.map (·.1)))
  have ab2 := ab (decide (none ∉ sh))
  walk_at "go"
  rw [pd_some]
  walk_at "go"
  rw [any_oS, ← decide_not]
  walk_at "go"
  refine ite_d (fun h0 => ?a) (fun h0 => ?b)
  case' a =>
    walk_at "go"
    refine ite_d (fun h1 => ?a1) (fun h1 => ?a2)
    case a1 =>
      walk_at "go"
      exact fin [shelfM C p sh rw', spM q sh, pdM w rw', heM h hs] ent_refl hr1
  all_goals
    walk_at "go"
    rename_i t
    refine ce_lend [(t, sh.map oS), (q, sh.map oS)] (rin := []) (grab2 (by walk_at "pick") (by walk_at "pick2")) (by walk_at "lent") ⟨_, rfl, rfl, aos, rfl, lnda_nil, ?_⟩
    dsimp only [lent_cons, lent_nil, List.nil_append, List.cons_append]
    have hsl := ho.len
    refine tr_bool (ite_nt (dss_nil ?_))
    refine dss_cut (I := fun ρ' r' => ρ' = [.r (.ref p), .r (.ref q), .r (.ref w), .d (.int c'), .r (.ref h), .d (.int s), .r (.ref t)] ∧ r' = [lstM t ((sh.map oS ++ [PyData.int (c' % 7)]).map .d), lstM q ((sh.map oS).map .d), shelfM C p sh rw', pdM w rw', heM h hs, fr]) ?_ ?_
    · walk_at "go"
      exact ⟨rfl, by rw [List.map_append]; rfl⟩
    rintro _ _ ⟨rfl, rfl⟩
    have hsh : SeqAt.shaped (.list (sh.map oS ++ [PyData.int (c' % 7)])) = true := shaped_list 0 (by decide) fun d hd => by
      rcases List.mem_append.mp hd with hd | hd
      · obtain ⟨o, _, rfl⟩ := List.mem_map.mp hd
        cases o <;> exact ⟨rfl, Nat.le_refl 0⟩
      · rw [List.mem_singleton.mp hd]; exact ⟨rfl, Nat.le_refl 0⟩
    generalize sh.map oS ++ [PyData.int (c' % 7)] = l at hsh
    refine dss_frz (ρ' := [.r (.ref p), .r (.ref q), .r (.ref w), .d (.int c'), .r (.ref h), .d (.int s), .d (.list l)]) (by walk_at "pick") (by repeat (first | exact FrzS.nil | (with_reducible apply FrzS.here) | apply FrzS.eq)) ?_
    walk_at "go"
    rw [show (hs.map hD).map Sl.d ++ [.d (.tuple [.list l, .list l])] = ((hs ++ [l]).map hD).map .d by rw [List.map_append, List.map_append]; rfl]
    exact fin [shelfM C p sh rw', spM q sh, pdM w rw', heM h (hs ++ [l])] (ent_has (by walk_at "grab")) (hr2 l hsh)
end
/-! ### the steps -/
local macro_rules | `(tactic| walk_at "sl") => `(tactic| ((repeat with_reducible first | exact Slot.zero | apply Slot.succ); (first | (all_goals fail) | fail)))
local macro_rules | `(tactic| walk_at "set") => `(tactic| ((repeat with_reducible first | exact SetS.zero | apply SetS.succ); (first | (all_goals fail) | fail)))
local macro_rules | `(tactic| walk_at "ix") => `(tactic| ((repeat with_reducible first | exact IxOf.zero | apply IxOf.succ); (first | (all_goals fail) | fail)))
local macro_rules | `(tactic| walk_at "pick") => `(tactic| ((repeat with_reducible first | exact Pick.zero | apply Pick.succ); (first | (all_goals fail) | fail)))
local macro_rules | `(tactic| walk_at "fld") => `(tactic| ((repeat with_reducible first | exact FldAt.zero | apply FldAt.succ); (first | (all_goals fail) | fail)))
local macro_rules | `(tactic| walk_at "fset") => `(tactic| ((repeat with_reducible first | exact FldSet.zero | apply FldSet.succ); (first | (all_goals fail) | fail)))
local macro_rules | `(tactic| walk_at "grab") => `(tactic| (repeat (first | exact has_nil | refine has_cons (by ((repeat with_reducible first | exact Pick.zero | apply Pick.succ); (first | (all_goals fail) | fail))) ?_ | dsimp only [List.nil_append, List.cons_append, List.map_nil])))
local macro_rules | `(tactic| walk_at "pick2") => `(tactic| ((dsimp only [List.nil_append, List.cons_append]); ((repeat with_reducible first | exact Pick.zero | apply Pick.succ); (first | (all_goals fail) | fail))))
local macro_rules | `(tactic| walk_at "lent") => `(tactic| (repeat (first | exact LentS.nil | refine LentS.lend (by first | exact List.mem_cons_self | exact List.mem_cons_of_mem _ List.mem_cons_self) ?_ | refine LentS.eq ?_)))
local macro_rules | `(tactic| walk_at "datas") => `(tactic| ((repeat with_reducible first | exact datas_nil | apply datas_cons); (first | (all_goals fail) | fail)))
local macro_rules | `(tactic| walk_at "le0") => `(tactic| (repeat (first | exact Le.nil | (with_reducible apply Le.eq) | (with_reducible apply Le.un) | apply Le.eq)))
local macro_rules | `(tactic| walk_at "le") => `(tactic| ((repeat with_reducible first | exact Le.nil | apply Le.eq | apply Le.un); (first | (all_goals fail) | fail)))
local macro_rules | `(tactic| walk_at "num") => `(tactic| (first | omega | decide | (simp; omega)))
local macro_rules | `(tactic| walk_at "len") => `(tactic| (first | (with_reducible assumption) | decide | ((try simp only [List.length_cons, List.length_nil, List.length_append, List.length_map, List.length_replicate]); omega) | (refine Nat.le_trans (cutL_len _ _ _) ?_; (try simp only [List.length_cons, List.length_nil, List.length_append, List.length_map, List.length_replicate]); omega) | (refine Nat.le_trans (Nat.add_le_add_left (cutL_len _ _ _) _) ?_; (try simp only [List.length_cons, List.length_nil, List.length_append, List.length_map, List.length_replicate]); omega) | (refine Nat.le_trans (Nat.add_le_add_right (cutL_len _ _ _) _) ?_; (try simp only [List.length_cons, List.length_nil, List.length_append, List.length_map, List.length_replicate]); omega)))
local macro_rules | `(tactic| walk_at "go") => `(tactic| (repeat (first | (first | ((with_reducible show DX _ _ _ _ _); (first | ((with_reducible show DX _ (.Subscript (.Name "_law_rows" _) _ _) _ _ _); refine dx_dget ?_) | ((with_reducible show DX _ (.Call (.Attribute (.Name "_law_rows" _) "get" _) [_] _ _) _ _ _); refine dx_dget1 ?_) | ((with_reducible show DX _ (.Call (.Attribute (.Name "_law_rows" _) "get" _) [_, _] _ _) _ _ _); refine dx_dget2 ?_) | ((with_reducible show DX _ (.Call (.Attribute (.Name "_law_rows" _) "pop" _) [_] _ _) _ _ _); refine dx_dpop1 ?_) | ((with_reducible show DX _ (.Call (.Attribute (.Name "_law_rows" _) "pop" _) [_, _] _ _) _ _ _); refine dx_dpop2 ?_) | ((with_reducible show DX _ (.Call (.Name "len" _) [(.Name "_law_rows" _)] _ _) _ _ _); refine dx_dlen ?_) | ((with_reducible show DX _ (.Call (.Name "list" _) [(.Name "_law_rows" _)] _ _) _ _ _); refine dx_dlist ?_) | ((with_reducible show DX _ (.Call (.Name "dict" _) [(.Name "_law_rows" _)] _ _) _ _ _); refine dx_dictO ?_) | ((with_reducible show DX _ (.Call (.Name "sorted" _) [(.Name "_law_rows" _)] _ _) _ _ _); refine dx_sortedD ?_) | ((with_reducible show DX _ (.Compare _ [.In] [(.Name "_law_rows" _)] _) _ _ _); refine dx_din ?_) | ((with_reducible show DX _ (.Compare _ [.NotIn] [(.Name "_law_rows" _)] _) _ _ _); refine dx_dnin ?_) | ((with_reducible show DX _ (.Name _ _) _ _ _); (first | refine dx_name (by ((repeat with_reducible first | exact Slot.zero | apply Slot.succ); (first | (all_goals fail) | fail))) (by exact fun e => nomatch e) ?_ | refine dx_gint (by with_reducible assumption) ?_ | refine dx_gstr (by with_reducible assumption) ?_ | refine dx_gcls (by with_reducible assumption) (by decide +kernel) ?_ | ((with_reducible show DX _ (.Name "int" _) _ _ _); refine dx_tint ?_) | ((with_reducible show DX _ (.Name "bool" _) _ _ _); refine dx_tbool ?_) | ((with_reducible show DX _ (.Name "str" _) _ _ _); refine dx_tstr ?_) | ((with_reducible show DX _ (.Name "list" _) _ _ _); refine dx_tlist ?_) | ((with_reducible show DX _ (.Name "tuple" _) _ _ _); refine dx_ttuple ?_) | ((with_reducible show DX _ (.Name "ValueError" _) _ _ _); refine dx_tVE (by with_reducible assumption) ?_))) | ((with_reducible show DX _ (.Constant _ _ _) _ _ _); (first | ((with_reducible show DX _ (.Constant (.int _) _ _) _ _ _); refine dx_int ?_) | ((with_reducible show DX _ (.Constant (.str _) _ _) _ _ _); refine dx_str ?_) | ((with_reducible show DX _ (.Constant (.bool _) _ _) _ _ _); refine dx_bl ?_) | refine dx_non ?_)) | ((with_reducible show DX _ (.BinOp (.List [_] _) .Mult _ _) _ _ _); refine dx_rep ?_) | ((with_reducible show DX _ (.BinOp _ _ _ _) _ _ _); (first | ((with_reducible show DX _ (.BinOp _ .Add _ _) _ _ _); refine dx_bin cAdd ?_) | ((with_reducible show DX _ (.BinOp _ .Sub _ _) _ _ _); refine dx_bin op_sub ?_) | ((with_reducible show DX _ (.BinOp _ .Mult _ _) _ _ _); refine dx_bin op_uMul ?_) | ((with_reducible show DX _ (.BinOp _ .FloorDiv _ _) _ _ _); refine dx_bin op_fdivW ?_) | ((with_reducible show DX _ (.BinOp _ .Mod _ _) _ _ _); refine dx_bin op_mod ?_) | ((with_reducible show DX _ (.BinOp _ .Pow _ _) _ _ _); refine dx_bin op_pow ?_))) | ((with_reducible show DX _ (.Compare _ [_] _ _) _ _ _); (first | ((with_reducible show DX _ (.Compare _ [.Eq] [_] _) _ _ _); refine dx_cmp cEq (nomark _) ?_) | ((with_reducible show DX _ (.Compare _ [.NotEq] [_] _) _ _ _); refine dx_cmp cNe (nomark _) ?_) | ((with_reducible show DX _ (.Compare _ [.Lt] [_] _) _ _ _); refine dx_cmp op_lt (nomark _) ?_) | ((with_reducible show DX _ (.Compare _ [.LtE] [_] _) _ _ _); refine dx_cmp op_le (nomark _) ?_) | ((with_reducible show DX _ (.Compare _ [.Gt] [_] _) _ _ _); refine dx_cmp op_gt (nomark _) ?_) | ((with_reducible show DX _ (.Compare _ [.GtE] [_] _) _ _ _); refine dx_cmp op_ge (nomark _) ?_) | ((with_reducible show DX _ (.Compare _ [.Is] [_] _) _ _ _); refine dx_cmp op_uIs (nomark _) ?_) | ((with_reducible show DX _ (.Compare _ [.IsNot] [_] _) _ _ _); refine dx_cmp op_uIsn (nomark _) ?_) | ((with_reducible show DX _ (.Compare _ [.In] [_] _) _ _ _); refine dx_cmp cIn (rfl) ?_) | ((with_reducible show DX _ (.Compare _ [.NotIn] [_] _) _ _ _); refine dx_cmp cNin (rfl) ?_))) | ((with_reducible show DX _ (.Compare _ [_, _] _ _) _ _ _); (first | ((with_reducible show DX _ (.Compare _ [.LtE, .Lt] [_, _] _) _ _ _); refine dx_chain op_le op_lt ?_) | ((with_reducible show DX _ (.Compare _ [.LtE, .LtE] [_, _] _) _ _ _); refine dx_chain op_le op_le ?_))) | ((with_reducible show DX _ (.BoolOp _ [_] _) _ _ _); refine dx_one ?_) | ((with_reducible show DX _ (.BoolOp .And _ _) _ _ _); refine dx_and ?_) | ((with_reducible show DX _ (.BoolOp .Or _ _) _ _ _); refine dx_or ?_) | ((with_reducible show DX _ (.UnaryOp .Not _ _) _ _ _); refine dx_not ?_) | ((with_reducible show DX _ (.UnaryOp _ _ _) _ _ _); refine dx_neg ?_) | ((with_reducible show DX _ (.Subscript _ (.Slice _ _ _ _) _) _ _ _); refine dx_slice ?_) | ((with_reducible show DX _ (.Subscript _ _ _) _ _ _); refine dx_ix cIx ?_) | ((with_reducible show DX _ (.Tuple _ _ _) _ _ _); refine dx_tup ?_) | ((with_reducible show DX _ (.IfExp _ _ _ _) _ _ _); refine dx_ifExp ?_) | ((with_reducible show DX _ (.List _ _) _ _ _); refine dx_lst ?_) | ((with_reducible show DX _ (.Dict [] [] _) _ _ _); refine dx_dnew ?_) | ((with_reducible show DX _ (.Attribute _ _ _) _ _ _); refine dx_fld ?_) | ((with_reducible show DX _ (.Call (.Attribute _ "clear" _) [] _ _) _ _ _); refine dx_clear ?_) | ((with_reducible show DX _ (.Call (.Attribute _ "pop" _) [] _ _) _ _ _); refine dx_pop ?_) | ((with_reducible show DX _ (.Call (.Attribute _ _ _) [] _ _) _ _ _); refine dx_meth0 (by with_reducible assumption) (by with_reducible assumption) ?_) | ((with_reducible show DX _ (.Call (.Name _ _) [] _ _) _ _ _); refine dx_call0 (by with_reducible assumption) ?_) | ((with_reducible show DX _ (.Call (.Attribute _ "append" _) [_] _ _) _ _ _); refine dx_append ?_) | ((with_reducible show DX _ (.Call (.Attribute _ "join" _) [_] _ _) _ _ _); refine dx_join ?_) | ((with_reducible show DX _ (.Call (.Attribute _ "find" _) [_] _ _) _ _ _); refine dx_find ?_) | ((with_reducible show DX _ (.Call (.Attribute (.Constant (.str _) _ _) "index" _) [_] _ _) _ _ _); refine dx_sindex ?_) | ((with_reducible show DX _ (.Call (.Attribute _ "split" _) [_] _ _) _ _ _); refine dx_split ?_) | ((with_reducible show DX _ (.Call (.Attribute _ _ _) _ _ _) _ _ _); refine dx_meth (by with_reducible assumption) (by with_reducible assumption) ?_) | ((with_reducible show DX _ (.Call (.Name _ _) _ _ _) _ _ _); (first | ((with_reducible show DX _ (.Call (.Name "len" _) _ _ _) _ _ _); refine dx_len ?_) | ((with_reducible show DX _ (.Call (.Name "isinstance" _) _ _ _) _ _ _); (first | ((with_reducible show DX _ (.Call _ [_, .Tuple _ _ _] _ _) _ _ _); refine dx_isET (by with_reducible assumption) (by with_reducible assumption) (by decide +kernel) ?_) | ((with_reducible show DX _ (.Call _ [_, .Name _ _] _ _) _ _ _); first | refine dx_isE (by with_reducible assumption) ?_ | refine dx_isi ?_))) | ((with_reducible show DX _ (.Call (.Name "list" _) _ _ _) _ _ _); (first | refine dx_listA ?_ | refine dx_list ?_)) | ((with_reducible show DX _ (.Call (.Name "min" _) _ _ _) _ _ _); refine dx_min ?_) | ((with_reducible show DX _ (.Call (.Name "max" _) _ _ _) _ _ _); refine dx_max ?_) | ((with_reducible show DX _ (.Call (.Name "str" _) _ _ _) _ _ _); refine dx_cstr ?_) | ((with_reducible show DX _ (.Call (.Name "int" _) _ _ _) _ _ _); refine dx_cint ?_) | refine dx_call (by with_reducible assumption) ?_ | refine dx_make (by with_reducible assumption) ?_)))) | ((with_reducible show OpD _ _ _ _ _); (first | ((with_reducible show OpD (uAdd _) (.d (.int _)) (.d (.int _)) _ _); refine od_add ?_) | ((with_reducible show OpD (uAdd _) (.d (.str _)) (.d (.str _)) _ _); refine od_adds (by (first | (with_reducible assumption) | decide | ((try simp only [List.length_cons, List.length_nil, List.length_append, List.length_map, List.length_replicate]); omega) | (refine Nat.le_trans (cutL_len _ _ _) ?_; (try simp only [List.length_cons, List.length_nil, List.length_append, List.length_map, List.length_replicate]); omega) | (refine Nat.le_trans (Nat.add_le_add_left (cutL_len _ _ _) _) ?_; (try simp only [List.length_cons, List.length_nil, List.length_append, List.length_map, List.length_replicate]); omega) | (refine Nat.le_trans (Nat.add_le_add_right (cutL_len _ _ _) _) ?_; (try simp only [List.length_cons, List.length_nil, List.length_append, List.length_map, List.length_replicate]); omega))) ?_) | ((with_reducible show OpD (uAdd _) (.d (.tuple _)) (.d (.tuple _)) _ _); refine od_addt (by first | exact List.cons_ne_nil _ _ | decide) (by (first | (with_reducible assumption) | decide | ((try simp only [List.length_cons, List.length_nil, List.length_append, List.length_map, List.length_replicate]); omega) | (refine Nat.le_trans (cutL_len _ _ _) ?_; (try simp only [List.length_cons, List.length_nil, List.length_append, List.length_map, List.length_replicate]); omega) | (refine Nat.le_trans (Nat.add_le_add_left (cutL_len _ _ _) _) ?_; (try simp only [List.length_cons, List.length_nil, List.length_append, List.length_map, List.length_replicate]); omega) | (refine Nat.le_trans (Nat.add_le_add_right (cutL_len _ _ _) _) ?_; (try simp only [List.length_cons, List.length_nil, List.length_append, List.length_map, List.length_replicate]); omega))) ?_) | ((with_reducible show OpD (uAdd _) _ _ _ _); refine od_addl rfl rfl (by (first | (with_reducible assumption) | decide | ((try simp only [List.length_cons, List.length_nil, List.length_append, List.length_map, List.length_replicate]); omega) | (refine Nat.le_trans (cutL_len _ _ _) ?_; (try simp only [List.length_cons, List.length_nil, List.length_append, List.length_map, List.length_replicate]); omega) | (refine Nat.le_trans (Nat.add_le_add_left (cutL_len _ _ _) _) ?_; (try simp only [List.length_cons, List.length_nil, List.length_append, List.length_map, List.length_replicate]); omega) | (refine Nat.le_trans (Nat.add_le_add_right (cutL_len _ _ _) _) ?_; (try simp only [List.length_cons, List.length_nil, List.length_append, List.length_map, List.length_replicate]); omega))) ?_) | ((with_reducible show OpD (rI0 fun i j => .int (i - j)) _ _ _ _); refine od_sub ?_) | ((with_reducible show OpD uMul (.d (.int _)) (.d (.int _)) _ _); (first | refine od_mul (mul_r (by (first | omega | decide | (simp; omega)))) ?_ | refine od_mul (mul_l (by (first | omega | decide | (simp; omega)))) ?_ | refine od_mul (mul_ok (by (first | omega | decide | (simp; omega))) (by (first | omega | decide | (simp; omega)))) ?_)) | ((with_reducible show OpD (rI CDivW _) _ _ _ _); refine od_div (by (first | omega | decide | (simp; omega))) ?_) | ((with_reducible show OpD (rI CPow _) (.d (.int 10)) _ _ _); (first | (with_reducible refine od_p60 ?_) | (with_reducible refine od_p59 ?_) | (with_reducible refine od_p20 ?_) | (with_reducible refine od_p40 ?_) | (with_reducible refine od_p6 ?_) | (with_reducible refine od_p9 ?_) | (with_reducible refine od_p50 ?_) | (with_reducible refine od_p58 ?_) | (with_reducible refine od_p30 ?_) | (with_reducible refine od_p3 ?_))) | ((with_reducible show OpD (rI CPow _) _ _ _ _); refine od_pow (by decide) ?_) | ((with_reducible show OpD (rI0 fun i j => .bl (decide (i < j))) _ _ _ _); refine od_lt ?_) | ((with_reducible show OpD (rI0 fun i j => .bl (decide (i ≤ j))) _ _ _ _); refine od_le ?_) | ((with_reducible show OpD (rI0 fun i j => .bl (decide (j < i))) _ _ _ _); refine od_gt ?_) | ((with_reducible show OpD (rI0 fun i j => .bl (decide (j ≤ i))) _ _ _ _); refine od_ge ?_) | ((with_reducible show OpD (rI _ _) _ _ _ _); refine od_mod (by (first | omega | decide | (simp; omega))) ?_) | ((with_reducible show OpD (uEq _) _ _ _ _); (first | refine od_eq rfl rfl (by first | exact .int _ _ | exact .str _ _ | exact .bl _ _ | exact .nn | exact .ni _ | exact .in_ _ | exact .ns _ | exact .sn _) ?_ | refine od_eqS rfl rfl (by first | (with_reducible assumption) | decide +kernel | rfl) ?_ | refine od_eq rfl rfl (.dat (by first | (with_reducible assumption) | decide +kernel | rfl) (by first | (with_reducible assumption) | decide +kernel | rfl)) ?_)) | ((with_reducible show OpD (uNe _) _ _ _ _); (first | (with_reducible refine od_nenm ?_) | refine od_ne rfl rfl (by first | exact .int _ _ | exact .str _ _ | exact .bl _ _ | exact .nn | exact .ni _ | exact .in_ _ | exact .ns _ | exact .sn _) ?_ | refine od_neS rfl rfl (by first | (with_reducible assumption) | decide +kernel | rfl) ?_ | refine od_ne rfl rfl (.dat (by first | (with_reducible assumption) | decide +kernel | rfl) (by first | (with_reducible assumption) | decide +kernel | rfl)) ?_)) | ((with_reducible show OpD (uNin _) (.d (.str _)) (.d (.str _)) _ _); refine od_nins ?_) | ((with_reducible show OpD (uIn _) (.d (.str _)) (.d (.str _)) _ _); refine od_ins ?_) | ((with_reducible show OpD (uIn _) (.d _) (.r (.ref _)) _ _); refine od_inO (by ((repeat with_reducible first | exact Pick.zero | apply Pick.succ); (first | (all_goals fail) | fail))) rfl (by with_reducible assumption) ?_) | ((with_reducible show OpD (uNin _) (.d _) (.r (.ref _)) _ _); refine od_ninO (by ((repeat with_reducible first | exact Pick.zero | apply Pick.succ); (first | (all_goals fail) | fail))) rfl (by with_reducible assumption) ?_) | ((with_reducible show OpD uIs _ _ _ _); (first | (with_reducible refine od_isnm ?_) | refine od_is rfl ?_)) | ((with_reducible show OpD uIsn _ _ _ _); (first | (with_reducible refine od_isnnm ?_) | refine od_isn rfl ?_)) | ((with_reducible show OpD (rIx _) (.r (.ref _)) _ _ _); refine od_ixo (by ((repeat with_reducible first | exact Pick.zero | apply Pick.succ); (first | (all_goals fail) | fail))) (by first | rfl | with_reducible assumption) (by exact fun _ z => nomatch z) ?_) | ((with_reducible show OpD (rIx _) (.d (.str _)) _ _ _); refine od_ixt (by (first | (with_reducible assumption) | decide | ((try simp only [List.length_cons, List.length_nil, List.length_append, List.length_map, List.length_replicate]); omega) | (refine Nat.le_trans (cutL_len _ _ _) ?_; (try simp only [List.length_cons, List.length_nil, List.length_append, List.length_map, List.length_replicate]); omega) | (refine Nat.le_trans (Nat.add_le_add_left (cutL_len _ _ _) _) ?_; (try simp only [List.length_cons, List.length_nil, List.length_append, List.length_map, List.length_replicate]); omega) | (refine Nat.le_trans (Nat.add_le_add_right (cutL_len _ _ _) _) ?_; (try simp only [List.length_cons, List.length_nil, List.length_append, List.length_map, List.length_replicate]); omega))) (by with_reducible assumption) ?_) | ((with_reducible show OpD (rIx _) _ _ _ _); refine od_ixs rfl (by first | rfl | with_reducible assumption) ?_))) | ((with_reducible show DS _ _ _ _ _); (first | ((with_reducible show DS _ (.Assign [.Subscript (.Name "_law_rows" _) _ _] _ _) _ _ _); refine ds_dput ?_) | ((with_reducible show DS _ (.Assign [.Name _ _] _ _) _ _ _); (fail_if_success (with_reducible show DS _ (.Assign _ (.List [] _) _) _ _ _)); (fail_if_success (with_reducible show DS _ (.Assign _ (.ListComp _ _ _ _) _) _ _ _)); refine ds_set ?_) | ((with_reducible show DS _ (.Assign [.Attribute _ _ _] _ _) _ _ _); (fail_if_success (with_reducible show DS _ (.Assign _ (.List _ _) _) _ _ _)); (fail_if_success (with_reducible show DS _ (.Assign _ (.ListComp _ _ _ _) _) _ _ _)); refine ds_fld ?_) | ((with_reducible show DS _ (.Assign [.Subscript _ _ _] _ _) _ _ _); (fail_if_success (with_reducible show DS _ (.Assign [.Subscript (.Subscript _ _ _) _ _] _ _) _ _ _)); refine ds_seti ?_) | ((with_reducible show DS _ (.Return (some _) _) _ _ _); refine ds_ret ?_) | ((with_reducible show DS _ (.Return none _) _ _ _); refine ds_retN ?_) | ((with_reducible show DS _ (.If _ _ _ _) _ _ _); refine ds_if ?_) | ((with_reducible show DS _ (.Expr (.Constant _ _ _) _) _ _ _); refine ds_doc ?_) | ((with_reducible show DS _ (.Expr _ _) _ _ _); refine ds_expr ?_) | ((with_reducible show DS _ (.Pass _) _ _ _); refine ds_pass ?_) | ((with_reducible show DS _ (.Break _) _ _ _); refine ds_break ?_) | ((with_reducible show DS _ (.Continue _) _ _ _); refine ds_continue ?_) | ((with_reducible show DS _ (.Raise (some (.Call (.Name _ _) [.Constant (.str _) _ _] [] _)) none _) _ _ _); refine ds_raise (by with_reducible assumption) (by decide +kernel) (by decide +kernel) ?_))) | ((with_reducible show DSs _ _ _ _ _); (first | ((with_reducible show DSs _ (_ :: _) _ _ _); refine dss_cons ?_) | ((with_reducible show DSs _ [] _ _ _); refine dss_nil ?_))) | ((with_reducible show DT _ _ _ _ _); (first | ((with_reducible show DT _ (.Compare _ [.In] [(.Name "_law_rows" _)] _) _ _ _); refine dt_din ?_) | ((with_reducible show DT _ (.Compare _ [.NotIn] [(.Name "_law_rows" _)] _) _ _ _); refine dt_dnin ?_) | ((with_reducible show DT _ (.BoolOp _ _ _) _ _ _); refine dt_bool ?_) | ((with_reducible show DT _ (.UnaryOp .Not _ _) _ _ _); refine dt_not ?_) | ((with_reducible show DT _ (.Compare _ [_] _ _) _ _ _); (first | ((with_reducible show DT _ (.Compare _ [.Eq] [_] _) _ _ _); refine dt_cmp cEq (nomark _) ?_) | ((with_reducible show DT _ (.Compare _ [.NotEq] [_] _) _ _ _); refine dt_cmp cNe (nomark _) ?_) | ((with_reducible show DT _ (.Compare _ [.Lt] [_] _) _ _ _); refine dt_cmp op_lt (nomark _) ?_) | ((with_reducible show DT _ (.Compare _ [.LtE] [_] _) _ _ _); refine dt_cmp op_le (nomark _) ?_) | ((with_reducible show DT _ (.Compare _ [.Gt] [_] _) _ _ _); refine dt_cmp op_gt (nomark _) ?_) | ((with_reducible show DT _ (.Compare _ [.GtE] [_] _) _ _ _); refine dt_cmp op_ge (nomark _) ?_) | ((with_reducible show DT _ (.Compare _ [.Is] [_] _) _ _ _); refine dt_cmp op_uIs (nomark _) ?_) | ((with_reducible show DT _ (.Compare _ [.IsNot] [_] _) _ _ _); refine dt_cmp op_uIsn (nomark _) ?_) | ((with_reducible show DT _ (.Compare _ [.In] [_] _) _ _ _); refine dt_cmp cIn (rfl) ?_) | ((with_reducible show DT _ (.Compare _ [.NotIn] [_] _) _ _ _); refine dt_cmp cNin (rfl) ?_))) | ((with_reducible show DT _ (.Compare _ [_, _] _ _) _ _ _); (first | ((with_reducible show DT _ (.Compare _ [.LtE, .Lt] [_, _] _) _ _ _); refine dt_chain op_le op_lt ?_) | ((with_reducible show DT _ (.Compare _ [.LtE, .LtE] [_, _] _) _ _ _); refine dt_chain op_le op_le ?_))) | ((with_reducible show DT _ _ _ _ _); refine dt_tru ?_))) | ((with_reducible show DW _ _ _ _ _); (first | ((with_reducible show DW _ (.BoolOp .And [_] _) _ _ _); refine dw_and1 ?_) | ((with_reducible show DW _ (.BoolOp .Or [_] _) _ _ _); refine dw_or1 ?_) | ((with_reducible show DW _ (.BoolOp .And _ _) _ _ _); refine dw_and ?_) | ((with_reducible show DW _ (.BoolOp .Or _ _) _ _ _); refine dw_or ?_))) | ((with_reducible show DA _ _ _ _ _); (first | ((with_reducible show DA _ (.Call (.Attribute _ "row_of_sheet" _) _ _ _ :: _) _ _ _); refine da_cons (dx_frz ?_)) | ((with_reducible show DA _ (.Call (.Attribute _ "sheets" _) _ _ _ :: _) _ _ _); refine da_cons (dx_frz ?_)) | ((with_reducible show DA _ (.Call (.Attribute _ "take_off" _) _ _ _ :: _) _ _ _); refine da_cons (dx_frz ?_)) | ((with_reducible show DA _ (_ :: _) _ _ _); refine da_cons ?_) | ((with_reducible show DA _ [] _ _ _); refine da_nil ?_))) | ((with_reducible show if _ = true then _ else _); (first | (with_reducible refine ite_tt ?_) | (with_reducible refine ite_ff ?_) | (with_reducible refine ite_nt ?_) | (with_reducible refine ite_nf ?_) | ((with_reducible show if decide _ = true then _ else _); first | refine ite_dt (by (first | (with_reducible assumption) | omega | decide +kernel | ((simp only [List.length_cons, List.length_nil, List.length_map, List.length_append]); omega) | ((simp only [List.length_cons, List.length_nil, List.length_map, List.length_append]); (first | (all_goals fail) | fail)))) ?_ | refine ite_df (by (first | (with_reducible assumption) | omega | decide +kernel | ((simp only [List.length_cons, List.length_nil, List.length_map, List.length_append]); omega) | ((simp only [List.length_cons, List.length_nil, List.length_map, List.length_append]); (first | (all_goals fail) | fail)))) ?_) | ((with_reducible show if (!decide _) = true then _ else _); first | refine ite_ndf (by (first | (with_reducible assumption) | omega | decide +kernel | ((simp only [List.length_cons, List.length_nil, List.length_map, List.length_append]); omega) | ((simp only [List.length_cons, List.length_nil, List.length_map, List.length_append]); (first | (all_goals fail) | fail)))) ?_ | refine ite_ndt (by (first | (with_reducible assumption) | omega | decide +kernel | ((simp only [List.length_cons, List.length_nil, List.length_map, List.length_append]); omega) | ((simp only [List.length_cons, List.length_nil, List.length_map, List.length_append]); (first | (all_goals fail) | fail)))) ?_) | (with_reducible refine ite_nn ?_) | ((with_reducible show if PyData.eqv _ _ = true then _ else _); first | refine ite_t (by decide +kernel) ?_ | refine ite_f (by decide +kernel) ?_ | refine ite_t rfl ?_ | refine ite_f rfl ?_) | ((with_reducible show if (!PyData.eqv _ _) = true then _ else _); first | refine ite_t (by decide +kernel) ?_ | refine ite_f (by decide +kernel) ?_ | refine ite_t rfl ?_ | refine ite_f rfl ?_) | ((with_reducible show if wholeD (.int _) = true then _ else _); refine ite_t rfl ?_) | ((with_reducible show if (!wholeD (.int _)) = true then _ else _); refine ite_f rfl ?_) | ((with_reducible show if isD _ _ = true then _ else _); first | refine ite_t rfl ?_ | refine ite_f rfl ?_) | ((with_reducible show if (!isD _ _) = true then _ else _); first | refine ite_t rfl ?_ | refine ite_f rfl ?_))) | ((with_reducible show Exists _); (first | (with_reducible refine me_shelf (by ((repeat with_reducible first | exact Pick.zero | apply Pick.succ); (first | (all_goals fail) | fail))) (by decide +kernel) ?_) | ((with_reducible show ∃ i ρ', SetS _ _ _ i _ ρ' ∧ _); refine ⟨_, _, by ((repeat with_reducible first | exact SetS.zero | apply SetS.succ); (first | (all_goals fail) | fail)), ?_⟩) | (with_reducible refine ex_list rfl ?_) | ((with_reducible show ∃ ds, Sl.asSeq _ = some ds ∧ _); refine ex_seq rfl ?_) | ((with_reducible show ∃ ds, Datas _ ds ∧ _); refine ex_datas (by ((repeat with_reducible first | exact datas_nil | apply datas_cons); (first | (all_goals fail) | fail))) (by first | exact Nat.le_of_ble_eq_true rfl | (first | (with_reducible assumption) | decide | ((try simp only [List.length_cons, List.length_nil, List.length_append, List.length_map, List.length_replicate]); omega) | (refine Nat.le_trans (cutL_len _ _ _) ?_; (try simp only [List.length_cons, List.length_nil, List.length_append, List.length_map, List.length_replicate]); omega) | (refine Nat.le_trans (Nat.add_le_add_left (cutL_len _ _ _) _) ?_; (try simp only [List.length_cons, List.length_nil, List.length_append, List.length_map, List.length_replicate]); omega) | (refine Nat.le_trans (Nat.add_le_add_right (cutL_len _ _ _) _) ?_; (try simp only [List.length_cons, List.length_nil, List.length_append, List.length_map, List.length_replicate]); omega))) ?_) | ((with_reducible show ∃ C p fs g sl, _ = Sl.r (.ref p) ∧ Pick _ (insM C p fs) g ∧ FldC _ C _ ∧ FldAt fs _ sl ∧ _); refine ex_fld (by ((repeat with_reducible first | exact Pick.zero | apply Pick.succ); (first | (all_goals fail) | fail))) (fldc (by with_reducible assumption) (by decide +kernel)) (by ((repeat with_reducible first | exact FldAt.zero | apply FldAt.succ); (first | (all_goals fail) | fail))) (by (simp only [List.map_cons, List.map_nil]); decide +kernel) (by exact fun _ z => nomatch z) ?_) | ((with_reducible show ∃ C p fs g fs2, _ = Sl.r (.ref p) ∧ Pick _ (insM C p fs) g ∧ FldC _ C _ ∧ (FldSet fs _ _ fs2 ∨ _) ∧ _); first | refine ex_fset (by ((repeat with_reducible first | exact Pick.zero | apply Pick.succ); (first | (all_goals fail) | fail))) (fldc (by with_reducible assumption) (by decide +kernel)) (by ((repeat with_reducible first | exact FldSet.zero | apply FldSet.succ); (first | (all_goals fail) | fail))) (by (simp only [List.map_cons, List.map_nil]); decide +kernel) (by exact Nat.le_of_ble_eq_true rfl) ?_ | refine ex_fnew (by ((repeat with_reducible first | exact Pick.zero | apply Pick.succ); (first | (all_goals fail) | fail))) (fldc (by with_reducible assumption) (by decide +kernel)) (by (simp only [List.map_cons, List.map_nil]); decide +kernel) (by (simp only [List.map_cons, List.map_nil]); decide +kernel) (by exact Nat.le_of_ble_eq_true rfl) ?_) | ((with_reducible show ∃ p ss f k j, _ = Sl.r (.ref p) ∧ _ = Sl.d (.int k) ∧ _); refine ex_seti (by ((repeat with_reducible first | exact Pick.zero | apply Pick.succ); (first | (all_goals fail) | fail))) (by first | with_reducible assumption | rfl) ?_) | (with_reducible refine ex_frz (by ((repeat with_reducible first | exact Pick.zero | apply Pick.succ); (first | (all_goals fail) | fail))) ?_) | (with_reducible refine ex_own (by ((repeat with_reducible first | exact Pick.zero | apply Pick.succ); (first | (all_goals fail) | fail))) ?_) | (with_reducible refine ex_app (by ((repeat with_reducible first | exact Pick.zero | apply Pick.succ); (first | (all_goals fail) | fail))) (by (first | (with_reducible assumption) | decide | ((try simp only [List.length_cons, List.length_nil, List.length_append, List.length_map, List.length_replicate]); omega) | (refine Nat.le_trans (cutL_len _ _ _) ?_; (try simp only [List.length_cons, List.length_nil, List.length_append, List.length_map, List.length_replicate]); omega) | (refine Nat.le_trans (Nat.add_le_add_left (cutL_len _ _ _) _) ?_; (try simp only [List.length_cons, List.length_nil, List.length_append, List.length_map, List.length_replicate]); omega) | (refine Nat.le_trans (Nat.add_le_add_right (cutL_len _ _ _) _) ?_; (try simp only [List.length_cons, List.length_nil, List.length_append, List.length_map, List.length_replicate]); omega))) ?_) | ((with_reducible show ∃ ys, RefsE _ _ ys ∧ _); (first | refine ex_refs (w := false) (by ((repeat with_reducible first | exact RefsE.nil | apply RefsE.cons); (first | (all_goals fail) | fail))) (by decide +kernel) ?_ | refine ex_refs (w := true) (by ((repeat with_reducible first | exact RefsE.nil | apply RefsE.cons); (first | (all_goals fail) | fail))) (by decide +kernel) ?_)) | ((with_reducible show ∃ rs', Ent [_] (rs' ++ [_]) ∧ _); (refine end_ex ?_; with_reducible assumption)) | ((with_reducible show ∃ ρ', SetS _ _ _ _ _ ρ' ∧ _); refine ⟨_, by ((repeat with_reducible first | exact SetS.zero | apply SetS.succ); (first | (all_goals fail) | fail)), ?_⟩) | (with_reducible refine ex_rep (by ((repeat with_reducible first | exact Pick.zero | apply Pick.succ); (first | (all_goals fail) | fail))) (by (first | omega | decide | (simp; omega))) ?_) | (with_reducible refine ex_dat ?_) | (with_reducible refine ex_int ?_) | (with_reducible refine ex_str ?_) | (with_reducible refine ex_dic (by ((repeat with_reducible first | exact Pick.zero | apply Pick.succ); (first | (all_goals fail) | fail))) ?_) | (with_reducible refine ex_din1 (by ((repeat with_reducible first | exact Pick.zero | apply Pick.succ); (first | (all_goals fail) | fail))) ?_) | (with_reducible refine ex_din2 (by ((repeat with_reducible first | exact Pick.zero | apply Pick.succ); (first | (all_goals fail) | fail))) ?_) | (with_reducible refine ex_dlen (by ((repeat with_reducible first | exact Pick.zero | apply Pick.succ); (first | (all_goals fail) | fail))) ?_) | ((with_reducible show ∃ p kvs f k, _ = Sl.r (.ref p) ∧ _ = Sl.d (keyD k) ∧ Pick _ (dictM p kvs) f ∧ kvs.length ≤ _ ∧ _); first | refine ex_dputI (by ((repeat with_reducible first | exact Pick.zero | apply Pick.succ); (first | (all_goals fail) | fail))) (by (first | (with_reducible assumption) | decide | ((try simp only [List.length_cons, List.length_nil, List.length_append, List.length_map, List.length_replicate]); omega) | (refine Nat.le_trans (cutL_len _ _ _) ?_; (try simp only [List.length_cons, List.length_nil, List.length_append, List.length_map, List.length_replicate]); omega) | (refine Nat.le_trans (Nat.add_le_add_left (cutL_len _ _ _) _) ?_; (try simp only [List.length_cons, List.length_nil, List.length_append, List.length_map, List.length_replicate]); omega) | (refine Nat.le_trans (Nat.add_le_add_right (cutL_len _ _ _) _) ?_; (try simp only [List.length_cons, List.length_nil, List.length_append, List.length_map, List.length_replicate]); omega))) ?_ | refine ex_dputS (by ((repeat with_reducible first | exact Pick.zero | apply Pick.succ); (first | (all_goals fail) | fail))) (by (first | (with_reducible assumption) | decide | ((try simp only [List.length_cons, List.length_nil, List.length_append, List.length_map, List.length_replicate]); omega) | (refine Nat.le_trans (cutL_len _ _ _) ?_; (try simp only [List.length_cons, List.length_nil, List.length_append, List.length_map, List.length_replicate]); omega) | (refine Nat.le_trans (Nat.add_le_add_left (cutL_len _ _ _) _) ?_; (try simp only [List.length_cons, List.length_nil, List.length_append, List.length_map, List.length_replicate]); omega) | (refine Nat.le_trans (Nat.add_le_add_right (cutL_len _ _ _) _) ?_; (try simp only [List.length_cons, List.length_nil, List.length_append, List.length_map, List.length_replicate]); omega))) ?_) | ((with_reducible show ∃ p kvs f k, _ = Sl.r (.ref p) ∧ _ = Sl.d (keyD k) ∧ Pick _ (dictM p kvs) f ∧ _); first | refine ex_din1 (by ((repeat with_reducible first | exact Pick.zero | apply Pick.succ); (first | (all_goals fail) | fail))) ?_ | refine ex_din2 (by ((repeat with_reducible first | exact Pick.zero | apply Pick.succ); (first | (all_goals fail) | fail))) ?_) | ((with_reducible show ∃ kvs f k s, _ = Sl.d (keyD k) ∧ Pick _ (dictM _ kvs) f ∧ valS kvs k = some s ∧ _); first | refine ex_dpopI (by ((repeat with_reducible first | exact Pick.zero | apply Pick.succ); (first | (all_goals fail) | fail))) (by with_reducible assumption) (by exact fun _ z => nomatch z) ?_ | refine ex_dpopS (by ((repeat with_reducible first | exact Pick.zero | apply Pick.succ); (first | (all_goals fail) | fail))) (by with_reducible assumption) (by exact fun _ z => nomatch z) ?_) | ((with_reducible show ∃ p kvs f k s, _ = Sl.r (.ref p) ∧ _ = Sl.d (keyD k) ∧ Pick _ (dictM p kvs) f ∧ _); first | refine ex_dget (by ((repeat with_reducible first | exact Pick.zero | apply Pick.succ); (first | (all_goals fail) | fail))) (by with_reducible assumption) (by exact fun _ z => nomatch z) ?_ | refine ex_dgetS (by ((repeat with_reducible first | exact Pick.zero | apply Pick.succ); (first | (all_goals fail) | fail))) (by with_reducible assumption) (by exact fun _ z => nomatch z) ?_))) | (first | (with_reducible refine kt ?_) | ((with_reducible show ∀ _ : Addr, _); intro q) | ((with_reducible show Le _ _ ∧ _ = _); exact ⟨by ((repeat with_reducible first | exact Le.nil | apply Le.eq | apply Le.un); (first | (all_goals fail) | fail)), rfl⟩) | ((with_reducible show CallEnd _ _ _ _ _ _); (first | ((with_reducible refine ce_shelf (by ((repeat with_reducible first | exact Pick.zero | apply Pick.succ); (first | (all_goals fail) | fail))) ?_); (first | refine ⟨_, rfl, rfl, by (first | (with_reducible trivial) | (with_reducible assumption) | omega | (exact ⟨by with_reducible assumption, by with_reducible assumption⟩)), ?_⟩ | refine ⟨_, _, rfl, rfl, by (first | (with_reducible trivial) | (with_reducible assumption) | omega | (exact ⟨by with_reducible assumption, by with_reducible assumption⟩)), ?_⟩ | refine ⟨_, _, _, rfl, rfl, by (first | (with_reducible trivial) | (with_reducible assumption) | omega | (exact ⟨by with_reducible assumption, by with_reducible assumption⟩)), ?_⟩ | refine ⟨_, _, _, _, rfl, rfl, by (first | (with_reducible trivial) | (with_reducible assumption) | omega | (exact ⟨by with_reducible assumption, by with_reducible assumption⟩)), ?_⟩ | refine ⟨_, _, _, _, _, rfl, rfl, by (first | (with_reducible trivial) | (with_reducible assumption) | omega | (exact ⟨by with_reducible assumption, by with_reducible assumption⟩)), ?_⟩ | refine ⟨_, _, _, _, _, _, rfl, rfl, by (first | (with_reducible trivial) | (with_reducible assumption) | omega | (exact ⟨by with_reducible assumption, by with_reducible assumption⟩)), ?_⟩ | refine ⟨_, _, _, _, _, _, _, rfl, rfl, by (first | (with_reducible trivial) | (with_reducible assumption) | omega | (exact ⟨by with_reducible assumption, by with_reducible assumption⟩)), ?_⟩ | refine ⟨_, _, _, _, _, _, _, _, rfl, rfl, by (first | (with_reducible trivial) | (with_reducible assumption) | omega | (exact ⟨by with_reducible assumption, by with_reducible assumption⟩)), ?_⟩)) | (refine ce_inl ?_; first | refine ⟨_, rfl, rfl, by (first | (with_reducible trivial) | (with_reducible assumption) | omega | (exact ⟨by with_reducible assumption, by with_reducible assumption⟩)), ?_⟩ | refine ⟨_, _, rfl, rfl, by (first | (with_reducible trivial) | (with_reducible assumption) | omega | (exact ⟨by with_reducible assumption, by with_reducible assumption⟩)), ?_⟩ | refine ⟨_, _, _, rfl, rfl, by (first | (with_reducible trivial) | (with_reducible assumption) | omega | (exact ⟨by with_reducible assumption, by with_reducible assumption⟩)), ?_⟩ | refine ⟨_, _, _, _, rfl, rfl, by (first | (with_reducible trivial) | (with_reducible assumption) | omega | (exact ⟨by with_reducible assumption, by with_reducible assumption⟩)), ?_⟩ | refine ⟨_, _, _, _, _, rfl, rfl, by (first | (with_reducible trivial) | (with_reducible assumption) | omega | (exact ⟨by with_reducible assumption, by with_reducible assumption⟩)), ?_⟩ | refine ⟨_, _, _, _, _, _, rfl, rfl, by (first | (with_reducible trivial) | (with_reducible assumption) | omega | (exact ⟨by with_reducible assumption, by with_reducible assumption⟩)), ?_⟩))) | ((with_reducible show CallEnd0 _ _ _ _); (first | ((with_reducible refine ce0_shelf (by ((repeat with_reducible first | exact Pick.zero | apply Pick.succ); (first | (all_goals fail) | fail))) ?_); (first | refine ⟨_, rfl, rfl, by (first | (with_reducible trivial) | (with_reducible assumption) | omega | (exact ⟨by with_reducible assumption, by with_reducible assumption⟩)), ?_⟩ | refine ⟨_, _, rfl, rfl, by (first | (with_reducible trivial) | (with_reducible assumption) | omega | (exact ⟨by with_reducible assumption, by with_reducible assumption⟩)), ?_⟩ | refine ⟨_, _, _, rfl, rfl, by (first | (with_reducible trivial) | (with_reducible assumption) | omega | (exact ⟨by with_reducible assumption, by with_reducible assumption⟩)), ?_⟩ | refine ⟨_, _, _, _, rfl, rfl, by (first | (with_reducible trivial) | (with_reducible assumption) | omega | (exact ⟨by with_reducible assumption, by with_reducible assumption⟩)), ?_⟩ | refine ⟨_, _, _, _, _, rfl, rfl, by (first | (with_reducible trivial) | (with_reducible assumption) | omega | (exact ⟨by with_reducible assumption, by with_reducible assumption⟩)), ?_⟩ | refine ⟨_, _, _, _, _, _, rfl, rfl, by (first | (with_reducible trivial) | (with_reducible assumption) | omega | (exact ⟨by with_reducible assumption, by with_reducible assumption⟩)), ?_⟩ | refine ⟨_, _, _, _, _, _, _, rfl, rfl, by (first | (with_reducible trivial) | (with_reducible assumption) | omega | (exact ⟨by with_reducible assumption, by with_reducible assumption⟩)), ?_⟩ | refine ⟨_, _, _, _, _, _, _, _, rfl, rfl, by (first | (with_reducible trivial) | (with_reducible assumption) | omega | (exact ⟨by with_reducible assumption, by with_reducible assumption⟩)), ?_⟩)))) | ((with_reducible show (bodyPost _ _).rt _ _); (first | (refine end_rt ?_; with_reducible assumption) | refine end_rtT (decide_eq_true (by omega)) (by with_reducible assumption) | refine end_rtT rfl (by with_reducible assumption))) | ((with_reducible show TrD (.d (.bool _)) _ _); refine tr_bool ?_) | ((with_reducible show TrD (.d .none) _ _); refine tr_none ?_) | ((with_reducible show TrD (.d (.int _)) _ _); refine tr_int ?_) | ((with_reducible show TrD (.d (.list _)) _ _); refine tr_list ?_) | ((with_reducible show TrD (.d (.tuple _)) _ _); refine tr_tuple ?_) | ((with_reducible show TrD (.r (.ref _)) _ _); (first | refine tr_own (by ((repeat with_reducible first | exact Pick.zero | apply Pick.succ); (first | (all_goals fail) | fail))) ?_ | refine tr_dict (by ((repeat with_reducible first | exact Pick.zero | apply Pick.succ); (first | (all_goals fail) | fail))) ?_)) | ((with_reducible show CaD (rIsi _) _ _ _); (first | refine cd_isiT (by decide) rfl rfl ?_ | refine cd_isiF (by decide) rfl rfl ?_ | refine cd_isi (by decide) rfl ?_)) | ((with_reducible show CaD _ [.d (.int _), .d (.int _)] _ _); (first | refine cd_min ?_ | refine cd_max ?_)) | ((with_reducible show LenD (.d (.str _)) _ _); refine ld_str (by (first | (with_reducible assumption) | decide | ((try simp only [List.length_cons, List.length_nil, List.length_append, List.length_map, List.length_replicate]); omega) | (refine Nat.le_trans (cutL_len _ _ _) ?_; (try simp only [List.length_cons, List.length_nil, List.length_append, List.length_map, List.length_replicate]); omega) | (refine Nat.le_trans (Nat.add_le_add_left (cutL_len _ _ _) _) ?_; (try simp only [List.length_cons, List.length_nil, List.length_append, List.length_map, List.length_replicate]); omega) | (refine Nat.le_trans (Nat.add_le_add_right (cutL_len _ _ _) _) ?_; (try simp only [List.length_cons, List.length_nil, List.length_append, List.length_map, List.length_replicate]); omega))) ?_) | ((with_reducible show LenD (.r (.ref _)) _ _); refine ld_own (by ((repeat with_reducible first | exact Pick.zero | apply Pick.succ); (first | (all_goals fail) | fail))) ?_) | ((with_reducible show LenD _ _ _); refine ld_seq rfl ?_) | ((with_reducible show SlD _ (.d (.list _)) _ _ _ _); refine sd_list ?_) | ((with_reducible show SlD _ (.n _) _ _ _ _); refine sd_list ?_) | ((with_reducible show SlD _ (.r (.ref _)) _ _ _ _); refine sd_own (by ((repeat with_reducible first | exact Pick.zero | apply Pick.succ); (first | (all_goals fail) | fail))) (fun q => ?_)) | ((with_reducible show SlD _ (.d (.str _)) _ _ _ _); refine sd_str (by (first | (with_reducible assumption) | decide | ((try simp only [List.length_cons, List.length_nil, List.length_append, List.length_map, List.length_replicate]); omega) | (refine Nat.le_trans (cutL_len _ _ _) ?_; (try simp only [List.length_cons, List.length_nil, List.length_append, List.length_map, List.length_replicate]); omega) | (refine Nat.le_trans (Nat.add_le_add_left (cutL_len _ _ _) _) ?_; (try simp only [List.length_cons, List.length_nil, List.length_append, List.length_map, List.length_replicate]); omega) | (refine Nat.le_trans (Nat.add_le_add_right (cutL_len _ _ _) _) ?_; (try simp only [List.length_cons, List.length_nil, List.length_append, List.length_map, List.length_replicate]); omega))) ?_) | ((with_reducible show SlD _ (.d (.tuple [_, _, _, _])) none (some 2) _ _); refine sd_t42 ?_) | ((with_reducible show SlD _ (.d (.tuple [_, _, _, _, _, _])) (some 2) (some 5) _ _); refine sd_t625 ?_) | ((with_reducible show SlD _ (.d (.tuple [_, _, _, _])) (some 2) none _ _); refine sd_t4f2 ?_) | ((with_reducible show SlD _ (.d (.tuple _)) _ _ _ _); refine sd_tup (by first | decide | ((simp only [List.length_cons, List.length_nil]); decide +kernel)) ?_) | ((with_reducible show DO _ none _ _ _); refine do_none ?_) | ((with_reducible show DO _ (some _) _ _ _); refine do_some ?_) | (with_reducible refine ex_eqr ?_) | ((with_reducible show LsD _ _ _); first | refine ls_s (by (first | (with_reducible assumption) | decide | ((try simp only [List.length_cons, List.length_nil, List.length_append, List.length_map, List.length_replicate]); omega) | (refine Nat.le_trans (cutL_len _ _ _) ?_; (try simp only [List.length_cons, List.length_nil, List.length_append, List.length_map, List.length_replicate]); omega) | (refine Nat.le_trans (Nat.add_le_add_left (cutL_len _ _ _) _) ?_; (try simp only [List.length_cons, List.length_nil, List.length_append, List.length_map, List.length_replicate]); omega) | (refine Nat.le_trans (Nat.add_le_add_right (cutL_len _ _ _) _) ?_; (try simp only [List.length_cons, List.length_nil, List.length_append, List.length_map, List.length_replicate]); omega))) ?_ | refine ls_d rfl ?_) | ((with_reducible show LiD _ _ _); first | refine li_o (by ((repeat with_reducible first | exact Pick.zero | apply Pick.succ); (first | (all_goals fail) | fail))) (fun q => ?_) | refine li_d rfl (fun q => ?_)) | ((with_reducible show _ < 1920 ∧ _); refine ⟨log2_ok (by (first | omega | decide | (simp; omega))), ?_⟩) | ((with_reducible show CaD (rIsE _ _ _) [_, .r (.ty _)] _ _); refine cd_isEV (by with_reducible assumption) (by decide +kernel) ?_) | ((with_reducible show CaD (rIsE _ _ _) _ _ _); (first | refine cd_isE1 (r := true) (by with_reducible assumption) (by decide +kernel) (by decide +kernel) (by decide +kernel) ?_ | refine cd_isE1 (r := false) (by with_reducible assumption) (by decide +kernel) (by decide +kernel) (by decide +kernel) ?_)))) | dsimp only [List.nil_append, List.cons_append, Sl.plain])))
local macro_rules | `(tactic| walk_at "auto") => `(tactic| (repeat' (first | (first | ((with_reducible show DX _ _ _ _ _); (first | ((with_reducible show DX _ (.Subscript (.Name "_law_rows" _) _ _) _ _ _); refine dx_dget ?_) | ((with_reducible show DX _ (.Call (.Attribute (.Name "_law_rows" _) "get" _) [_] _ _) _ _ _); refine dx_dget1 ?_) | ((with_reducible show DX _ (.Call (.Attribute (.Name "_law_rows" _) "get" _) [_, _] _ _) _ _ _); refine dx_dget2 ?_) | ((with_reducible show DX _ (.Call (.Attribute (.Name "_law_rows" _) "pop" _) [_] _ _) _ _ _); refine dx_dpop1 ?_) | ((with_reducible show DX _ (.Call (.Attribute (.Name "_law_rows" _) "pop" _) [_, _] _ _) _ _ _); refine dx_dpop2 ?_) | ((with_reducible show DX _ (.Call (.Name "len" _) [(.Name "_law_rows" _)] _ _) _ _ _); refine dx_dlen ?_) | ((with_reducible show DX _ (.Call (.Name "list" _) [(.Name "_law_rows" _)] _ _) _ _ _); refine dx_dlist ?_) | ((with_reducible show DX _ (.Call (.Name "dict" _) [(.Name "_law_rows" _)] _ _) _ _ _); refine dx_dictO ?_) | ((with_reducible show DX _ (.Call (.Name "sorted" _) [(.Name "_law_rows" _)] _ _) _ _ _); refine dx_sortedD ?_) | ((with_reducible show DX _ (.Compare _ [.In] [(.Name "_law_rows" _)] _) _ _ _); refine dx_din ?_) | ((with_reducible show DX _ (.Compare _ [.NotIn] [(.Name "_law_rows" _)] _) _ _ _); refine dx_dnin ?_) | ((with_reducible show DX _ (.Name _ _) _ _ _); (first | refine dx_name (by ((repeat with_reducible first | exact Slot.zero | apply Slot.succ); (first | (all_goals fail) | fail))) (by exact fun e => nomatch e) ?_ | refine dx_gint (by with_reducible assumption) ?_ | refine dx_gstr (by with_reducible assumption) ?_ | refine dx_gcls (by with_reducible assumption) (by decide +kernel) ?_ | ((with_reducible show DX _ (.Name "int" _) _ _ _); refine dx_tint ?_) | ((with_reducible show DX _ (.Name "bool" _) _ _ _); refine dx_tbool ?_) | ((with_reducible show DX _ (.Name "str" _) _ _ _); refine dx_tstr ?_) | ((with_reducible show DX _ (.Name "list" _) _ _ _); refine dx_tlist ?_) | ((with_reducible show DX _ (.Name "tuple" _) _ _ _); refine dx_ttuple ?_) | ((with_reducible show DX _ (.Name "ValueError" _) _ _ _); refine dx_tVE (by with_reducible assumption) ?_))) | ((with_reducible show DX _ (.Constant _ _ _) _ _ _); (first | ((with_reducible show DX _ (.Constant (.int _) _ _) _ _ _); refine dx_int ?_) | ((with_reducible show DX _ (.Constant (.str _) _ _) _ _ _); refine dx_str ?_) | ((with_reducible show DX _ (.Constant (.bool _) _ _) _ _ _); refine dx_bl ?_) | refine dx_non ?_)) | ((with_reducible show DX _ (.BinOp (.List [_] _) .Mult _ _) _ _ _); refine dx_rep ?_) | ((with_reducible show DX _ (.BinOp _ _ _ _) _ _ _); (first | ((with_reducible show DX _ (.BinOp _ .Add _ _) _ _ _); refine dx_bin cAdd ?_) | ((with_reducible show DX _ (.BinOp _ .Sub _ _) _ _ _); refine dx_bin op_sub ?_) | ((with_reducible show DX _ (.BinOp _ .Mult _ _) _ _ _); refine dx_bin op_uMul ?_) | ((with_reducible show DX _ (.BinOp _ .FloorDiv _ _) _ _ _); refine dx_bin op_fdivW ?_) | ((with_reducible show DX _ (.BinOp _ .Mod _ _) _ _ _); refine dx_bin op_mod ?_) | ((with_reducible show DX _ (.BinOp _ .Pow _ _) _ _ _); refine dx_bin op_pow ?_))) | ((with_reducible show DX _ (.Compare _ [_] _ _) _ _ _); (first | ((with_reducible show DX _ (.Compare _ [.Eq] [_] _) _ _ _); refine dx_cmp cEq (nomark _) ?_) | ((with_reducible show DX _ (.Compare _ [.NotEq] [_] _) _ _ _); refine dx_cmp cNe (nomark _) ?_) | ((with_reducible show DX _ (.Compare _ [.Lt] [_] _) _ _ _); refine dx_cmp op_lt (nomark _) ?_) | ((with_reducible show DX _ (.Compare _ [.LtE] [_] _) _ _ _); refine dx_cmp op_le (nomark _) ?_) | ((with_reducible show DX _ (.Compare _ [.Gt] [_] _) _ _ _); refine dx_cmp op_gt (nomark _) ?_) | ((with_reducible show DX _ (.Compare _ [.GtE] [_] _) _ _ _); refine dx_cmp op_ge (nomark _) ?_) | ((with_reducible show DX _ (.Compare _ [.Is] [_] _) _ _ _); refine dx_cmp op_uIs (nomark _) ?_) | ((with_reducible show DX _ (.Compare _ [.IsNot] [_] _) _ _ _); refine dx_cmp op_uIsn (nomark _) ?_) | ((with_reducible show DX _ (.Compare _ [.In] [_] _) _ _ _); refine dx_cmp cIn (rfl) ?_) | ((with_reducible show DX _ (.Compare _ [.NotIn] [_] _) _ _ _); refine dx_cmp cNin (rfl) ?_))) | ((with_reducible show DX _ (.Compare _ [_, _] _ _) _ _ _); (first | ((with_reducible show DX _ (.Compare _ [.LtE, .Lt] [_, _] _) _ _ _); refine dx_chain op_le op_lt ?_) | ((with_reducible show DX _ (.Compare _ [.LtE, .LtE] [_, _] _) _ _ _); refine dx_chain op_le op_le ?_))) | ((with_reducible show DX _ (.BoolOp _ [_] _) _ _ _); refine dx_one ?_) | ((with_reducible show DX _ (.BoolOp .And _ _) _ _ _); refine dx_and ?_) | ((with_reducible show DX _ (.BoolOp .Or _ _) _ _ _); refine dx_or ?_) | ((with_reducible show DX _ (.UnaryOp .Not _ _) _ _ _); refine dx_not ?_) | ((with_reducible show DX _ (.UnaryOp _ _ _) _ _ _); refine dx_neg ?_) | ((with_reducible show DX _ (.Subscript _ (.Slice _ _ _ _) _) _ _ _); refine dx_slice ?_) | ((with_reducible show DX _ (.Subscript _ _ _) _ _ _); refine dx_ix cIx ?_) | ((with_reducible show DX _ (.Tuple _ _ _) _ _ _); refine dx_tup ?_) | ((with_reducible show DX _ (.IfExp _ _ _ _) _ _ _); refine dx_ifExp ?_) | ((with_reducible show DX _ (.List _ _) _ _ _); refine dx_lst ?_) | ((with_reducible show DX _ (.Dict [] [] _) _ _ _); refine dx_dnew ?_) | ((with_reducible show DX _ (.Attribute _ _ _) _ _ _); refine dx_fld ?_) | ((with_reducible show DX _ (.Call (.Attribute _ "clear" _) [] _ _) _ _ _); refine dx_clear ?_) | ((with_reducible show DX _ (.Call (.Attribute _ "pop" _) [] _ _) _ _ _); refine dx_pop ?_) | ((with_reducible show DX _ (.Call (.Attribute _ _ _) [] _ _) _ _ _); refine dx_meth0 (by with_reducible assumption) (by with_reducible assumption) ?_) | ((with_reducible show DX _ (.Call (.Name _ _) [] _ _) _ _ _); refine dx_call0 (by with_reducible assumption) ?_) | ((with_reducible show DX _ (.Call (.Attribute _ "append" _) [_] _ _) _ _ _); refine dx_append ?_) | ((with_reducible show DX _ (.Call (.Attribute _ "join" _) [_] _ _) _ _ _); refine dx_join ?_) | ((with_reducible show DX _ (.Call (.Attribute _ "find" _) [_] _ _) _ _ _); refine dx_find ?_) | ((with_reducible show DX _ (.Call (.Attribute (.Constant (.str _) _ _) "index" _) [_] _ _) _ _ _); refine dx_sindex ?_) | ((with_reducible show DX _ (.Call (.Attribute _ "split" _) [_] _ _) _ _ _); refine dx_split ?_) | ((with_reducible show DX _ (.Call (.Attribute _ _ _) _ _ _) _ _ _); refine dx_meth (by with_reducible assumption) (by with_reducible assumption) ?_) | ((with_reducible show DX _ (.Call (.Name _ _) _ _ _) _ _ _); (first | ((with_reducible show DX _ (.Call (.Name "len" _) _ _ _) _ _ _); refine dx_len ?_) | ((with_reducible show DX _ (.Call (.Name "isinstance" _) _ _ _) _ _ _); (first | ((with_reducible show DX _ (.Call _ [_, .Tuple _ _ _] _ _) _ _ _); refine dx_isET (by with_reducible assumption) (by with_reducible assumption) (by decide +kernel) ?_) | ((with_reducible show DX _ (.Call _ [_, .Name _ _] _ _) _ _ _); first | refine dx_isE (by with_reducible assumption) ?_ | refine dx_isi ?_))) | ((with_reducible show DX _ (.Call (.Name "list" _) _ _ _) _ _ _); (first | refine dx_listA ?_ | refine dx_list ?_)) | ((with_reducible show DX _ (.Call (.Name "min" _) _ _ _) _ _ _); refine dx_min ?_) | ((with_reducible show DX _ (.Call (.Name "max" _) _ _ _) _ _ _); refine dx_max ?_) | ((with_reducible show DX _ (.Call (.Name "str" _) _ _ _) _ _ _); refine dx_cstr ?_) | ((with_reducible show DX _ (.Call (.Name "int" _) _ _ _) _ _ _); refine dx_cint ?_) | refine dx_call (by with_reducible assumption) ?_ | refine dx_make (by with_reducible assumption) ?_)))) | ((with_reducible show OpD _ _ _ _ _); (first | ((with_reducible show OpD (uAdd _) (.d (.int _)) (.d (.int _)) _ _); refine od_add ?_) | ((with_reducible show OpD (uAdd _) (.d (.str _)) (.d (.str _)) _ _); refine od_adds (by (first | (with_reducible assumption) | decide | ((try simp only [List.length_cons, List.length_nil, List.length_append, List.length_map, List.length_replicate]); omega) | (refine Nat.le_trans (cutL_len _ _ _) ?_; (try simp only [List.length_cons, List.length_nil, List.length_append, List.length_map, List.length_replicate]); omega) | (refine Nat.le_trans (Nat.add_le_add_left (cutL_len _ _ _) _) ?_; (try simp only [List.length_cons, List.length_nil, List.length_append, List.length_map, List.length_replicate]); omega) | (refine Nat.le_trans (Nat.add_le_add_right (cutL_len _ _ _) _) ?_; (try simp only [List.length_cons, List.length_nil, List.length_append, List.length_map, List.length_replicate]); omega))) ?_) | ((with_reducible show OpD (uAdd _) (.d (.tuple _)) (.d (.tuple _)) _ _); refine od_addt (by first | exact List.cons_ne_nil _ _ | decide) (by (first | (with_reducible assumption) | decide | ((try simp only [List.length_cons, List.length_nil, List.length_append, List.length_map, List.length_replicate]); omega) | (refine Nat.le_trans (cutL_len _ _ _) ?_; (try simp only [List.length_cons, List.length_nil, List.length_append, List.length_map, List.length_replicate]); omega) | (refine Nat.le_trans (Nat.add_le_add_left (cutL_len _ _ _) _) ?_; (try simp only [List.length_cons, List.length_nil, List.length_append, List.length_map, List.length_replicate]); omega) | (refine Nat.le_trans (Nat.add_le_add_right (cutL_len _ _ _) _) ?_; (try simp only [List.length_cons, List.length_nil, List.length_append, List.length_map, List.length_replicate]); omega))) ?_) | ((with_reducible show OpD (uAdd _) _ _ _ _); refine od_addl rfl rfl (by (first | (with_reducible assumption) | decide | ((try simp only [List.length_cons, List.length_nil, List.length_append, List.length_map, List.length_replicate]); omega) | (refine Nat.le_trans (cutL_len _ _ _) ?_; (try simp only [List.length_cons, List.length_nil, List.length_append, List.length_map, List.length_replicate]); omega) | (refine Nat.le_trans (Nat.add_le_add_left (cutL_len _ _ _) _) ?_; (try simp only [List.length_cons, List.length_nil, List.length_append, List.length_map, List.length_replicate]); omega) | (refine Nat.le_trans (Nat.add_le_add_right (cutL_len _ _ _) _) ?_; (try simp only [List.length_cons, List.length_nil, List.length_append, List.length_map, List.length_replicate]); omega))) ?_) | ((with_reducible show OpD (rI0 fun i j => .int (i - j)) _ _ _ _); refine od_sub ?_) | ((with_reducible show OpD uMul (.d (.int _)) (.d (.int _)) _ _); (first | refine od_mul (mul_r (by (first | omega | decide | (simp; omega)))) ?_ | refine od_mul (mul_l (by (first | omega | decide | (simp; omega)))) ?_ | refine od_mul (mul_ok (by (first | omega | decide | (simp; omega))) (by (first | omega | decide | (simp; omega)))) ?_)) | ((with_reducible show OpD (rI CDivW _) _ _ _ _); refine od_div (by (first | omega | decide | (simp; omega))) ?_) | ((with_reducible show OpD (rI CPow _) (.d (.int 10)) _ _ _); (first | (with_reducible refine od_p60 ?_) | (with_reducible refine od_p59 ?_) | (with_reducible refine od_p20 ?_) | (with_reducible refine od_p40 ?_) | (with_reducible refine od_p6 ?_) | (with_reducible refine od_p9 ?_) | (with_reducible refine od_p50 ?_) | (with_reducible refine od_p58 ?_) | (with_reducible refine od_p30 ?_) | (with_reducible refine od_p3 ?_))) | ((with_reducible show OpD (rI CPow _) _ _ _ _); refine od_pow (by decide) ?_) | ((with_reducible show OpD (rI0 fun i j => .bl (decide (i < j))) _ _ _ _); refine od_lt ?_) | ((with_reducible show OpD (rI0 fun i j => .bl (decide (i ≤ j))) _ _ _ _); refine od_le ?_) | ((with_reducible show OpD (rI0 fun i j => .bl (decide (j < i))) _ _ _ _); refine od_gt ?_) | ((with_reducible show OpD (rI0 fun i j => .bl (decide (j ≤ i))) _ _ _ _); refine od_ge ?_) | ((with_reducible show OpD (rI _ _) _ _ _ _); refine od_mod (by (first | omega | decide | (simp; omega))) ?_) | ((with_reducible show OpD (uEq _) _ _ _ _); (first | refine od_eq rfl rfl (by first | exact .int _ _ | exact .str _ _ | exact .bl _ _ | exact .nn | exact .ni _ | exact .in_ _ | exact .ns _ | exact .sn _) ?_ | refine od_eqS rfl rfl (by first | (with_reducible assumption) | decide +kernel | rfl) ?_ | refine od_eq rfl rfl (.dat (by first | (with_reducible assumption) | decide +kernel | rfl) (by first | (with_reducible assumption) | decide +kernel | rfl)) ?_)) | ((with_reducible show OpD (uNe _) _ _ _ _); (first | (with_reducible refine od_nenm ?_) | refine od_ne rfl rfl (by first | exact .int _ _ | exact .str _ _ | exact .bl _ _ | exact .nn | exact .ni _ | exact .in_ _ | exact .ns _ | exact .sn _) ?_ | refine od_neS rfl rfl (by first | (with_reducible assumption) | decide +kernel | rfl) ?_ | refine od_ne rfl rfl (.dat (by first | (with_reducible assumption) | decide +kernel | rfl) (by first | (with_reducible assumption) | decide +kernel | rfl)) ?_)) | ((with_reducible show OpD (uNin _) (.d (.str _)) (.d (.str _)) _ _); refine od_nins ?_) | ((with_reducible show OpD (uIn _) (.d (.str _)) (.d (.str _)) _ _); refine od_ins ?_) | ((with_reducible show OpD (uIn _) (.d _) (.r (.ref _)) _ _); refine od_inO (by ((repeat with_reducible first | exact Pick.zero | apply Pick.succ); (first | (all_goals fail) | fail))) rfl (by with_reducible assumption) ?_) | ((with_reducible show OpD (uNin _) (.d _) (.r (.ref _)) _ _); refine od_ninO (by ((repeat with_reducible first | exact Pick.zero | apply Pick.succ); (first | (all_goals fail) | fail))) rfl (by with_reducible assumption) ?_) | ((with_reducible show OpD uIs _ _ _ _); (first | (with_reducible refine od_isnm ?_) | refine od_is rfl ?_)) | ((with_reducible show OpD uIsn _ _ _ _); (first | (with_reducible refine od_isnnm ?_) | refine od_isn rfl ?_)) | ((with_reducible show OpD (rIx _) (.r (.ref _)) _ _ _); refine od_ixo (by ((repeat with_reducible first | exact Pick.zero | apply Pick.succ); (first | (all_goals fail) | fail))) (by first | rfl | with_reducible assumption) (by exact fun _ z => nomatch z) ?_) | ((with_reducible show OpD (rIx _) (.d (.str _)) _ _ _); refine od_ixt (by (first | (with_reducible assumption) | decide | ((try simp only [List.length_cons, List.length_nil, List.length_append, List.length_map, List.length_replicate]); omega) | (refine Nat.le_trans (cutL_len _ _ _) ?_; (try simp only [List.length_cons, List.length_nil, List.length_append, List.length_map, List.length_replicate]); omega) | (refine Nat.le_trans (Nat.add_le_add_left (cutL_len _ _ _) _) ?_; (try simp only [List.length_cons, List.length_nil, List.length_append, List.length_map, List.length_replicate]); omega) | (refine Nat.le_trans (Nat.add_le_add_right (cutL_len _ _ _) _) ?_; (try simp only [List.length_cons, List.length_nil, List.length_append, List.length_map, List.length_replicate]); omega))) (by with_reducible assumption) ?_) | ((with_reducible show OpD (rIx _) _ _ _ _); refine od_ixs rfl (by first | rfl | with_reducible assumption) ?_))) | ((with_reducible show DS _ _ _ _ _); (first | ((with_reducible show DS _ (.Assign [.Subscript (.Name "_law_rows" _) _ _] _ _) _ _ _); refine ds_dput ?_) | ((with_reducible show DS _ (.Assign [.Name _ _] _ _) _ _ _); (fail_if_success (with_reducible show DS _ (.Assign _ (.List [] _) _) _ _ _)); (fail_if_success (with_reducible show DS _ (.Assign _ (.ListComp _ _ _ _) _) _ _ _)); refine ds_set ?_) | ((with_reducible show DS _ (.Assign [.Attribute _ _ _] _ _) _ _ _); (fail_if_success (with_reducible show DS _ (.Assign _ (.List _ _) _) _ _ _)); (fail_if_success (with_reducible show DS _ (.Assign _ (.ListComp _ _ _ _) _) _ _ _)); refine ds_fld ?_) | ((with_reducible show DS _ (.Assign [.Subscript _ _ _] _ _) _ _ _); (fail_if_success (with_reducible show DS _ (.Assign [.Subscript (.Subscript _ _ _) _ _] _ _) _ _ _)); refine ds_seti ?_) | ((with_reducible show DS _ (.Return (some _) _) _ _ _); refine ds_ret ?_) | ((with_reducible show DS _ (.Return none _) _ _ _); refine ds_retN ?_) | ((with_reducible show DS _ (.If _ _ _ _) _ _ _); refine ds_if ?_) | ((with_reducible show DS _ (.Expr (.Constant _ _ _) _) _ _ _); refine ds_doc ?_) | ((with_reducible show DS _ (.Expr _ _) _ _ _); refine ds_expr ?_) | ((with_reducible show DS _ (.Pass _) _ _ _); refine ds_pass ?_) | ((with_reducible show DS _ (.Break _) _ _ _); refine ds_break ?_) | ((with_reducible show DS _ (.Continue _) _ _ _); refine ds_continue ?_) | ((with_reducible show DS _ (.Raise (some (.Call (.Name _ _) [.Constant (.str _) _ _] [] _)) none _) _ _ _); refine ds_raise (by with_reducible assumption) (by decide +kernel) (by decide +kernel) ?_))) | ((with_reducible show DSs _ _ _ _ _); (first | ((with_reducible show DSs _ (_ :: _) _ _ _); refine dss_cons ?_) | ((with_reducible show DSs _ [] _ _ _); refine dss_nil ?_))) | ((with_reducible show DT _ _ _ _ _); (first | ((with_reducible show DT _ (.Compare _ [.In] [(.Name "_law_rows" _)] _) _ _ _); refine dt_din ?_) | ((with_reducible show DT _ (.Compare _ [.NotIn] [(.Name "_law_rows" _)] _) _ _ _); refine dt_dnin ?_) | ((with_reducible show DT _ (.BoolOp _ _ _) _ _ _); refine dt_bool ?_) | ((with_reducible show DT _ (.UnaryOp .Not _ _) _ _ _); refine dt_not ?_) | ((with_reducible show DT _ (.Compare _ [_] _ _) _ _ _); (first | ((with_reducible show DT _ (.Compare _ [.Eq] [_] _) _ _ _); refine dt_cmp cEq (nomark _) ?_) | ((with_reducible show DT _ (.Compare _ [.NotEq] [_] _) _ _ _); refine dt_cmp cNe (nomark _) ?_) | ((with_reducible show DT _ (.Compare _ [.Lt] [_] _) _ _ _); refine dt_cmp op_lt (nomark _) ?_) | ((with_reducible show DT _ (.Compare _ [.LtE] [_] _) _ _ _); refine dt_cmp op_le (nomark _) ?_) | ((with_reducible show DT _ (.Compare _ [.Gt] [_] _) _ _ _); refine dt_cmp op_gt (nomark _) ?_) | ((with_reducible show DT _ (.Compare _ [.GtE] [_] _) _ _ _); refine dt_cmp op_ge (nomark _) ?_) | ((with_reducible show DT _ (.Compare _ [.Is] [_] _) _ _ _); refine dt_cmp op_uIs (nomark _) ?_) | ((with_reducible show DT _ (.Compare _ [.IsNot] [_] _) _ _ _); refine dt_cmp op_uIsn (nomark _) ?_) | ((with_reducible show DT _ (.Compare _ [.In] [_] _) _ _ _); refine dt_cmp cIn (rfl) ?_) | ((with_reducible show DT _ (.Compare _ [.NotIn] [_] _) _ _ _); refine dt_cmp cNin (rfl) ?_))) | ((with_reducible show DT _ (.Compare _ [_, _] _ _) _ _ _); (first | ((with_reducible show DT _ (.Compare _ [.LtE, .Lt] [_, _] _) _ _ _); refine dt_chain op_le op_lt ?_) | ((with_reducible show DT _ (.Compare _ [.LtE, .LtE] [_, _] _) _ _ _); refine dt_chain op_le op_le ?_))) | ((with_reducible show DT _ _ _ _ _); refine dt_tru ?_))) | ((with_reducible show DW _ _ _ _ _); (first | ((with_reducible show DW _ (.BoolOp .And [_] _) _ _ _); refine dw_and1 ?_) | ((with_reducible show DW _ (.BoolOp .Or [_] _) _ _ _); refine dw_or1 ?_) | ((with_reducible show DW _ (.BoolOp .And _ _) _ _ _); refine dw_and ?_) | ((with_reducible show DW _ (.BoolOp .Or _ _) _ _ _); refine dw_or ?_))) | ((with_reducible show DA _ _ _ _ _); (first | ((with_reducible show DA _ (.Call (.Attribute _ "row_of_sheet" _) _ _ _ :: _) _ _ _); refine da_cons (dx_frz ?_)) | ((with_reducible show DA _ (.Call (.Attribute _ "sheets" _) _ _ _ :: _) _ _ _); refine da_cons (dx_frz ?_)) | ((with_reducible show DA _ (.Call (.Attribute _ "take_off" _) _ _ _ :: _) _ _ _); refine da_cons (dx_frz ?_)) | ((with_reducible show DA _ (_ :: _) _ _ _); refine da_cons ?_) | ((with_reducible show DA _ [] _ _ _); refine da_nil ?_))) | ((with_reducible show if _ = true then _ else _); (first | (with_reducible refine ite_tt ?_) | (with_reducible refine ite_ff ?_) | (with_reducible refine ite_nt ?_) | (with_reducible refine ite_nf ?_) | ((with_reducible show if decide _ = true then _ else _); first | refine ite_dt (by (first | (with_reducible assumption) | omega | decide +kernel | ((simp only [List.length_cons, List.length_nil, List.length_map, List.length_append]); omega) | ((simp only [List.length_cons, List.length_nil, List.length_map, List.length_append]); (first | (all_goals fail) | fail)))) ?_ | refine ite_df (by (first | (with_reducible assumption) | omega | decide +kernel | ((simp only [List.length_cons, List.length_nil, List.length_map, List.length_append]); omega) | ((simp only [List.length_cons, List.length_nil, List.length_map, List.length_append]); (first | (all_goals fail) | fail)))) ?_) | ((with_reducible show if (!decide _) = true then _ else _); first | refine ite_ndf (by (first | (with_reducible assumption) | omega | decide +kernel | ((simp only [List.length_cons, List.length_nil, List.length_map, List.length_append]); omega) | ((simp only [List.length_cons, List.length_nil, List.length_map, List.length_append]); (first | (all_goals fail) | fail)))) ?_ | refine ite_ndt (by (first | (with_reducible assumption) | omega | decide +kernel | ((simp only [List.length_cons, List.length_nil, List.length_map, List.length_append]); omega) | ((simp only [List.length_cons, List.length_nil, List.length_map, List.length_append]); (first | (all_goals fail) | fail)))) ?_) | (with_reducible refine ite_nn ?_) | ((with_reducible show if PyData.eqv _ _ = true then _ else _); first | refine ite_t (by decide +kernel) ?_ | refine ite_f (by decide +kernel) ?_ | refine ite_t rfl ?_ | refine ite_f rfl ?_) | ((with_reducible show if (!PyData.eqv _ _) = true then _ else _); first | refine ite_t (by decide +kernel) ?_ | refine ite_f (by decide +kernel) ?_ | refine ite_t rfl ?_ | refine ite_f rfl ?_) | ((with_reducible show if wholeD (.int _) = true then _ else _); refine ite_t rfl ?_) | ((with_reducible show if (!wholeD (.int _)) = true then _ else _); refine ite_f rfl ?_) | ((with_reducible show if isD _ _ = true then _ else _); first | refine ite_t rfl ?_ | refine ite_f rfl ?_) | ((with_reducible show if (!isD _ _) = true then _ else _); first | refine ite_t rfl ?_ | refine ite_f rfl ?_))) | ((with_reducible show Exists _); (first | (with_reducible refine me_shelf (by ((repeat with_reducible first | exact Pick.zero | apply Pick.succ); (first | (all_goals fail) | fail))) (by decide +kernel) ?_) | ((with_reducible show ∃ i ρ', SetS _ _ _ i _ ρ' ∧ _); refine ⟨_, _, by ((repeat with_reducible first | exact SetS.zero | apply SetS.succ); (first | (all_goals fail) | fail)), ?_⟩) | (with_reducible refine ex_list rfl ?_) | ((with_reducible show ∃ ds, Sl.asSeq _ = some ds ∧ _); refine ex_seq rfl ?_) | ((with_reducible show ∃ ds, Datas _ ds ∧ _); refine ex_datas (by ((repeat with_reducible first | exact datas_nil | apply datas_cons); (first | (all_goals fail) | fail))) (by first | exact Nat.le_of_ble_eq_true rfl | (first | (with_reducible assumption) | decide | ((try simp only [List.length_cons, List.length_nil, List.length_append, List.length_map, List.length_replicate]); omega) | (refine Nat.le_trans (cutL_len _ _ _) ?_; (try simp only [List.length_cons, List.length_nil, List.length_append, List.length_map, List.length_replicate]); omega) | (refine Nat.le_trans (Nat.add_le_add_left (cutL_len _ _ _) _) ?_; (try simp only [List.length_cons, List.length_nil, List.length_append, List.length_map, List.length_replicate]); omega) | (refine Nat.le_trans (Nat.add_le_add_right (cutL_len _ _ _) _) ?_; (try simp only [List.length_cons, List.length_nil, List.length_append, List.length_map, List.length_replicate]); omega))) ?_) | ((with_reducible show ∃ C p fs g sl, _ = Sl.r (.ref p) ∧ Pick _ (insM C p fs) g ∧ FldC _ C _ ∧ FldAt fs _ sl ∧ _); refine ex_fld (by ((repeat with_reducible first | exact Pick.zero | apply Pick.succ); (first | (all_goals fail) | fail))) (fldc (by with_reducible assumption) (by decide +kernel)) (by ((repeat with_reducible first | exact FldAt.zero | apply FldAt.succ); (first | (all_goals fail) | fail))) (by (simp only [List.map_cons, List.map_nil]); decide +kernel) (by exact fun _ z => nomatch z) ?_) | ((with_reducible show ∃ C p fs g fs2, _ = Sl.r (.ref p) ∧ Pick _ (insM C p fs) g ∧ FldC _ C _ ∧ (FldSet fs _ _ fs2 ∨ _) ∧ _); first | refine ex_fset (by ((repeat with_reducible first | exact Pick.zero | apply Pick.succ); (first | (all_goals fail) | fail))) (fldc (by with_reducible assumption) (by decide +kernel)) (by ((repeat with_reducible first | exact FldSet.zero | apply FldSet.succ); (first | (all_goals fail) | fail))) (by (simp only [List.map_cons, List.map_nil]); decide +kernel) (by exact Nat.le_of_ble_eq_true rfl) ?_ | refine ex_fnew (by ((repeat with_reducible first | exact Pick.zero | apply Pick.succ); (first | (all_goals fail) | fail))) (fldc (by with_reducible assumption) (by decide +kernel)) (by (simp only [List.map_cons, List.map_nil]); decide +kernel) (by (simp only [List.map_cons, List.map_nil]); decide +kernel) (by exact Nat.le_of_ble_eq_true rfl) ?_) | ((with_reducible show ∃ p ss f k j, _ = Sl.r (.ref p) ∧ _ = Sl.d (.int k) ∧ _); refine ex_seti (by ((repeat with_reducible first | exact Pick.zero | apply Pick.succ); (first | (all_goals fail) | fail))) (by first | with_reducible assumption | rfl) ?_) | (with_reducible refine ex_frz (by ((repeat with_reducible first | exact Pick.zero | apply Pick.succ); (first | (all_goals fail) | fail))) ?_) | (with_reducible refine ex_own (by ((repeat with_reducible first | exact Pick.zero | apply Pick.succ); (first | (all_goals fail) | fail))) ?_) | (with_reducible refine ex_app (by ((repeat with_reducible first | exact Pick.zero | apply Pick.succ); (first | (all_goals fail) | fail))) (by (first | (with_reducible assumption) | decide | ((try simp only [List.length_cons, List.length_nil, List.length_append, List.length_map, List.length_replicate]); omega) | (refine Nat.le_trans (cutL_len _ _ _) ?_; (try simp only [List.length_cons, List.length_nil, List.length_append, List.length_map, List.length_replicate]); omega) | (refine Nat.le_trans (Nat.add_le_add_left (cutL_len _ _ _) _) ?_; (try simp only [List.length_cons, List.length_nil, List.length_append, List.length_map, List.length_replicate]); omega) | (refine Nat.le_trans (Nat.add_le_add_right (cutL_len _ _ _) _) ?_; (try simp only [List.length_cons, List.length_nil, List.length_append, List.length_map, List.length_replicate]); omega))) ?_) | ((with_reducible show ∃ ys, RefsE _ _ ys ∧ _); (first | refine ex_refs (w := false) (by ((repeat with_reducible first | exact RefsE.nil | apply RefsE.cons); (first | (all_goals fail) | fail))) (by decide +kernel) ?_ | refine ex_refs (w := true) (by ((repeat with_reducible first | exact RefsE.nil | apply RefsE.cons); (first | (all_goals fail) | fail))) (by decide +kernel) ?_)) | ((with_reducible show ∃ rs', Ent [_] (rs' ++ [_]) ∧ _); (refine end_ex ?_; with_reducible assumption)) | ((with_reducible show ∃ ρ', SetS _ _ _ _ _ ρ' ∧ _); refine ⟨_, by ((repeat with_reducible first | exact SetS.zero | apply SetS.succ); (first | (all_goals fail) | fail)), ?_⟩) | (with_reducible refine ex_rep (by ((repeat with_reducible first | exact Pick.zero | apply Pick.succ); (first | (all_goals fail) | fail))) (by (first | omega | decide | (simp; omega))) ?_) | (with_reducible refine ex_dat ?_) | (with_reducible refine ex_int ?_) | (with_reducible refine ex_str ?_) | (with_reducible refine ex_dic (by ((repeat with_reducible first | exact Pick.zero | apply Pick.succ); (first | (all_goals fail) | fail))) ?_) | (with_reducible refine ex_din1 (by ((repeat with_reducible first | exact Pick.zero | apply Pick.succ); (first | (all_goals fail) | fail))) ?_) | (with_reducible refine ex_din2 (by ((repeat with_reducible first | exact Pick.zero | apply Pick.succ); (first | (all_goals fail) | fail))) ?_) | (with_reducible refine ex_dlen (by ((repeat with_reducible first | exact Pick.zero | apply Pick.succ); (first | (all_goals fail) | fail))) ?_) | ((with_reducible show ∃ p kvs f k, _ = Sl.r (.ref p) ∧ _ = Sl.d (keyD k) ∧ Pick _ (dictM p kvs) f ∧ kvs.length ≤ _ ∧ _); first | refine ex_dputI (by ((repeat with_reducible first | exact Pick.zero | apply Pick.succ); (first | (all_goals fail) | fail))) (by (first | (with_reducible assumption) | decide | ((try simp only [List.length_cons, List.length_nil, List.length_append, List.length_map, List.length_replicate]); omega) | (refine Nat.le_trans (cutL_len _ _ _) ?_; (try simp only [List.length_cons, List.length_nil, List.length_append, List.length_map, List.length_replicate]); omega) | (refine Nat.le_trans (Nat.add_le_add_left (cutL_len _ _ _) _) ?_; (try simp only [List.length_cons, List.length_nil, List.length_append, List.length_map, List.length_replicate]); omega) | (refine Nat.le_trans (Nat.add_le_add_right (cutL_len _ _ _) _) ?_; (try simp only [List.length_cons, List.length_nil, List.length_append, List.length_map, List.length_replicate]); omega))) ?_ | refine ex_dputS (by ((repeat with_reducible first | exact Pick.zero | apply Pick.succ); (first | (all_goals fail) | fail))) (by (first | (with_reducible assumption) | decide | ((try simp only [List.length_cons, List.length_nil, List.length_append, List.length_map, List.length_replicate]); omega) | (refine Nat.le_trans (cutL_len _ _ _) ?_; (try simp only [List.length_cons, List.length_nil, List.length_append, List.length_map, List.length_replicate]); omega) | (refine Nat.le_trans (Nat.add_le_add_left (cutL_len _ _ _) _) ?_; (try simp only [List.length_cons, List.length_nil, List.length_append, List.length_map, List.length_replicate]); omega) | (refine Nat.le_trans (Nat.add_le_add_right (cutL_len _ _ _) _) ?_; (try simp only [List.length_cons, List.length_nil, List.length_append, List.length_map, List.length_replicate]); omega))) ?_) | ((with_reducible show ∃ p kvs f k, _ = Sl.r (.ref p) ∧ _ = Sl.d (keyD k) ∧ Pick _ (dictM p kvs) f ∧ _); first | refine ex_din1 (by ((repeat with_reducible first | exact Pick.zero | apply Pick.succ); (first | (all_goals fail) | fail))) ?_ | refine ex_din2 (by ((repeat with_reducible first | exact Pick.zero | apply Pick.succ); (first | (all_goals fail) | fail))) ?_) | ((with_reducible show ∃ kvs f k s, _ = Sl.d (keyD k) ∧ Pick _ (dictM _ kvs) f ∧ valS kvs k = some s ∧ _); first | refine ex_dpopI (by ((repeat with_reducible first | exact Pick.zero | apply Pick.succ); (first | (all_goals fail) | fail))) (by with_reducible assumption) (by exact fun _ z => nomatch z) ?_ | refine ex_dpopS (by ((repeat with_reducible first | exact Pick.zero | apply Pick.succ); (first | (all_goals fail) | fail))) (by with_reducible assumption) (by exact fun _ z => nomatch z) ?_) | ((with_reducible show ∃ p kvs f k s, _ = Sl.r (.ref p) ∧ _ = Sl.d (keyD k) ∧ Pick _ (dictM p kvs) f ∧ _); first | refine ex_dget (by ((repeat with_reducible first | exact Pick.zero | apply Pick.succ); (first | (all_goals fail) | fail))) (by with_reducible assumption) (by exact fun _ z => nomatch z) ?_ | refine ex_dgetS (by ((repeat with_reducible first | exact Pick.zero | apply Pick.succ); (first | (all_goals fail) | fail))) (by with_reducible assumption) (by exact fun _ z => nomatch z) ?_))) | (first | (with_reducible refine kt ?_) | ((with_reducible show ∀ _ : Addr, _); intro q) | ((with_reducible show Le _ _ ∧ _ = _); exact ⟨by ((repeat with_reducible first | exact Le.nil | apply Le.eq | apply Le.un); (first | (all_goals fail) | fail)), rfl⟩) | ((with_reducible show CallEnd _ _ _ _ _ _); (first | ((with_reducible refine ce_shelf (by ((repeat with_reducible first | exact Pick.zero | apply Pick.succ); (first | (all_goals fail) | fail))) ?_); (first | refine ⟨_, rfl, rfl, by (first | (with_reducible trivial) | (with_reducible assumption) | omega | (exact ⟨by with_reducible assumption, by with_reducible assumption⟩)), ?_⟩ | refine ⟨_, _, rfl, rfl, by (first | (with_reducible trivial) | (with_reducible assumption) | omega | (exact ⟨by with_reducible assumption, by with_reducible assumption⟩)), ?_⟩ | refine ⟨_, _, _, rfl, rfl, by (first | (with_reducible trivial) | (with_reducible assumption) | omega | (exact ⟨by with_reducible assumption, by with_reducible assumption⟩)), ?_⟩ | refine ⟨_, _, _, _, rfl, rfl, by (first | (with_reducible trivial) | (with_reducible assumption) | omega | (exact ⟨by with_reducible assumption, by with_reducible assumption⟩)), ?_⟩ | refine ⟨_, _, _, _, _, rfl, rfl, by (first | (with_reducible trivial) | (with_reducible assumption) | omega | (exact ⟨by with_reducible assumption, by with_reducible assumption⟩)), ?_⟩ | refine ⟨_, _, _, _, _, _, rfl, rfl, by (first | (with_reducible trivial) | (with_reducible assumption) | omega | (exact ⟨by with_reducible assumption, by with_reducible assumption⟩)), ?_⟩ | refine ⟨_, _, _, _, _, _, _, rfl, rfl, by (first | (with_reducible trivial) | (with_reducible assumption) | omega | (exact ⟨by with_reducible assumption, by with_reducible assumption⟩)), ?_⟩ | refine ⟨_, _, _, _, _, _, _, _, rfl, rfl, by (first | (with_reducible trivial) | (with_reducible assumption) | omega | (exact ⟨by with_reducible assumption, by with_reducible assumption⟩)), ?_⟩)) | (refine ce_inl ?_; first | refine ⟨_, rfl, rfl, by (first | (with_reducible trivial) | (with_reducible assumption) | omega | (exact ⟨by with_reducible assumption, by with_reducible assumption⟩)), ?_⟩ | refine ⟨_, _, rfl, rfl, by (first | (with_reducible trivial) | (with_reducible assumption) | omega | (exact ⟨by with_reducible assumption, by with_reducible assumption⟩)), ?_⟩ | refine ⟨_, _, _, rfl, rfl, by (first | (with_reducible trivial) | (with_reducible assumption) | omega | (exact ⟨by with_reducible assumption, by with_reducible assumption⟩)), ?_⟩ | refine ⟨_, _, _, _, rfl, rfl, by (first | (with_reducible trivial) | (with_reducible assumption) | omega | (exact ⟨by with_reducible assumption, by with_reducible assumption⟩)), ?_⟩ | refine ⟨_, _, _, _, _, rfl, rfl, by (first | (with_reducible trivial) | (with_reducible assumption) | omega | (exact ⟨by with_reducible assumption, by with_reducible assumption⟩)), ?_⟩ | refine ⟨_, _, _, _, _, _, rfl, rfl, by (first | (with_reducible trivial) | (with_reducible assumption) | omega | (exact ⟨by with_reducible assumption, by with_reducible assumption⟩)), ?_⟩))) | ((with_reducible show CallEnd0 _ _ _ _); (first | ((with_reducible refine ce0_shelf (by ((repeat with_reducible first | exact Pick.zero | apply Pick.succ); (first | (all_goals fail) | fail))) ?_); (first | refine ⟨_, rfl, rfl, by (first | (with_reducible trivial) | (with_reducible assumption) | omega | (exact ⟨by with_reducible assumption, by with_reducible assumption⟩)), ?_⟩ | refine ⟨_, _, rfl, rfl, by (first | (with_reducible trivial) | (with_reducible assumption) | omega | (exact ⟨by with_reducible assumption, by with_reducible assumption⟩)), ?_⟩ | refine ⟨_, _, _, rfl, rfl, by (first | (with_reducible trivial) | (with_reducible assumption) | omega | (exact ⟨by with_reducible assumption, by with_reducible assumption⟩)), ?_⟩ | refine ⟨_, _, _, _, rfl, rfl, by (first | (with_reducible trivial) | (with_reducible assumption) | omega | (exact ⟨by with_reducible assumption, by with_reducible assumption⟩)), ?_⟩ | refine ⟨_, _, _, _, _, rfl, rfl, by (first | (with_reducible trivial) | (with_reducible assumption) | omega | (exact ⟨by with_reducible assumption, by with_reducible assumption⟩)), ?_⟩ | refine ⟨_, _, _, _, _, _, rfl, rfl, by (first | (with_reducible trivial) | (with_reducible assumption) | omega | (exact ⟨by with_reducible assumption, by with_reducible assumption⟩)), ?_⟩ | refine ⟨_, _, _, _, _, _, _, rfl, rfl, by (first | (with_reducible trivial) | (with_reducible assumption) | omega | (exact ⟨by with_reducible assumption, by with_reducible assumption⟩)), ?_⟩ | refine ⟨_, _, _, _, _, _, _, _, rfl, rfl, by (first | (with_reducible trivial) | (with_reducible assumption) | omega | (exact ⟨by with_reducible assumption, by with_reducible assumption⟩)), ?_⟩)))) | ((with_reducible show (bodyPost _ _).rt _ _); (first | (refine end_rt ?_; with_reducible assumption) | refine end_rtT (decide_eq_true (by omega)) (by with_reducible assumption) | refine end_rtT rfl (by with_reducible assumption))) | ((with_reducible show TrD (.d (.bool _)) _ _); refine tr_bool ?_) | ((with_reducible show TrD (.d .none) _ _); refine tr_none ?_) | ((with_reducible show TrD (.d (.int _)) _ _); refine tr_int ?_) | ((with_reducible show TrD (.d (.list _)) _ _); refine tr_list ?_) | ((with_reducible show TrD (.d (.tuple _)) _ _); refine tr_tuple ?_) | ((with_reducible show TrD (.r (.ref _)) _ _); (first | refine tr_own (by ((repeat with_reducible first | exact Pick.zero | apply Pick.succ); (first | (all_goals fail) | fail))) ?_ | refine tr_dict (by ((repeat with_reducible first | exact Pick.zero | apply Pick.succ); (first | (all_goals fail) | fail))) ?_)) | ((with_reducible show CaD (rIsi _) _ _ _); (first | refine cd_isiT (by decide) rfl rfl ?_ | refine cd_isiF (by decide) rfl rfl ?_ | refine cd_isi (by decide) rfl ?_)) | ((with_reducible show CaD _ [.d (.int _), .d (.int _)] _ _); (first | refine cd_min ?_ | refine cd_max ?_)) | ((with_reducible show LenD (.d (.str _)) _ _); refine ld_str (by (first | (with_reducible assumption) | decide | ((try simp only [List.length_cons, List.length_nil, List.length_append, List.length_map, List.length_replicate]); omega) | (refine Nat.le_trans (cutL_len _ _ _) ?_; (try simp only [List.length_cons, List.length_nil, List.length_append, List.length_map, List.length_replicate]); omega) | (refine Nat.le_trans (Nat.add_le_add_left (cutL_len _ _ _) _) ?_; (try simp only [List.length_cons, List.length_nil, List.length_append, List.length_map, List.length_replicate]); omega) | (refine Nat.le_trans (Nat.add_le_add_right (cutL_len _ _ _) _) ?_; (try simp only [List.length_cons, List.length_nil, List.length_append, List.length_map, List.length_replicate]); omega))) ?_) | ((with_reducible show LenD (.r (.ref _)) _ _); refine ld_own (by ((repeat with_reducible first | exact Pick.zero | apply Pick.succ); (first | (all_goals fail) | fail))) ?_) | ((with_reducible show LenD _ _ _); refine ld_seq rfl ?_) | ((with_reducible show SlD _ (.d (.list _)) _ _ _ _); refine sd_list ?_) | ((with_reducible show SlD _ (.n _) _ _ _ _); refine sd_list ?_) | ((with_reducible show SlD _ (.r (.ref _)) _ _ _ _); refine sd_own (by ((repeat with_reducible first | exact Pick.zero | apply Pick.succ); (first | (all_goals fail) | fail))) (fun q => ?_)) | ((with_reducible show SlD _ (.d (.str _)) _ _ _ _); refine sd_str (by (first | (with_reducible assumption) | decide | ((try simp only [List.length_cons, List.length_nil, List.length_append, List.length_map, List.length_replicate]); omega) | (refine Nat.le_trans (cutL_len _ _ _) ?_; (try simp only [List.length_cons, List.length_nil, List.length_append, List.length_map, List.length_replicate]); omega) | (refine Nat.le_trans (Nat.add_le_add_left (cutL_len _ _ _) _) ?_; (try simp only [List.length_cons, List.length_nil, List.length_append, List.length_map, List.length_replicate]); omega) | (refine Nat.le_trans (Nat.add_le_add_right (cutL_len _ _ _) _) ?_; (try simp only [List.length_cons, List.length_nil, List.length_append, List.length_map, List.length_replicate]); omega))) ?_) | ((with_reducible show SlD _ (.d (.tuple [_, _, _, _])) none (some 2) _ _); refine sd_t42 ?_) | ((with_reducible show SlD _ (.d (.tuple [_, _, _, _, _, _])) (some 2) (some 5) _ _); refine sd_t625 ?_) | ((with_reducible show SlD _ (.d (.tuple [_, _, _, _])) (some 2) none _ _); refine sd_t4f2 ?_) | ((with_reducible show SlD _ (.d (.tuple _)) _ _ _ _); refine sd_tup (by first | decide | ((simp only [List.length_cons, List.length_nil]); decide +kernel)) ?_) | ((with_reducible show DO _ none _ _ _); refine do_none ?_) | ((with_reducible show DO _ (some _) _ _ _); refine do_some ?_) | (with_reducible refine ex_eqr ?_) | ((with_reducible show LsD _ _ _); first | refine ls_s (by (first | (with_reducible assumption) | decide | ((try simp only [List.length_cons, List.length_nil, List.length_append, List.length_map, List.length_replicate]); omega) | (refine Nat.le_trans (cutL_len _ _ _) ?_; (try simp only [List.length_cons, List.length_nil, List.length_append, List.length_map, List.length_replicate]); omega) | (refine Nat.le_trans (Nat.add_le_add_left (cutL_len _ _ _) _) ?_; (try simp only [List.length_cons, List.length_nil, List.length_append, List.length_map, List.length_replicate]); omega) | (refine Nat.le_trans (Nat.add_le_add_right (cutL_len _ _ _) _) ?_; (try simp only [List.length_cons, List.length_nil, List.length_append, List.length_map, List.length_replicate]); omega))) ?_ | refine ls_d rfl ?_) | ((with_reducible show LiD _ _ _); first | refine li_o (by ((repeat with_reducible first | exact Pick.zero | apply Pick.succ); (first | (all_goals fail) | fail))) (fun q => ?_) | refine li_d rfl (fun q => ?_)) | ((with_reducible show _ < 1920 ∧ _); refine ⟨log2_ok (by (first | omega | decide | (simp; omega))), ?_⟩) | ((with_reducible show CaD (rIsE _ _ _) [_, .r (.ty _)] _ _); refine cd_isEV (by with_reducible assumption) (by decide +kernel) ?_) | ((with_reducible show CaD (rIsE _ _ _) _ _ _); (first | refine cd_isE1 (r := true) (by with_reducible assumption) (by decide +kernel) (by decide +kernel) (by decide +kernel) ?_ | refine cd_isE1 (r := false) (by with_reducible assumption) (by decide +kernel) (by decide +kernel) (by decide +kernel) ?_)))) | dsimp only [List.nil_append, List.cons_append, Sl.plain] | refine ite_d (fun h => ?_) (fun h => ?_) | refine ite_nd (fun h => ?_) (fun h => ?_) | refine ite_b (fun h => ?_) (fun h => ?_) | refine od_ixI rfl ⟨by omega, by (simp only [List.length_cons, List.length_nil]; omega)⟩ rfl (fun i => ?_) | refine od_ixA rfl ⟨by omega, by (simp only [List.length_cons, List.length_nil]; omega)⟩ (fun d hd => ?_) | intro z)))
local macro_rules | `(tactic| walk_at "nrm") => `(tactic| (dsimp only [List.replicate, List.cons_append, List.nil_append, List.append_nil]))
local macro_rules | `(tactic| walk_at "st") => `(tactic| ((try dsimp only [List.replicate, List.cons_append, List.nil_append, List.append_nil]); refine dss_cons ?_))
local macro_rules | `(tactic| walk_at "end") => `(tactic| (first | (with_reducible exact ⟨[], rfl, by assumption⟩) | exact ⟨[], rfl, by assumption⟩))
local macro_rules | `(tactic| walk_at "all") => `(tactic| (walk_at "st"; walk_at "go"; walk_at "end"))

section
variable [KC] {m : Mo} {C : Addr} {E : Str → Addr}
theorem mem_cut {x : Int} {r : List Int} {a b : Option Int} (h : x ∈ cutL r a b) : x ∈ r := by
  unfold cutL at h
  exact List.mem_of_mem_drop (List.mem_of_mem_take h)
def begS (c : Int) (k n : Nat) : List (Option Int) := (List.range n).map fun j : Nat => if j < k then some (1 + (j : Int) + c) else none
theorem begS_at (c : Int) (k : Nat) {n j : Nat} (h : j < n) : (begS c k n)[j]? = some (if j < k then some (1 + (j : Int) + c) else none) := by
  unfold begS
  rw [List.getElem?_map, List.getElem?_range h]; rfl
theorem begS_len (c : Int) (k n : Nat) : (begS c k n).length = n := by unfold begS; rw [List.length_map, List.length_range]
theorem begS_0 (c : Int) (n : Nat) : begS c 0 n = List.replicate n none := List.ext_getElem? fun j => by
  by_cases hj : j < n
  · rw [begS_at c 0 hj, if_neg (Nat.not_lt_zero _), List.getElem?_replicate, if_pos hj]
  · rw [List.getElem?_eq_none (by rw [begS_len]; omega), List.getElem?_eq_none (by rw [List.length_replicate]; omega)]
theorem begS_set (c : Int) {k n : Nat} (h : k < n) : (begS c k n).set k (some (1 + (k : Int) + c)) = begS c (k + 1) n := List.ext_getElem? fun j => by
  rw [List.getElem?_set]
  by_cases hj : j < n
  · rw [begS_at c k hj, begS_at c (k + 1) hj]
    by_cases e : k = j
    · subst e
      rw [if_pos rfl, if_pos (by rw [begS_len]; exact h), if_pos (Nat.lt_succ_self _)]
    · rw [if_neg e]
      by_cases e2 : j < k
      · rw [if_pos e2, if_pos (by omega)]
      · rw [if_neg e2, if_neg (by omega)]
  · rw [if_neg (by omega), List.getElem?_eq_none (by rw [begS_len]; omega), List.getElem?_eq_none (by rw [begS_len]; omega)]
theorem begS_first (c : Int) {k n k2 : Nat} (h : k < n) (h1 : (begS c k n)[k2]? = some none) (h2 : ∀ j, j < k2 → (begS c k n)[j]? ≠ some none) : k2 = k := by
  have hk2 : k2 < n := by
    have := (List.getElem?_eq_some_iff.mp h1).choose
    rwa [begS_len] at this
  rw [begS_at c k hk2] at h1
  rcases Nat.lt_trichotomy k2 k with z | z | z
  · rw [if_pos z] at h1; cases h1
  · exact z
  · exact absurd (by rw [begS_at c k h, if_neg (Nat.lt_irrefl _)]) (h2 k z)
abbrev allM (C p q w h : Addr) (sh : List (Option Int)) (rw : List Srow) (hs : List (List PyData)) (pb : Addr) (b : Int) (r0 : List Int) (fr : Mem) : List Mem := [shelfM C p sh rw, spM q sh, pdM w rw, heM h hs, shelfM C pb [some b] [(b, r0)], fr]
theorem ok_law (hK : m.K = KC.K) (bl : Bl m.mg) {f fd} (F : Fun m.K "law" "law" s_law f fd) (oc : ObjC m C ["my_sheets", "my_rows"]) (hmk : MkIs m "Shelf" C 1 (K_Shelf___init__ C)) (hc1 : MtIs m C "put_on" 1 (K_Shelf_put_on C E)) (hc2 : MtIs m C "row_of_sheet" 1 (K_Shelf_row_of_sheet C)) (hc3 : MtIs m C "sheets" 1 (K_Shelf_sheets C)) (hc4 : MtIs m C "is_full" 1 (K_Shelf_is_full C)) (hc5 : MtIs m C "take_off" 1 (K_Shelf_take_off C))
    (h1 : FnIs m "_law_cell_at" 1 K_Lcell_at) (h2 : FnIs m "_law_alike" 4 (K_Lalike 2)) (h3 : FnIs m "_law_row" 2 K_Lrow) (h4 : FnIs m "_law_put" 5 (K_Lput C)) (h5 : FnIs m "_law_deed" 6 (K_Ldeed C)) (h6 : FnIs m "_law_is_shelf" 5 (K_Lis_shelf C)) :
    FnOk m.P m.w m.K m.mg m.base (L2.CX m.P m.w) 7 f fd ["_law_script"] (spC lawCB) := by
  refine fn_ok F f_law e_law bl hK (by rintro _ _ _ _ ⟨_, rfl, _⟩; rfl) 14 rfl ?_
  rintro ss rin fr res exc c hC
  obtain ⟨ns, rfl, rfl, ⟨hl, hb⟩, hr⟩ := hC
  have hbm := bm_big
  walk_at "nrm"
  refine dss_cut (I := fun ρ' r' => ∃ fi : Int, ρ' = [.d (.list (ns.map .int)), .d (.int fi), .un, .un, .un, .un, .un, .un, .un, .un, .un, .un, .un, .un, .un] ∧ r' = [fr]) ?_ ?_
  · walk_at "go"
    exact ⟨_, rfl, rfl⟩
  rintro _ _ ⟨fi, rfl, rfl⟩
  refine dss_cut (I := fun ρ' r' => ∃ se : Int, ρ' = [.d (.list (ns.map .int)), .d (.int fi), .d (.int se), .un, .un, .un, .un, .un, .un, .un, .un, .un, .un, .un, .un] ∧ r' = [fr]) ?_ ?_
  · walk_at "go"
    exact ⟨_, rfl, rfl⟩
  rintro _ _ ⟨se, rfl, rfl⟩
  refine dss_cut (I := fun ρ' r' => ∃ my : Nat, my ≤ 512 ∧ ρ' = [.d (.list (ns.map .int)), .d (.int fi), .d (.int se), .d (.int my), .un, .un, .un, .un, .un, .un, .un, .un, .un, .un, .un] ∧ r' = [fr]) ?_ ?_
  · walk_at "go"
    exact ⟨(fi / 4 % 7).toNat, by omega, by rw [Int.toNat_of_nonneg (by omega)], rfl⟩
  rintro _ _ ⟨my0, hmy0, rfl, rfl⟩
  refine dss_cut (I := fun ρ' r' => ∃ my : Nat, my ≤ 512 ∧ ρ' = [.d (.list (ns.map .int)), .d (.int fi), .d (.int se), .d (.int my), .un, .un, .un, .un, .un, .un, .un, .un, .un, .un, .un] ∧ r' = [fr]) ?_ ?_
  · walk_at "go"
    refine ite_d (fun h => ?_) (fun h => ?_)
    · walk_at "go"
      exact ⟨(fi / 4 % 513).toNat, by omega, by rw [Int.toNat_of_nonneg (by omega)], rfl⟩
    · walk_at "go"
      exact ⟨_, hmy0, rfl, rfl⟩
  rintro _ _ ⟨n, hn, rfl, rfl⟩
  refine dss_cut (I := fun ρ' r' => ∃ b : Int, (0 ≤ b ∧ b ≤ n) ∧ ρ' = [.d (.list (ns.map .int)), .d (.int fi), .d (.int se), .d (.int n), .d (.int b), .un, .un, .un, .un, .un, .un, .un, .un, .un, .un] ∧ r' = [fr]) ?_ ?_
  · walk_at "go"
    have e1 := Int.emod_nonneg (se / 4) (show (n : Int) + 1 ≠ 0 by omega)
    have e2 := Int.emod_lt_of_pos (se / 4) (show 0 < (n : Int) + 1 by omega)
    exact ⟨_, by omega, rfl, rfl⟩
  rintro _ _ ⟨b0, hb0, rfl, rfl⟩
  refine dss_cut (I := fun ρ' r' => ∃ b : Int, (0 ≤ b ∧ b ≤ n) ∧ ρ' = [.d (.list (ns.map .int)), .d (.int fi), .d (.int se), .d (.int n), .d (.int b), .un, .un, .un, .un, .un, .un, .un, .un, .un, .un] ∧ r' = [fr]) ?_ ?_
  · walk_at "go"
    refine ite_d (fun h => ?_) (fun h => ?_)
    · walk_at "go"
      exact ⟨_, by omega, rfl, rfl⟩
    · walk_at "go"
      exact ⟨_, hb0, rfl, rfl⟩
  rintro _ _ ⟨b1, hb1, rfl, rfl⟩
  refine dss_cut (I := fun ρ' r' => ∃ b : Nat, b ≤ n ∧ ρ' = [.d (.list (ns.map .int)), .d (.int fi), .d (.int se), .d (.int n), .d (.int b), .un, .un, .un, .un, .un, .un, .un, .un, .un, .un] ∧ r' = [fr]) ?_ ?_
  · walk_at "go"
    refine ite_d (fun h => ?_) (fun h => ?_)
    · walk_at "go"
      exact ⟨(if 24 < b1 then 24 else b1).toNat, by split <;> omega, by rw [Int.toNat_of_nonneg (by split <;> omega)], rfl⟩
    · walk_at "go"
      exact ⟨b1.toNat, by omega, by rw [Int.toNat_of_nonneg (by omega)], rfl⟩
  rintro _ _ ⟨b, hbn, rfl, rfl⟩
  have c1 : 0 ≤ (1 : Int) ∧ (1 : Int) ≤ 1000 := by decide
  have c2 : 0 ≤ (n : Int) ∧ (n : Int) ≤ 1000 := by omega
  have a0 : AlikeOk 2 (.int 0) := .int _ _
  walk_at "go"
  rename_i pb
  refine ⟨pb, 1, rfl, rfl, c1, rfl, ?_⟩
  walk_at "go"
  have hs1 : ShOk [(none : Option Int)] [] := ⟨by decide, by simp, by decide⟩
  rw [show List.replicate (Int.toNat 1) (none : Option Int) = [none] from rfl]
  refine ce_shelf (by walk_at "pick") ⟨pb, [none], [], 1 + fi % 9, [fi % 7, 2, 3, 4], rfl, rfl, ⟨hs1, by simp⟩, fun k hk hkn => ?_, fun z => absurd (List.mem_singleton.mpr rfl) z⟩
  have ek : k = 0 := by
    have := (List.getElem?_eq_some_iff.mp hk).choose
    simpa using this
  subst ek
  dsimp only [List.nil_append, List.cons_append]
  walk_at "go"
  rename_i p
  refine ⟨p, n, rfl, rfl, c2, rfl, ?_⟩
  walk_at "go"
  rename_i q w
  refine ds_set (dx_lstO (da_nil ⟨by decide, fun h => ⟨_, _, by walk_at "set", ?_⟩⟩))
  rw [Int.toNat_natCast, show List.replicate n (Sl.d PyData.none) = ((List.replicate n (none : Option Int)).map oS).map .d by rw [List.map_replicate, List.map_replicate]; rfl]
  have hv0 : Sv (List.replicate n (none : Option Int)) [] := ⟨⟨by rw [List.length_replicate]; omega, by simp, by decide⟩, fun s hs => (by simp at hs), fun x hx => (by simp at hx)⟩
  rw [show dictM w [] = pdM w [] from rfl, show lstM h [] = heM h [] from rfl, show ([none] : List (Option Int)).set 0 (some (1 + fi % 9)) = [some (1 + fi % 9)] from rfl]
  refine dss_ent (rs2 := (allM C p q w h (List.replicate n none) [] [] pb (1 + fi % 9) [fi % 7, 2, 3, 4] fr)) (ent_has (by walk_at "grab")) ?_
  refine dss_cut (I := fun ρ' r' => ∃ hs : List (List PyData), hs.length ≤ 1 ∧ (∀ l ∈ hs, SeqAt.shaped (.list l) = true) ∧ ρ' = [.d (.list (ns.map .int)), .d (.int fi), .d (.int se), .d (.int n), .d (.int b), .r (.ref pb), .r (.ref p), .r (.ref q), .r (.ref w), .r (.ref h), .un, .un, .un, .un, .un] ∧ r' = (allM C p q w h (List.replicate n none) [] hs pb (1 + fi % 9) [fi % 7, 2, 3, 4] fr)) ?_ ?_
  · walk_at "go"
    refine ce_gr (rin := [shelfM C p (List.replicate n none) [], spM q (List.replicate n none), pdM w [], heM h []]) (.cons (by walk_at "pick") (grab3 (by walk_at "pick2") (by walk_at "pick2") (by walk_at "pick2"))) ⟨p, q, w, h, List.replicate n none, [], 0, [], rfl, rfl, ⟨hv0, by decide⟩, ?_, fun l hl2 => ?_⟩
    · dsimp only [List.nil_append, List.cons_append]
      walk_at "go"
      exact ⟨[], Nat.zero_le _, fun l hl2 => (by cases hl2), rfl, rfl⟩
    · dsimp only [List.nil_append, List.cons_append]
      walk_at "go"
      exact ⟨[l], Nat.le_refl _, fun l2 hl3 => by rw [List.mem_singleton.mp hl3]; exact hl2, rfl, rfl⟩
  rintro _ _ ⟨hs, hhs, hsh, rfl, rfl⟩
  generalize hcc : se % 2 * 100000000000000000000 = cc
  refine dss_cons (ds_for (by walk_at "ix") (di_range1 ?_))
  walk_at "go"
  refine ⟨_, rfl, by omega, Nat, List.range _, fun k => .d (.int (0 + (k : Nat))), rfl, Nat × List Srow, fun _ => [.d (.list (ns.map .int)), .d (.int fi), .d (.int se), .d (.int n), .d (.int b), .r (.ref pb), .r (.ref p), .r (.ref q), .r (.ref w), .r (.ref h), .un, .un, .un, .un, .un], fun z => (allM C p q w h (begS cc z.1 n) z.2 hs pb (1 + fi % 9) [fi % 7, 2, 3, 4] fr), fun pre z => z.1 = pre.length ∧ Sv (begS cc z.1 n) z.2 ∧ z.2.map (·.1) = (List.range z.1).map (fun j : Nat => 1 + (j : Int) + cc),
    ⟨(0, []), ⟨rfl, by dsimp only; rw [begS_0]; exact hv0, rfl⟩, by walk_at "le0", by dsimp only; rw [begS_0]⟩, fun _ _ _ => trivial, ?_, ?_⟩
  · rintro pre k post ⟨k0, rw0⟩ e ⟨rfl, hv, hkeys⟩
    obtain ⟨rfl, hk⟩ := range_split e
    dsimp only at hv hkeys ⊢
    have hlr := congrArg List.length hkeys
    rw [List.length_map, List.length_map, List.length_range] at hlr
    have hkn : pre.length < n := by omega
    have hs9 : 1 + (pre.length : Int) + cc ∉ rw0.map (·.1) := by
      rw [hkeys]
      intro z
      obtain ⟨j, hj, e⟩ := List.mem_map.mp z
      rw [List.mem_range] at hj
      omega
    have hcr : -(4 * BM) ≤ se % 997 + (0 + (pre.length : Int)) ∧ se % 997 + (0 + (pre.length : Int)) ≤ 4 * BM := by omega
    refine ⟨_, by walk_at "set", dss_post ?_⟩
    walk_at "go"
    rw [hcc, Int.zero_add]
    refine ce_gr (rin := [shelfM C p (begS cc pre.length n) rw0, spM q (begS cc pre.length n), pdM w rw0]) (grab3 (by walk_at "pick") (by walk_at "pick2") (by walk_at "pick2")) ⟨p, q, w, begS cc pre.length n, rw0, 1 + (pre.length : Int) + cc, _, rfl, rfl, ⟨hv.ok, hs9, List.mem_iff_getElem?.mpr ⟨pre.length, by rw [begS_at cc _ hkn, if_neg (Nat.lt_irrefl _)]⟩, rfl⟩, fun k2 hk2 hkn2 => ?_⟩
    have ek := begS_first cc hkn hk2 hkn2
    subst ek
    have hv2 := hv.put (r := lrow (se % 997 + (pre.length : Int))) hk2 hs9 rfl (by omega)
    rw [begS_set cc hkn] at hv2 ⊢
    dsimp only [List.nil_append, List.cons_append]
    walk_at "go"
    exact ⟨(allM C p q w h (begS cc (pre.length + 1) n) (rw0 ++ [(1 + (pre.length : Int) + cc, lrow (se % 997 + (pre.length : Int)))]) hs pb (1 + fi % 9) [fi % 7, 2, 3, 4] fr), ent_has (by walk_at "grab"), (pre.length + 1, _), ⟨by rw [List.length_append]; rfl, hv2, by dsimp only; rw [List.map_append, hkeys, List.range_succ, List.map_append]; rfl⟩, by walk_at "le", rfl⟩
  · rintro ⟨k0, rw0⟩ ⟨rfl, hv, hkeys⟩
    rw [List.length_range, Int.toNat_natCast] at hv hkeys ⊢
    dsimp only at hv hkeys ⊢
    have hlr := congrArg List.length hkeys
    rw [List.length_map, List.length_map, List.length_range] at hlr
    have hls := begS_len cc b n
    generalize begS cc b n = sh0 at hv hls ⊢
    refine dss_cons (ds_for (by walk_at "ix") (di_list ?_))
    walk_at "go"
    refine ⟨Int, cutL ns (some 2) (some 80), fun n => .d (.int n), by rw [cutL_map, List.map_map]; rfl, Nat × List (Option Int) × List Srow × List (List PyData), fun _ => [.d (.list (ns.map .int)), .d (.int fi), .d (.int se), .d (.int n), .d (.int b), .r (.ref pb), .r (.ref p), .r (.ref q), .r (.ref w), .r (.ref h), .un, .un, .un, .un, .un], fun z => (allM C p q w h z.2.1 z.2.2.1 z.2.2.2 pb (1 + fi % 9) [fi % 7, 2, 3, 4] fr),
      fun pre z => Sv z.2.1 z.2.2.1 ∧ z.2.1.length = n ∧ z.2.2.1.length ≤ 512 + pre.length ∧ z.2.2.2.length ≤ 1 + pre.length ∧ ∀ l ∈ z.2.2.2, SeqAt.shaped (.list l) = true,
      ⟨(0, sh0, rw0, hs), ⟨hv, hls, by dsimp only; omega, hhs, hsh⟩, by walk_at "le0", rfl⟩, fun _ _ _ => trivial, ?_, ?_⟩
    · rintro pre z post ⟨k0, sh, rw1, hs1⟩ e ⟨hv, hls, hlr, hhl, hsh⟩
      dsimp only at hv hls hlr hhl hsh ⊢
      have hlen := congrArg List.length e
      rw [List.length_append, List.length_cons] at hlen
      have hcut := cutL_len ns (some 2) (some 80)
      have hz : -BM ≤ z ∧ z ≤ BM := hb z (mem_cut (by rw [e]; simp))
      refine ⟨_, by walk_at "set", dss_post ?_⟩
      walk_at "go"
      refine ce_gr (rin := [shelfM C p sh rw1, spM q sh, pdM w rw1]) (grab3 (by walk_at "pick") (by walk_at "pick2") (by walk_at "pick2")) ⟨p, q, w, sh, rw1, z, rfl, rfl, ⟨hv, by omega, hz⟩, fun sh2 rw2 hv2 hl2 hr2 => ?_⟩
      dsimp only [List.nil_append, List.cons_append]
      walk_at "go"
      refine ce_gr (rin := [shelfM C p sh2 rw2, spM q sh2, pdM w rw2, heM h hs1]) (.cons (by walk_at "pick") (grab3 (by walk_at "pick2") (by walk_at "pick2") (by walk_at "pick2"))) ⟨p, q, w, h, sh2, rw2, z / 3, hs1, rfl, rfl, ⟨hv2, by omega⟩, ?_, fun l hl2 => ?_⟩
      · dsimp only [List.nil_append, List.cons_append]
        walk_at "go"
        exact ⟨(allM C p q w h sh2 rw2 hs1 pb (1 + fi % 9) [fi % 7, 2, 3, 4] fr), ent_has (by walk_at "grab"), (0, sh2, rw2, hs1), ⟨hv2, by dsimp only; omega, by rw [List.length_append]; dsimp only [List.length_cons, List.length_nil]; omega, by rw [List.length_append]; dsimp only; omega, hsh⟩, by walk_at "le", rfl⟩
      · dsimp only [List.nil_append, List.cons_append]
        walk_at "go"
        exact ⟨(allM C p q w h sh2 rw2 (hs1 ++ [l]) pb (1 + fi % 9) [fi % 7, 2, 3, 4] fr), ent_has (by walk_at "grab"), (0, sh2, rw2, hs1 ++ [l]), ⟨hv2, by dsimp only; omega, by rw [List.length_append]; dsimp only [List.length_cons, List.length_nil]; omega, by rw [List.length_append, List.length_append]; dsimp only [List.length_cons, List.length_nil]; omega, fun l2 hl3 => by
          rcases List.mem_append.mp hl3 with h | h
          · exact hsh l2 h
          · rw [List.mem_singleton.mp h]; exact hl2⟩, by walk_at "le", rfl⟩
    · rintro ⟨k0, sh, rw1, hs1⟩ ⟨hv, hls, hlr, hhl, hsh⟩
      dsimp only at hv hls hlr hhl hsh ⊢
      have ho := hv.ok
      refine dss_cons (ds_for (by walk_at "ix") (di_list ?_))
      walk_at "go"
      refine ⟨Srow, rw1, fun x => .d (.int x.1), by rw [List.map_map, List.map_map]; rfl, ?_⟩
      refine for_un (ρ0 := [.d (.list (ns.map .int)), .d (.int fi), .d (.int se), .d (.int n), .d (.int b), .r (.ref pb), .r (.ref p), .r (.ref q), .r (.ref w), .r (.ref h), .un, .un, .un, .un, .un]) (by walk_at "le") trivial ?_ fun x hx => ⟨_, by walk_at "set", dss_post ?_⟩
      · show DSs _ _ _ _ _
        refine dss_cons (ds_for2 (by walk_at "ix") (by walk_at "ix") (di_own ?_))
        walk_at "go"
        refine ⟨List PyData, hs1, fun l => .list l, fun l => .list l, by rw [List.map_map]; rfl, ?_⟩
        refine ⟨Unit, fun _ => [.d (.list (ns.map .int)), .d (.int fi), .d (.int se), .d (.int n), .d (.int b), .r (.ref pb), .r (.ref p), .r (.ref q), .r (.ref w), .r (.ref h), .un, .un, .un, .un, .un], fun _ => (allM C p q w h sh rw1 hs1 pb (1 + fi % 9) [fi % 7, 2, 3, 4] fr), fun _ _ => True, ⟨(), trivial, by walk_at "le0", rfl⟩, fun _ _ _ => ⟨_, by walk_at "pick"⟩, ?_, ?_⟩
        · rintro pre l post _ e _
          have hsl : SeqAt.shaped (.list l) = true := hsh l (by rw [e]; simp)
          refine ⟨_, _, by walk_at "set", by walk_at "set", ?_⟩
          walk_at "go"
          exact ⟨(), trivial, by walk_at "le", rfl⟩
        · rintro _ _
          have ab : ∀ x : Bool, AlikeOk 2 (.bool x) := fun x => .bl _ _
          have ab1 := ab true
          have aS := alike_oS [some (1 + fi % 9)] (Nat.le_of_ble_eq_true rfl)
          have aos := alike_oS sh ho.len
          have ho1 : ShOk [some (1 + fi % 9)] [(1 + fi % 9, [fi % 7, 2, 3, 4])] := ⟨Nat.le_of_ble_eq_true rfl, by simp, Nat.le_of_ble_eq_true rfl⟩
          have efull : decide (none ∉ ([some (1 + fi % 9)] : List (Option Int))) = true := decide_eq_true (by simp)
          have a4 : AlikeOk 2 (.list (([fi % 7, 2, 3, 4] : List Int).map .int)) := .lst (Nat.le_of_ble_eq_true rfl) fun d hd => by
            obtain ⟨n, _, rfl⟩ := List.mem_map.mp hd
            exact .int _ _
          walk_at "go"
          rw [efull]
          walk_at "go"
          refine ce_shelf (by walk_at "pick") ⟨pb, [some (1 + fi % 9)], [(1 + fi % 9, [fi % 7, 2, 3, 4])], 1 + fi % 9, [fi % 7, 2, 3, 4], 0, 0, rfl, rfl, ⟨ho1, rfl, rfl, fun j hj => absurd hj (Nat.not_lt_zero _)⟩, fun t => ?_⟩
          dsimp only [List.nil_append, List.cons_append]
          walk_at "go"
          refine ce_lend [(q, sh.map oS)] (rin := []) (grab1 (by walk_at "pick")) (by walk_at "lent") ⟨_, rfl, rfl, aos, rfl, lnda_nil, ?_⟩
          dsimp only [lent_cons, lent_nil, List.nil_append, List.cons_append]
          walk_at "go"
          exact fin [] (ent_has (by walk_at "grab")) hr
      · obtain ⟨i, hi⟩ := List.mem_iff_getElem?.mp hx
        obtain ⟨s, r⟩ := x
        have hva := pd_at ho.nd hi
        have hrs : ShOk sh rw1 ∧ (s, r) ∈ rw1 := ⟨ho, hx⟩
        have hr4 := hv.four _ hx
        have a2 : AlikeOk 2 (.list (r.map .int)) := .lst (by rw [List.length_map]; dsimp only at hr4; omega) fun d hd => by
          obtain ⟨n, _, rfl⟩ := List.mem_map.mp hd
          exact .int _ _
        walk_at "go"
        exact ⟨(allM C p q w h sh rw1 hs1 pb (1 + fi % 9) [fi % 7, 2, 3, 4] fr), ent_has (by walk_at "grab"), by walk_at "le", rfl⟩
end
/-! ### the steps -/
local macro_rules | `(tactic| walk_at "sl") => `(tactic| ((repeat with_reducible first | exact Slot.zero | apply Slot.succ); (first | (all_goals fail) | fail)))
local macro_rules | `(tactic| walk_at "set") => `(tactic| ((repeat with_reducible first | exact SetS.zero | apply SetS.succ); (first | (all_goals fail) | fail)))
local macro_rules | `(tactic| walk_at "ix") => `(tactic| ((repeat with_reducible first | exact IxOf.zero | apply IxOf.succ); (first | (all_goals fail) | fail)))
local macro_rules | `(tactic| walk_at "pick") => `(tactic| ((repeat with_reducible first | exact Pick.zero | apply Pick.succ); (first | (all_goals fail) | fail)))
local macro_rules | `(tactic| walk_at "fld") => `(tactic| ((repeat with_reducible first | exact FldAt.zero | apply FldAt.succ); (first | (all_goals fail) | fail)))
local macro_rules | `(tactic| walk_at "fset") => `(tactic| ((repeat with_reducible first | exact FldSet.zero | apply FldSet.succ); (first | (all_goals fail) | fail)))
local macro_rules | `(tactic| walk_at "grab") => `(tactic| (repeat (first | exact has_nil | refine has_cons (by ((repeat with_reducible first | exact Pick.zero | apply Pick.succ); (first | (all_goals fail) | fail))) ?_ | dsimp only [List.nil_append, List.cons_append, List.map_nil])))
local macro_rules | `(tactic| walk_at "pick2") => `(tactic| ((dsimp only [List.nil_append, List.cons_append]); ((repeat with_reducible first | exact Pick.zero | apply Pick.succ); (first | (all_goals fail) | fail))))
local macro_rules | `(tactic| walk_at "lent") => `(tactic| (repeat (first | exact LentS.nil | refine LentS.lend (by first | exact List.mem_cons_self | exact List.mem_cons_of_mem _ List.mem_cons_self) ?_ | refine LentS.eq ?_)))
local macro_rules | `(tactic| walk_at "datas") => `(tactic| ((repeat with_reducible first | exact datas_nil | apply datas_cons); (first | (all_goals fail) | fail)))
local macro_rules | `(tactic| walk_at "le0") => `(tactic| (repeat (first | exact Le.nil | (with_reducible apply Le.eq) | (with_reducible apply Le.un) | apply Le.eq)))
local macro_rules | `(tactic| walk_at "le") => `(tactic| ((repeat with_reducible first | exact Le.nil | apply Le.eq | apply Le.un); (first | (all_goals fail) | fail)))
local macro_rules | `(tactic| walk_at "num") => `(tactic| (first | omega | decide | (simp; omega)))
local macro_rules | `(tactic| walk_at "len") => `(tactic| (first | (with_reducible assumption) | decide | ((try simp only [List.length_cons, List.length_nil, List.length_append, List.length_map, List.length_replicate]); omega) | (refine Nat.le_trans (cutL_len _ _ _) ?_; (try simp only [List.length_cons, List.length_nil, List.length_append, List.length_map, List.length_replicate]); omega) | (refine Nat.le_trans (Nat.add_le_add_left (cutL_len _ _ _) _) ?_; (try simp only [List.length_cons, List.length_nil, List.length_append, List.length_map, List.length_replicate]); omega) | (refine Nat.le_trans (Nat.add_le_add_right (cutL_len _ _ _) _) ?_; (try simp only [List.length_cons, List.length_nil, List.length_append, List.length_map, List.length_replicate]); omega)))
local macro_rules | `(tactic| walk_at "go") => `(tactic| (repeat (first | (first | ((with_reducible show DX _ _ _ _ _); (first | ((with_reducible show DX _ (.Subscript (.Attribute _ "my_rows" _) _ _) _ _ _); refine dx_dget ?_) | ((with_reducible show DX _ (.Call (.Attribute (.Attribute _ "my_rows" _) "get" _) [_] _ _) _ _ _); refine dx_dget1 ?_) | ((with_reducible show DX _ (.Call (.Attribute (.Attribute _ "my_rows" _) "get" _) [_, _] _ _) _ _ _); refine dx_dget2 ?_) | ((with_reducible show DX _ (.Call (.Attribute (.Attribute _ "my_rows" _) "pop" _) [_] _ _) _ _ _); refine dx_dpop1 ?_) | ((with_reducible show DX _ (.Call (.Attribute (.Attribute _ "my_rows" _) "pop" _) [_, _] _ _) _ _ _); refine dx_dpop2 ?_) | ((with_reducible show DX _ (.Call (.Name "len" _) [(.Attribute _ "my_rows" _)] _ _) _ _ _); refine dx_dlen ?_) | ((with_reducible show DX _ (.Call (.Name "list" _) [(.Attribute _ "my_rows" _)] _ _) _ _ _); refine dx_dlist ?_) | ((with_reducible show DX _ (.Call (.Name "dict" _) [(.Attribute _ "my_rows" _)] _ _) _ _ _); refine dx_dictO ?_) | ((with_reducible show DX _ (.Call (.Name "sorted" _) [(.Attribute _ "my_rows" _)] _ _) _ _ _); refine dx_sortedD ?_) | ((with_reducible show DX _ (.Compare _ [.In] [(.Attribute _ "my_rows" _)] _) _ _ _); refine dx_din ?_) | ((with_reducible show DX _ (.Compare _ [.NotIn] [(.Attribute _ "my_rows" _)] _) _ _ _); refine dx_dnin ?_) | ((with_reducible show DX _ (.Subscript (.Name "_law_rows" _) _ _) _ _ _); refine dx_dget ?_) | ((with_reducible show DX _ (.Call (.Attribute (.Name "_law_rows" _) "get" _) [_] _ _) _ _ _); refine dx_dget1 ?_) | ((with_reducible show DX _ (.Call (.Attribute (.Name "_law_rows" _) "get" _) [_, _] _ _) _ _ _); refine dx_dget2 ?_) | ((with_reducible show DX _ (.Call (.Attribute (.Name "_law_rows" _) "pop" _) [_] _ _) _ _ _); refine dx_dpop1 ?_) | ((with_reducible show DX _ (.Call (.Attribute (.Name "_law_rows" _) "pop" _) [_, _] _ _) _ _ _); refine dx_dpop2 ?_) | ((with_reducible show DX _ (.Call (.Name "len" _) [(.Name "_law_rows" _)] _ _) _ _ _); refine dx_dlen ?_) | ((with_reducible show DX _ (.Call (.Name "list" _) [(.Name "_law_rows" _)] _ _) _ _ _); refine dx_dlist ?_) | ((with_reducible show DX _ (.Call (.Name "dict" _) [(.Name "_law_rows" _)] _ _) _ _ _); refine dx_dictO ?_) | ((with_reducible show DX _ (.Call (.Name "sorted" _) [(.Name "_law_rows" _)] _ _) _ _ _); refine dx_sortedD ?_) | ((with_reducible show DX _ (.Compare _ [.In] [(.Name "_law_rows" _)] _) _ _ _); refine dx_din ?_) | ((with_reducible show DX _ (.Compare _ [.NotIn] [(.Name "_law_rows" _)] _) _ _ _); refine dx_dnin ?_) | ((with_reducible show DX _ (.Name _ _) _ _ _); (first | refine dx_name (by ((repeat with_reducible first | exact Slot.zero | apply Slot.succ); (first | (all_goals fail) | fail))) (by exact fun e => nomatch e) ?_ | refine dx_gint (by with_reducible assumption) ?_ | refine dx_gstr (by with_reducible assumption) ?_ | refine dx_gcls (by with_reducible assumption) (by decide +kernel) ?_ | ((with_reducible show DX _ (.Name "int" _) _ _ _); refine dx_tint ?_) | ((with_reducible show DX _ (.Name "bool" _) _ _ _); refine dx_tbool ?_) | ((with_reducible show DX _ (.Name "str" _) _ _ _); refine dx_tstr ?_) | ((with_reducible show DX _ (.Name "list" _) _ _ _); refine dx_tlist ?_) | ((with_reducible show DX _ (.Name "tuple" _) _ _ _); refine dx_ttuple ?_) | ((with_reducible show DX _ (.Name "ValueError" _) _ _ _); refine dx_tVE (by with_reducible assumption) ?_))) | ((with_reducible show DX _ (.Constant _ _ _) _ _ _); (first | ((with_reducible show DX _ (.Constant (.int _) _ _) _ _ _); refine dx_int ?_) | ((with_reducible show DX _ (.Constant (.str _) _ _) _ _ _); refine dx_str ?_) | ((with_reducible show DX _ (.Constant (.bool _) _ _) _ _ _); refine dx_bl ?_) | refine dx_non ?_)) | ((with_reducible show DX _ (.BinOp (.List [_] _) .Mult _ _) _ _ _); refine dx_repD ?_) | ((with_reducible show DX _ (.BinOp _ _ _ _) _ _ _); (first | ((with_reducible show DX _ (.BinOp _ .Add _ _) _ _ _); refine dx_bin cAdd ?_) | ((with_reducible show DX _ (.BinOp _ .Sub _ _) _ _ _); refine dx_bin op_sub ?_) | ((with_reducible show DX _ (.BinOp _ .Mult _ _) _ _ _); refine dx_bin op_uMul ?_) | ((with_reducible show DX _ (.BinOp _ .FloorDiv _ _) _ _ _); refine dx_bin op_fdivW ?_) | ((with_reducible show DX _ (.BinOp _ .Mod _ _) _ _ _); refine dx_bin op_mod ?_) | ((with_reducible show DX _ (.BinOp _ .Pow _ _) _ _ _); refine dx_bin op_pow ?_))) | ((with_reducible show DX _ (.Compare _ [_] _ _) _ _ _); (first | ((with_reducible show DX _ (.Compare _ [.Eq] [_] _) _ _ _); refine dx_cmp cEq (nomark _) ?_) | ((with_reducible show DX _ (.Compare _ [.NotEq] [_] _) _ _ _); refine dx_cmp cNe (nomark _) ?_) | ((with_reducible show DX _ (.Compare _ [.Lt] [_] _) _ _ _); refine dx_cmp op_lt (nomark _) ?_) | ((with_reducible show DX _ (.Compare _ [.LtE] [_] _) _ _ _); refine dx_cmp op_le (nomark _) ?_) | ((with_reducible show DX _ (.Compare _ [.Gt] [_] _) _ _ _); refine dx_cmp op_gt (nomark _) ?_) | ((with_reducible show DX _ (.Compare _ [.GtE] [_] _) _ _ _); refine dx_cmp op_ge (nomark _) ?_) | ((with_reducible show DX _ (.Compare _ [.Is] [_] _) _ _ _); refine dx_cmp op_uIs (nomark _) ?_) | ((with_reducible show DX _ (.Compare _ [.IsNot] [_] _) _ _ _); refine dx_cmp op_uIsn (nomark _) ?_) | ((with_reducible show DX _ (.Compare _ [.In] [_] _) _ _ _); refine dx_cmp cIn (rfl) ?_) | ((with_reducible show DX _ (.Compare _ [.NotIn] [_] _) _ _ _); refine dx_cmp cNin (rfl) ?_))) | ((with_reducible show DX _ (.Compare _ [_, _] _ _) _ _ _); (first | ((with_reducible show DX _ (.Compare _ [.LtE, .Lt] [_, _] _) _ _ _); refine dx_chain op_le op_lt ?_) | ((with_reducible show DX _ (.Compare _ [.LtE, .LtE] [_, _] _) _ _ _); refine dx_chain op_le op_le ?_))) | ((with_reducible show DX _ (.BoolOp _ [_] _) _ _ _); refine dx_one ?_) | ((with_reducible show DX _ (.BoolOp .And _ _) _ _ _); refine dx_and ?_) | ((with_reducible show DX _ (.BoolOp .Or _ _) _ _ _); refine dx_or ?_) | ((with_reducible show DX _ (.UnaryOp .Not _ _) _ _ _); refine dx_not ?_) | ((with_reducible show DX _ (.UnaryOp _ _ _) _ _ _); refine dx_neg ?_) | ((with_reducible show DX _ (.Subscript _ (.Slice _ _ _ _) _) _ _ _); refine dx_slice ?_) | ((with_reducible show DX _ (.Subscript _ _ _) _ _ _); refine dx_ix cIx ?_) | ((with_reducible show DX _ (.Tuple _ _ _) _ _ _); refine dx_tup ?_) | ((with_reducible show DX _ (.IfExp _ _ _ _) _ _ _); refine dx_ifExp ?_) | ((with_reducible show DX _ (.List _ _) _ _ _); refine dx_lst ?_) | ((with_reducible show DX _ (.Dict [] [] _) _ _ _); refine dx_dnew ?_) | ((with_reducible show DX _ (.Attribute _ _ _) _ _ _); refine dx_fld ?_) | ((with_reducible show DX _ (.Call (.Attribute _ "clear" _) [] _ _) _ _ _); refine dx_clear ?_) | ((with_reducible show DX _ (.Call (.Attribute _ "pop" _) [] _ _) _ _ _); refine dx_pop ?_) | ((with_reducible show DX _ (.Call (.Attribute _ _ _) [] _ _) _ _ _); refine dx_meth0 (by with_reducible assumption) (by with_reducible assumption) ?_) | ((with_reducible show DX _ (.Call (.Name _ _) [] _ _) _ _ _); refine dx_call0 (by with_reducible assumption) ?_) | ((with_reducible show DX _ (.Call (.Attribute _ "append" _) [_] _ _) _ _ _); refine dx_append ?_) | ((with_reducible show DX _ (.Call (.Attribute _ "join" _) [_] _ _) _ _ _); refine dx_join ?_) | ((with_reducible show DX _ (.Call (.Attribute _ "find" _) [_] _ _) _ _ _); refine dx_find ?_) | ((with_reducible show DX _ (.Call (.Attribute (.Constant (.str _) _ _) "index" _) [_] _ _) _ _ _); refine dx_sindex ?_) | ((with_reducible show DX _ (.Call (.Attribute _ "split" _) [_] _ _) _ _ _); refine dx_split ?_) | ((with_reducible show DX _ (.Call (.Attribute _ _ _) _ _ _) _ _ _); refine dx_meth (by with_reducible assumption) (by with_reducible assumption) ?_) | ((with_reducible show DX _ (.Call (.Name _ _) _ _ _) _ _ _); (first | ((with_reducible show DX _ (.Call (.Name "len" _) _ _ _) _ _ _); refine dx_len ?_) | ((with_reducible show DX _ (.Call (.Name "isinstance" _) _ _ _) _ _ _); (first | ((with_reducible show DX _ (.Call _ [_, .Tuple _ _ _] _ _) _ _ _); refine dx_isET (by with_reducible assumption) (by with_reducible assumption) (by decide +kernel) ?_) | ((with_reducible show DX _ (.Call _ [_, .Name _ _] _ _) _ _ _); first | refine dx_isE (by with_reducible assumption) ?_ | refine dx_isi ?_))) | ((with_reducible show DX _ (.Call (.Name "list" _) _ _ _) _ _ _); (first | refine dx_listA ?_ | refine dx_list ?_)) | ((with_reducible show DX _ (.Call (.Name "min" _) _ _ _) _ _ _); refine dx_min ?_) | ((with_reducible show DX _ (.Call (.Name "max" _) _ _ _) _ _ _); refine dx_max ?_) | ((with_reducible show DX _ (.Call (.Name "str" _) _ _ _) _ _ _); refine dx_cstr ?_) | ((with_reducible show DX _ (.Call (.Name "int" _) _ _ _) _ _ _); refine dx_cint ?_) | refine dx_call (by with_reducible assumption) ?_ | refine dx_make (by with_reducible assumption) ?_)))) | ((with_reducible show OpD _ _ _ _ _); (first | ((with_reducible show OpD (uAdd _) (.d (.int _)) (.d (.int _)) _ _); refine od_add ?_) | ((with_reducible show OpD (uAdd _) (.d (.str _)) (.d (.str _)) _ _); refine od_adds (by (first | (with_reducible assumption) | decide | ((try simp only [List.length_cons, List.length_nil, List.length_append, List.length_map, List.length_replicate]); omega) | (refine Nat.le_trans (cutL_len _ _ _) ?_; (try simp only [List.length_cons, List.length_nil, List.length_append, List.length_map, List.length_replicate]); omega) | (refine Nat.le_trans (Nat.add_le_add_left (cutL_len _ _ _) _) ?_; (try simp only [List.length_cons, List.length_nil, List.length_append, List.length_map, List.length_replicate]); omega) | (refine Nat.le_trans (Nat.add_le_add_right (cutL_len _ _ _) _) ?_; (try simp only [List.length_cons, List.length_nil, List.length_append, List.length_map, List.length_replicate]); omega))) ?_) | ((with_reducible show OpD (uAdd _) (.d (.tuple _)) (.d (.tuple _)) _ _); refine od_addt (by first | exact List.cons_ne_nil _ _ | decide) (by (first | (with_reducible assumption) | decide | ((try simp only [List.length_cons, List.length_nil, List.length_append, List.length_map, List.length_replicate]); omega) | (refine Nat.le_trans (cutL_len _ _ _) ?_; (try simp only [List.length_cons, List.length_nil, List.length_append, List.length_map, List.length_replicate]); omega) | (refine Nat.le_trans (Nat.add_le_add_left (cutL_len _ _ _) _) ?_; (try simp only [List.length_cons, List.length_nil, List.length_append, List.length_map, List.length_replicate]); omega) | (refine Nat.le_trans (Nat.add_le_add_right (cutL_len _ _ _) _) ?_; (try simp only [List.length_cons, List.length_nil, List.length_append, List.length_map, List.length_replicate]); omega))) ?_) | ((with_reducible show OpD (uAdd _) _ _ _ _); refine od_addl rfl rfl (by (first | (with_reducible assumption) | decide | ((try simp only [List.length_cons, List.length_nil, List.length_append, List.length_map, List.length_replicate]); omega) | (refine Nat.le_trans (cutL_len _ _ _) ?_; (try simp only [List.length_cons, List.length_nil, List.length_append, List.length_map, List.length_replicate]); omega) | (refine Nat.le_trans (Nat.add_le_add_left (cutL_len _ _ _) _) ?_; (try simp only [List.length_cons, List.length_nil, List.length_append, List.length_map, List.length_replicate]); omega) | (refine Nat.le_trans (Nat.add_le_add_right (cutL_len _ _ _) _) ?_; (try simp only [List.length_cons, List.length_nil, List.length_append, List.length_map, List.length_replicate]); omega))) ?_) | ((with_reducible show OpD (rI0 fun i j => .int (i - j)) _ _ _ _); refine od_sub ?_) | ((with_reducible show OpD uMul (.d (.int _)) (.d (.int _)) _ _); (first | refine od_mul (mul_r (by (first | omega | decide | (simp; omega)))) ?_ | refine od_mul (mul_l (by (first | omega | decide | (simp; omega)))) ?_ | refine od_mul (mul_ok (by (first | omega | decide | (simp; omega))) (by (first | omega | decide | (simp; omega)))) ?_)) | ((with_reducible show OpD (rI CDivW _) _ _ _ _); refine od_div (by (first | omega | decide | (simp; omega))) ?_) | ((with_reducible show OpD (rI CPow _) (.d (.int 10)) _ _ _); (first | (with_reducible refine od_p60 ?_) | (with_reducible refine od_p59 ?_) | (with_reducible refine od_p20 ?_) | (with_reducible refine od_p40 ?_) | (with_reducible refine od_p6 ?_) | (with_reducible refine od_p9 ?_) | (with_reducible refine od_p50 ?_) | (with_reducible refine od_p58 ?_) | (with_reducible refine od_p30 ?_) | (with_reducible refine od_p3 ?_))) | ((with_reducible show OpD (rI CPow _) _ _ _ _); refine od_pow (by decide) ?_) | ((with_reducible show OpD (rI0 fun i j => .bl (decide (i < j))) _ _ _ _); refine od_lt ?_) | ((with_reducible show OpD (rI0 fun i j => .bl (decide (i ≤ j))) _ _ _ _); refine od_le ?_) | ((with_reducible show OpD (rI0 fun i j => .bl (decide (j < i))) _ _ _ _); refine od_gt ?_) | ((with_reducible show OpD (rI0 fun i j => .bl (decide (j ≤ i))) _ _ _ _); refine od_ge ?_) | ((with_reducible show OpD (rI _ _) _ _ _ _); refine od_mod (by (first | omega | decide | (simp; omega))) ?_) | ((with_reducible show OpD (uEq _) _ _ _ _); (first | refine od_eq rfl rfl (by first | exact .int _ _ | exact .str _ _ | exact .bl _ _ | exact .nn | exact .ni _ | exact .in_ _ | exact .ns _ | exact .sn _) ?_ | refine od_eqS rfl rfl (by first | (with_reducible assumption) | decide +kernel | rfl) ?_ | refine od_eq rfl rfl (.dat (by first | (with_reducible assumption) | decide +kernel | rfl) (by first | (with_reducible assumption) | decide +kernel | rfl)) ?_)) | ((with_reducible show OpD (uNe _) _ _ _ _); (first | (with_reducible refine od_nenm ?_) | refine od_ne rfl rfl (by first | exact .int _ _ | exact .str _ _ | exact .bl _ _ | exact .nn | exact .ni _ | exact .in_ _ | exact .ns _ | exact .sn _) ?_ | refine od_neS rfl rfl (by first | (with_reducible assumption) | decide +kernel | rfl) ?_ | refine od_ne rfl rfl (.dat (by first | (with_reducible assumption) | decide +kernel | rfl) (by first | (with_reducible assumption) | decide +kernel | rfl)) ?_)) | ((with_reducible show OpD (uNin _) (.d (.str _)) (.d (.str _)) _ _); refine od_nins ?_) | ((with_reducible show OpD (uIn _) (.d (.str _)) (.d (.str _)) _ _); refine od_ins ?_) | ((with_reducible show OpD (uIn _) (.d _) (.r (.ref _)) _ _); refine od_inO (by ((repeat with_reducible first | exact Pick.zero | apply Pick.succ); (first | (all_goals fail) | fail))) rfl (by with_reducible assumption) ?_) | ((with_reducible show OpD (uNin _) (.d _) (.r (.ref _)) _ _); refine od_ninO (by ((repeat with_reducible first | exact Pick.zero | apply Pick.succ); (first | (all_goals fail) | fail))) rfl (by with_reducible assumption) ?_) | ((with_reducible show OpD uIs _ _ _ _); (first | (with_reducible refine od_isnm ?_) | refine od_is rfl ?_)) | ((with_reducible show OpD uIsn _ _ _ _); (first | (with_reducible refine od_isnnm ?_) | refine od_isn rfl ?_)) | ((with_reducible show OpD (rIx _) (.r (.ref _)) _ _ _); refine od_ixo (by ((repeat with_reducible first | exact Pick.zero | apply Pick.succ); (first | (all_goals fail) | fail))) (by first | rfl | with_reducible assumption) (by exact fun _ z => nomatch z) ?_) | ((with_reducible show OpD (rIx _) (.d (.str _)) _ _ _); refine od_ixt (by (first | (with_reducible assumption) | decide | ((try simp only [List.length_cons, List.length_nil, List.length_append, List.length_map, List.length_replicate]); omega) | (refine Nat.le_trans (cutL_len _ _ _) ?_; (try simp only [List.length_cons, List.length_nil, List.length_append, List.length_map, List.length_replicate]); omega) | (refine Nat.le_trans (Nat.add_le_add_left (cutL_len _ _ _) _) ?_; (try simp only [List.length_cons, List.length_nil, List.length_append, List.length_map, List.length_replicate]); omega) | (refine Nat.le_trans (Nat.add_le_add_right (cutL_len _ _ _) _) ?_; (try simp only [List.length_cons, List.length_nil, List.length_append, List.length_map, List.length_replicate]); omega))) (by with_reducible assumption) ?_) | ((with_reducible show OpD (rIx _) _ _ _ _); refine od_ixs rfl (by first | rfl | with_reducible assumption) ?_))) | ((with_reducible show DS _ _ _ _ _); (first | ((with_reducible show DS _ (.Assign [.Subscript (.Attribute _ "my_rows" _) _ _] (.Call (.Name "list" _) [_] _ _) _) _ _ _); refine ds_dput (dx_listU ?_)) | ((with_reducible show DS _ (.Assign [.Subscript (.Attribute _ "my_rows" _) _ _] _ _) _ _ _); refine ds_dput ?_) | ((with_reducible show DS _ (.Assign [.Subscript (.Name "_law_rows" _) _ _] _ _) _ _ _); refine ds_dput ?_) | ((with_reducible show DS _ (.Assign [.Name "_law_handed" _] (.Call (.Name "list" _) _ _ _) _) _ _ _); refine ds_set (dx_listU ?_)) | ((with_reducible show DS _ (.Assign [.Name _ _] _ _) _ _ _); (fail_if_success (with_reducible show DS _ (.Assign _ (.List [] _) _) _ _ _)); (fail_if_success (with_reducible show DS _ (.Assign _ (.ListComp _ _ _ _) _) _ _ _)); refine ds_set ?_) | ((with_reducible show DS _ (.Assign [.Attribute _ _ _] _ _) _ _ _); (fail_if_success (with_reducible show DS _ (.Assign _ (.List _ _) _) _ _ _)); (fail_if_success (with_reducible show DS _ (.Assign _ (.ListComp _ _ _ _) _) _ _ _)); refine ds_fld ?_) | ((with_reducible show DS _ (.Assign [.Subscript _ _ _] _ _) _ _ _); (fail_if_success (with_reducible show DS _ (.Assign [.Subscript (.Subscript _ _ _) _ _] _ _) _ _ _)); refine ds_seti ?_) | ((with_reducible show DS _ (.Return (some _) _) _ _ _); refine ds_ret ?_) | ((with_reducible show DS _ (.Return none _) _ _ _); refine ds_retN ?_) | ((with_reducible show DS _ (.If _ _ _ _) _ _ _); refine ds_if ?_) | ((with_reducible show DS _ (.Expr (.Constant _ _ _) _) _ _ _); refine ds_doc ?_) | ((with_reducible show DS _ (.Expr _ _) _ _ _); refine ds_expr ?_) | ((with_reducible show DS _ (.Pass _) _ _ _); refine ds_pass ?_) | ((with_reducible show DS _ (.Break _) _ _ _); refine ds_break ?_) | ((with_reducible show DS _ (.Continue _) _ _ _); refine ds_continue ?_) | ((with_reducible show DS _ (.Raise (some (.Call (.Name _ _) [.Constant (.str _) _ _] [] _)) none _) _ _ _); refine ds_raise (by with_reducible assumption) (by decide +kernel) (by decide +kernel) ?_))) | ((with_reducible show DSs _ _ _ _ _); (first | ((with_reducible show DSs _ (_ :: _) _ _ _); refine dss_cons ?_) | ((with_reducible show DSs _ [] _ _ _); refine dss_nil ?_))) | ((with_reducible show DT _ _ _ _ _); (first | ((with_reducible show DT _ (.Compare _ [.In] [(.Attribute _ "my_rows" _)] _) _ _ _); refine dt_din ?_) | ((with_reducible show DT _ (.Compare _ [.NotIn] [(.Attribute _ "my_rows" _)] _) _ _ _); refine dt_dnin ?_) | ((with_reducible show DT _ (.Compare _ [.In] [(.Name "_law_rows" _)] _) _ _ _); refine dt_din ?_) | ((with_reducible show DT _ (.Compare _ [.NotIn] [(.Name "_law_rows" _)] _) _ _ _); refine dt_dnin ?_) | ((with_reducible show DT _ (.BoolOp _ _ _) _ _ _); refine dt_bool ?_) | ((with_reducible show DT _ (.UnaryOp .Not _ _) _ _ _); refine dt_not ?_) | ((with_reducible show DT _ (.Compare _ [_] _ _) _ _ _); (first | ((with_reducible show DT _ (.Compare _ [.Eq] [_] _) _ _ _); refine dt_cmp cEq (nomark _) ?_) | ((with_reducible show DT _ (.Compare _ [.NotEq] [_] _) _ _ _); refine dt_cmp cNe (nomark _) ?_) | ((with_reducible show DT _ (.Compare _ [.Lt] [_] _) _ _ _); refine dt_cmp op_lt (nomark _) ?_) | ((with_reducible show DT _ (.Compare _ [.LtE] [_] _) _ _ _); refine dt_cmp op_le (nomark _) ?_) | ((with_reducible show DT _ (.Compare _ [.Gt] [_] _) _ _ _); refine dt_cmp op_gt (nomark _) ?_) | ((with_reducible show DT _ (.Compare _ [.GtE] [_] _) _ _ _); refine dt_cmp op_ge (nomark _) ?_) | ((with_reducible show DT _ (.Compare _ [.Is] [_] _) _ _ _); refine dt_cmp op_uIs (nomark _) ?_) | ((with_reducible show DT _ (.Compare _ [.IsNot] [_] _) _ _ _); refine dt_cmp op_uIsn (nomark _) ?_) | ((with_reducible show DT _ (.Compare _ [.In] [_] _) _ _ _); refine dt_cmp cIn (rfl) ?_) | ((with_reducible show DT _ (.Compare _ [.NotIn] [_] _) _ _ _); refine dt_cmp cNin (rfl) ?_))) | ((with_reducible show DT _ (.Compare _ [_, _] _ _) _ _ _); (first | ((with_reducible show DT _ (.Compare _ [.LtE, .Lt] [_, _] _) _ _ _); refine dt_chain op_le op_lt ?_) | ((with_reducible show DT _ (.Compare _ [.LtE, .LtE] [_, _] _) _ _ _); refine dt_chain op_le op_le ?_))) | ((with_reducible show DT _ _ _ _ _); refine dt_tru ?_))) | ((with_reducible show DW _ _ _ _ _); (first | ((with_reducible show DW _ (.BoolOp .And [_] _) _ _ _); refine dw_and1 ?_) | ((with_reducible show DW _ (.BoolOp .Or [_] _) _ _ _); refine dw_or1 ?_) | ((with_reducible show DW _ (.BoolOp .And _ _) _ _ _); refine dw_and ?_) | ((with_reducible show DW _ (.BoolOp .Or _ _) _ _ _); refine dw_or ?_))) | ((with_reducible show DA _ _ _ _ _); (first | ((with_reducible show DA _ (.Call (.Attribute _ "row_of_sheet" _) _ _ _ :: _) _ _ _); refine da_cons (dx_frz ?_)) | ((with_reducible show DA _ (_ :: _) _ _ _); refine da_cons ?_) | ((with_reducible show DA _ [] _ _ _); refine da_nil ?_))) | ((with_reducible show if _ = true then _ else _); (first | (with_reducible refine ite_tt ?_) | (with_reducible refine ite_ff ?_) | (with_reducible refine ite_nt ?_) | (with_reducible refine ite_nf ?_) | ((with_reducible show if decide _ = true then _ else _); first | refine ite_dt (by (first | (with_reducible assumption) | omega | decide +kernel | ((simp only [List.length_cons, List.length_nil, List.length_map, List.length_append]); omega) | ((simp only [List.length_cons, List.length_nil, List.length_map, List.length_append]); (first | (all_goals fail) | fail)))) ?_ | refine ite_df (by (first | (with_reducible assumption) | omega | decide +kernel | ((simp only [List.length_cons, List.length_nil, List.length_map, List.length_append]); omega) | ((simp only [List.length_cons, List.length_nil, List.length_map, List.length_append]); (first | (all_goals fail) | fail)))) ?_) | ((with_reducible show if (!decide _) = true then _ else _); first | refine ite_ndf (by (first | (with_reducible assumption) | omega | decide +kernel | ((simp only [List.length_cons, List.length_nil, List.length_map, List.length_append]); omega) | ((simp only [List.length_cons, List.length_nil, List.length_map, List.length_append]); (first | (all_goals fail) | fail)))) ?_ | refine ite_ndt (by (first | (with_reducible assumption) | omega | decide +kernel | ((simp only [List.length_cons, List.length_nil, List.length_map, List.length_append]); omega) | ((simp only [List.length_cons, List.length_nil, List.length_map, List.length_append]); (first | (all_goals fail) | fail)))) ?_) | (with_reducible refine ite_nn ?_) | ((with_reducible show if PyData.eqv _ _ = true then _ else _); first | refine ite_t (by decide +kernel) ?_ | refine ite_f (by decide +kernel) ?_ | refine ite_t rfl ?_ | refine ite_f rfl ?_) | ((with_reducible show if (!PyData.eqv _ _) = true then _ else _); first | refine ite_t (by decide +kernel) ?_ | refine ite_f (by decide +kernel) ?_ | refine ite_t rfl ?_ | refine ite_f rfl ?_) | ((with_reducible show if wholeD (.int _) = true then _ else _); refine ite_t rfl ?_) | ((with_reducible show if (!wholeD (.int _)) = true then _ else _); refine ite_f rfl ?_) | ((with_reducible show if isD _ _ = true then _ else _); first | refine ite_t rfl ?_ | refine ite_f rfl ?_) | ((with_reducible show if (!isD _ _) = true then _ else _); first | refine ite_t rfl ?_ | refine ite_f rfl ?_))) | ((with_reducible show Exists _); (first | (with_reducible refine me_shelf (by ((repeat with_reducible first | exact Pick.zero | apply Pick.succ); (first | (all_goals fail) | fail))) (by decide +kernel) ?_) | ((with_reducible show ∃ i ρ', SetS _ _ _ i _ ρ' ∧ _); refine ⟨_, _, by ((repeat with_reducible first | exact SetS.zero | apply SetS.succ); (first | (all_goals fail) | fail)), ?_⟩) | (with_reducible refine ex_list rfl ?_) | ((with_reducible show ∃ ds, Sl.asSeq _ = some ds ∧ _); refine ex_seq rfl ?_) | ((with_reducible show ∃ ds, Datas _ ds ∧ _); refine ex_datas (by ((repeat with_reducible first | exact datas_nil | apply datas_cons); (first | (all_goals fail) | fail))) (by first | exact Nat.le_of_ble_eq_true rfl | (first | (with_reducible assumption) | decide | ((try simp only [List.length_cons, List.length_nil, List.length_append, List.length_map, List.length_replicate]); omega) | (refine Nat.le_trans (cutL_len _ _ _) ?_; (try simp only [List.length_cons, List.length_nil, List.length_append, List.length_map, List.length_replicate]); omega) | (refine Nat.le_trans (Nat.add_le_add_left (cutL_len _ _ _) _) ?_; (try simp only [List.length_cons, List.length_nil, List.length_append, List.length_map, List.length_replicate]); omega) | (refine Nat.le_trans (Nat.add_le_add_right (cutL_len _ _ _) _) ?_; (try simp only [List.length_cons, List.length_nil, List.length_append, List.length_map, List.length_replicate]); omega))) ?_) | ((with_reducible show ∃ C p fs g sl, _ = Sl.r (.ref p) ∧ Pick _ (insM C p fs) g ∧ FldC _ C _ ∧ FldAt fs _ sl ∧ _); refine ex_fld (by ((repeat with_reducible first | exact Pick.zero | apply Pick.succ); (first | (all_goals fail) | fail))) (fldc (by with_reducible assumption) (by decide +kernel)) (by ((repeat with_reducible first | exact FldAt.zero | apply FldAt.succ); (first | (all_goals fail) | fail))) (by (simp only [List.map_cons, List.map_nil]); decide +kernel) (by exact fun _ z => nomatch z) ?_) | ((with_reducible show ∃ C p fs g fs2, _ = Sl.r (.ref p) ∧ Pick _ (insM C p fs) g ∧ FldC _ C _ ∧ (FldSet fs _ _ fs2 ∨ _) ∧ _); first | refine ex_fset (by ((repeat with_reducible first | exact Pick.zero | apply Pick.succ); (first | (all_goals fail) | fail))) (fldc (by with_reducible assumption) (by decide +kernel)) (by ((repeat with_reducible first | exact FldSet.zero | apply FldSet.succ); (first | (all_goals fail) | fail))) (by (simp only [List.map_cons, List.map_nil]); decide +kernel) (by exact Nat.le_of_ble_eq_true rfl) ?_ | refine ex_fnew (by ((repeat with_reducible first | exact Pick.zero | apply Pick.succ); (first | (all_goals fail) | fail))) (fldc (by with_reducible assumption) (by decide +kernel)) (by (simp only [List.map_cons, List.map_nil]); decide +kernel) (by (simp only [List.map_cons, List.map_nil]); decide +kernel) (by exact Nat.le_of_ble_eq_true rfl) ?_) | ((with_reducible show ∃ p ss f k j, _ = Sl.r (.ref p) ∧ _ = Sl.d (.int k) ∧ _); refine ex_seti (by ((repeat with_reducible first | exact Pick.zero | apply Pick.succ); (first | (all_goals fail) | fail))) (by first | with_reducible assumption | rfl) ?_) | (with_reducible refine ex_frz (by ((repeat with_reducible first | exact Pick.zero | apply Pick.succ); (first | (all_goals fail) | fail))) ?_) | (with_reducible refine ex_own (by ((repeat with_reducible first | exact Pick.zero | apply Pick.succ); (first | (all_goals fail) | fail))) ?_) | (with_reducible refine ex_app (by ((repeat with_reducible first | exact Pick.zero | apply Pick.succ); (first | (all_goals fail) | fail))) (by (first | (with_reducible assumption) | decide | ((try simp only [List.length_cons, List.length_nil, List.length_append, List.length_map, List.length_replicate]); omega) | (refine Nat.le_trans (cutL_len _ _ _) ?_; (try simp only [List.length_cons, List.length_nil, List.length_append, List.length_map, List.length_replicate]); omega) | (refine Nat.le_trans (Nat.add_le_add_left (cutL_len _ _ _) _) ?_; (try simp only [List.length_cons, List.length_nil, List.length_append, List.length_map, List.length_replicate]); omega) | (refine Nat.le_trans (Nat.add_le_add_right (cutL_len _ _ _) _) ?_; (try simp only [List.length_cons, List.length_nil, List.length_append, List.length_map, List.length_replicate]); omega))) ?_) | ((with_reducible show ∃ ys, RefsE _ _ ys ∧ _); (first | refine ex_refs (w := false) (by ((repeat with_reducible first | exact RefsE.nil | apply RefsE.cons); (first | (all_goals fail) | fail))) (by decide +kernel) ?_ | refine ex_refs (w := true) (by ((repeat with_reducible first | exact RefsE.nil | apply RefsE.cons); (first | (all_goals fail) | fail))) (by decide +kernel) ?_)) | ((with_reducible show ∃ rs', Ent [_] (rs' ++ [_]) ∧ _); (refine end_ex ?_; with_reducible assumption)) | ((with_reducible show ∃ ρ', SetS _ _ _ _ _ ρ' ∧ _); refine ⟨_, by ((repeat with_reducible first | exact SetS.zero | apply SetS.succ); (first | (all_goals fail) | fail)), ?_⟩) | (with_reducible refine ex_rep (by ((repeat with_reducible first | exact Pick.zero | apply Pick.succ); (first | (all_goals fail) | fail))) (by (first | omega | decide | (simp; omega))) ?_) | (with_reducible refine ex_dat ?_) | (with_reducible refine ex_int ?_) | (with_reducible refine ex_str ?_) | (with_reducible refine ex_dic (by ((repeat with_reducible first | exact Pick.zero | apply Pick.succ); (first | (all_goals fail) | fail))) ?_) | (with_reducible refine ex_din1 (by ((repeat with_reducible first | exact Pick.zero | apply Pick.succ); (first | (all_goals fail) | fail))) ?_) | (with_reducible refine ex_din2 (by ((repeat with_reducible first | exact Pick.zero | apply Pick.succ); (first | (all_goals fail) | fail))) ?_) | (with_reducible refine ex_dlen (by ((repeat with_reducible first | exact Pick.zero | apply Pick.succ); (first | (all_goals fail) | fail))) ?_) | ((with_reducible show ∃ p kvs f k, _ = Sl.r (.ref p) ∧ _ = Sl.d (keyD k) ∧ Pick _ (dictM p kvs) f ∧ kvs.length ≤ _ ∧ _); first | refine ex_dputI (by ((repeat with_reducible first | exact Pick.zero | apply Pick.succ); (first | (all_goals fail) | fail))) (by (first | (with_reducible assumption) | decide | ((try simp only [List.length_cons, List.length_nil, List.length_append, List.length_map, List.length_replicate]); omega) | (refine Nat.le_trans (cutL_len _ _ _) ?_; (try simp only [List.length_cons, List.length_nil, List.length_append, List.length_map, List.length_replicate]); omega) | (refine Nat.le_trans (Nat.add_le_add_left (cutL_len _ _ _) _) ?_; (try simp only [List.length_cons, List.length_nil, List.length_append, List.length_map, List.length_replicate]); omega) | (refine Nat.le_trans (Nat.add_le_add_right (cutL_len _ _ _) _) ?_; (try simp only [List.length_cons, List.length_nil, List.length_append, List.length_map, List.length_replicate]); omega))) ?_ | refine ex_dputS (by ((repeat with_reducible first | exact Pick.zero | apply Pick.succ); (first | (all_goals fail) | fail))) (by (first | (with_reducible assumption) | decide | ((try simp only [List.length_cons, List.length_nil, List.length_append, List.length_map, List.length_replicate]); omega) | (refine Nat.le_trans (cutL_len _ _ _) ?_; (try simp only [List.length_cons, List.length_nil, List.length_append, List.length_map, List.length_replicate]); omega) | (refine Nat.le_trans (Nat.add_le_add_left (cutL_len _ _ _) _) ?_; (try simp only [List.length_cons, List.length_nil, List.length_append, List.length_map, List.length_replicate]); omega) | (refine Nat.le_trans (Nat.add_le_add_right (cutL_len _ _ _) _) ?_; (try simp only [List.length_cons, List.length_nil, List.length_append, List.length_map, List.length_replicate]); omega))) ?_) | ((with_reducible show ∃ p kvs f k, _ = Sl.r (.ref p) ∧ _ = Sl.d (keyD k) ∧ Pick _ (dictM p kvs) f ∧ _); first | refine ex_din1 (by ((repeat with_reducible first | exact Pick.zero | apply Pick.succ); (first | (all_goals fail) | fail))) ?_ | refine ex_din2 (by ((repeat with_reducible first | exact Pick.zero | apply Pick.succ); (first | (all_goals fail) | fail))) ?_) | ((with_reducible show ∃ kvs f k s, _ = Sl.d (keyD k) ∧ Pick _ (dictM _ kvs) f ∧ valS kvs k = some s ∧ _); first | refine ex_dpopI (by ((repeat with_reducible first | exact Pick.zero | apply Pick.succ); (first | (all_goals fail) | fail))) (by with_reducible assumption) (by exact fun _ z => nomatch z) ?_ | refine ex_dpopS (by ((repeat with_reducible first | exact Pick.zero | apply Pick.succ); (first | (all_goals fail) | fail))) (by with_reducible assumption) (by exact fun _ z => nomatch z) ?_) | ((with_reducible show ∃ p kvs f k s, _ = Sl.r (.ref p) ∧ _ = Sl.d (keyD k) ∧ Pick _ (dictM p kvs) f ∧ _); first | refine ex_dget (by ((repeat with_reducible first | exact Pick.zero | apply Pick.succ); (first | (all_goals fail) | fail))) (by with_reducible assumption) (by exact fun _ z => nomatch z) ?_ | refine ex_dgetS (by ((repeat with_reducible first | exact Pick.zero | apply Pick.succ); (first | (all_goals fail) | fail))) (by with_reducible assumption) (by exact fun _ z => nomatch z) ?_))) | (first | (with_reducible refine kt ?_) | ((with_reducible show ∀ _ : Addr, _); intro q) | ((with_reducible show Le _ _ ∧ _ = _); exact ⟨by ((repeat with_reducible first | exact Le.nil | apply Le.eq | apply Le.un); (first | (all_goals fail) | fail)), rfl⟩) | ((with_reducible show CallEnd _ _ _ _ _ _); (first | ((with_reducible refine ce_shelf (by ((repeat with_reducible first | exact Pick.zero | apply Pick.succ); (first | (all_goals fail) | fail))) ?_); (first | refine ⟨_, rfl, rfl, by (first | (with_reducible trivial) | (with_reducible assumption) | omega | (exact ⟨by with_reducible assumption, by with_reducible assumption⟩)), ?_⟩ | refine ⟨_, _, rfl, rfl, by (first | (with_reducible trivial) | (with_reducible assumption) | omega | (exact ⟨by with_reducible assumption, by with_reducible assumption⟩)), ?_⟩ | refine ⟨_, _, _, rfl, rfl, by (first | (with_reducible trivial) | (with_reducible assumption) | omega | (exact ⟨by with_reducible assumption, by with_reducible assumption⟩)), ?_⟩ | refine ⟨_, _, _, _, rfl, rfl, by (first | (with_reducible trivial) | (with_reducible assumption) | omega | (exact ⟨by with_reducible assumption, by with_reducible assumption⟩)), ?_⟩ | refine ⟨_, _, _, _, _, rfl, rfl, by (first | (with_reducible trivial) | (with_reducible assumption) | omega | (exact ⟨by with_reducible assumption, by with_reducible assumption⟩)), ?_⟩ | refine ⟨_, _, _, _, _, _, rfl, rfl, by (first | (with_reducible trivial) | (with_reducible assumption) | omega | (exact ⟨by with_reducible assumption, by with_reducible assumption⟩)), ?_⟩ | refine ⟨_, _, _, _, _, _, _, rfl, rfl, by (first | (with_reducible trivial) | (with_reducible assumption) | omega | (exact ⟨by with_reducible assumption, by with_reducible assumption⟩)), ?_⟩ | refine ⟨_, _, _, _, _, _, _, _, rfl, rfl, by (first | (with_reducible trivial) | (with_reducible assumption) | omega | (exact ⟨by with_reducible assumption, by with_reducible assumption⟩)), ?_⟩)) | (refine ce_inl ?_; first | refine ⟨_, rfl, rfl, by (first | (with_reducible trivial) | (with_reducible assumption) | omega | (exact ⟨by with_reducible assumption, by with_reducible assumption⟩)), ?_⟩ | refine ⟨_, _, rfl, rfl, by (first | (with_reducible trivial) | (with_reducible assumption) | omega | (exact ⟨by with_reducible assumption, by with_reducible assumption⟩)), ?_⟩ | refine ⟨_, _, _, rfl, rfl, by (first | (with_reducible trivial) | (with_reducible assumption) | omega | (exact ⟨by with_reducible assumption, by with_reducible assumption⟩)), ?_⟩ | refine ⟨_, _, _, _, rfl, rfl, by (first | (with_reducible trivial) | (with_reducible assumption) | omega | (exact ⟨by with_reducible assumption, by with_reducible assumption⟩)), ?_⟩ | refine ⟨_, _, _, _, _, rfl, rfl, by (first | (with_reducible trivial) | (with_reducible assumption) | omega | (exact ⟨by with_reducible assumption, by with_reducible assumption⟩)), ?_⟩ | refine ⟨_, _, _, _, _, _, rfl, rfl, by (first | (with_reducible trivial) | (with_reducible assumption) | omega | (exact ⟨by with_reducible assumption, by with_reducible assumption⟩)), ?_⟩))) | ((with_reducible show CallEnd0 _ _ _ _); (first | ((with_reducible refine ce0_shelf (by ((repeat with_reducible first | exact Pick.zero | apply Pick.succ); (first | (all_goals fail) | fail))) ?_); (first | refine ⟨_, rfl, rfl, by (first | (with_reducible trivial) | (with_reducible assumption) | omega | (exact ⟨by with_reducible assumption, by with_reducible assumption⟩)), ?_⟩ | refine ⟨_, _, rfl, rfl, by (first | (with_reducible trivial) | (with_reducible assumption) | omega | (exact ⟨by with_reducible assumption, by with_reducible assumption⟩)), ?_⟩ | refine ⟨_, _, _, rfl, rfl, by (first | (with_reducible trivial) | (with_reducible assumption) | omega | (exact ⟨by with_reducible assumption, by with_reducible assumption⟩)), ?_⟩ | refine ⟨_, _, _, _, rfl, rfl, by (first | (with_reducible trivial) | (with_reducible assumption) | omega | (exact ⟨by with_reducible assumption, by with_reducible assumption⟩)), ?_⟩ | refine ⟨_, _, _, _, _, rfl, rfl, by (first | (with_reducible trivial) | (with_reducible assumption) | omega | (exact ⟨by with_reducible assumption, by with_reducible assumption⟩)), ?_⟩ | refine ⟨_, _, _, _, _, _, rfl, rfl, by (first | (with_reducible trivial) | (with_reducible assumption) | omega | (exact ⟨by with_reducible assumption, by with_reducible assumption⟩)), ?_⟩ | refine ⟨_, _, _, _, _, _, _, rfl, rfl, by (first | (with_reducible trivial) | (with_reducible assumption) | omega | (exact ⟨by with_reducible assumption, by with_reducible assumption⟩)), ?_⟩ | refine ⟨_, _, _, _, _, _, _, _, rfl, rfl, by (first | (with_reducible trivial) | (with_reducible assumption) | omega | (exact ⟨by with_reducible assumption, by with_reducible assumption⟩)), ?_⟩)))) | ((with_reducible show (bodyPost _ _).rt _ _); (first | (refine end_rt ?_; with_reducible assumption) | refine end_rtT (decide_eq_true (by omega)) (by with_reducible assumption) | refine end_rtT rfl (by with_reducible assumption))) | ((with_reducible show TrD (.d (.bool _)) _ _); refine tr_bool ?_) | ((with_reducible show TrD (.d .none) _ _); refine tr_none ?_) | ((with_reducible show TrD (.d (.int _)) _ _); refine tr_int ?_) | ((with_reducible show TrD (.d (.list _)) _ _); refine tr_list ?_) | ((with_reducible show TrD (.d (.tuple _)) _ _); refine tr_tuple ?_) | ((with_reducible show TrD (.r (.ref _)) _ _); (first | refine tr_own (by ((repeat with_reducible first | exact Pick.zero | apply Pick.succ); (first | (all_goals fail) | fail))) ?_ | refine tr_dict (by ((repeat with_reducible first | exact Pick.zero | apply Pick.succ); (first | (all_goals fail) | fail))) ?_)) | ((with_reducible show CaD (rIsi _) _ _ _); (first | refine cd_isiT (by decide) rfl rfl ?_ | refine cd_isiF (by decide) rfl rfl ?_ | refine cd_isi (by decide) rfl ?_)) | ((with_reducible show CaD _ [.d (.int _), .d (.int _)] _ _); (first | refine cd_min ?_ | refine cd_max ?_)) | ((with_reducible show LenD (.d (.str _)) _ _); refine ld_str (by (first | (with_reducible assumption) | decide | ((try simp only [List.length_cons, List.length_nil, List.length_append, List.length_map, List.length_replicate]); omega) | (refine Nat.le_trans (cutL_len _ _ _) ?_; (try simp only [List.length_cons, List.length_nil, List.length_append, List.length_map, List.length_replicate]); omega) | (refine Nat.le_trans (Nat.add_le_add_left (cutL_len _ _ _) _) ?_; (try simp only [List.length_cons, List.length_nil, List.length_append, List.length_map, List.length_replicate]); omega) | (refine Nat.le_trans (Nat.add_le_add_right (cutL_len _ _ _) _) ?_; (try simp only [List.length_cons, List.length_nil, List.length_append, List.length_map, List.length_replicate]); omega))) ?_) | ((with_reducible show LenD (.r (.ref _)) _ _); refine ld_own (by ((repeat with_reducible first | exact Pick.zero | apply Pick.succ); (first | (all_goals fail) | fail))) ?_) | ((with_reducible show LenD _ _ _); refine ld_seq rfl ?_) | ((with_reducible show SlD _ (.d (.list _)) _ _ _ _); refine sd_list ?_) | ((with_reducible show SlD _ (.n _) _ _ _ _); refine sd_list ?_) | ((with_reducible show SlD _ (.r (.ref _)) _ _ _ _); refine sd_own (by ((repeat with_reducible first | exact Pick.zero | apply Pick.succ); (first | (all_goals fail) | fail))) (fun q => ?_)) | ((with_reducible show SlD _ (.d (.str _)) _ _ _ _); refine sd_str (by (first | (with_reducible assumption) | decide | ((try simp only [List.length_cons, List.length_nil, List.length_append, List.length_map, List.length_replicate]); omega) | (refine Nat.le_trans (cutL_len _ _ _) ?_; (try simp only [List.length_cons, List.length_nil, List.length_append, List.length_map, List.length_replicate]); omega) | (refine Nat.le_trans (Nat.add_le_add_left (cutL_len _ _ _) _) ?_; (try simp only [List.length_cons, List.length_nil, List.length_append, List.length_map, List.length_replicate]); omega) | (refine Nat.le_trans (Nat.add_le_add_right (cutL_len _ _ _) _) ?_; (try simp only [List.length_cons, List.length_nil, List.length_append, List.length_map, List.length_replicate]); omega))) ?_) | ((with_reducible show SlD _ (.d (.tuple [_, _, _, _])) none (some 2) _ _); refine sd_t42 ?_) | ((with_reducible show SlD _ (.d (.tuple [_, _, _, _, _, _])) (some 2) (some 5) _ _); refine sd_t625 ?_) | ((with_reducible show SlD _ (.d (.tuple [_, _, _, _])) (some 2) none _ _); refine sd_t4f2 ?_) | ((with_reducible show SlD _ (.d (.tuple _)) _ _ _ _); refine sd_tup (by first | decide | ((simp only [List.length_cons, List.length_nil]); decide +kernel)) ?_) | ((with_reducible show DO _ none _ _ _); refine do_none ?_) | ((with_reducible show DO _ (some _) _ _ _); refine do_some ?_) | (with_reducible refine ex_eqr ?_) | ((with_reducible show LsD _ _ _); first | refine ls_s (by (first | (with_reducible assumption) | decide | ((try simp only [List.length_cons, List.length_nil, List.length_append, List.length_map, List.length_replicate]); omega) | (refine Nat.le_trans (cutL_len _ _ _) ?_; (try simp only [List.length_cons, List.length_nil, List.length_append, List.length_map, List.length_replicate]); omega) | (refine Nat.le_trans (Nat.add_le_add_left (cutL_len _ _ _) _) ?_; (try simp only [List.length_cons, List.length_nil, List.length_append, List.length_map, List.length_replicate]); omega) | (refine Nat.le_trans (Nat.add_le_add_right (cutL_len _ _ _) _) ?_; (try simp only [List.length_cons, List.length_nil, List.length_append, List.length_map, List.length_replicate]); omega))) ?_ | refine ls_d rfl ?_) | ((with_reducible show LiD _ _ _); first | refine li_o (by ((repeat with_reducible first | exact Pick.zero | apply Pick.succ); (first | (all_goals fail) | fail))) (fun q => ?_) | refine li_d rfl (fun q => ?_)) | ((with_reducible show _ < 1920 ∧ _); refine ⟨log2_ok (by (first | omega | decide | (simp; omega))), ?_⟩) | ((with_reducible show CaD (rIsE _ _ _) [_, .r (.ty _)] _ _); refine cd_isEV (by with_reducible assumption) (by decide +kernel) ?_) | ((with_reducible show CaD (rIsE _ _ _) _ _ _); (first | refine cd_isE1 (r := true) (by with_reducible assumption) (by decide +kernel) (by decide +kernel) (by decide +kernel) ?_ | refine cd_isE1 (r := false) (by with_reducible assumption) (by decide +kernel) (by decide +kernel) (by decide +kernel) ?_)))) | dsimp only [List.nil_append, List.cons_append, Sl.plain])))
local macro_rules | `(tactic| walk_at "auto") => `(tactic| (repeat' (first | (first | ((with_reducible show DX _ _ _ _ _); (first | ((with_reducible show DX _ (.Subscript (.Attribute _ "my_rows" _) _ _) _ _ _); refine dx_dget ?_) | ((with_reducible show DX _ (.Call (.Attribute (.Attribute _ "my_rows" _) "get" _) [_] _ _) _ _ _); refine dx_dget1 ?_) | ((with_reducible show DX _ (.Call (.Attribute (.Attribute _ "my_rows" _) "get" _) [_, _] _ _) _ _ _); refine dx_dget2 ?_) | ((with_reducible show DX _ (.Call (.Attribute (.Attribute _ "my_rows" _) "pop" _) [_] _ _) _ _ _); refine dx_dpop1 ?_) | ((with_reducible show DX _ (.Call (.Attribute (.Attribute _ "my_rows" _) "pop" _) [_, _] _ _) _ _ _); refine dx_dpop2 ?_) | ((with_reducible show DX _ (.Call (.Name "len" _) [(.Attribute _ "my_rows" _)] _ _) _ _ _); refine dx_dlen ?_) | ((with_reducible show DX _ (.Call (.Name "list" _) [(.Attribute _ "my_rows" _)] _ _) _ _ _); refine dx_dlist ?_) | ((with_reducible show DX _ (.Call (.Name "dict" _) [(.Attribute _ "my_rows" _)] _ _) _ _ _); refine dx_dictO ?_) | ((with_reducible show DX _ (.Call (.Name "sorted" _) [(.Attribute _ "my_rows" _)] _ _) _ _ _); refine dx_sortedD ?_) | ((with_reducible show DX _ (.Compare _ [.In] [(.Attribute _ "my_rows" _)] _) _ _ _); refine dx_din ?_) | ((with_reducible show DX _ (.Compare _ [.NotIn] [(.Attribute _ "my_rows" _)] _) _ _ _); refine dx_dnin ?_) | ((with_reducible show DX _ (.Subscript (.Name "_law_rows" _) _ _) _ _ _); refine dx_dget ?_) | ((with_reducible show DX _ (.Call (.Attribute (.Name "_law_rows" _) "get" _) [_] _ _) _ _ _); refine dx_dget1 ?_) | ((with_reducible show DX _ (.Call (.Attribute (.Name "_law_rows" _) "get" _) [_, _] _ _) _ _ _); refine dx_dget2 ?_) | ((with_reducible show DX _ (.Call (.Attribute (.Name "_law_rows" _) "pop" _) [_] _ _) _ _ _); refine dx_dpop1 ?_) | ((with_reducible show DX _ (.Call (.Attribute (.Name "_law_rows" _) "pop" _) [_, _] _ _) _ _ _); refine dx_dpop2 ?_) | ((with_reducible show DX _ (.Call (.Name "len" _) [(.Name "_law_rows" _)] _ _) _ _ _); refine dx_dlen ?_) | ((with_reducible show DX _ (.Call (.Name "list" _) [(.Name "_law_rows" _)] _ _) _ _ _); refine dx_dlist ?_) | ((with_reducible show DX _ (.Call (.Name "dict" _) [(.Name "_law_rows" _)] _ _) _ _ _); refine dx_dictO ?_) | ((with_reducible show DX _ (.Call (.Name "sorted" _) [(.Name "_law_rows" _)] _ _) _ _ _); refine dx_sortedD ?_) | ((with_reducible show DX _ (.Compare _ [.In] [(.Name "_law_rows" _)] _) _ _ _); refine dx_din ?_) | ((with_reducible show DX _ (.Compare _ [.NotIn] [(.Name "_law_rows" _)] _) _ _ _); refine dx_dnin ?_) | ((with_reducible show DX _ (.Name _ _) _ _ _); (first | refine dx_name (by ((repeat with_reducible first | exact Slot.zero | apply Slot.succ); (first | (all_goals fail) | fail))) (by exact fun e => nomatch e) ?_ | refine dx_gint (by with_reducible assumption) ?_ | refine dx_gstr (by with_reducible assumption) ?_ | refine dx_gcls (by with_reducible assumption) (by decide +kernel) ?_ | ((with_reducible show DX _ (.Name "int" _) _ _ _); refine dx_tint ?_) | ((with_reducible show DX _ (.Name "bool" _) _ _ _); refine dx_tbool ?_) | ((with_reducible show DX _ (.Name "str" _) _ _ _); refine dx_tstr ?_) | ((with_reducible show DX _ (.Name "list" _) _ _ _); refine dx_tlist ?_) | ((with_reducible show DX _ (.Name "tuple" _) _ _ _); refine dx_ttuple ?_) | ((with_reducible show DX _ (.Name "ValueError" _) _ _ _); refine dx_tVE (by with_reducible assumption) ?_))) | ((with_reducible show DX _ (.Constant _ _ _) _ _ _); (first | ((with_reducible show DX _ (.Constant (.int _) _ _) _ _ _); refine dx_int ?_) | ((with_reducible show DX _ (.Constant (.str _) _ _) _ _ _); refine dx_str ?_) | ((with_reducible show DX _ (.Constant (.bool _) _ _) _ _ _); refine dx_bl ?_) | refine dx_non ?_)) | ((with_reducible show DX _ (.BinOp (.List [_] _) .Mult _ _) _ _ _); refine dx_repD ?_) | ((with_reducible show DX _ (.BinOp _ _ _ _) _ _ _); (first | ((with_reducible show DX _ (.BinOp _ .Add _ _) _ _ _); refine dx_bin cAdd ?_) | ((with_reducible show DX _ (.BinOp _ .Sub _ _) _ _ _); refine dx_bin op_sub ?_) | ((with_reducible show DX _ (.BinOp _ .Mult _ _) _ _ _); refine dx_bin op_uMul ?_) | ((with_reducible show DX _ (.BinOp _ .FloorDiv _ _) _ _ _); refine dx_bin op_fdivW ?_) | ((with_reducible show DX _ (.BinOp _ .Mod _ _) _ _ _); refine dx_bin op_mod ?_) | ((with_reducible show DX _ (.BinOp _ .Pow _ _) _ _ _); refine dx_bin op_pow ?_))) | ((with_reducible show DX _ (.Compare _ [_] _ _) _ _ _); (first | ((with_reducible show DX _ (.Compare _ [.Eq] [_] _) _ _ _); refine dx_cmp cEq (nomark _) ?_) | ((with_reducible show DX _ (.Compare _ [.NotEq] [_] _) _ _ _); refine dx_cmp cNe (nomark _) ?_) | ((with_reducible show DX _ (.Compare _ [.Lt] [_] _) _ _ _); refine dx_cmp op_lt (nomark _) ?_) | ((with_reducible show DX _ (.Compare _ [.LtE] [_] _) _ _ _); refine dx_cmp op_le (nomark _) ?_) | ((with_reducible show DX _ (.Compare _ [.Gt] [_] _) _ _ _); refine dx_cmp op_gt (nomark _) ?_) | ((with_reducible show DX _ (.Compare _ [.GtE] [_] _) _ _ _); refine dx_cmp op_ge (nomark _) ?_) | ((with_reducible show DX _ (.Compare _ [.Is] [_] _) _ _ _); refine dx_cmp op_uIs (nomark _) ?_) | ((with_reducible show DX _ (.Compare _ [.IsNot] [_] _) _ _ _); refine dx_cmp op_uIsn (nomark _) ?_) | ((with_reducible show DX _ (.Compare _ [.In] [_] _) _ _ _); refine dx_cmp cIn (rfl) ?_) | ((with_reducible show DX _ (.Compare _ [.NotIn] [_] _) _ _ _); refine dx_cmp cNin (rfl) ?_))) | ((with_reducible show DX _ (.Compare _ [_, _] _ _) _ _ _); (first | ((with_reducible show DX _ (.Compare _ [.LtE, .Lt] [_, _] _) _ _ _); refine dx_chain op_le op_lt ?_) | ((with_reducible show DX _ (.Compare _ [.LtE, .LtE] [_, _] _) _ _ _); refine dx_chain op_le op_le ?_))) | ((with_reducible show DX _ (.BoolOp _ [_] _) _ _ _); refine dx_one ?_) | ((with_reducible show DX _ (.BoolOp .And _ _) _ _ _); refine dx_and ?_) | ((with_reducible show DX _ (.BoolOp .Or _ _) _ _ _); refine dx_or ?_) | ((with_reducible show DX _ (.UnaryOp .Not _ _) _ _ _); refine dx_not ?_) | ((with_reducible show DX _ (.UnaryOp _ _ _) _ _ _); refine dx_neg ?_) | ((with_reducible show DX _ (.Subscript _ (.Slice _ _ _ _) _) _ _ _); refine dx_slice ?_) | ((with_reducible show DX _ (.Subscript _ _ _) _ _ _); refine dx_ix cIx ?_) | ((with_reducible show DX _ (.Tuple _ _ _) _ _ _); refine dx_tup ?_) | ((with_reducible show DX _ (.IfExp _ _ _ _) _ _ _); refine dx_ifExp ?_) | ((with_reducible show DX _ (.List _ _) _ _ _); refine dx_lst ?_) | ((with_reducible show DX _ (.Dict [] [] _) _ _ _); refine dx_dnew ?_) | ((with_reducible show DX _ (.Attribute _ _ _) _ _ _); refine dx_fld ?_) | ((with_reducible show DX _ (.Call (.Attribute _ "clear" _) [] _ _) _ _ _); refine dx_clear ?_) | ((with_reducible show DX _ (.Call (.Attribute _ "pop" _) [] _ _) _ _ _); refine dx_pop ?_) | ((with_reducible show DX _ (.Call (.Attribute _ _ _) [] _ _) _ _ _); refine dx_meth0 (by with_reducible assumption) (by with_reducible assumption) ?_) | ((with_reducible show DX _ (.Call (.Name _ _) [] _ _) _ _ _); refine dx_call0 (by with_reducible assumption) ?_) | ((with_reducible show DX _ (.Call (.Attribute _ "append" _) [_] _ _) _ _ _); refine dx_append ?_) | ((with_reducible show DX _ (.Call (.Attribute _ "join" _) [_] _ _) _ _ _); refine dx_join ?_) | ((with_reducible show DX _ (.Call (.Attribute _ "find" _) [_] _ _) _ _ _); refine dx_find ?_) | ((with_reducible show DX _ (.Call (.Attribute (.Constant (.str _) _ _) "index" _) [_] _ _) _ _ _); refine dx_sindex ?_) | ((with_reducible show DX _ (.Call (.Attribute _ "split" _) [_] _ _) _ _ _); refine dx_split ?_) | ((with_reducible show DX _ (.Call (.Attribute _ _ _) _ _ _) _ _ _); refine dx_meth (by with_reducible assumption) (by with_reducible assumption) ?_) | ((with_reducible show DX _ (.Call (.Name _ _) _ _ _) _ _ _); (first | ((with_reducible show DX _ (.Call (.Name "len" _) _ _ _) _ _ _); refine dx_len ?_) | ((with_reducible show DX _ (.Call (.Name "isinstance" _) _ _ _) _ _ _); (first | ((with_reducible show DX _ (.Call _ [_, .Tuple _ _ _] _ _) _ _ _); refine dx_isET (by with_reducible assumption) (by with_reducible assumption) (by decide +kernel) ?_) | ((with_reducible show DX _ (.Call _ [_, .Name _ _] _ _) _ _ _); first | refine dx_isE (by with_reducible assumption) ?_ | refine dx_isi ?_))) | ((with_reducible show DX _ (.Call (.Name "list" _) _ _ _) _ _ _); (first | refine dx_listA ?_ | refine dx_list ?_)) | ((with_reducible show DX _ (.Call (.Name "min" _) _ _ _) _ _ _); refine dx_min ?_) | ((with_reducible show DX _ (.Call (.Name "max" _) _ _ _) _ _ _); refine dx_max ?_) | ((with_reducible show DX _ (.Call (.Name "str" _) _ _ _) _ _ _); refine dx_cstr ?_) | ((with_reducible show DX _ (.Call (.Name "int" _) _ _ _) _ _ _); refine dx_cint ?_) | refine dx_call (by with_reducible assumption) ?_ | refine dx_make (by with_reducible assumption) ?_)))) | ((with_reducible show OpD _ _ _ _ _); (first | ((with_reducible show OpD (uAdd _) (.d (.int _)) (.d (.int _)) _ _); refine od_add ?_) | ((with_reducible show OpD (uAdd _) (.d (.str _)) (.d (.str _)) _ _); refine od_adds (by (first | (with_reducible assumption) | decide | ((try simp only [List.length_cons, List.length_nil, List.length_append, List.length_map, List.length_replicate]); omega) | (refine Nat.le_trans (cutL_len _ _ _) ?_; (try simp only [List.length_cons, List.length_nil, List.length_append, List.length_map, List.length_replicate]); omega) | (refine Nat.le_trans (Nat.add_le_add_left (cutL_len _ _ _) _) ?_; (try simp only [List.length_cons, List.length_nil, List.length_append, List.length_map, List.length_replicate]); omega) | (refine Nat.le_trans (Nat.add_le_add_right (cutL_len _ _ _) _) ?_; (try simp only [List.length_cons, List.length_nil, List.length_append, List.length_map, List.length_replicate]); omega))) ?_) | ((with_reducible show OpD (uAdd _) (.d (.tuple _)) (.d (.tuple _)) _ _); refine od_addt (by first | exact List.cons_ne_nil _ _ | decide) (by (first | (with_reducible assumption) | decide | ((try simp only [List.length_cons, List.length_nil, List.length_append, List.length_map, List.length_replicate]); omega) | (refine Nat.le_trans (cutL_len _ _ _) ?_; (try simp only [List.length_cons, List.length_nil, List.length_append, List.length_map, List.length_replicate]); omega) | (refine Nat.le_trans (Nat.add_le_add_left (cutL_len _ _ _) _) ?_; (try simp only [List.length_cons, List.length_nil, List.length_append, List.length_map, List.length_replicate]); omega) | (refine Nat.le_trans (Nat.add_le_add_right (cutL_len _ _ _) _) ?_; (try simp only [List.length_cons, List.length_nil, List.length_append, List.length_map, List.length_replicate]); omega))) ?_) | ((with_reducible show OpD (uAdd _) _ _ _ _); refine od_addl rfl rfl (by (first | (with_reducible assumption) | decide | ((try simp only [List.length_cons, List.length_nil, List.length_append, List.length_map, List.length_replicate]); omega) | (refine Nat.le_trans (cutL_len _ _ _) ?_; (try simp only [List.length_cons, List.length_nil, List.length_append, List.length_map, List.length_replicate]); omega) | (refine Nat.le_trans (Nat.add_le_add_left (cutL_len _ _ _) _) ?_; (try simp only [List.length_cons, List.length_nil, List.length_append, List.length_map, List.length_replicate]); omega) | (refine Nat.le_trans (Nat.add_le_add_right (cutL_len _ _ _) _) ?_; (try simp only [List.length_cons, List.length_nil, List.length_append, List.length_map, List.length_replicate]); omega))) ?_) | ((with_reducible show OpD (rI0 fun i j => .int (i - j)) _ _ _ _); refine od_sub ?_) | ((with_reducible show OpD uMul (.d (.int _)) (.d (.int _)) _ _); (first | refine od_mul (mul_r (by (first | omega | decide | (simp; omega)))) ?_ | refine od_mul (mul_l (by (first | omega | decide | (simp; omega)))) ?_ | refine od_mul (mul_ok (by (first | omega | decide | (simp; omega))) (by (first | omega | decide | (simp; omega)))) ?_)) | ((with_reducible show OpD (rI CDivW _) _ _ _ _); refine od_div (by (first | omega | decide | (simp; omega))) ?_) | ((with_reducible show OpD (rI CPow _) (.d (.int 10)) _ _ _); (first | (with_reducible refine od_p60 ?_) | (with_reducible refine od_p59 ?_) | (with_reducible refine od_p20 ?_) | (with_reducible refine od_p40 ?_) | (with_reducible refine od_p6 ?_) | (with_reducible refine od_p9 ?_) | (with_reducible refine od_p50 ?_) | (with_reducible refine od_p58 ?_) | (with_reducible refine od_p30 ?_) | (with_reducible refine od_p3 ?_))) | ((with_reducible show OpD (rI CPow _) _ _ _ _); refine od_pow (by decide) ?_) | ((with_reducible show OpD (rI0 fun i j => .bl (decide (i < j))) _ _ _ _); refine od_lt ?_) | ((with_reducible show OpD (rI0 fun i j => .bl (decide (i ≤ j))) _ _ _ _); refine od_le ?_) | ((with_reducible show OpD (rI0 fun i j => .bl (decide (j < i))) _ _ _ _); refine od_gt ?_) | ((with_reducible show OpD (rI0 fun i j => .bl (decide (j ≤ i))) _ _ _ _); refine od_ge ?_) | ((with_reducible show OpD (rI _ _) _ _ _ _); refine od_mod (by (first | omega | decide | (simp; omega))) ?_) | ((with_reducible show OpD (uEq _) _ _ _ _); (first | refine od_eq rfl rfl (by first | exact .int _ _ | exact .str _ _ | exact .bl _ _ | exact .nn | exact .ni _ | exact .in_ _ | exact .ns _ | exact .sn _) ?_ | refine od_eqS rfl rfl (by first | (with_reducible assumption) | decide +kernel | rfl) ?_ | refine od_eq rfl rfl (.dat (by first | (with_reducible assumption) | decide +kernel | rfl) (by first | (with_reducible assumption) | decide +kernel | rfl)) ?_)) | ((with_reducible show OpD (uNe _) _ _ _ _); (first | (with_reducible refine od_nenm ?_) | refine od_ne rfl rfl (by first | exact .int _ _ | exact .str _ _ | exact .bl _ _ | exact .nn | exact .ni _ | exact .in_ _ | exact .ns _ | exact .sn _) ?_ | refine od_neS rfl rfl (by first | (with_reducible assumption) | decide +kernel | rfl) ?_ | refine od_ne rfl rfl (.dat (by first | (with_reducible assumption) | decide +kernel | rfl) (by first | (with_reducible assumption) | decide +kernel | rfl)) ?_)) | ((with_reducible show OpD (uNin _) (.d (.str _)) (.d (.str _)) _ _); refine od_nins ?_) | ((with_reducible show OpD (uIn _) (.d (.str _)) (.d (.str _)) _ _); refine od_ins ?_) | ((with_reducible show OpD (uIn _) (.d _) (.r (.ref _)) _ _); refine od_inO (by ((repeat with_reducible first | exact Pick.zero | apply Pick.succ); (first | (all_goals fail) | fail))) rfl (by with_reducible assumption) ?_) | ((with_reducible show OpD (uNin _) (.d _) (.r (.ref _)) _ _); refine od_ninO (by ((repeat with_reducible first | exact Pick.zero | apply Pick.succ); (first | (all_goals fail) | fail))) rfl (by with_reducible assumption) ?_) | ((with_reducible show OpD uIs _ _ _ _); (first | (with_reducible refine od_isnm ?_) | refine od_is rfl ?_)) | ((with_reducible show OpD uIsn _ _ _ _); (first | (with_reducible refine od_isnnm ?_) | refine od_isn rfl ?_)) | ((with_reducible show OpD (rIx _) (.r (.ref _)) _ _ _); refine od_ixo (by ((repeat with_reducible first | exact Pick.zero | apply Pick.succ); (first | (all_goals fail) | fail))) (by first | rfl | with_reducible assumption) (by exact fun _ z => nomatch z) ?_) | ((with_reducible show OpD (rIx _) (.d (.str _)) _ _ _); refine od_ixt (by (first | (with_reducible assumption) | decide | ((try simp only [List.length_cons, List.length_nil, List.length_append, List.length_map, List.length_replicate]); omega) | (refine Nat.le_trans (cutL_len _ _ _) ?_; (try simp only [List.length_cons, List.length_nil, List.length_append, List.length_map, List.length_replicate]); omega) | (refine Nat.le_trans (Nat.add_le_add_left (cutL_len _ _ _) _) ?_; (try simp only [List.length_cons, List.length_nil, List.length_append, List.length_map, List.length_replicate]); omega) | (refine Nat.le_trans (Nat.add_le_add_right (cutL_len _ _ _) _) ?_; (try simp only [List.length_cons, List.length_nil, List.length_append, List.length_map, List.length_replicate]); omega))) (by with_reducible assumption) ?_) | ((with_reducible show OpD (rIx _) _ _ _ _); refine od_ixs rfl (by first | rfl | with_reducible assumption) ?_))) | ((with_reducible show DS _ _ _ _ _); (first | ((with_reducible show DS _ (.Assign [.Subscript (.Attribute _ "my_rows" _) _ _] (.Call (.Name "list" _) [_] _ _) _) _ _ _); refine ds_dput (dx_listU ?_)) | ((with_reducible show DS _ (.Assign [.Subscript (.Attribute _ "my_rows" _) _ _] _ _) _ _ _); refine ds_dput ?_) | ((with_reducible show DS _ (.Assign [.Subscript (.Name "_law_rows" _) _ _] _ _) _ _ _); refine ds_dput ?_) | ((with_reducible show DS _ (.Assign [.Name "_law_handed" _] (.Call (.Name "list" _) _ _ _) _) _ _ _); refine ds_set (dx_listU ?_)) | ((with_reducible show DS _ (.Assign [.Name _ _] _ _) _ _ _); (fail_if_success (with_reducible show DS _ (.Assign _ (.List [] _) _) _ _ _)); (fail_if_success (with_reducible show DS _ (.Assign _ (.ListComp _ _ _ _) _) _ _ _)); refine ds_set ?_) | ((with_reducible show DS _ (.Assign [.Attribute _ _ _] _ _) _ _ _); (fail_if_success (with_reducible show DS _ (.Assign _ (.List _ _) _) _ _ _)); (fail_if_success (with_reducible show DS _ (.Assign _ (.ListComp _ _ _ _) _) _ _ _)); refine ds_fld ?_) | ((with_reducible show DS _ (.Assign [.Subscript _ _ _] _ _) _ _ _); (fail_if_success (with_reducible show DS _ (.Assign [.Subscript (.Subscript _ _ _) _ _] _ _) _ _ _)); refine ds_seti ?_) | ((with_reducible show DS _ (.Return (some _) _) _ _ _); refine ds_ret ?_) | ((with_reducible show DS _ (.Return none _) _ _ _); refine ds_retN ?_) | ((with_reducible show DS _ (.If _ _ _ _) _ _ _); refine ds_if ?_) | ((with_reducible show DS _ (.Expr (.Constant _ _ _) _) _ _ _); refine ds_doc ?_) | ((with_reducible show DS _ (.Expr _ _) _ _ _); refine ds_expr ?_) | ((with_reducible show DS _ (.Pass _) _ _ _); refine ds_pass ?_) | ((with_reducible show DS _ (.Break _) _ _ _); refine ds_break ?_) | ((with_reducible show DS _ (.Continue _) _ _ _); refine ds_continue ?_) | ((with_reducible show DS _ (.Raise (some (.Call (.Name _ _) [.Constant (.str _) _ _] [] _)) none _) _ _ _); refine ds_raise (by with_reducible assumption) (by decide +kernel) (by decide +kernel) ?_))) | ((with_reducible show DSs _ _ _ _ _); (first | ((with_reducible show DSs _ (_ :: _) _ _ _); refine dss_cons ?_) | ((with_reducible show DSs _ [] _ _ _); refine dss_nil ?_))) | ((with_reducible show DT _ _ _ _ _); (first | ((with_reducible show DT _ (.Compare _ [.In] [(.Attribute _ "my_rows" _)] _) _ _ _); refine dt_din ?_) | ((with_reducible show DT _ (.Compare _ [.NotIn] [(.Attribute _ "my_rows" _)] _) _ _ _); refine dt_dnin ?_) | ((with_reducible show DT _ (.Compare _ [.In] [(.Name "_law_rows" _)] _) _ _ _); refine dt_din ?_) | ((with_reducible show DT _ (.Compare _ [.NotIn] [(.Name "_law_rows" _)] _) _ _ _); refine dt_dnin ?_) | ((with_reducible show DT _ (.BoolOp _ _ _) _ _ _); refine dt_bool ?_) | ((with_reducible show DT _ (.UnaryOp .Not _ _) _ _ _); refine dt_not ?_) | ((with_reducible show DT _ (.Compare _ [_] _ _) _ _ _); (first | ((with_reducible show DT _ (.Compare _ [.Eq] [_] _) _ _ _); refine dt_cmp cEq (nomark _) ?_) | ((with_reducible show DT _ (.Compare _ [.NotEq] [_] _) _ _ _); refine dt_cmp cNe (nomark _) ?_) | ((with_reducible show DT _ (.Compare _ [.Lt] [_] _) _ _ _); refine dt_cmp op_lt (nomark _) ?_) | ((with_reducible show DT _ (.Compare _ [.LtE] [_] _) _ _ _); refine dt_cmp op_le (nomark _) ?_) | ((with_reducible show DT _ (.Compare _ [.Gt] [_] _) _ _ _); refine dt_cmp op_gt (nomark _) ?_) | ((with_reducible show DT _ (.Compare _ [.GtE] [_] _) _ _ _); refine dt_cmp op_ge (nomark _) ?_) | ((with_reducible show DT _ (.Compare _ [.Is] [_] _) _ _ _); refine dt_cmp op_uIs (nomark _) ?_) | ((with_reducible show DT _ (.Compare _ [.IsNot] [_] _) _ _ _); refine dt_cmp op_uIsn (nomark _) ?_) | ((with_reducible show DT _ (.Compare _ [.In] [_] _) _ _ _); refine dt_cmp cIn (rfl) ?_) | ((with_reducible show DT _ (.Compare _ [.NotIn] [_] _) _ _ _); refine dt_cmp cNin (rfl) ?_))) | ((with_reducible show DT _ (.Compare _ [_, _] _ _) _ _ _); (first | ((with_reducible show DT _ (.Compare _ [.LtE, .Lt] [_, _] _) _ _ _); refine dt_chain op_le op_lt ?_) | ((with_reducible show DT _ (.Compare _ [.LtE, .LtE] [_, _] _) _ _ _); refine dt_chain op_le op_le ?_))) | ((with_reducible show DT _ _ _ _ _); refine dt_tru ?_))) | ((with_reducible show DW _ _ _ _ _); (first | ((with_reducible show DW _ (.BoolOp .And [_] _) _ _ _); refine dw_and1 ?_) | ((with_reducible show DW _ (.BoolOp .Or [_] _) _ _ _); refine dw_or1 ?_) | ((with_reducible show DW _ (.BoolOp .And _ _) _ _ _); refine dw_and ?_) | ((with_reducible show DW _ (.BoolOp .Or _ _) _ _ _); refine dw_or ?_))) | ((with_reducible show DA _ _ _ _ _); (first | ((with_reducible show DA _ (.Call (.Attribute _ "row_of_sheet" _) _ _ _ :: _) _ _ _); refine da_cons (dx_frz ?_)) | ((with_reducible show DA _ (_ :: _) _ _ _); refine da_cons ?_) | ((with_reducible show DA _ [] _ _ _); refine da_nil ?_))) | ((with_reducible show if _ = true then _ else _); (first | (with_reducible refine ite_tt ?_) | (with_reducible refine ite_ff ?_) | (with_reducible refine ite_nt ?_) | (with_reducible refine ite_nf ?_) | ((with_reducible show if decide _ = true then _ else _); first | refine ite_dt (by (first | (with_reducible assumption) | omega | decide +kernel | ((simp only [List.length_cons, List.length_nil, List.length_map, List.length_append]); omega) | ((simp only [List.length_cons, List.length_nil, List.length_map, List.length_append]); (first | (all_goals fail) | fail)))) ?_ | refine ite_df (by (first | (with_reducible assumption) | omega | decide +kernel | ((simp only [List.length_cons, List.length_nil, List.length_map, List.length_append]); omega) | ((simp only [List.length_cons, List.length_nil, List.length_map, List.length_append]); (first | (all_goals fail) | fail)))) ?_) | ((with_reducible show if (!decide _) = true then _ else _); first | refine ite_ndf (by (first | (with_reducible assumption) | omega | decide +kernel | ((simp only [List.length_cons, List.length_nil, List.length_map, List.length_append]); omega) | ((simp only [List.length_cons, List.length_nil, List.length_map, List.length_append]); (first | (all_goals fail) | fail)))) ?_ | refine ite_ndt (by (first | (with_reducible assumption) | omega | decide +kernel | ((simp only [List.length_cons, List.length_nil, List.length_map, List.length_append]); omega) | ((simp only [List.length_cons, List.length_nil, List.length_map, List.length_append]); (first | (all_goals fail) | fail)))) ?_) | (with_reducible refine ite_nn ?_) | ((with_reducible show if PyData.eqv _ _ = true then _ else _); first | refine ite_t (by decide +kernel) ?_ | refine ite_f (by decide +kernel) ?_ | refine ite_t rfl ?_ | refine ite_f rfl ?_) | ((with_reducible show if (!PyData.eqv _ _) = true then _ else _); first | refine ite_t (by decide +kernel) ?_ | refine ite_f (by decide +kernel) ?_ | refine ite_t rfl ?_ | refine ite_f rfl ?_) | ((with_reducible show if wholeD (.int _) = true then _ else _); refine ite_t rfl ?_) | ((with_reducible show if (!wholeD (.int _)) = true then _ else _); refine ite_f rfl ?_) | ((with_reducible show if isD _ _ = true then _ else _); first | refine ite_t rfl ?_ | refine ite_f rfl ?_) | ((with_reducible show if (!isD _ _) = true then _ else _); first | refine ite_t rfl ?_ | refine ite_f rfl ?_))) | ((with_reducible show Exists _); (first | (with_reducible refine me_shelf (by ((repeat with_reducible first | exact Pick.zero | apply Pick.succ); (first | (all_goals fail) | fail))) (by decide +kernel) ?_) | ((with_reducible show ∃ i ρ', SetS _ _ _ i _ ρ' ∧ _); refine ⟨_, _, by ((repeat with_reducible first | exact SetS.zero | apply SetS.succ); (first | (all_goals fail) | fail)), ?_⟩) | (with_reducible refine ex_list rfl ?_) | ((with_reducible show ∃ ds, Sl.asSeq _ = some ds ∧ _); refine ex_seq rfl ?_) | ((with_reducible show ∃ ds, Datas _ ds ∧ _); refine ex_datas (by ((repeat with_reducible first | exact datas_nil | apply datas_cons); (first | (all_goals fail) | fail))) (by first | exact Nat.le_of_ble_eq_true rfl | (first | (with_reducible assumption) | decide | ((try simp only [List.length_cons, List.length_nil, List.length_append, List.length_map, List.length_replicate]); omega) | (refine Nat.le_trans (cutL_len _ _ _) ?_; (try simp only [List.length_cons, List.length_nil, List.length_append, List.length_map, List.length_replicate]); omega) | (refine Nat.le_trans (Nat.add_le_add_left (cutL_len _ _ _) _) ?_; (try simp only [List.length_cons, List.length_nil, List.length_append, List.length_map, List.length_replicate]); omega) | (refine Nat.le_trans (Nat.add_le_add_right (cutL_len _ _ _) _) ?_; (try simp only [List.length_cons, List.length_nil, List.length_append, List.length_map, List.length_replicate]); omega))) ?_) | ((with_reducible show ∃ C p fs g sl, _ = Sl.r (.ref p) ∧ Pick _ (insM C p fs) g ∧ FldC _ C _ ∧ FldAt fs _ sl ∧ _); refine ex_fld (by ((repeat with_reducible first | exact Pick.zero | apply Pick.succ); (first | (all_goals fail) | fail))) (fldc (by with_reducible assumption) (by decide +kernel)) (by ((repeat with_reducible first | exact FldAt.zero | apply FldAt.succ); (first | (all_goals fail) | fail))) (by (simp only [List.map_cons, List.map_nil]); decide +kernel) (by exact fun _ z => nomatch z) ?_) | ((with_reducible show ∃ C p fs g fs2, _ = Sl.r (.ref p) ∧ Pick _ (insM C p fs) g ∧ FldC _ C _ ∧ (FldSet fs _ _ fs2 ∨ _) ∧ _); first | refine ex_fset (by ((repeat with_reducible first | exact Pick.zero | apply Pick.succ); (first | (all_goals fail) | fail))) (fldc (by with_reducible assumption) (by decide +kernel)) (by ((repeat with_reducible first | exact FldSet.zero | apply FldSet.succ); (first | (all_goals fail) | fail))) (by (simp only [List.map_cons, List.map_nil]); decide +kernel) (by exact Nat.le_of_ble_eq_true rfl) ?_ | refine ex_fnew (by ((repeat with_reducible first | exact Pick.zero | apply Pick.succ); (first | (all_goals fail) | fail))) (fldc (by with_reducible assumption) (by decide +kernel)) (by (simp only [List.map_cons, List.map_nil]); decide +kernel) (by (simp only [List.map_cons, List.map_nil]); decide +kernel) (by exact Nat.le_of_ble_eq_true rfl) ?_) | ((with_reducible show ∃ p ss f k j, _ = Sl.r (.ref p) ∧ _ = Sl.d (.int k) ∧ _); refine ex_seti (by ((repeat with_reducible first | exact Pick.zero | apply Pick.succ); (first | (all_goals fail) | fail))) (by first | with_reducible assumption | rfl) ?_) | (with_reducible refine ex_frz (by ((repeat with_reducible first | exact Pick.zero | apply Pick.succ); (first | (all_goals fail) | fail))) ?_) | (with_reducible refine ex_own (by ((repeat with_reducible first | exact Pick.zero | apply Pick.succ); (first | (all_goals fail) | fail))) ?_) | (with_reducible refine ex_app (by ((repeat with_reducible first | exact Pick.zero | apply Pick.succ); (first | (all_goals fail) | fail))) (by (first | (with_reducible assumption) | decide | ((try simp only [List.length_cons, List.length_nil, List.length_append, List.length_map, List.length_replicate]); omega) | (refine Nat.le_trans (cutL_len _ _ _) ?_; (try simp only [List.length_cons, List.length_nil, List.length_append, List.length_map, List.length_replicate]); omega) | (refine Nat.le_trans (Nat.add_le_add_left (cutL_len _ _ _) _) ?_; (try simp only [List.length_cons, List.length_nil, List.length_append, List.length_map, List.length_replicate]); omega) | (refine Nat.le_trans (Nat.add_le_add_right (cutL_len _ _ _) _) ?_; (try simp only [List.length_cons, List.length_nil, List.length_append, List.length_map, List.length_replicate]); omega))) ?_) | ((with_reducible show ∃ ys, RefsE _ _ ys ∧ _); (first | refine ex_refs (w := false) (by ((repeat with_reducible first | exact RefsE.nil | apply RefsE.cons); (first | (all_goals fail) | fail))) (by decide +kernel) ?_ | refine ex_refs (w := true) (by ((repeat with_reducible first | exact RefsE.nil | apply RefsE.cons); (first | (all_goals fail) | fail))) (by decide +kernel) ?_)) | ((with_reducible show ∃ rs', Ent [_] (rs' ++ [_]) ∧ _); (refine end_ex ?_; with_reducible assumption)) | ((with_reducible show ∃ ρ', SetS _ _ _ _ _ ρ' ∧ _); refine ⟨_, by ((repeat with_reducible first | exact SetS.zero | apply SetS.succ); (first | (all_goals fail) | fail)), ?_⟩) | (with_reducible refine ex_rep (by ((repeat with_reducible first | exact Pick.zero | apply Pick.succ); (first | (all_goals fail) | fail))) (by (first | omega | decide | (simp; omega))) ?_) | (with_reducible refine ex_dat ?_) | (with_reducible refine ex_int ?_) | (with_reducible refine ex_str ?_) | (with_reducible refine ex_dic (by ((repeat with_reducible first | exact Pick.zero | apply Pick.succ); (first | (all_goals fail) | fail))) ?_) | (with_reducible refine ex_din1 (by ((repeat with_reducible first | exact Pick.zero | apply Pick.succ); (first | (all_goals fail) | fail))) ?_) | (with_reducible refine ex_din2 (by ((repeat with_reducible first | exact Pick.zero | apply Pick.succ); (first | (all_goals fail) | fail))) ?_) | (with_reducible refine ex_dlen (by ((repeat with_reducible first | exact Pick.zero | apply Pick.succ); (first | (all_goals fail) | fail))) ?_) | ((with_reducible show ∃ p kvs f k, _ = Sl.r (.ref p) ∧ _ = Sl.d (keyD k) ∧ Pick _ (dictM p kvs) f ∧ kvs.length ≤ _ ∧ _); first | refine ex_dputI (by ((repeat with_reducible first | exact Pick.zero | apply Pick.succ); (first | (all_goals fail) | fail))) (by (first | (with_reducible assumption) | decide | ((try simp only [List.length_cons, List.length_nil, List.length_append, List.length_map, List.length_replicate]); omega) | (refine Nat.le_trans (cutL_len _ _ _) ?_; (try simp only [List.length_cons, List.length_nil, List.length_append, List.length_map, List.length_replicate]); omega) | (refine Nat.le_trans (Nat.add_le_add_left (cutL_len _ _ _) _) ?_; (try simp only [List.length_cons, List.length_nil, List.length_append, List.length_map, List.length_replicate]); omega) | (refine Nat.le_trans (Nat.add_le_add_right (cutL_len _ _ _) _) ?_; (try simp only [List.length_cons, List.length_nil, List.length_append, List.length_map, List.length_replicate]); omega))) ?_ | refine ex_dputS (by ((repeat with_reducible first | exact Pick.zero | apply Pick.succ); (first | (all_goals fail) | fail))) (by (first | (with_reducible assumption) | decide | ((try simp only [List.length_cons, List.length_nil, List.length_append, List.length_map, List.length_replicate]); omega) | (refine Nat.le_trans (cutL_len _ _ _) ?_; (try simp only [List.length_cons, List.length_nil, List.length_append, List.length_map, List.length_replicate]); omega) | (refine Nat.le_trans (Nat.add_le_add_left (cutL_len _ _ _) _) ?_; (try simp only [List.length_cons, List.length_nil, List.length_append, List.length_map, List.length_replicate]); omega) | (refine Nat.le_trans (Nat.add_le_add_right (cutL_len _ _ _) _) ?_; (try simp only [List.length_cons, List.length_nil, List.length_append, List.length_map, List.length_replicate]); omega))) ?_) | ((with_reducible show ∃ p kvs f k, _ = Sl.r (.ref p) ∧ _ = Sl.d (keyD k) ∧ Pick _ (dictM p kvs) f ∧ _); first | refine ex_din1 (by ((repeat with_reducible first | exact Pick.zero | apply Pick.succ); (first | (all_goals fail) | fail))) ?_ | refine ex_din2 (by ((repeat with_reducible first | exact Pick.zero | apply Pick.succ); (first | (all_goals fail) | fail))) ?_) | ((with_reducible show ∃ kvs f k s, _ = Sl.d (keyD k) ∧ Pick _ (dictM _ kvs) f ∧ valS kvs k = some s ∧ _); first | refine ex_dpopI (by ((repeat with_reducible first | exact Pick.zero | apply Pick.succ); (first | (all_goals fail) | fail))) (by with_reducible assumption) (by exact fun _ z => nomatch z) ?_ | refine ex_dpopS (by ((repeat with_reducible first | exact Pick.zero | apply Pick.succ); (first | (all_goals fail) | fail))) (by with_reducible assumption) (by exact fun _ z => nomatch z) ?_) | ((with_reducible show ∃ p kvs f k s, _ = Sl.r (.ref p) ∧ _ = Sl.d (keyD k) ∧ Pick _ (dictM p kvs) f ∧ _); first | refine ex_dget (by ((repeat with_reducible first | exact Pick.zero | apply Pick.succ); (first | (all_goals fail) | fail))) (by with_reducible assumption) (by exact fun _ z => nomatch z) ?_ | refine ex_dgetS (by ((repeat with_reducible first | exact Pick.zero | apply Pick.succ); (first | (all_goals fail) | fail))) (by with_reducible assumption) (by exact fun _ z => nomatch z) ?_))) | (first | (with_reducible refine kt ?_) | ((with_reducible show ∀ _ : Addr, _); intro q) | ((with_reducible show Le _ _ ∧ _ = _); exact ⟨by ((repeat with_reducible first | exact Le.nil | apply Le.eq | apply Le.un); (first | (all_goals fail) | fail)), rfl⟩) | ((with_reducible show CallEnd _ _ _ _ _ _); (first | ((with_reducible refine ce_shelf (by ((repeat with_reducible first | exact Pick.zero | apply Pick.succ); (first | (all_goals fail) | fail))) ?_); (first | refine ⟨_, rfl, rfl, by (first | (with_reducible trivial) | (with_reducible assumption) | omega | (exact ⟨by with_reducible assumption, by with_reducible assumption⟩)), ?_⟩ | refine ⟨_, _, rfl, rfl, by (first | (with_reducible trivial) | (with_reducible assumption) | omega | (exact ⟨by with_reducible assumption, by with_reducible assumption⟩)), ?_⟩ | refine ⟨_, _, _, rfl, rfl, by (first | (with_reducible trivial) | (with_reducible assumption) | omega | (exact ⟨by with_reducible assumption, by with_reducible assumption⟩)), ?_⟩ | refine ⟨_, _, _, _, rfl, rfl, by (first | (with_reducible trivial) | (with_reducible assumption) | omega | (exact ⟨by with_reducible assumption, by with_reducible assumption⟩)), ?_⟩ | refine ⟨_, _, _, _, _, rfl, rfl, by (first | (with_reducible trivial) | (with_reducible assumption) | omega | (exact ⟨by with_reducible assumption, by with_reducible assumption⟩)), ?_⟩ | refine ⟨_, _, _, _, _, _, rfl, rfl, by (first | (with_reducible trivial) | (with_reducible assumption) | omega | (exact ⟨by with_reducible assumption, by with_reducible assumption⟩)), ?_⟩ | refine ⟨_, _, _, _, _, _, _, rfl, rfl, by (first | (with_reducible trivial) | (with_reducible assumption) | omega | (exact ⟨by with_reducible assumption, by with_reducible assumption⟩)), ?_⟩ | refine ⟨_, _, _, _, _, _, _, _, rfl, rfl, by (first | (with_reducible trivial) | (with_reducible assumption) | omega | (exact ⟨by with_reducible assumption, by with_reducible assumption⟩)), ?_⟩)) | (refine ce_inl ?_; first | refine ⟨_, rfl, rfl, by (first | (with_reducible trivial) | (with_reducible assumption) | omega | (exact ⟨by with_reducible assumption, by with_reducible assumption⟩)), ?_⟩ | refine ⟨_, _, rfl, rfl, by (first | (with_reducible trivial) | (with_reducible assumption) | omega | (exact ⟨by with_reducible assumption, by with_reducible assumption⟩)), ?_⟩ | refine ⟨_, _, _, rfl, rfl, by (first | (with_reducible trivial) | (with_reducible assumption) | omega | (exact ⟨by with_reducible assumption, by with_reducible assumption⟩)), ?_⟩ | refine ⟨_, _, _, _, rfl, rfl, by (first | (with_reducible trivial) | (with_reducible assumption) | omega | (exact ⟨by with_reducible assumption, by with_reducible assumption⟩)), ?_⟩ | refine ⟨_, _, _, _, _, rfl, rfl, by (first | (with_reducible trivial) | (with_reducible assumption) | omega | (exact ⟨by with_reducible assumption, by with_reducible assumption⟩)), ?_⟩ | refine ⟨_, _, _, _, _, _, rfl, rfl, by (first | (with_reducible trivial) | (with_reducible assumption) | omega | (exact ⟨by with_reducible assumption, by with_reducible assumption⟩)), ?_⟩))) | ((with_reducible show CallEnd0 _ _ _ _); (first | ((with_reducible refine ce0_shelf (by ((repeat with_reducible first | exact Pick.zero | apply Pick.succ); (first | (all_goals fail) | fail))) ?_); (first | refine ⟨_, rfl, rfl, by (first | (with_reducible trivial) | (with_reducible assumption) | omega | (exact ⟨by with_reducible assumption, by with_reducible assumption⟩)), ?_⟩ | refine ⟨_, _, rfl, rfl, by (first | (with_reducible trivial) | (with_reducible assumption) | omega | (exact ⟨by with_reducible assumption, by with_reducible assumption⟩)), ?_⟩ | refine ⟨_, _, _, rfl, rfl, by (first | (with_reducible trivial) | (with_reducible assumption) | omega | (exact ⟨by with_reducible assumption, by with_reducible assumption⟩)), ?_⟩ | refine ⟨_, _, _, _, rfl, rfl, by (first | (with_reducible trivial) | (with_reducible assumption) | omega | (exact ⟨by with_reducible assumption, by with_reducible assumption⟩)), ?_⟩ | refine ⟨_, _, _, _, _, rfl, rfl, by (first | (with_reducible trivial) | (with_reducible assumption) | omega | (exact ⟨by with_reducible assumption, by with_reducible assumption⟩)), ?_⟩ | refine ⟨_, _, _, _, _, _, rfl, rfl, by (first | (with_reducible trivial) | (with_reducible assumption) | omega | (exact ⟨by with_reducible assumption, by with_reducible assumption⟩)), ?_⟩ | refine ⟨_, _, _, _, _, _, _, rfl, rfl, by (first | (with_reducible trivial) | (with_reducible assumption) | omega | (exact ⟨by with_reducible assumption, by with_reducible assumption⟩)), ?_⟩ | refine ⟨_, _, _, _, _, _, _, _, rfl, rfl, by (first | (with_reducible trivial) | (with_reducible assumption) | omega | (exact ⟨by with_reducible assumption, by with_reducible assumption⟩)), ?_⟩)))) | ((with_reducible show (bodyPost _ _).rt _ _); (first | (refine end_rt ?_; with_reducible assumption) | refine end_rtT (decide_eq_true (by omega)) (by with_reducible assumption) | refine end_rtT rfl (by with_reducible assumption))) | ((with_reducible show TrD (.d (.bool _)) _ _); refine tr_bool ?_) | ((with_reducible show TrD (.d .none) _ _); refine tr_none ?_) | ((with_reducible show TrD (.d (.int _)) _ _); refine tr_int ?_) | ((with_reducible show TrD (.d (.list _)) _ _); refine tr_list ?_) | ((with_reducible show TrD (.d (.tuple _)) _ _); refine tr_tuple ?_) | ((with_reducible show TrD (.r (.ref _)) _ _); (first | refine tr_own (by ((repeat with_reducible first | exact Pick.zero | apply Pick.succ); (first | (all_goals fail) | fail))) ?_ | refine tr_dict (by ((repeat with_reducible first | exact Pick.zero | apply Pick.succ); (first | (all_goals fail) | fail))) ?_)) | ((with_reducible show CaD (rIsi _) _ _ _); (first | refine cd_isiT (by decide) rfl rfl ?_ | refine cd_isiF (by decide) rfl rfl ?_ | refine cd_isi (by decide) rfl ?_)) | ((with_reducible show CaD _ [.d (.int _), .d (.int _)] _ _); (first | refine cd_min ?_ | refine cd_max ?_)) | ((with_reducible show LenD (.d (.str _)) _ _); refine ld_str (by (first | (with_reducible assumption) | decide | ((try simp only [List.length_cons, List.length_nil, List.length_append, List.length_map, List.length_replicate]); omega) | (refine Nat.le_trans (cutL_len _ _ _) ?_; (try simp only [List.length_cons, List.length_nil, List.length_append, List.length_map, List.length_replicate]); omega) | (refine Nat.le_trans (Nat.add_le_add_left (cutL_len _ _ _) _) ?_; (try simp only [List.length_cons, List.length_nil, List.length_append, List.length_map, List.length_replicate]); omega) | (refine Nat.le_trans (Nat.add_le_add_right (cutL_len _ _ _) _) ?_; (try simp only [List.length_cons, List.length_nil, List.length_append, List.length_map, List.length_replicate]); omega))) ?_) | ((with_reducible show LenD (.r (.ref _)) _ _); refine ld_own (by ((repeat with_reducible first | exact Pick.zero | apply Pick.succ); (first | (all_goals fail) | fail))) ?_) | ((with_reducible show LenD _ _ _); refine ld_seq rfl ?_) | ((with_reducible show SlD _ (.d (.list _)) _ _ _ _); refine sd_list ?_) | ((with_reducible show SlD _ (.n _) _ _ _ _); refine sd_list ?_) | ((with_reducible show SlD _ (.r (.ref _)) _ _ _ _); refine sd_own (by ((repeat with_reducible first | exact Pick.zero | apply Pick.succ); (first | (all_goals fail) | fail))) (fun q => ?_)) | ((with_reducible show SlD _ (.d (.str _)) _ _ _ _); refine sd_str (by (first | (with_reducible assumption) | decide | ((try simp only [List.length_cons, List.length_nil, List.length_append, List.length_map, List.length_replicate]); omega) | (refine Nat.le_trans (cutL_len _ _ _) ?_; (try simp only [List.length_cons, List.length_nil, List.length_append, List.length_map, List.length_replicate]); omega) | (refine Nat.le_trans (Nat.add_le_add_left (cutL_len _ _ _) _) ?_; (try simp only [List.length_cons, List.length_nil, List.length_append, List.length_map, List.length_replicate]); omega) | (refine Nat.le_trans (Nat.add_le_add_right (cutL_len _ _ _) _) ?_; (try simp only [List.length_cons, List.length_nil, List.length_append, List.length_map, List.length_replicate]); omega))) ?_) | ((with_reducible show SlD _ (.d (.tuple [_, _, _, _])) none (some 2) _ _); refine sd_t42 ?_) | ((with_reducible show SlD _ (.d (.tuple [_, _, _, _, _, _])) (some 2) (some 5) _ _); refine sd_t625 ?_) | ((with_reducible show SlD _ (.d (.tuple [_, _, _, _])) (some 2) none _ _); refine sd_t4f2 ?_) | ((with_reducible show SlD _ (.d (.tuple _)) _ _ _ _); refine sd_tup (by first | decide | ((simp only [List.length_cons, List.length_nil]); decide +kernel)) ?_) | ((with_reducible show DO _ none _ _ _); refine do_none ?_) | ((with_reducible show DO _ (some _) _ _ _); refine do_some ?_) | (with_reducible refine ex_eqr ?_) | ((with_reducible show LsD _ _ _); first | refine ls_s (by (first | (with_reducible assumption) | decide | ((try simp only [List.length_cons, List.length_nil, List.length_append, List.length_map, List.length_replicate]); omega) | (refine Nat.le_trans (cutL_len _ _ _) ?_; (try simp only [List.length_cons, List.length_nil, List.length_append, List.length_map, List.length_replicate]); omega) | (refine Nat.le_trans (Nat.add_le_add_left (cutL_len _ _ _) _) ?_; (try simp only [List.length_cons, List.length_nil, List.length_append, List.length_map, List.length_replicate]); omega) | (refine Nat.le_trans (Nat.add_le_add_right (cutL_len _ _ _) _) ?_; (try simp only [List.length_cons, List.length_nil, List.length_append, List.length_map, List.length_replicate]); omega))) ?_ | refine ls_d rfl ?_) | ((with_reducible show LiD _ _ _); first | refine li_o (by ((repeat with_reducible first | exact Pick.zero | apply Pick.succ); (first | (all_goals fail) | fail))) (fun q => ?_) | refine li_d rfl (fun q => ?_)) | ((with_reducible show _ < 1920 ∧ _); refine ⟨log2_ok (by (first | omega | decide | (simp; omega))), ?_⟩) | ((with_reducible show CaD (rIsE _ _ _) [_, .r (.ty _)] _ _); refine cd_isEV (by with_reducible assumption) (by decide +kernel) ?_) | ((with_reducible show CaD (rIsE _ _ _) _ _ _); (first | refine cd_isE1 (r := true) (by with_reducible assumption) (by decide +kernel) (by decide +kernel) (by decide +kernel) ?_ | refine cd_isE1 (r := false) (by with_reducible assumption) (by decide +kernel) (by decide +kernel) (by decide +kernel) ?_)))) | dsimp only [List.nil_append, List.cons_append, Sl.plain] | refine ite_d (fun h => ?_) (fun h => ?_) | refine ite_nd (fun h => ?_) (fun h => ?_) | refine ite_b (fun h => ?_) (fun h => ?_) | refine od_ixI rfl ⟨by omega, by (simp only [List.length_cons, List.length_nil]; omega)⟩ rfl (fun i => ?_) | refine od_ixA rfl ⟨by omega, by (simp only [List.length_cons, List.length_nil]; omega)⟩ (fun d hd => ?_) | intro z)))
local macro_rules | `(tactic| walk_at "nrm") => `(tactic| (dsimp only [List.replicate, List.cons_append, List.nil_append, List.append_nil]))
local macro_rules | `(tactic| walk_at "st") => `(tactic| ((try dsimp only [List.replicate, List.cons_append, List.nil_append, List.append_nil]); refine dss_cons ?_))
local macro_rules | `(tactic| walk_at "end") => `(tactic| (first | (with_reducible exact ⟨[], rfl, by assumption⟩) | exact ⟨[], rfl, by assumption⟩))
local macro_rules | `(tactic| walk_at "all") => `(tactic| (walk_at "st"; walk_at "go"; walk_at "end"))

/-! ### the end -/
theorem all_mk {l : PySem.W.OpenLaw} {w : World} {K : PySem.W.Frag} {h : Heap} {mg : Str → Option Value} {fa : Addr} (X : K.In h) (G : h.Ns mainGlobals mg) (hfa : mg "law" = some (.ref fa))
    {p_Shelf___init__ : Addr} {od_Shelf___init__ an_Shelf___init__ : Option Addr} {sl_Shelf___init__ : Array (Option Value)} {oc_Shelf___init__ kV_Shelf___init__ dc_Shelf___init__ pm_Shelf___init__ cd_Shelf___init__ ct_Shelf___init__ : Value}
    {p_Shelf_put_on : Addr} {od_Shelf_put_on an_Shelf_put_on : Option Addr} {sl_Shelf_put_on : Array (Option Value)} {oc_Shelf_put_on kV_Shelf_put_on dc_Shelf_put_on pm_Shelf_put_on cd_Shelf_put_on ct_Shelf_put_on : Value}
    {p_Shelf_take_off : Addr} {od_Shelf_take_off an_Shelf_take_off : Option Addr} {sl_Shelf_take_off : Array (Option Value)} {oc_Shelf_take_off kV_Shelf_take_off dc_Shelf_take_off pm_Shelf_take_off cd_Shelf_take_off ct_Shelf_take_off : Value}
    {p_Shelf_row_of_sheet : Addr} {od_Shelf_row_of_sheet an_Shelf_row_of_sheet : Option Addr} {sl_Shelf_row_of_sheet : Array (Option Value)} {oc_Shelf_row_of_sheet kV_Shelf_row_of_sheet dc_Shelf_row_of_sheet pm_Shelf_row_of_sheet cd_Shelf_row_of_sheet ct_Shelf_row_of_sheet : Value}
    {p_Shelf_has : Addr} {od_Shelf_has an_Shelf_has : Option Addr} {sl_Shelf_has : Array (Option Value)} {oc_Shelf_has kV_Shelf_has dc_Shelf_has pm_Shelf_has cd_Shelf_has ct_Shelf_has : Value}
    {p_Shelf_is_full : Addr} {od_Shelf_is_full an_Shelf_is_full : Option Addr} {sl_Shelf_is_full : Array (Option Value)} {oc_Shelf_is_full kV_Shelf_is_full dc_Shelf_is_full pm_Shelf_is_full cd_Shelf_is_full ct_Shelf_is_full : Value}
    {p_Shelf_sheets : Addr} {od_Shelf_sheets an_Shelf_sheets : Option Addr} {sl_Shelf_sheets : Array (Option Value)} {oc_Shelf_sheets kV_Shelf_sheets dc_Shelf_sheets pm_Shelf_sheets cd_Shelf_sheets ct_Shelf_sheets : Value}
    {p_Lcell_at : Addr} {od_Lcell_at an_Lcell_at : Option Addr} {sl_Lcell_at : Array (Option Value)} {oc_Lcell_at kV_Lcell_at dc_Lcell_at pm_Lcell_at cd_Lcell_at ct_Lcell_at : Value}
    {p_Lwhole : Addr} {od_Lwhole an_Lwhole : Option Addr} {sl_Lwhole : Array (Option Value)} {oc_Lwhole kV_Lwhole dc_Lwhole pm_Lwhole cd_Lwhole ct_Lwhole : Value}
    {p_Lalike : Addr} {od_Lalike an_Lalike : Option Addr} {sl_Lalike : Array (Option Value)} {oc_Lalike kV_Lalike dc_Lalike pm_Lalike cd_Lalike ct_Lalike : Value}
    {p_Lnum : Addr} {od_Lnum an_Lnum : Option Addr} {sl_Lnum : Array (Option Value)} {oc_Lnum kV_Lnum dc_Lnum pm_Lnum cd_Lnum ct_Lnum : Value}
    {p_Lrow : Addr} {od_Lrow an_Lrow : Option Addr} {sl_Lrow : Array (Option Value)} {oc_Lrow kV_Lrow dc_Lrow pm_Lrow cd_Lrow ct_Lrow : Value}
    {p_Lfresh : Addr} {od_Lfresh an_Lfresh : Option Addr} {sl_Lfresh : Array (Option Value)} {oc_Lfresh kV_Lfresh dc_Lfresh pm_Lfresh cd_Lfresh ct_Lfresh : Value}
    {p_Lrefused : Addr} {od_Lrefused an_Lrefused : Option Addr} {sl_Lrefused : Array (Option Value)} {oc_Lrefused kV_Lrefused dc_Lrefused pm_Lrefused cd_Lrefused ct_Lrefused : Value}
    {p_Lput : Addr} {od_Lput an_Lput : Option Addr} {sl_Lput : Array (Option Value)} {oc_Lput kV_Lput dc_Lput pm_Lput cd_Lput ct_Lput : Value}
    {p_Ltaken : Addr} {od_Ltaken an_Ltaken : Option Addr} {sl_Ltaken : Array (Option Value)} {oc_Ltaken kV_Ltaken dc_Ltaken pm_Ltaken cd_Ltaken ct_Ltaken : Value}
    {p_Ldeed : Addr} {od_Ldeed an_Ldeed : Option Addr} {sl_Ldeed : Array (Option Value)} {oc_Ldeed kV_Ldeed dc_Ldeed pm_Ldeed cd_Ldeed ct_Ldeed : Value}
    {p_Lis_shelf : Addr} {od_Lis_shelf an_Lis_shelf : Option Addr} {sl_Lis_shelf : Array (Option Value)} {oc_Lis_shelf kV_Lis_shelf dc_Lis_shelf pm_Lis_shelf cd_Lis_shelf ct_Lis_shelf : Value}
    {p_law : Addr} {od_law an_law : Option Addr} {sl_law : Array (Option Value)} {oc_law kV_law dc_law pm_law cd_law ct_law : Value}
    {C_Shelf : Addr}
    {C_PaneError : Addr}
    {C_NoNumber : Addr}
    {C_NoSpace : Addr}
    {C_NoFile : Addr}
    {C_NoPage : Addr}
    {C_NoRight : Addr}
    {C_Taken : Addr}
    {C_Held : Addr}
    {C_Full : Addr}
    {C_NoRow : Addr}
    (aC_Shelf : PySem.W.nsIn K mainGlobals "Shelf" = some (some (.ref C_Shelf)))
    (pg_Shelf : PySem.W.plainGet K C_Shelf Str.empty = true)
    (hd_Shelf : PySem.W.hasDictIn K C_Shelf = true)
    (po_Shelf : PySem.W.plainOver K C_Shelf = true)
    (sa_Shelf : PySem.W.findIn K (.ref C_Shelf) "__setattr__" = some (some (.builtin "object.__setattr__")))
    (mkf_Shelf : PySem.W.makesIn K C_Shelf = true)
    (kc_Shelf : PySem.W.keepIn K (.ref C_Shelf) = true)
    (na_Shelf_my_sheets : PySem.W.findIn K (.ref C_Shelf) "my_sheets" = some none)
    (na_Shelf_my_rows : PySem.W.findIn K (.ref C_Shelf) "my_rows" = some none)
    (a_Shelf___init__ : PySem.W.findIn K (.ref C_Shelf) "__init__" = some (some (.ref p_Shelf___init__)))
    (i_Shelf___init__ : PySem.W.isFn K (.ref p_Shelf___init__) = true)
    (l_Shelf___init__ : K.lookup p_Shelf___init__ = some ⟨oc_Shelf___init__, od_Shelf___init__, .func (PySem.W.fnOf "__init__" "Shelf.__init__" (defArgs s_Shelf___init__) (defBody s_Shelf___init__) (defScope s_Shelf___init__) .none kV_Shelf___init__ dc_Shelf___init__ pm_Shelf___init__ an_Shelf___init__ cd_Shelf___init__ ct_Shelf___init__), sl_Shelf___init__⟩)
    (c_Shelf___init__ : PySem.W.codeIn K cd_Shelf___init__ "Shelf.__init__" = true)
    (k_Shelf___init__ : PySem.W.keepIn K (.ref p_Shelf___init__) = true)
    (a_Shelf_put_on : PySem.W.findIn K (.ref C_Shelf) "put_on" = some (some (.ref p_Shelf_put_on)))
    (i_Shelf_put_on : PySem.W.isFn K (.ref p_Shelf_put_on) = true)
    (l_Shelf_put_on : K.lookup p_Shelf_put_on = some ⟨oc_Shelf_put_on, od_Shelf_put_on, .func (PySem.W.fnOf "put_on" "Shelf.put_on" (defArgs s_Shelf_put_on) (defBody s_Shelf_put_on) (defScope s_Shelf_put_on) .none kV_Shelf_put_on dc_Shelf_put_on pm_Shelf_put_on an_Shelf_put_on cd_Shelf_put_on ct_Shelf_put_on), sl_Shelf_put_on⟩)
    (c_Shelf_put_on : PySem.W.codeIn K cd_Shelf_put_on "Shelf.put_on" = true)
    (k_Shelf_put_on : PySem.W.keepIn K (.ref p_Shelf_put_on) = true)
    (a_Shelf_take_off : PySem.W.findIn K (.ref C_Shelf) "take_off" = some (some (.ref p_Shelf_take_off)))
    (i_Shelf_take_off : PySem.W.isFn K (.ref p_Shelf_take_off) = true)
    (l_Shelf_take_off : K.lookup p_Shelf_take_off = some ⟨oc_Shelf_take_off, od_Shelf_take_off, .func (PySem.W.fnOf "take_off" "Shelf.take_off" (defArgs s_Shelf_take_off) (defBody s_Shelf_take_off) (defScope s_Shelf_take_off) .none kV_Shelf_take_off dc_Shelf_take_off pm_Shelf_take_off an_Shelf_take_off cd_Shelf_take_off ct_Shelf_take_off), sl_Shelf_take_off⟩)
    (c_Shelf_take_off : PySem.W.codeIn K cd_Shelf_take_off "Shelf.take_off" = true)
    (k_Shelf_take_off : PySem.W.keepIn K (.ref p_Shelf_take_off) = true)
    (a_Shelf_row_of_sheet : PySem.W.findIn K (.ref C_Shelf) "row_of_sheet" = some (some (.ref p_Shelf_row_of_sheet)))
    (i_Shelf_row_of_sheet : PySem.W.isFn K (.ref p_Shelf_row_of_sheet) = true)
    (l_Shelf_row_of_sheet : K.lookup p_Shelf_row_of_sheet = some ⟨oc_Shelf_row_of_sheet, od_Shelf_row_of_sheet, .func (PySem.W.fnOf "row_of_sheet" "Shelf.row_of_sheet" (defArgs s_Shelf_row_of_sheet) (defBody s_Shelf_row_of_sheet) (defScope s_Shelf_row_of_sheet) .none kV_Shelf_row_of_sheet dc_Shelf_row_of_sheet pm_Shelf_row_of_sheet an_Shelf_row_of_sheet cd_Shelf_row_of_sheet ct_Shelf_row_of_sheet), sl_Shelf_row_of_sheet⟩)
    (c_Shelf_row_of_sheet : PySem.W.codeIn K cd_Shelf_row_of_sheet "Shelf.row_of_sheet" = true)
    (k_Shelf_row_of_sheet : PySem.W.keepIn K (.ref p_Shelf_row_of_sheet) = true)
    (a_Shelf_has : PySem.W.findIn K (.ref C_Shelf) "has" = some (some (.ref p_Shelf_has)))
    (i_Shelf_has : PySem.W.isFn K (.ref p_Shelf_has) = true)
    (l_Shelf_has : K.lookup p_Shelf_has = some ⟨oc_Shelf_has, od_Shelf_has, .func (PySem.W.fnOf "has" "Shelf.has" (defArgs s_Shelf_has) (defBody s_Shelf_has) (defScope s_Shelf_has) .none kV_Shelf_has dc_Shelf_has pm_Shelf_has an_Shelf_has cd_Shelf_has ct_Shelf_has), sl_Shelf_has⟩)
    (c_Shelf_has : PySem.W.codeIn K cd_Shelf_has "Shelf.has" = true)
    (k_Shelf_has : PySem.W.keepIn K (.ref p_Shelf_has) = true)
    (a_Shelf_is_full : PySem.W.findIn K (.ref C_Shelf) "is_full" = some (some (.ref p_Shelf_is_full)))
    (i_Shelf_is_full : PySem.W.isFn K (.ref p_Shelf_is_full) = true)
    (l_Shelf_is_full : K.lookup p_Shelf_is_full = some ⟨oc_Shelf_is_full, od_Shelf_is_full, .func (PySem.W.fnOf "is_full" "Shelf.is_full" (defArgs s_Shelf_is_full) (defBody s_Shelf_is_full) (defScope s_Shelf_is_full) .none kV_Shelf_is_full dc_Shelf_is_full pm_Shelf_is_full an_Shelf_is_full cd_Shelf_is_full ct_Shelf_is_full), sl_Shelf_is_full⟩)
    (c_Shelf_is_full : PySem.W.codeIn K cd_Shelf_is_full "Shelf.is_full" = true)
    (k_Shelf_is_full : PySem.W.keepIn K (.ref p_Shelf_is_full) = true)
    (a_Shelf_sheets : PySem.W.findIn K (.ref C_Shelf) "sheets" = some (some (.ref p_Shelf_sheets)))
    (i_Shelf_sheets : PySem.W.isFn K (.ref p_Shelf_sheets) = true)
    (l_Shelf_sheets : K.lookup p_Shelf_sheets = some ⟨oc_Shelf_sheets, od_Shelf_sheets, .func (PySem.W.fnOf "sheets" "Shelf.sheets" (defArgs s_Shelf_sheets) (defBody s_Shelf_sheets) (defScope s_Shelf_sheets) .none kV_Shelf_sheets dc_Shelf_sheets pm_Shelf_sheets an_Shelf_sheets cd_Shelf_sheets ct_Shelf_sheets), sl_Shelf_sheets⟩)
    (c_Shelf_sheets : PySem.W.codeIn K cd_Shelf_sheets "Shelf.sheets" = true)
    (k_Shelf_sheets : PySem.W.keepIn K (.ref p_Shelf_sheets) = true)
    (a_Lcell_at : PySem.W.nsIn K mainGlobals "_law_cell_at" = some (some (.ref p_Lcell_at)))
    (l_Lcell_at : K.lookup p_Lcell_at = some ⟨oc_Lcell_at, od_Lcell_at, .func (PySem.W.fnOf "_law_cell_at" "_law_cell_at" (defArgs s_Lcell_at) (defBody s_Lcell_at) (defScope s_Lcell_at) .none kV_Lcell_at dc_Lcell_at pm_Lcell_at an_Lcell_at cd_Lcell_at ct_Lcell_at), sl_Lcell_at⟩)
    (c_Lcell_at : PySem.W.codeIn K cd_Lcell_at "_law_cell_at" = true)
    (k_Lcell_at : PySem.W.keepIn K (.ref p_Lcell_at) = true)
    (a_Lwhole : PySem.W.nsIn K mainGlobals "_law_whole" = some (some (.ref p_Lwhole)))
    (l_Lwhole : K.lookup p_Lwhole = some ⟨oc_Lwhole, od_Lwhole, .func (PySem.W.fnOf "_law_whole" "_law_whole" (defArgs s_Lwhole) (defBody s_Lwhole) (defScope s_Lwhole) .none kV_Lwhole dc_Lwhole pm_Lwhole an_Lwhole cd_Lwhole ct_Lwhole), sl_Lwhole⟩)
    (c_Lwhole : PySem.W.codeIn K cd_Lwhole "_law_whole" = true)
    (k_Lwhole : PySem.W.keepIn K (.ref p_Lwhole) = true)
    (a_Lalike : PySem.W.nsIn K mainGlobals "_law_alike" = some (some (.ref p_Lalike)))
    (l_Lalike : K.lookup p_Lalike = some ⟨oc_Lalike, od_Lalike, .func (PySem.W.fnOf "_law_alike" "_law_alike" (defArgs s_Lalike) (defBody s_Lalike) (defScope s_Lalike) .none kV_Lalike dc_Lalike pm_Lalike an_Lalike cd_Lalike ct_Lalike), sl_Lalike⟩)
    (c_Lalike : PySem.W.codeIn K cd_Lalike "_law_alike" = true)
    (k_Lalike : PySem.W.keepIn K (.ref p_Lalike) = true)
    (a_Lnum : PySem.W.nsIn K mainGlobals "_law_num" = some (some (.ref p_Lnum)))
    (l_Lnum : K.lookup p_Lnum = some ⟨oc_Lnum, od_Lnum, .func (PySem.W.fnOf "_law_num" "_law_num" (defArgs s_Lnum) (defBody s_Lnum) (defScope s_Lnum) .none kV_Lnum dc_Lnum pm_Lnum an_Lnum cd_Lnum ct_Lnum), sl_Lnum⟩)
    (c_Lnum : PySem.W.codeIn K cd_Lnum "_law_num" = true)
    (k_Lnum : PySem.W.keepIn K (.ref p_Lnum) = true)
    (a_Lrow : PySem.W.nsIn K mainGlobals "_law_row" = some (some (.ref p_Lrow)))
    (l_Lrow : K.lookup p_Lrow = some ⟨oc_Lrow, od_Lrow, .func (PySem.W.fnOf "_law_row" "_law_row" (defArgs s_Lrow) (defBody s_Lrow) (defScope s_Lrow) .none kV_Lrow dc_Lrow pm_Lrow an_Lrow cd_Lrow ct_Lrow), sl_Lrow⟩)
    (c_Lrow : PySem.W.codeIn K cd_Lrow "_law_row" = true)
    (k_Lrow : PySem.W.keepIn K (.ref p_Lrow) = true)
    (a_Lfresh : PySem.W.nsIn K mainGlobals "_law_fresh" = some (some (.ref p_Lfresh)))
    (l_Lfresh : K.lookup p_Lfresh = some ⟨oc_Lfresh, od_Lfresh, .func (PySem.W.fnOf "_law_fresh" "_law_fresh" (defArgs s_Lfresh) (defBody s_Lfresh) (defScope s_Lfresh) .none kV_Lfresh dc_Lfresh pm_Lfresh an_Lfresh cd_Lfresh ct_Lfresh), sl_Lfresh⟩)
    (c_Lfresh : PySem.W.codeIn K cd_Lfresh "_law_fresh" = true)
    (k_Lfresh : PySem.W.keepIn K (.ref p_Lfresh) = true)
    (a_Lrefused : PySem.W.nsIn K mainGlobals "_law_refused" = some (some (.ref p_Lrefused)))
    (l_Lrefused : K.lookup p_Lrefused = some ⟨oc_Lrefused, od_Lrefused, .func (PySem.W.fnOf "_law_refused" "_law_refused" (defArgs s_Lrefused) (defBody s_Lrefused) (defScope s_Lrefused) .none kV_Lrefused dc_Lrefused pm_Lrefused an_Lrefused cd_Lrefused ct_Lrefused), sl_Lrefused⟩)
    (c_Lrefused : PySem.W.codeIn K cd_Lrefused "_law_refused" = true)
    (k_Lrefused : PySem.W.keepIn K (.ref p_Lrefused) = true)
    (a_Lput : PySem.W.nsIn K mainGlobals "_law_put" = some (some (.ref p_Lput)))
    (l_Lput : K.lookup p_Lput = some ⟨oc_Lput, od_Lput, .func (PySem.W.fnOf "_law_put" "_law_put" (defArgs s_Lput) (defBody s_Lput) (defScope s_Lput) .none kV_Lput dc_Lput pm_Lput an_Lput cd_Lput ct_Lput), sl_Lput⟩)
    (c_Lput : PySem.W.codeIn K cd_Lput "_law_put" = true)
    (k_Lput : PySem.W.keepIn K (.ref p_Lput) = true)
    (a_Ltaken : PySem.W.nsIn K mainGlobals "_law_taken" = some (some (.ref p_Ltaken)))
    (l_Ltaken : K.lookup p_Ltaken = some ⟨oc_Ltaken, od_Ltaken, .func (PySem.W.fnOf "_law_taken" "_law_taken" (defArgs s_Ltaken) (defBody s_Ltaken) (defScope s_Ltaken) .none kV_Ltaken dc_Ltaken pm_Ltaken an_Ltaken cd_Ltaken ct_Ltaken), sl_Ltaken⟩)
    (c_Ltaken : PySem.W.codeIn K cd_Ltaken "_law_taken" = true)
    (k_Ltaken : PySem.W.keepIn K (.ref p_Ltaken) = true)
    (a_Ldeed : PySem.W.nsIn K mainGlobals "_law_deed" = some (some (.ref p_Ldeed)))
    (l_Ldeed : K.lookup p_Ldeed = some ⟨oc_Ldeed, od_Ldeed, .func (PySem.W.fnOf "_law_deed" "_law_deed" (defArgs s_Ldeed) (defBody s_Ldeed) (defScope s_Ldeed) .none kV_Ldeed dc_Ldeed pm_Ldeed an_Ldeed cd_Ldeed ct_Ldeed), sl_Ldeed⟩)
    (c_Ldeed : PySem.W.codeIn K cd_Ldeed "_law_deed" = true)
    (k_Ldeed : PySem.W.keepIn K (.ref p_Ldeed) = true)
    (a_Lis_shelf : PySem.W.nsIn K mainGlobals "_law_is_shelf" = some (some (.ref p_Lis_shelf)))
    (l_Lis_shelf : K.lookup p_Lis_shelf = some ⟨oc_Lis_shelf, od_Lis_shelf, .func (PySem.W.fnOf "_law_is_shelf" "_law_is_shelf" (defArgs s_Lis_shelf) (defBody s_Lis_shelf) (defScope s_Lis_shelf) .none kV_Lis_shelf dc_Lis_shelf pm_Lis_shelf an_Lis_shelf cd_Lis_shelf ct_Lis_shelf), sl_Lis_shelf⟩)
    (c_Lis_shelf : PySem.W.codeIn K cd_Lis_shelf "_law_is_shelf" = true)
    (k_Lis_shelf : PySem.W.keepIn K (.ref p_Lis_shelf) = true)
    (a_law : PySem.W.nsIn K mainGlobals "law" = some (some (.ref p_law)))
    (l_law : K.lookup p_law = some ⟨oc_law, od_law, .func (PySem.W.fnOf "law" "law" (defArgs s_law) (defBody s_law) (defScope s_law) .none kV_law dc_law pm_law an_law cd_law ct_law), sl_law⟩)
    (c_law : PySem.W.codeIn K cd_law "law" = true)
    (k_law : PySem.W.keepIn K (.ref p_law) = true)
    (z_len : PySem.W.nsIn K mainGlobals "len" = some none)
    (z_range : PySem.W.nsIn K mainGlobals "range" = some none)
    (z_isinstance : PySem.W.nsIn K mainGlobals "isinstance" = some none)
    (z_list : PySem.W.nsIn K mainGlobals "list" = some none)
    (z_int : PySem.W.nsIn K mainGlobals "int" = some none)
    (z_bool : PySem.W.nsIn K mainGlobals "bool" = some none)
    (z_str : PySem.W.nsIn K mainGlobals "str" = some none)
    (z_tuple : PySem.W.nsIn K mainGlobals "tuple" = some none)
    (z_dict : PySem.W.nsIn K mainGlobals "dict" = some none)
    (z_set : PySem.W.nsIn K mainGlobals "set" = some none)
    (z_sorted : PySem.W.nsIn K mainGlobals "sorted" = some none)
    (z_min : PySem.W.nsIn K mainGlobals "min" = some none)
    (z_max : PySem.W.nsIn K mainGlobals "max" = some none)
    (z_reversed : PySem.W.nsIn K mainGlobals "reversed" = some none)
    (z_ValueError : PySem.W.nsIn K mainGlobals "ValueError" = some none)
    (gC_PaneError : PySem.W.nsIn K mainGlobals "PaneError" = some (some (.ref C_PaneError)))
    (gC_NoNumber : PySem.W.nsIn K mainGlobals "NoNumber" = some (some (.ref C_NoNumber)))
    (gC_NoSpace : PySem.W.nsIn K mainGlobals "NoSpace" = some (some (.ref C_NoSpace)))
    (gC_NoFile : PySem.W.nsIn K mainGlobals "NoFile" = some (some (.ref C_NoFile)))
    (gC_NoPage : PySem.W.nsIn K mainGlobals "NoPage" = some (some (.ref C_NoPage)))
    (gC_NoRight : PySem.W.nsIn K mainGlobals "NoRight" = some (some (.ref C_NoRight)))
    (gC_Taken : PySem.W.nsIn K mainGlobals "Taken" = some (some (.ref C_Taken)))
    (gC_Held : PySem.W.nsIn K mainGlobals "Held" = some (some (.ref C_Held)))
    (gC_Full : PySem.W.nsIn K mainGlobals "Full" = some (some (.ref C_Full)))
    (gC_NoRow : PySem.W.nsIn K mainGlobals "NoRow" = some (some (.ref C_NoRow)))
    (yc_PaneError : PySem.W.isClsIn K C_PaneError = true)
    (yt_PaneError : PySem.W.typeIn K (.ref C_PaneError) = some (.type "type"))
    (yc_NoNumber : PySem.W.isClsIn K C_NoNumber = true)
    (yt_NoNumber : PySem.W.typeIn K (.ref C_NoNumber) = some (.type "type"))
    (yc_NoSpace : PySem.W.isClsIn K C_NoSpace = true)
    (yt_NoSpace : PySem.W.typeIn K (.ref C_NoSpace) = some (.type "type"))
    (yc_NoFile : PySem.W.isClsIn K C_NoFile = true)
    (yt_NoFile : PySem.W.typeIn K (.ref C_NoFile) = some (.type "type"))
    (yc_NoPage : PySem.W.isClsIn K C_NoPage = true)
    (yt_NoPage : PySem.W.typeIn K (.ref C_NoPage) = some (.type "type"))
    (yc_NoRight : PySem.W.isClsIn K C_NoRight = true)
    (yt_NoRight : PySem.W.typeIn K (.ref C_NoRight) = some (.type "type"))
    (yc_Taken : PySem.W.isClsIn K C_Taken = true)
    (yt_Taken : PySem.W.typeIn K (.ref C_Taken) = some (.type "type"))
    (yc_Held : PySem.W.isClsIn K C_Held = true)
    (yt_Held : PySem.W.typeIn K (.ref C_Held) = some (.type "type"))
    (yc_Full : PySem.W.isClsIn K C_Full = true)
    (yt_Full : PySem.W.typeIn K (.ref C_Full) = some (.type "type"))
    (yc_NoRow : PySem.W.isClsIn K C_NoRow = true)
    (yt_NoRow : PySem.W.typeIn K (.ref C_NoRow) = some (.type "type"))
    (yb : PySem.W.subIn K (.ref C_PaneError) (.type "BaseException") = some true)
    (xq_Full : PySem.W.excIn K C_Full [.type "ValueError", .type "Exception", .type "BaseException", .type "object"] "ValueError.__new__" = true)
    (xk_Full : PySem.W.keepIn K (.ref C_Full) = true)
    (x1_Full : PySem.W.findIn K (.ref C_Full) "__getattribute__" = some (some (.builtin "BaseException.__getattribute__")))
    (x2_Full : PySem.W.findIn K (.ref C_Full) "__getattr__" = some none)
    (x3_Full : PySem.W.subIn K (.ref C_Full) (.type "BaseException") = some true)
    (x4_Full : PySem.W.hasDictIn K C_Full = true)
    (x5_Full : PySem.W.findIn K (.ref C_Full) "__class__" = some (some (.builtin "object.__class__")))
    (x8_Full : PySem.W.mroIn K C_Full (.type "object") = some true)
    (kv_Full : PySem.W.subIn K (.ref C_Full) (.type "ValueError") = some true)
    (kt_Full_PaneError : PySem.W.subIn K (.ref C_Full) (.ref C_PaneError) = some true)
    (kt_Full_NoNumber : PySem.W.subIn K (.ref C_Full) (.ref C_NoNumber) = some false)
    (kt_Full_NoSpace : PySem.W.subIn K (.ref C_Full) (.ref C_NoSpace) = some false)
    (kt_Full_NoFile : PySem.W.subIn K (.ref C_Full) (.ref C_NoFile) = some false)
    (kt_Full_NoPage : PySem.W.subIn K (.ref C_Full) (.ref C_NoPage) = some false)
    (kt_Full_NoRight : PySem.W.subIn K (.ref C_Full) (.ref C_NoRight) = some false)
    (kt_Full_Taken : PySem.W.subIn K (.ref C_Full) (.ref C_Taken) = some false)
    (kt_Full_Held : PySem.W.subIn K (.ref C_Full) (.ref C_Held) = some false)
    (kt_Full_Full : PySem.W.subIn K (.ref C_Full) (.ref C_Full) = some true)
    (kt_Full_NoRow : PySem.W.subIn K (.ref C_Full) (.ref C_NoRow) = some false)
    (x6 : PySem.W.specialIn K (.builtin "object.__class__") "__get__" = some (some (.builtin "getset_descriptor.__get__")))
    (x7 : PySem.W.takesIn K (.builtin "object.__class__") = some true) :
    ∃ fd : FuncData, (∀ (s : Shared) (v : Value), BindsTo s fd ⟨[v], []⟩ [("_law_script", v)]) ∧ ∀ base : Heap, FnOk l.prog w K mg base (L2.CX l.prog w) 7 fa fd ["_law_script"] (@spC ⟨K⟩ lawCB) := by
  have e := hfa.symm.trans (PySem.W.mg_of X G a_law)
  cases e
  have bl : Bl mg := ⟨PySem.W.mg_none_of X G z_len, PySem.W.mg_none_of X G z_range, PySem.W.mg_none_of X G z_isinstance, PySem.W.mg_none_of X G z_list, PySem.W.mg_none_of X G z_int, PySem.W.mg_none_of X G z_bool, PySem.W.mg_none_of X G z_str, PySem.W.mg_none_of X G z_tuple, PySem.W.mg_none_of X G z_dict, PySem.W.mg_none_of X G z_set, PySem.W.mg_none_of X G z_sorted, PySem.W.mg_none_of X G z_min, PySem.W.mg_none_of X G z_max, PySem.W.mg_none_of X G z_reversed, PySem.W.mg_none_of X G z_ValueError⟩
  have cl_Shelf : Cls K C_Shelf := ⟨pg_Shelf, hd_Shelf, po_Shelf, sa_Shelf⟩
  have F_Shelf___init__ := fun_mk (st := s_Shelf___init__) l_Shelf___init__ c_Shelf___init__ k_Shelf___init__
  have b_Shelf___init__ := F_Shelf___init__.binds (ps := ["self", "many"]) fun _ _ _ _ _ _ us hl => match us, hl with | [_, _], _ => rfl
  have F_Shelf_put_on := fun_mk (st := s_Shelf_put_on) l_Shelf_put_on c_Shelf_put_on k_Shelf_put_on
  have b_Shelf_put_on := F_Shelf_put_on.binds (ps := ["self", "sheet", "row"]) fun _ _ _ _ _ _ us hl => match us, hl with | [_, _, _], _ => rfl
  have F_Shelf_take_off := fun_mk (st := s_Shelf_take_off) l_Shelf_take_off c_Shelf_take_off k_Shelf_take_off
  have b_Shelf_take_off := F_Shelf_take_off.binds (ps := ["self", "sheet"]) fun _ _ _ _ _ _ us hl => match us, hl with | [_, _], _ => rfl
  have F_Shelf_row_of_sheet := fun_mk (st := s_Shelf_row_of_sheet) l_Shelf_row_of_sheet c_Shelf_row_of_sheet k_Shelf_row_of_sheet
  have b_Shelf_row_of_sheet := F_Shelf_row_of_sheet.binds (ps := ["self", "sheet"]) fun _ _ _ _ _ _ us hl => match us, hl with | [_, _], _ => rfl
  have F_Shelf_has := fun_mk (st := s_Shelf_has) l_Shelf_has c_Shelf_has k_Shelf_has
  have b_Shelf_has := F_Shelf_has.binds (ps := ["self", "sheet"]) fun _ _ _ _ _ _ us hl => match us, hl with | [_, _], _ => rfl
  have F_Shelf_is_full := fun_mk (st := s_Shelf_is_full) l_Shelf_is_full c_Shelf_is_full k_Shelf_is_full
  have b_Shelf_is_full := F_Shelf_is_full.binds (ps := ["self"]) fun _ _ _ _ _ _ us hl => match us, hl with | [_], _ => rfl
  have F_Shelf_sheets := fun_mk (st := s_Shelf_sheets) l_Shelf_sheets c_Shelf_sheets k_Shelf_sheets
  have b_Shelf_sheets := F_Shelf_sheets.binds (ps := ["self"]) fun _ _ _ _ _ _ us hl => match us, hl with | [_], _ => rfl
  have F_Lcell_at := fun_mk (st := s_Lcell_at) l_Lcell_at c_Lcell_at k_Lcell_at
  have b_Lcell_at := F_Lcell_at.binds (ps := ["_law_script", "_law_k"]) fun _ _ _ _ _ _ us hl => match us, hl with | [_, _], _ => rfl
  have F_Lwhole := fun_mk (st := s_Lwhole) l_Lwhole c_Lwhole k_Lwhole
  have b_Lwhole := F_Lwhole.binds (ps := ["_law_found"]) fun _ _ _ _ _ _ us hl => match us, hl with | [_], _ => rfl
  have F_Lalike := fun_mk (st := s_Lalike) l_Lalike c_Lalike k_Lalike
  have b_Lalike := F_Lalike.binds (ps := ["_law_found", "_law_due"]) fun _ _ _ _ _ _ us hl => match us, hl with | [_, _], _ => rfl
  have F_Lnum := fun_mk (st := s_Lnum) l_Lnum c_Lnum k_Lnum
  have b_Lnum := F_Lnum.binds (ps := ["_law_cell", "_law_k"]) fun _ _ _ _ _ _ us hl => match us, hl with | [_, _], _ => rfl
  have F_Lrow := fun_mk (st := s_Lrow) l_Lrow c_Lrow k_Lrow
  have b_Lrow := F_Lrow.binds (ps := ["_law_cell"]) fun _ _ _ _ _ _ us hl => match us, hl with | [_], _ => rfl
  have F_Lfresh := fun_mk (st := s_Lfresh) l_Lfresh c_Lfresh k_Lfresh
  have b_Lfresh := F_Lfresh.binds (ps := ["_law_cell", "_law_rows"]) fun _ _ _ _ _ _ us hl => match us, hl with | [_, _], _ => rfl
  have F_Lrefused := fun_mk (st := s_Lrefused) l_Lrefused c_Lrefused k_Lrefused
  have b_Lrefused := F_Lrefused.binds (ps := ["_law_shelf", "_law_sheet", "_law_row_here"]) fun _ _ _ _ _ _ us hl => match us, hl with | [_, _, _], _ => rfl
  have F_Lput := fun_mk (st := s_Lput) l_Lput c_Lput k_Lput
  have b_Lput := F_Lput.binds (ps := ["_law_shelf", "_law_spots", "_law_rows", "_law_sheet", "_law_row_here"]) fun _ _ _ _ _ _ us hl => match us, hl with | [_, _, _, _, _], _ => rfl
  have F_Ltaken := fun_mk (st := s_Ltaken) l_Ltaken c_Ltaken k_Ltaken
  have b_Ltaken := F_Ltaken.binds (ps := ["_law_shelf", "_law_spots", "_law_rows", "_law_sheet"]) fun _ _ _ _ _ _ us hl => match us, hl with | [_, _, _, _], _ => rfl
  have F_Ldeed := fun_mk (st := s_Ldeed) l_Ldeed c_Ldeed k_Ldeed
  have b_Ldeed := F_Ldeed.binds (ps := ["_law_shelf", "_law_spots", "_law_rows", "_law_cell"]) fun _ _ _ _ _ _ us hl => match us, hl with | [_, _, _, _], _ => rfl
  have F_Lis_shelf := fun_mk (st := s_Lis_shelf) l_Lis_shelf c_Lis_shelf k_Lis_shelf
  have b_Lis_shelf := F_Lis_shelf.binds (ps := ["_law_shelf", "_law_spots", "_law_rows", "_law_cell", "_law_held"]) fun _ _ _ _ _ _ us hl => match us, hl with | [_, _, _, _, _], _ => rfl
  have F_law := fun_mk (st := s_law) l_law c_law k_law
  have b_law := F_law.binds (ps := ["_law_script"]) fun _ _ _ _ _ _ us hl => match us, hl with | [_], _ => rfl
  refine ⟨PySem.W.fnOf "law" "law" (defArgs s_law) (defBody s_law) (defScope s_law) .none kV_law dc_law pm_law an_law cd_law ct_law, fun s v => .of_eq rfl, fun base => ?_⟩
  letI : KC := ⟨K⟩
  let m : Mo := ⟨l.prog, w, K, mg, base⟩
  let E : Str → Addr := fun s => if s = ("PaneError" : Str) then C_PaneError else if s = ("NoNumber" : Str) then C_NoNumber else if s = ("NoSpace" : Str) then C_NoSpace else if s = ("NoFile" : Str) then C_NoFile else if s = ("NoPage" : Str) then C_NoPage else if s = ("NoRight" : Str) then C_NoRight else if s = ("Taken" : Str) then C_Taken else if s = ("Held" : Str) then C_Held else if s = ("Full" : Str) then C_Full else C_NoRow
  have E_PaneError : E "PaneError" = C_PaneError := by
    show (if ("PaneError" : Str) = ("PaneError" : Str) then C_PaneError else if ("PaneError" : Str) = ("NoNumber" : Str) then C_NoNumber else if ("PaneError" : Str) = ("NoSpace" : Str) then C_NoSpace else if ("PaneError" : Str) = ("NoFile" : Str) then C_NoFile else if ("PaneError" : Str) = ("NoPage" : Str) then C_NoPage else if ("PaneError" : Str) = ("NoRight" : Str) then C_NoRight else if ("PaneError" : Str) = ("Taken" : Str) then C_Taken else if ("PaneError" : Str) = ("Held" : Str) then C_Held else if ("PaneError" : Str) = ("Full" : Str) then C_Full else C_NoRow) = _
    rw [if_pos rfl]
  have E_NoNumber : E "NoNumber" = C_NoNumber := by
    show (if ("NoNumber" : Str) = ("PaneError" : Str) then C_PaneError else if ("NoNumber" : Str) = ("NoNumber" : Str) then C_NoNumber else if ("NoNumber" : Str) = ("NoSpace" : Str) then C_NoSpace else if ("NoNumber" : Str) = ("NoFile" : Str) then C_NoFile else if ("NoNumber" : Str) = ("NoPage" : Str) then C_NoPage else if ("NoNumber" : Str) = ("NoRight" : Str) then C_NoRight else if ("NoNumber" : Str) = ("Taken" : Str) then C_Taken else if ("NoNumber" : Str) = ("Held" : Str) then C_Held else if ("NoNumber" : Str) = ("Full" : Str) then C_Full else C_NoRow) = _
    rw [if_neg (by decide +kernel), if_pos rfl]
  have E_NoSpace : E "NoSpace" = C_NoSpace := by
    show (if ("NoSpace" : Str) = ("PaneError" : Str) then C_PaneError else if ("NoSpace" : Str) = ("NoNumber" : Str) then C_NoNumber else if ("NoSpace" : Str) = ("NoSpace" : Str) then C_NoSpace else if ("NoSpace" : Str) = ("NoFile" : Str) then C_NoFile else if ("NoSpace" : Str) = ("NoPage" : Str) then C_NoPage else if ("NoSpace" : Str) = ("NoRight" : Str) then C_NoRight else if ("NoSpace" : Str) = ("Taken" : Str) then C_Taken else if ("NoSpace" : Str) = ("Held" : Str) then C_Held else if ("NoSpace" : Str) = ("Full" : Str) then C_Full else C_NoRow) = _
    rw [if_neg (by decide +kernel), if_neg (by decide +kernel), if_pos rfl]
  have E_NoFile : E "NoFile" = C_NoFile := by
    show (if ("NoFile" : Str) = ("PaneError" : Str) then C_PaneError else if ("NoFile" : Str) = ("NoNumber" : Str) then C_NoNumber else if ("NoFile" : Str) = ("NoSpace" : Str) then C_NoSpace else if ("NoFile" : Str) = ("NoFile" : Str) then C_NoFile else if ("NoFile" : Str) = ("NoPage" : Str) then C_NoPage else if ("NoFile" : Str) = ("NoRight" : Str) then C_NoRight else if ("NoFile" : Str) = ("Taken" : Str) then C_Taken else if ("NoFile" : Str) = ("Held" : Str) then C_Held else if ("NoFile" : Str) = ("Full" : Str) then C_Full else C_NoRow) = _
    rw [if_neg (by decide +kernel), if_neg (by decide +kernel), if_neg (by decide +kernel), if_pos rfl]
  have E_NoPage : E "NoPage" = C_NoPage := by
    show (if ("NoPage" : Str) = ("PaneError" : Str) then C_PaneError else if ("NoPage" : Str) = ("NoNumber" : Str) then C_NoNumber else if ("NoPage" : Str) = ("NoSpace" : Str) then C_NoSpace else if ("NoPage" : Str) = ("NoFile" : Str) then C_NoFile else if ("NoPage" : Str) = ("NoPage" : Str) then C_NoPage else if ("NoPage" : Str) = ("NoRight" : Str) then C_NoRight else if ("NoPage" : Str) = ("Taken" : Str) then C_Taken else if ("NoPage" : Str) = ("Held" : Str) then C_Held else if ("NoPage" : Str) = ("Full" : Str) then C_Full else C_NoRow) = _
    rw [if_neg (by decide +kernel), if_neg (by decide +kernel), if_neg (by decide +kernel), if_neg (by decide +kernel), if_pos rfl]
  have E_NoRight : E "NoRight" = C_NoRight := by
    show (if ("NoRight" : Str) = ("PaneError" : Str) then C_PaneError else if ("NoRight" : Str) = ("NoNumber" : Str) then C_NoNumber else if ("NoRight" : Str) = ("NoSpace" : Str) then C_NoSpace else if ("NoRight" : Str) = ("NoFile" : Str) then C_NoFile else if ("NoRight" : Str) = ("NoPage" : Str) then C_NoPage else if ("NoRight" : Str) = ("NoRight" : Str) then C_NoRight else if ("NoRight" : Str) = ("Taken" : Str) then C_Taken else if ("NoRight" : Str) = ("Held" : Str) then C_Held else if ("NoRight" : Str) = ("Full" : Str) then C_Full else C_NoRow) = _
    rw [if_neg (by decide +kernel), if_neg (by decide +kernel), if_neg (by decide +kernel), if_neg (by decide +kernel), if_neg (by decide +kernel), if_pos rfl]
  have E_Taken : E "Taken" = C_Taken := by
    show (if ("Taken" : Str) = ("PaneError" : Str) then C_PaneError else if ("Taken" : Str) = ("NoNumber" : Str) then C_NoNumber else if ("Taken" : Str) = ("NoSpace" : Str) then C_NoSpace else if ("Taken" : Str) = ("NoFile" : Str) then C_NoFile else if ("Taken" : Str) = ("NoPage" : Str) then C_NoPage else if ("Taken" : Str) = ("NoRight" : Str) then C_NoRight else if ("Taken" : Str) = ("Taken" : Str) then C_Taken else if ("Taken" : Str) = ("Held" : Str) then C_Held else if ("Taken" : Str) = ("Full" : Str) then C_Full else C_NoRow) = _
    rw [if_neg (by decide +kernel), if_neg (by decide +kernel), if_neg (by decide +kernel), if_neg (by decide +kernel), if_neg (by decide +kernel), if_neg (by decide +kernel), if_pos rfl]
  have E_Held : E "Held" = C_Held := by
    show (if ("Held" : Str) = ("PaneError" : Str) then C_PaneError else if ("Held" : Str) = ("NoNumber" : Str) then C_NoNumber else if ("Held" : Str) = ("NoSpace" : Str) then C_NoSpace else if ("Held" : Str) = ("NoFile" : Str) then C_NoFile else if ("Held" : Str) = ("NoPage" : Str) then C_NoPage else if ("Held" : Str) = ("NoRight" : Str) then C_NoRight else if ("Held" : Str) = ("Taken" : Str) then C_Taken else if ("Held" : Str) = ("Held" : Str) then C_Held else if ("Held" : Str) = ("Full" : Str) then C_Full else C_NoRow) = _
    rw [if_neg (by decide +kernel), if_neg (by decide +kernel), if_neg (by decide +kernel), if_neg (by decide +kernel), if_neg (by decide +kernel), if_neg (by decide +kernel), if_neg (by decide +kernel), if_pos rfl]
  have E_Full : E "Full" = C_Full := by
    show (if ("Full" : Str) = ("PaneError" : Str) then C_PaneError else if ("Full" : Str) = ("NoNumber" : Str) then C_NoNumber else if ("Full" : Str) = ("NoSpace" : Str) then C_NoSpace else if ("Full" : Str) = ("NoFile" : Str) then C_NoFile else if ("Full" : Str) = ("NoPage" : Str) then C_NoPage else if ("Full" : Str) = ("NoRight" : Str) then C_NoRight else if ("Full" : Str) = ("Taken" : Str) then C_Taken else if ("Full" : Str) = ("Held" : Str) then C_Held else if ("Full" : Str) = ("Full" : Str) then C_Full else C_NoRow) = _
    rw [if_neg (by decide +kernel), if_neg (by decide +kernel), if_neg (by decide +kernel), if_neg (by decide +kernel), if_neg (by decide +kernel), if_neg (by decide +kernel), if_neg (by decide +kernel), if_neg (by decide +kernel), if_pos rfl]
  have E_NoRow : E "NoRow" = C_NoRow := by
    show (if ("NoRow" : Str) = ("PaneError" : Str) then C_PaneError else if ("NoRow" : Str) = ("NoNumber" : Str) then C_NoNumber else if ("NoRow" : Str) = ("NoSpace" : Str) then C_NoSpace else if ("NoRow" : Str) = ("NoFile" : Str) then C_NoFile else if ("NoRow" : Str) = ("NoPage" : Str) then C_NoPage else if ("NoRow" : Str) = ("NoRight" : Str) then C_NoRight else if ("NoRow" : Str) = ("Taken" : Str) then C_Taken else if ("NoRow" : Str) = ("Held" : Str) then C_Held else if ("NoRow" : Str) = ("Full" : Str) then C_Full else C_NoRow) = _
    rw [if_neg (by decide +kernel), if_neg (by decide +kernel), if_neg (by decide +kernel), if_neg (by decide +kernel), if_neg (by decide +kernel), if_neg (by decide +kernel), if_neg (by decide +kernel), if_neg (by decide +kernel), if_neg (by decide +kernel)]
  have er : Errs m E [("Full" : Str)] [("PaneError" : Str), ("NoNumber" : Str), ("NoSpace" : Str), ("NoFile" : Str), ("NoPage" : Str), ("NoRight" : Str), ("Taken" : Str), ("Held" : Str), ("Full" : Str), ("NoRow" : Str)] := by
    refine ⟨?_, ?_, ?_, ?_, ?_⟩
    · simp only [List.mem_cons, List.not_mem_nil, or_false]; rintro x (rfl)
      · rw [E_Full]; exact ⟨xq_Full, xk_Full, yt_Full, yc_Full, x1_Full, x2_Full, x3_Full, x4_Full, x5_Full, x6, x7, x8_Full⟩
    · simp only [List.mem_cons, List.not_mem_nil, or_false]; rintro x (rfl | rfl | rfl | rfl | rfl | rfl | rfl | rfl | rfl | rfl)
      · rw [E_PaneError]; exact PySem.W.mg_of X G gC_PaneError
      · rw [E_NoNumber]; exact PySem.W.mg_of X G gC_NoNumber
      · rw [E_NoSpace]; exact PySem.W.mg_of X G gC_NoSpace
      · rw [E_NoFile]; exact PySem.W.mg_of X G gC_NoFile
      · rw [E_NoPage]; exact PySem.W.mg_of X G gC_NoPage
      · rw [E_NoRight]; exact PySem.W.mg_of X G gC_NoRight
      · rw [E_Taken]; exact PySem.W.mg_of X G gC_Taken
      · rw [E_Held]; exact PySem.W.mg_of X G gC_Held
      · rw [E_Full]; exact PySem.W.mg_of X G gC_Full
      · rw [E_NoRow]; exact PySem.W.mg_of X G gC_NoRow
    · simp only [List.mem_cons, List.not_mem_nil, or_false]; rintro x (rfl) y (rfl | rfl | rfl | rfl | rfl | rfl | rfl | rfl | rfl | rfl)
      · rw [E_Full, E_PaneError, show (decide (("Full" : Str) = "PaneError") || decide (("PaneError" : Str) = "PaneError")) = true from by decide +kernel]; exact kit_yes yc_PaneError yt_PaneError kt_Full_PaneError
      · rw [E_Full, E_NoNumber, show (decide (("Full" : Str) = "NoNumber") || decide (("NoNumber" : Str) = "PaneError")) = false from by decide +kernel]; exact kit_no yc_NoNumber yt_NoNumber kt_Full_Full kt_Full_NoNumber
      · rw [E_Full, E_NoSpace, show (decide (("Full" : Str) = "NoSpace") || decide (("NoSpace" : Str) = "PaneError")) = false from by decide +kernel]; exact kit_no yc_NoSpace yt_NoSpace kt_Full_Full kt_Full_NoSpace
      · rw [E_Full, E_NoFile, show (decide (("Full" : Str) = "NoFile") || decide (("NoFile" : Str) = "PaneError")) = false from by decide +kernel]; exact kit_no yc_NoFile yt_NoFile kt_Full_Full kt_Full_NoFile
      · rw [E_Full, E_NoPage, show (decide (("Full" : Str) = "NoPage") || decide (("NoPage" : Str) = "PaneError")) = false from by decide +kernel]; exact kit_no yc_NoPage yt_NoPage kt_Full_Full kt_Full_NoPage
      · rw [E_Full, E_NoRight, show (decide (("Full" : Str) = "NoRight") || decide (("NoRight" : Str) = "PaneError")) = false from by decide +kernel]; exact kit_no yc_NoRight yt_NoRight kt_Full_Full kt_Full_NoRight
      · rw [E_Full, E_Taken, show (decide (("Full" : Str) = "Taken") || decide (("Taken" : Str) = "PaneError")) = false from by decide +kernel]; exact kit_no yc_Taken yt_Taken kt_Full_Full kt_Full_Taken
      · rw [E_Full, E_Held, show (decide (("Full" : Str) = "Held") || decide (("Held" : Str) = "PaneError")) = false from by decide +kernel]; exact kit_no yc_Held yt_Held kt_Full_Full kt_Full_Held
      · rw [E_Full, show (decide (("Full" : Str) = "Full") || decide (("Full" : Str) = "PaneError")) = true from by decide +kernel]; exact kit_yes yc_Full yt_Full kt_Full_Full
      · rw [E_Full, E_NoRow, show (decide (("Full" : Str) = "NoRow") || decide (("NoRow" : Str) = "PaneError")) = false from by decide +kernel]; exact kit_no yc_NoRow yt_NoRow kt_Full_Full kt_Full_NoRow
    · simp only [List.mem_cons, List.not_mem_nil, or_false]; rintro x (rfl)
      · rw [E_Full]; exact kit_ve kv_Full
    · simp only [List.mem_cons, List.not_mem_nil, or_false]; rintro x (rfl)
      · rw [E_Full, E_PaneError]; exact exm_pe yb yc_PaneError yt_PaneError kt_Full_PaneError
  have xf_Full : PySem.W.exmOne m.K (.ref (E "Full")) (.ref (E "Full")) = some true := by rw [E_Full]; exact exm_pe x3_Full yc_Full yt_Full kt_Full_Full
  have oc_Shelf : ObjC m C_Shelf ["my_sheets", "my_rows"] := ⟨cl_Shelf, by simp only [List.mem_cons, List.not_mem_nil, or_false]; rintro f (rfl | rfl) <;> first | exact na_Shelf_my_sheets | exact na_Shelf_my_rows⟩
  have mk_Shelf : MkIs m "Shelf" C_Shelf 1 (K_Shelf___init__ C_Shelf) := ⟨⟨_, _, _, ok_Shelf___init__ (m := m) rfl bl F_Shelf___init__ oc_Shelf, ⟨mkf_Shelf, a_Shelf___init__, i_Shelf___init__, kc_Shelf⟩, PySem.W.mg_of X G aC_Shelf, b_Shelf___init__⟩⟩
  have h_Shelf_put_on : MtIs m C_Shelf "put_on" 1 (K_Shelf_put_on C_Shelf E) := ⟨⟨_, _, _, ok_Shelf_put_on (m := m) rfl bl F_Shelf_put_on er oc_Shelf, ⟨a_Shelf_put_on, i_Shelf_put_on, k_Shelf_put_on⟩, b_Shelf_put_on⟩⟩
  have h_Shelf_take_off : MtIs m C_Shelf "take_off" 1 (K_Shelf_take_off C_Shelf) := ⟨⟨_, _, _, ok_Shelf_take_off (m := m) rfl bl F_Shelf_take_off oc_Shelf, ⟨a_Shelf_take_off, i_Shelf_take_off, k_Shelf_take_off⟩, b_Shelf_take_off⟩⟩
  have h_Shelf_row_of_sheet : MtIs m C_Shelf "row_of_sheet" 1 (K_Shelf_row_of_sheet C_Shelf) := ⟨⟨_, _, _, ok_Shelf_row_of_sheet (m := m) rfl bl F_Shelf_row_of_sheet oc_Shelf, ⟨a_Shelf_row_of_sheet, i_Shelf_row_of_sheet, k_Shelf_row_of_sheet⟩, b_Shelf_row_of_sheet⟩⟩
  have h_Shelf_has : MtIs m C_Shelf "has" 1 (K_Shelf_has C_Shelf) := ⟨⟨_, _, _, ok_Shelf_has (m := m) rfl bl F_Shelf_has oc_Shelf, ⟨a_Shelf_has, i_Shelf_has, k_Shelf_has⟩, b_Shelf_has⟩⟩
  have h_Shelf_is_full : MtIs m C_Shelf "is_full" 1 (K_Shelf_is_full C_Shelf) := ⟨⟨_, _, _, ok_Shelf_is_full (m := m) rfl bl F_Shelf_is_full oc_Shelf, ⟨a_Shelf_is_full, i_Shelf_is_full, k_Shelf_is_full⟩, b_Shelf_is_full⟩⟩
  have h_Shelf_sheets : MtIs m C_Shelf "sheets" 1 (K_Shelf_sheets C_Shelf) := ⟨⟨_, _, _, ok_Shelf_sheets (m := m) rfl bl F_Shelf_sheets oc_Shelf, ⟨a_Shelf_sheets, i_Shelf_sheets, k_Shelf_sheets⟩, b_Shelf_sheets⟩⟩
  have h_Lwhole : FnIs m "_law_whole" 1 K_Lwhole := ⟨⟨_, _, _, ok_Lwhole (m := m) rfl bl F_Lwhole, PySem.W.mg_of X G a_Lwhole, k_Lwhole, b_Lwhole⟩⟩
  have h_Lalike0 : FnIs m "_law_alike" 2 (K_Lalike 0) := ⟨⟨_, _, _, ok_Lalike0 (m := m) rfl bl F_Lalike h_Lwhole, PySem.W.mg_of X G a_Lalike, k_Lalike, b_Lalike⟩⟩
  have h_Lalike1 : FnIs m "_law_alike" 3 (K_Lalike 1) := ⟨⟨_, _, _, ok_Lalike1 (m := m) rfl bl F_Lalike h_Lwhole h_Lalike0, PySem.W.mg_of X G a_Lalike, k_Lalike, b_Lalike⟩⟩
  have h_Lalike : FnIs m "_law_alike" 4 (K_Lalike 2) := ⟨⟨_, _, _, ok_Lalike2 (m := m) rfl bl F_Lalike h_Lwhole h_Lalike1, PySem.W.mg_of X G a_Lalike, k_Lalike, b_Lalike⟩⟩
  have h_Lnum : FnIs m "_law_num" 1 K_Lnum := ⟨⟨_, _, _, ok_Lnum (m := m) rfl bl F_Lnum, PySem.W.mg_of X G a_Lnum, k_Lnum, b_Lnum⟩⟩
  have h_Lrow : FnIs m "_law_row" 2 K_Lrow := ⟨⟨_, _, _, ok_Lrow (m := m) rfl bl F_Lrow h_Lnum, PySem.W.mg_of X G a_Lrow, k_Lrow, b_Lrow⟩⟩
  have h_Lcell_at : FnIs m "_law_cell_at" 1 K_Lcell_at := ⟨⟨_, _, _, ok_Lcell_at (m := m) rfl bl F_Lcell_at, PySem.W.mg_of X G a_Lcell_at, k_Lcell_at, b_Lcell_at⟩⟩
  have h_Lfresh : FnIs m "_law_fresh" 1 K_Lfresh := ⟨⟨_, _, _, ok_Lfresh (m := m) rfl bl F_Lfresh, PySem.W.mg_of X G a_Lfresh, k_Lfresh, b_Lfresh⟩⟩
  have h_Lrefused : FnIs m "_law_refused" 2 (K_Lrefused C_Shelf) := ⟨⟨_, _, _, ok_Lrefused (m := m) rfl bl F_Lrefused er bl.ValueError oc_Shelf h_Shelf_put_on, PySem.W.mg_of X G a_Lrefused, k_Lrefused, b_Lrefused⟩⟩
  have h_Lput : FnIs m "_law_put" 5 (K_Lput C_Shelf) := ⟨⟨_, _, _, ok_Lput (m := m) rfl bl F_Lput oc_Shelf h_Shelf_put_on h_Lalike, PySem.W.mg_of X G a_Lput, k_Lput, b_Lput⟩⟩
  have h_Ltaken : FnIs m "_law_taken" 5 (K_Ltaken C_Shelf) := ⟨⟨_, _, _, ok_Ltaken (m := m) rfl bl F_Ltaken oc_Shelf h_Shelf_take_off h_Lalike, PySem.W.mg_of X G a_Ltaken, k_Ltaken, b_Ltaken⟩⟩
  have h_Ldeed : FnIs m "_law_deed" 6 (K_Ldeed C_Shelf) := ⟨⟨_, _, _, ok_Ldeed (m := m) rfl bl F_Ldeed oc_Shelf h_Shelf_row_of_sheet h_Lalike h_Lfresh h_Lrow h_Lput h_Lrefused h_Ltaken, PySem.W.mg_of X G a_Ldeed, k_Ldeed, b_Ldeed⟩⟩
  have h_Lis_shelf : FnIs m "_law_is_shelf" 5 (K_Lis_shelf C_Shelf) := ⟨⟨_, _, _, ok_Lis_shelf (m := m) rfl bl F_Lis_shelf oc_Shelf h_Shelf_has h_Shelf_is_full h_Shelf_sheets h_Lalike, PySem.W.mg_of X G a_Lis_shelf, k_Lis_shelf, b_Lis_shelf⟩⟩
  exact ok_law (m := m) rfl bl F_law oc_Shelf mk_Shelf h_Shelf_put_on h_Shelf_row_of_sheet h_Shelf_sheets h_Shelf_is_full h_Shelf_take_off h_Lcell_at h_Lalike h_Lrow h_Lput h_Ldeed h_Lis_shelf
end My
open PySem PySem.W PyProof.Rows
set_option maxRecDepth 100000 in
set_option maxHeartbeats 0 in
theorem PySem.Challenge.cw_paneworks_k36_the_shelf_holds : PySem.Challenge.rw_paneworks_k36_the_shelf.Holds := by
  w_on; o_law; k_head; (case hw => w_witness2)
  k_fill
  refine PW.law_walkB (l := PySem.Challenge.rw_paneworks_k36_the_shelf) (k := 7) (x := "_law_script") rfl rfl ⟨rfl, by decide, by decide⟩ (fun w h Y => PySem.W.kIn_of Y) ?F
  case F =>
    intro w mg fa h KX G hmg
    refine' My.all_mk KX G hmg ?aC_Shelf ?pg_Shelf ?hd_Shelf ?po_Shelf ?sa_Shelf ?mkf_Shelf ?kc_Shelf ?na_Shelf_my_sheets ?na_Shelf_my_rows ?a_Shelf___init__ ?i_Shelf___init__ ?l_Shelf___init__ ?c_Shelf___init__ ?k_Shelf___init__ ?a_Shelf_put_on ?i_Shelf_put_on ?l_Shelf_put_on ?c_Shelf_put_on ?k_Shelf_put_on ?a_Shelf_take_off ?i_Shelf_take_off ?l_Shelf_take_off ?c_Shelf_take_off ?k_Shelf_take_off ?a_Shelf_row_of_sheet ?i_Shelf_row_of_sheet ?l_Shelf_row_of_sheet ?c_Shelf_row_of_sheet ?k_Shelf_row_of_sheet ?a_Shelf_has ?i_Shelf_has ?l_Shelf_has ?c_Shelf_has ?k_Shelf_has ?a_Shelf_is_full ?i_Shelf_is_full ?l_Shelf_is_full ?c_Shelf_is_full ?k_Shelf_is_full ?a_Shelf_sheets ?i_Shelf_sheets ?l_Shelf_sheets ?c_Shelf_sheets ?k_Shelf_sheets ?a_Lcell_at ?l_Lcell_at ?c_Lcell_at ?k_Lcell_at ?a_Lwhole ?l_Lwhole ?c_Lwhole ?k_Lwhole ?a_Lalike ?l_Lalike ?c_Lalike ?k_Lalike ?a_Lnum ?l_Lnum ?c_Lnum ?k_Lnum ?a_Lrow ?l_Lrow ?c_Lrow ?k_Lrow ?a_Lfresh ?l_Lfresh ?c_Lfresh ?k_Lfresh ?a_Lrefused ?l_Lrefused ?c_Lrefused ?k_Lrefused ?a_Lput ?l_Lput ?c_Lput ?k_Lput ?a_Ltaken ?l_Ltaken ?c_Ltaken ?k_Ltaken ?a_Ldeed ?l_Ldeed ?c_Ldeed ?k_Ldeed ?a_Lis_shelf ?l_Lis_shelf ?c_Lis_shelf ?k_Lis_shelf ?a_law ?l_law ?c_law ?k_law ?z_len ?z_range ?z_isinstance ?z_list ?z_int ?z_bool ?z_str ?z_tuple ?z_dict ?z_set ?z_sorted ?z_min ?z_max ?z_reversed ?z_ValueError ?gC_PaneError ?gC_NoNumber ?gC_NoSpace ?gC_NoFile ?gC_NoPage ?gC_NoRight ?gC_Taken ?gC_Held ?gC_Full ?gC_NoRow ?yc_PaneError ?yt_PaneError ?yc_NoNumber ?yt_NoNumber ?yc_NoSpace ?yt_NoSpace ?yc_NoFile ?yt_NoFile ?yc_NoPage ?yt_NoPage ?yc_NoRight ?yt_NoRight ?yc_Taken ?yt_Taken ?yc_Held ?yt_Held ?yc_Full ?yt_Full ?yc_NoRow ?yt_NoRow ?yb ?xq_Full ?xk_Full ?x1_Full ?x2_Full ?x3_Full ?x4_Full ?x5_Full ?x8_Full ?kv_Full ?kt_Full_PaneError ?kt_Full_NoNumber ?kt_Full_NoSpace ?kt_Full_NoFile ?kt_Full_NoPage ?kt_Full_NoRight ?kt_Full_Taken ?kt_Full_Held ?kt_Full_Full ?kt_Full_NoRow ?x6 ?x7
    (case aC_Shelf => k_is)
    (case pg_Shelf => k_is)
    (case hd_Shelf => k_is)
    (case po_Shelf => k_is)
    (case sa_Shelf => k_is)
    (case mkf_Shelf => k_is)
    (case kc_Shelf => k_is)
    (case na_Shelf_my_sheets => k_is)
    (case na_Shelf_my_rows => k_is)
    (case a_Shelf___init__ => k_is)
    (case i_Shelf___init__ => k_is)
    (case l_Shelf___init__ => k_is)
    (case c_Shelf___init__ => k_is)
    (case k_Shelf___init__ => k_is)
    (case a_Shelf_put_on => k_is)
    (case i_Shelf_put_on => k_is)
    (case l_Shelf_put_on => k_is)
    (case c_Shelf_put_on => k_is)
    (case k_Shelf_put_on => k_is)
    (case a_Shelf_take_off => k_is)
    (case i_Shelf_take_off => k_is)
    (case l_Shelf_take_off => k_is)
    (case c_Shelf_take_off => k_is)
    (case k_Shelf_take_off => k_is)
    (case a_Shelf_row_of_sheet => k_is)
    (case i_Shelf_row_of_sheet => k_is)
    (case l_Shelf_row_of_sheet => k_is)
    (case c_Shelf_row_of_sheet => k_is)
    (case k_Shelf_row_of_sheet => k_is)
    (case a_Shelf_has => k_is)
    (case i_Shelf_has => k_is)
    (case l_Shelf_has => k_is)
    (case c_Shelf_has => k_is)
    (case k_Shelf_has => k_is)
    (case a_Shelf_is_full => k_is)
    (case i_Shelf_is_full => k_is)
    (case l_Shelf_is_full => k_is)
    (case c_Shelf_is_full => k_is)
    (case k_Shelf_is_full => k_is)
    (case a_Shelf_sheets => k_is)
    (case i_Shelf_sheets => k_is)
    (case l_Shelf_sheets => k_is)
    (case c_Shelf_sheets => k_is)
    (case k_Shelf_sheets => k_is)
    (case a_Lcell_at => k_is)
    (case l_Lcell_at => k_is)
    (case c_Lcell_at => k_is)
    (case k_Lcell_at => k_is)
    (case a_Lwhole => k_is)
    (case l_Lwhole => k_is)
    (case c_Lwhole => k_is)
    (case k_Lwhole => k_is)
    (case a_Lalike => k_is)
    (case l_Lalike => k_is)
    (case c_Lalike => k_is)
    (case k_Lalike => k_is)
    (case a_Lnum => k_is)
    (case l_Lnum => k_is)
    (case c_Lnum => k_is)
    (case k_Lnum => k_is)
    (case a_Lrow => k_is)
    (case l_Lrow => k_is)
    (case c_Lrow => k_is)
    (case k_Lrow => k_is)
    (case a_Lfresh => k_is)
    (case l_Lfresh => k_is)
    (case c_Lfresh => k_is)
    (case k_Lfresh => k_is)
    (case a_Lrefused => k_is)
    (case l_Lrefused => k_is)
    (case c_Lrefused => k_is)
    (case k_Lrefused => k_is)
    (case a_Lput => k_is)
    (case l_Lput => k_is)
    (case c_Lput => k_is)
    (case k_Lput => k_is)
    (case a_Ltaken => k_is)
    (case l_Ltaken => k_is)
    (case c_Ltaken => k_is)
    (case k_Ltaken => k_is)
    (case a_Ldeed => k_is)
    (case l_Ldeed => k_is)
    (case c_Ldeed => k_is)
    (case k_Ldeed => k_is)
    (case a_Lis_shelf => k_is)
    (case l_Lis_shelf => k_is)
    (case c_Lis_shelf => k_is)
    (case k_Lis_shelf => k_is)
    (case a_law => k_is)
    (case l_law => k_is)
    (case c_law => k_is)
    (case k_law => k_is)
    (case z_len => k_is)
    (case z_range => k_is)
    (case z_isinstance => k_is)
    (case z_list => k_is)
    (case z_int => k_is)
    (case z_bool => k_is)
    (case z_str => k_is)
    (case z_tuple => k_is)
    (case z_dict => k_is)
    (case z_set => k_is)
    (case z_sorted => k_is)
    (case z_min => k_is)
    (case z_max => k_is)
    (case z_reversed => k_is)
    (case z_ValueError => k_is)
    (case gC_PaneError => k_is)
    (case gC_NoNumber => k_is)
    (case gC_NoSpace => k_is)
    (case gC_NoFile => k_is)
    (case gC_NoPage => k_is)
    (case gC_NoRight => k_is)
    (case gC_Taken => k_is)
    (case gC_Held => k_is)
    (case gC_Full => k_is)
    (case gC_NoRow => k_is)
    (case yc_PaneError => k_is)
    (case yt_PaneError => k_is)
    (case yc_NoNumber => k_is)
    (case yt_NoNumber => k_is)
    (case yc_NoSpace => k_is)
    (case yt_NoSpace => k_is)
    (case yc_NoFile => k_is)
    (case yt_NoFile => k_is)
    (case yc_NoPage => k_is)
    (case yt_NoPage => k_is)
    (case yc_NoRight => k_is)
    (case yt_NoRight => k_is)
    (case yc_Taken => k_is)
    (case yt_Taken => k_is)
    (case yc_Held => k_is)
    (case yt_Held => k_is)
    (case yc_Full => k_is)
    (case yt_Full => k_is)
    (case yc_NoRow => k_is)
    (case yt_NoRow => k_is)
    (case yb => k_is)
    (case xq_Full => k_exc)
    (case xk_Full => k_is)
    (case x1_Full => k_is)
    (case x2_Full => k_is)
    (case x3_Full => k_is)
    (case x4_Full => k_is)
    (case x5_Full => k_is)
    (case x8_Full => k_is)
    (case kv_Full => k_is)
    (case kt_Full_PaneError => k_is)
    (case kt_Full_NoNumber => k_is)
    (case kt_Full_NoSpace => k_is)
    (case kt_Full_NoFile => k_is)
    (case kt_Full_NoPage => k_is)
    (case kt_Full_NoRight => k_is)
    (case kt_Full_Taken => k_is)
    (case kt_Full_Held => k_is)
    (case kt_Full_Full => k_is)
    (case kt_Full_NoRow => k_is)
    (case x6 => k_is)
    (case x7 => k_is)
