import PyProof.Rows.All
import Wide.All
import OpenK.AllK
import Wide.FinOn
import HandS.ForMost
import HandS.ForExc
import HandS.IsInst
import HandS.ExcIs
import HandS.TryMany
import HandS.CallSlots
import HandS.Flow
import HandS.Wide
import HandS.StrMore
import KE.KExcIs
import HandS.Deep
import HandS.TryOnly
import PyProof.ListStr
import HandS.Conv
import PyProof.Rows.StrDigitsNeg
import HandS.Replace
import HandS.Dict
import HandS.Small
import HandS.More
import HandS.EndBits
import KE.IntBitsLaws
import HandS.WordsDict
import PySem.Challenge.RW_paneworks_k07_leaves
set_option Elab.async false
set_option linter.all false
set_option maxRecDepth 100000
set_option maxHeartbeats 1000000
/-! A layer of our own over HandS: values as plain data, state as a list of slots and a list of owned things. -/
namespace PW
open PySem L2

abbrev Fp := Addr → Prop
/-- the written part, fixed through a law -/
class KC where
  K : PySem.W.Frag
variable [KC]
/-- a list of the written part -/
def KLst (K : PySem.W.Frag) (a : Addr) (xs : List V) : Prop := ∃ (o : Obj) (its : Array Value) (n : Nat), K.lookup a = some o ∧ o.cls = .type "list" ∧ o.dict = none ∧ o.data = .seq its n ∧ its.size ≤ sizeLine ∧ Vals xs its.toList
/-- a list that nobody writes any more -/
def LsAt (G : Fp) (H : Hp) (a : Addr) (xs : List V) : Prop := (Rd H a (.lst xs) ∧ ¬ G a) ∨ KLst KC.K a xs
theorem LsAt.sq {G : Fp} {H : Hp} {a : Addr} {xs : List V} (h : LsAt G H a xs) : SqL KC.K H a xs := h.imp And.left id

/-! ### data that nobody writes any more -/
mutual
inductive Is (G : Fp) (H : Hp) : V → PyData → Prop
  | non : Is G H .non .none
  | bl (b : Bool) : Is G H (.bl b) (.bool b)
  | int (i : Int) : Is G H (.int i) (.int i)
  | str (x : Str) : Is G H (.str x) (.str x)
  | lst {a : Addr} {xs : List V} {ds : List PyData} : LsAt G H a xs → IsAll G H xs ds → Is G H (.ref a) (.list ds)
  | tup {a : Addr} {xs : List V} {ds : List PyData} : Rd H a (.tup xs) → ¬ G a → IsAll G H xs ds → Is G H (.ref a) (.tuple ds)
inductive IsAll (G : Fp) (H : Hp) : List V → List PyData → Prop
  | nil : IsAll G H [] []
  | cons {v : V} {vs : List V} {d : PyData} {ds : List PyData} : Is G H v d → IsAll G H vs ds → IsAll G H (v :: vs) (d :: ds)
end

/-- from (G, H) to (G', H'): G's own things may have changed, all else that was tracked stands, what is owned new is fresh -/
structure Stp (G G' : Fp) (H H' : Hp) : Prop where
  keep : ∀ a o, H a = some o → ¬ G a → H' a = some o
  sub : ∀ a, G' a → G a ∨ H a = none
  old : ∀ a o, H a = some o → ∃ o', H' a = some o'
theorem Stp.refl (G : Fp) (H : Hp) : Stp G G H H := ⟨fun _ _ h _ => h, fun _ h => .inl h, fun _ o h => ⟨o, h⟩⟩
theorem Stp.fresh {G G' : Fp} {H H' : Hp} (s : Stp G G' H H') {a : Addr} (h : H' a = none) : H a = none := by
  cases e : H a with
  | none => rfl
  | some o => obtain ⟨o', q⟩ := s.old a o e; rw [h] at q; cases q
theorem Stp.trans {G G1 G2 : Fp} {H H1 H2 : Hp} (s : Stp G G1 H H1) (t : Stp G1 G2 H1 H2) : Stp G G2 H H2 where
  keep := fun a o h n => t.keep a o (s.keep a o h n) fun g => by
    rcases s.sub a g with q | q
    · exact n q
    · rw [h] at q; cases q
  sub := fun a g => by
    rcases t.sub a g with q | q
    · exact s.sub a q
    · exact .inr (s.fresh q)
  old := fun a o h => by
    obtain ⟨o1, q⟩ := s.old a o h
    exact t.old a o1 q
theorem Stp.same {G : Fp} {H H' : Hp} (h : Same H H') : Stp G G H H' := ⟨fun a o q _ => h a o q, fun _ g => .inl g, fun a o q => ⟨o, h a o q⟩⟩
theorem Stp.less {G G' : Fp} {H : Hp} (h : ∀ a, G' a → G a) : Stp G G' H H := ⟨fun _ _ q _ => q, fun a g => .inl (h a g), fun _ o q => ⟨o, q⟩⟩

section
variable {G G' : Fp} {H H' : Hp}
theorem rd_stp {a : Addr} {u : HO} (k : ∀ a o, H a = some o → ¬ G a → H' a = some o) (n : ¬ G a) (h : Rd H a u) : Rd H' a u := by
  rcases h with h | ⟨o, h⟩
  · exact .inl (k _ _ h n)
  · exact .inr ⟨o, k _ _ h n⟩
theorem rd_some {a : Addr} {u : HO} (h : Rd H a u) : ∃ o, H a = some o := by
  rcases h with h | ⟨o, h⟩
  · exact ⟨_, h⟩
  · exact ⟨_, h⟩
theorem ls_stp0 {a : Addr} {xs : List V} (k : ∀ a o, H a = some o → ¬ G a → H' a = some o) (s : ∀ a, G' a → G a ∨ H a = none) (h : LsAt G H a xs) : LsAt G' H' a xs := by
  rcases h with ⟨r, n⟩ | h
  · refine .inl ⟨rd_stp k n r, fun g => ?_⟩
    obtain ⟨o, q⟩ := rd_some r
    rcases s _ g with z | z
    · exact n z
    · rw [q] at z; cases z
  · exact .inr h
mutual
theorem Is.stp0 (k : ∀ a o, H a = some o → ¬ G a → H' a = some o) (s : ∀ a, G' a → G a ∨ H a = none) : ∀ {v : V} {d : PyData}, Is G H v d → Is G' H' v d
  | _, _, .non => .non
  | _, _, .bl b => .bl b
  | _, _, .int i => .int i
  | _, _, .str x => .str x
  | _, _, .lst r t => .lst (ls_stp0 k s r) (IsAll.stp0 k s t)
  | _, _, .tup r n t => .tup (rd_stp k n r) (fun g => by
      obtain ⟨o, q⟩ := rd_some r
      rcases s _ g with z | z
      · exact n z
      · rw [q] at z; cases z) (IsAll.stp0 k s t)
theorem IsAll.stp0 (k : ∀ a o, H a = some o → ¬ G a → H' a = some o) (s : ∀ a, G' a → G a ∨ H a = none) : ∀ {vs : List V} {ds : List PyData}, IsAll G H vs ds → IsAll G' H' vs ds
  | _, _, .nil => .nil
  | _, _, .cons h t => .cons (Is.stp0 k s h) (IsAll.stp0 k s t)
end
theorem Is.stp {v : V} {d : PyData} (s : Stp G G' H H') (h : Is G H v d) : Is G' H' v d := h.stp0 s.keep s.sub
theorem IsAll.stp {vs : List V} {ds : List PyData} (s : Stp G G' H H') (h : IsAll G H vs ds) : IsAll G' H' vs ds := h.stp0 s.keep s.sub
theorem IsAll.length : ∀ {vs : List V} {ds : List PyData}, IsAll G H vs ds → vs.length = ds.length
  | _, _, .nil => rfl
  | _, _, .cons _ t => congrArg (· + 1) (IsAll.length t)
theorem IsAll.get : ∀ {vs : List V} {ds : List PyData} {i : Nat} {d : PyData}, IsAll G H vs ds → ds[i]? = some d → ∃ v, vs[i]? = some v ∧ Is G H v d
  | _, _, _, _, .nil, e => by simp at e
  | _, _, 0, _, .cons h _, e => by simp at e; subst e; exact ⟨_, rfl, h⟩
  | _, _, i + 1, d, .cons _ t, e => by
    obtain ⟨v, h1, h2⟩ := IsAll.get (i := i) (d := d) t (by simpa using e)
    exact ⟨v, by simpa using h1, h2⟩
theorem IsAll.getV : ∀ {vs : List V} {ds : List PyData} {i : Nat} {v : V}, IsAll G H vs ds → vs[i]? = some v → ∃ d, ds[i]? = some d ∧ Is G H v d
  | _, _, _, _, .nil, e => by simp at e
  | _, _, 0, _, .cons h _, e => by simp at e; subst e; exact ⟨_, rfl, h⟩
  | _, _, i + 1, d, .cons _ t, e => by
    obtain ⟨v, h1, h2⟩ := IsAll.getV (i := i) (v := d) t (by simpa using e)
    exact ⟨v, by simpa using h1, h2⟩
theorem IsAll.append : ∀ {vs ws : List V} {ds es : List PyData}, IsAll G H vs ds → IsAll G H ws es → IsAll G H (vs ++ ws) (ds ++ es)
  | _, _, _, _, .nil, h => h
  | _, _, _, _, .cons a t, h => .cons a (t.append h)
theorem IsAll.take : ∀ {vs : List V} {ds : List PyData} (n : Nat), IsAll G H vs ds → IsAll G H (vs.take n) (ds.take n)
  | _, _, 0, _ => .nil
  | _, _, _ + 1, .nil => .nil
  | _, _, n + 1, .cons a t => .cons a (t.take n)
theorem IsAll.drop : ∀ {vs : List V} {ds : List PyData} (n : Nat), IsAll G H vs ds → IsAll G H (vs.drop n) (ds.drop n)
  | _, _, 0, h => h
  | _, _, _ + 1, .nil => .nil
  | _, _, n + 1, .cons _ t => t.drop n
theorem IsAll.set {v : V} {d : PyData} (h : Is G H v d) : ∀ {vs : List V} {ds : List PyData} (i : Nat), IsAll G H vs ds → IsAll G H (vs.set i v) (ds.set i d)
  | _, _, _, .nil => .nil
  | _, _, 0, .cons _ t => .cons h t
  | _, _, i + 1, .cons q t => .cons q (IsAll.set h i t)
/-- as HandS says it -/
theorem rd_sqL {K : PySem.W.Frag} {a : Addr} {xs : List V} (h : Rd H a (.lst xs)) : SqL K H a xs := .inl h
theorem rd_sqT {K : PySem.W.Frag} {a : Addr} {xs : List V} (h : Rd H a (.tup xs)) : SqT K H a xs := .inl h
mutual
theorem Is.dp : ∀ {v : V} {d : PyData}, Is G H v d → Dp KC.K H v d
  | _, _, .non => .non
  | _, _, .bl b => .bl b
  | _, _, .int i => .int i
  | _, _, .str x => .str x
  | _, _, .lst r t => .lst r.sq (IsAll.dp t)
  | _, _, .tup r _ t => .tup (rd_sqT r) (IsAll.dp t)
theorem IsAll.dp : ∀ {vs : List V} {ds : List PyData}, IsAll G H vs ds → DpAll KC.K H vs ds
  | _, _, .nil => .nil
  | _, _, .cons h t => .cons (Is.dp h) (IsAll.dp t)
end
end

/-! ### slots -/
inductive Sl where
  | un | d (x : PyData) | r (v : V) | n (ds : List PyData)
/-- a new list, once it is given a name, is plain data -/
def Sl.plain : Sl → Sl
  | .n ds => .d (.list ds)
  | s => s
def SlOk (G : Fp) (H : Hp) (v : V) : Sl → Prop
  | .un => True
  | .d x => Is G H v x
  | .r u => v = u
  | .n ds => Is G H v (.list ds)
/-- a result: behind a start in H0 -/
def Rs (G : Fp) (H0 H : Hp) (v : V) : Sl → Prop
  | .n ds => ∃ p vs, v = .ref p ∧ H0 p = none ∧ ¬ G p ∧ H p = some (.lst vs) ∧ IsAll G H vs ds
  | s => SlOk G H v s
section
variable {G G' : Fp} {H H' H0 : Hp} {v : V} {s : Sl}
theorem SlOk.stp (t : Stp G G' H H') (h : SlOk G H v s) : SlOk G' H' v s := by
  cases s with
  | un => trivial
  | d x => exact Is.stp t h
  | r u => exact h
  | n ds => exact Is.stp t h
theorem Rs.ok (h : Rs G H0 H v s) : SlOk G H v s := by
  cases s with
  | un => trivial
  | d x => exact h
  | r u => exact h
  | n ds => obtain ⟨p, vs, rfl, _, ng, hp, t⟩ := h; exact .lst (.inl ⟨.inl hp, ng⟩) t
theorem SlOk.plain (h : SlOk G H v s) : SlOk G H v s.plain := by
  cases s <;> exact h
theorem Rs.back {G0 G1 : Fp} {H1 : Hp} (t : Stp G0 G1 H1 H0) (h : Rs G H0 H v s) : Rs G H1 H v s := by
  cases s with
  | un => trivial
  | d x => exact h
  | r u => exact h
  | n ds => obtain ⟨p, vs, e, z, ng, hp, q⟩ := h; exact ⟨p, vs, e, t.fresh z, ng, hp, q⟩
theorem Rs.of_ok (h : SlOk G H v s) (hn : ∀ ds, s ≠ .n ds) : Rs G H0 H v s := by
  cases s with
  | n ds => exact absurd rfl (hn ds)
  | un => trivial
  | d x => exact h
  | r u => exact h
end
/-- the slots of a frame -/
def EnvOk (G : Fp) (H : Hp) : St → List Sl → Prop
  | [], [] => True
  | o :: σ, s :: ρ => (match s with
      | .un => True
      | s => ∃ v, o = some v ∧ SlOk G H v s) ∧ EnvOk G H σ ρ
  | _, _ => False
def SlAll (G : Fp) (H : Hp) : List V → List Sl → Prop
  | [], [] => True
  | v :: vs, s :: ss => SlOk G H v s ∧ SlAll G H vs ss
  | _, _ => False
section
variable {G G' : Fp} {H H' : Hp}
theorem EnvOk.stp (t : Stp G G' H H') : ∀ {σ : St} {ρ : List Sl}, EnvOk G H σ ρ → EnvOk G' H' σ ρ
  | [], [], _ => trivial
  | o :: σ, s :: ρ, ⟨h, q⟩ => by
    refine ⟨?_, q.stp t⟩
    cases s with
    | un => trivial
    | d x => obtain ⟨v, e, z⟩ := h; exact ⟨v, e, SlOk.stp t z⟩
    | r x => obtain ⟨v, e, z⟩ := h; exact ⟨v, e, SlOk.stp t z⟩
    | n x => obtain ⟨v, e, z⟩ := h; exact ⟨v, e, SlOk.stp t z⟩
  | [], _ :: _, h => h.elim
  | _ :: _, [], h => h.elim
theorem SlAll.stp (t : Stp G G' H H') : ∀ {vs : List V} {ss : List Sl}, SlAll G H vs ss → SlAll G' H' vs ss
  | [], [], _ => trivial
  | _ :: _, _ :: _, ⟨h, q⟩ => ⟨SlOk.stp t h, q.stp t⟩
  | [], _ :: _, h => h.elim
  | _ :: _, [], h => h.elim
theorem SlAll.length : ∀ {vs : List V} {ss : List Sl}, SlAll G H vs ss → vs.length = ss.length
  | [], [], _ => rfl
  | _ :: _, _ :: _, ⟨_, q⟩ => congrArg (· + 1) (SlAll.length q)
  | [], _ :: _, h => h.elim
  | _ :: _, [], h => h.elim
theorem SlAll.append : ∀ {vs ws : List V} {ss ts : List Sl}, SlAll G H vs ss → SlAll G H ws ts → SlAll G H (vs ++ ws) (ss ++ ts)
  | [], _, [], _, _, h => h
  | _ :: _, _, _ :: _, _, ⟨a, q⟩, h => ⟨a, q.append h⟩
  | [], _, _ :: _, _, h, _ => h.elim
  | _ :: _, _, [], _, h, _ => h.elim
theorem SlAll.get : ∀ {vs : List V} {ss : List Sl} {i : Nat} {s : Sl}, SlAll G H vs ss → ss[i]? = some s → ∃ v, vs[i]? = some v ∧ SlOk G H v s
  | [], [], _, _, _, e => by simp at e
  | _ :: _, _ :: _, 0, _, ⟨h, _⟩, e => by simp at e; subst e; exact ⟨_, rfl, h⟩
  | _ :: vs, _ :: ss, i + 1, s, ⟨_, q⟩, e => by
    obtain ⟨v, h1, h2⟩ := SlAll.get (i := i) (s := s) q (by simpa using e)
    exact ⟨v, by simpa using h1, h2⟩
  | [], _ :: _, _, _, h, _ => h.elim
  | _ :: _, [], _, _, h, _ => h.elim
theorem SlAll.set {v : V} {s : Sl} (h : SlOk G H v s) : ∀ {vs : List V} {ss : List Sl} (i : Nat), SlAll G H vs ss → SlAll G H (vs.set i v) (ss.set i s)
  | [], [], _, _ => trivial
  | _ :: _, _ :: _, 0, ⟨_, q⟩ => ⟨h, q⟩
  | _ :: _, _ :: _, i + 1, ⟨a, q⟩ => ⟨a, SlAll.set h i q⟩
  | [], _ :: _, _, h => h.elim
  | _ :: _, [], _, h => h.elim
theorem SlAll.of_is : ∀ {vs : List V} {ds : List PyData}, IsAll G H vs ds → SlAll G H vs (ds.map .d)
  | _, _, .nil => trivial
  | _, _, .cons h t => ⟨h, SlAll.of_is t⟩
theorem SlAll.is : ∀ {vs : List V} {ds : List PyData}, SlAll G H vs (ds.map .d) → IsAll G H vs ds
  | [], [], _ => .nil
  | _ :: _, _ :: _, ⟨h, q⟩ => .cons h (SlAll.is q)
  | [], _ :: _, h => h.elim
  | _ :: _, [], h => h.elim
theorem EnvOk.length : ∀ {σ : St} {ρ : List Sl}, EnvOk G H σ ρ → σ.length = ρ.length
  | [], [], _ => rfl
  | _ :: _, _ :: _, ⟨_, q⟩ => congrArg (· + 1) (EnvOk.length q)
  | [], _ :: _, h => h.elim
  | _ :: _, [], h => h.elim
end
/-- the slot of a name; ρ' is ρ with s there -/
inductive Slot : List Str → List Sl → Str → Nat → Sl → Prop
  | zero {x N s ρ} : Slot (x :: N) (s :: ρ) x 0 s
  | succ {x y N s t ρ i} : Slot N ρ x i s → Slot (y :: N) (t :: ρ) x (i + 1) s
inductive SetS : List Str → List Sl → Str → Nat → Sl → List Sl → Prop
  | zero {x N s t ρ} : SetS (x :: N) (t :: ρ) x 0 s (s :: ρ)
  | succ {x y N s t ρ ρ' i} : SetS N ρ x i s ρ' → SetS (y :: N) (t :: ρ) x (i + 1) s (t :: ρ')
theorem Slot.name : ∀ {N ρ x i s}, Slot N ρ x i s → N[i]? = some x
  | _, _, _, _, _, .zero => rfl
  | _, _, _, _, _, .succ h => by simpa using h.name
theorem SetS.name : ∀ {N ρ x i s ρ'}, SetS N ρ x i s ρ' → N[i]? = some x
  | _, _, _, _, _, _, .zero => rfl
  | _, _, _, _, _, _, .succ h => by simpa using h.name
theorem Slot.env {G : Fp} {H : Hp} : ∀ {N ρ x i s} {σ : St}, Slot N ρ x i s → s ≠ .un → EnvOk G H σ ρ → ∃ v, σ[i]? = some (some v) ∧ SlOk G H v s
  | _, _, _, _, s, o :: σ, .zero, hn, ⟨h, _⟩ => by
    cases s with
    | un => exact absurd rfl hn
    | d x => obtain ⟨v, rfl, z⟩ := h; exact ⟨v, rfl, z⟩
    | r x => obtain ⟨v, rfl, z⟩ := h; exact ⟨v, rfl, z⟩
    | n x => obtain ⟨v, rfl, z⟩ := h; exact ⟨v, rfl, z⟩
  | _, _, _, _, _, o :: σ, .succ t, hn, ⟨_, q⟩ => by
    obtain ⟨v, e, z⟩ := Slot.env (σ := σ) t hn q
    exact ⟨v, by simpa using e, z⟩
  | _, _, _, _, _, [], .zero, _, h => h.elim
  | _, _, _, _, _, [], .succ _, _, h => h.elim
theorem SetS.env {G : Fp} {H : Hp} {v : V} : ∀ {N ρ x i s ρ'} {σ : St}, SetS N ρ x i s ρ' → SlOk G H v s → EnvOk G H σ ρ → EnvOk G H (σ.set i (some v)) ρ'
  | _, _, _, _, s, _, o :: σ, .zero, hs, ⟨_, q⟩ => by
    refine ⟨?_, q⟩
    cases s with
    | un => trivial
    | d x => exact ⟨v, rfl, hs⟩
    | r x => exact ⟨v, rfl, hs⟩
    | n x => exact ⟨v, rfl, hs⟩
  | _, _, _, _, _, _, o :: σ, .succ t, hs, ⟨h, q⟩ => ⟨h, SetS.env (σ := σ) t hs q⟩
  | _, _, _, _, _, _, [], .zero, _, h => h.elim
  | _, _, _, _, _, _, [], .succ _, _, h => h.elim
/-- ρ' tells no more than ρ -/
inductive Le : List Sl → List Sl → Prop
  | nil : Le [] []
  | un {s ρ ρ'} : Le ρ ρ' → Le (s :: ρ) (.un :: ρ')
  | eq {s ρ ρ'} : Le ρ ρ' → Le (s :: ρ) (s :: ρ')
theorem Le.env {G : Fp} {H : Hp} : ∀ {ρ ρ' : List Sl} {σ : St}, Le ρ ρ' → EnvOk G H σ ρ → EnvOk G H σ ρ'
  | _, _, [], .nil, _ => trivial
  | _, _, _ :: _, .un t, ⟨_, q⟩ => ⟨trivial, t.env q⟩
  | _, _, _ :: _, .eq t, ⟨h, q⟩ => ⟨h, t.env q⟩
  | _, _, [], .un _, h => h.elim
  | _, _, [], .eq _, h => h.elim
  | _, _, _ :: _, .nil, h => h.elim
theorem Le.refl : ∀ ρ, Le ρ ρ
  | [] => .nil
  | _ :: ρ => .eq (Le.refl ρ)

/-! ### owned things -/
structure Mem where
  ok : Fp → Fp → Hp → Prop
  dom : ∀ {F G H}, ok F G H → ∀ a, F a → ∃ o, H a = some o
  step : ∀ {F G G' H H'}, ok F G H → (∀ a o, H a = some o → (F a ∨ ¬ G a) → H' a = some o) → (∀ a, G' a → G a ∨ H a = none) → ok F G' H'
def sepL : List Mem → Fp → Fp → Hp → Prop
  | [], F, _, _ => ∀ a, ¬ F a
  | A :: rs, F, G, H => ∃ F1 F2 : Fp, A.ok F1 G H ∧ sepL rs F2 G H ∧ (∀ a, F1 a → F2 a → False) ∧ (∀ a, F a ↔ F1 a ∨ F2 a)
theorem sepL.dom {H : Hp} {G : Fp} : ∀ {rs : List Mem} {F : Fp}, sepL rs F G H → ∀ a, F a → ∃ o, H a = some o
  | [], F, h, a, q => absurd q (h a)
  | A :: rs, F, ⟨F1, F2, h1, h2, _, e⟩, a, q => by
    rcases (e a).mp q with z | z
    · exact A.dom h1 a z
    · exact sepL.dom h2 a z
theorem sepL.step {H H' : Hp} {G G' : Fp} (s : ∀ a, G' a → G a ∨ H a = none) : ∀ {rs : List Mem} {F : Fp}, sepL rs F G H → (∀ a o, H a = some o → (F a ∨ ¬ G a) → H' a = some o) → sepL rs F G' H'
  | [], F, h, _ => h
  | A :: rs, F, ⟨F1, F2, h1, h2, d, e⟩, k =>
    ⟨F1, F2, A.step h1 (fun a o q z => k a o q (z.imp (fun z => (e a).mpr (.inl z)) id)) s, sepL.step s h2 (fun a o q z => k a o q (z.imp (fun z => (e a).mpr (.inr z)) id)), d, e⟩
def sepM (rs : List Mem) : Mem := ⟨sepL rs, fun h => sepL.dom h, fun h k s => sepL.step s h k⟩
theorem sepL.ext {H : Hp} {G F F' : Fp} {rs : List Mem} (e : ∀ a, F a ↔ F' a) (h : sepL rs F G H) : sepL rs F' G H := by
  have : F = F' := funext fun a => propext (e a)
  rw [← this]; exact h
/-- xs is taken out of rs: f puts something back -/
inductive Pick : List Mem → Mem → (List Mem → List Mem) → Prop
  | zero {A rs} : Pick (A :: rs) A (fun xs => xs ++ rs)
  | succ {A B rs f} : Pick rs A f → Pick (B :: rs) A (fun xs => B :: f xs)
theorem sepL.app {H : Hp} {G : Fp} : ∀ {xs ys : List Mem} {F : Fp}, sepL (xs ++ ys) F G H ↔ ∃ F1 F2 : Fp, sepL xs F1 G H ∧ sepL ys F2 G H ∧ (∀ a, F1 a → F2 a → False) ∧ (∀ a, F a ↔ F1 a ∨ F2 a)
  | [], ys, F => by
    constructor
    · intro h
      exact ⟨fun _ => False, F, fun _ z => z, h, fun _ z => z.elim, fun a => ⟨fun z => .inr z, fun z => z.elim False.elim id⟩⟩
    · rintro ⟨F1, F2, h1, h2, d, e⟩
      refine sepL.ext (F := F2) (fun a => ?_) h2
      rw [e a]
      exact ⟨.inr, fun z => z.elim (fun z => absurd z (h1 a)) id⟩
  | A :: xs, ys, F => by
    constructor
    · rintro ⟨F1, F2, h1, h2, d, e⟩
      obtain ⟨F3, F4, h3, h4, d2, e2⟩ := (sepL.app (xs := xs) (ys := ys)).mp h2
      refine ⟨fun a => F1 a ∨ F3 a, F4, ⟨F1, F3, h1, h3, fun a z y => d a z ((e2 a).mpr (.inl y)), fun a => Iff.rfl⟩, h4, fun a z y => ?_, fun a => ?_⟩
      · rcases z with z | z
        · exact d a z ((e2 a).mpr (.inr y))
        · exact d2 a z y
      · rw [e a, e2 a, or_assoc]
    · rintro ⟨F1, F2, ⟨F3, F4, h3, h4, d2, e2⟩, h2, d, e⟩
      refine ⟨F3, fun a => F4 a ∨ F2 a, h3, (sepL.app (xs := xs) (ys := ys)).mpr ⟨F4, F2, h4, h2, fun a z y => d a ((e2 a).mpr (.inr z)) y, fun a => Iff.rfl⟩, fun a z y => ?_, fun a => ?_⟩
      · rcases y with y | y
        · exact d2 a z y
        · exact d a ((e2 a).mpr (.inl z)) y
      · rw [e a, e2 a, or_assoc]
theorem Pick.split {H : Hp} {G : Fp} : ∀ {rs : List Mem} {A : Mem} {f : List Mem → List Mem}, Pick rs A f → (∀ {F : Fp}, sepL rs F G H ↔ sepL (A :: f []) F G H) := by
  intro rs A f h
  induction h with
  | zero => intro F; exact Iff.rfl
  | @succ A B rs f p ih =>
    intro F
    constructor
    · rintro ⟨F1, F2, h1, h2, d, e⟩
      obtain ⟨F3, F4, h3, h4, d2, e2⟩ := ih.mp h2
      refine ⟨F3, fun a => F1 a ∨ F4 a, h3, ⟨F1, F4, h1, h4, fun a z y => d a z ((e2 a).mpr (.inr y)), fun a => Iff.rfl⟩, fun a z y => ?_, fun a => ?_⟩
      · rcases y with y | y
        · exact d a y ((e2 a).mpr (.inl z))
        · exact d2 a z y
      · rw [e a, e2 a, or_left_comm]
    · rintro ⟨F1, F2, h1, ⟨F3, F4, h3, h4, d2, e2⟩, d, e⟩
      refine ⟨F3, fun a => F1 a ∨ F4 a, h3, ih.mpr ⟨F1, F4, h1, h4, fun a z y => d a z ((e2 a).mpr (.inr y)), fun a => Iff.rfl⟩, fun a z y => ?_, fun a => ?_⟩
      · rcases y with y | y
        · exact d a y ((e2 a).mpr (.inl z))
        · exact d2 a z y
      · rw [e a, e2 a, or_left_comm]
theorem Pick.put {H : Hp} {G : Fp} : ∀ {rs : List Mem} {A : Mem} {f : List Mem → List Mem}, Pick rs A f → ∀ {xs : List Mem} {F : Fp}, sepL (f xs) F G H ↔ sepL (xs ++ f []) F G H := by
  intro rs A f h
  induction h with
  | zero => intro xs F; exact Iff.rfl
  | @succ A B rs f p ih =>
    intro xs F
    constructor
    · rintro ⟨F1, F2, h1, h2, d, e⟩
      obtain ⟨F3, F4, h3, h4, d2, e2⟩ := sepL.app.mp (ih.mp h2)
      refine sepL.app.mpr ⟨F3, fun a => F1 a ∨ F4 a, h3, ⟨F1, F4, h1, h4, fun a z y => d a z ((e2 a).mpr (.inr y)), fun a => Iff.rfl⟩, fun a z y => ?_, fun a => ?_⟩
      · rcases y with y | y
        · exact d a y ((e2 a).mpr (.inl z))
        · exact d2 a z y
      · rw [e a, e2 a, or_left_comm]
    · intro h
      obtain ⟨F1, F2, h1, ⟨F3, F4, h3, h4, d2, e2⟩, d, e⟩ := sepL.app.mp h
      refine ⟨F3, fun a => F1 a ∨ F4 a, h3, ih.mpr (sepL.app.mpr ⟨F1, F4, h1, h4, fun a z y => d a z ((e2 a).mpr (.inr y)), fun a => Iff.rfl⟩), fun a z y => ?_, fun a => ?_⟩
      · rcases y with y | y
        · exact d a y ((e2 a).mpr (.inl z))
        · exact d2 a z y
      · rw [e a, e2 a, or_left_comm]
/-- one owned thing is let go: from now on it is plain -/
theorem sepL.drop {H : Hp} {rs : List Mem} {A : Mem} {f : List Mem → List Mem} {G : Fp} (p : Pick rs A f) (h : sepL rs G G H) : ∃ F1 G', A.ok F1 G H ∧ (∀ a, F1 a → G' a → False) ∧ Stp G G' H H ∧ sepL (f []) G' G' H := by
  obtain ⟨F1, F2, h1, h2, d, e⟩ := p.split.mp h
  have s : Stp G F2 H H := Stp.less fun a z => (e a).mpr (.inr z)
  exact ⟨F1, F2, h1, d, s, sepL.step s.sub h2 fun a o q _ => q⟩
/-- a new address joins -/
theorem sepL.join {H H' : Hp} {rs : List Mem} {A : Mem} {G : Fp} {p : Addr} (h : sepL rs G G H) (hs : Same H H') (hp : H p = none) (hA : A.ok (fun a => a = p) (fun a => a = p ∨ G a) H') :
    Stp G (fun a => a = p ∨ G a) H H' ∧ sepL (A :: rs) (fun a => a = p ∨ G a) (fun a => a = p ∨ G a) H' := by
  have s : Stp G (fun a => a = p ∨ G a) H H' := ⟨fun a o q _ => hs a o q, fun a g => by
    rcases g with rfl | g
    · exact .inr hp
    · exact .inl g, fun a o q => ⟨o, hs a o q⟩⟩
  refine ⟨s, fun a => a = p, G, hA, sepL.step s.sub h fun a o q _ => hs a o q, fun a e g => ?_, fun a => Iff.rfl⟩
  subst e
  obtain ⟨o, q⟩ := h.dom a g
  rw [hp] at q; cases q
/-- one owned thing is changed in place (its own footprint stays) -/
theorem sepL.change {H H' : Hp} {rs : List Mem} {A B : Mem} {f : List Mem → List Mem} {G : Fp} (p : Pick rs A f) (h : sepL rs G G H)
    (hB : ∀ F1, A.ok F1 G H → (∀ a, F1 a → G a) → (∀ a o, H a = some o → ¬ F1 a → H' a = some o) ∧ (∀ a o, H a = some o → ∃ o', H' a = some o') ∧ B.ok F1 G H') :
    Stp G G H H' ∧ sepL (f [B]) G G H' := by
  obtain ⟨F1, F2, h1, h2, d, e⟩ := p.split.mp h
  obtain ⟨k, o, hb⟩ := hB F1 h1 fun a z => (e a).mpr (.inl z)
  refine ⟨⟨fun a u q n => k a u q fun z => n ((e a).mpr (.inl z)), fun a g => .inl g, o⟩, p.put.mpr ⟨F1, F2, hb, sepL.step (fun a g => .inl g) h2 fun a u q z => k a u q fun y => ?_, d, e⟩⟩
  rcases z with z | z
  · exact d a y z
  · exact z ((e a).mpr (.inl y))
end PW

set_option maxHeartbeats 1000000
/-! The judgements over slots and owned things. -/
namespace PW
open PySem L2
variable [KC]

/-! ### the meaning of a piece, as a reading -/
def tE (X : Cx) (e : Expr) : TE := fun σ H Q => ∀ pins s, Inv X pins σ H s → wpAny (model X.prog X.w) X.A (eval e X.env) (EP X pins σ Q) X.xe s
def tT (X : Cx) (e : Expr) : TT := fun σ H Q => ∀ pins s, Inv X pins σ H s → wpAny (model X.prog X.w) X.A (isTrue e X.env (eval e X.env)) (TP X pins σ Q) X.xe s
def tW (X : Cx) (e : Expr) : TT := fun σ H Q => ∀ whole pins s, Inv X pins σ H s → wpAny (model X.prog X.w) X.A (isTrue e X.env whole) (TP X pins σ Q) X.xe s
def tA (X : Cx) (es : List Expr) : TA := fun σ H Q => ∀ pos pins s, Inv X pins σ H s → wpAny (model X.prog X.w) X.A (spliced (backTo pos (starEach es X.env))) (AP X pins σ Q) X.xe s
def tS (X : Cx) (st : Stmt) : TS := fun D σ H => ∀ pins s, Inv X pins σ H s → wpAny (model X.prog X.w) X.A (exec st X.env) (SP X pins D) X.xe s
def tSs (X : Cx) (st : List Stmt) : TS := fun D σ H => ∀ pins s, Inv X pins σ H s → wpAny (model X.prog X.w) X.A (execs st X.env) (SP X pins D) X.xe s
section
variable {X : Cx} {e : Expr} {es : List Expr} {st : Stmt} {sts : List Stmt} {σ : L2.St} {H : Hp}
theorem pe_t : PE X e (tE X e) := ⟨fun pins s _ _ _ I h => h pins s I⟩
theorem pt_t : PT X e (tT X e) := ⟨fun pins s _ _ _ I h => h pins s I⟩
theorem pw_t : L2.PW X e (tW X e) := ⟨fun whole pins s _ _ _ I h => h whole pins s I⟩
theorem pa_t : PA X es (tA X es) := ⟨fun pos pins s _ _ _ I h => h pos pins s I⟩
theorem ps_t : PS X st (tS X st) := ⟨fun pins s _ _ _ I h => h pins s I⟩
theorem pss_t : PSs X sts (tSs X sts) := ⟨fun pins s _ _ _ I h => h pins s I⟩
theorem tE_of {t : TE} {Q : VK} (h : PE X e t) (q : t σ H Q) : tE X e σ H Q := fun pins s I => h.run pins s σ H Q I q
theorem tT_of {t : TT} {Q} (h : PT X e t) (q : t σ H Q) : tT X e σ H Q := fun pins s I => h.run pins s σ H Q I q
theorem tW_of {t : TT} {Q} (h : L2.PW X e t) (q : t σ H Q) : tW X e σ H Q := fun whole pins s I => h.run whole pins s σ H Q I q
theorem tA_of {t : TA} {Q} (h : PA X es t) (q : t σ H Q) : tA X es σ H Q := fun pos pins s I => h.run pos pins s σ H Q I q
theorem tS_of {t : TS} {D} (h : PS X st t) (q : t D σ H) : tS X st D σ H := fun pins s I => h.run pins s σ H D I q
theorem tSs_of {t : TS} {D} (h : PSs X sts t) (q : t D σ H) : tSs X sts D σ H := fun pins s I => h.run pins s σ H D I q
end

/-! ### the context -/
/-- what is fixed through a law -/
structure Mo where
  P : Program
  w : World
  K : PySem.W.Frag
  mg : Str → Option Value
  base : Heap
structure Mo.Of (m : Mo) (X : Cx) : Prop where
  P : X.prog = m.P
  w : X.w = m.w
  K : X.K = m.K
  mg : X.mg = m.mg
  base : X.base = m.base
/-- the built-in names are nobody's own -/
structure Bl (mg : Str → Option Value) : Prop where
  len : mg "len" = none
  range : mg "range" = none
  isinstance : mg "isinstance" = none
  list : mg "list" = none
  int : mg "int" = none
  bool : mg "bool" = none
  str : mg "str" = none
  tuple : mg "tuple" = none
  dict : mg "dict" = none
  set : mg "set" = none
  sorted : mg "sorted" = none
  min : mg "min" = none
  max : mg "max" = none
  reversed : mg "reversed" = none
  ValueError : mg "ValueError" = none
/-! ### names of a scope, found by their look -/
inductive KdIn : List (Str × NameKind) → Str → NameKind → Prop
  | zero {x k l} : KdIn ((x, k) :: l) x k
  | succ {x k l p} : KdIn l x k → KdIn (p :: l) x k
/-- no name twice, none of the odd ones -/
def okB : List (Str × NameKind) → Bool
  | [] => true
  | (x, _) :: l => (l.all fun p => !(x == p.1)) && !(x == ("__debug__" : Str)) && !(x == ("__classdict__" : Str)) && !(x == ("__name__" : Str)) && okB l
def ScOk (sc : Scope) : Prop := okB sc.names = true
instance {sc : Scope} : Decidable (ScOk sc) := inferInstanceAs (Decidable (_ = true))
theorem KdIn.mem {l : List (Str × NameKind)} {x : Str} {k : NameKind} (h : KdIn l x k) : (x, k) ∈ l := by
  induction h with
  | zero => exact List.mem_cons_self
  | succ _ ih => exact List.mem_cons_of_mem _ ih
theorem KdIn.look {l : List (Str × NameKind)} {x : Str} {k : NameKind} (h : KdIn l x k) : okB l = true → l.lookup x = some k ∧ (x == ("__debug__" : Str)) = false ∧ (x == ("__classdict__" : Str)) = false ∧ (x == ("__name__" : Str)) = false := by
  induction h with
  | @zero x k l =>
    intro o
    simp only [okB, Bool.and_eq_true, Bool.not_eq_true'] at o
    exact ⟨by simp [List.lookup], o.1.1.1.2, o.1.1.2, o.1.2⟩
  | @succ x k l p h ih =>
    intro o
    obtain ⟨y, j⟩ := p
    simp only [okB, Bool.and_eq_true, Bool.not_eq_true', List.all_eq_true] at o
    have q := o.1.1.1.1 _ h.mem
    have ne : (x == y) = false := by
      cases e : (x == y) with
      | false => rfl
      | true =>
        have e := eq_of_beq e
        subst e
        simp at q
    have r := ih o.2
    exact ⟨by rw [List.lookup_cons, ne]; exact r.1, r.2⟩
theorem kd_of {x : Str} {k : NameKind} : ∀ {l : List (Str × NameKind)}, l.lookup x = some k → KdIn l x k
  | [], h => by simp at h
  | (y, j) :: l, h => by
    rw [List.lookup_cons] at h
    cases e : (x == y) with
    | true =>
      rw [e] at h
      have e := eq_of_beq e
      subst e
      cases h
      exact .zero
    | false =>
      rw [e] at h
      exact .succ (kd_of h)
def visK : NameKind → Bool
  | .local => true | .cell => true | .free => true
  | _ => false
/-- a name that is read here -/
def NmIn (l : List (Str × NameKind)) (x : Str) : Prop := ∃ k, KdIn l x k ∧ visK k = true
theorem nm_of {l : List (Str × NameKind)} {x : Str} {k : NameKind} (h : KdIn l x k) (hk : visK k = true) : NmIn l x := ⟨k, h, hk⟩
theorem nm_vis {sc : Scope} {x : Str} (h : Vis sc x) : NmIn sc.names x := by
  rcases h with h | h | h
  · exact ⟨_, kd_of h, rfl⟩
  · exact ⟨_, kd_of h, rfl⟩
  · exact ⟨_, kd_of h, rfl⟩
structure Ctx (m₀ : Mo) (N₀ : List Str) (sc₀ : Scope) (lv₀ : Nat) (xp₀ : Addr → List Sl → List Mem → Prop) (fF₀ cm₀ : Bool) where
  X : Cx
  W : WX
  hm : m₀.Of X
  hK : m₀.K = KC.K
  bl : Bl m₀.mg
  hN : X.N = N₀
  nd : N₀.Nodup
  hsc : X.env.scope = sc₀
  sok : ScOk sc₀
  calm : cm₀ = true → X.calm = true
  room : cm₀ = true → Room lv₀ X.A
  un : X.A.units + 200 < cLine
  fs : fF₀ = true → X.stack = X.env :: X.outer ∧ X.env.frame = some X.env.locals
  tk : Takes X W
  fn : fF₀ = true → ∀ x, X.fn x = true
  po : PassesOwn (model X.prog X.w) X.A X.env X.xe
section
variable {m₀ : Mo} {N₀ : List Str} {sc₀ : Scope} {lv₀ : Nat} {xp₀ : Addr → List Sl → List Mem → Prop} {fF₀ cm₀ : Bool}
theorem Ctx.look (c : Ctx m₀ N₀ sc₀ lv₀ xp₀ fF₀ cm₀) {x : Str} {k : NameKind} (h : KdIn sc₀.names x k) : sc₀.names.lookup x = some k := (h.look c.sok).1
theorem Ctx.nd1 (c : Ctx m₀ N₀ sc₀ lv₀ xp₀ fF₀ cm₀) {x : Str} {k : NameKind} (h : KdIn sc₀.names x k) : (x == ("__debug__" : Str)) = false := (h.look c.sok).2.1
theorem Ctx.nd2 (c : Ctx m₀ N₀ sc₀ lv₀ xp₀ fF₀ cm₀) {x : Str} {k : NameKind} (h : KdIn sc₀.names x k) : (x == ("__classdict__" : Str)) = false := (h.look c.sok).2.2.1
theorem Ctx.nd3 (c : Ctx m₀ N₀ sc₀ lv₀ xp₀ fF₀ cm₀) {x : Str} {k : NameKind} (h : KdIn sc₀.names x k) : x ≠ ("__name__" : Str) := fun e => by
  have q := (h.look c.sok).2.2.2
  subst e
  simp at q
theorem Ctx.vis (c : Ctx m₀ N₀ sc₀ lv₀ xp₀ fF₀ cm₀) {x : Str} (h : NmIn sc₀.names x) : Vis sc₀ x := by
  obtain ⟨k, h, hk⟩ := h
  have q := c.look h
  cases k with
  | «local» => exact .inl q
  | cell => exact .inr (.inl q)
  | free => exact .inr (.inr q)
  | _ => cases hk
theorem Ctx.ck (c : Ctx m₀ N₀ sc₀ lv₀ xp₀ fF₀ cm₀) : c.X.K = KC.K := c.hm.K.trans c.hK
def XOk (c : Ctx m₀ N₀ sc₀ lv₀ xp₀ fF₀ cm₀) (G : Fp) (H : Hp) : Prop := ∀ C σ' H' G' ρ' rs', Stp G G' H H' → EnvOk G' H' σ' ρ' → sepL rs' G' G' H' → xp₀ C ρ' rs' → c.W (.ref C) none σ' H'
theorem XOk.stp {c : Ctx m₀ N₀ sc₀ lv₀ xp₀ fF₀ cm₀} {G G' : Fp} {H H' : Hp} (t : Stp G G' H H') (h : XOk c G H) : XOk c G' H' := fun C σ' H2 G2 ρ' rs' s => h C σ' H2 G2 ρ' rs' (t.trans s)

/-! ### the judgements -/
def DX (c : Ctx m₀ N₀ sc₀ lv₀ xp₀ fF₀ cm₀) (e : Expr) (ρ : List Sl) (rs : List Mem) (K : Sl → List Mem → Prop) : Prop := ∀ (σ : L2.St) (H : Hp) (G : Fp) (Q : VK), EnvOk G H σ ρ → sepL rs G G H → XOk c G H →
  (∀ v H' G' sl rs', Stp G G' H H' → Rs G' H H' v sl → sepL rs' G' G' H' → K sl rs' → Q v H') → tE c.X e σ H Q
def DT (c : Ctx m₀ N₀ sc₀ lv₀ xp₀ fF₀ cm₀) (e : Expr) (ρ : List Sl) (rs : List Mem) (K : Bool → List Mem → Prop) : Prop := ∀ (σ : L2.St) (H : Hp) (G : Fp) (Q : Bool → Hp → Prop), EnvOk G H σ ρ → sepL rs G G H → XOk c G H →
  (∀ b H' G' rs', Stp G G' H H' → sepL rs' G' G' H' → K b rs' → Q b H') → tT c.X e σ H Q
def DW (c : Ctx m₀ N₀ sc₀ lv₀ xp₀ fF₀ cm₀) (e : Expr) (ρ : List Sl) (rs : List Mem) (K : Bool → List Mem → Prop) : Prop := ∀ (σ : L2.St) (H : Hp) (G : Fp) (Q : Bool → Hp → Prop), EnvOk G H σ ρ → sepL rs G G H → XOk c G H →
  (∀ b H' G' rs', Stp G G' H H' → sepL rs' G' G' H' → K b rs' → Q b H') → tW c.X e σ H Q
def DA (c : Ctx m₀ N₀ sc₀ lv₀ xp₀ fF₀ cm₀) (es : List Expr) (ρ : List Sl) (rs : List Mem) (K : List Sl → List Mem → Prop) : Prop := ∀ (σ : L2.St) (H : Hp) (G : Fp) (Q : List V → Hp → Prop), EnvOk G H σ ρ → sepL rs G G H → XOk c G H →
  (∀ vs H' G' ss rs', Stp G G' H H' → SlAll G' H' vs ss → sepL rs' G' G' H' → K ss rs' → Q vs H') → tA c.X es σ H Q
structure Post where
  nx : List Sl → List Mem → Prop
  rt : Sl → List Mem → Prop
  bk : List Sl → List Mem → Prop := fun _ _ => False
  ct : List Sl → List Mem → Prop := fun _ _ => False
structure DEnd (P : Post) (D : Ends) (G : Fp) (H : Hp) : Prop where
  nx : ∀ σ' H' G' ρ' rs', Stp G G' H H' → EnvOk G' H' σ' ρ' → sepL rs' G' G' H' → P.nx ρ' rs' → D.nx σ' H'
  rt : ∀ v H' G' sl rs', Stp G G' H H' → Rs G' H H' v sl → sepL rs' G' G' H' → P.rt sl rs' → D.rt v H'
  bk : ∀ σ' H' G' ρ' rs', Stp G G' H H' → EnvOk G' H' σ' ρ' → sepL rs' G' G' H' → P.bk ρ' rs' → D.bk σ' H'
  ct : ∀ σ' H' G' ρ' rs', Stp G G' H H' → EnvOk G' H' σ' ρ' → sepL rs' G' G' H' → P.ct ρ' rs' → D.ct σ' H'
theorem DEnd.stp {P : Post} {D : Ends} {G G' : Fp} {H H' : Hp} (t : Stp G G' H H') (d : DEnd P D G H) : DEnd P D G' H' where
  nx := fun σ' H2 G2 ρ' rs' s => d.nx σ' H2 G2 ρ' rs' (t.trans s)
  rt := fun v H2 G2 sl rs' s r => d.rt v H2 G2 sl rs' (t.trans s) (r.back t)
  bk := fun σ' H2 G2 ρ' rs' s => d.bk σ' H2 G2 ρ' rs' (t.trans s)
  ct := fun σ' H2 G2 ρ' rs' s => d.ct σ' H2 G2 ρ' rs' (t.trans s)
def DS (c : Ctx m₀ N₀ sc₀ lv₀ xp₀ fF₀ cm₀) (st : Stmt) (ρ : List Sl) (rs : List Mem) (P : Post) : Prop := ∀ (σ : L2.St) (H : Hp) (G : Fp) (D : Ends), EnvOk G H σ ρ → sepL rs G G H → XOk c G H → DEnd P D G H → tS c.X st D σ H
def DSs (c : Ctx m₀ N₀ sc₀ lv₀ xp₀ fF₀ cm₀) (sts : List Stmt) (ρ : List Sl) (rs : List Mem) (P : Post) : Prop := ∀ (σ : L2.St) (H : Hp) (G : Fp) (D : Ends), EnvOk G H σ ρ → sepL rs G G H → XOk c G H → DEnd P D G H → tSs c.X sts D σ H

/-! ### operations on values -/
def OpD (r : R2) (s1 s2 : Sl) (rs : List Mem) (K : Sl → List Mem → Prop) : Prop := ∀ (G : Fp) (H : Hp) (x y : V) (Q : VK), SlOk G H x s1 → SlOk G H y s2 → sepL rs G G H →
  (∀ v H' G' sl rs', Stp G G' H H' → Rs G' H H' v sl → sepL rs' G' G' H' → K sl rs' → Q v H') → r x y H Q
def CaD (r : List V → Hp → VK → Prop) (ss : List Sl) (rs : List Mem) (K : Sl → List Mem → Prop) : Prop := ∀ (G : Fp) (H : Hp) (vs : List V) (Q : VK), SlAll G H vs ss → sepL rs G G H →
  (∀ v H' G' sl rs', Stp G G' H H' → Rs G' H H' v sl → sepL rs' G' G' H' → K sl rs' → Q v H') → r vs H Q

section
variable {c : Ctx m₀ N₀ sc₀ lv₀ xp₀ fF₀ cm₀} {e a b : Expr} {es : List Expr} {ρ ρ' : List Sl} {rs : List Mem} {K : Sl → List Mem → Prop} {KB : Bool → List Mem → Prop} {KA : List Sl → List Mem → Prop} {P : Post} {x : Str} {pos pos' : Pos} {i : Nat} {s : Sl}

/-! ### names and constants -/
theorem dx_name (h : Slot N₀ ρ x i s) (hn : s ≠ .un) (k : K s rs) (hv : NmIn sc₀.names x := by first | exact nm_of (by with_reducible (repeat (first | exact KdIn.zero | apply KdIn.succ))) rfl | exact nm_vis (by first | exact Or.inl rfl | exact Or.inr (Or.inl rfl) | exact Or.inr (Or.inr rfl))) (hnn : (match s with | .n _ => False | _ => True) := by trivial) : DX c (.Name x pos) ρ rs K := by
  intro σ H G Q he hs hx hq
  obtain ⟨v, e, z⟩ := h.env hn he
  refine tE_of (pe_var (i := i) (by rw [c.hN]; exact h.name) (by rw [c.hsc]; exact c.vis hv) (c.nd1 hv.choose_spec.1) (c.nd2 hv.choose_spec.1)) ⟨v, e, ?_⟩
  exact hq v H G s rs (Stp.refl _ _) (Rs.of_ok z (fun ds q => by subst q; exact hnn)) hs k
theorem dx_const {t : TE} {v : V} {d : PyData} (h : PE c.X e (tC v)) (hv : ∀ G H, Is G H v d) (k : K (.d d) rs) : DX c e ρ rs K := by
  intro σ H G Q he hs hx hq
  exact tE_of h (hq v H G (.d d) rs (Stp.refl _ _) (hv G H) hs k)
theorem dx_int {n : Int} {j} (k : K (.d (.int n)) rs) : DX c (.Constant (.int n) j pos) ρ rs K := dx_const (t := tC (.int n)) pe_int (fun _ _ => .int n) k
theorem dx_bl {n : Bool} {j} (k : K (.d (.bool n)) rs) : DX c (.Constant (.bool n) j pos) ρ rs K := dx_const (t := tC (.bl n)) pe_bl (fun _ _ => .bl n) k
theorem dx_non {j} (k : K (.d .none) rs) : DX c (.Constant .none j pos) ρ rs K := dx_const (t := tC .non) pe_non (fun _ _ => .non) k
theorem dx_str {z : Str} {j} (k : K (.d (.str z)) rs) : DX c (.Constant (.str z) j pos) ρ rs K := dx_const (t := tC (.str z)) pe_str (fun _ _ => .str z) k
/-- a name of the module that has an int, a text -/
theorem dx_gint {n : Int} {t : Tok} (hm : m₀.mg x = some (.int n t)) (k : K (.d (.int n)) rs) (hg : KdIn sc₀.names x .globalImplicit := by first | ((with_reducible (repeat (first | exact KdIn.zero | apply KdIn.succ))); (first | (all_goals fail) | fail)) | exact kd_of rfl) : DX c (.Name x pos) ρ rs K :=
  dx_const (t := tC (.int n)) (pe_glob (v := .int n) (show c.X.env.kindOf x = _ by unfold Env.kindOf; rw [c.hsc]; exact c.look hg) (by rw [c.hm.mg]; exact hm) ⟨t, rfl⟩ (c.nd1 hg)) (fun _ _ => .int n) k
theorem dx_gstr {n : Str} {t : Tok} (hm : m₀.mg x = some (.str n t)) (k : K (.d (.str n)) rs) (hg : KdIn sc₀.names x .globalImplicit := by first | ((with_reducible (repeat (first | exact KdIn.zero | apply KdIn.succ))); (first | (all_goals fail) | fail)) | exact kd_of rfl) : DX c (.Name x pos) ρ rs K :=
  dx_const (t := tC (.str n)) (pe_glob (v := .str n) (show c.X.env.kindOf x = _ by unfold Env.kindOf; rw [c.hsc]; exact c.look hg) (by rw [c.hm.mg]; exact hm) ⟨t, rfl⟩ (c.nd1 hg)) (fun _ _ => .str n) k

/-! ### operators -/
theorem dx_bin {op : Operator} {r : R2} (ho : OpR c.X (binaryOp op) r) (h : DX c a ρ rs fun s1 r1 => DX c b ρ r1 fun s2 r2 => OpD r s1 s2 r2 K) : DX c (.BinOp a op b pos) ρ rs K := by
  intro σ H G Q he hs hx hq
  refine tE_of (pe_op ho pe_t pe_t) ?_
  refine h σ H G _ he hs hx fun v1 H1 G1 s1 r1 t1 h1 o1 k1 => ?_
  refine k1 σ H1 G1 _ (he.stp t1) o1 (hx.stp t1) fun v2 H2 G2 s2 r2 t2 h2 o2 k2 => ?_
  exact k2 G2 H2 v1 v2 Q (h1.ok.stp t2) h2.ok o2 fun v H' G' sl rs' t3 h3 o3 k3 => hq v H' G' sl rs' ((t1.trans t2).trans t3) (h3.back (t1.trans t2)) o3 k3
theorem dx_cmp {op : CmpOp} {r : R2} (ho : OpR c.X (compareOp op) r) (hm : behindInMarks op b = false) (h : DX c a ρ rs fun s1 r1 => DX c b ρ r1 fun s2 r2 => OpD r s1 s2 r2 K) : DX c (.Compare a [op] [b] pos) ρ rs K := by
  intro σ H G Q he hs hx hq
  refine tE_of (pe_cmpR ho pe_t pe_t hm) ?_
  refine h σ H G _ he hs hx fun v1 H1 G1 s1 r1 t1 h1 o1 k1 => ?_
  refine k1 σ H1 G1 _ (he.stp t1) o1 (hx.stp t1) fun v2 H2 G2 s2 r2 t2 h2 o2 k2 => ?_
  exact k2 G2 H2 v1 v2 Q (h1.ok.stp t2) h2.ok o2 fun v H' G' sl rs' t3 h3 o3 k3 => hq v H' G' sl rs' ((t1.trans t2).trans t3) (h3.back (t1.trans t2)) o3 k3
/-- the wish of a truth -/
def KT (KB : Bool → List Mem → Prop) : Sl → List Mem → Prop := fun s rs => ∃ b, s = .d (.bool b) ∧ KB b rs
theorem kt {v : Bool} (h : KB v rs) : KT KB (.d (.bool v)) rs := ⟨v, rfl, h⟩
theorem rs_bool {G : Fp} {H0 H : Hp} {v : V} {b : Bool} (h : Rs G H0 H v (.d (.bool b))) : v = .bl b := by
  have h : Is G H v (.bool b) := h
  cases h; rfl
theorem dt_cmp {op : CmpOp} {r : R2} (ho : OpR c.X (compareOp op) r) (hm : behindInMarks op b = false) (h : DX c a ρ rs fun s1 r1 => DX c b ρ r1 fun s2 r2 => OpD r s1 s2 r2 (KT KB)) : DT c (.Compare a [op] [b] pos) ρ rs KB := by
  intro σ H G Q he hs hx hq
  refine tT_of (pt_cmpR ho pe_t pe_t hm) ?_
  refine h σ H G _ he hs hx fun v1 H1 G1 s1 r1 t1 h1 o1 k1 => ?_
  refine k1 σ H1 G1 _ (he.stp t1) o1 (hx.stp t1) fun v2 H2 G2 s2 r2 t2 h2 o2 k2 => ?_
  refine k2 G2 H2 v1 v2 _ (h1.ok.stp t2) h2.ok o2 fun v H' G' sl rs' t3 h3 o3 k3 => ?_
  obtain ⟨bb, rfl, k3⟩ := k3
  exact ⟨bb, rs_bool h3, hq bb H' G' rs' ((t1.trans t2).trans t3) o3 k3⟩
/-- a <= b < c -/
theorem dx_chain {op op' : CmpOp} {r r' : R2} {d : Expr} (ho : OpR c.X (compareOp op) r) (ho' : OpR c.X (compareOp op') r')
    (h : DX c a ρ rs fun s1 r1 => DX c b ρ r1 fun s2 r2 => OpD r s1 s2 r2 (KT fun k r3 => if k = true then DX c d ρ r3 fun s3 r4 => OpD r' s2.plain s3 r4 K else K (.d (.bool false)) r3))
    (hm : lastMarks [op, op'] [b, d] = false := by rfl) : DX c (.Compare a [op, op'] [b, d] pos) ρ rs K := by
  intro σ H G Q he hs hx hq
  refine tE_of (pe_chain ho ho' pe_t pe_t pe_t (hm := hm)) ?_
  refine h σ H G _ he hs hx fun v1 H1 G1 s1 r1 t1 h1 o1 k1 => ?_
  refine k1 σ H1 G1 _ (he.stp t1) o1 (hx.stp t1) fun v2 H2 G2 s2 r2 t2 h2 o2 k2 => ?_
  refine k2 G2 H2 v1 v2 _ (h1.ok.stp t2) h2.ok o2 fun v H' G' sl rs' t3 h3 o3 k3 => ?_
  obtain ⟨bb, rfl, k3⟩ := k3
  refine ⟨bb, rs_bool h3, ?_⟩
  have t123 := (t1.trans t2).trans t3
  cases bb with
  | true =>
    refine k3 σ H' G' _ (he.stp t123) o3 (hx.stp t123) fun v4 H4 G4 s4 r4 t4 h4 o4 k4 => ?_
    refine k4 G4 H4 v2 v4 Q ((h2.ok.plain.stp t3).stp t4) h4.ok o4 fun v H' G' sl rs' t5 h5 o5 k5 => hq v H' G' sl rs' ((t123.trans t4).trans t5) (h5.back (t123.trans t4)) o5 k5
  | false => exact hq _ H' G' (.d (.bool false)) rs' t123 (.bl false) o3 k3
theorem dt_chain {op op' : CmpOp} {r r' : R2} {d : Expr} (ho : OpR c.X (compareOp op) r) (ho' : OpR c.X (compareOp op') r')
    (h : DX c a ρ rs fun s1 r1 => DX c b ρ r1 fun s2 r2 => OpD r s1 s2 r2 (KT fun k r3 => if k = true then DX c d ρ r3 fun s3 r4 => OpD r' s2.plain s3 r4 (KT KB) else KB false r3))
    (hm : lastMarks [op, op'] [b, d] = false := by rfl) : DT c (.Compare a [op, op'] [b, d] pos) ρ rs KB := by
  intro σ H G Q he hs hx hq
  refine tT_of (pt_chain ho ho' pe_t pe_t pe_t (hm := hm)) ?_
  refine h σ H G _ he hs hx fun v1 H1 G1 s1 r1 t1 h1 o1 k1 => ?_
  refine k1 σ H1 G1 _ (he.stp t1) o1 (hx.stp t1) fun v2 H2 G2 s2 r2 t2 h2 o2 k2 => ?_
  refine k2 G2 H2 v1 v2 _ (h1.ok.stp t2) h2.ok o2 fun v H' G' sl rs' t3 h3 o3 k3 => ?_
  obtain ⟨bb, rfl, k3⟩ := k3
  refine ⟨bb, rs_bool h3, ?_⟩
  have t123 := (t1.trans t2).trans t3
  cases bb with
  | true =>
    refine k3 σ H' G' _ (he.stp t123) o3 (hx.stp t123) fun v4 H4 G4 s4 r4 t4 h4 o4 k4 => ?_
    refine k4 G4 H4 v2 v4 _ ((h2.ok.plain.stp t3).stp t4) h4.ok o4 fun v H' G' sl rs' t5 h5 o5 k5 => ?_
    obtain ⟨b2, rfl, k5⟩ := k5
    exact ⟨b2, rs_bool h5, hq b2 H' G' rs' ((t123.trans t4).trans t5) o5 k5⟩
  | false => exact ⟨false, rfl, hq false H' G' rs' t123 o3 k3⟩

/-! ### tests -/
/-- an expression that gives a truth -/
theorem dt_val (h : DX c e ρ rs (KT KB)) (he : ∀ whole, isTrue e c.X.env whole = (do let v ← whole; standAt e.pos; holding [v] (truthy v)) := by intro _; rfl) : DT c e ρ rs KB := by
  intro σ H G Q hE hs hx hq
  refine tT_of (pt_val pe_t he) ?_
  refine h σ H G _ hE hs hx fun v1 H1 G1 s1 r1 t1 h1 o1 k1 => ?_
  obtain ⟨b, rfl, k1⟩ := k1
  exact ⟨b, rs_bool h1, hq b H1 G1 r1 t1 o1 k1⟩
/-- truth of any value -/
def TrD (s : Sl) (rs : List Mem) (KB : Bool → List Mem → Prop) : Prop := ∀ (G : Fp) (H : Hp) (x : V), SlOk G H x s → sepL rs G G H → ∃ b, TruV KC.K x H b ∧ KB b rs
theorem dt_tru (h : DX c e ρ rs fun s r => TrD s r KB) (he : ∀ whole, isTrue e c.X.env whole = (do let v ← whole; standAt e.pos; holding [v] (truthy v)) := by intro _; rfl) : DT c e ρ rs KB := by
  intro σ H G Q hE hs hx hq
  refine tT_of (pt_truth pe_t he) ?_
  refine h σ H G _ hE hs hx fun v1 H1 G1 s1 r1 t1 h1 o1 k1 => ?_
  obtain ⟨b, hb, kb⟩ := k1 G1 H1 v1 h1.ok o1
  exact ⟨b, c.ck ▸ hb, hq b H1 G1 r1 t1 o1 kb⟩
theorem tr_bool {b : Bool} (h : KB b rs) : TrD (.d (.bool b)) rs KB := fun G H x hx _ => by
  have hx : Is G H x (.bool b) := hx
  cases hx; exact ⟨b, rfl, h⟩
theorem tr_none (h : KB false rs) : TrD (.d .none) rs KB := fun G H x hx _ => by
  have hx : Is G H x .none := hx
  cases hx; exact ⟨false, rfl, h⟩
theorem tr_int {n : Int} (h : KB (decide (n ≠ 0)) rs) : TrD (.d (.int n)) rs KB := fun G H x hx _ => by
  have hx : Is G H x (.int n) := hx
  cases hx; refine ⟨_, ?_, h⟩; show _ = (n != 0); by_cases z : n = 0 <;> simp [z, bne, BEq.beq]
theorem isEmpty_is {G : Fp} {H : Hp} {vs : List V} {ds : List PyData} (h : IsAll G H vs ds) : (!vs.isEmpty) = !ds.isEmpty := by
  cases h <;> rfl
theorem tr_list {ds : List PyData} (h : KB (!ds.isEmpty) rs) : TrD (.d (.list ds)) rs KB := fun G H x hx _ => by
  have hx : Is G H x (.list ds) := hx
  cases hx with
  | lst r t => exact ⟨_, .inl ⟨_, r.sq, (isEmpty_is t).symm⟩, h⟩
theorem tr_tuple {ds : List PyData} (h : KB (!ds.isEmpty) rs) : TrD (.d (.tuple ds)) rs KB := fun G H x hx _ => by
  have hx : Is G H x (.tuple ds) := hx
  cases hx with
  | tup r n t => exact ⟨_, .inr (.inl ⟨_, .inl r, (isEmpty_is t).symm⟩), h⟩
theorem dt_not (h : DT c e ρ rs fun k r => KB (!k) r) : DT c (.UnaryOp .Not e pos) ρ rs KB := by
  intro σ H G Q hE hs hx hq
  refine tT_of (pt_not pt_t) ?_
  exact h σ H G _ hE hs hx fun k H1 G1 r1 t1 o1 k1 => hq _ H1 G1 r1 t1 o1 k1
theorem dw_and1 (h : DT c a ρ rs KB) : DW c (.BoolOp .And [a] pos) ρ rs KB := fun σ H G Q hE hs hx hq => tW_of (pw_and1 pt_t) (h σ H G _ hE hs hx hq)
theorem dw_or1 (h : DT c a ρ rs KB) : DW c (.BoolOp .Or [a] pos) ρ rs KB := fun σ H G Q hE hs hx hq => tW_of (pw_or1 pt_t) (h σ H G _ hE hs hx hq)
theorem dw_and (h : DT c a ρ rs fun k r => if k = true then DW c (.BoolOp .And (b :: es) pos) ρ r KB else KB false r) : DW c (.BoolOp .And (a :: b :: es) pos) ρ rs KB := by
  intro σ H G Q hE hs hx hq
  refine tW_of (pw_and pt_t pw_t) ?_
  refine h σ H G _ hE hs hx fun k H1 G1 r1 t1 o1 k1 => ?_
  cases k with
  | true => exact k1 σ H1 G1 Q (hE.stp t1) o1 (hx.stp t1) fun k H2 G2 r2 t2 => hq k H2 G2 r2 (t1.trans t2)
  | false => exact hq false H1 G1 r1 t1 o1 k1
theorem dw_or (h : DT c a ρ rs fun k r => if k = true then KB true r else DW c (.BoolOp .Or (b :: es) pos) ρ r KB) : DW c (.BoolOp .Or (a :: b :: es) pos) ρ rs KB := by
  intro σ H G Q hE hs hx hq
  refine tW_of (pw_or pt_t pw_t) ?_
  refine h σ H G _ hE hs hx fun k H1 G1 r1 t1 o1 k1 => ?_
  cases k with
  | true => exact hq true H1 G1 r1 t1 o1 k1
  | false => exact k1 σ H1 G1 Q (hE.stp t1) o1 (hx.stp t1) fun k H2 G2 r2 t2 => hq k H2 G2 r2 (t1.trans t2)
theorem dt_bool {op : BoolOp} (h : DW c (.BoolOp op es pos) ρ rs KB) : DT c (.BoolOp op es pos) ρ rs KB := fun σ H G Q hE hs hx hq => tT_of (L2.PW.pt pw_t) (h σ H G Q hE hs hx hq)
/-- as values -/
theorem dx_one {op : BoolOp} (h : DX c a ρ rs K) : DX c (.BoolOp op [a] pos) ρ rs K := fun σ H G Q hE hs hx hq => tE_of (pe_one pe_t) (h σ H G Q hE hs hx hq)
theorem dx_and (h : DX c a ρ rs (KT fun k r => if k = true then DX c (.BoolOp .And (b :: es) pos) ρ r K else K (.d (.bool false)) r)) : DX c (.BoolOp .And (a :: b :: es) pos) ρ rs K := by
  intro σ H G Q hE hs hx hq
  refine tE_of (pe_and pe_t pe_t) ?_
  refine h σ H G _ hE hs hx fun v H1 G1 s1 r1 t1 h1 o1 k1 => ?_
  obtain ⟨k, rfl, k1⟩ := k1
  refine ⟨k, rs_bool h1, ?_⟩
  cases k with
  | true => exact k1 σ H1 G1 Q (hE.stp t1) o1 (hx.stp t1) fun v H2 G2 s2 r2 t2 h2 => hq v H2 G2 s2 r2 (t1.trans t2) (h2.back t1)
  | false => exact hq _ H1 G1 (.d (.bool false)) r1 t1 (.bl false) o1 k1
theorem dx_or (h : DX c a ρ rs (KT fun k r => if k = true then K (.d (.bool true)) r else DX c (.BoolOp .Or (b :: es) pos) ρ r K)) : DX c (.BoolOp .Or (a :: b :: es) pos) ρ rs K := by
  intro σ H G Q hE hs hx hq
  refine tE_of (pe_or pe_t pe_t) ?_
  refine h σ H G _ hE hs hx fun v H1 G1 s1 r1 t1 h1 o1 k1 => ?_
  obtain ⟨k, rfl, k1⟩ := k1
  refine ⟨k, rs_bool h1, ?_⟩
  cases k with
  | true => exact hq _ H1 G1 (.d (.bool true)) r1 t1 (.bl true) o1 k1
  | false => exact k1 σ H1 G1 Q (hE.stp t1) o1 (hx.stp t1) fun v H2 G2 s2 r2 t2 h2 => hq v H2 G2 s2 r2 (t1.trans t2) (h2.back t1)
theorem dx_not (h : DX c a ρ rs (KT fun k r => K (.d (.bool (!k))) r)) : DX c (.UnaryOp .Not a pos) ρ rs K := by
  intro σ H G Q hE hs hx hq
  refine tE_of (pe_not pe_t) ?_
  refine h σ H G _ hE hs hx fun v H1 G1 s1 r1 t1 h1 o1 k1 => ?_
  obtain ⟨k, rfl, k1⟩ := k1
  exact ⟨k, rs_bool h1, hq _ H1 G1 (.d (.bool (!k))) r1 t1 (.bl _) o1 k1⟩
theorem dx_neg (h : DX c a ρ rs fun s r => ∃ n, s = .d (.int n) ∧ K (.d (.int (-n))) r) : DX c (.UnaryOp .USub a pos) ρ rs K := by
  intro σ H G Q hE hs hx hq
  refine tE_of (pe_un un_neg pe_t) ?_
  refine h σ H G _ hE hs hx fun v H1 G1 s1 r1 t1 h1 o1 k1 => ?_
  obtain ⟨n, rfl, k1⟩ := k1
  have h1 : Is G1 H1 v (.int n) := h1
  cases h1
  exact ⟨n, rfl, hq _ H1 G1 (.d (.int (-n))) r1 t1 (.int _) o1 k1⟩
theorem dx_ifExp {t : Expr} (h : DT c t ρ rs fun k r => if k = true then DX c a ρ r K else DX c b ρ r K) : DX c (.IfExp t a b pos) ρ rs K := by
  intro σ H G Q hE hs hx hq
  refine tE_of (pe_ifExp pt_t pe_t pe_t) ?_
  refine h σ H G _ hE hs hx fun k H1 G1 r1 t1 o1 k1 => ?_
  cases k with
  | true => exact k1 σ H1 G1 Q (hE.stp t1) o1 (hx.stp t1) fun v H2 G2 s2 r2 t2 h2 => hq v H2 G2 s2 r2 (t1.trans t2) (h2.back t1)
  | false => exact k1 σ H1 G1 Q (hE.stp t1) o1 (hx.stp t1) fun v H2 G2 s2 r2 t2 h2 => hq v H2 G2 s2 r2 (t1.trans t2) (h2.back t1)

/-! ### argument lists, displays -/
theorem da_nil (k : KA [] rs) : DA c [] ρ rs KA := fun σ H G Q hE hs hx hq => tA_of pa_nil (hq [] H G [] rs (Stp.refl _ _) trivial hs k)
theorem da_cons (h : DX c e ρ rs fun s r1 => DA c es ρ r1 fun ss r2 => KA (s.plain :: ss) r2) (hst : starEach (e :: es) c.X.env = (false, eval e c.X.env) :: starEach es c.X.env := by rfl) : DA c (e :: es) ρ rs KA := by
  intro σ H G Q hE hs hx hq
  refine tA_of (pa_cons pe_t pa_t hst) ?_
  refine h σ H G _ hE hs hx fun v H1 G1 s1 r1 t1 h1 o1 k1 => ?_
  exact k1 σ H1 G1 _ (hE.stp t1) o1 (hx.stp t1) fun vs H2 G2 ss r2 t2 h2 o2 k2 => hq (v :: vs) H2 G2 (s1.plain :: ss) r2 (t1.trans t2) ⟨h1.ok.plain.stp t2, h2⟩ o2 k2
/-- all of the slots are data -/
def Datas : List Sl → List PyData → Prop
  | [], [] => True
  | s :: ss, d :: ds => s = .d d ∧ Datas ss ds
  | _, _ => False
theorem Datas.is {G : Fp} {H : Hp} : ∀ {ss : List Sl} {ds : List PyData} {vs : List V}, Datas ss ds → SlAll G H vs ss → IsAll G H vs ds
  | [], [], [], _, _ => .nil
  | s :: ss, d :: ds, v :: vs, ⟨e, q⟩, ⟨h, t⟩ => by subst e; exact .cons h (q.is t)
  | [], [], _ :: _, _, h => h.elim
  | _ :: _, _ :: _, [], _, h => h.elim
  | [], _ :: _, _, h, _ => h.elim
  | _ :: _, [], _, h, _ => h.elim
theorem Datas.length : ∀ {ss : List Sl} {ds : List PyData}, Datas ss ds → ss.length = ds.length
  | [], [], _ => rfl
  | _ :: _, _ :: _, ⟨_, q⟩ => congrArg (· + 1) q.length
  | [], _ :: _, h => h.elim
  | _ :: _, [], h => h.elim
theorem Datas.of : ∀ (ds : List PyData), Datas (ds.map .d) ds
  | [] => trivial
  | _ :: ds => ⟨rfl, Datas.of ds⟩
theorem sepL.fresh {G : Fp} {H : Hp} {p : Addr} (hs : sepL rs G G H) (hp : H p = none) : ¬ G p := fun g => by
  obtain ⟨o, q⟩ := hs.dom p g
  rw [hp] at q; cases q
theorem same_new {H : Hp} {p : Addr} {o : HO} (h : H p = none) : Same H (upd H p o) := fun a u e => by rw [upd_ne (ne_of_none e h)]; exact e
theorem stp_new {G : Fp} {H : Hp} {p : Addr} {o : HO} (h : H p = none) : Stp G G H (upd H p o) := Stp.same (same_new h)
theorem dx_tup {x1} (h : DA c es ρ rs fun ss r => ∃ ds, Datas ss ds ∧ ss.length ≤ 100000 ∧ K (.d (.tuple ds)) r) : DX c (.Tuple es x1 pos) ρ rs K := by
  intro σ H G Q hE hs hx hq
  refine tE_of (pe_tup pa_t) ?_
  refine h σ H G _ hE hs hx fun vs H1 G1 ss r1 t1 h1 o1 k1 => ?_
  obtain ⟨ds, hd, hl, k1⟩ := k1
  refine ⟨Nat.le_trans (Nat.le_trans (Nat.le_of_eq h1.length) hl) (by decide), fun p hp => ?_⟩
  have t2 : Stp G1 G1 H1 (upd H1 p (.tup vs)) := stp_new hp
  exact hq _ _ G1 (.d (.tuple ds)) r1 (t1.trans t2) (.tup (.inl upd_same) (o1.fresh hp) ((hd.is h1).stp t2)) (sepL.step t2.sub o1 fun a o q _ => same_new hp a o q) k1
theorem dx_lst (h : DA c es ρ rs fun ss r => ∃ ds, Datas ss ds ∧ ss.length ≤ 100000 ∧ K (.n ds) r) : DX c (.List es pos) ρ rs K := by
  intro σ H G Q hE hs hx hq
  refine tE_of (pe_lst pa_t) ?_
  refine h σ H G _ hE hs hx fun vs H1 G1 ss r1 t1 h1 o1 k1 => ?_
  obtain ⟨ds, hd, hl, k1⟩ := k1
  refine ⟨Nat.le_trans (Nat.le_trans (Nat.le_of_eq h1.length) hl) (by decide), fun p hp => ?_⟩
  have t2 : Stp G1 G1 H1 (upd H1 p (.lst vs)) := stp_new hp
  exact hq _ _ G1 (.n ds) r1 (t1.trans t2) ⟨p, vs, rfl, t1.fresh hp, o1.fresh hp, upd_same, (hd.is h1).stp t2⟩ (sepL.step t2.sub o1 fun a o q _ => same_new hp a o q) k1

/-! ### statements -/
variable {st : Stmt} {sts : List Stmt}
theorem dss_nil (k : P.nx ρ rs) : DSs c [] ρ rs P := fun σ H G D hE hs hx hd => tSs_of pss_nil (hd.nx σ H G ρ rs (Stp.refl _ _) hE hs k)
theorem dss_cons (h : DS c st ρ rs { P with nx := fun ρ' r' => DSs c sts ρ' r' P }) : DSs c (st :: sts) ρ rs P := by
  intro σ H G D hE hs hx hd
  refine tSs_of (pss_cons ps_t pss_t) ?_
  exact h σ H G { D with nx := tSs c.X sts D } hE hs hx ⟨fun σ' H' G' ρ' r' t e o k => k σ' H' G' D e o (hx.stp t) (hd.stp t), hd.rt, hd.bk, hd.ct⟩
theorem dss_one (h : DS c st ρ rs P) : DSs c [st] ρ rs P := fun σ H G D hE hs hx hd => tSs_of (pss_one ps_t) (h σ H G D hE hs hx hd)
theorem ds_expr (h : DX c e ρ rs fun _ r => P.nx ρ r) (hw : swapsWith e none pos.line c.X.env = pure false := by rfl) : DS c (.Expr e pos) ρ rs P := by
  intro σ H G D hE hs hx hd
  refine tS_of (ps_expr pe_t hw) ?_
  exact h σ H G _ hE hs hx fun v H1 G1 s1 r1 t1 h1 o1 k1 => hd.nx σ H1 G1 ρ r1 t1 (hE.stp t1) o1 k1
theorem ds_ret (h : DX c e ρ rs P.rt) : DS c (.Return (some e) pos) ρ rs P := fun σ H G D hE hs hx hd => tS_of (ps_ret pe_t) (h σ H G _ hE hs hx hd.rt)
theorem ds_retN (h : P.rt (.d .none) rs) : DS c (.Return none pos) ρ rs P := fun σ H G D hE hs hx hd => tS_of ps_retN (hd.rt .non H G (.d .none) rs (Stp.refl _ _) .non hs h)
theorem ds_pass (h : P.nx ρ rs) : DS c (.Pass pos) ρ rs P := fun σ H G D hE hs hx hd => tS_of ps_pass (hd.nx σ H G ρ rs (Stp.refl _ _) hE hs h)
theorem ds_break (h : P.bk ρ rs) : DS c (.Break pos) ρ rs P := fun σ H G D hE hs hx hd => tS_of ps_break (hd.bk σ H G ρ rs (Stp.refl _ _) hE hs h)
theorem ds_continue (h : P.ct ρ rs) : DS c (.Continue pos) ρ rs P := fun σ H G D hE hs hx hd => tS_of ps_continue (hd.ct σ H G ρ rs (Stp.refl _ _) hE hs h)
theorem ds_if {A B : List Stmt} (h : DT c e ρ rs fun k r => if k = true then DSs c A ρ r P else DSs c B ρ r P) : DS c (.If e A B pos) ρ rs P := by
  intro σ H G D hE hs hx hd
  refine tS_of (ps_if pt_t pss_t pss_t) ?_
  refine h σ H G _ hE hs hx fun k H1 G1 r1 t1 o1 k1 => ?_
  cases k with
  | true => exact k1 σ H1 G1 D (hE.stp t1) o1 (hx.stp t1) (hd.stp t1)
  | false => exact k1 σ H1 G1 D (hE.stp t1) o1 (hx.stp t1) (hd.stp t1)
/-- a name that is stored -/
def LocF (c : Ctx m₀ N₀ sc₀ lv₀ xp₀ fF₀ cm₀) (x : Str) : Prop := sc₀.names.lookup x = some .local ∨ (sc₀.names.lookup x = some .cell ∧ fF₀ = true)
def locK (f : Bool) : NameKind → Bool
  | .local => true | .cell => f
  | _ => false
theorem locF_of {k : NameKind} (h : KdIn sc₀.names x k) (hk : locK fF₀ k = true) : LocF c x := by
  have q := c.look h
  cases k with
  | «local» => exact .inl q
  | cell => exact .inr ⟨q, hk⟩
  | _ => cases hk
theorem LocF.loc (hx : LocF c x) : Loc c.X.env.scope x := by
  rw [c.hsc]
  exact hx.imp id And.left
theorem c_hf (hx : LocF c x) : c.X.fn x = true ∨ c.X.env.scope.names.lookup x = some .local := by
  rcases hx with z | z
  · exact .inr (by rw [c.hsc]; exact z)
  · exact .inl (c.fn z.2 x)
/-- x = e -/
theorem ds_set (h : DX c e ρ rs fun s r => ∃ i ρ', SetS N₀ ρ x i s.plain ρ' ∧ P.nx ρ' r) (hl : LocF c x := by first | exact locF_of (by with_reducible (repeat (first | exact KdIn.zero | apply KdIn.succ))) rfl | exact Or.inl rfl | exact Or.inr ⟨rfl, rfl⟩) (hw : swapsWith e (some (.Name x pos')) pos.line c.X.env = pure false := by rfl) : DS c (.Assign [.Name x pos'] e pos) ρ rs P := by
  intro σ H G D hE hs hx hd
  have key : ∀ (i : Nat), c.X.N[i]? = some x → (tE c.X e σ H fun v H1 => D.nx (σ.set i (some v)) H1) → tS c.X (.Assign [.Name x pos'] e pos) D σ H := fun i hi q =>
    tS_of (ps_set (by rw [c.hN]; exact c.nd) hi hl.loc pe_t hw (c_hf hl)) q
  have hix : ∃ i : Nat, c.X.N[i]? = some x ∨ ∀ v H' G' sl rs', Stp G G' H H' → Rs G' H H' v sl → sepL rs' G' G' H' → (∃ i ρ', SetS N₀ ρ x i sl.plain ρ' ∧ P.nx ρ' rs') → False := by
    by_cases q : ∃ i : Nat, c.X.N[i]? = some x
    · obtain ⟨i, q⟩ := q
      exact ⟨i, .inl q⟩
    · exact ⟨0, .inr fun v H' G' sl rs' _ _ _ ⟨i, ρ', z, _⟩ => q ⟨i, by rw [c.hN]; exact z.name⟩⟩
  obtain ⟨i, hi | hno⟩ := hix
  · refine key i hi ?_
    refine h σ H G _ hE hs hx fun v H1 G1 s1 r1 t1 h1 o1 k1 => ?_
    obtain ⟨j, ρ', z, k1⟩ := k1
    have hj : c.X.N[j]? = some x := by rw [c.hN]; exact z.name
    have nd : c.X.N.Nodup := by rw [c.hN]; exact c.nd
    have ej : j = i := nd_ix nd hj hi
    subst ej
    exact hd.nx _ H1 G1 ρ' r1 t1 (z.env h1.ok.plain (hE.stp t1)) o1 k1
  · -- the name has no slot: the value's wish can never be met
    intro pins s I
    have : tE c.X e σ H fun v H1 => False := h σ H G _ hE hs hx fun v H1 G1 s1 r1 t1 h1 o1 k1 => hno v H1 G1 s1 r1 t1 h1 o1 k1
    have q : tS c.X (.Assign [.Name x pos'] e pos) D σ H := tS_of (ps_asg (g := fun _ _ _ _ => False) pe_t ⟨fun pins s σ H v u Q I r z => z.elim⟩ hw rfl) this
    exact q pins s I
end
end
end PW

set_option maxHeartbeats 1000000
/-! Operators, subscripts, slices, built-ins. -/
namespace PW
open PySem L2
variable [KC]
variable {m₀ : Mo} {N₀ : List Str} {sc₀ : Scope} {lv₀ : Nat} {xp₀ : Addr → List Sl → List Mem → Prop} {fF₀ cm₀ : Bool}

def Sl.asList : Sl → Option (List PyData)
  | .d (.list ds) => some ds
  | .n ds => some ds
  | _ => none
section
variable {G G' : Fp} {H H' : Hp} {v : V} {s : Sl} {ds : List PyData}
theorem SlOk.list (h : SlOk G H v s) (e : s.asList = some ds) : ∃ p vs, v = .ref p ∧ LsAt G H p vs ∧ IsAll G H vs ds := by
  have h : Is G H v (.list ds) := by
    cases s with
    | un => cases e
    | r u => cases e
    | n xs => cases e; exact h
    | d x =>
      cases x with
      | list xs => cases e; exact h
      | _ => cases e
  cases h with
  | lst r t => exact ⟨_, _, rfl, r, t⟩
theorem SlOk.int {i : Int} (h : SlOk G H v (.d (.int i))) : v = .int i := by
  have h : Is G H v (.int i) := h
  cases h; rfl
theorem SlOk.str {i : Str} (h : SlOk G H v (.d (.str i))) : v = .str i := by
  have h : Is G H v (.str i) := h
  cases h; rfl
theorem SlOk.bl {i : Bool} (h : SlOk G H v (.d (.bool i))) : v = .bl i := by
  have h : Is G H v (.bool i) := h
  cases h; rfl
theorem SlOk.non (h : SlOk G H v (.d .none)) : v = .non := by
  have h : Is G H v .none := h
  cases h; rfl
theorem SlOk.tuple (h : SlOk G H v (.d (.tuple ds))) : ∃ p vs, v = .ref p ∧ Rd H p (.tup vs) ∧ ¬ G p ∧ IsAll G H vs ds := by
  have h : Is G H v (.tuple ds) := h
  cases h with
  | tup r n t => exact ⟨_, _, rfl, r, n, t⟩
end

/-! ### one or the other -/
def rOr (r r' : R2) : R2 := fun x y H Q => r x y H Q ∨ r' x y H Q
theorem op_or {X : Cx} {f : Value → Value → Sem Value} {r r' : R2} (h : OpR X f r) (h' : OpR X f r') : OpR X f (rOr r r') := by
  intro pins s σ H x y v u Q I rx ry q
  rcases q with q | q
  · exact h pins s σ H x y v u Q I rx ry q
  · exact h' pins s σ H x y v u Q I rx ry q
def cOr (r r' : List V → Hp → VK → Prop) : List V → Hp → VK → Prop := fun vs H Q => r vs H Q ∨ r' vs H Q
theorem call_or {X : Cx} {f : Value} {r r' : List V → Hp → VK → Prop} (h : CallR X f r) (h' : CallR X f r') : CallR X f (cOr r r') := by
  intro pins s σ H xs us Q I rx q
  rcases q with q | q
  · exact h pins s σ H xs us Q I rx q
  · exact h' pins s σ H xs us Q I rx q
section
variable {rs : List Mem} {K : Sl → List Mem → Prop} {s1 s2 : Sl} {r r' : R2}
theorem od_l (h : OpD r s1 s2 rs K) : OpD (rOr r r') s1 s2 rs K := fun G H x y Q a b c d => .inl (h G H x y Q a b c d)
theorem od_r (h : OpD r' s1 s2 rs K) : OpD (rOr r r') s1 s2 rs K := fun G H x y Q a b c d => .inr (h G H x y Q a b c d)
variable {q q' : List V → Hp → VK → Prop} {ss : List Sl}
theorem cd_l (h : CaD q ss rs K) : CaD (cOr q q') ss rs K := fun G H vs Q a b c => .inl (h G H vs Q a b c)
theorem cd_r (h : CaD q' ss rs K) : CaD (cOr q q') ss rs K := fun G H vs Q a b c => .inr (h G H vs Q a b c)
/-- a result that is new data, the heap grown -/
theorem give {G : Fp} {H H' : Hp} {Q : VK} (hs : sepL rs G G H) (hq : ∀ v H' G' sl rs', Stp G G' H H' → Rs G' H H' v sl → sepL rs' G' G' H' → K sl rs' → Q v H') {v : V} {sl : Sl} (hh : Same H H') (hr : Rs G H H' v sl) (k : K sl rs) : Q v H' :=
  hq v H' G sl rs (Stp.same hh) hr (sepL.step (Stp.same hh).sub hs fun a o q _ => hh a o q) k
theorem give0 {G : Fp} {H : Hp} {Q : VK} (hs : sepL rs G G H) (hq : ∀ v H' G' sl rs', Stp G G' H H' → Rs G' H H' v sl → sepL rs' G' G' H' → K sl rs' → Q v H') {v : V} {sl : Sl} (hr : Rs G H H v sl) (k : K sl rs) : Q v H :=
  hq v H G sl rs (Stp.refl _ _) hr hs k
/-! ### arithmetic -/
theorem od_I0 {g : Int → Int → V} {gd : Int → Int → PyData} {i j : Int} (hg : ∀ i j G H, Is G H (g i j) (gd i j)) (k : K (.d (gd i j)) rs) : OpD (rI0 g) (.d (.int i)) (.d (.int j)) rs K := fun G H x y Q hx hy hs hq =>
  ⟨i, j, hx.int, hy.int, give0 hs hq (sl := .d (gd i j)) (hg i j G H) k⟩
theorem od_I {C : Int → Int → Prop} {g : Int → Int → V} {gd : Int → Int → PyData} {i j : Int} (hg : ∀ i j G H, Is G H (g i j) (gd i j)) (hc : C i j) (k : K (.d (gd i j)) rs) : OpD (rI C g) (.d (.int i)) (.d (.int j)) rs K := fun G H x y Q hx hy hs hq =>
  ⟨i, j, hx.int, hy.int, hc, give0 hs hq (sl := .d (gd i j)) (hg i j G H) k⟩
end
/-- list + list; read ones too -/
def rCatR (K : PySem.W.Frag) : R2 := fun x y H Q => ∃ l b xs zs, x = .ref l ∧ y = .ref b ∧ SqL K H l xs ∧ SqL K H b zs ∧ xs.length + zs.length ≤ sizeLine ∧ ∀ p, H p = none → Q (.ref p) (upd H p (.lst (xs ++ zs)))
theorem op_catR {X : Cx} : OpR X (binaryOp .Add) (rCatR X.K) := by
  intro pins s σ H x y v u Q I rx ry h
  obtain ⟨l, b, xs, zs, rfl, rfl, hH, hB, hz, q⟩ := h
  cases rx
  cases ry
  obtain ⟨its, r, ⟨⟨c1, d1, a1, sl1⟩, n, e, hc1, hd1, ha1⟩, z⟩ := I.list hH
  obtain ⟨its2, r2, ⟨⟨c2, d2, a2, sl2⟩, n2, e2, hc2, hd2, ha2⟩, z2⟩ := I.list hB
  simp only at hc1 hd1 ha1 hc2 hd2 ha2
  subst hc1 hd1 ha1 hc2 hd2 ha2
  have hl := r.length
  have hl2 := r2.length
  have hsz : its.toArray.size + its2.toArray.size ≤ sizeLine := by rw [List.size_toArray, List.size_toArray]; omega
  refine concat_meets ⟨_, e, rfl⟩ ⟨_, e2, rfl⟩ noFill_list_add seq_list_add F.slot_list_add F.entry_list_add (F.args_list_add_2 _ _)
    (PyProof.Rows.list_addW l b its.toArray its2.toArray n n2 none none sl1 sl2 hsz) ⟨e, e2, ?_⟩
  have ea : its.toArray ++ its2.toArray = (its ++ its2).toArray := by simp
  rw [ea]
  exact ⟨.ref _, _, I.lnew (t' := s.toks) (r.append r2) (by rw [List.length_append]; omega), rfl, q _ I.fresh⟩
def uAdd (K : PySem.W.Frag) : R2 := rOr (rI0 fun i j => .int (i + j)) (rOr (fun x y H Q => ∃ i j, x = .str i ∧ y = .str j ∧ i.length + j.length ≤ sizeLine ∧ Q (.str (i ++ j)) H) (rOr (rCatR K) (rCatT K)))
theorem op_uAdd {X : Cx} : OpR X (binaryOp .Add) (uAdd X.K) := op_or op_add (op_or op_add_str (op_or op_catR op_catT))
def uMul : R2 := rOr (rI IntMulOk fun i j => .int (i * j)) rRep
theorem op_uMul {X : Cx} : OpR X (binaryOp .Mult) uMul := op_or (opI fun _ _ _ _ _ _ _ hc q => PyProof.Rows.mul_int q hc) op_rep
section
variable {rs : List Mem} {K : Sl → List Mem → Prop} {s1 s2 : Sl} {i j : Int}
theorem od_add (k : K (.d (.int (i + j))) rs) : OpD (uAdd KC.K) (.d (.int i)) (.d (.int j)) rs K := od_l (od_I0 (gd := fun i j => .int (i + j)) (fun _ _ _ _ => .int _) k)
theorem od_adds {x y : Str} (hz : x.length + y.length ≤ 100000) (k : K (.d (.str (x ++ y))) rs) : OpD (uAdd KC.K) (.d (.str x)) (.d (.str y)) rs K := od_r (od_l fun G H a b Q hx hy hs hq =>
  ⟨x, y, hx.str, hy.str, Nat.le_trans hz (by decide), give0 hs hq (sl := .d (.str (x ++ y))) (Is.str _) k⟩)
theorem od_addl {xs ys : List PyData} (h1 : s1.asList = some xs) (h2 : s2.asList = some ys) (hz : xs.length + ys.length ≤ 100000) (k : K (.n (xs ++ ys)) rs) : OpD (uAdd KC.K) s1 s2 rs K := od_r (od_r (od_l fun G H a b Q hx hy hs hq => by
  obtain ⟨p, vs, rfl, r1, t1⟩ := hx.list h1
  obtain ⟨q, ws, rfl, r2, t2⟩ := hy.list h2
  refine ⟨p, q, vs, ws, rfl, rfl, r1.sq, r2.sq, by rw [t1.length, t2.length]; exact Nat.le_trans hz (by decide), fun z hp => ?_⟩
  exact give hs hq (sl := .n (xs ++ ys)) (same_new hp) ⟨z, vs ++ ws, rfl, hp, hs.fresh hp, upd_same, (t1.append t2).stp (stp_new hp)⟩ k))
theorem od_addt {xs ys : List PyData} (hn : xs ≠ []) (hz : xs.length + ys.length ≤ 100000) (k : K (.d (.tuple (xs ++ ys))) rs) : OpD (uAdd KC.K) (.d (.tuple xs)) (.d (.tuple ys)) rs K := od_r (od_r (od_r fun G H a b Q hx hy hs hq => by
  obtain ⟨p, vs, rfl, r1, n1, t1⟩ := hx.tuple
  obtain ⟨q, ws, rfl, r2, n2, t2⟩ := hy.tuple
  refine ⟨p, q, vs, ws, rfl, rfl, .inl r1, .inl r2, fun z => ?_, by rw [t1.length, t2.length]; exact Nat.le_trans hz (by decide), fun z => ?_, fun z l hp => ?_⟩
  · subst z; cases t1; exact hn rfl
  · subst z; cases t2
    rw [List.append_nil] at k
    exact give0 hs hq (sl := .d (.tuple xs)) (Is.tup r1 n1 t1) k
  · exact give hs hq (sl := .d (.tuple (xs ++ ys))) (same_new hp) (Is.tup (.inl upd_same) (hs.fresh hp) ((t1.append t2).stp (stp_new hp))) k))
theorem od_sub (k : K (.d (.int (i - j))) rs) : OpD (rI0 fun i j => .int (i - j)) (.d (.int i)) (.d (.int j)) rs K := od_I0 (gd := fun i j => .int (i - j)) (fun _ _ _ _ => .int _) k
theorem mul_ok (hi : -(2 ^ 300) < i ∧ i < 2 ^ 300) (hj : -(2 ^ 300) < j ∧ j < 2 ^ 300) : IntMulOk i j := CMulW.ok (wide_mul (a := 300) (b := 300) (by omega) (by omega) (by decide) (by decide) (by decide))
theorem mul_r (hj : -(2 ^ 64) < j ∧ j < 2 ^ 64) : IntMulOk i j := .of_right (intBits_le_64 hj.1 hj.2)
theorem mul_l (hi : -(2 ^ 64) < i ∧ i < 2 ^ 64) : IntMulOk i j := .of_left (intBits_le_64 hi.1 hi.2)
theorem od_mul (hc : IntMulOk i j) (k : K (.d (.int (i * j))) rs) : OpD uMul (.d (.int i)) (.d (.int j)) rs K := od_l (od_I (gd := fun i j => .int (i * j)) (fun _ _ _ _ => .int _) hc k)
theorem od_div (hc : 0 < j ∧ j < 2 ^ 300) (k : K (.d (.int (i / j))) rs) : OpD (rI CDivW fun i j => .int (i / j)) (.d (.int i)) (.d (.int j)) rs K := od_I (gd := fun i j => .int (i / j)) (fun _ _ _ _ => .int _) (by
  refine ⟨hc.1, ?_⟩
  have := PySem.Flt.log2_lt_of (n := j.natAbs) (k := 300) (by decide) (by omega)
  omega) k
theorem od_mod (hc : 0 < j) (k : K (.d (.int (i % j))) rs) : OpD (rI (fun _ j => 0 < j) fun i j => .int (i % j)) (.d (.int i)) (.d (.int j)) rs K := od_I (gd := fun i j => .int (i % j)) (fun _ _ _ _ => .int _) hc k
theorem od_pow (hc : CPow i j) (k : K (.d (.int (i ^ j.toNat))) rs) : OpD (rI CPow fun i j => .int (i ^ j.toNat)) (.d (.int i)) (.d (.int j)) rs K := od_I (gd := fun i j => .int (i ^ j.toNat)) (fun _ _ _ _ => .int _) hc k
theorem od_lt (k : K (.d (.bool (decide (i < j)))) rs) : OpD (rI0 fun i j => .bl (decide (i < j))) (.d (.int i)) (.d (.int j)) rs K := od_I0 (gd := fun i j => .bool (decide (i < j))) (fun _ _ _ _ => .bl _) k
theorem od_le (k : K (.d (.bool (decide (i ≤ j)))) rs) : OpD (rI0 fun i j => .bl (decide (i ≤ j))) (.d (.int i)) (.d (.int j)) rs K := od_I0 (gd := fun i j => .bool (decide (i ≤ j))) (fun _ _ _ _ => .bl _) k
theorem od_gt (k : K (.d (.bool (decide (j < i)))) rs) : OpD (rI0 fun i j => .bl (decide (j < i))) (.d (.int i)) (.d (.int j)) rs K := od_I0 (gd := fun i j => .bool (decide (j < i))) (fun _ _ _ _ => .bl _) k
theorem od_ge (k : K (.d (.bool (decide (j ≤ i)))) rs) : OpD (rI0 fun i j => .bl (decide (j ≤ i))) (.d (.int i)) (.d (.int j)) rs K := od_I0 (gd := fun i j => .bool (decide (j ≤ i))) (fun _ _ _ _ => .bl _) k
end
/-! ### == != is in -/
def uEq (K : PySem.W.Frag) : R2 := rOr rEq (rEqD K)
def uNe (K : PySem.W.Frag) : R2 := rOr rNe (rNeD K)
theorem op_uEq {X : Cx} (hu : X.A.units + 64 < cLine) : OpR X (compareOp .Eq) (uEq X.K) := op_or op_eq (op_eqD hu)
theorem op_uNe {X : Cx} (hu : X.A.units + 64 < cLine) : OpR X (compareOp .NotEq) (uNe X.K) := op_or op_ne (op_neD hu)
/-- what is == as plain Lean has it -/
inductive EqB : PyData → PyData → Bool → Prop
  | int (i j : Int) : EqB (.int i) (.int j) (decide (i = j))
  | str (x y : Str) : EqB (.str x) (.str y) (decide (x = y))
  | bl (x y : Bool) : EqB (.bool x) (.bool y) (decide (x = y))
  | nn : EqB .none .none true
  | ni (i : Int) : EqB .none (.int i) false
  | in_ (i : Int) : EqB (.int i) .none false
  | ns (x : Str) : EqB .none (.str x) false
  | sn (x : Str) : EqB (.str x) .none false
  | dat {d e : PyData} : SeqAt.shaped d = true → SeqAt.shaped e = true → EqB d e (PyData.eqv d e)
section
variable {rs : List Mem} {K : Sl → List Mem → Prop} {s1 s2 : Sl} {d e : PyData} {b : Bool}
theorem plain_d {s : Sl} (h : s.plain = .d d) {G : Fp} {H : Hp} {v : V} (q : SlOk G H v s) : Is G H v d := by
  cases s with
  | un => cases h
  | r u => cases h
  | d x => cases h; exact q
  | n xs => cases h; exact q
theorem od_eq (h1 : s1.plain = .d d) (h2 : s2.plain = .d e) (h : EqB d e b) (k : K (.d (.bool b)) rs) : OpD (uEq KC.K) s1 s2 rs K := fun G H x y Q hx hy hs hq => by
  have q1 := plain_d h1 hx
  have q2 := plain_d h2 hy
  have fin : Q (.bl b) H := give0 hs hq (sl := .d (.bool b)) (Is.bl b) k
  cases h with
  | int i j => cases q1; cases q2; exact .inl ⟨rfl, by have e : decide (V.int i = V.int j) = decide (i = j) := by simp
                                                       rw [e]; exact fin⟩
  | str i j => cases q1; cases q2; exact .inl ⟨rfl, by have e : decide (V.str i = V.str j) = decide (i = j) := by simp
                                                       rw [e]; exact fin⟩
  | bl i j => cases q1; cases q2; exact .inl ⟨rfl, by have e : decide (V.bl i = V.bl j) = decide (i = j) := by simp
                                                      rw [e]; exact fin⟩
  | nn => cases q1; cases q2; exact .inl ⟨rfl, fin⟩
  | ni i => cases q1; cases q2; exact .inl ⟨rfl, fin⟩
  | in_ i => cases q1; cases q2; exact .inl ⟨rfl, fin⟩
  | ns i => cases q1; cases q2; exact .inl ⟨rfl, fin⟩
  | sn i => cases q1; cases q2; exact .inl ⟨rfl, fin⟩
  | dat a b => exact .inr ⟨_, _, q1.dp, q2.dp, a, b, fin⟩
theorem od_ne (h1 : s1.plain = .d d) (h2 : s2.plain = .d e) (h : EqB d e b) (k : K (.d (.bool (!b))) rs) : OpD (uNe KC.K) s1 s2 rs K := fun G H x y Q hx hy hs hq => by
  have q1 := plain_d h1 hx
  have q2 := plain_d h2 hy
  have fin : Q (.bl (!b)) H := give0 hs hq (sl := .d (.bool (!b))) (Is.bl _) k
  cases h with
  | int i j => cases q1; cases q2; exact .inl ⟨rfl, by have e : decide (V.int i = V.int j) = decide (i = j) := by simp
                                                       rw [e]; exact fin⟩
  | str i j => cases q1; cases q2; exact .inl ⟨rfl, by have e : decide (V.str i = V.str j) = decide (i = j) := by simp
                                                       rw [e]; exact fin⟩
  | bl i j => cases q1; cases q2; exact .inl ⟨rfl, by have e : decide (V.bl i = V.bl j) = decide (i = j) := by simp
                                                      rw [e]; exact fin⟩
  | nn => cases q1; cases q2; exact .inl ⟨rfl, fin⟩
  | ni i => cases q1; cases q2; exact .inl ⟨rfl, fin⟩
  | in_ i => cases q1; cases q2; exact .inl ⟨rfl, fin⟩
  | ns i => cases q1; cases q2; exact .inl ⟨rfl, fin⟩
  | sn i => cases q1; cases q2; exact .inl ⟨rfl, fin⟩
  | dat a b => exact .inr ⟨_, _, q1.dp, q2.dp, a, b, fin⟩
/-- is None, is not None -/
def uIs : R2 := fun x y H Q => y = .non ∧ Q (.bl (decide (x = .non))) H
def uIsn : R2 := fun x y H Q => y = .non ∧ Q (.bl (!decide (x = .non))) H
theorem op_uIs {X : Cx} : OpR X (compareOp .Is) uIs := op_isN
theorem op_uIsn {X : Cx} : OpR X (compareOp .IsNot) uIsn := op_notN
def Sl.isNone : Sl → Option Bool
  | .d .none => some true
  | .r .non => some true
  | .un => none
  | _ => some false
theorem isNone_ok {G : Fp} {H : Hp} {x : V} {s : Sl} {b : Bool} (h : s.isNone = some b) (q : SlOk G H x s) : decide (x = .non) = b := by
  cases s with
  | un => cases h
  | r u =>
    have q : x = u := q
    subst q
    cases x <;> cases h <;> rfl
  | n xs =>
    have q : Is G H x (.list xs) := q
    cases h; cases q; rfl
  | d y =>
    have q : Is G H x y := q
    cases q <;> cases h <;> rfl
theorem od_is (h : s1.isNone = some b) (k : K (.d (.bool b)) rs) : OpD uIs s1 (.d .none) rs K := fun G H x y Q hx hy hs hq =>
  ⟨hy.non, by rw [isNone_ok h hx]; exact give0 hs hq (sl := .d (.bool b)) (Is.bl b) k⟩
theorem od_isn (h : s1.isNone = some b) (k : K (.d (.bool (!b))) rs) : OpD uIsn s1 (.d .none) rs K := fun G H x y Q hx hy hs hq =>
  ⟨hy.non, by rw [isNone_ok h hx]; exact give0 hs hq (sl := .d (.bool (!b))) (Is.bl _) k⟩
end
/-- x in s (one sign in a text), x in xs (flat) -/
def uIn (K : PySem.W.Frag) : R2 := rOr (fun x y H Q => ∃ (c : Nat) (z : Str), x = .str ⟨#[c]⟩ ∧ y = .str z ∧ Q (.bl (decide (c ∈ z.cps.toList))) H) (rIn K false)
def uNin (K : PySem.W.Frag) : R2 := rOr (fun x y H Q => ∃ (c : Nat) (z : Str), x = .str ⟨#[c]⟩ ∧ y = .str z ∧ Q (.bl (!decide (c ∈ z.cps.toList))) H) (rIn K true)
theorem op_uIn {X : Cx} : OpR X (compareOp .In) (uIn X.K) := op_or op_in_sign op_in_seq
theorem op_uNin {X : Cx} : OpR X (compareOp .NotIn) (uNin X.K) := op_or op_notIn_sign op_notIn_seq
def flatD : PyData → Bool
  | .none => true | .bool _ => true | .int _ => true | .str _ => true
  | _ => false
def eqF : PyData → PyData → Bool
  | .none, .none => true
  | .bool a, .bool b => a == b
  | .bool a, .int b => (if a then 1 else 0) == b
  | .int a, .bool b => a == (if b then 1 else 0)
  | .int a, .int b => a == b
  | .str a, .str b => a == b
  | _, _ => false
def Sl.asSeq : Sl → Option (List PyData)
  | .d (.list ds) => some ds
  | .d (.tuple ds) => some ds
  | .n ds => some ds
  | _ => none
section
variable {rs : List Mem} {K : Sl → List Mem → Prop} {s1 s2 : Sl} {d e : PyData} {b : Bool} {G : Fp} {H : Hp} {ds : List PyData}
theorem flat_is {v : V} (h : Is G H v d) (f : flatD d = true) : flatV v = true := by cases h <;> first | rfl | cases f
theorem eq_is {v u : V} (h : Is G H v d) (q : Is G H u e) (f : flatD d = true) (g : flatD e = true) : eqV v u = eqF d e := by
  cases h <;> cases q <;> first | rfl | cases f | cases g
theorem flat_all : ∀ {vs : List V} {ds : List PyData}, IsAll G H vs ds → ds.all flatD = true → vs.all flatV = true
  | _, _, .nil, _ => rfl
  | _, _, .cons h t, f => by
    rw [List.all_cons, Bool.and_eq_true] at f ⊢
    exact ⟨flat_is h f.1, flat_all t f.2⟩
theorem in_all {x : V} (hx : Is G H x d) (fx : flatD d = true) : ∀ {vs : List V} {ds : List PyData}, IsAll G H vs ds → ds.all flatD = true → inV x vs = ds.any fun y => eqF y d
  | _, _, .nil, _ => rfl
  | _, _, .cons h t, f => by
    rw [List.all_cons, Bool.and_eq_true] at f
    have ih := in_all hx fx t f.2
    unfold inV at ih ⊢
    rw [List.any_cons, List.any_cons, ih, eq_is h hx f.1 fx]
theorem SlOk.seq {v : V} {s : Sl} (h : SlOk G H v s) (e : s.asSeq = some ds) : ∃ p vs, v = .ref p ∧ (LsAt G H p vs ∨ Rd H p (.tup vs)) ∧ IsAll G H vs ds := by
  cases s with
  | un => cases e
  | r u => cases e
  | n xs =>
    cases e
    obtain ⟨p, vs, a, b, t⟩ := SlOk.list (s := .n _) h rfl
    exact ⟨p, vs, a, .inl b, t⟩
  | d x =>
    cases x with
    | list xs =>
      cases e
      obtain ⟨p, vs, a, b, t⟩ := SlOk.list (s := .d (.list _)) h rfl
      exact ⟨p, vs, a, .inl b, t⟩
    | tuple xs =>
      cases e
      obtain ⟨p, vs, a, b, _, t⟩ := SlOk.tuple h
      exact ⟨p, vs, a, .inr b, t⟩
    | _ => cases e
theorem od_ins {n : Nat} {z : Str} (k : K (.d (.bool (decide (n ∈ z.cps.toList)))) rs) : OpD (uIn KC.K) (.d (.str ⟨#[n]⟩)) (.d (.str z)) rs K := od_l fun G H x y Q hx hy hs hq =>
  ⟨n, z, hx.str, hy.str, give0 hs hq (sl := .d (.bool _)) (Is.bl _) k⟩
theorem od_nins {n : Nat} {z : Str} (k : K (.d (.bool (!decide (n ∈ z.cps.toList)))) rs) : OpD (uNin KC.K) (.d (.str ⟨#[n]⟩)) (.d (.str z)) rs K := od_l fun G H x y Q hx hy hs hq =>
  ⟨n, z, hx.str, hy.str, give0 hs hq (sl := .d (.bool _)) (Is.bl _) k⟩
theorem od_inl (h : s2.asSeq = some ds) (fd : flatD d = true) (fs : ds.all flatD = true) (k : K (.d (.bool (ds.any fun y => eqF y d))) rs) : OpD (uIn KC.K) (.d d) s2 rs K := od_r fun G H x y Q hx hy hs hq => by
  obtain ⟨p, vs, rfl, r, t⟩ := hy.seq h
  refine ⟨p, vs, rfl, r.imp LsAt.sq .inl, flat_is hx fd, flat_all t fs, ?_⟩
  show Q (.bl (inV x vs)) H
  rw [in_all hx fd t fs]
  exact give0 hs hq (sl := .d (.bool _)) (Is.bl _) k
theorem od_ninl (h : s2.asSeq = some ds) (fd : flatD d = true) (fs : ds.all flatD = true) (k : K (.d (.bool (!ds.any fun y => eqF y d))) rs) : OpD (uNin KC.K) (.d d) s2 rs K := od_r fun G H x y Q hx hy hs hq => by
  obtain ⟨p, vs, rfl, r, t⟩ := hy.seq h
  refine ⟨p, vs, rfl, r.imp LsAt.sq .inl, flat_is hx fd, flat_all t fs, ?_⟩
  show Q (.bl (!inV x vs)) H
  rw [in_all hx fd t fs]
  exact give0 hs hq (sl := .d (.bool _)) (Is.bl _) k
/-! ### xs[i] -/
theorem od_ixs {i : Int} (h : s1.asSeq = some ds) (hi : atI ds i = some d) (k : K (.d d) rs) : OpD (rIx KC.K) s1 (.d (.int i)) rs K := fun G H x y Q hx hy hs hq => by
  obtain ⟨p, vs, rfl, r, t⟩ := hx.seq h
  have ey := hy.int
  have hv : ∃ v, atI vs i = some v ∧ Is G H v d := by
    unfold atI at hi ⊢
    rw [t.length]
    cases e : ixN ds.length i with
    | none => rw [e] at hi; cases hi
    | some j => rw [e] at hi; exact t.get hi
  obtain ⟨v, hv, hd⟩ := hv
  have fin := give0 hs hq (sl := .d d) (v := v) hd k
  rcases r with r | r
  · exact .inl ⟨p, vs, i, v, rfl, ey, r.sq, hv, fin⟩
  · exact .inr (.inl ⟨p, vs, i, v, rfl, ey, .inl r, hv, fin⟩)
theorem od_ixt {i : Int} {z : Str} {n : Nat} (hz : z.length ≤ 100000) (hi : atI z.cps.toList i = some n) (k : K (.d (.str ⟨#[n]⟩)) rs) : OpD (rIx KC.K) (.d (.str z)) (.d (.int i)) rs K := fun G H x y Q hx hy hs hq =>
  .inr (.inr ⟨z, i, n, hx.str, hy.int, Nat.le_trans hz (by decide), hi, give0 hs hq (sl := .d (.str ⟨#[n]⟩)) (Is.str _) k⟩)
end
section
variable {c : Ctx m₀ N₀ sc₀ lv₀ xp₀ fF₀ cm₀} {e a b : Expr} {es : List Expr} {ρ ρ' : List Sl} {rs : List Mem} {K : Sl → List Mem → Prop} {KB : Bool → List Mem → Prop} {x : Str} {pos pos' p2 : Pos}
theorem dx_ix {r : R2} (hr : IxR c.X r) (h : DX c a ρ rs fun s1 r1 => DX c b ρ r1 fun s2 r2 => OpD r s1 s2 r2 K) (hp : PlainIx b := by exact fun _ _ => rfl) : DX c (.Subscript a b pos) ρ rs K := by
  intro σ H G Q he hs hx hq
  refine tE_of (pe_ix hr pe_t pe_t hp) ?_
  refine h σ H G _ he hs hx fun v1 H1 G1 s1 r1 t1 h1 o1 k1 => ?_
  refine k1 σ H1 G1 _ (he.stp t1) o1 (hx.stp t1) fun v2 H2 G2 s2 r2 t2 h2 o2 k2 => ?_
  exact k2 G2 H2 v1 v2 Q (h1.ok.stp t2) h2.ok o2 fun v H' G' sl rs' t3 h3 o3 k3 => hq v H' G' sl rs' ((t1.trans t2).trans t3) (h3.back (t1.trans t2)) o3 k3
/-! ### xs[lo:hi] -/
def DO (c : Ctx m₀ N₀ sc₀ lv₀ xp₀ fF₀ cm₀) (e : Option Expr) (ρ : List Sl) (rs : List Mem) (K : Option Int → List Mem → Prop) : Prop := match e with
  | none => K none rs
  | some e => DX c e ρ rs fun s r => ∃ i, s = .d (.int i) ∧ K (some i) r
def tO (X : Cx) : Option Expr → TO
  | none => tNoPart
  | some e => tPart (tE X e)
theorem po_t {X : Cx} : ∀ {e : Option Expr}, PO X e (tO X e)
  | none => po_none
  | some _ => po_some pe_t
theorem DO.run {e : Option Expr} {KO : Option Int → List Mem → Prop} (h : DO c e ρ rs KO) {σ : L2.St} {H : Hp} {G : Fp} {Q : Option Int → Hp → Prop} (he : EnvOk G H σ ρ) (hs : sepL rs G G H) (hx : XOk c G H)
    (hq : ∀ o H' G' rs', Stp G G' H H' → sepL rs' G' G' H' → KO o rs' → Q o H') : tO c.X e σ H Q := by
  cases e with
  | none => exact hq none H G rs (Stp.refl _ _) hs h
  | some e =>
    refine h σ H G _ he hs hx fun v H1 G1 s1 r1 t1 h1 o1 k1 => ?_
    obtain ⟨i, rfl, k1⟩ := k1
    exact ⟨i, SlOk.int h1, hq _ H1 G1 r1 t1 o1 k1⟩
def SlD (r : V → Option Int → Option Int → Hp → VK → Prop) (s : Sl) (lo hi : Option Int) (rs : List Mem) (K : Sl → List Mem → Prop) : Prop := ∀ (G : Fp) (H : Hp) (x : V) (Q : VK), SlOk G H x s → sepL rs G G H →
  (∀ v H' G' sl rs', Stp G G' H H' → Rs G' H H' v sl → sepL rs' G' G' H' → K sl rs' → Q v H') → r x lo hi H Q
def uSl (K : PySem.W.Frag) : V → Option Int → Option Int → Hp → VK → Prop := fun x lo hi H Q => rSlL K x lo hi H Q ∨ (rSlT K x lo hi H Q ∨ rSlS x lo hi H Q)
theorem sl_u {X : Cx} : SlR X (uSl X.K) := sl_list.or (sl_tup.or sl_str)
theorem dx_slice {lo hi : Option Expr} (h : DX c a ρ rs fun s r1 => DO c lo ρ r1 fun i r2 => DO c hi ρ r2 fun j r3 => SlD (uSl KC.K) s.plain i j r3 K) : DX c (.Subscript a (.Slice lo hi none p2) pos) ρ rs K := by
  intro σ H G Q he hs hx hq
  refine tE_of (pe_slice (c.ck ▸ sl_u) pe_t po_t po_t) ?_
  refine h σ H G _ he hs hx fun v1 H1 G1 s1 r1 t1 h1 o1 k1 => ?_
  refine k1.run (he.stp t1) o1 (hx.stp t1) fun i H2 G2 r2 t2 o2 k2 => ?_
  refine k2.run (he.stp (t1.trans t2)) o2 (hx.stp (t1.trans t2)) fun j H3 G3 r3 t3 o3 k3 => ?_
  exact k3 G3 H3 v1 Q ((h1.ok.plain.stp t2).stp t3) o3 fun v H' G' sl rs' t4 h4 o4 k4 => hq v H' G' sl rs' (((t1.trans t2).trans t3).trans t4) (h4.back ((t1.trans t2).trans t3)) o4 k4
def cutL {α : Type} (xs : List α) (lo hi : Option Int) : List α := (xs.drop (HT.sIx xs.length 0 lo)).take (HT.sIx xs.length xs.length hi - HT.sIx xs.length 0 lo)
theorem IsAll.cut {G : Fp} {H : Hp} {vs : List V} {ds : List PyData} (h : IsAll G H vs ds) (lo hi : Option Int) : IsAll G H (cutV vs lo hi) (cutL ds lo hi) := by
  unfold cutV cutL
  rw [h.length]
  exact (h.drop _).take _
theorem sd_list {ds : List PyData} {lo hi : Option Int} (k : K (.n (cutL ds lo hi)) rs) : SlD (uSl KC.K) (.d (.list ds)) lo hi rs K := fun G H x Q hx hs hq => by
  obtain ⟨p, vs, rfl, r, t⟩ := SlOk.list (s := .d (.list ds)) hx rfl
  refine .inl ⟨p, vs, rfl, r.sq, fun z hz => ?_⟩
  exact give hs hq (sl := .n (cutL ds lo hi)) (same_new hz) ⟨z, _, rfl, hz, hs.fresh hz, upd_same, (t.cut lo hi).stp (stp_new hz)⟩ k
theorem sd_tup {ds : List PyData} {lo hi : Option Int} (hw : ¬ (HT.sIx ds.length 0 lo = 0 ∧ HT.sIx ds.length ds.length hi = ds.length)) (k : K (.d (.tuple (cutL ds lo hi))) rs) : SlD (uSl KC.K) (.d (.tuple ds)) lo hi rs K := fun G H x Q hx hs hq => by
  obtain ⟨p, vs, rfl, r, n, t⟩ := SlOk.tuple hx
  refine .inr (.inl ⟨p, vs, rfl, .inl r, by rw [t.length]; exact hw, fun z hz => ?_⟩)
  exact give hs hq (sl := .d (.tuple (cutL ds lo hi))) (same_new hz) (Is.tup (.inl upd_same) (hs.fresh hz) ((t.cut lo hi).stp (stp_new hz))) k
theorem sd_str {z : Str} {lo hi : Option Int} (hz : z.length ≤ 100000) (k : K (.d (.str (cutS z lo hi))) rs) : SlD (uSl KC.K) (.d (.str z)) lo hi rs K := fun G H x Q hx hs hq =>
  .inr (.inr ⟨z, hx.str, Nat.le_trans hz (by decide), give0 hs hq (sl := .d (.str (cutS z lo hi))) (Is.str _) k⟩)
theorem cAdd : OpR c.X (binaryOp .Add) (uAdd KC.K) := c.ck ▸ op_uAdd
theorem cEq : OpR c.X (compareOp .Eq) (uEq KC.K) := c.ck ▸ op_uEq (by have := c.un; omega)
theorem cNe : OpR c.X (compareOp .NotEq) (uNe KC.K) := c.ck ▸ op_uNe (by have := c.un; omega)
theorem cIn : OpR c.X (compareOp .In) (uIn KC.K) := c.ck ▸ op_uIn
theorem cNin : OpR c.X (compareOp .NotIn) (uNin KC.K) := c.ck ▸ op_uNin
theorem cIx : IxR c.X (rIx KC.K) := c.ck ▸ ix_seq
end
end PW

set_option maxHeartbeats 1000000
/-! Loops and comprehensions. -/
namespace PW
open PySem L2
variable [KC]
variable {m₀ : Mo} {N₀ : List Str} {sc₀ : Scope} {lv₀ : Nat} {xp₀ : Addr → List Sl → List Mem → Prop} {fF₀ cm₀ : Bool}

/-- the place of a name -/
inductive IxOf : List Str → Str → Nat → Prop
  | zero {x N} : IxOf (x :: N) x 0
  | succ {x y N i} : IxOf N x i → IxOf (y :: N) x (i + 1)
theorem IxOf.get : ∀ {N x i}, IxOf N x i → N[i]? = some x
  | _, _, _, .zero => rfl
  | _, _, _, .succ h => by simpa using h.get

/-! ### what is walked -/
def tI (X : Cx) (tg it : Expr) : TI := fun σ H R => ∀ pins s, Inv X pins σ H s → wpAny (model X.prog X.w) X.A (eval it X.env) (fun v s1 => wpAny (model X.prog X.w) X.A (pyIter v) (PIE X pins σ tg R) X.xe s1) X.xe s
theorem pi_t {X : Cx} {tg it : Expr} : PI X tg it (tI X tg it) := ⟨fun pins s _ _ _ I h => h pins s I⟩
theorem tI_of {X : Cx} {tg it : Expr} {t : TI} {σ : L2.St} {H : Hp} {R : It → Hp → Prop} (h : PI X tg it t) (q : t σ H R) : tI X tg it σ H R := fun pins s I => h.run pins s σ H R I q
/-- J gives the items, as long as keep holds -/
def JOk (J : It) (items : List Sl) (keep : List Mem → Prop) (G : Fp) (H : Hp) : Prop := ∀ (G1 : Fp) (H1 : Hp) (r1 : List Mem), Stp G G1 H H1 → sepL r1 G1 G1 H1 → keep r1 →
  ∀ i, (i < items.length → J.go i H1 ∧ ∀ x H2, J.yld i H1 x H2 → H2 = H1 ∧ ∃ sl, items[i]? = some sl ∧ SlOk G1 H1 x sl) ∧ (items.length ≤ i → J.stop i H1)
def DI (c : Ctx m₀ N₀ sc₀ lv₀ xp₀ fF₀ cm₀) (tg it : Expr) (ρ : List Sl) (rs : List Mem) (K : List Sl → (List Mem → Prop) → List Mem → Prop) : Prop := ∀ (σ : L2.St) (H : Hp) (G : Fp) (R : It → Hp → Prop), EnvOk G H σ ρ → sepL rs G G H → XOk c G H →
  (∀ J H' G' items keep rs', Stp G G' H H' → sepL rs' G' G' H' → JOk J items keep G' H' → K items keep rs' → R J H') → tI c.X tg it σ H R
section
variable {c : Ctx m₀ N₀ sc₀ lv₀ xp₀ fF₀ cm₀} {e a b tg it : Expr} {es : List Expr} {ρ ρ' : List Sl} {rs : List Mem} {KI : List Sl → (List Mem → Prop) → List Mem → Prop} {x : Str} {pos pos' p2 : Pos}
theorem di_list (h : DX c it ρ rs fun s r => ∃ ds, s.asList = some ds ∧ KI (ds.map .d) (fun _ => True) r) : DI c tg it ρ rs KI := by
  intro σ H G R he hs hx hr
  refine tI_of (c.ck ▸ pi_list pe_t) ?_
  refine h σ H G _ he hs hx fun v H1 G1 s1 r1 t1 h1 o1 k1 => ?_
  obtain ⟨ds, e1, k1⟩ := k1
  obtain ⟨p, vs, rfl, rd, al⟩ := h1.ok.list e1
  refine ⟨p, rfl, ⟨vs, rd.sq⟩, hr _ H1 G1 _ _ r1 t1 o1 (fun G2 H2 r2 t2 o2 _ i => ?_) k1⟩
  have rd2 : SqL KC.K H2 p vs := (ls_stp0 t2.keep t2.sub rd).sq
  have al2 := al.stp t2
  constructor
  · intro hi
    have hi' : i < vs.length := by rw [al.length]; simpa using hi
    refine ⟨⟨vs, vs[i], rd2, by simp [hi']⟩, fun x H3 y => ?_⟩
    obtain ⟨e3, y⟩ := y
    obtain ⟨d, hd, hI⟩ := al2.getV (i := i) (v := x) (y vs (rd2))
    exact ⟨e3, .d d, by rw [List.getElem?_map, hd]; rfl, hI⟩
  · intro hi
    exact ⟨vs, rd2, by rw [al.length]; simpa using hi⟩
theorem di_tup (h : DX c it ρ rs fun s r => ∃ ds, s = .d (.tuple ds) ∧ KI (ds.map .d) (fun _ => True) r) : DI c tg it ρ rs KI := by
  intro σ H G R he hs hx hr
  refine tI_of (c.ck ▸ pi_tup pe_t) ?_
  refine h σ H G _ he hs hx fun v H1 G1 s1 r1 t1 h1 o1 k1 => ?_
  obtain ⟨ds, rfl, k1⟩ := k1
  obtain ⟨p, vs, rfl, rd, np, al⟩ := SlOk.tuple h1.ok
  refine ⟨p, rfl, ⟨vs, .inl rd⟩, hr _ H1 G1 _ _ r1 t1 o1 (fun G2 H2 r2 t2 o2 _ i => ?_) k1⟩
  have rd2 : Rd H2 p (.tup vs) := rd_stp t2.keep np rd
  have al2 := al.stp t2
  constructor
  · intro hi
    have hi' : i < vs.length := by rw [al.length]; simpa using hi
    refine ⟨⟨vs, vs[i], .inl rd2, by simp [hi']⟩, fun x H3 y => ?_⟩
    obtain ⟨e3, y⟩ := y
    obtain ⟨d, hd, hI⟩ := al2.getV (i := i) (v := x) (y vs (.inl rd2))
    exact ⟨e3, .d d, by rw [List.getElem?_map, hd]; rfl, hI⟩
  · intro hi
    exact ⟨vs, .inl rd2, by rw [al.length]; simpa using hi⟩
/-- the signs of a text -/
def signs (z : Str) : List Sl := z.cps.toList.map fun n => .d (.str ⟨#[n]⟩)
theorem di_str (h : DX c it ρ rs fun s r => ∃ z, s = .d (.str z) ∧ KI (signs z) (fun _ => True) r) : DI c tg it ρ rs KI := by
  intro σ H G R he hs hx hr
  refine tI_of (pi_str pe_t) ?_
  refine h σ H G _ he hs hx fun v H1 G1 s1 r1 t1 h1 o1 k1 => ?_
  obtain ⟨z, rfl, k1⟩ := k1
  refine ⟨z, h1.ok.str, hr _ H1 G1 _ _ r1 t1 o1 (fun G2 H2 r2 t2 o2 _ i => ?_) k1⟩
  constructor
  · intro hi
    have hi' : i < z.cps.size := by simpa [signs] using hi
    refine ⟨hi', fun x H3 y => ?_⟩
    obtain ⟨e3, n, hn, rfl⟩ := y
    refine ⟨e3, .d (.str ⟨#[n]⟩), ?_, Is.str _⟩
    have : z.cps.toList[i]? = some n := by simpa using hn
    unfold signs
    rw [List.getElem?_map, this]; rfl
  · intro hi
    show z.cps.size ≤ i
    simpa [signs] using hi
def rngS (lo : Int) (n : Nat) : List Sl := (List.range n).map fun k => .d (.int (lo + (k : Nat)))
theorem jok_rng {lo : Int} {n : Nat} {keep : List Mem → Prop} {G : Fp} {H : Hp} : JOk (Itr lo n) (rngS lo n) keep G H := fun G2 H2 r2 t2 o2 _ i => by
  constructor
  · intro hi
    have hi' : i < n := by simpa [rngS] using hi
    refine ⟨hi', fun x H3 y => ?_⟩
    obtain ⟨e3, rfl⟩ := y
    refine ⟨e3, .d (.int (lo + i)), ?_, Is.int _⟩
    unfold rngS
    rw [List.getElem?_map, List.getElem?_range hi']; rfl
  · intro hi
    show n ≤ i
    simpa [rngS] using hi
theorem di_range1 (h : DA c [a] ρ rs fun ss r => ∃ n : Int, ss = [.d (.int n)] ∧ (-(2 ^ 62) ≤ n ∧ n < 2 ^ 62) ∧ KI (rngS 0 n.toNat) (fun _ => True) r) (hg : KdIn sc₀.names ("range" : Str) .globalImplicit := by first | ((with_reducible (repeat (first | exact KdIn.zero | apply KdIn.succ))); (first | (all_goals fail) | fail)) | exact kd_of rfl)
    (hs : starEach [a] c.X.env = [(false, eval a c.X.env)] := by rfl) : DI c tg (.Call (.Name "range" pos') [a] [] pos) ρ rs KI := by
  intro σ H G R he hS hx hr
  refine tI_of (pi_range1 (show c.X.env.kindOf "range" = _ by unfold Env.kindOf; rw [c.hsc]; exact c.look hg) (by rw [c.hm.mg]; exact c.bl.range) pa_t hs) ?_
  refine h σ H G _ he hS hx fun vs H1 G1 ss r1 t1 h1 o1 k1 => ?_
  obtain ⟨n, rfl, hb, k1⟩ := k1
  match vs, h1 with
  | [v], h1 =>
    refine ⟨n, by rw [SlOk.int h1.1], hb.1, hb.2, hr _ H1 G1 _ _ r1 t1 o1 jok_rng k1⟩
theorem di_range2 (h : DA c [a, b] ρ rs fun ss r => ∃ n m : Int, ss = [.d (.int n), .d (.int m)] ∧ (-(2 ^ 62) ≤ n ∧ n < 2 ^ 62 ∧ -(2 ^ 62) ≤ m ∧ m < 2 ^ 62) ∧ KI (rngS n (m - n).toNat) (fun _ => True) r) (hg : KdIn sc₀.names ("range" : Str) .globalImplicit := by first | ((with_reducible (repeat (first | exact KdIn.zero | apply KdIn.succ))); (first | (all_goals fail) | fail)) | exact kd_of rfl)
    (hs : starEach [a, b] c.X.env = [(false, eval a c.X.env), (false, eval b c.X.env)] := by rfl) (hs2 : starEach [b] c.X.env = [(false, eval b c.X.env)] := by rfl) : DI c tg (.Call (.Name "range" pos') [a, b] [] pos) ρ rs KI := by
  intro σ H G R he hS hx hr
  refine tI_of (pi_range2 (show c.X.env.kindOf "range" = _ by unfold Env.kindOf; rw [c.hsc]; exact c.look hg) (by rw [c.hm.mg]; exact c.bl.range) pa_t hs hs2) ?_
  refine h σ H G _ he hS hx fun vs H1 G1 ss r1 t1 h1 o1 k1 => ?_
  obtain ⟨n, m, rfl, hb, k1⟩ := k1
  match vs, h1 with
  | [v, w], h1 =>
    refine ⟨n, m, by rw [SlOk.int h1.1, SlOk.int h1.2.1], hb, hr _ H1 G1 _ _ r1 t1 o1 jok_rng k1⟩
/-! ### weaker slots -/
theorem DSs.le {sts : List Stmt} {P : Post} (l : Le ρ ρ') (h : DSs c sts ρ' rs P) : DSs c sts ρ rs P := fun σ H G D he hs hx hd => h σ H G D (l.env he) hs hx hd
theorem ds_weak {st : Stmt} {P : Post} (h : DS c st ρ rs P) {P' : Post} (hn : ∀ ρ' r', P.nx ρ' r' → P'.nx ρ' r') (hr : ∀ s r', P.rt s r' → P'.rt s r') (hb : ∀ ρ' r', P.bk ρ' r' → P'.bk ρ' r') (hc : ∀ ρ' r', P.ct ρ' r' → P'.ct ρ' r') : DS c st ρ rs P' :=
  fun σ H G D he hs hx hd => h σ H G D he hs hx ⟨fun σ' H' G' ρ' r' t e o k => hd.nx σ' H' G' ρ' r' t e o (hn _ _ k), fun v H' G' s r' t q o k => hd.rt v H' G' s r' t q o (hr _ _ k), fun σ' H' G' ρ' r' t e o k => hd.bk σ' H' G' ρ' r' t e o (hb _ _ k), fun σ' H' G' ρ' r' t e o k => hd.ct σ' H' G' ρ' r' t e o (hc _ _ k)⟩
theorem dss_weak {sts : List Stmt} {P : Post} (h : DSs c sts ρ rs P) {P' : Post} (hn : ∀ ρ' r', P.nx ρ' r' → P'.nx ρ' r') (hr : ∀ s r', P.rt s r' → P'.rt s r') (hb : ∀ ρ' r', P.bk ρ' r' → P'.bk ρ' r') (hc : ∀ ρ' r', P.ct ρ' r' → P'.ct ρ' r') : DSs c sts ρ rs P' :=
  fun σ H G D he hs hx hd => h σ H G D he hs hx ⟨fun σ' H' G' ρ' r' t e o k => hd.nx σ' H' G' ρ' r' t e o (hn _ _ k), fun v H' G' s r' t q o k => hd.rt v H' G' s r' t q o (hr _ _ k), fun σ' H' G' ρ' r' t e o k => hd.bk σ' H' G' ρ' r' t e o (hb _ _ k), fun σ' H' G' ρ' r' t e o k => hd.ct σ' H' G' ρ' r' t e o (hc _ _ k)⟩

/-! ### for -/
/-- a loop over xs (as enc tells them): what holds behind pre is inv pre s, with the slots ρf s and the things rf s -/
def ForD (c : Ctx m₀ N₀ sc₀ lv₀ xp₀ fF₀ cm₀) (x : Str) (j : Nat) (body : List Stmt) {α : Type} (xs : List α) (enc : α → Sl) (keep : List Mem → Prop) (ρ : List Sl) (rs : List Mem) (P : Post) : Prop :=
  ∃ (S : Type) (ρf : S → List Sl) (rf : S → List Mem) (inv : List α → S → Prop), (∃ s, inv [] s ∧ Le ρ (ρf s) ∧ rs = rf s) ∧ (∀ pre s, inv pre s → keep (rf s)) ∧
    (∀ pre y post s, xs = pre ++ y :: post → inv pre s → ∃ ρ2, SetS N₀ (ρf s) x j (enc y) ρ2 ∧
      DSs c body ρ2 (rf s) ⟨fun ρ' r' => ∃ s', inv (pre ++ [y]) s' ∧ Le ρ' (ρf s') ∧ r' = rf s', P.rt, P.nx, fun ρ' r' => ∃ s', inv (pre ++ [y]) s' ∧ Le ρ' (ρf s') ∧ r' = rf s'⟩) ∧
    (∀ s, inv xs s → P.nx (ρf s) (rf s))
theorem ds_for {body : List Stmt} {P : Post} {j : Nat} (hj : IxOf N₀ x j) (h : DI c (.Name x p2) it ρ rs fun items keep r => ∃ (α : Type) (xs : List α) (enc : α → Sl), items = xs.map enc ∧ ForD c x j body xs enc keep ρ r P)
    (hcm : cm₀ = true := by rfl) (hl : LocF c x := by first | exact locF_of (by with_reducible (repeat (first | exact KdIn.zero | apply KdIn.succ))) rfl | exact Or.inl rfl | exact Or.inr ⟨rfl, rfl⟩) (hf : ∀ y, foldedSetIterable it c.X.env y = pure y := by intro _; rfl) : DS c (.For (.Name x p2) it body [] pos) ρ rs P := by
  intro σ H G D he hs hx hd
  have nd : c.X.N.Nodup := by rw [c.hN]; exact c.nd
  have hi : c.X.N[j]? = some x := by rw [c.hN]; exact hj.get
  refine tS_of (ps_for (tb := tSs c.X body) c.po (c.calm hcm) pi_t (pg_name nd hi hl.loc (c_hf hl)) pss_t hf) ?_
  refine h σ H G _ he hs hx fun J H1 G1 items keep r1 t1 o1 jok k1 => ?_
  obtain ⟨α, xs, enc, rfl, S, ρf, rf, inv, ⟨s0, i0, l0, rfl⟩, hk, ht, hend⟩ := k1
  refine ⟨fun i m σ' H' => m = xs.length - i ∧ i ≤ xs.length ∧ ∃ G' s, Stp G1 G' H1 H' ∧ EnvOk G' H' σ' (ρf s) ∧ sepL (rf s) G' G' H' ∧ inv (xs.take i) s,
    ⟨_, rfl, Nat.zero_le _, G1, s0, Stp.refl _ _, l0.env (he.stp t1), o1, i0⟩, ?_⟩
  rintro i m σ' H' ⟨rfl, hle, G', s, t2, e2, o2, iv⟩
  have jk := jok G' H' (rf s) t2 o2 (hk _ s iv) i
  by_cases hlt : i < xs.length
  · refine .inr ⟨(jk.1 (by simpa using hlt)).1, fun σ2 H2 => xs.length - (i + 1) < xs.length - i ∧ i + 1 ≤ xs.length ∧ ∃ G2 s, Stp G1 G2 H1 H2 ∧ EnvOk G2 H2 σ2 (ρf s) ∧ sepL (rf s) G2 G2 H2 ∧ inv (xs.take (i + 1)) s,
      fun σ2 H2 ⟨l, l2, r⟩ => ⟨_, l, rfl, l2, r⟩, fun y H2 yl => ?_⟩
    obtain ⟨rfl, sl, hsl, hy⟩ := (jk.1 (by simpa using hlt)).2 y H2 yl
    have hsl' : sl = enc xs[i] := by
      rw [List.getElem?_map, List.getElem?_eq_getElem hlt] at hsl
      exact (Option.some.inj hsl).symm
    subst hsl'
    have split : xs = xs.take i ++ xs[i] :: xs.drop (i + 1) := by simp
    obtain ⟨ρ2, hset, hb⟩ := ht (xs.take i) xs[i] (xs.drop (i + 1)) s split iv
    have tk : xs.take i ++ [xs[i]] = xs.take (i + 1) := by simp
    rw [tk] at hb
    refine hb _ H2 G' _ (hset.env hy e2) o2 (hx.stp (t1.trans t2)) ⟨fun σ3 H3 G3 ρ3 r3 t3 e3 o3 k3 => ?_, fun v H3 G3 sl r3 t3 => hd.rt v H3 G3 sl r3 ((t1.trans t2).trans t3) ∘ fun q => q.back (t1.trans t2), fun σ3 H3 G3 ρ3 r3 t3 => hd.nx σ3 H3 G3 ρ3 r3 ((t1.trans t2).trans t3), fun σ3 H3 G3 ρ3 r3 t3 e3 o3 k3 => ?_⟩
    · obtain ⟨s', i', l', rfl⟩ := k3
      exact ⟨by omega, by omega, G3, s', t2.trans t3, l'.env e3, o3, i'⟩
    · obtain ⟨s', i', l', rfl⟩ := k3
      exact ⟨by omega, by omega, G3, s', t2.trans t3, l'.env e3, o3, i'⟩
  · have hi : i = xs.length := by omega
    subst hi
    rw [List.take_length] at iv
    exact .inl ⟨jk.2 (by simp), hd.nx σ' H' G' (ρf s) (rf s) (t1.trans t2) e2 o2 (hend s iv)⟩

/-! ### while -/
theorem ds_while {t : Expr} {body : List Stmt} {P : Post} (S : Type) (ρf : S → List Sl) (rf : S → List Mem) (inv : S → Prop) (μ : S → Nat) (h0 : ∃ s, inv s ∧ Le ρ (ρf s) ∧ rs = rf s)
    (ht : ∀ s, inv s → DT c t (ρf s) (rf s) fun k r => if k = true then DSs c body (ρf s) r ⟨fun ρ' r' => ∃ s', inv s' ∧ μ s' < μ s ∧ Le ρ' (ρf s') ∧ r' = rf s', P.rt, P.nx, fun ρ' r' => ∃ s', inv s' ∧ μ s' < μ s ∧ Le ρ' (ρf s') ∧ r' = rf s'⟩ else P.nx (ρf s) r) :
    DS c (.While t body [] pos) ρ rs P := by
  intro σ H G D he hs hx hd
  refine tS_of (ps_while c.po pt_t pss_t) ?_
  obtain ⟨s0, i0, l0, rfl⟩ := h0
  refine ⟨fun m σ' H' => ∃ G' s, m = μ s ∧ Stp G G' H H' ∧ EnvOk G' H' σ' (ρf s) ∧ sepL (rf s) G' G' H' ∧ inv s, ⟨_, G, s0, rfl, Stp.refl _ _, l0.env he, hs, i0⟩, ?_⟩
  rintro m σ' H' ⟨G', s, rfl, t1, e1, o1, iv⟩
  refine ht s iv σ' H' G' _ e1 o1 (hx.stp t1) fun k H2 G2 r2 t2 o2 k2 => ?_
  cases k with
  | true =>
    refine ⟨fun σ3 H3 => ∃ G3 s', μ s' < μ s ∧ Stp G G3 H H3 ∧ EnvOk G3 H3 σ3 (ρf s') ∧ sepL (rf s') G3 G3 H3 ∧ inv s', fun σ3 H3 ⟨G3, s', lt, t3, e3, o3, i3⟩ => ⟨_, lt, G3, s', rfl, t3, e3, o3, i3⟩, ?_⟩
    refine k2 σ' H2 G2 _ (e1.stp t2) o2 (hx.stp (t1.trans t2)) ⟨fun σ3 H3 G3 ρ3 r3 t3 e3 o3 k3 => ?_, fun v H3 G3 sl r3 t3 => hd.rt v H3 G3 sl r3 ((t1.trans t2).trans t3) ∘ fun q => q.back (t1.trans t2), fun σ3 H3 G3 ρ3 r3 t3 => hd.nx σ3 H3 G3 ρ3 r3 ((t1.trans t2).trans t3), fun σ3 H3 G3 ρ3 r3 t3 e3 o3 k3 => ?_⟩
    · obtain ⟨s', i', lt, l', rfl⟩ := k3
      exact ⟨G3, s', lt, (t1.trans t2).trans t3, l'.env e3, o3, i'⟩
    · obtain ⟨s', i', lt, l', rfl⟩ := k3
      exact ⟨G3, s', lt, (t1.trans t2).trans t3, l'.env e3, o3, i'⟩
  | false => exact hd.nx σ' H2 G2 (ρf s) r2 (t1.trans t2) (e1.stp t2) o2 k2

/-! ### a list of one's own -/
theorem SlOk.stp0 {G G' : Fp} {H H' : Hp} {v : V} {s : Sl} (k : ∀ a o, H a = some o → ¬ G a → H' a = some o) (t : ∀ a, G' a → G a ∨ H a = none) (h : SlOk G H v s) : SlOk G' H' v s := by
  cases s with
  | un => trivial
  | d x => exact Is.stp0 k t h
  | r u => exact h
  | n ds => exact Is.stp0 k t h
theorem SlAll.stp0 {G G' : Fp} {H H' : Hp} (k : ∀ a o, H a = some o → ¬ G a → H' a = some o) (t : ∀ a, G' a → G a ∨ H a = none) : ∀ {vs : List V} {ss : List Sl}, SlAll G H vs ss → SlAll G' H' vs ss
  | [], [], _ => trivial
  | _ :: _, _ :: _, ⟨h, q⟩ => ⟨SlOk.stp0 k t h, q.stp0 k t⟩
  | [], _ :: _, h => h.elim
  | _ :: _, [], h => h.elim
def lstM (p : Addr) (ss : List Sl) : Mem where
  ok F G H := (∀ a, F a ↔ a = p) ∧ ∃ vs, H p = some (.lst vs) ∧ SlAll G H vs ss
  dom := fun ⟨e, vs, h, _⟩ a q => by
    have e2 := (e a).mp q
    subst e2
    exact ⟨_, h⟩
  step := fun ⟨e, vs, h, al⟩ k s => ⟨e, vs, k _ _ h (.inl ((e p).mpr rfl)), al.stp0 (fun a o q n => k a o q (.inr n)) s⟩
/-! ### comprehensions -/
def Ctx.blk (c : Ctx m₀ N₀ sc₀ lv₀ xp₀ fF₀ cm₀) (scope : Scope) (s : Shared) (H : Hp) (C : Addr) (cl : List (Str × Addr)) (fp : List Addr) (hso : ScOk (relS scope sc₀)) : Ctx m₀ N₀ (relS scope sc₀) lv₀ (fun _ _ _ => False) false cm₀ where
  X := c.X.blk s H scope (compEnvC scope cl C c.X.env) fp
  W := fun _ _ _ _ => False
  hm := ⟨c.hm.P, c.hm.w, c.hm.K, c.hm.mg, c.hm.base⟩
  hK := c.hK
  bl := c.bl
  hN := c.hN
  nd := c.nd
  hsc := by
    show relS scope c.X.env.scope = _
    rw [c.hsc]
  sok := hso
  calm := c.calm
  room := c.room
  un := c.un
  fs := fun z => absurd z Bool.false_ne_true
  tk := takes0
  fn := fun z => absurd z Bool.false_ne_true
  po := PassesOwn.never
/-- the block's readings, whatever the block's frame is -/
def tBE (X : Cx) (scope : Scope) (e : Expr) : TE := fun σ H Q => ∀ s H0 C cl fp, tE (X.blk s H0 scope (compEnvC scope cl C X.env) fp) e σ H Q
def tBT (X : Cx) (scope : Scope) (e : Expr) : TT := fun σ H Q => ∀ s H0 C cl fp, tT (X.blk s H0 scope (compEnvC scope cl C X.env) fp) e σ H Q
theorem pe_b {X : Cx} {scope : Scope} {e : Expr} (s H C cl fp) : PE (X.blk s H scope (compEnvC scope cl C X.env) fp) e (tBE X scope e) := ⟨fun pins s1 _ _ _ I h => h s H C cl fp pins s1 I⟩
theorem pt_b {X : Cx} {scope : Scope} {e : Expr} (s H C cl fp) : PT (X.blk s H scope (compEnvC scope cl C X.env) fp) e (tBT X scope e) := ⟨fun pins s1 _ _ _ I h => h s H C cl fp pins s1 I⟩
theorem xok_blk {scope : Scope} {s : Shared} {H0 : Hp} {C : Addr} {cl : List (Str × Addr)} {fp : List Addr} {hso : ScOk (relS scope sc₀)} {G : Fp} {H : Hp} : XOk (c.blk scope s H0 C cl fp hso) G H := fun _ _ _ _ _ _ _ _ _ z => z.elim
theorem set_un {G : Fp} {H : Hp} : ∀ {N ρ x i ρ'} {σ : L2.St}, SetS N ρ x i .un ρ' → EnvOk G H σ ρ → EnvOk G H (σ.set i none) ρ'
  | _, _, _, _, _, o :: σ, .zero, ⟨_, q⟩ => ⟨trivial, q⟩
  | _, _, _, _, _, o :: σ, .succ t, ⟨h, q⟩ => ⟨h, set_un (σ := σ) t q⟩
  | _, _, _, _, _, [], .zero, h => h.elim
  | _, _, _, _, _, [], .succ _, h => h.elim
theorem set_ix : ∀ {N ρ x i s ρ'} {j : Nat}, SetS N ρ x i s ρ' → IxOf N x j → N.Nodup → i = j
  | N, _, x, i, _, _, j, h, q, nd => nd_ix nd h.name q.get
/-- an element of a comprehension -/
def ElD (c : Ctx m₀ N₀ sc₀ lv₀ xp₀ fF₀ cm₀) (scope : Scope) (elt : Expr) (ρ2 : List Sl) (rs : List Mem) (d : PyData) : Prop := ∀ (A : Mem) s0 H0 C0 cl0 fp0 hso, DX (c.blk scope s0 H0 C0 cl0 fp0 hso) elt ρ2 (A :: rs) fun s r => s.plain = .d d ∧ r = A :: rs
def TsD (c : Ctx m₀ N₀ sc₀ lv₀ xp₀ fF₀ cm₀) (scope : Scope) (t : Expr) (ρ2 : List Sl) (rs : List Mem) (b : Bool) : Prop := ∀ (A : Mem) s0 H0 C0 cl0 fp0 hso, DT (c.blk scope s0 H0 C0 cl0 fp0 hso) t ρ2 (A :: rs) fun k r => k = b ∧ r = A :: rs
theorem lc_run {elt : Expr} {tt : TT} {scope : Scope} {j : Nat} {K : Sl → List Mem → Prop} (hso : ScOk (relS scope sc₀)) (hj : IxOf N₀ x j)
    (h : DI c (.Name x p2) it ρ rs fun items keep r => ∃ (α : Type) (xs : List α) (enc : α → Sl) (p : α → Bool) (h : α → PyData), items = xs.map enc ∧ (∀ A : Mem, keep (A :: r)) ∧ xs.length ≤ 100000 ∧
      (∃ ρw, SetS N₀ ρ x j .un ρw ∧ ∀ y ∈ xs, ∃ ρ2, SetS N₀ ρw x j (enc y) ρ2 ∧ (p y = true → ElD c scope elt ρ2 r (h y)) ∧
        ∀ (A : Mem) (σ : L2.St) (H : Hp) (G : Fp) (Q : Bool → Hp → Prop), EnvOk G H σ ρ2 → sepL (A :: r) G G H → (∀ H' G', Stp G G' H H' → sepL (A :: r) G' G' H' → Q (p y) H') → tt σ H Q) ∧
      K (.n ((xs.filter p).map h)) r)
    {σ : L2.St} {H : Hp} {G : Fp} {Q : VK} (he : EnvOk G H σ ρ) (hs : sepL rs G G H) (hx : XOk c G H) (hq : ∀ v H' G' sl rs', Stp G G' H H' → Rs G' H H' v sl → sepL rs' G' G' H' → K sl rs' → Q v H') :
    tLc (tI c.X (.Name x p2) it) (gName j) tt (tBE c.X scope elt) [j] σ H Q := by
  refine h σ H G _ he hs hx fun J H1 G1 items keep r1 t1 o1 jok k1 => ?_
  obtain ⟨α, xs, enc, p, hh, rfl, hk, hlen, ⟨ρw, hw, ht⟩, kend⟩ := k1
  intro D hD
  -- the new list at D is a thing of one's own meanwhile
  have key : ∀ (acc : List V) (G' : Fp) (H' : Hp) (ds : List PyData), H' D = some (.lst acc) → IsAll G' H' acc ds → G' D → sepL (lstM D (ds.map .d) :: r1) G' G' H' → True := fun _ _ _ _ _ _ _ _ => trivial
  have nG1 : ¬ G1 D := o1.fresh hD
  obtain ⟨tj, oj⟩ := sepL.join (A := lstM D []) (H' := upd H1 D (.lst [])) o1 (same_new hD) hD ⟨fun a => Iff.rfl, [], upd_same, trivial⟩
  refine ⟨fun i m H' => m = xs.length - i ∧ i ≤ xs.length ∧ ∃ G', Stp G1 G' H1 H' ∧ sepL (lstM D (((xs.take i).filter p).map (fun y => .d (hh y))) :: r1) G' G' H', ⟨_, rfl, Nat.zero_le _, _, tj, oj⟩, ?_⟩
  rintro i m H' ⟨rfl, hle, G', t2, o2⟩
  have jk := jok G' H' _ t2 o2 (hk _) i
  by_cases hlt : i < xs.length
  · have hgo := jk.1 (by simpa using hlt)
    refine .inr ⟨hgo.1, fun H2 => ∃ G2, Stp G1 G2 H1 H2 ∧ sepL (lstM D (((xs.take (i + 1)).filter p).map (fun y => .d (hh y))) :: r1) G2 G2 H2, fun H2 ⟨G2, a, b⟩ => ⟨_, by omega, rfl, by omega, G2, a, b⟩, fun v H2 yl => ?_⟩
    obtain ⟨rfl, sl, hsl, hy⟩ := hgo.2 v H2 yl
    have hsl' : sl = enc xs[i] := by
      rw [List.getElem?_map, List.getElem?_eq_getElem hlt] at hsl
      exact (Option.some.inj hsl).symm
    subst hsl'
    obtain ⟨ρ2, hset, hel, htt⟩ := ht xs[i] (List.getElem_mem hlt)
    have tk : xs.take (i + 1) = xs.take i ++ [xs[i]] := by simp
    have eEnv : EnvOk G' H2 ((wipe σ [j]).set j (some v)) ρ2 := hset.env hy (set_un hw ((he.stp t1).stp t2))
    refine ⟨?_, ?_⟩
    · show ((σ.set j none).set j (some v)).set j none = σ.set j none
      rw [List.set_set, List.set_set]
    refine htt _ _ H2 G' _ eEnv o2 fun H3 G3 t3 o3 => ?_
    cases hp : p xs[i] with
    | false =>
      show ∃ G2, _
      refine ⟨G3, t2.trans t3, ?_⟩
      rw [tk, List.filter_append, List.filter_cons, if_neg (by rw [hp]; exact Bool.false_ne_true)]
      simpa using o3
    | true =>
      show tBE c.X scope elt _ H3 _
      intro s0 H0 C0 cl0 fp0
      refine hel hp _ s0 H0 C0 cl0 fp0 hso _ H3 G3 _ (eEnv.stp t3) o3 xok_blk fun w H4 G4 s4 r4 t4 h4 o4 k4 => ?_
      obtain ⟨e4, rfl⟩ := k4
      have hw4 : Is G4 H4 w (hh xs[i]) := plain_d e4 h4.ok
      obtain ⟨F1, F2, ⟨eF, acc, hD4, al⟩, oR, dj, eG⟩ := id o4
      have hle4 : acc.length ≤ xs.length := by
        have := al.length
        rw [List.length_map] at this
        have l2 : ((xs.take i).filter p).length ≤ (xs.take i).length := List.length_filter_le _ _
        rw [List.length_take] at l2
        omega
      refine ⟨acc, hD4, Nat.lt_of_le_of_lt (Nat.le_trans hle4 hlen) (by decide), G4, ?_, ?_⟩
      · have t14 := (t2.trans t3).trans t4
        refine ⟨fun a o q n => ?_, t14.sub, fun a o q => ?_⟩
        · rw [upd_ne (ne_of_none q hD)]
          exact t14.keep a o q n
        · by_cases ea : a = D
          · subst ea; exact ⟨_, upd_same⟩
          · rw [upd_ne ea]; exact t14.old a o q
      · have kp : ∀ a o, H4 a = some o → ¬ F1 a → upd H4 D (.lst (acc ++ [w])) a = some o := fun a o q n => by
          rw [upd_ne fun z => n ((eF a).mpr z)]
          exact q
        have gD : G4 D := (eG D).mpr (.inl ((eF D).mpr rfl))
        have kG : ∀ a o, H4 a = some o → ¬ G4 a → upd H4 D (.lst (acc ++ [w])) a = some o := fun a o q n => kp a o q fun z => n ((eG a).mpr (.inl z))
        refine ⟨F1, F2, ⟨eF, acc ++ [w], upd_same, ?_⟩, sepL.step (fun a g => .inl g) oR (fun a o q z => kp a o q fun y => ?_), dj, eG⟩
        · rw [tk, List.filter_append, List.filter_cons, if_pos hp, List.filter_nil, List.map_append]
          exact (al.stp0 kG fun a g => .inl g).append ⟨hw4.stp0 kG fun a g => .inl g, trivial⟩
        · rcases z with z | z
          · exact dj a y z
          · exact z ((eG a).mpr (.inl y))
  · have hi : i = xs.length := by omega
    subst hi
    rw [List.take_length] at o2
    refine .inl ⟨jk.2 (by simp), ?_⟩
    obtain ⟨F1, G2, ⟨eF, acc, hD2, al⟩, dj, t3, o3⟩ := sepL.drop (Pick.zero) o2
    have al2 : SlAll G2 H' acc (((xs.filter p).map hh).map .d) := by
      rw [List.map_map]
      exact al.stp t3
    refine hq _ H' G2 (.n ((xs.filter p).map hh)) r1 ((t1.trans t2).trans t3) ⟨D, acc, rfl, t1.fresh hD, fun g => dj D ((eF D).mpr rfl) g, hD2, al2.is⟩ o3 kend
theorem dx_lc0 {elt : Expr} {scope : Scope} {j : Nat} {K : Sl → List Mem → Prop} (hj : IxOf N₀ x j) (hok : BlkOk N₀ sc₀ scope [(x, j)])
    (h : DI c (.Name x p2) it ρ rs fun items keep r => ∃ (α : Type) (xs : List α) (enc : α → Sl) (h : α → PyData), items = xs.map enc ∧ (∀ A : Mem, keep (A :: r)) ∧ xs.length ≤ 100000 ∧
      (∃ ρw, SetS N₀ ρ x j .un ρw ∧ ∀ y ∈ xs, ∃ ρ2, SetS N₀ ρw x j (enc y) ρ2 ∧ ElD c scope elt ρ2 r (h y)) ∧ K (.n (xs.map h)) r)
    (hso : ScOk (relS scope sc₀) := by decide +kernel) (hcm : cm₀ = true := by rfl) (hl : scope.names.lookup x = some .local := by rfl) (hr : (relS scope sc₀).names.lookup x = some .local := by rfl) (hf : ∀ y, foldedSetIterable it c.X.env y = pure y := by intro _; rfl) : DX c (.ListComp elt [⟨.Name x p2, it, [], 0⟩] scope pos) ρ rs K := by
  intro σ H G Q he hs hx hq
  have nd : c.X.N.Nodup := by rw [c.hN]; exact c.nd
  have hi : c.X.N[j]? = some x := by rw [c.hN]; exact hj.get
  refine tE_of (pe_lc (own := [(x, j)]) (g := gName j) (tt := tYes) (te := tBE c.X scope elt) (c.calm hcm) nd pi_t (by rw [c.hN, c.hsc]; exact hok) (fun s H C cl fp => pg_name nd hi (.inl (by show (relS scope c.X.env.scope).names.lookup x = _; rw [c.hsc]; exact hr)) (.inr (by show (relS scope c.X.env.scope).names.lookup x = _; rw [c.hsc]; exact hr))) (fun _ _ _ _ _ => pts_nil) (fun s H C cl fp => pe_b s H C cl fp) hf) ?_
  refine lc_run (K := K) hso hj ?_ he hs hx hq
  refine fun σ H G R a b d k => h σ H G R a b d fun J H' G' items keep rs' t o jo q => k J H' G' items keep rs' t o jo ?_
  obtain ⟨α, xs, enc, hh, e1, e2, e3, ⟨ρw, w1, w2⟩, e5⟩ := q
  refine ⟨α, xs, enc, fun _ => true, hh, e1, e2, e3, ⟨ρw, w1, fun y hy => ?_⟩, by
    have z : xs.filter (fun _ => true) = xs := List.filter_eq_self.mpr fun _ _ => rfl
    rw [z]; exact e5⟩
  obtain ⟨ρ2, s1, s2⟩ := w2 y hy
  exact ⟨ρ2, s1, fun _ => s2, fun A σ H G Q _ o2 hq => hq H G (Stp.refl _ _) o2⟩
theorem dx_lc1 {elt t : Expr} {scope : Scope} {j : Nat} {K : Sl → List Mem → Prop} (hj : IxOf N₀ x j) (hok : BlkOk N₀ sc₀ scope [(x, j)])
    (h : DI c (.Name x p2) it ρ rs fun items keep r => ∃ (α : Type) (xs : List α) (enc : α → Sl) (p : α → Bool) (h : α → PyData), items = xs.map enc ∧ (∀ A : Mem, keep (A :: r)) ∧ xs.length ≤ 100000 ∧
      (∃ ρw, SetS N₀ ρ x j .un ρw ∧ ∀ y ∈ xs, ∃ ρ2, SetS N₀ ρw x j (enc y) ρ2 ∧ TsD c scope t ρ2 r (p y) ∧ (p y = true → ElD c scope elt ρ2 r (h y))) ∧ K (.n ((xs.filter p).map h)) r)
    (hso : ScOk (relS scope sc₀) := by decide +kernel) (hcm : cm₀ = true := by rfl) (hl : scope.names.lookup x = some .local := by rfl) (hr : (relS scope sc₀).names.lookup x = some .local := by rfl) (hf : ∀ y, foldedSetIterable it c.X.env y = pure y := by intro _; rfl) : DX c (.ListComp elt [⟨.Name x p2, it, [t], 0⟩] scope pos) ρ rs K := by
  intro σ H G Q he hs hx hq
  have nd : c.X.N.Nodup := by rw [c.hN]; exact c.nd
  have hi : c.X.N[j]? = some x := by rw [c.hN]; exact hj.get
  refine tE_of (pe_lc (own := [(x, j)]) (g := gName j) (tt := tBT c.X scope t) (te := tBE c.X scope elt) (c.calm hcm) nd pi_t (by rw [c.hN, c.hsc]; exact hok) (fun s H C cl fp => pg_name nd hi (.inl (by show (relS scope c.X.env.scope).names.lookup x = _; rw [c.hsc]; exact hr)) (.inr (by show (relS scope c.X.env.scope).names.lookup x = _; rw [c.hsc]; exact hr))) (fun s H C cl fp => pts_one (pt_b s H C cl fp)) (fun s H C cl fp => pe_b s H C cl fp) hf) ?_
  refine lc_run (K := K) hso hj ?_ he hs hx hq
  refine fun σ H G R a b d k => h σ H G R a b d fun J H' G' items keep rs' t o jo q => k J H' G' items keep rs' t o jo ?_
  obtain ⟨α, xs, enc, p, hh, e1, e2, e3, ⟨ρw, w1, w2⟩, e5⟩ := q
  refine ⟨α, xs, enc, p, hh, e1, e2, e3, ⟨ρw, w1, fun y hy => ?_⟩, e5⟩
  obtain ⟨ρ2, s1, s2, s3⟩ := w2 y hy
  refine ⟨ρ2, s1, s3, fun A σ H G Q ee o2 hq => ?_⟩
  intro s0 H0 C0 cl0 fp0
  refine s2 A s0 H0 C0 cl0 fp0 hso σ H G _ ee o2 xok_blk fun k H1 G1 r1 t1 o1 k1 => ?_
  obtain ⟨rfl, rfl⟩ := k1
  exact hq H1 G1 t1 o1
/-- y = [..] -/
theorem ds_lc0 {P : Post} {y : Str} {py : Pos} {i : Nat} {elt : Expr} {scope : Scope} {j : Nat} (hiy : IxOf N₀ y i) (hj : IxOf N₀ x j) (hok : BlkOk N₀ sc₀ scope [(x, j)])
    (h : DI c (.Name x p2) it ρ rs fun items keep r => ∃ (α : Type) (xs : List α) (enc : α → Sl) (h : α → PyData), items = xs.map enc ∧ (∀ A : Mem, keep (A :: r)) ∧ xs.length ≤ 100000 ∧
      (∃ ρw, SetS N₀ ρ x j .un ρw ∧ ∀ y ∈ xs, ∃ ρ2, SetS N₀ ρw x j (enc y) ρ2 ∧ ElD c scope elt ρ2 r (h y)) ∧ ∃ ρ', SetS N₀ ρ y i (.d (.list (xs.map h))) ρ' ∧ P.nx ρ' r)
    (hso : ScOk (relS scope sc₀) := by decide +kernel) (hcm : cm₀ = true := by rfl) (hl : scope.names.lookup x = some .local := by rfl) (hr : (relS scope sc₀).names.lookup x = some .local := by rfl) (hyl : sc₀.names.lookup y = some .local := by rfl) (hkd : sc₀.kind = .function := by rfl) (hln : (py.line == pos.line) = true := by rfl) (hny : (scope.names.any fun (n, k) => n == y && (k == .local || k == .cell)) = false := by first | rfl | decide +kernel)
    (hf : ∀ y, foldedSetIterable it c.X.env y = pure y := by intro _; rfl) : DS c (.Assign [.Name y py] (.ListComp elt [⟨.Name x p2, it, [], 0⟩] scope pos) pos') ρ rs P := by
  intro σ H G D he hs hx hd
  have nd : c.X.N.Nodup := by rw [c.hN]; exact c.nd
  have hi : c.X.N[j]? = some x := by rw [c.hN]; exact hj.get
  have hyi : c.X.N[i]? = some y := by rw [c.hN]; exact hiy.get
  refine tS_of (ps_setLc (own := [(x, j)]) (g := gName j) (tt := tYes) (te := tBE c.X scope elt) (c.calm hcm) nd hyi (by rw [c.hsc]; exact hyl) (sw_true (by rw [c.hsc]; exact hkd) (by rw [c.hsc]; exact hyl) hln hny) pi_t (by rw [c.hN, c.hsc]; exact hok) (fun s H C cl fp => pg_name nd hi (.inl (by show (relS scope c.X.env.scope).names.lookup x = _; rw [c.hsc]; exact hr)) (.inr (by show (relS scope c.X.env.scope).names.lookup x = _; rw [c.hsc]; exact hr))) (fun _ _ _ _ _ => pts_nil) (fun s H C cl fp => pe_b s H C cl fp) hf) ?_
  refine lc_run (K := fun s r => ∃ ρ', SetS N₀ ρ y i s.plain ρ' ∧ P.nx ρ' r) (Q := fun v H' => D.nx (σ.set i (some v)) H') hso hj ?_ he hs hx fun v H' G' sl r' t q o ⟨ρ', z, k⟩ => hd.nx _ H' G' ρ' r' t (z.env q.ok.plain (he.stp t)) o k
  refine fun σ H G R a b d k => h σ H G R a b d fun J H' G' items keep rs' t o jo q => k J H' G' items keep rs' t o jo ?_
  obtain ⟨α, xs, enc, hh, e1, e2, e3, ⟨ρw, w1, w2⟩, e5⟩ := q
  refine ⟨α, xs, enc, fun _ => true, hh, e1, e2, e3, ⟨ρw, w1, fun y hy => ?_⟩, by
    have z : xs.filter (fun _ => true) = xs := List.filter_eq_self.mpr fun _ _ => rfl
    rw [z]; exact e5⟩
  obtain ⟨ρ2, s1, s2⟩ := w2 y hy
  exact ⟨ρ2, s1, fun _ => s2, fun A σ H G Q _ o2 hq => hq H G (Stp.refl _ _) o2⟩
/-- y = [..] -/
theorem ds_lc1 {P : Post} {y : Str} {py : Pos} {i : Nat} {elt t : Expr} {scope : Scope} {j : Nat} (hiy : IxOf N₀ y i) (hj : IxOf N₀ x j) (hok : BlkOk N₀ sc₀ scope [(x, j)])
    (h : DI c (.Name x p2) it ρ rs fun items keep r => ∃ (α : Type) (xs : List α) (enc : α → Sl) (p : α → Bool) (h : α → PyData), items = xs.map enc ∧ (∀ A : Mem, keep (A :: r)) ∧ xs.length ≤ 100000 ∧
      (∃ ρw, SetS N₀ ρ x j .un ρw ∧ ∀ y ∈ xs, ∃ ρ2, SetS N₀ ρw x j (enc y) ρ2 ∧ TsD c scope t ρ2 r (p y) ∧ (p y = true → ElD c scope elt ρ2 r (h y))) ∧ ∃ ρ', SetS N₀ ρ y i (.d (.list ((xs.filter p).map h))) ρ' ∧ P.nx ρ' r)
    (hso : ScOk (relS scope sc₀) := by decide +kernel) (hcm : cm₀ = true := by rfl) (hl : scope.names.lookup x = some .local := by rfl) (hr : (relS scope sc₀).names.lookup x = some .local := by rfl) (hyl : sc₀.names.lookup y = some .local := by rfl) (hkd : sc₀.kind = .function := by rfl) (hln : (py.line == pos.line) = true := by rfl) (hny : (scope.names.any fun (n, k) => n == y && (k == .local || k == .cell)) = false := by first | rfl | decide +kernel)
    (hf : ∀ y, foldedSetIterable it c.X.env y = pure y := by intro _; rfl) : DS c (.Assign [.Name y py] (.ListComp elt [⟨.Name x p2, it, [t], 0⟩] scope pos) pos') ρ rs P := by
  intro σ H G D he hs hx hd
  have nd : c.X.N.Nodup := by rw [c.hN]; exact c.nd
  have hi : c.X.N[j]? = some x := by rw [c.hN]; exact hj.get
  have hyi : c.X.N[i]? = some y := by rw [c.hN]; exact hiy.get
  refine tS_of (ps_setLc (own := [(x, j)]) (g := gName j) (tt := tBT c.X scope t) (te := tBE c.X scope elt) (c.calm hcm) nd hyi (by rw [c.hsc]; exact hyl) (sw_true (by rw [c.hsc]; exact hkd) (by rw [c.hsc]; exact hyl) hln hny) pi_t (by rw [c.hN, c.hsc]; exact hok) (fun s H C cl fp => pg_name nd hi (.inl (by show (relS scope c.X.env.scope).names.lookup x = _; rw [c.hsc]; exact hr)) (.inr (by show (relS scope c.X.env.scope).names.lookup x = _; rw [c.hsc]; exact hr))) (fun s H C cl fp => pts_one (pt_b s H C cl fp)) (fun s H C cl fp => pe_b s H C cl fp) hf) ?_
  refine lc_run (K := fun s r => ∃ ρ', SetS N₀ ρ y i s.plain ρ' ∧ P.nx ρ' r) (Q := fun v H' => D.nx (σ.set i (some v)) H') hso hj ?_ he hs hx fun v H' G' sl r' t q o ⟨ρ', z, k⟩ => hd.nx _ H' G' ρ' r' t (z.env q.ok.plain (he.stp t)) o k
  refine fun σ H G R a b d k => h σ H G R a b d fun J H' G' items keep rs' t o jo q => k J H' G' items keep rs' t o jo ?_
  obtain ⟨α, xs, enc, p, hh, e1, e2, e3, ⟨ρw, w1, w2⟩, e5⟩ := q
  refine ⟨α, xs, enc, p, hh, e1, e2, e3, ⟨ρw, w1, fun y hy => ?_⟩, e5⟩
  obtain ⟨ρ2, s1, s2, s3⟩ := w2 y hy
  refine ⟨ρ2, s1, s3, fun A σ H G Q ee o2 hq => ?_⟩
  intro s0 H0 C0 cl0 fp0
  refine s2 A s0 H0 C0 cl0 fp0 hso σ H G _ ee o2 xok_blk fun k H1 G1 r1 t1 o1 k1 => ?_
  obtain ⟨rfl, rfl⟩ := k1
  exact hq H1 G1 t1 o1
end
end PW

set_option maxHeartbeats 1000000
/-! Calls: built-ins, defs by their contracts. -/
namespace PW
open PySem L2
variable [KC]
variable {m₀ : Mo} {N₀ : List Str} {sc₀ : Scope} {lv₀ : Nat} {xp₀ : Addr → List Sl → List Mem → Prop} {fF₀ cm₀ : Bool}

section
variable {c : Ctx m₀ N₀ sc₀ lv₀ xp₀ fF₀ cm₀} {e a b : Expr} {es : List Expr} {ρ ρ' : List Sl} {rs : List Mem} {K : Sl → List Mem → Prop} {x : Str} {pos pos' p2 : Pos} {s : Sl} {ds : List PyData} {d : PyData}
theorem c_gl (hg : KdIn sc₀.names x .globalImplicit) : Gl c.X x := by
  show c.X.env.kindOf x = _
  unfold Env.kindOf
  rw [c.hsc]; exact c.look hg
theorem dx_callB {id : String} {r : List V → Hp → VK → Prop} (hc : CallR c.X (.builtin id) r) (hm : m₀.mg x = none) (hv : bootBuiltins x = some (.builtin id)) (h : DA c (e :: es) ρ rs fun ss r1 => CaD r ss r1 K) (hg : KdIn sc₀.names x .globalImplicit := by first | ((with_reducible (repeat (first | exact KdIn.zero | apply KdIn.succ))); (first | (all_goals fail) | fail)) | exact kd_of rfl)
     (he : starEach (e :: es) c.X.env = (false, eval e c.X.env) :: starEach es c.X.env := by rfl) (hpl : (backTo pos (starEach es c.X.env)).any (·.1) = false := by rfl) :
    DX c (.Call (.Name x p2) (e :: es) [] pos) ρ rs K := by
  intro σ H G Q hE hs hx hq
  refine tE_of (pe_callB hc (c_gl hg) (by rw [c.hm.mg]; exact hm) hv pa_t (c.nd3 hg) (c.nd1 hg) he hpl) ?_
  refine h σ H G _ hE hs hx fun vs H1 G1 ss r1 t1 h1 o1 k1 => ?_
  exact k1 G1 H1 vs Q h1 o1 fun v H' G' sl rs' t2 h2 o2 k2 => hq v H' G' sl rs' (t1.trans t2) (h2.back t1) o2 k2
theorem dx_callTy {T : String} {r : List V → Hp → VK → Prop} (hc : CallR c.X (.type T) r) (hm : m₀.mg x = none) (hv : bootBuiltins x = some (.type T)) (h : DA c (e :: es) ρ rs fun ss r1 => CaD r ss r1 K) (hg : KdIn sc₀.names x .globalImplicit := by first | ((with_reducible (repeat (first | exact KdIn.zero | apply KdIn.succ))); (first | (all_goals fail) | fail)) | exact kd_of rfl)
     (he : starEach (e :: es) c.X.env = (false, eval e c.X.env) :: starEach es c.X.env := by rfl) (hpl : (backTo pos (starEach es c.X.env)).any (·.1) = false := by rfl) :
    DX c (.Call (.Name x p2) (e :: es) [] pos) ρ rs K := by
  intro σ H G Q hE hs hx hq
  refine tE_of (pe_callTy hc (c_gl hg) (by rw [c.hm.mg]; exact hm) hv pa_t (c.nd3 hg) (c.nd1 hg) he hpl) ?_
  refine h σ H G _ hE hs hx fun vs H1 G1 ss r1 t1 h1 o1 k1 => ?_
  exact k1 G1 H1 vs Q h1 o1 fun v H' G' sl rs' t2 h2 o2 k2 => hq v H' G' sl rs' (t1.trans t2) (h2.back t1) o2 k2
/-- a built-in class by its name, not called -/
theorem dx_ty {T : String} (hm : m₀.mg x = none) (hv : bootBuiltins x = some (.type T)) (k : K (.r (.ty T)) rs) (hg : KdIn sc₀.names x .globalImplicit := by first | ((with_reducible (repeat (first | exact KdIn.zero | apply KdIn.succ))); (first | (all_goals fail) | fail)) | exact kd_of rfl)  : DX c (.Name x pos) ρ rs K := by
  intro σ H G Q hE hs hx hq
  refine tE_of (pe_bltn (v := .ty T) (c_gl hg) (by rw [c.hm.mg]; exact hm) hv rfl (c.nd3 hg) (c.nd1 hg)) ?_
  exact hq (.ty T) H G (.r (.ty T)) rs (Stp.refl _ _) rfl hs k
theorem b_len : bootBuiltins ("len" : Str) = some (.builtin "len") := by decide +kernel
theorem b_isi : bootBuiltins ("isinstance" : Str) = some (.builtin "isinstance") := by decide +kernel
theorem b_min : bootBuiltins ("min" : Str) = some (.builtin "min") := by decide +kernel
theorem b_max : bootBuiltins ("max" : Str) = some (.builtin "max") := by decide +kernel
theorem b_sorted : bootBuiltins ("sorted" : Str) = some (.builtin "sorted") := by decide +kernel
theorem b_int : bootBuiltins ("int" : Str) = some (.type "int") := by decide +kernel
theorem b_bool : bootBuiltins ("bool" : Str) = some (.type "bool") := by decide +kernel
theorem b_str : bootBuiltins ("str" : Str) = some (.type "str") := by decide +kernel
theorem b_list : bootBuiltins ("list" : Str) = some (.type "list") := by decide +kernel
theorem b_tuple : bootBuiltins ("tuple" : Str) = some (.type "tuple") := by decide +kernel
theorem b_dict : bootBuiltins ("dict" : Str) = some (.type "dict") := by decide +kernel
theorem b_VE : bootBuiltins ("ValueError" : Str) = some (.type "ValueError") := by decide +kernel
theorem dx_tint (k : K (.r (.ty "int")) rs) (hg : KdIn sc₀.names ("int" : Str) .globalImplicit := by first | ((with_reducible (repeat (first | exact KdIn.zero | apply KdIn.succ))); (first | (all_goals fail) | fail)) | exact kd_of rfl) : DX c (.Name "int" pos) ρ rs K := dx_ty c.bl.int b_int k hg
theorem dx_tbool (k : K (.r (.ty "bool")) rs) (hg : KdIn sc₀.names ("bool" : Str) .globalImplicit := by first | ((with_reducible (repeat (first | exact KdIn.zero | apply KdIn.succ))); (first | (all_goals fail) | fail)) | exact kd_of rfl) : DX c (.Name "bool" pos) ρ rs K := dx_ty c.bl.bool b_bool k hg
theorem dx_tstr (k : K (.r (.ty "str")) rs) (hg : KdIn sc₀.names ("str" : Str) .globalImplicit := by first | ((with_reducible (repeat (first | exact KdIn.zero | apply KdIn.succ))); (first | (all_goals fail) | fail)) | exact kd_of rfl) : DX c (.Name "str" pos) ρ rs K := dx_ty c.bl.str b_str k hg
theorem dx_tlist (k : K (.r (.ty "list")) rs) (hg : KdIn sc₀.names ("list" : Str) .globalImplicit := by first | ((with_reducible (repeat (first | exact KdIn.zero | apply KdIn.succ))); (first | (all_goals fail) | fail)) | exact kd_of rfl) : DX c (.Name "list" pos) ρ rs K := dx_ty c.bl.list b_list k hg
theorem dx_ttuple (k : K (.r (.ty "tuple")) rs) (hg : KdIn sc₀.names ("tuple" : Str) .globalImplicit := by first | ((with_reducible (repeat (first | exact KdIn.zero | apply KdIn.succ))); (first | (all_goals fail) | fail)) | exact kd_of rfl) : DX c (.Name "tuple" pos) ρ rs K := dx_ty c.bl.tuple b_tuple k hg
/-! ### len -/
def LenD (s : Sl) (rs : List Mem) (K : Sl → List Mem → Prop) : Prop := CaD (fun xs H Q => ∃ x n, xs = [x] ∧ LenV KC.K x H n ∧ Q (.int n) H) [s] rs K
theorem ld_seq (h : s.asSeq = some ds) (k : K (.d (.int ds.length)) rs) : LenD s rs K := fun G H vs Q hv hs hq => by
  match vs, hv with
  | [v], hv =>
    obtain ⟨p, ws, rfl, r, al⟩ := hv.1.seq h
    refine ⟨.ref p, ds.length, rfl, ?_, give0 hs hq (sl := .d (.int ds.length)) (Is.int _) k⟩
    rcases r with r | r
    · exact .inl ⟨ws, r.sq, al.length.symm⟩
    · exact .inr ⟨ws, .inl r, al.length.symm⟩
theorem ld_str {z : Str} (hz : z.length ≤ 100000) (k : K (.d (.int z.length)) rs) : LenD (.d (.str z)) rs K := fun G H vs Q hv hs hq => by
  match vs, hv with
  | [v], hv =>
    refine ⟨v, z.length, rfl, ?_, give0 hs hq (sl := .d (.int z.length)) (Is.int _) k⟩
    rw [hv.1.str]
    exact ⟨Nat.le_trans hz (by decide), rfl⟩
theorem dx_len (h : DX c a ρ rs fun s r1 => LenD s.plain r1 K) (hg : KdIn sc₀.names ("len" : Str) .globalImplicit := by first | ((with_reducible (repeat (first | exact KdIn.zero | apply KdIn.succ))); (first | (all_goals fail) | fail)) | exact kd_of rfl) (he : starEach [a] c.X.env = (false, eval a c.X.env) :: starEach [] c.X.env := by rfl) : DX c (.Call (.Name "len" p2) [a] [] pos) ρ rs K :=
  dx_callB (c.ck ▸ call_len) c.bl.len b_len (da_cons (fun σ H G Q a1 a2 a3 a4 => h σ H G Q a1 a2 a3 fun v H' G' sl rs' t r o k => a4 v H' G' sl rs' t r o (da_nil k)) he) hg (he := he) (hpl := rfl)
/-! ### isinstance -/
def tyD : PyData → String
  | .none => "NoneType" | .bool _ => "bool" | .int _ => "int" | .str _ => "str" | .list _ => "list" | .tuple _ => "tuple" | .dict _ => "dict"
def isD (T : String) : PyData → Bool
  | .none => false
  | .bool _ => T == "bool" || T == "int"
  | .int _ => T == "int"
  | .str _ => T == "str"
  | .list _ => T == "list"
  | .tuple _ => T == "tuple"
  | .dict _ => T == "dict"
theorem tyx {G : Fp} {H : Hp} {v : V} (h : Is G H v d) : TyX KC.K H v (.type (tyD d)) := by
  cases h with
  | non => exact .base .non
  | bl b => exact .base (.bl b)
  | int b => exact .base (.int b)
  | str b => exact .base (.str b)
  | lst r _ =>
    rcases r with ⟨r | ⟨o, r⟩, _⟩ | ⟨o, its, n, h1, h2, _⟩
    · exact .base (.lst r)
    · exact .base (.frz r)
    · exact .kList h1 h2
  | tup r _ _ =>
    rcases r with r | ⟨o, r⟩
    · exact .base (.tup r)
    · exact .fTuple r
theorem kits : ∀ T ∈ ["int", "bool", "str", "list", "tuple"], ∀ a ∈ ["NoneType", "bool", "int", "str", "list", "tuple"], kitB a T = some ((a == "bool" && (T == "bool" || T == "int")) || (a != "bool" && a == T)) := by decide +kernel
theorem kit_d {T : String} (hT : T ∈ ["int", "bool", "str", "list", "tuple"]) (hd : ∀ kvs, d ≠ .dict kvs) : kitB (tyD d) T = some (isD T d) := by
  have q := kits T hT (tyD d) (by cases d with
    | dict kvs => exact absurd rfl (hd kvs)
    | _ => simp [tyD])
  rw [q]
  simp only [List.mem_cons, List.not_mem_nil, or_false] at hT
  cases d with
  | dict kvs => exact absurd rfl (hd kvs)
  | _ => rcases hT with rfl | rfl | rfl | rfl | rfl <;> rfl
theorem is_nodict {G : Fp} {H : Hp} {v : V} (h : Is G H v d) : ∀ kvs, d ≠ .dict kvs := by
  intro kvs e; subst e; cases h
theorem cd_isi {T : String} (hT : T ∈ ["int", "bool", "str", "list", "tuple"]) (h : s.plain = .d d) (k : K (.d (.bool (isD T d))) rs) : CaD (rIsi KC.K) [s, .r (.ty T)] rs K := fun G H vs Q hv hs hq => by
  match vs, hv with
  | [v, w], hv =>
    have hI := plain_d h hv.1
    have hw : w = .ty T := hv.2.1
    subst hw
    exact ⟨v, .ty T, .type (tyD d), .type T, _, rfl, .ty T, tyx hI, kit_ty (kit_d hT (is_nodict hI)), give0 hs hq (sl := .d (.bool (isD T d))) (Is.bl _) k⟩
theorem dx_isi (h : DA c [a, b] ρ rs fun ss r1 => CaD (rIsi KC.K) ss r1 K) (hg : KdIn sc₀.names ("isinstance" : Str) .globalImplicit := by first | ((with_reducible (repeat (first | exact KdIn.zero | apply KdIn.succ))); (first | (all_goals fail) | fail)) | exact kd_of rfl) (he : starEach (a :: [b]) c.X.env = (false, eval a c.X.env) :: starEach [b] c.X.env := by rfl)
    (hpl : (backTo pos (starEach [b] c.X.env)).any (·.1) = false := by rfl) : DX c (.Call (.Name "isinstance" p2) [a, b] [] pos) ρ rs K := dx_callB (c.ck ▸ call_isi) c.bl.isinstance b_isi h hg (he := he) (hpl := hpl)
/-! ### list(xs), min, max -/
theorem cd_list (h : s.asSeq = some ds) (k : K (.n ds) rs) : CaD (fun xs H Q => ∃ p ys, xs = [.ref p] ∧ (SqL KC.K H p ys ∨ SqT KC.K H p ys) ∧ ∀ l, H l = none → Q (.ref l) (upd H l (.lst ys))) [s] rs K := fun G H vs Q hv hs hq => by
  match vs, hv with
  | [v], hv =>
    obtain ⟨p, ws, rfl, r, al⟩ := hv.1.seq h
    refine ⟨p, ws, rfl, r.imp LsAt.sq .inl, fun l hl => ?_⟩
    exact give hs hq (sl := .n ds) (same_new hl) ⟨l, ws, rfl, hl, hs.fresh hl, upd_same, al.stp (stp_new hl)⟩ k
theorem dx_list (h : DX c a ρ rs fun s r1 => ∃ ds, s.plain.asSeq = some ds ∧ K (.n ds) r1) (hg : KdIn sc₀.names ("list" : Str) .globalImplicit := by first | ((with_reducible (repeat (first | exact KdIn.zero | apply KdIn.succ))); (first | (all_goals fail) | fail)) | exact kd_of rfl) (he : starEach [a] c.X.env = (false, eval a c.X.env) :: starEach [] c.X.env := by rfl) :
    DX c (.Call (.Name "list" p2) [a] [] pos) ρ rs K :=
  dx_callTy (c.ck ▸ call_list_of) c.bl.list b_list (da_cons (fun σ H G Q a1 a2 a3 a4 => h σ H G Q a1 a2 a3 fun v H' G' sl rs' t r o ⟨ds, e, k⟩ => a4 v H' G' sl rs' t r o (da_nil (cd_list e k))) he) hg (he := he) (hpl := rfl)
theorem cd_min {i j : Int} (k : K (.d (.int (if j < i then j else i))) rs) : CaD (fun xs H Q => ∃ i j, xs = [.int i, .int j] ∧ Q (.int (if j < i then j else i)) H) [.d (.int i), .d (.int j)] rs K := fun G H vs Q hv hs hq => by
  match vs, hv with
  | [v, w], hv => exact ⟨i, j, by rw [hv.1.int, hv.2.1.int], give0 hs hq (sl := .d (.int _)) (Is.int _) k⟩
theorem cd_max {i j : Int} (k : K (.d (.int (if j > i then j else i))) rs) : CaD (fun xs H Q => ∃ i j, xs = [.int i, .int j] ∧ Q (.int (if j > i then j else i)) H) [.d (.int i), .d (.int j)] rs K := fun G H vs Q hv hs hq => by
  match vs, hv with
  | [v, w], hv => exact ⟨i, j, by rw [hv.1.int, hv.2.1.int], give0 hs hq (sl := .d (.int _)) (Is.int _) k⟩
theorem dx_min (h : DA c [a, b] ρ rs fun ss r1 => CaD (fun xs H Q => ∃ i j, xs = [.int i, .int j] ∧ Q (.int (if j < i then j else i)) H) ss r1 K) (hg : KdIn sc₀.names ("min" : Str) .globalImplicit := by first | ((with_reducible (repeat (first | exact KdIn.zero | apply KdIn.succ))); (first | (all_goals fail) | fail)) | exact kd_of rfl)
    (hcm : cm₀ = true := by rfl) (he : starEach (a :: [b]) c.X.env = (false, eval a c.X.env) :: starEach [b] c.X.env := by rfl) (hpl : (backTo pos (starEach [b] c.X.env)).any (·.1) = false := by rfl) : DX c (.Call (.Name "min" p2) [a, b] [] pos) ρ rs K := dx_callB (call_min2 (c.calm hcm)) c.bl.min b_min h hg (he := he) (hpl := hpl)
theorem dx_max (h : DA c [a, b] ρ rs fun ss r1 => CaD (fun xs H Q => ∃ i j, xs = [.int i, .int j] ∧ Q (.int (if j > i then j else i)) H) ss r1 K) (hg : KdIn sc₀.names ("max" : Str) .globalImplicit := by first | ((with_reducible (repeat (first | exact KdIn.zero | apply KdIn.succ))); (first | (all_goals fail) | fail)) | exact kd_of rfl)
    (hcm : cm₀ = true := by rfl) (he : starEach (a :: [b]) c.X.env = (false, eval a c.X.env) :: starEach [b] c.X.env := by rfl) (hpl : (backTo pos (starEach [b] c.X.env)).any (·.1) = false := by rfl) : DX c (.Call (.Name "max" p2) [a, b] [] pos) ρ rs K := dx_callB (call_max2 (c.calm hcm)) c.bl.max b_max h hg (he := he) (hpl := hpl)
end

/-! ### contracts -/
/-- from the arguments and the things handed over: what comes back with what things, or which class is raised with what things -/
abbrev Cn := List Sl → List Mem → (Sl → List Mem → Prop) → (Addr → List Mem → Prop) → Prop
def spC (C : Cn) : Sp := fun vs H Q E => ∃ (ss : List Sl) (fr : Mem) (rin : List Mem) (G : Fp) (res : Sl → List Mem → Prop) (exc : Addr → List Mem → Prop), SlAll G H vs ss ∧ sepL (rin ++ [fr]) G G H ∧ C ss rin res exc ∧
  (∀ v H' G' sl rs', Stp G G' H H' → Rs G' H H' v sl → sepL (rs' ++ [fr]) G' G' H' → res sl rs' → Q v H') ∧ (∀ D H' G' rs', Stp G G' H H' → sepL (rs' ++ [fr]) G' G' H' → exc D rs' → E (.ref D) none H')
/-- the def named x of the module keeps C, with room k -/
structure FnIs (m : Mo) (x : Str) (k : Nat) (C : Cn) : Prop where
  ex : ∃ f fd ps, FnOk m.P m.w m.K m.mg m.base (L2.CX m.P m.w) k f fd ps (spC C) ∧ m.mg x = some (.ref f) ∧ PySem.W.keepIn m.K (.ref f) = true ∧ Binds m.K fd ps []
/-- the method x of the class at D -/
structure MtIs (m : Mo) (D : Addr) (x : Str) (k : Nat) (C : Cn) : Prop where
  ex : ∃ f fd ps, FnOk m.P m.w m.K m.mg m.base (L2.CX m.P m.w) k f fd ps (spC C) ∧ Meth m.K D x f ∧ Binds m.K fd ps []
theorem sepM_app {H : Hp} {G F : Fp} {xs ys : List Mem} : sepL (xs ++ [sepM ys]) F G H ↔ sepL (xs ++ ys) F G H := by
  constructor
  · intro h
    obtain ⟨F1, F2, h1, ⟨F3, F4, h3, h4, d4, e4⟩, d, e⟩ := sepL.app.mp h
    refine sepL.app.mpr ⟨F1, F3, h1, h3, fun a z y => d a z ((e4 a).mpr (.inl y)), fun a => ?_⟩
    rw [e a, e4 a]
    exact ⟨fun z => z.imp id fun z => z.elim id fun z => absurd z (h4 a), fun z => z.imp id .inl⟩
  · intro h
    obtain ⟨F1, F2, h1, h2, d, e⟩ := sepL.app.mp h
    exact sepL.app.mpr ⟨F1, F2, h1, ⟨F2, fun _ => False, h2, fun _ z => z, fun _ _ z => z, fun a => ⟨.inl, fun z => z.elim id False.elim⟩⟩, d, e⟩
section
variable {c : Ctx m₀ N₀ sc₀ lv₀ xp₀ fF₀ cm₀} {e a b : Expr} {es : List Expr} {ρ ρ' : List Sl} {rs : List Mem} {K : Sl → List Mem → Prop} {x : Str} {pos pos' p2 apos : Pos} {k : Nat} {C : Cn}
theorem fn_at {m : Mo} {X : Cx} (h : m.Of X) {f : Addr} {fd : FuncData} {ps : List Str} {sp : Sp} (F : FnOk m.P m.w m.K m.mg m.base (L2.CX m.P m.w) k f fd ps sp) : FnOk X.prog X.w X.K X.mg X.base (L2.CX X.prog X.w) k f fd ps sp := by
  obtain ⟨P, w, K, mg, base⟩ := m
  obtain ⟨h1, h2, h3, h4, h5⟩ := h
  dsimp only at h1 h2 h3 h4 h5 F
  subst h1 h2 h3 h4 h5
  exact F
/-- how a call ends, by the contract -/
def CallEnd (c : Ctx m₀ N₀ sc₀ lv₀ xp₀ fF₀ cm₀) (C : Cn) (ss : List Sl) (ρ : List Sl) (r1 : List Mem) (K : Sl → List Mem → Prop) : Prop :=
  ∀ (σ : L2.St) (H : Hp) (G : Fp) (vs : List V) (Q : VK), EnvOk G H σ ρ → sepL r1 G G H → XOk c G H → SlAll G H vs ss →
    (∀ v H' G' sl rs', Stp G G' H H' → Rs G' H H' v sl → sepL rs' G' G' H' → K sl rs' → Q v H') → spC C vs H Q (WE c.W σ)
theorem CallEnd.run {ss : List Sl} {r1 : List Mem} (h : CallEnd c C ss ρ r1 K) {σ : L2.St} {H : Hp} {G : Fp} {vs : List V} {Q : VK} (he : EnvOk G H σ ρ) (hs : sepL r1 G G H) (hx : XOk c G H) (hv : SlAll G H vs ss)
    (hq : ∀ v H' G' sl rs', Stp G G' H H' → Rs G' H H' v sl → sepL rs' G' G' H' → K sl rs' → Q v H') : spC C vs H Q (WE c.W σ) := h σ H G vs Q he hs hx hv hq
theorem dx_call (F : FnIs m₀ x k C) (h : DA c (e :: es) ρ rs fun ss r1 => CallEnd c C ss ρ r1 K) (hcm : cm₀ = true := by rfl) (hk : k ≤ lv₀ := by decide) (hg : KdIn sc₀.names x .globalImplicit := by first | ((with_reducible (repeat (first | exact KdIn.zero | apply KdIn.succ))); (first | (all_goals fail) | fail)) | exact kd_of rfl)
    (he : starEach (e :: es) c.X.env = (false, eval e c.X.env) :: starEach es c.X.env := by rfl) (hpl : (backTo pos (starEach es c.X.env)).any (·.1) = false := by rfl) : DX c (.Call (.Name x p2) (e :: es) [] pos) ρ rs K := by
  intro σ H G Q hE hs hx hq
  obtain ⟨f, fd, ps, F, h1, h2, h3⟩ := F.ex
  refine tE_of (pe_callS (fn_at c.hm F) ((c.room hcm).mono hk) (c_gl hg) (by rw [c.hm.mg]; exact h1) (by rw [c.hm.K]; exact h2) (by rw [c.hm.K]; exact h3) (fun σ => passAt c.tk σ) pa_t (c.nd1 hg) he hpl) ?_
  refine h σ H G _ hE hs hx fun vs H1 G1 ss r1 t1 q1 o1 k1 => ?_
  exact k1.run (hE.stp t1) o1 (hx.stp t1) q1 fun v H' G' sl rs' t2 h2 o2 k2 => hq v H' G' sl rs' (t1.trans t2) (h2.back t1) o2 k2
/-- without arguments: nothing is raised -/
theorem dx_call0 (F : FnIs m₀ x k C) (h : C [] [] (fun s r2 => K s (r2 ++ rs)) (fun _ _ => False)) (hcm : cm₀ = true := by rfl) (hk : k ≤ lv₀ := by decide) (hg : KdIn sc₀.names x .globalImplicit := by first | ((with_reducible (repeat (first | exact KdIn.zero | apply KdIn.succ))); (first | (all_goals fail) | fail)) | exact kd_of rfl) : DX c (.Call (.Name x p2) [] [] pos) ρ rs K := by
  intro σ H G Q hE hs hx hq
  obtain ⟨f, fd, ps, F, h1, h2, h3⟩ := F.ex
  refine tE_of (pe_call0 (fn_at c.hm F) ((c.room hcm).mono hk) (c_gl hg) (by rw [c.hm.mg]; exact h1) (by rw [c.hm.K]; exact h2) (by rw [c.hm.K]; exact h3) .nil passL (c.nd1 hg)) ?_
  refine ⟨[], sepM rs, [], G, _, _, trivial, sepM_app.mpr hs, h, fun v H' G' sl rs' t r o k => hq v H' G' sl _ t r (sepM_app.mp o) k, fun D H' G' rs' t o k => k⟩
end
/-! ### a def of the text keeps its contract -/
theorem env_start {G : Fp} {H : Hp} : ∀ {vs : List V} {ss : List Sl} (n : Nat), SlAll G H vs ss → EnvOk G H (vs.map some ++ List.replicate n none) (ss ++ List.replicate n .un)
  | [], [], 0, _ => trivial
  | [], [], n + 1, _ => ⟨trivial, env_start (vs := []) (ss := []) n trivial⟩
  | v :: vs, s :: ss, n, ⟨h, q⟩ => by
    refine ⟨?_, env_start n q⟩
    cases s with
    | un => trivial
    | d x => exact ⟨v, rfl, h⟩
    | r x => exact ⟨v, rfl, h⟩
    | n x => exact ⟨v, rfl, h⟩
  | [], _ :: _, _, h => h.elim
  | _ :: _, [], _, h => h.elim
/-- rs gives rs2; something may be let go -/
def Ent (rs rs2 : List Mem) : Prop := ∀ (G : Fp) (H : Hp), sepL rs G G H → ∃ G' : Fp, (∀ a, G' a → G a) ∧ sepL rs2 G' G' H
theorem ent_refl {rs : List Mem} : Ent rs rs := fun G H h => ⟨G, fun _ z => z, h⟩
theorem ent_of_eq {rs rs2 : List Mem} (e : rs = rs2) : Ent rs rs2 := e ▸ ent_refl
theorem ent_trans {a b d : List Mem} (h : Ent a b) (h2 : Ent b d) : Ent a d := fun G H q => by
  obtain ⟨G1, s1, q1⟩ := h G H q
  obtain ⟨G2, s2, q2⟩ := h2 G1 H q1
  exact ⟨G2, fun x z => s1 x (s2 x z), q2⟩
theorem ent_drop {rs : List Mem} {A : Mem} {f : List Mem → List Mem} (pk : Pick rs A f) : Ent rs (f []) := fun G H h => by
  obtain ⟨F1, F2, h1, h2, d, e⟩ := pk.split.mp h
  have s : Stp G F2 H H := Stp.less fun a z => (e a).mpr (.inr z)
  exact ⟨F2, fun a z => (e a).mpr (.inr z), sepL.step s.sub h2 fun a o q _ => q⟩
theorem ent_take {xs ys : List Mem} : Ent (xs ++ ys) xs := fun G H h => by
  obtain ⟨F1, F2, h1, h2, d, e⟩ := sepL.app.mp h
  exact ⟨F1, fun a z => (e a).mpr (.inl z), sepL.step (fun a z => .inl ((e a).mpr (.inl z))) h1 fun a o q _ => q⟩
/-- the things Bs are in rs; rest is what is left -/
inductive Grab : List Mem → List Mem → List Mem → Prop
  | nil {rs} : Grab rs [] rs
  | cons {rs A f Bs rest} : Pick rs A f → Grab (f []) Bs rest → Grab rs (A :: Bs) rest
theorem Grab.sep {G : Fp} {H : Hp} {rs Bs rest : List Mem} (g : Grab rs Bs rest) : ∀ {F : Fp}, sepL rs F G H → sepL (Bs ++ rest) F G H := by
  induction g with
  | nil => intro F h; exact h
  | cons pk _ ih =>
    intro F h
    obtain ⟨F1, F2, h1, h2, d, e⟩ := pk.split.mp h
    exact ⟨F1, F2, h1, ih h2, d, e⟩
theorem ent_grab {rs Bs rest : List Mem} (g : Grab rs Bs rest) : Ent rs Bs := ent_trans (fun G H h => ⟨G, fun _ z => z, g.sep h⟩) ent_take
/-- things behind a door -/
def exM {α : Type} (fam : α → List Mem) : Mem where
  ok F G H := ∃ q, sepL (fam q) F G H
  dom := fun ⟨q, h⟩ => h.dom
  step := fun ⟨q, h⟩ k s => ⟨q, sepL.step s h k⟩
theorem ent_box {α : Type} {fam : α → List Mem} {q : α} (xs tl : List Mem) : Ent (xs ++ (fam q ++ tl)) (xs ++ exM fam :: tl) := fun G H h => by
  obtain ⟨F1, F2, h1, h2, d, e⟩ := sepL.app.mp h
  obtain ⟨F3, F4, h3, h4, d2, e2⟩ := sepL.app.mp h2
  exact ⟨G, fun _ z => z, sepL.app.mpr ⟨F1, F2, h1, ⟨F3, F4, ⟨q, h3⟩, h4, d2, e2⟩, d, e⟩⟩
theorem sep_open {α : Type} {fam : α → List Mem} {xs tl : List Mem} {G : Fp} {H : Hp} (h : sepL (xs ++ exM fam :: tl) G G H) : ∃ q, sepL (xs ++ (fam q ++ tl)) G G H := by
  obtain ⟨F1, F2, h1, ⟨F3, F4, ⟨q, h3⟩, h4, d2, e2⟩, d, e⟩ := sepL.app.mp h
  exact ⟨q, sepL.app.mpr ⟨F1, F2, h1, sepL.app.mpr ⟨F3, F4, h3, h4, d2, e2⟩, d, e⟩⟩
theorem Rs.less {G G' : Fp} {H0 H : Hp} {v : V} {s : Sl} (l : ∀ a, G' a → G a) (h : Rs G H0 H v s) : Rs G' H0 H v s := by
  have t : Stp G G' H H := Stp.less l
  cases s with
  | un => trivial
  | d x => exact Is.stp t h
  | r u => exact h
  | n ds => obtain ⟨p, vs, e, z, ng, hp, q⟩ := h; exact ⟨p, vs, e, z, fun g => ng (l p g), hp, q.stp t⟩
section
variable {c : Ctx m₀ N₀ sc₀ lv₀ xp₀ fF₀ cm₀} {e : Expr} {sts : List Stmt} {ρ : List Sl} {rs rs2 : List Mem} {P : Post} {K : Sl → List Mem → Prop}
theorem dss_ent (h : Ent rs rs2) (k : DSs c sts ρ rs2 P) : DSs c sts ρ rs P := by
  intro σ H G D he hs hx hd
  obtain ⟨G', l, o⟩ := h G H hs
  have t : Stp G G' H H := Stp.less l
  exact k σ H G' D (he.stp t) o (hx.stp t) (hd.stp t)
theorem dss_open {α : Type} {fam : α → List Mem} (xs : List Mem) {tl : List Mem} (k : ∀ q, DSs c sts ρ (xs ++ (fam q ++ tl)) P) : DSs c sts ρ (xs ++ exM fam :: tl) P := by
  intro σ H G D he hs hx hd
  obtain ⟨q, o⟩ := sep_open hs
  exact k q σ H G D he o hx hd
/-- at a block's end -/
theorem dss_post (h : DSs c sts ρ rs { P with nx := fun ρ' r' => ∃ r2, Ent r' r2 ∧ P.nx ρ' r2 }) : DSs c sts ρ rs P := by
  intro σ H G D he hs hx hd
  refine h σ H G D he hs hx ⟨fun σ' H' G' ρ' r' t e o ⟨r2, l, k⟩ => ?_, hd.rt, hd.bk, hd.ct⟩
  obtain ⟨G2, l, o2⟩ := l G' H' o
  have t2 : Stp G' G2 H' H' := Stp.less l
  exact hd.nx σ' H' G2 ρ' r2 (t.trans t2) (e.stp t2) o2 k
theorem dx_ent (h : DX c e ρ rs fun s r => ∃ r2, Ent r r2 ∧ K s r2) : DX c e ρ rs K := by
  intro σ H G Q he hs hx hq
  refine h σ H G Q he hs hx fun v H' G' sl r' t r o ⟨r2, l, k⟩ => ?_
  obtain ⟨G2, l, o2⟩ := l G' H' o
  exact hq v H' G2 sl r2 (t.trans (Stp.less l)) (r.less l) o2 k
end
/-- a result and its things, as another says it -/
def EntS (s : Sl) (rs : List Mem) (s2 : Sl) (rs2 : List Mem) : Prop := ∀ (G : Fp) (H0 H : Hp) (v : V), sepL rs G G H → Rs G H0 H v s → ∃ G' : Fp, (∀ a, G' a → G a) ∧ sepL rs2 G' G' H ∧ Rs G' H0 H v s2
theorem ents_of {s : Sl} {rs rs2 : List Mem} (h : Ent rs rs2) : EntS s rs s rs2 := fun G H0 H v o r => by
  obtain ⟨G', l, o2⟩ := h G H o
  exact ⟨G', l, o2, r.less l⟩
theorem ents_frz {q : Addr} {ds : List PyData} {rs rs2 : List Mem} {f : List Mem → List Mem} (pk : Pick rs (lstM q (ds.map .d)) f) (h : Ent (f []) rs2) : EntS (.r (.ref q)) rs (.d (.list ds)) rs2 := fun G H0 H v o r => by
  obtain ⟨F1, F2, ⟨eF, vs, hp, al⟩, h2, d, e⟩ := pk.split.mp o
  have l : ∀ a, F2 a → G a := fun a z => (e a).mpr (.inr z)
  have o2 : sepL (f []) F2 F2 H := sepL.step (fun a z => .inl (l a z)) h2 fun a o q _ => q
  obtain ⟨G', l2, o3⟩ := h F2 H o2
  have ev : v = .ref q := r
  subst ev
  have t : Stp G G' H H := Stp.less fun a z => l a (l2 a z)
  exact ⟨G', fun a z => l a (l2 a z), o3, show Is G' H (.ref q) (.list ds) from .lst (.inl ⟨.inl hp, fun g => d q ((eF q).mpr rfl) (l2 q g)⟩) (al.stp t).is⟩
/-- the wishes of a def's body -/
def bodyPost (fr : Mem) (res : Sl → List Mem → Prop) : Post := ⟨fun _ rs => ∃ rs', Ent rs (rs' ++ [fr]) ∧ res (.d .none) rs', fun s rs => ∃ s2 rs', EntS s rs s2 (rs' ++ [fr]) ∧ res s2 rs', fun _ _ => False, fun _ _ => False⟩
theorem fn_ok {m : Mo} {C : Cn} {x qual : Str} {st : Stmt} {f : Addr} {fd : FuncData} {N ps : List Str} {sc : Scope} {k : Nat} (F : Fun m.K x qual st f fd) (S : FnScope N ps (defScope st)) (hsc : defScope st = sc) (bl : Bl m.mg) (hK : m.K = KC.K)
    (len : ∀ ss rin res exc, C ss rin res exc → ss.length = ps.length) (n : Nat) (hn : N.length - ps.length = n)
    (body : ∀ (ss : List Sl) (rin : List Mem) (fr : Mem) (res : Sl → List Mem → Prop) (exc : Addr → List Mem → Prop) (c : Ctx m N sc k (fun D _ rs => ∃ rs', Ent rs (rs' ++ [fr]) ∧ exc D rs') true true), C ss rin res exc →
      DSs c (defBody st) (ss ++ List.replicate n .un) (rin ++ [fr]) (bodyPost fr res)) (hok : ScOk sc := by decide +kernel) : FnOk m.P m.w m.K m.mg m.base (L2.CX m.P m.w) (k + 1) f fd ps (spC C) := by
  refine F.okX S (fun vs H Q E h => ?_) (fun cdv A outer s H vs Q E hr h => ⟨tSs (cxOf (L2.CX m.P m.w) m.P m.w m.K m.mg m.base N qual (defScope st) f cdv A outer s H E) (defBody st), pss_t, ?_⟩)
  · obtain ⟨ss, fr, rin, G, res, exc, hv, _, hC, _⟩ := h
    rw [hv.length]; exact len _ _ _ _ hC
  · obtain ⟨ss, fr, rin, G, res, exc, hv, hs, hC, hres, hexc⟩ := h
    have hl : vs.length = ps.length := by rw [hv.length]; exact len _ _ _ _ hC
    subst hsc
    have B := body ss rin fr res exc ⟨cxOf (L2.CX m.P m.w) m.P m.w m.K m.mg m.base N qual (defScope st) f cdv A outer s H E, fun cls d _ H => E cls d H, ⟨rfl, rfl, rfl, rfl, rfl⟩, hK, bl, rfl, S.nd, rfl, hok, fun _ => rfl, fun _ => hr, (by have hu := hr.un; exact Nat.lt_of_le_of_lt (Nat.add_le_add_right (Nat.le_add_right _ _) _) hu), fun _ => ⟨rfl, rfl⟩, takes_of rfl rfl rfl rfl, fun _ _ => rfl, passes_of rfl⟩ hC
    have e0 : L2.start N vs = vs.map some ++ List.replicate n none := by unfold L2.start; rw [hl, hn]
    rw [e0]
    refine B _ H G _ (env_start n hv) hs (fun D σ' H' G' ρ' rs' t e o kx => ?_) ⟨fun σ' H' G' ρ' rs' t e o kx => ?_, fun v H' G' sl rs' t q o kx => ?_, fun _ _ _ _ _ _ _ _ z => z.elim, fun _ _ _ _ _ _ _ _ z => z.elim⟩
    · obtain ⟨r2, l, kx⟩ := kx
      obtain ⟨G2, l, o2⟩ := l G' H' o
      exact hexc D H' G2 r2 (t.trans (Stp.less l)) o2 kx
    · obtain ⟨r2, l, kx⟩ := kx
      obtain ⟨G2, l, o2⟩ := l G' H' o
      exact hres .non H' G2 (.d .none) r2 (t.trans (Stp.less l)) Is.non o2 kx
    · obtain ⟨s2, r2, l, kx⟩ := kx
      obtain ⟨G2, l, o2, q2⟩ := l G' H H' v o q
      exact hres v H' G2 s2 r2 (t.trans (Stp.less l)) q2 o2 kx
theorem fin {fr : Mem} {res : Sl → List Mem → Prop} {s : Sl} {rs : List Mem} (rs' : List Mem) (h : Ent rs (rs' ++ [fr])) (hr : res s rs') : (bodyPost fr res).rt s rs := ⟨s, rs', ents_of h, hr⟩
theorem fin_frz {fr : Mem} {res : Sl → List Mem → Prop} {q : Addr} {ds : List PyData} {rs : List Mem} {f : List Mem → List Mem} (rs' : List Mem) (pk : Pick rs (lstM q (ds.map .d)) f) (h : Ent (f []) (rs' ++ [fr])) (hr : res (.d (.list ds)) rs') : (bodyPost fr res).rt (.r (.ref q)) rs := ⟨_, rs', ents_frz pk h, hr⟩
end PW

set_option maxHeartbeats 1000000
/-! The ends of a law. -/
namespace PW
open PySem L2
section
variable [KC]
/-- a law's own contract: a list of at most 63 ints comes in, True comes out -/
def lawC : Cn := fun ss rin res _ => ∃ ns : List Int, ss = [.d (.list (ns.map .int))] ∧ rin = [] ∧ ns.length ≤ 63 ∧ res (.d (.bool true)) []
theorem is_ints {G : Fp} {H : Hp} : ∀ ns : List Int, IsAll G H (ns.map V.int) (ns.map PyData.int)
  | [] => .nil
  | n :: ns => .cons (.int n) (is_ints ns)
theorem law_in {H : Hp} {a : Addr} {ns : List Int} (hl : ns.length ≤ 63) (h : SqL KC.K H a (ns.map V.int)) : spC lawC [.ref a] H (fun v _ => v = .bl true) (fun _ _ _ => False) := by
  refine ⟨[.d (.list (ns.map .int))], sepM [], [], fun _ => False, fun s _ => s = .d (.bool true), fun _ _ => False, ⟨?_, trivial⟩, ?_, ⟨ns, rfl, rfl, hl, rfl⟩, fun v H' G' sl rs' t r o k => ?_, fun _ _ _ _ _ _ z => z⟩
  · refine Is.lst ?_ (is_ints ns)
    rcases h with h | h
    · exact .inl ⟨h, id⟩
    · exact .inr h
  · exact ⟨fun _ => False, fun _ => False, fun _ z => z, fun _ z => z, fun _ z => z.elim, fun _ => ⟨False.elim, fun z => z.elim id id⟩⟩
  · subst k
    exact rs_bool r
end
theorem cx_no {P : Program} {w : World} {outer : List Env} {H : Hp} {s : Shared} {e : Value} {s' : Shared} (h : L2.CX P w outer H s (fun _ _ _ => False) e s') : False := by
  obtain ⟨_, _, _, _, _, _, _, _, _, _, _, _, z⟩ := h
  exact z
/-- the end of a law row: what is left is the law's def -/
theorem law_walk {l : PySem.W.OpenLaw} {k : Nat} {q : Program} {loose : List Str} {XP : (Str → Option Value) → Heap → Prop} {YP : World → Heap → Prop} {d : DefRec} {K : Params → PySem.W.Frag} {x : Str}
    (hn : l.most = some 63) (hdf : d.params.defaults = []) (hr : Room k callerA) (hY : ∀ (w : World) (h : Heap), YP w h → (K w.params).In h)
    (F : ∀ (w : World) (mg : Str → Option Value) (fa : Addr) (h : Heap), (K w.params).In h → h.Ns mainGlobals mg → mg d.name = some (.ref fa) →
      ∃ fd : FuncData, (∀ (s : Shared) (u : Value), BindsTo s fd ⟨[u], []⟩ [(x, u)]) ∧
        ∀ base : Heap, FnOk l.prog w (K w.params) mg base (L2.CX l.prog w) k fa fd [x] (@spC ⟨K w.params⟩ lawC)) :
    PySem.W.WalkO q loose XP YP l.row.toRowW d [] (fun f vs => PySem.call f vs) := by
  refine L2.walk_of (K := K) (n := 63) (k := k) (x := x) (CX := fun w => L2.CX l.prog w) (sp := fun w => @spC ⟨K w.params⟩ lawC) hn (by decide) hdf hr hY ?_ ?_ (fun w H s e s' => cx_no)
  · intro w mg fa h KX G hmg
    obtain ⟨fd, h1, h2⟩ := F w mg fa h KX G hmg
    exact ⟨fd, h1, fun base _ _ => h2 base⟩
  · intro w H a ns hl _ hS
    exact @law_in ⟨K w.params⟩ H a ns hl hS
end PW

set_option maxHeartbeats 1000000
/-! Glue. -/
namespace PW
open PySem L2
variable [KC]
variable {m₀ : Mo} {N₀ : List Str} {sc₀ : Scope} {lv₀ : Nat} {xp₀ : Addr → List Sl → List Mem → Prop} {fF₀ cm₀ : Bool}
section
variable {c : Ctx m₀ N₀ sc₀ lv₀ xp₀ fF₀ cm₀} {e a b : Expr} {es : List Expr} {ρ ρ' : List Sl} {rs : List Mem} {K : Sl → List Mem → Prop} {KB : Bool → List Mem → Prop} {KA : List Sl → List Mem → Prop} {P : Post} {x : Str} {pos pos' p2 : Pos} {st : Stmt} {sts : List Stmt}
theorem do_none {K : Option Int → List Mem → Prop} (h : K none rs) : DO c none ρ rs K := h
theorem do_some {K : Option Int → List Mem → Prop} (h : DX c e ρ rs fun s r => ∃ i, s = .d (.int i) ∧ K (some i) r) : DO c (some e) ρ rs K := h
theorem ex_int {i : Int} {K : Int → Prop} (h : K i) : ∃ j, Sl.d (.int i) = .d (.int j) ∧ K j := ⟨i, rfl, h⟩
theorem ex_str {i : Str} {K : Str → Prop} (h : K i) : ∃ j, Sl.d (.str i) = .d (.str j) ∧ K j := ⟨i, rfl, h⟩
theorem ex_list {s : Sl} {ds : List PyData} {K : List PyData → Prop} (e : s.asList = some ds) (h : K ds) : ∃ ds, s.asList = some ds ∧ K ds := ⟨ds, e, h⟩
theorem datas_nil : Datas [] [] := trivial
theorem datas_cons {d : PyData} {ss : List Sl} {ds : List PyData} (h : Datas ss ds) : Datas (.d d :: ss) (d :: ds) := ⟨rfl, h⟩
theorem ex_datas {ss : List Sl} {ds : List PyData} {B : Prop} {K : List PyData → Prop} (h : Datas ss ds) (hb : B) (k : K ds) : ∃ ds, Datas ss ds ∧ B ∧ K ds := ⟨ds, h, hb, k⟩
theorem ite_tt {A B : Prop} (h : A) : if true = true then A else B := h
theorem ite_ff {A B : Prop} (h : B) : if false = true then A else B := h
theorem ite_nt {A B : Prop} (h : B) : if (!true) = true then A else B := h
theorem ite_nf {A B : Prop} (h : A) : if (!false) = true then A else B := h
theorem ite_t {k : Bool} {A B : Prop} (e : k = true) (h : A) : if k = true then A else B := by rw [if_pos e]; exact h
theorem ite_f {k : Bool} {A B : Prop} (e : k = false) (h : B) : if k = true then A else B := by rw [if_neg (by rw [e]; exact Bool.false_ne_true)]; exact h
theorem ite_d {p : Prop} [Decidable p] {A B : Prop} (h1 : p → A) (h2 : ¬ p → B) : if decide p = true then A else B := by
  by_cases h : p
  · rw [if_pos (decide_eq_true h)]; exact h1 h
  · rw [if_neg (fun z => h (of_decide_eq_true z))]; exact h2 h
theorem ite_nd {p : Prop} [Decidable p] {A B : Prop} (h1 : ¬ p → A) (h2 : p → B) : if (!decide p) = true then A else B := by
  by_cases h : p
  · rw [decide_eq_true h]; exact h2 h
  · rw [decide_eq_false h]; exact h1 h
theorem ite_b {k : Bool} {A B : Prop} (h1 : k = true → A) (h2 : k = false → B) : if k = true then A else B := by
  cases k with
  | true => exact h1 rfl
  | false => exact h2 rfl
theorem dx_weak {K' : Sl → List Mem → Prop} (h : DX c e ρ rs K) (hk : ∀ s r, K s r → K' s r) : DX c e ρ rs K' := fun σ H G Q a1 a2 a3 a4 => h σ H G Q a1 a2 a3 fun v H' G' sl rs' t r o k => a4 v H' G' sl rs' t r o (hk _ _ k)
theorem dt_weak {K' : Bool → List Mem → Prop} (h : DT c e ρ rs KB) (hk : ∀ s r, KB s r → K' s r) : DT c e ρ rs K' := fun σ H G Q a1 a2 a3 a4 => h σ H G Q a1 a2 a3 fun b H' G' rs' t o k => a4 b H' G' rs' t o (hk _ _ k)
theorem dss_cut {I : List Sl → List Mem → Prop} (h : DS c st ρ rs { P with nx := I }) (h2 : ∀ ρ' r', I ρ' r' → DSs c sts ρ' r' P) : DSs c (st :: sts) ρ rs P :=
  dss_cons (ds_weak h (fun ρ' r' k => h2 ρ' r' k) (fun _ _ k => k) (fun _ _ k => k) (fun _ _ k => k))
theorem ite_dt {p : Prop} [Decidable p] {A B : Prop} (h : p) (a : A) : if decide p = true then A else B := ite_t (decide_eq_true h) a
theorem ite_df {p : Prop} [Decidable p] {A B : Prop} (h : ¬ p) (a : B) : if decide p = true then A else B := ite_f (decide_eq_false h) a
theorem ite_ndt {p : Prop} [Decidable p] {A B : Prop} (h : ¬ p) (a : A) : if (!decide p) = true then A else B := ite_t (by rw [decide_eq_false h]; rfl) a
theorem ite_ndf {p : Prop} [Decidable p] {A B : Prop} (h : p) (a : B) : if (!decide p) = true then A else B := ite_f (by rw [decide_eq_true h]; rfl) a
theorem ite_nn {k : Bool} {A B : Prop} (h : if k = true then A else B) : if (!!k) = true then A else B := by rw [Bool.not_not]; exact h
theorem ce_inl {C : Cn} {ss : List Sl} {r1 : List Mem} (h : C ss [] (fun s r2 => K s (r2 ++ r1)) (fun D r2 => xp₀ D ρ (r2 ++ r1))) : CallEnd c C ss ρ r1 K := fun σ H G vs Q he hs hx hv hq =>
  ⟨ss, sepM r1, [], G, _, _, hv, sepM_app.mpr hs, h, fun v H' G' sl rs' t r o k => hq v H' G' sl _ t r (sepM_app.mp o) k, fun D H' G' rs' t o k => hx D σ H' G' ρ _ t (he.stp t) (sepM_app.mp o) k⟩
theorem ce_inr {C : Cn} {ss : List Sl} {r1 : List Mem} {A : Mem} {f : List Mem → List Mem} (p : Pick r1 A f) (h : C ss [A] (fun s r2 => K s (f r2)) (fun D r2 => xp₀ D ρ (f r2))) : CallEnd c C ss ρ r1 K := fun σ H G vs Q he hs hx hv hq =>
  ⟨ss, sepM (f []), [A], G, _, _, hv, sepM_app.mpr (p.split.mp hs), h, fun v H' G' sl rs' t r o k => hq v H' G' sl _ t r (p.put.mpr (sepM_app.mp o)) k, fun D H' G' rs' t o k => hx D σ H' G' ρ _ t (he.stp t) (p.put.mpr (sepM_app.mp o)) k⟩
theorem end_rt {fr : Mem} {res : Sl → List Mem → Prop} {s : Sl} (h : res s []) : (bodyPost fr res).rt s [fr] := fin [] ent_refl h
theorem end_rtT {fr : Mem} {res : Sl → List Mem → Prop} {b : Bool} (hb : b = true) (h : res (.d (.bool true)) []) : (bodyPost fr res).rt (.d (.bool b)) [fr] := fin [] ent_refl (by rw [hb]; exact h)
theorem cd_isiT {T : String} {s : Sl} {d : PyData} (hT : T ∈ ["int", "bool", "str", "list", "tuple"]) (h : s.plain = .d d) (hb : isD T d = true) (k : K (.d (.bool true)) rs) : CaD (rIsi KC.K) [s, .r (.ty T)] rs K := cd_isi hT h (by rw [hb]; exact k)
theorem cd_isiF {T : String} {s : Sl} {d : PyData} (hT : T ∈ ["int", "bool", "str", "list", "tuple"]) (h : s.plain = .d d) (hb : isD T d = false) (k : K (.d (.bool false)) rs) : CaD (rIsi KC.K) [s, .r (.ty T)] rs K := cd_isi hT h (by rw [hb]; exact k)
theorem end_nx {fr : Mem} {res : Sl → List Mem → Prop} (h : res (.d .none) []) : (bodyPost fr res).nx ρ [fr] := ⟨[], ent_refl, h⟩
theorem end_rt1 {fr A : Mem} {res : Sl → List Mem → Prop} {s : Sl} (h : res s [A]) : (bodyPost fr res).rt s [A, fr] := fin [A] ent_refl h
theorem end_nx1 {fr A : Mem} {res : Sl → List Mem → Prop} (h : res (.d .none) [A]) : (bodyPost fr res).nx ρ [A, fr] := ⟨[A], ent_refl, h⟩
/-- a thing that is needed no more -/
theorem dss_drop {A : Mem} {f : List Mem → List Mem} (pk : Pick rs A f) (h : DSs c sts ρ (f []) P) : DSs c sts ρ rs P := by
  intro σ H G D he hs hx hd
  obtain ⟨F1, G2, _, _, t, o⟩ := sepL.drop pk hs
  exact h σ H G2 D (he.stp t) o (hx.stp t) (hd.stp t)
theorem dx_drop (h : DX c e ρ rs fun s r => ∃ A f, Pick r A f ∧ (∀ ds, s ≠ .n ds) ∧ K s (f [])) : DX c e ρ rs K := by
  intro σ H G Q he hs hx hq
  refine h σ H G _ he hs hx fun v H1 G1 s1 r1 t1 h1 o1 ⟨A, f, pk, hn, k1⟩ => ?_
  obtain ⟨F1, G2, _, _, t, o⟩ := sepL.drop pk o1
  exact hq v H1 G2 s1 _ (t1.trans t) (Rs.of_ok (h1.ok.stp t) hn) o k1
/-- a name forgotten -/
theorem dss_le {ρ' : List Sl} (l : Le ρ ρ') (h : DSs c sts ρ' rs P) : DSs c sts ρ rs P := DSs.le l h
/-- a loop that leaves nothing behind -/
theorem for_un {x : Str} {j : Nat} {body : List Stmt} {α : Type} {xs : List α} {enc : α → Sl} {keep : List Mem → Prop} {ρ0 : List Sl} (h0 : Le ρ ρ0) (hk : keep rs) (hend : P.nx ρ0 rs)
    (turn : ∀ y ∈ xs, ∃ ρ2, SetS N₀ ρ0 x j (enc y) ρ2 ∧ DSs c body ρ2 rs ⟨fun ρ' r' => Le ρ' ρ0 ∧ r' = rs, P.rt, P.nx, fun ρ' r' => Le ρ' ρ0 ∧ r' = rs⟩) : ForD c x j body xs enc keep ρ rs P := by
  refine ⟨Unit, fun _ => ρ0, fun _ => rs, fun _ _ => True, ⟨(), trivial, h0, rfl⟩, fun _ _ _ => hk, fun pre y post _ e _ => ?_, fun _ _ => hend⟩
  obtain ⟨ρ2, hset, hb⟩ := turn y (by rw [e]; simp)
  exact ⟨ρ2, hset, dss_weak hb (fun _ _ k => ⟨(), trivial, k.1, k.2⟩) (fun _ _ k => k) (fun _ _ k => k) fun _ _ k => ⟨(), trivial, k.1, k.2⟩⟩
end
/-! ### lists cut -/
theorem cutL_map {α β : Type} (f : α → β) (xs : List α) (lo hi : Option Int) : cutL (xs.map f) lo hi = (cutL xs lo hi).map f := by
  unfold cutL
  rw [List.length_map, ← List.map_drop, ← List.map_take]
theorem cutL_len {α : Type} (xs : List α) (lo hi : Option Int) : (cutL xs lo hi).length ≤ xs.length := by
  unfold cutL
  rw [List.length_take, List.length_drop]
  omega
/-- [numbers] + xs[..] as what is walked -/
theorem walk_ints (ys ns : List Int) (lo hi : Option Int) : (ys.map PyData.int ++ cutL (ns.map PyData.int) lo hi).map Sl.d = (ys ++ cutL ns lo hi).map fun n => .d (.int n) := by
  rw [cutL_map, ← List.map_append, List.map_map]; rfl
theorem walk_eq (ys ns : List Int) (zs : List PyData) (h : zs = ys.map PyData.int) (lo hi : Option Int) : (zs ++ cutL (ns.map PyData.int) lo hi).map Sl.d = (ys ++ cutL ns lo hi).map fun n => .d (.int n) := by
  subst h; exact walk_ints ys ns lo hi
end PW

set_option maxHeartbeats 1000000
/-! Lists of one's own. -/
namespace PW
open PySem L2
variable [KC]
variable {m₀ : Mo} {N₀ : List Str} {sc₀ : Scope} {lv₀ : Nat} {xp₀ : Addr → List Sl → List Mem → Prop} {fF₀ cm₀ : Bool}
theorem own_new {G : Fp} {H : Hp} {rs : List Mem} {p : Addr} {vs : List V} {ss : List Sl} (hs : sepL rs G G H) (hp : H p = none) (al : SlAll G H vs ss) :
    Stp G (fun a => a = p ∨ G a) H (upd H p (.lst vs)) ∧ sepL (lstM p ss :: rs) (fun a => a = p ∨ G a) (fun a => a = p ∨ G a) (upd H p (.lst vs)) :=
  sepL.join hs (same_new hp) hp ⟨fun a => Iff.rfl, vs, upd_same, al.stp0 (fun a o q _ => same_new hp a o q) fun a g => g.elim (fun e => .inr (e ▸ hp)) .inl⟩
/-- what a list of one's own holds, and how it is changed -/
theorem lst_at {G : Fp} {H : Hp} {rs : List Mem} {p : Addr} {ss : List Sl} {f : List Mem → List Mem} (pk : Pick rs (lstM p ss) f) (hs : sepL rs G G H) :
    ∃ vs, H p = some (.lst vs) ∧ SlAll G H vs ss ∧ G p ∧ ∀ ws ss', SlAll G H ws ss' → Stp G G H (upd H p (.lst ws)) ∧ sepL (f [lstM p ss']) G G (upd H p (.lst ws)) := by
  obtain ⟨F1, F2, ⟨eF, vs, hp, al⟩, _, dj, eG⟩ := pk.split.mp hs
  have gp : G p := (eG p).mpr (.inl ((eF p).mpr rfl))
  refine ⟨vs, hp, al, gp, fun ws ss' aw => ?_⟩
  refine sepL.change (B := lstM p ss') pk hs fun F1 hA sub => ⟨fun a o q n => ?_, fun a o q => ?_, ?_⟩
  · obtain ⟨e1, _⟩ := hA
    rw [upd_ne fun z => n ((e1 a).mpr z)]; exact q
  · by_cases ea : a = p
    · subst ea; exact ⟨_, upd_same⟩
    · rw [upd_ne ea]; exact ⟨o, q⟩
  · obtain ⟨e1, _⟩ := hA
    refine ⟨e1, ws, upd_same, aw.stp0 (fun a o q n => ?_) fun a g => .inl g⟩
    rw [upd_ne (fun z => n (by rw [z]; exact gp))]; exact q
section
variable {c : Ctx m₀ N₀ sc₀ lv₀ xp₀ fF₀ cm₀} {e a b o : Expr} {es : List Expr} {ρ ρ' : List Sl} {rs : List Mem} {K : Sl → List Mem → Prop} {KB : Bool → List Mem → Prop} {KA : List Sl → List Mem → Prop} {P : Post} {x : Str} {pos pos' p2 apos cpos : Pos} {st : Stmt} {sts : List Stmt} {s1 s2 : Sl}
/-- [..], owned -/
theorem dx_lstO (h : DA c es ρ rs fun ss r => ss.length ≤ 100000 ∧ ∀ p, K (.r (.ref p)) (lstM p ss :: r)) : DX c (.List es pos) ρ rs K := by
  intro σ H G Q he hs hx hq
  refine tE_of (pe_lst pa_t) ?_
  refine h σ H G _ he hs hx fun vs H1 G1 ss r1 t1 h1 o1 k1 => ?_
  refine ⟨Nat.le_trans (Nat.le_trans (Nat.le_of_eq h1.length) k1.1) (by decide), fun p hp => ?_⟩
  obtain ⟨t2, o2⟩ := own_new o1 hp h1
  exact hq _ _ _ (.r (.ref p)) _ (t1.trans t2) rfl o2 (k1.2 p)
/-- what is owned is let go -/
theorem dx_frz (h : DX c e ρ rs fun s r => ∃ p ds f, s = .r (.ref p) ∧ Pick r (lstM p (ds.map .d)) f ∧ K (.d (.list ds)) (f [])) : DX c e ρ rs K := by
  intro σ H G Q he hs hx hq
  refine h σ H G _ he hs hx fun v H1 G1 s1 r1 t1 h1 o1 k1 => ?_
  obtain ⟨p, ds, f, rfl, pk, k1⟩ := k1
  have ev : v = .ref p := h1
  subst ev
  obtain ⟨F1, G2, ⟨eF, vs, hp, al⟩, dj, t2, o2⟩ := sepL.drop pk o1
  exact hq _ H1 G2 (.d (.list ds)) _ (t1.trans t2) (.lst (.inl ⟨.inl hp, fun g => dj p ((eF p).mpr rfl) g⟩) (al.stp t2).is) o2 k1
theorem od_ixo {i : Int} {p : Addr} {ss : List Sl} {f : List Mem → List Mem} {s : Sl} (pk : Pick rs (lstM p ss) f) (hi : atI ss i = some s) (hn : ∀ ds, s ≠ .n ds) (k : K s rs) : OpD (rIx KC.K) (.r (.ref p)) (.d (.int i)) rs K := fun G H x y Q hx hy hs hq => by
  have ex : x = .ref p := hx
  subst ex
  have ey := hy.int
  obtain ⟨vs, hp, al, _, _⟩ := lst_at pk hs
  have hv : ∃ v, atI vs i = some v ∧ SlOk G H v s := by
    unfold atI at hi ⊢
    rw [al.length]
    cases e : ixN ss.length i with
    | none => rw [e] at hi; cases hi
    | some j => rw [e] at hi; exact al.get hi
  obtain ⟨v, hv, hd⟩ := hv
  exact .inl ⟨p, vs, i, v, rfl, ey, .inl (.inl hp), hv, give0 hs hq (Rs.of_ok hd hn) k⟩
theorem ld_own {p : Addr} {ss : List Sl} {f : List Mem → List Mem} (pk : Pick rs (lstM p ss) f) (k : K (.d (.int ss.length)) rs) : LenD (.r (.ref p)) rs K := fun G H vs Q hv hs hq => by
  match vs, hv with
  | [v], hv =>
    have ev : v = .ref p := hv.1
    subst ev
    obtain ⟨ws, hp, al, _, _⟩ := lst_at pk hs
    exact ⟨.ref p, ss.length, rfl, .inl ⟨ws, .inl (.inl hp), al.length.symm⟩, give0 hs hq (sl := .d (.int ss.length)) (Is.int _) k⟩
theorem di_own {tg it : Expr} {KI : List Sl → (List Mem → Prop) → List Mem → Prop} (h : DX c it ρ rs fun s r => ∃ p ss f, s = .r (.ref p) ∧ Pick r (lstM p ss) f ∧ KI ss (fun r' => ∃ f', Pick r' (lstM p ss) f') r) : DI c tg it ρ rs KI := by
  intro σ H G R he hs hx hr
  refine tI_of (c.ck ▸ pi_list pe_t) ?_
  refine h σ H G _ he hs hx fun v H1 G1 s1 r1 t1 h1 o1 k1 => ?_
  obtain ⟨p, ss, f, rfl, pk, k1⟩ := k1
  have ev : v = .ref p := h1
  subst ev
  obtain ⟨vs, hp, al, _, _⟩ := lst_at pk o1
  refine ⟨p, rfl, ⟨vs, .inl (.inl hp)⟩, hr _ H1 G1 _ _ r1 t1 o1 (fun G2 H2 r2 t2 o2 kp i => ?_) k1⟩
  obtain ⟨f', pk'⟩ := kp
  obtain ⟨vs, hp, al, _, _⟩ := lst_at pk' o2
  have rd2 : SqL KC.K H2 p vs := .inl (.inl hp)
  constructor
  · intro hi
    have hi' : i < vs.length := by rw [al.length]; exact hi
    refine ⟨⟨vs, vs[i], rd2, by simp [hi']⟩, fun x H3 y => ?_⟩
    obtain ⟨e3, y⟩ := y
    have hxi := y vs rd2
    obtain ⟨s, hs⟩ : ∃ s, ss[i]? = some s := ⟨ss[i], by simp [hi]⟩
    obtain ⟨w, hw, hk⟩ := al.get hs
    rw [hxi] at hw
    cases hw
    exact ⟨e3, s, hs, hk⟩
  · intro hi
    exact ⟨vs, rd2, by rw [al.length]; exact hi⟩
/-- as data, looked at -/
def View (rs : List Mem) (s : Sl) (d : PyData) : Prop := ∀ (G : Fp) (H : Hp) (v : V), SlOk G H v s → sepL rs G G H → Dp KC.K H v d
theorem view_d {d : PyData} {s : Sl} (h : s.plain = .d d) : View rs s d := fun G H v q _ => (plain_d h q).dp
theorem view_own {p : Addr} {ds : List PyData} {f : List Mem → List Mem} (pk : Pick rs (lstM p (ds.map .d)) f) : View rs (.r (.ref p)) (.list ds) := fun G H v q hs => by
  have ev : v = .ref p := q
  subst ev
  obtain ⟨vs, hp, al, _, _⟩ := lst_at pk hs
  exact .lst (.inl (.inl hp)) (IsAll.dp al.is)
theorem od_eqv {d e : PyData} (h1 : View rs s1 d) (h2 : View rs s2 e) (a : SeqAt.shaped d = true) (b : SeqAt.shaped e = true) (k : K (.d (.bool (PyData.eqv d e))) rs) : OpD (uEq KC.K) s1 s2 rs K := fun G H x y Q hx hy hs hq =>
  .inr ⟨_, _, h1 G H x hx hs, h2 G H y hy hs, a, b, give0 hs hq (sl := .d (.bool (PyData.eqv d e))) (Is.bl _) k⟩
theorem od_nev {d e : PyData} (h1 : View rs s1 d) (h2 : View rs s2 e) (a : SeqAt.shaped d = true) (b : SeqAt.shaped e = true) (k : K (.d (.bool (!PyData.eqv d e))) rs) : OpD (uNe KC.K) s1 s2 rs K := fun G H x y Q hx hy hs hq =>
  .inr ⟨_, _, h1 G H x hx hs, h2 G H y hy hs, a, b, give0 hs hq (sl := .d (.bool (!PyData.eqv d e))) (Is.bl _) k⟩
theorem tr_own {p : Addr} {ss : List Sl} {f : List Mem → List Mem} (pk : Pick rs (lstM p ss) f) (h : KB (!ss.isEmpty) rs) : TrD (.r (.ref p)) rs KB := fun G H x hx hs => by
  have ev : x = .ref p := hx
  subst ev
  obtain ⟨vs, hp, al, _, _⟩ := lst_at pk hs
  refine ⟨_, .inl ⟨_, .inl (.inl hp), ?_⟩, h⟩
  have := al.length
  cases vs <;> cases ss <;> first | rfl | simp at this
/-- a method's call as the text has it -/
structure MeOk (X : Cx) (o : Expr) (m : Str) (e : Expr) (es : List Expr) (apos cpos : Pos) : Prop where
  hs : starEach (e :: es) X.env = (false, eval e X.env) :: starEach es X.env
  hb : attributeBase o m X.env (eval o X.env) = eval o X.env
  hl : (apos.endLine == cpos.line) = true
  hf : ((((backTo cpos (starEach (e :: es) X.env)).all fun x => !x.fst) && (backToKw cpos (keywordEach [] X.env)).all fun x => x.fst.isSome) && decide (((e :: es).length + ([] : List Keyword).length + if ([] : List Keyword).isEmpty = true then 0 else 1) < 30)) = true
/-- x.append(e) -/
theorem dx_append (h : DX c o ρ rs fun s r => ∃ p ss f, s = .r (.ref p) ∧ Pick r (lstM p ss) f ∧ DA c [a] ρ r fun ts r2 => ∃ t ss2 f2, ts = [t] ∧ Pick r2 (lstM p ss2) f2 ∧ ss2.length < 100000 ∧ K (.d .none) (f2 [lstM p (ss2 ++ [t])]))
    (hm : MeOk c.X o "append" a [] apos cpos := by exact ⟨rfl, rfl, rfl, rfl⟩) : DX c (.Call (.Attribute o "append" apos) [a] [] cpos) ρ rs K := by
  intro σ H G Q he hs hx hq
  refine tE_of (pe_bm PySem.F.plainAttrs_list PySem.F.slot_list_append PySem.F.type_list_append mt_append pe_t pa_t (hs := hm.hs) (hbase := hm.hb) (hline := hm.hl) (hfew := hm.hf)) ?_
  refine h σ H G _ he hs hx fun v H1 G1 s1 r1 t1 h1 o1 k1 => ?_
  obtain ⟨p, ss, f, rfl, pk, k1⟩ := k1
  have ev : v = .ref p := h1
  subst ev
  obtain ⟨vs, hp, al, _, _⟩ := lst_at pk o1
  refine ⟨?_, ?_⟩
  · exact .inl ⟨rfl, vs, .inl (.inl hp)⟩
  refine k1 σ H1 G1 _ (he.stp t1) o1 (hx.stp t1) fun us H2 G2 ts r2 t2 h2 o2 k2 => ?_
  obtain ⟨t, ss2, f2, rfl, pk2, hl, k2⟩ := k2
  match us, h2 with
  | [y], h2 =>
    obtain ⟨vs2, hp2, al2, _, ch⟩ := lst_at pk2 o2
    obtain ⟨t3, o3⟩ := ch (vs2 ++ [y]) (ss2 ++ [t]) (al2.append h2)
    exact ⟨p, vs2, y, rfl, rfl, hp2, by rw [al2.length]; exact Nat.lt_of_lt_of_le hl (by decide), hq .non _ G2 (.d .none) _ ((t1.trans t2).trans t3) Is.non o3 k2⟩
/-- x[i] = e -/
theorem ds_seti {i : Expr} (h : DX c e ρ rs fun s r => DX c o ρ r fun s1 r1 => DX c i ρ r1 fun s2 r2 => ∃ p ss f k j, s1 = .r (.ref p) ∧ s2 = .d (.int k) ∧ Pick r2 (lstM p ss) f ∧ ixN ss.length k = some j ∧ P.nx ρ (f [lstM p (ss.set j s.plain)])) (hw : swapsWith e (some (.Subscript o i pos')) pos.line c.X.env = pure false := by rfl)
    (ha : ∀ v, assign (.Subscript o i pos') c.X.env v = (do let ov ← holding [v] (eval o c.X.env); let iv ← holding [v, ov] (eval i c.X.env); standAt pos'; holding [v, ov, iv] (setItem ov iv v); release [v, ov, iv] []) := by intro _; rfl) :
    DS c (.Assign [.Subscript o i pos'] e pos) ρ rs P := by
  intro σ H G D he hs hx hd
  refine tS_of (ps_asg pe_t (pg_sub pe_t pe_t set_list ha) hw rfl) ?_
  refine h σ H G _ he hs hx fun v H1 G1 s r1 t1 h1 o1 k1 => ?_
  refine k1 σ H1 G1 _ (he.stp t1) o1 (hx.stp t1) fun v2 H2 G2 s1 r2 t2 h2 o2 k2 => ?_
  refine k2 σ H2 G2 _ ((he.stp t1).stp t2) o2 ((hx.stp t1).stp t2) fun v3 H3 G3 s2 r3 t3 h3 o3 k3 => ?_
  obtain ⟨p, ss, f, k, j, rfl, rfl, pk, hj, k3⟩ := k3
  have e2 : v2 = .ref p := h2
  obtain ⟨vs, hp, al, _, ch⟩ := lst_at pk o3
  obtain ⟨t4, o4⟩ := ch (vs.set j v) (ss.set j s.plain) (al.set ((h1.ok.plain.stp t2).stp t3) j)
  exact ⟨p, vs, k, j, e2, h3.ok.int, hp, by rw [al.length]; exact hj, hd.nx σ _ G3 ρ _ (((t1.trans t2).trans t3).trans t4) ((((he.stp t1).stp t2).stp t3).stp t4) o4 k3⟩
theorem ex_own {p : Addr} {ss : List Sl} {f : List Mem → List Mem} {K : Addr → List Sl → (List Mem → List Mem) → Prop} (pk : Pick rs (lstM p ss) f) (k : K p ss f) : ∃ p' ss' f', Sl.r (.ref p) = .r (.ref p') ∧ Pick rs (lstM p' ss') f' ∧ K p' ss' f' := ⟨p, ss, f, rfl, pk, k⟩
theorem ex_app {p : Addr} {s : Sl} {ss : List Sl} {f : List Mem → List Mem} {B : List Sl → Prop} {K : Sl → List Sl → (List Mem → List Mem) → Prop} (pk : Pick rs (lstM p ss) f) (hb : B ss) (k : K s ss f) : ∃ t ss' f', [s] = [t] ∧ Pick rs (lstM p ss') f' ∧ B ss' ∧ K t ss' f' := ⟨s, ss, f, rfl, pk, hb, k⟩
theorem ex_frz {p : Addr} {ds : List PyData} {f : List Mem → List Mem} {K : List PyData → (List Mem → List Mem) → Prop} (pk : Pick rs (lstM p (ds.map .d)) f) (k : K ds f) : ∃ p' ds' f', Sl.r (.ref p) = .r (.ref p') ∧ Pick rs (lstM p' (ds'.map .d)) f' ∧ K ds' f' := ⟨p, ds, f, rfl, pk, k⟩
end
theorem atI_map {α β : Type} (g : α → β) (xs : List α) (i : Int) : atI (xs.map g) i = (atI xs i).map g := by
  unfold atI
  rw [List.length_map]
  cases ixN xs.length i with
  | none => rfl
  | some j => simp
theorem atI_in {α : Type} {xs : List α} {i : Int} (h : 0 ≤ i ∧ i < xs.length) : ∃ v, atI xs i = some v ∧ xs[i.toNat]? = some v := by
  have hj : i.toNat < xs.length := by omega
  refine ⟨xs[i.toNat], ?_, by simp [hj]⟩
  unfold atI ixN
  rw [if_pos h.1, if_pos h.2]
  simp [hj]
theorem atI_ints {xs : List Int} {i : Int} (h : 0 ≤ i ∧ i < xs.length) : ∃ v, atI (xs.map PyData.int) i = some (.int v) ∧ xs[i.toNat]? = some v := by
  obtain ⟨v, h1, h2⟩ := atI_in h
  exact ⟨v, by rw [atI_map, h1]; rfl, h2⟩
end PW

set_option maxHeartbeats 1000000
/-! Refusals: own errors raised, caught, asked for their class. -/
namespace PW
open PySem L2 PySem.W
/-- isinstance of a caught error and a tuple of classes -/
def rIsET (K : Frag) (D a : Addr) : List V → Hp → VK → Prop := fun xs H Q => ∃ (tp : Addr) (Cs : List Addr) (b : Bool), xs = [.ref a, .ref tp] ∧ H tp = some (.tup (Cs.map V.ref)) ∧ kitAny K (.ref D) (Cs.map Value.ref) = some b ∧ Q (.bl b) H
theorem vals_refs : ∀ {Cs : List Addr} {its : List Value}, Vals (Cs.map V.ref) its → its = Cs.map Value.ref := by
  intro Cs
  induction Cs with
  | nil => intro its h; cases h; rfl
  | cons C Cs ih =>
    intro its h
    cases h with
    | cons r t =>
      rw [ih t]
      have r : _ = Value.ref C := r
      rw [r]; rfl
theorem call_isET {X : Cx} {a D : Addr} {oe : Obj} {pn : List (Addr × Obj)} (C : ExcC X.K D) (hc : (clsIn X.K D).isSome = true) (hz : Zc (.ref D) none oe) (hf : ∃ vs, oe.data = .fields vs) : CallR (X.suite a ((a, oe) :: pn)) (.builtin "isinstance") (rIsET X.K D a) := by
  intro pins s σ H xs us Q I rx h
  obtain ⟨tp, Cs, b, rfl, hH, hk, q⟩ := h
  obtain ⟨its, hv, ht, _⟩ := I.tuple (a := tp) (.inl (.inl hH))
  have e := vals_refs hv
  subst e
  cases rx with
  | cons r1 t1 =>
    cases t1 with
    | cons r2 t2 =>
      cases t2
      have r1 : _ = Value.ref a := r1
      have r2 : _ = Value.ref tp := r2
      subst r1 r2
      have hp := (I.pin (a, oe) (by simp)).1
      have kx : KitX X.K (.ref a) (.ref D) fun h => InstAt h a oe D none := kitx_exc hc C.hg C.hk C.hs C.ha C.hn C.ht C.hm
      obtain ⟨⟨cls, dd, da, sl⟩, ho, hcls, n, hd⟩ := ht
      dsimp only at hcls hd
      subst hcls hd
      have ia : InstAt s.heap a oe D none := by
        obtain ⟨vs, hvs⟩ := hf
        refine ⟨hp, hz.1, ?_, ?_⟩
        · unfold notCls; rw [hvs]
        · rw [hz.2]; trivial
      exact kia_tup kx I.kIn ia ho hk (fun z => nomatch z) fun tk => ⟨.bl b, H, I.tok tk, rfl, q⟩
/-! ### the classes of a text -/
structure Xc (m : Mo) (x : Str) (D : Addr) : Prop where
  q : excIn m.K D [.type "ValueError", .type "Exception", .type "BaseException", .type "object"] "ValueError.__new__" = true
  kp : keepIn m.K (.ref D) = true
  ty : typeIn m.K (.ref D) = some (.type "type")
  cl : (clsIn m.K D).isSome = true
  ec : ExcC m.K D
/-- rs: the classes that are raised; ts: those that are asked for -/
structure Errs (m : Mo) (E : Str → Addr) (rs ts : List Str) : Prop where
  xc : ∀ x ∈ rs, Xc m x (E x)
  nm : ∀ y ∈ ts, m.mg y = some (.ref (E y))
  kit : ∀ x ∈ rs, ∀ y ∈ ts, kitOne m.K (.ref (E x)) (.ref (E y)) = some (decide (x = y) || decide (y = ("PaneError" : Str)))
  kitV : ∀ x ∈ rs, kitOne m.K (.ref (E x)) (.type "ValueError") = some true
  ex : ∀ x ∈ rs, exmOne m.K (.ref (E x)) (.ref (E "PaneError")) = some true
variable [KC]
variable {m₀ : Mo} {N₀ : List Str} {sc₀ : Scope} {lv₀ : Nat} {xp₀ : Addr → List Sl → List Mem → Prop} {fF₀ cm₀ : Bool}
/-- a suite's context: the error at a, of the class at D -/
structure ExcAt (c : Ctx m₀ N₀ sc₀ lv₀ xp₀ fF₀ cm₀) (a D : Addr) : Prop where
  one : CallR c.X (.builtin "isinstance") (rIsE m₀.K D a)
  many : CallR c.X (.builtin "isinstance") (rIsET m₀.K D a)
section
variable {c : Ctx m₀ N₀ sc₀ lv₀ xp₀ fF₀ cm₀} {e a b o : Expr} {es : List Expr} {ρ ρ' : List Sl} {rs : List Mem} {K : Sl → List Mem → Prop} {P : Post} {x y : Str} {pos pos' p2 p3 np : Pos} {E : Str → Addr} {ra ts : List Str} {D q : Addr}
theorem ds_raise {z : Str} {j : Nat} (er : Errs m₀ E ra ts) (hx : x ∈ ra) (ht : x ∈ ts) (k : xp₀ (E x) ρ rs) (hg : KdIn sc₀.names x .globalImplicit := by first | ((with_reducible (repeat (first | exact KdIn.zero | apply KdIn.succ))); (first | (all_goals fail) | fail)) | exact kd_of rfl) (hcm : cm₀ = true := by rfl) :
    DS c (.Raise (some (.Call (.Name x p2) [.Constant (.str z) j p3] [] pos)) none pos') ρ rs P := by
  intro σ H G D he hs hX hd'
  have xc := er.xc x hx
  have eK := c.hm.K
  refine tS_of (ps_raise (c.calm hcm) c.tk (pmk_own PySem.F.excBase_ValueError (by rw [eK]; exact xc.q) (by rw [c.hm.mg]; exact er.nm x ht) (by rw [eK]; exact xc.kp) (raises_own (by rw [eK]; exact xc.ec.hs) (by rw [eK]; exact xc.ty)) (c_gl hg) (c.nd1 hg))) ?_
  exact hX (E x) σ H G ρ rs (Stp.refl _ _) he hs k
/-- the name of a class, not called -/
theorem dx_gcls (er : Errs m₀ E ra ts) (hy : y ∈ ts) (k : K (.r (.ref (E y))) rs) (hg : KdIn sc₀.names y .globalImplicit := by first | ((with_reducible (repeat (first | exact KdIn.zero | apply KdIn.succ))); (first | (all_goals fail) | fail)) | exact kd_of rfl) : DX c (.Name y pos) ρ rs K := by
  intro σ H G Q hE hs hx hq
  refine tE_of (pe_glob (v := .ref (E y)) (c_gl hg) (by rw [c.hm.mg]; exact er.nm y hy) rfl (c.nd1 hg)) ?_
  exact hq (.ref (E y)) H G (.r (.ref (E y))) rs (Stp.refl _ _) rfl hs k
theorem dx_tVE (hm : m₀.mg "ValueError" = none) (k : K (.r (.ty "ValueError")) rs) (hg : KdIn sc₀.names ("ValueError" : Str) .globalImplicit := by first | ((with_reducible (repeat (first | exact KdIn.zero | apply KdIn.succ))); (first | (all_goals fail) | fail)) | exact kd_of rfl) : DX c (.Name "ValueError" pos) ρ rs K := dx_ty hm b_VE k hg
theorem dx_isE (A : ExcAt c q D) (h : DA c [a, b] ρ rs fun ss r1 => CaD (rIsE m₀.K D q) ss r1 K) (hg : KdIn sc₀.names ("isinstance" : Str) .globalImplicit := by first | ((with_reducible (repeat (first | exact KdIn.zero | apply KdIn.succ))); (first | (all_goals fail) | fail)) | exact kd_of rfl) (he : starEach (a :: [b]) c.X.env = (false, eval a c.X.env) :: starEach [b] c.X.env := by rfl)
    (hpl : (backTo pos (starEach [b] c.X.env)).any (·.1) = false := by rfl) : DX c (.Call (.Name "isinstance" p2) [a, b] [] pos) ρ rs K := dx_callB A.one c.bl.isinstance b_isi h hg (he := he) (hpl := hpl)
theorem cd_isE1 {r : Bool} (er : Errs m₀ E ra ts) (hx : x ∈ ra) (hy : y ∈ ts) (hb : (decide (x = y) || decide (y = ("PaneError" : Str))) = r) (k : K (.d (.bool r)) rs) : CaD (rIsE m₀.K (E x) q) [.r (.ref q), .r (.ref (E y))] rs K := fun G H vs Q hv hs hq => by
  match vs, hv with
  | [v, w], hv =>
    have ev : v = .ref q := hv.1
    have ew : w = .ref (E y) := hv.2.1
    subst ev ew
    exact ⟨.ref (E y), .ref (E y), r, rfl, fun u z => z, by rw [← hb]; exact er.kit x hx y hy, give0 hs hq (sl := .d (.bool r)) (Is.bl r) k⟩
theorem cd_isEV (er : Errs m₀ E ra ts) (hx : x ∈ ra) (k : K (.d (.bool true)) rs) : CaD (rIsE m₀.K (E x) q) [.r (.ref q), .r (.ty "ValueError")] rs K := fun G H vs Q hv hs hq => by
  match vs, hv with
  | [v, w], hv =>
    have ev : v = .ref q := hv.1
    have ew : w = .ty "ValueError" := hv.2.1
    subst ev ew
    exact ⟨.ty "ValueError", .type "ValueError", true, rfl, fun u z => z, er.kitV x hx, give0 hs hq (sl := .d (.bool true)) (Is.bl true) k⟩
inductive RefsE (E : Str → Addr) : List Sl → List Str → Prop
  | nil : RefsE E [] []
  | cons {y ss ys} : RefsE E ss ys → RefsE E (.r (.ref (E y)) :: ss) (y :: ys)
theorem RefsE.vs {G : Fp} {H : Hp} : ∀ {ss : List Sl} {ys : List Str} {vs : List V}, RefsE E ss ys → SlAll G H vs ss → vs = (ys.map E).map V.ref
  | _, _, [], .nil, _ => rfl
  | _, _, v :: vs, .cons t, ⟨h, q⟩ => by
    have h : v = _ := h
    rw [h, t.vs q]; rfl
  | _, _, _ :: _, .nil, h => h.elim
  | _, _, [], .cons _, h => h.elim
theorem kitAny_er (er : Errs m₀ E ra ts) (hx : x ∈ ra) : ∀ {ys : List Str}, (∀ y ∈ ys, y ∈ ts) → kitAny m₀.K (.ref (E x)) ((ys.map E).map Value.ref) = some (ys.any fun y => decide (x = y) || decide (y = ("PaneError" : Str)))
  | [], _ => rfl
  | y :: ys, h => by
    have ih := kitAny_er er hx (ys := ys) fun z hz => h z (List.mem_cons_of_mem _ hz)
    have k := er.kit x hx y (h y List.mem_cons_self)
    rw [List.map_cons, List.map_cons]
    show (match kitOne m₀.K (.ref (E x)) (.ref (E y)) with | some true => some true | some false => kitAny m₀.K (.ref (E x)) ((ys.map E).map Value.ref) | none => none) = _
    rw [k, List.any_cons]
    cases (decide (x = y) || decide (y = ("PaneError" : Str))) with
    | true => rfl
    | false => rw [ih]; rfl
theorem dx_isET {kk} (er : Errs m₀ E ra ts) (A : ExcAt c q (E x)) (hx : x ∈ ra) (h : DX c a ρ rs fun s r => s = .r (.ref q) ∧ DA c es ρ r fun ss r2 => ∃ ys, RefsE E ss ys ∧ ∃ w, ((ys.all fun y => decide (y ∈ ts)) && decide (ys.length ≤ 100) && ((ys.any fun y => decide (x = y) || decide (y = ("PaneError" : Str))) == w)) = true ∧ K (.d (.bool w)) r2)
    (hg : KdIn sc₀.names ("isinstance" : Str) .globalImplicit := by first | ((with_reducible (repeat (first | exact KdIn.zero | apply KdIn.succ))); (first | (all_goals fail) | fail)) | exact kd_of rfl) (he : starEach (a :: [.Tuple es kk p3]) c.X.env = (false, eval a c.X.env) :: starEach [.Tuple es kk p3] c.X.env := by rfl) (he2 : starEach (.Tuple es kk p3 :: []) c.X.env = (false, eval (.Tuple es kk p3) c.X.env) :: starEach [] c.X.env := by rfl)
    (hpl : (backTo pos (starEach [.Tuple es kk p3] c.X.env)).any (·.1) = false := by rfl) : DX c (.Call (.Name "isinstance" p2) [a, .Tuple es kk p3] [] pos) ρ rs K := by
  intro σ H G Q hE hs hX hq
  refine tE_of (pe_callB A.many (c_gl hg) (by rw [c.hm.mg]; exact c.bl.isinstance) b_isi (pa_cons pe_t (pa_cons (pe_tup pa_t) pa_nil he2) he) (c.nd3 hg) (c.nd1 hg) he hpl) ?_
  refine h σ H G _ hE hs hX fun v H1 G1 s1 r1 t1 h1 o1 k1 => ?_
  obtain ⟨rfl, k1⟩ := k1
  have ev : v = .ref q := h1
  subst ev
  refine k1 σ H1 G1 _ (hE.stp t1) o1 (hX.stp t1) fun vs H2 G2 ss r2 t2 h2 o2 k2 => ?_
  obtain ⟨ys, hr, w, hw, k2⟩ := k2
  simp only [Bool.and_eq_true, List.all_eq_true, decide_eq_true_eq, beq_iff_eq] at hw
  have evs := hr.vs h2
  subst evs
  refine ⟨Nat.le_trans (by rw [List.length_map, List.length_map]; exact hw.1.2) (by decide), fun p hp => ?_⟩
  have t3 : Stp G2 G2 H2 (upd H2 p (.tup ((ys.map E).map V.ref))) := stp_new hp
  refine ⟨p, ys.map E, w, rfl, upd_same, ?_, ?_⟩
  · rw [← hw.2]; exact kitAny_er er hx hw.1.1
  · exact hq (.bl w) _ G2 (.d (.bool w)) r2 ((t1.trans t2).trans t3) (Is.bl w) (sepL.step t3.sub o2 fun a o q _ => same_new hp a o q) k2
/-! ### try -/
def Ctx.tr (c : Ctx m₀ N₀ sc₀ lv₀ xp₀ fF₀ cm₀) (pn : List (Addr × Obj)) (xe : Value → Shared → Prop) (W : WX) (xp : Addr → List Sl → List Mem → Prop) (tk : Takes (c.X.tr pn xe) W) (po : PassesOwn (model c.X.prog c.X.w) c.X.A c.X.env xe) : Ctx m₀ N₀ sc₀ lv₀ xp fF₀ cm₀ where
  X := c.X.tr pn xe
  W := W
  hm := ⟨c.hm.P, c.hm.w, c.hm.K, c.hm.mg, c.hm.base⟩
  hK := c.hK
  bl := c.bl
  hN := c.hN
  nd := c.nd
  hsc := c.hsc
  sok := c.sok
  calm := c.calm
  room := c.room
  un := c.un
  fs := c.fs
  tk := tk
  fn := c.fn
  po := po
def Ctx.suite (c : Ctx m₀ N₀ sc₀ lv₀ xp₀ fF₀ cm₀) (a : Addr) (pn : List (Addr × Obj)) : Ctx m₀ N₀ sc₀ lv₀ (fun _ _ _ => False) fF₀ false where
  X := c.X.suite a pn
  W := fun _ _ _ _ => False
  hm := ⟨c.hm.P, c.hm.w, c.hm.K, c.hm.mg, c.hm.base⟩
  hK := c.hK
  bl := c.bl
  hN := c.hN
  nd := c.nd
  hsc := c.hsc
  sok := c.sok
  calm := fun z => absurd z Bool.false_ne_true
  room := fun z => absurd z Bool.false_ne_true
  un := c.un
  fs := c.fs
  tk := takes0
  fn := c.fn
  po := PassesOwn.never
/-- what a caught error asks: D, the slots, the things as they stand -/
def CatchD (m₀ : Mo) (N₀ : List Str) (sc₀ : Scope) (lv₀ : Nat) (fF₀ : Bool) (E : Str → Addr) (ra : List Str) (n : Str) (suite : List Stmt) (P : Post) (D : Addr) (ρ : List Sl) (rs : List Mem) : Prop :=
  ∃ x ∈ ra, D = E x ∧ ∀ (a : Addr) (c' : Ctx m₀ N₀ sc₀ lv₀ (fun _ _ _ => False) fF₀ false), ExcAt c' a (E x) → ∃ i ρ2, SetS N₀ ρ n i (.r (.ref a)) ρ2 ∧
    DSs c' suite ρ2 rs ⟨fun ρ3 r3 => ∃ ρ4, SetS N₀ ρ3 n i .un ρ4 ∧ P.nx ρ4 r3, P.rt, fun ρ3 r3 => ∃ ρ4, SetS N₀ ρ3 n i .un ρ4 ∧ P.bk ρ4 r3, fun ρ3 r3 => ∃ ρ4, SetS N₀ ρ3 n i .un ρ4 ∧ P.ct ρ4 r3⟩
theorem xok0 {c : Ctx m₀ N₀ sc₀ lv₀ (fun _ _ _ => False) fF₀ cm₀} {G : Fp} {H : Hp} : XOk c G H := fun _ _ _ _ _ _ _ _ _ z => z.elim
theorem ds_try {body suite : List Stmt} {b₀ : Stmt} {n : Str} {i : Nat} (er : Errs m₀ E ra ts) (hp : ("PaneError" : Str) ∈ ts) (hi : IxOf N₀ n i)
    (body_ : ∀ c' : Ctx m₀ N₀ sc₀ lv₀ (CatchD m₀ N₀ sc₀ lv₀ fF₀ E ra n (b₀ :: suite) P) fF₀ cm₀, DSs c' body ρ rs P)
    (hF : fF₀ = true := by rfl) (hg : KdIn sc₀.names ("PaneError" : Str) .globalImplicit := by first | ((with_reducible (repeat (first | exact KdIn.zero | apply KdIn.succ))); (first | (all_goals fail) | fail)) | exact kd_of rfl) (hn : sc₀.names.lookup n = some .local := by rfl) :
    DS c (.Try body [.ExceptHandler (some (.Name "PaneError" np)) (some n) (b₀ :: suite) pos'] [] [] pos) ρ rs P := by
  intro σ H G D he hs hX hd
  have eK := c.hm.K
  have hcz : ∀ (x : Str), x ∈ ra → ∀ (a : Addr) (oe : Obj) (pn : List (Addr × Obj)), Zc (.ref (E x)) none oe → (∃ vs, oe.data = .fields vs) → ExcAt (c.suite a ((a, oe) :: pn)) a (E x) := fun x hx a oe pn hz hf =>
    ⟨eK ▸ call_isE (X := c.X) (eK.symm ▸ (er.xc x hx).ec) hz hf, eK ▸ call_isET (X := c.X) (eK.symm ▸ (er.xc x hx).ec) (eK.symm ▸ (er.xc x hx).cl) hz hf⟩
  refine tS_of (ps_try_as (i := i) (c := .ref (E "PaneError")) (tb := fun W D σ H => ∀ pn xe, Takes (c.X.tr pn xe) W → PassesOwn (model c.X.prog c.X.w) c.X.A c.X.env xe → tSs (c.X.tr pn xe) body D σ H)
    (ts := fun a cls d D σ H => ∀ oe pn, Zc cls d oe → (∃ vs, oe.data = .fields vs) → tSs (c.X.suite a ((a, oe) :: pn)) (b₀ :: suite) D σ H) (Wout := fun _ _ _ _ => False)
    (c.fs hF).1 (c.fs hF).2 (by rw [c.hN]; exact c.nd) (by rw [c.hN]; exact hi.get) (by show c.X.env.kindOf n = _; unfold Env.kindOf; rw [c.hsc]; exact hn) ⟨c_gl hg, c.nd1 hg, .inl (by rw [c.hm.mg]; exact er.nm _ hp)⟩ takes0
    (fun W pn xe tk po => ⟨fun pins s _ _ _ I h => h pn xe tk po pins s I⟩) (fun a oe cls d pn hz hf => ⟨fun pins s _ _ _ I h => h oe pn hz hf pins s I⟩)) ?_
  intro pn xe tk po
  refine body_ (c.tr pn xe _ _ tk po) σ H G D he hs (fun C σ' H' G' ρ' rs' t e o k => ?_) hd
  obtain ⟨x, hx, rfl, k⟩ := k
  refine ⟨true, eK ▸ er.ex x hx, fun _ a ha => ?_, fun z => Bool.noConfusion z⟩
  intro oe pn' hz hf
  obtain ⟨j, ρ2, hset, k⟩ := k a (c.suite a ((a, oe) :: pn')) (hcz x hx a oe pn' hz hf)
  have ej : j = i := set_ix hset hi c.nd
  subst ej
  have hd2 := hd.stp t
  refine k _ H' G' _ (hset.env (show SlOk G' H' (.ref a) (.r (.ref a)) from rfl) e) o xok0 ⟨fun σ3 H3 G3 ρ3 r3 t3 e3 o3 ⟨ρ4, hu, k3⟩ => hd2.nx _ H3 G3 ρ4 r3 t3 (set_un hu e3) o3 k3, hd2.rt, fun σ3 H3 G3 ρ3 r3 t3 e3 o3 ⟨ρ4, hu, k3⟩ => hd2.bk _ H3 G3 ρ4 r3 t3 (set_un hu e3) o3 k3, fun σ3 H3 G3 ρ3 r3 t3 e3 o3 ⟨ρ4, hu, k3⟩ => hd2.ct _ H3 G3 ρ4 r3 t3 (set_un hu e3) o3 k3⟩
end
end PW

set_option maxHeartbeats 1000000
/-! More glue: refusals, powers, texts. -/
namespace PW
open PySem L2
variable [KC]
variable {m₀ : Mo} {N₀ : List Str} {sc₀ : Scope} {lv₀ : Nat} {xp₀ : Addr → List Sl → List Mem → Prop} {fF₀ cm₀ : Bool}
section
variable {c : Ctx m₀ N₀ sc₀ lv₀ xp₀ fF₀ cm₀} {e a b o : Expr} {es : List Expr} {ρ ρ' : List Sl} {rs : List Mem} {K : Sl → List Mem → Prop} {KB : Bool → List Mem → Prop} {P : Post} {x y : Str} {pos pos' p2 p3 np apos cpos : Pos} {E : Str → Addr} {ra ts : List Str} {D q : Addr} {st : Stmt} {sts : List Stmt}
theorem end_ex {fr : Mem} {exc : Addr → List Mem → Prop} (h : exc D []) : ∃ rs', Ent [fr] (rs' ++ [fr]) ∧ exc D rs' := ⟨[], ent_refl, h⟩
theorem end_ex1 {fr A : Mem} {exc : Addr → List Mem → Prop} (h : exc D [A]) : ∃ rs', Ent [A, fr] (rs' ++ [fr]) ∧ exc D rs' := ⟨[A], ent_refl, h⟩
theorem catch_of {n : Str} {suite : List Stmt} (hx : x ∈ ra) (h : ∀ (a : Addr) (c' : Ctx m₀ N₀ sc₀ lv₀ (fun _ _ _ => False) fF₀ false), ExcAt c' a (E x) → ∃ i ρ2, SetS N₀ ρ n i (.r (.ref a)) ρ2 ∧
    DSs c' suite ρ2 rs ⟨fun ρ3 r3 => ∃ ρ4, SetS N₀ ρ3 n i .un ρ4 ∧ P.nx ρ4 r3, P.rt, fun ρ3 r3 => ∃ ρ4, SetS N₀ ρ3 n i .un ρ4 ∧ P.bk ρ4 r3, fun ρ3 r3 => ∃ ρ4, SetS N₀ ρ3 n i .un ρ4 ∧ P.ct ρ4 r3⟩) : CatchD m₀ N₀ sc₀ lv₀ fF₀ E ra n suite P (E x) ρ rs := ⟨x, hx, rfl, h⟩
theorem ex_refs {ss : List Sl} {ys : List Str} {w : Bool} {B : List Str → Bool → Prop} {K : Bool → Prop} (h : RefsE E ss ys) (hb : B ys w) (k : K w) : ∃ ys, RefsE E ss ys ∧ ∃ w, B ys w ∧ K w := ⟨ys, h, w, hb, k⟩
theorem ex_eqr {u : V} {B : Prop} (h : B) : Sl.r u = .r u ∧ B := ⟨rfl, h⟩
/-- any item -/
theorem od_ixA {s1 : Sl} {ds : List PyData} {i : Int} (h : s1.asSeq = some ds) (hi : 0 ≤ i ∧ i < ds.length) (k : ∀ d, d ∈ ds → K (.d d) rs) : OpD (rIx KC.K) s1 (.d (.int i)) rs K := by
  obtain ⟨d, h1, h2⟩ := atI_in hi
  exact od_ixs h h1 (k d (List.mem_of_getElem? h2))
theorem ds_doc {z : Str} {j : Nat} (h : P.nx ρ rs) : DS c (.Expr (.Constant (.str z) j pos) pos') ρ rs P := fun σ H G D hE hs hx hd => tS_of ps_doc (hd.nx σ H G ρ rs (Stp.refl _ _) hE hs h)
theorem cpow10 {n : Int} (h : 0 ≤ n ∧ n ≤ 1000 := by decide) : CPow 10 n := ⟨h.1, by omega, by decide⟩
theorem od_p3 (k : K (.d (.int 1000)) rs) : OpD (rI CPow fun i j => .int (i ^ j.toNat)) (.d (.int 10)) (.d (.int 3)) rs K := od_pow cpow10 (by rw [show (10 : Int) ^ (3 : Int).toNat = 1000 from by decide +kernel]; exact k)
theorem od_p6 (k : K (.d (.int 1000000)) rs) : OpD (rI CPow fun i j => .int (i ^ j.toNat)) (.d (.int 10)) (.d (.int 6)) rs K := od_pow cpow10 (by rw [show (10 : Int) ^ (6 : Int).toNat = 1000000 from by decide +kernel]; exact k)
theorem od_p9 (k : K (.d (.int 1000000000)) rs) : OpD (rI CPow fun i j => .int (i ^ j.toNat)) (.d (.int 10)) (.d (.int 9)) rs K := od_pow cpow10 (by rw [show (10 : Int) ^ (9 : Int).toNat = 1000000000 from by decide +kernel]; exact k)
theorem od_p20 (k : K (.d (.int 100000000000000000000)) rs) : OpD (rI CPow fun i j => .int (i ^ j.toNat)) (.d (.int 10)) (.d (.int 20)) rs K := od_pow cpow10 (by rw [show (10 : Int) ^ (20 : Int).toNat = 100000000000000000000 from by decide +kernel]; exact k)
theorem od_p30 (k : K (.d (.int 1000000000000000000000000000000)) rs) : OpD (rI CPow fun i j => .int (i ^ j.toNat)) (.d (.int 10)) (.d (.int 30)) rs K := od_pow cpow10 (by rw [show (10 : Int) ^ (30 : Int).toNat = 1000000000000000000000000000000 from by decide +kernel]; exact k)
theorem od_p40 (k : K (.d (.int 10000000000000000000000000000000000000000)) rs) : OpD (rI CPow fun i j => .int (i ^ j.toNat)) (.d (.int 10)) (.d (.int 40)) rs K := od_pow cpow10 (by rw [show (10 : Int) ^ (40 : Int).toNat = 10000000000000000000000000000000000000000 from by decide +kernel]; exact k)
theorem od_p50 (k : K (.d (.int 100000000000000000000000000000000000000000000000000)) rs) : OpD (rI CPow fun i j => .int (i ^ j.toNat)) (.d (.int 10)) (.d (.int 50)) rs K := od_pow cpow10 (by rw [show (10 : Int) ^ (50 : Int).toNat = 100000000000000000000000000000000000000000000000000 from by decide +kernel]; exact k)
theorem od_p58 (k : K (.d (.int 10000000000000000000000000000000000000000000000000000000000)) rs) : OpD (rI CPow fun i j => .int (i ^ j.toNat)) (.d (.int 10)) (.d (.int 58)) rs K := od_pow cpow10 (by rw [show (10 : Int) ^ (58 : Int).toNat = 10000000000000000000000000000000000000000000000000000000000 from by decide +kernel]; exact k)
theorem od_p59 (k : K (.d (.int 100000000000000000000000000000000000000000000000000000000000)) rs) : OpD (rI CPow fun i j => .int (i ^ j.toNat)) (.d (.int 10)) (.d (.int 59)) rs K := od_pow cpow10 (by rw [show (10 : Int) ^ (59 : Int).toNat = 100000000000000000000000000000000000000000000000000000000000 from by decide +kernel]; exact k)
theorem od_p60 (k : K (.d (.int 1000000000000000000000000000000000000000000000000000000000000)) rs) : OpD (rI CPow fun i j => .int (i ^ j.toNat)) (.d (.int 10)) (.d (.int 60)) rs K := od_pow cpow10 (by rw [show (10 : Int) ^ (60 : Int).toNat = 1000000000000000000000000000000000000000000000000000000000000 from by decide +kernel]; exact k)
/-! ### str(n), int(s) -/
def showI (n : Int) : Str := Str.ofString (toString n)
theorem cd_str {n : Int} (hn : n.natAbs.log2 < 1920) (k : K (.d (.str (showI n))) rs) : CaD (fun xs H Q => ∃ i : Int, xs = [.int i] ∧ i.natAbs.log2 < 1920 ∧ Q (.str (Str.ofString (toString i))) H) [.d (.int n)] rs K := fun G H vs Q hv hs hq => by
  match vs, hv with
  | [v], hv => exact ⟨n, by rw [hv.1.int], hn, give0 hs hq (sl := .d (.str (showI n))) (Is.str _) k⟩
theorem dx_cstr (h : DX c a ρ rs fun s r1 => ∃ n : Int, s = .d (.int n) ∧ n.natAbs.log2 < 1920 ∧ K (.d (.str (showI n))) r1) (hg : KdIn sc₀.names ("str" : Str) .globalImplicit := by first | ((with_reducible (repeat (first | exact KdIn.zero | apply KdIn.succ))); (first | (all_goals fail) | fail)) | exact kd_of rfl) (he : starEach [a] c.X.env = (false, eval a c.X.env) :: starEach [] c.X.env := by rfl) :
    DX c (.Call (.Name "str" p2) [a] [] pos) ρ rs K :=
  dx_callTy call_str_int c.bl.str b_str (da_cons (fun σ H G Q a1 a2 a3 a4 => h σ H G Q a1 a2 a3 fun v H' G' sl rs' t r o ⟨n, e, hn, k⟩ => a4 v H' G' sl rs' t r o (da_nil (by subst e; exact cd_str hn k))) he) hg (he := he) (hpl := rfl)
theorem cd_int {z : Str} {n : Int} (hz : PySem.intText? z = some n) (hl : z.length ≤ 640) (k : K (.d (.int n)) rs) : CaD (fun xs H Q => ∃ (a : Str) (n : Int), xs = [.str a] ∧ PySem.intText? a = some n ∧ a.length ≤ 640 ∧ Q (.int n) H) [.d (.str z)] rs K := fun G H vs Q hv hs hq => by
  match vs, hv with
  | [v], hv => exact ⟨z, n, by rw [hv.1.str], hz, hl, give0 hs hq (sl := .d (.int n)) (Is.int _) k⟩
theorem dx_cint (h : DX c a ρ rs fun s r1 => ∃ z : Str, s = .d (.str z) ∧ ∃ n, PySem.intText? z = some n ∧ z.length ≤ 640 ∧ K (.d (.int n)) r1) (hg : KdIn sc₀.names ("int" : Str) .globalImplicit := by first | ((with_reducible (repeat (first | exact KdIn.zero | apply KdIn.succ))); (first | (all_goals fail) | fail)) | exact kd_of rfl) (he : starEach [a] c.X.env = (false, eval a c.X.env) :: starEach [] c.X.env := by rfl) :
    DX c (.Call (.Name "int" p2) [a] [] pos) ρ rs K :=
  dx_callTy call_int_str c.bl.int b_int (da_cons (fun σ H G Q a1 a2 a3 a4 => h σ H G Q a1 a2 a3 fun v H' G' sl rs' t r o ⟨z, e, n, h1, h2, k⟩ => a4 v H' G' sl rs' t r o (da_nil (by subst e; exact cd_int h1 h2 k))) he) hg (he := he) (hpl := rfl)
theorem log2_ok {n : Int} (h : -(10 ^ 70) < n ∧ n < 10 ^ 70) : n.natAbs.log2 < 1920 := by
  have := PySem.Flt.log2_lt_of (n := n.natAbs) (k := 300) (by decide) (by omega)
  omega
/-! ### a thing is itself -/
mutual
theorem eqv_refl : ∀ d : PyData, d.canLay0 = true → PyData.eqv d d = true
  | .none, _ => rfl
  | .bool b, _ => by show (b == b) = true; simp
  | .int i, _ => by show (i == i) = true; simp
  | .str z, _ => by show (z == z) = true; simp
  | .list xs, h => eqvAll_refl xs h
  | .tuple xs, h => eqvAll_refl xs h
  | .dict kvs, h => nomatch h
theorem eqvAll_refl : ∀ xs : List PyData, PyData.canLayAll0 xs = true → PyData.eqvAll xs xs = true
  | [], _ => rfl
  | x :: xs, h => by
    have h : (x.canLay0 && PyData.canLayAll0 xs) = true := h
    rw [Bool.and_eq_true] at h
    show (PyData.eqv x x && PyData.eqvAll xs xs) = true
    rw [eqv_refl x h.1, eqvAll_refl xs h.2]; rfl
end
theorem eqv_shaped {d : PyData} (h : SeqAt.shaped d = true) : PyData.eqv d d = true := by
  unfold SeqAt.shaped at h
  rw [Bool.and_eq_true] at h
  exact eqv_refl d h.1
theorem od_eqS {s1 s2 : Sl} {d : PyData} (h1 : s1.plain = .d d) (h2 : s2.plain = .d d) (h : SeqAt.shaped d = true) (k : K (.d (.bool true)) rs) : OpD (uEq KC.K) s1 s2 rs K := od_eq h1 h2 (.dat h h) (by rw [eqv_shaped h]; exact k)
theorem od_neS {s1 s2 : Sl} {d : PyData} (h1 : s1.plain = .d d) (h2 : s2.plain = .d d) (h : SeqAt.shaped d = true) (k : K (.d (.bool false)) rs) : OpD (uNe KC.K) s1 s2 rs K := od_ne h1 h2 (.dat h h) (by rw [eqv_shaped h]; exact k)
/-! ### what kind of error -/
section
open PySem.W
theorem kit_yes {K : Frag} {D C : Addr} (hc : isClsIn K C = true) (ht : typeIn K (.ref C) = some (.type "type")) (hs : subIn K (.ref D) (.ref C) = some true) : kitOne K (.ref D) (.ref C) = some true := by
  unfold kitOne
  split
  · rfl
  · unfold kitCls
    dsimp only
    rw [if_pos]
    · exact hs
    · rw [ht]
      have hc : (clsIn K C).isSome = true := hc
      rw [hc]; rfl
theorem kit_no {K : Frag} {D C : Addr} (hc : isClsIn K C = true) (ht : typeIn K (.ref C) = some (.type "type")) (hr : subIn K (.ref D) (.ref D) = some true) (hs : subIn K (.ref D) (.ref C) = some false) : kitOne K (.ref D) (.ref C) = some false := by
  unfold kitOne
  split
  · rename_i e
    have e := eq_of_beq e
    cases e
    rw [hr] at hs; cases hs
  · unfold kitCls
    dsimp only
    rw [if_pos]
    · exact hs
    · rw [ht]
      have hc : (clsIn K C).isSome = true := hc
      rw [hc]; rfl
theorem kit_ve {K : Frag} {D : Addr} (hs : subIn K (.ref D) (.type "ValueError") = some true) : kitOne K (.ref D) (.type "ValueError") = some true := by
  unfold kitOne
  rw [if_neg (by intro z; cases eq_of_beq z)]
  unfold kitCls
  dsimp only
  rw [if_pos (by decide +kernel)]; exact hs
theorem exm_pe {K : Frag} {D C : Addr} (hb : subIn K (.ref C) (.type "BaseException") = some true) (hc : isClsIn K C = true) (ht : typeIn K (.ref C) = some (.type "type")) (hs : subIn K (.ref D) (.ref C) = some true) : exmOne K (.ref D) (.ref C) = some true := by
  unfold exmOne
  rw [hb, if_pos (by rfl)]
  unfold kitCls
  dsimp only
  rw [if_pos]
  · exact hs
  · rw [ht]
    have hc : (clsIn K C).isSome = true := hc
    rw [hc]; rfl
end
/-! ### whole -/
def wholeD (d : PyData) : Bool := isD "int" d && !isD "bool" d
theorem wholeD_int {d : PyData} (h : wholeD d = true) : ∃ n, d = .int n := by
  cases d with
  | int n => exact ⟨n, rfl⟩
  | _ => exact absurd h (by intro z; cases z)
end
end PW

set_option maxHeartbeats 1000000
/-! Objects of the text's classes. -/
namespace PW
open PySem L2
variable [KC]
variable {m₀ : Mo} {N₀ : List Str} {sc₀ : Scope} {lv₀ : Nat} {xp₀ : Addr → List Sl → List Mem → Prop} {fF₀ cm₀ : Bool}
/-- fields of an object -/
def FldAll (G : Fp) (H : Hp) : List (Str × V) → List (Str × Sl) → Prop
  | [], [] => True
  | (f, v) :: vs, (g, s) :: ss => f = g ∧ SlOk G H v s ∧ FldAll G H vs ss
  | _, _ => False
theorem FldAll.stp0 {G G' : Fp} {H H' : Hp} (k : ∀ a o, H a = some o → ¬ G a → H' a = some o) (t : ∀ a, G' a → G a ∨ H a = none) : ∀ {vs : List (Str × V)} {ss : List (Str × Sl)}, FldAll G H vs ss → FldAll G' H' vs ss
  | [], [], _ => trivial
  | (_, _) :: _, (_, _) :: _, ⟨e, h, q⟩ => ⟨e, SlOk.stp0 k t h, q.stp0 k t⟩
  | [], _ :: _, h => h.elim
  | _ :: _, [], h => h.elim
theorem FldAll.length {G : Fp} {H : Hp} : ∀ {vs : List (Str × V)} {ss : List (Str × Sl)}, FldAll G H vs ss → vs.length = ss.length
  | [], [], _ => rfl
  | (_, _) :: _, (_, _) :: _, ⟨_, _, q⟩ => congrArg (· + 1) q.length
  | [], _ :: _, h => h.elim
  | _ :: _, [], h => h.elim
/-- a field's place, found by its look -/
inductive FldAt : List (Str × Sl) → Str → Sl → Prop
  | zero {f s l} : FldAt ((f, s) :: l) f s
  | succ {f s l p} : FldAt l f s → FldAt (p :: l) f s
inductive FldSet : List (Str × Sl) → Str → Sl → List (Str × Sl) → Prop
  | zero {f s t l} : FldSet ((f, t) :: l) f s ((f, s) :: l)
  | succ {f s l l' p} : FldSet l f s l' → FldSet (p :: l) f s (p :: l')
theorem FldAt.mem {l : List (Str × Sl)} {f : Str} {s : Sl} (h : FldAt l f s) : f ∈ l.map (·.1) := by
  induction h with
  | zero => simp
  | succ _ ih => simp only [List.map_cons, List.mem_cons]; exact .inr ih
theorem FldSet.mem {l l' : List (Str × Sl)} {f : Str} {s : Sl} (h : FldSet l f s l') : f ∈ l.map (·.1) := by
  induction h with
  | zero => simp
  | succ _ ih => simp only [List.map_cons, List.mem_cons]; exact .inr ih
theorem FldSet.names {l l' : List (Str × Sl)} {f : Str} {s : Sl} (h : FldSet l f s l') : l'.map (·.1) = l.map (·.1) := by
  induction h with
  | zero => rfl
  | succ _ ih => simp only [List.map_cons, ih]
theorem FldAt.get {G : Fp} {H : Hp} {f : Str} {s : Sl} {l : List (Str × Sl)} (h : FldAt l f s) : ∀ {vs : List (Str × V)}, (l.map (·.1)).Nodup → FldAll G H vs l → ∃ v, vs.lookup f = some v ∧ SlOk G H v s := by
  induction h with
  | @zero f s l =>
    intro vs nd q
    match vs, q with
    | (g, v) :: vs, ⟨e, h, q⟩ => subst e; exact ⟨v, by simp [List.lookup], h⟩
  | @succ f s l p h ih =>
    intro vs nd q
    obtain ⟨g2, s2⟩ := p
    match vs, q with
    | (g, v) :: vs', ⟨e, h2, q'⟩ =>
      subst e
      rw [List.map_cons, List.nodup_cons] at nd
      have ne : (f == g) = false := by
        cases z : (f == g) with
        | false => rfl
        | true => have z := eq_of_beq z; subst z; exact absurd h.mem nd.1
      obtain ⟨w, h3, h4⟩ := ih nd.2 q'
      exact ⟨w, by rw [List.lookup_cons, ne]; exact h3, h4⟩
theorem FldSet.put {G : Fp} {H : Hp} {f : Str} {s : Sl} {v : V} {l l' : List (Str × Sl)} (h : FldSet l f s l') : ∀ {vs : List (Str × V)}, (l.map (·.1)).Nodup → SlOk G H v s → FldAll G H vs l → FldAll G H (putF f v vs) l' := by
  induction h with
  | @zero f s t l =>
    intro vs nd hv q
    match vs, q with
    | (g, w) :: vs', ⟨e, h, q'⟩ =>
      subst e
      show FldAll G H (if g = g then (g, v) :: vs' else (g, w) :: putF g v vs') _
      rw [if_pos rfl]; exact ⟨rfl, hv, q'⟩
  | @succ f s l l' p h ih =>
    intro vs nd hv q
    obtain ⟨g2, s2⟩ := p
    match vs, q with
    | (g, w) :: vs', ⟨e, h2, q'⟩ =>
      subst e
      rw [List.map_cons, List.nodup_cons] at nd
      have ne : ¬ g = f := fun z => by subst z; exact nd.1 h.mem
      show FldAll G H (if g = f then (g, v) :: vs' else (g, w) :: putF f v vs') _
      rw [if_neg ne]; exact ⟨rfl, h2, ih nd.2 hv q'⟩
theorem fld_new {G : Fp} {H : Hp} {f : Str} {s : Sl} {v : V} : ∀ {vs : List (Str × V)} {l : List (Str × Sl)}, f ∉ l.map (·.1) → SlOk G H v s → FldAll G H vs l → FldAll G H (putF f v vs) (l ++ [(f, s)])
  | [], [], _, hv, _ => ⟨rfl, hv, trivial⟩
  | (g, w) :: vs, (g2, s2) :: l, nd, hv, ⟨e, h2, q⟩ => by
    subst e
    rw [List.map_cons, List.mem_cons, not_or] at nd
    show FldAll G H (if g = f then (g, v) :: vs else (g, w) :: putF f v vs) _
    rw [if_neg fun z => nd.1 z.symm]; exact ⟨rfl, h2, fld_new nd.2 hv q⟩
  | [], _ :: _, _, _, h => h.elim
  | _ :: _, [], _, _, h => h.elim
theorem fld_none {G : Fp} {H : Hp} {f : Str} : ∀ {vs : List (Str × V)} {l : List (Str × Sl)}, f ∉ l.map (·.1) → FldAll G H vs l → vs.lookup f = none
  | [], [], _, _ => rfl
  | (g, w) :: vs, (g2, s2) :: l, nd, ⟨e, h2, q⟩ => by
    subst e
    rw [List.map_cons, List.mem_cons, not_or] at nd
    have ne : (f == g) = false := by
      cases z : (f == g) with
      | false => rfl
      | true => exact absurd (eq_of_beq z) nd.1
    rw [List.lookup_cons, ne]; exact fld_none nd.2 q
  | [], _ :: _, _, h => h.elim
  | _ :: _, [], _, h => h.elim
/-- an object at p, of the class at C -/
def insM (C p : Addr) (fs : List (Str × Sl)) : Mem where
  ok F G H := ∃ dx vs, (∀ a, F a ↔ a = p ∨ a = dx) ∧ dx ≠ p ∧ H p = some (.ins C dx vs) ∧ H dx = some (.own p) ∧ FldAll G H vs fs
  dom := fun ⟨dx, vs, e, _, h1, h2, _⟩ a q => by
    rcases (e a).mp q with z | z
    · subst z; exact ⟨_, h1⟩
    · subst z; exact ⟨_, h2⟩
  step := fun ⟨dx, vs, e, n, h1, h2, al⟩ k s => ⟨dx, vs, e, n, k _ _ h1 (.inl ((e p).mpr (.inl rfl))), k _ _ h2 (.inl ((e dx).mpr (.inr rfl))), al.stp0 (fun a o q n => k a o q (.inr n)) s⟩
/-- what an object's fields are, and how they are changed -/
theorem ins_at {G : Fp} {H : Hp} {rs : List Mem} {C p : Addr} {fs : List (Str × Sl)} {f : List Mem → List Mem} (pk : Pick rs (insM C p fs) f) (hs : sepL rs G G H) :
    ∃ dx vs, H p = some (.ins C dx vs) ∧ FldAll G H vs fs ∧ G p ∧ ∀ ws fs', FldAll G H ws fs' → Stp G G H (upd H p (.ins C dx ws)) ∧ sepL (f [insM C p fs']) G G (upd H p (.ins C dx ws)) := by
  obtain ⟨F1, F2, ⟨dx, vs, eF, n, h1, h2, al⟩, _, dj, eG⟩ := pk.split.mp hs
  have gp : G p := (eG p).mpr (.inl ((eF p).mpr (.inl rfl)))
  refine ⟨dx, vs, h1, al, gp, fun ws fs' aw => ?_⟩
  refine sepL.change (B := insM C p fs') pk hs fun F1 hA sub => ?_
  obtain ⟨dx', vs', e1, n', h1', h2', al'⟩ := hA
  have edx : dx' = dx := by rw [h1] at h1'; cases h1'; rfl
  subst edx
  have gdx : G dx' := sub _ ((e1 dx').mpr (.inr rfl))
  refine ⟨fun a o q n => ?_, fun a o q => ?_, dx', ws, e1, n', upd_same, ?_, aw.stp0 (fun a o q n => ?_) fun a g => .inl g⟩
  · rw [upd_ne fun z => n ((e1 a).mpr (.inl z))]; exact q
  · by_cases ea : a = p
    · subst ea; exact ⟨_, upd_same⟩
    · rw [upd_ne ea]; exact ⟨o, q⟩
  · rw [upd_ne n']; exact h2'
  · rw [upd_ne (fun z => n (by rw [z]; exact gp))]; exact q
/-- a class of plain objects, and the names that are none of its own -/
structure ObjC (m : Mo) (C : Addr) (fs : List Str) : Prop where
  cls : Cls m.K C
  na : ∀ f ∈ fs, NoAttr m.K C f
structure FldC (m : Mo) (C : Addr) (f : Str) : Prop where
  cls : Cls m.K C
  na : NoAttr m.K C f
theorem fldc {m : Mo} {C : Addr} {as : List Str} {f : Str} (oc : ObjC m C as) (hf : f ∈ as) : FldC m C f := ⟨oc.cls, oc.na f hf⟩
section
variable {c : Ctx m₀ N₀ sc₀ lv₀ xp₀ fF₀ cm₀} {e a b o : Expr} {es : List Expr} {ρ ρ' : List Sl} {rs : List Mem} {K : Sl → List Mem → Prop} {P : Post} {x f : Str} {pos pos' p2 apos cpos : Pos} {st : Stmt} {sts : List Stmt} {C : Addr} {as : List Str} {k : Nat} {Q0 : Cn}
/-- o.f -/
theorem dx_fld (h : DX c o ρ rs fun s r => ∃ C p fs g sl, s = .r (.ref p) ∧ Pick r (insM C p fs) g ∧ FldC m₀ C f ∧ FldAt fs f sl ∧ (fs.map (·.1)).Nodup ∧ (∀ ds, sl ≠ .n ds) ∧ K sl r)
    (hb : attributeBase o f c.X.env (eval o c.X.env) = eval o c.X.env := by rfl) : DX c (.Attribute o f pos) ρ rs K := by
  intro σ H G Q he hs hx hq
  refine tE_of (pe_fld pe_t hb) ?_
  refine h σ H G _ he hs hx fun v H1 G1 s1 r1 t1 h1 o1 k1 => ?_
  obtain ⟨C, p, fs, g, sl, rfl, pk, fc, ha, nd, hn, k1⟩ := k1
  have ev : v = .ref p := h1
  subst ev
  obtain ⟨dx, vs, hp, al, _, _⟩ := ins_at pk o1
  obtain ⟨w, hw, hk⟩ := ha.get nd al
  exact ⟨p, C, dx, vs, w, rfl, hp, c.hm.K ▸ fc.cls, c.hm.K ▸ fc.na, hw, hq w H1 G1 sl r1 t1 (Rs.of_ok hk hn) o1 k1⟩
/-- o.f = e -/
theorem ds_fld (h : DX c e ρ rs fun s r => DX c o ρ r fun s1 r1 => ∃ C p fs g fs', s1 = .r (.ref p) ∧ Pick r1 (insM C p fs) g ∧ FldC m₀ C f ∧ (FldSet fs f s.plain fs' ∨ (f ∉ fs.map (·.1) ∧ fs' = fs ++ [(f, s.plain)])) ∧ (fs.map (·.1)).Nodup ∧ fs.length < 100 ∧ P.nx ρ (g [insM C p fs']))
    (hw : swapsWith e (some (.Attribute o f pos')) pos.line c.X.env = pure false := by rfl) : DS c (.Assign [.Attribute o f pos'] e pos) ρ rs P := by
  intro σ H G D he hs hx hd
  refine tS_of (ps_fld pe_t pe_t hw) ?_
  refine h σ H G _ he hs hx fun v H1 G1 s r1 t1 h1 o1 k1 => ?_
  refine k1 σ H1 G1 _ (he.stp t1) o1 (hx.stp t1) fun v2 H2 G2 s1 r2 t2 h2 o2 k2 => ?_
  obtain ⟨C, p, fs, g, fs', rfl, pk, fc, hset, nd, hl, k2⟩ := k2
  have ev : v2 = .ref p := h2
  subst ev
  obtain ⟨dx, vs, hp, al, _, ch⟩ := ins_at pk o2
  have hv : SlOk G2 H2 v s.plain := h1.ok.plain.stp t2
  have hput : FldAll G2 H2 (putF f v vs) fs' := by
    rcases hset with z | ⟨z, rfl⟩
    · exact z.put nd hv al
    · exact fld_new z hv al
  obtain ⟨t3, o3⟩ := ch _ _ hput
  exact ⟨p, C, dx, vs, rfl, hp, c.hm.K ▸ fc.cls, c.hm.K ▸ fc.na, by rw [al.length]; exact Nat.lt_trans hl (by decide), hd.nx σ _ G2 ρ _ ((t1.trans t2).trans t3) (((he.stp t1).stp t2).stp t3) o3 k2⟩
theorem ex_fld {p : Addr} {fs : List (Str × Sl)} {g : List Mem → List Mem} {sl : Sl} {B : Sl → Prop} (pk : Pick rs (insM C p fs) g) (fc : FldC m₀ C f) (ha : FldAt fs f sl) (nd : (fs.map (·.1)).Nodup) (hn : ∀ ds, sl ≠ .n ds) (k : B sl) :
    ∃ C p' fs' g' sl', Sl.r (.ref p) = .r (.ref p') ∧ Pick rs (insM C p' fs') g' ∧ FldC m₀ C f ∧ FldAt fs' f sl' ∧ (fs'.map (·.1)).Nodup ∧ (∀ ds, sl' ≠ .n ds) ∧ B sl' := ⟨C, p, fs, g, sl, rfl, pk, fc, ha, nd, hn, k⟩
theorem ex_fset {p : Addr} {fs fs1 : List (Str × Sl)} {g : List Mem → List Mem} {s : Sl} {B : Addr → Addr → (List Mem → List Mem) → List (Str × Sl) → Prop} (pk : Pick rs (insM C p fs) g) (fc : FldC m₀ C f) (ha : FldSet fs f s fs1) (nd : (fs.map (·.1)).Nodup) (hl : fs.length < 100) (k : B C p g fs1) :
    ∃ C p' fs' g' fs2, Sl.r (.ref p) = .r (.ref p') ∧ Pick rs (insM C p' fs') g' ∧ FldC m₀ C f ∧ (FldSet fs' f s fs2 ∨ (f ∉ fs'.map (·.1) ∧ fs2 = fs' ++ [(f, s)])) ∧ (fs'.map (·.1)).Nodup ∧ fs'.length < 100 ∧ B C p' g' fs2 := ⟨C, p, fs, g, fs1, rfl, pk, fc, .inl ha, nd, hl, k⟩
theorem ex_fnew {p : Addr} {fs : List (Str × Sl)} {g : List Mem → List Mem} {s : Sl} {B : Addr → Addr → (List Mem → List Mem) → List (Str × Sl) → Prop} (pk : Pick rs (insM C p fs) g) (fc : FldC m₀ C f) (ha : f ∉ fs.map (·.1)) (nd : (fs.map (·.1)).Nodup) (hl : fs.length < 100) (k : B C p g (fs ++ [(f, s)])) :
    ∃ C p' fs' g' fs2, Sl.r (.ref p) = .r (.ref p') ∧ Pick rs (insM C p' fs') g' ∧ FldC m₀ C f ∧ (FldSet fs' f s fs2 ∨ (f ∉ fs'.map (·.1) ∧ fs2 = fs' ++ [(f, s)])) ∧ (fs'.map (·.1)).Nodup ∧ fs'.length < 100 ∧ B C p' g' fs2 := ⟨C, p, fs, g, _, rfl, pk, fc, .inr ⟨ha, rfl⟩, nd, hl, k⟩
/-! ### methods -/
/-- the thing A has an object of C at p, with no field x -/
def InsAt (A : Mem) (C p : Addr) (x : Str) : Prop := ∀ F G H, A.ok F G H → ∃ dx fs, H p = some (.ins C dx fs) ∧ fs.lookup x = none
theorem insAt_ins {p : Addr} {fs : List (Str × Sl)} (h : x ∉ fs.map (·.1)) : InsAt (insM C p fs) C p x := fun F G H ⟨dx, vs, _, _, h1, _, al⟩ => ⟨dx, vs, h1, fld_none h al⟩
theorem insAt_ex {α : Type} {fam : α → List Mem} {p : Addr} {fs : α → List (Str × Sl)} {tl : α → List Mem} (e : ∀ q, fam q = insM C p (fs q) :: tl q) (h : ∀ q, x ∉ (fs q).map (·.1)) : InsAt (exM fam) C p x := fun F G H ⟨q, z⟩ => by
  rw [e q] at z
  obtain ⟨F1, F2, h1, _⟩ := z
  exact insAt_ins (h q) F1 G H h1
theorem run_meth {X : Cx} {CX : CXT} {k : Nat} {g C : Addr} {fd : FuncData} {ps : List Str} {sp : Sp} {E : L2.St → XK} {m : Str} {pos apos : Pos} {e o : Expr} {es : List Expr} {ta : TE} {t : TA} {pl : Sem Bool} (he : PE X o ta) (ca : Cls X.K C) (hm : Meth X.K C m g)
    (F : FnOk X.prog X.w X.K X.mg X.base CX k g fd ps sp) (hr : Room k X.A) (hb : Binds X.K fd ps []) (hx : ∀ σ, PassesAt CX X σ (E σ)) (ha : PA X (e :: es) t)
    (h1 : starEach (e :: es) X.env = (false, eval e X.env) :: starEach es X.env) (h2 : (backTo pos (starEach es X.env)).any (·.1) = false)
    (ht : eval (.Call (.Attribute o m apos) (e :: es) [] pos) X.env = (do let ov ← eval o X.env; standAt apos.atName; let (f, first) ← holding [ov] (getMethod ov m pl); callWith pos f first (backTo pos (starEach (e :: es) X.env)) (backToKw pos (keywordEach [] X.env)))) :
    PE X (.Call (.Attribute o m apos) (e :: es) [] pos) (fun σ H Q => ta σ H fun x H1 => ∃ a dx fs, x = .ref a ∧ H1 a = some (.ins C dx fs) ∧ fs.lookup m = none ∧ t σ H1 fun vs H2 => sp (x :: vs) H2 Q (E σ)) := by
  constructor
  intro pins s σ H Q I h
  refine PySem.W.methodCall_KW (pl := pl) (he := ht) ?_
  refine thn (he.run pins s σ H _ I h) ?_
  rintro u s1 ⟨x, H1, I1, rx, a, dx, fs, rfl, ea, l, q⟩
  have eu : u = Value.ref a := rx
  rw [eu]
  apply getmeth_ok I1 ea ca hm l
  apply PySem.W.callWith_K (h₀ := X.base) I.ok.mod.kin hm.kp _ h1 h2
  refine thn (ha.run pos pins s1 σ H1 _ I1 q) ?_
  rintro us s2 ⟨vs, H2, I2, r, q2⟩
  refine ⟨I2.kIn, ?_⟩
  exact run_fnS (vs := .ref a :: vs) F hr hb (hx σ) I2 (.cons rfl r) q2
theorem sep_ins {A : Mem} {p : Addr} {g : List Mem → List Mem} (pk : Pick rs A g) (ia : InsAt A C p x) {G : Fp} {H : Hp} (hs : sepL rs G G H) : ∃ dx fs, H p = some (.ins C dx fs) ∧ fs.lookup x = none := by
  obtain ⟨F1, F2, h1, _⟩ := pk.split.mp hs
  exact ia _ _ _ h1
theorem dx_meth {pl : Sem Bool} (F : MtIs m₀ C x k Q0) (oc : ObjC m₀ C as) (h : DX c o ρ rs fun s r => ∃ p A g, s = .r (.ref p) ∧ Pick r A g ∧ InsAt A C p x ∧ DA c (e :: es) ρ r fun ss r1 => CallEnd c Q0 (.r (.ref p) :: ss) ρ r1 K)
    (hk : k ≤ lv₀ := by decide) (hcm : cm₀ = true := by rfl) (h1 : starEach (e :: es) c.X.env = (false, eval e c.X.env) :: starEach es c.X.env := by rfl) (h2 : (backTo pos (starEach es c.X.env)).any (·.1) = false := by rfl)
    (ht : eval (.Call (.Attribute o x apos) (e :: es) [] pos) c.X.env = (do let ov ← eval o c.X.env; standAt apos.atName; let (f, first) ← holding [ov] (getMethod ov x pl); callWith pos f first (backTo pos (starEach (e :: es) c.X.env)) (backToKw pos (keywordEach [] c.X.env))) := by rfl) :
    DX c (.Call (.Attribute o x apos) (e :: es) [] pos) ρ rs K := by
  intro σ H G Q hE hs hx hq
  obtain ⟨f, fd, ps, F, mt, hb⟩ := F.ex
  refine tE_of (run_meth (E := fun σ => WE c.W σ) pe_t (by rw [c.hm.K]; exact oc.cls) (by rw [c.hm.K]; exact mt) (fn_at c.hm F) ((c.room hcm).mono hk) (by rw [c.hm.K]; exact hb) (fun σ => passAt c.tk σ) pa_t h1 h2 ht) ?_
  refine h σ H G _ hE hs hx fun v H1 G1 s1 r1 t1 q1 o1 k1 => ?_
  obtain ⟨p, A, g, rfl, pk, ia, k1⟩ := k1
  have ev : v = .ref p := q1
  subst ev
  obtain ⟨dx, fs, hp, hl⟩ := sep_ins pk ia o1
  refine ⟨p, dx, fs, rfl, hp, hl, ?_⟩
  refine k1 σ H1 G1 _ (hE.stp t1) o1 (hx.stp t1) fun vs H2 G2 ss r2 t2 q2 o2 k2 => ?_
  exact k2.run ((hE.stp t1).stp t2) o2 ((hx.stp t1).stp t2) (show SlAll G2 H2 (.ref p :: vs) (.r (.ref p) :: ss) from ⟨rfl, q2⟩) fun v H' G' sl rs' t3 h3 o3 k3 => hq v H' G' sl rs' ((t1.trans t2).trans t3) (h3.back (t1.trans t2)) o3 k3
/-- without arguments: nothing is raised -/
def CallEnd0 (C : Cn) (ss : List Sl) (r1 : List Mem) (K : Sl → List Mem → Prop) : Prop :=
  (C ss [] (fun s r2 => K s (r2 ++ r1)) (fun _ _ => False)) ∨ ∃ A f, Pick r1 A f ∧ C ss [A] (fun s r2 => K s (f r2)) (fun _ _ => False)
theorem CallEnd0.run {C : Cn} {ss : List Sl} {r1 : List Mem} (h : CallEnd0 C ss r1 K) {H : Hp} {G : Fp} {vs : List V} {Q : VK} (hs : sepL r1 G G H) (hv : SlAll G H vs ss)
    (hq : ∀ v H' G' sl rs', Stp G G' H H' → Rs G' H H' v sl → sepL rs' G' G' H' → K sl rs' → Q v H') : spC C vs H Q (fun _ _ _ => False) := by
  rcases h with h | ⟨A, f, p, h⟩
  · refine ⟨ss, sepM r1, [], G, _, _, hv, sepM_app.mpr hs, h, fun v H' G' sl rs' t r o k => hq v H' G' sl _ t r (sepM_app.mp o) k, fun D H' G' rs' t o k => k⟩
  · refine ⟨ss, sepM (f []), [A], G, _, _, hv, sepM_app.mpr (p.split.mp hs), h, fun v H' G' sl rs' t r o k => hq v H' G' sl _ t r (p.put.mpr (sepM_app.mp o)) k, fun D H' G' rs' t o k => k⟩
theorem ce0_inr {C : Cn} {ss : List Sl} {r1 : List Mem} {A : Mem} {f : List Mem → List Mem} (p : Pick r1 A f) (h : C ss [A] (fun s r2 => K s (f r2)) (fun _ _ => False)) : CallEnd0 C ss r1 K := .inr ⟨A, f, p, h⟩
theorem dx_meth0 {pl : Sem Bool} (F : MtIs m₀ C x k Q0) (oc : ObjC m₀ C as) (h : DX c o ρ rs fun s r => ∃ p A g, s = .r (.ref p) ∧ Pick r A g ∧ InsAt A C p x ∧ CallEnd0 Q0 [.r (.ref p)] r K)
    (hk : k ≤ lv₀ := by decide) (hcm : cm₀ = true := by rfl)
    (ht : eval (.Call (.Attribute o x apos) [] [] pos) c.X.env = (do let ov ← eval o c.X.env; standAt apos.atName; let (f, first) ← holding [ov] (getMethod ov x pl); callWith pos f first (backTo pos (starEach [] c.X.env)) (backToKw pos (keywordEach [] c.X.env))) := by rfl) :
    DX c (.Call (.Attribute o x apos) [] [] pos) ρ rs K := by
  intro σ H G Q hE hs hx hq
  obtain ⟨f, fd, ps, F, mt, hb⟩ := F.ex
  refine tE_of (pe_meth0 pe_t (by rw [c.hm.K]; exact oc.cls) (by rw [c.hm.K]; exact mt) (fn_at c.hm F) ((c.room hcm).mono hk) (by rw [c.hm.K]; exact hb) .nil passL ht) ?_
  refine h σ H G _ hE hs hx fun v H1 G1 s1 r1 t1 q1 o1 k1 => ?_
  obtain ⟨p, A, g, rfl, pk, ia, k1⟩ := k1
  have ev : v = .ref p := q1
  subst ev
  obtain ⟨dx, fs, hp, hl⟩ := sep_ins pk ia o1
  refine ⟨p, dx, fs, rfl, hp, hl, ?_⟩
  exact k1.run o1 (show SlAll G1 H1 [.ref p] [.r (.ref p)] from ⟨rfl, trivial⟩) fun v H' G' sl rs' t3 h3 o3 k3 => hq v H' G' sl rs' (t1.trans t3) (h3.back t1) o3 k3
/-! ### an object made -/
/-- the class named x: its place, its __init__ -/
structure MkIs (m : Mo) (x : Str) (C : Addr) (k : Nat) (Q : Cn) : Prop where
  ex : ∃ f fd ps, FnOk m.P m.w m.K m.mg m.base (L2.CX m.P m.w) k f fd ps (spC Q) ∧ Mk m.K C f ∧ m.mg x = some (.ref C) ∧ Binds m.K fd ps []
theorem own_ins {G : Fp} {H : Hp} {rs : List Mem} {p dx : Addr} (hs : sepL rs G G H) (hp : H p = none) (hd : H dx = none) (ne : dx ≠ p) :
    ∃ G', Stp G G' H (upd (upd H dx (.own p)) p (.ins C dx [])) ∧ sepL (insM C p [] :: rs) G' G' (upd (upd H dx (.own p)) p (.ins C dx [])) := by
  have hsame : Same H (upd (upd H dx (.own p)) p (.ins C dx [])) := fun a u e => by rw [upd_ne (ne_of_none e hp), upd_ne (ne_of_none e hd)]; exact e
  have s : Stp G (fun a => (a = p ∨ a = dx) ∨ G a) H (upd (upd H dx (.own p)) p (.ins C dx [])) := ⟨fun a o q _ => hsame a o q, fun a g => by
    rcases g with (rfl | rfl) | g
    · exact .inr hp
    · exact .inr hd
    · exact .inl g, fun a o q => ⟨o, hsame a o q⟩⟩
  refine ⟨_, s, fun a => a = p ∨ a = dx, G, ⟨dx, [], fun a => Iff.rfl, ne, upd_same, by rw [upd_ne ne]; exact upd_same, trivial⟩, sepL.step s.sub hs fun a o q _ => hsame a o q, fun a e g => ?_, fun a => Iff.rfl⟩
  rcases e with rfl | rfl
  · exact hs.fresh hp g
  · exact hs.fresh hd g
theorem dx_make (M : MkIs m₀ x C k Q0) (h : DA c (e :: es) ρ rs fun ss r1 => ∀ p, Q0 (.r (.ref p) :: ss) [insM C p []] (fun s r2 => s = .d .none ∧ K (.r (.ref p)) (r2 ++ r1)) (fun _ _ => False))
    (hk : k + 1 ≤ lv₀ := by decide) (hcm : cm₀ = true := by rfl) (hg : KdIn sc₀.names x .globalImplicit := by first | ((with_reducible (repeat (first | exact KdIn.zero | apply KdIn.succ))); (first | (all_goals fail) | fail)) | exact kd_of rfl)
    (h1 : starEach (e :: es) c.X.env = (false, eval e c.X.env) :: starEach es c.X.env := by rfl) (h2 : (backTo pos (starEach es c.X.env)).any (·.1) = false := by rfl) : DX c (.Call (.Name x p2) (e :: es) [] pos) ρ rs K := by
  intro σ H G Q hE hs hx hq
  obtain ⟨f, fd, ps, F, mk, hmg, hb⟩ := M.ex
  refine tE_of (pe_make (by rw [c.hm.K]; exact mk) (fn_at c.hm F) ((c.room hcm).mono hk) (c_gl hg) (by rw [c.hm.mg]; exact hmg) (by rw [c.hm.K]; exact hb) .nil passL pa_t (c.nd1 hg) h1 h2) ?_
  refine h σ H G _ hE hs hx fun vs H1 G1 ss r1 t1 q1 o1 k1 => ?_
  intro p dx hp hd ne
  obtain ⟨G2, t2, o2⟩ := own_ins (C := C) o1 hp hd ne
  rw [List.append_nil]
  refine ⟨.r (.ref p) :: ss, sepM r1, [insM C p []], G2, _, _, (show SlAll G2 _ (.ref p :: vs) (.r (.ref p) :: ss) from ⟨rfl, q1.stp t2⟩), sepM_app.mpr o2, k1 p, fun v H' G' sl rs' t r o ⟨es, k⟩ => ?_, fun D H' G' rs' t o k => k⟩
  subst es
  have hv : Is G' H' v .none := r
  refine ⟨by cases hv; rfl, ?_⟩
  exact hq (.ref p) H' G' (.r (.ref p)) _ ((t1.trans t2).trans t) rfl (sepM_app.mp o) k
end
end PW

set_option maxHeartbeats 1000000
/-! New lists, owned from the start. -/
namespace PW
open PySem L2
variable [KC]
variable {m₀ : Mo} {N₀ : List Str} {sc₀ : Scope} {lv₀ : Nat} {xp₀ : Addr → List Sl → List Mem → Prop} {fF₀ cm₀ : Bool}
section
variable {c : Ctx m₀ N₀ sc₀ lv₀ xp₀ fF₀ cm₀} {e a b tg it : Expr} {es : List Expr} {ρ ρ' : List Sl} {rs : List Mem} {KI : List Sl → (List Mem → Prop) → List Mem → Prop} {x : Str} {pos pos' p2 : Pos}
theorem lc_runO {elt : Expr} {tt : TT} {scope : Scope} {j : Nat} {K : Sl → List Mem → Prop} (hso : ScOk (relS scope sc₀)) (hj : IxOf N₀ x j)
    (h : DI c (.Name x p2) it ρ rs fun items keep r => ∃ (α : Type) (xs : List α) (enc : α → Sl) (p : α → Bool) (h : α → PyData), items = xs.map enc ∧ (∀ A : Mem, keep (A :: r)) ∧ xs.length ≤ 100000 ∧
      (∃ ρw, SetS N₀ ρ x j .un ρw ∧ ∀ y ∈ xs, ∃ ρ2, SetS N₀ ρw x j (enc y) ρ2 ∧ (p y = true → ElD c scope elt ρ2 r (h y)) ∧
        ∀ (A : Mem) (σ : L2.St) (H : Hp) (G : Fp) (Q : Bool → Hp → Prop), EnvOk G H σ ρ2 → sepL (A :: r) G G H → (∀ H' G', Stp G G' H H' → sepL (A :: r) G' G' H' → Q (p y) H') → tt σ H Q) ∧
      ∀ D, K (.r (.ref D)) (lstM D (((xs.filter p).map h).map .d) :: r))
    {σ : L2.St} {H : Hp} {G : Fp} {Q : VK} (he : EnvOk G H σ ρ) (hs : sepL rs G G H) (hx : XOk c G H) (hq : ∀ v H' G' sl rs', Stp G G' H H' → Rs G' H H' v sl → sepL rs' G' G' H' → K sl rs' → Q v H') :
    tLc (tI c.X (.Name x p2) it) (gName j) tt (tBE c.X scope elt) [j] σ H Q := by
  refine h σ H G _ he hs hx fun J H1 G1 items keep r1 t1 o1 jok k1 => ?_
  obtain ⟨α, xs, enc, p, hh, rfl, hk, hlen, ⟨ρw, hw, ht⟩, kend⟩ := k1
  intro D hD
  -- the new list at D is a thing of one's own meanwhile
  have key : ∀ (acc : List V) (G' : Fp) (H' : Hp) (ds : List PyData), H' D = some (.lst acc) → IsAll G' H' acc ds → G' D → sepL (lstM D (ds.map .d) :: r1) G' G' H' → True := fun _ _ _ _ _ _ _ _ => trivial
  have nG1 : ¬ G1 D := o1.fresh hD
  obtain ⟨tj, oj⟩ := sepL.join (A := lstM D []) (H' := upd H1 D (.lst [])) o1 (same_new hD) hD ⟨fun a => Iff.rfl, [], upd_same, trivial⟩
  refine ⟨fun i m H' => m = xs.length - i ∧ i ≤ xs.length ∧ ∃ G', Stp G1 G' H1 H' ∧ sepL (lstM D (((xs.take i).filter p).map (fun y => .d (hh y))) :: r1) G' G' H', ⟨_, rfl, Nat.zero_le _, _, tj, oj⟩, ?_⟩
  rintro i m H' ⟨rfl, hle, G', t2, o2⟩
  have jk := jok G' H' _ t2 o2 (hk _) i
  by_cases hlt : i < xs.length
  · have hgo := jk.1 (by simpa using hlt)
    refine .inr ⟨hgo.1, fun H2 => ∃ G2, Stp G1 G2 H1 H2 ∧ sepL (lstM D (((xs.take (i + 1)).filter p).map (fun y => .d (hh y))) :: r1) G2 G2 H2, fun H2 ⟨G2, a, b⟩ => ⟨_, by omega, rfl, by omega, G2, a, b⟩, fun v H2 yl => ?_⟩
    obtain ⟨rfl, sl, hsl, hy⟩ := hgo.2 v H2 yl
    have hsl' : sl = enc xs[i] := by
      rw [List.getElem?_map, List.getElem?_eq_getElem hlt] at hsl
      exact (Option.some.inj hsl).symm
    subst hsl'
    obtain ⟨ρ2, hset, hel, htt⟩ := ht xs[i] (List.getElem_mem hlt)
    have tk : xs.take (i + 1) = xs.take i ++ [xs[i]] := by simp
    have eEnv : EnvOk G' H2 ((wipe σ [j]).set j (some v)) ρ2 := hset.env hy (set_un hw ((he.stp t1).stp t2))
    refine ⟨?_, ?_⟩
    · show ((σ.set j none).set j (some v)).set j none = σ.set j none
      rw [List.set_set, List.set_set]
    refine htt _ _ H2 G' _ eEnv o2 fun H3 G3 t3 o3 => ?_
    cases hp : p xs[i] with
    | false =>
      show ∃ G2, _
      refine ⟨G3, t2.trans t3, ?_⟩
      rw [tk, List.filter_append, List.filter_cons, if_neg (by rw [hp]; exact Bool.false_ne_true)]
      simpa using o3
    | true =>
      show tBE c.X scope elt _ H3 _
      intro s0 H0 C0 cl0 fp0
      refine hel hp _ s0 H0 C0 cl0 fp0 hso _ H3 G3 _ (eEnv.stp t3) o3 xok_blk fun w H4 G4 s4 r4 t4 h4 o4 k4 => ?_
      obtain ⟨e4, rfl⟩ := k4
      have hw4 : Is G4 H4 w (hh xs[i]) := plain_d e4 h4.ok
      obtain ⟨F1, F2, ⟨eF, acc, hD4, al⟩, oR, dj, eG⟩ := id o4
      have hle4 : acc.length ≤ xs.length := by
        have := al.length
        rw [List.length_map] at this
        have l2 : ((xs.take i).filter p).length ≤ (xs.take i).length := List.length_filter_le _ _
        rw [List.length_take] at l2
        omega
      refine ⟨acc, hD4, Nat.lt_of_le_of_lt (Nat.le_trans hle4 hlen) (by decide), G4, ?_, ?_⟩
      · have t14 := (t2.trans t3).trans t4
        refine ⟨fun a o q n => ?_, t14.sub, fun a o q => ?_⟩
        · rw [upd_ne (ne_of_none q hD)]
          exact t14.keep a o q n
        · by_cases ea : a = D
          · subst ea; exact ⟨_, upd_same⟩
          · rw [upd_ne ea]; exact t14.old a o q
      · have kp : ∀ a o, H4 a = some o → ¬ F1 a → upd H4 D (.lst (acc ++ [w])) a = some o := fun a o q n => by
          rw [upd_ne fun z => n ((eF a).mpr z)]
          exact q
        have gD : G4 D := (eG D).mpr (.inl ((eF D).mpr rfl))
        have kG : ∀ a o, H4 a = some o → ¬ G4 a → upd H4 D (.lst (acc ++ [w])) a = some o := fun a o q n => kp a o q fun z => n ((eG a).mpr (.inl z))
        refine ⟨F1, F2, ⟨eF, acc ++ [w], upd_same, ?_⟩, sepL.step (fun a g => .inl g) oR (fun a o q z => kp a o q fun y => ?_), dj, eG⟩
        · rw [tk, List.filter_append, List.filter_cons, if_pos hp, List.filter_nil, List.map_append]
          exact (al.stp0 kG fun a g => .inl g).append ⟨hw4.stp0 kG fun a g => .inl g, trivial⟩
        · rcases z with z | z
          · exact dj a y z
          · exact z ((eG a).mpr (.inl y))
  · have hi : i = xs.length := by omega
    subst hi
    rw [List.take_length] at o2
    refine .inl ⟨jk.2 (by simp), ?_⟩
    have e : ((xs.filter p).map hh).map Sl.d = (xs.filter p).map fun y => .d (hh y) := by rw [List.map_map]; rfl
    exact hq (.ref D) H' G' (.r (.ref D)) _ (t1.trans t2) rfl (by rw [e]; exact o2) (kend D)
theorem dx_lc0O {elt : Expr} {scope : Scope} {j : Nat} {K : Sl → List Mem → Prop} (hj : IxOf N₀ x j) (hok : BlkOk N₀ sc₀ scope [(x, j)])
    (h : DI c (.Name x p2) it ρ rs fun items keep r => ∃ (α : Type) (xs : List α) (enc : α → Sl) (h : α → PyData), items = xs.map enc ∧ (∀ A : Mem, keep (A :: r)) ∧ xs.length ≤ 100000 ∧
      (∃ ρw, SetS N₀ ρ x j .un ρw ∧ ∀ y ∈ xs, ∃ ρ2, SetS N₀ ρw x j (enc y) ρ2 ∧ ElD c scope elt ρ2 r (h y)) ∧ ∀ D, K (.r (.ref D)) (lstM D ((xs.map h).map .d) :: r))
    (hso : ScOk (relS scope sc₀) := by decide +kernel) (hcm : cm₀ = true := by rfl) (hl : scope.names.lookup x = some .local := by rfl) (hr : (relS scope sc₀).names.lookup x = some .local := by rfl) (hf : ∀ y, foldedSetIterable it c.X.env y = pure y := by intro _; rfl) : DX c (.ListComp elt [⟨.Name x p2, it, [], 0⟩] scope pos) ρ rs K := by
  intro σ H G Q he hs hx hq
  have nd : c.X.N.Nodup := by rw [c.hN]; exact c.nd
  have hi : c.X.N[j]? = some x := by rw [c.hN]; exact hj.get
  refine tE_of (pe_lc (own := [(x, j)]) (g := gName j) (tt := tYes) (te := tBE c.X scope elt) (c.calm hcm) nd pi_t (by rw [c.hN, c.hsc]; exact hok) (fun s H C cl fp => pg_name nd hi (.inl (by show (relS scope c.X.env.scope).names.lookup x = _; rw [c.hsc]; exact hr)) (.inr (by show (relS scope c.X.env.scope).names.lookup x = _; rw [c.hsc]; exact hr))) (fun _ _ _ _ _ => pts_nil) (fun s H C cl fp => pe_b s H C cl fp) hf) ?_
  refine lc_runO (K := K) hso hj ?_ he hs hx hq
  refine fun σ H G R a b d k => h σ H G R a b d fun J H' G' items keep rs' t o jo q => k J H' G' items keep rs' t o jo ?_
  obtain ⟨α, xs, enc, hh, e1, e2, e3, ⟨ρw, w1, w2⟩, e5⟩ := q
  refine ⟨α, xs, enc, fun _ => true, hh, e1, e2, e3, ⟨ρw, w1, fun y hy => ?_⟩, by
    have z : xs.filter (fun _ => true) = xs := List.filter_eq_self.mpr fun _ _ => rfl
    rw [z]; exact e5⟩
  obtain ⟨ρ2, s1, s2⟩ := w2 y hy
  exact ⟨ρ2, s1, fun _ => s2, fun A σ H G Q _ o2 hq => hq H G (Stp.refl _ _) o2⟩
theorem dx_lc1O {elt t : Expr} {scope : Scope} {j : Nat} {K : Sl → List Mem → Prop} (hj : IxOf N₀ x j) (hok : BlkOk N₀ sc₀ scope [(x, j)])
    (h : DI c (.Name x p2) it ρ rs fun items keep r => ∃ (α : Type) (xs : List α) (enc : α → Sl) (p : α → Bool) (h : α → PyData), items = xs.map enc ∧ (∀ A : Mem, keep (A :: r)) ∧ xs.length ≤ 100000 ∧
      (∃ ρw, SetS N₀ ρ x j .un ρw ∧ ∀ y ∈ xs, ∃ ρ2, SetS N₀ ρw x j (enc y) ρ2 ∧ TsD c scope t ρ2 r (p y) ∧ (p y = true → ElD c scope elt ρ2 r (h y))) ∧ ∀ D, K (.r (.ref D)) (lstM D (((xs.filter p).map h).map .d) :: r))
    (hso : ScOk (relS scope sc₀) := by decide +kernel) (hcm : cm₀ = true := by rfl) (hl : scope.names.lookup x = some .local := by rfl) (hr : (relS scope sc₀).names.lookup x = some .local := by rfl) (hf : ∀ y, foldedSetIterable it c.X.env y = pure y := by intro _; rfl) : DX c (.ListComp elt [⟨.Name x p2, it, [t], 0⟩] scope pos) ρ rs K := by
  intro σ H G Q he hs hx hq
  have nd : c.X.N.Nodup := by rw [c.hN]; exact c.nd
  have hi : c.X.N[j]? = some x := by rw [c.hN]; exact hj.get
  refine tE_of (pe_lc (own := [(x, j)]) (g := gName j) (tt := tBT c.X scope t) (te := tBE c.X scope elt) (c.calm hcm) nd pi_t (by rw [c.hN, c.hsc]; exact hok) (fun s H C cl fp => pg_name nd hi (.inl (by show (relS scope c.X.env.scope).names.lookup x = _; rw [c.hsc]; exact hr)) (.inr (by show (relS scope c.X.env.scope).names.lookup x = _; rw [c.hsc]; exact hr))) (fun s H C cl fp => pts_one (pt_b s H C cl fp)) (fun s H C cl fp => pe_b s H C cl fp) hf) ?_
  refine lc_runO (K := K) hso hj ?_ he hs hx hq
  refine fun σ H G R a b d k => h σ H G R a b d fun J H' G' items keep rs' t o jo q => k J H' G' items keep rs' t o jo ?_
  obtain ⟨α, xs, enc, p, hh, e1, e2, e3, ⟨ρw, w1, w2⟩, e5⟩ := q
  refine ⟨α, xs, enc, p, hh, e1, e2, e3, ⟨ρw, w1, fun y hy => ?_⟩, e5⟩
  obtain ⟨ρ2, s1, s2, s3⟩ := w2 y hy
  refine ⟨ρ2, s1, s3, fun A σ H G Q ee o2 hq => ?_⟩
  intro s0 H0 C0 cl0 fp0
  refine s2 A s0 H0 C0 cl0 fp0 hso σ H G _ ee o2 xok_blk fun k H1 G1 r1 t1 o1 k1 => ?_
  obtain ⟨rfl, rfl⟩ := k1
  exact hq H1 G1 t1 o1
theorem ds_lc0O {P : Post} {y : Str} {py : Pos} {i : Nat} {elt : Expr} {scope : Scope} {j : Nat} (hiy : IxOf N₀ y i) (hj : IxOf N₀ x j) (hok : BlkOk N₀ sc₀ scope [(x, j)])
    (h : DI c (.Name x p2) it ρ rs fun items keep r => ∃ (α : Type) (xs : List α) (enc : α → Sl) (h : α → PyData), items = xs.map enc ∧ (∀ A : Mem, keep (A :: r)) ∧ xs.length ≤ 100000 ∧
      (∃ ρw, SetS N₀ ρ x j .un ρw ∧ ∀ y ∈ xs, ∃ ρ2, SetS N₀ ρw x j (enc y) ρ2 ∧ ElD c scope elt ρ2 r (h y)) ∧ ∀ D, ∃ ρ', SetS N₀ ρ y i (.r (.ref D)) ρ' ∧ P.nx ρ' (lstM D ((xs.map h).map .d) :: r))
    (hso : ScOk (relS scope sc₀) := by decide +kernel) (hcm : cm₀ = true := by rfl) (hl : scope.names.lookup x = some .local := by rfl) (hr : (relS scope sc₀).names.lookup x = some .local := by rfl) (hyl : sc₀.names.lookup y = some .local := by rfl) (hkd : sc₀.kind = .function := by rfl) (hln : (py.line == pos.line) = true := by rfl) (hny : (scope.names.any fun (n, k) => n == y && (k == .local || k == .cell)) = false := by first | rfl | decide +kernel)
    (hf : ∀ y, foldedSetIterable it c.X.env y = pure y := by intro _; rfl) : DS c (.Assign [.Name y py] (.ListComp elt [⟨.Name x p2, it, [], 0⟩] scope pos) pos') ρ rs P := by
  intro σ H G D he hs hx hd
  have nd : c.X.N.Nodup := by rw [c.hN]; exact c.nd
  have hi : c.X.N[j]? = some x := by rw [c.hN]; exact hj.get
  have hyi : c.X.N[i]? = some y := by rw [c.hN]; exact hiy.get
  refine tS_of (ps_setLc (own := [(x, j)]) (g := gName j) (tt := tYes) (te := tBE c.X scope elt) (c.calm hcm) nd hyi (by rw [c.hsc]; exact hyl) (sw_true (by rw [c.hsc]; exact hkd) (by rw [c.hsc]; exact hyl) hln hny) pi_t (by rw [c.hN, c.hsc]; exact hok) (fun s H C cl fp => pg_name nd hi (.inl (by show (relS scope c.X.env.scope).names.lookup x = _; rw [c.hsc]; exact hr)) (.inr (by show (relS scope c.X.env.scope).names.lookup x = _; rw [c.hsc]; exact hr))) (fun _ _ _ _ _ => pts_nil) (fun s H C cl fp => pe_b s H C cl fp) hf) ?_
  refine lc_runO (K := fun s r => ∃ ρ', SetS N₀ ρ y i s.plain ρ' ∧ P.nx ρ' r) (Q := fun v H' => D.nx (σ.set i (some v)) H') hso hj ?_ he hs hx fun v H' G' sl r' t q o ⟨ρ', z, k⟩ => hd.nx _ H' G' ρ' r' t (z.env q.ok.plain (he.stp t)) o k
  refine fun σ H G R a b d k => h σ H G R a b d fun J H' G' items keep rs' t o jo q => k J H' G' items keep rs' t o jo ?_
  obtain ⟨α, xs, enc, hh, e1, e2, e3, ⟨ρw, w1, w2⟩, e5⟩ := q
  refine ⟨α, xs, enc, fun _ => true, hh, e1, e2, e3, ⟨ρw, w1, fun y hy => ?_⟩, by
    have z : xs.filter (fun _ => true) = xs := List.filter_eq_self.mpr fun _ _ => rfl
    rw [z]; exact e5⟩
  obtain ⟨ρ2, s1, s2⟩ := w2 y hy
  exact ⟨ρ2, s1, fun _ => s2, fun A σ H G Q _ o2 hq => hq H G (Stp.refl _ _) o2⟩
theorem ds_lc1O {P : Post} {y : Str} {py : Pos} {i : Nat} {elt t : Expr} {scope : Scope} {j : Nat} (hiy : IxOf N₀ y i) (hj : IxOf N₀ x j) (hok : BlkOk N₀ sc₀ scope [(x, j)])
    (h : DI c (.Name x p2) it ρ rs fun items keep r => ∃ (α : Type) (xs : List α) (enc : α → Sl) (p : α → Bool) (h : α → PyData), items = xs.map enc ∧ (∀ A : Mem, keep (A :: r)) ∧ xs.length ≤ 100000 ∧
      (∃ ρw, SetS N₀ ρ x j .un ρw ∧ ∀ y ∈ xs, ∃ ρ2, SetS N₀ ρw x j (enc y) ρ2 ∧ TsD c scope t ρ2 r (p y) ∧ (p y = true → ElD c scope elt ρ2 r (h y))) ∧ ∀ D, ∃ ρ', SetS N₀ ρ y i (.r (.ref D)) ρ' ∧ P.nx ρ' (lstM D (((xs.filter p).map h).map .d) :: r))
    (hso : ScOk (relS scope sc₀) := by decide +kernel) (hcm : cm₀ = true := by rfl) (hl : scope.names.lookup x = some .local := by rfl) (hr : (relS scope sc₀).names.lookup x = some .local := by rfl) (hyl : sc₀.names.lookup y = some .local := by rfl) (hkd : sc₀.kind = .function := by rfl) (hln : (py.line == pos.line) = true := by rfl) (hny : (scope.names.any fun (n, k) => n == y && (k == .local || k == .cell)) = false := by first | rfl | decide +kernel)
    (hf : ∀ y, foldedSetIterable it c.X.env y = pure y := by intro _; rfl) : DS c (.Assign [.Name y py] (.ListComp elt [⟨.Name x p2, it, [t], 0⟩] scope pos) pos') ρ rs P := by
  intro σ H G D he hs hx hd
  have nd : c.X.N.Nodup := by rw [c.hN]; exact c.nd
  have hi : c.X.N[j]? = some x := by rw [c.hN]; exact hj.get
  have hyi : c.X.N[i]? = some y := by rw [c.hN]; exact hiy.get
  refine tS_of (ps_setLc (own := [(x, j)]) (g := gName j) (tt := tBT c.X scope t) (te := tBE c.X scope elt) (c.calm hcm) nd hyi (by rw [c.hsc]; exact hyl) (sw_true (by rw [c.hsc]; exact hkd) (by rw [c.hsc]; exact hyl) hln hny) pi_t (by rw [c.hN, c.hsc]; exact hok) (fun s H C cl fp => pg_name nd hi (.inl (by show (relS scope c.X.env.scope).names.lookup x = _; rw [c.hsc]; exact hr)) (.inr (by show (relS scope c.X.env.scope).names.lookup x = _; rw [c.hsc]; exact hr))) (fun s H C cl fp => pts_one (pt_b s H C cl fp)) (fun s H C cl fp => pe_b s H C cl fp) hf) ?_
  refine lc_runO (K := fun s r => ∃ ρ', SetS N₀ ρ y i s.plain ρ' ∧ P.nx ρ' r) (Q := fun v H' => D.nx (σ.set i (some v)) H') hso hj ?_ he hs hx fun v H' G' sl r' t q o ⟨ρ', z, k⟩ => hd.nx _ H' G' ρ' r' t (z.env q.ok.plain (he.stp t)) o k
  refine fun σ H G R a b d k => h σ H G R a b d fun J H' G' items keep rs' t o jo q => k J H' G' items keep rs' t o jo ?_
  obtain ⟨α, xs, enc, p, hh, e1, e2, e3, ⟨ρw, w1, w2⟩, e5⟩ := q
  refine ⟨α, xs, enc, p, hh, e1, e2, e3, ⟨ρw, w1, fun y hy => ?_⟩, e5⟩
  obtain ⟨ρ2, s1, s2, s3⟩ := w2 y hy
  refine ⟨ρ2, s1, s3, fun A σ H G Q ee o2 hq => ?_⟩
  intro s0 H0 C0 cl0 fp0
  refine s2 A s0 H0 C0 cl0 fp0 hso σ H G _ ee o2 xok_blk fun k H1 G1 r1 t1 o1 k1 => ?_
  obtain ⟨rfl, rfl⟩ := k1
  exact hq H1 G1 t1 o1
end
section
variable {c : Ctx m₀ N₀ sc₀ lv₀ xp₀ fF₀ cm₀} {e a b o : Expr} {es : List Expr} {ρ ρ' : List Sl} {rs : List Mem} {K : Sl → List Mem → Prop} {P : Post} {x f : Str} {pos pos' p2 : Pos} {s1 s2 : Sl}
theorem cut_all {G : Fp} {H : Hp} {vs : List V} {ss : List Sl} (h : SlAll G H vs ss) (lo hi : Option Int) : SlAll G H (cutV vs lo hi) (cutL ss lo hi) := by
  have hd : ∀ (n : Nat) {vs : List V} {ss : List Sl}, SlAll G H vs ss → SlAll G H (vs.drop n) (ss.drop n) := by
    intro n
    induction n with
    | zero => intro vs ss h; exact h
    | succ n ih =>
      intro vs ss h
      match vs, ss, h with
      | [], [], _ => exact trivial
      | _ :: vs, _ :: ss, h => exact ih h.2
  have ht : ∀ (n : Nat) {vs : List V} {ss : List Sl}, SlAll G H vs ss → SlAll G H (vs.take n) (ss.take n) := by
    intro n
    induction n with
    | zero => intro vs ss h; cases vs <;> cases ss <;> exact trivial
    | succ n ih =>
      intro vs ss h
      match vs, ss, h with
      | [], [], _ => exact trivial
      | _ :: vs, _ :: ss, h => exact ⟨h.1, ih h.2⟩
  unfold cutV cutL
  rw [h.length]
  exact ht _ (hd _ h)
theorem ex_seq {s : Sl} {ds : List PyData} {K : List PyData → Prop} (e : s.asSeq = some ds) (h : K ds) : ∃ ds, s.asSeq = some ds ∧ K ds := ⟨ds, e, h⟩
def isI : PyData → Bool
  | .int _ => true
  | _ => false
/-- any item of a list of ints -/
theorem od_ixI {rs : List Mem} {K : Sl → List Mem → Prop} {s1 : Sl} {ds : List PyData} {i : Int} (h : s1.asSeq = some ds) (hi : 0 ≤ i ∧ i < ds.length) (ha : ds.all isI = true) (k : ∀ n : Int, K (.d (.int n)) rs) : OpD (rIx KC.K) s1 (.d (.int i)) rs K := od_ixA h hi fun d hd => by
  have := List.all_eq_true.mp ha d hd
  cases d with
  | int n => exact k n
  | _ => cases this
theorem layAll : ∀ {ds : List PyData}, (∀ d ∈ ds, d.canLay0 = true) → PyData.canLayAll0 ds = true
  | [], _ => rfl
  | d :: ds, h => by
    show (d.canLay0 && PyData.canLayAll0 ds) = true
    rw [h d List.mem_cons_self, layAll fun x hx => h x (List.mem_cons_of_mem _ hx)]; rfl
theorem depAll {n : Nat} : ∀ {ds : List PyData}, (∀ d ∈ ds, d.depth ≤ n) → PyData.depthAll ds ≤ n
  | [], _ => Nat.zero_le _
  | d :: ds, h => by
    show max d.depth (PyData.depthAll ds) ≤ n
    exact Nat.max_le.mpr ⟨h d List.mem_cons_self, depAll fun x hx => h x (List.mem_cons_of_mem _ hx)⟩
theorem shaped_list {ds : List PyData} (n : Nat) (hn : n + 1 ≤ 64) (h : ∀ d ∈ ds, d.canLay0 = true ∧ d.depth ≤ n) : SeqAt.shaped (.list ds) = true := by
  unfold SeqAt.shaped
  rw [Bool.and_eq_true]
  refine ⟨layAll fun d hd => (h d hd).1, decide_eq_true ?_⟩
  have := depAll (n := n) fun d hd => (h d hd).2
  show PyData.depthAll ds + 1 ≤ 64
  omega
theorem eqv_t2 (a b d e : Int) : PyData.eqv (.tuple [.int a, .int b]) (.tuple [.int d, .int e]) = (decide (a = d) && decide (b = e)) := by
  show ((a == d) && ((b == e) && true)) = _
  rw [Bool.and_true]
  by_cases h : a = d <;> by_cases h2 : b = e <;> simp [h, h2]
def Has (rs Bs : List Mem) : Prop := ∃ rest, Grab rs Bs rest
theorem has_nil {rs : List Mem} : Has rs [] := ⟨rs, .nil⟩
theorem has_cons {rs Bs : List Mem} {A : Mem} {f : List Mem → List Mem} (pk : Pick rs A f) (h : Has (f []) Bs) : Has rs (A :: Bs) := h.elim fun r g => ⟨r, .cons pk g⟩
theorem ent_has {rs Bs : List Mem} (h : Has rs Bs) : Ent rs Bs := h.elim fun _ g => ent_grab g
theorem cut_1 {α : Type} (xs : List α) : cutL xs (some 1) none = xs.drop 1 := by
  unfold cutL HT.sIx
  simp only [show ¬ ((1 : Int) < 0) by decide, if_false]
  rw [show (1 : Int).toNat = 1 from rfl]
  cases xs with
  | nil => rfl
  | cons a l =>
    rw [List.length_cons, Nat.min_eq_left (by omega), List.drop_succ_cons, List.drop_zero]
    exact List.take_of_length_le (by simp)
/-- xs[lo:hi] of an owned list, owned -/
theorem sd_own {p : Addr} {ss : List Sl} {f : List Mem → List Mem} {lo hi : Option Int} (pk : Pick rs (lstM p ss) f) (k : ∀ q, K (.r (.ref q)) (lstM q (cutL ss lo hi) :: rs)) : SlD (uSl KC.K) (.r (.ref p)) lo hi rs K := fun G H x Q hx hs hq => by
  have ex : x = .ref p := hx
  subst ex
  obtain ⟨vs, hp, al, _, _⟩ := lst_at pk hs
  refine .inl ⟨p, vs, rfl, .inl (.inl hp), fun z hz => ?_⟩
  obtain ⟨t, o⟩ := own_new hs hz (cut_all al lo hi)
  exact hq _ _ _ (.r (.ref z)) _ t rfl o (k z)
theorem sd_t42 {x1 x2 x3 x4 : PyData} (k : K (.d (.tuple [x1, x2])) rs) : SlD (uSl KC.K) (.d (.tuple [x1, x2, x3, x4])) none (some 2) rs K := sd_tup (by simp only [List.length_cons, List.length_nil]; decide) k
theorem sd_t4f2 {x1 x2 x3 x4 : PyData} (k : K (.d (.tuple [x3, x4])) rs) : SlD (uSl KC.K) (.d (.tuple [x1, x2, x3, x4])) (some 2) none rs K := sd_tup (by simp only [List.length_cons, List.length_nil]; decide) k
/-- list(xs) of an owned list, owned -/
theorem dx_listO (h : DX c a ρ rs fun s r1 => ∃ p ss f, s = .r (.ref p) ∧ Pick r1 (lstM p ss) f ∧ ∀ q, K (.r (.ref q)) (lstM q ss :: r1)) (hg : KdIn sc₀.names ("list" : Str) .globalImplicit := by first | ((with_reducible (repeat (first | exact KdIn.zero | apply KdIn.succ))); (first | (all_goals fail) | fail)) | exact kd_of rfl) (he : starEach [a] c.X.env = (false, eval a c.X.env) :: starEach [] c.X.env := by rfl) :
    DX c (.Call (.Name "list" p2) [a] [] pos) ρ rs K := by
  refine dx_callTy (c.ck ▸ call_list_of) c.bl.list b_list (da_cons (fun σ H G Q a1 a2 a3 a4 => h σ H G Q a1 a2 a3 fun v H' G' sl rs' t r o ⟨p, ss, f, e, pk, k⟩ => a4 v H' G' sl rs' t r o (da_nil ?_)) he) hg (he := he) (hpl := rfl)
  subst e
  intro G H vs Q hv hs hq
  match vs, hv with
  | [v], hv =>
    have ev : v = .ref p := hv.1
    subst ev
    obtain ⟨ws, hp, al, _, _⟩ := lst_at pk hs
    refine ⟨p, ws, rfl, .inl (.inl (.inl hp)), fun l hl => ?_⟩
    obtain ⟨t, o⟩ := own_new hs hl al
    exact hq _ _ _ (.r (.ref l)) _ t rfl o (k l)
/-- list(xs) of a plain one, owned -/
theorem dx_listD (h : DX c a ρ rs fun s r1 => ∃ ds, s.plain.asSeq = some ds ∧ ∀ q, K (.r (.ref q)) (lstM q (ds.map .d) :: r1)) (hg : KdIn sc₀.names ("list" : Str) .globalImplicit := by first | ((with_reducible (repeat (first | exact KdIn.zero | apply KdIn.succ))); (first | (all_goals fail) | fail)) | exact kd_of rfl) (he : starEach [a] c.X.env = (false, eval a c.X.env) :: starEach [] c.X.env := by rfl) :
    DX c (.Call (.Name "list" p2) [a] [] pos) ρ rs K := by
  refine dx_callTy (c.ck ▸ call_list_of) c.bl.list b_list (da_cons (fun σ H G Q a1 a2 a3 a4 => h σ H G Q a1 a2 a3 fun v H' G' sl rs' t r o ⟨ds, e, k⟩ => a4 v H' G' sl rs' t r o (da_nil ?_)) he) hg (he := he) (hpl := rfl)
  intro G H vs Q hv hs hq
  match vs, hv with
  | [v], hv =>
    obtain ⟨p, ws, rfl, r, al⟩ := hv.1.seq e
    refine ⟨p, ws, rfl, r.imp LsAt.sq .inl, fun l hl => ?_⟩
    obtain ⟨t, o⟩ := own_new hs hl (SlAll.of_is al)
    exact hq _ _ _ (.r (.ref l)) _ t rfl o (k l)
end
end PW

set_option maxHeartbeats 1000000
/-! Texts. -/
namespace PW
open PySem L2
variable [KC]
variable {m₀ : Mo} {N₀ : List Str} {sc₀ : Scope} {lv₀ : Nat} {xp₀ : Addr → List Sl → List Mem → Prop} {fF₀ cm₀ : Bool}
/-- a method of a text with one argument, as the text has it -/
structure M1ok (X : Cx) (o : Expr) (m : Str) (e : Expr) (apos pos : Pos) : Prop where
  hs : starEach [e] X.env = [(false, eval e X.env)]
  hb : attributeBase o m X.env (eval o X.env) = eval o X.env
  hl : (apos.endLine == pos.line) = true
section
variable {c : Ctx m₀ N₀ sc₀ lv₀ xp₀ fF₀ cm₀} {e a b o : Expr} {es : List Expr} {ρ ρ' : List Sl} {rs : List Mem} {K : Sl → List Mem → Prop} {P : Post} {x f : Str} {pos pos' p2 apos : Pos} {s1 s2 : Sl}
theorem dx_join (h : DX c o ρ rs fun s r => ∃ z, s = .d (.str z) ∧ DX c a ρ r fun s2 r2 => ∃ ys : List Str, s2.asList = some (ys.map .str) ∧ (ys.map (·.length)).sum + ys.length * z.length ≤ 16777216 ∧ K (.d (.str (Txt.join z ys))) r2)
    (hm : M1ok c.X o "join" a apos pos := by exact ⟨rfl, rfl, rfl⟩) : DX c (.Call (.Attribute o "join" apos) [a] [] pos) ρ rs K := by
  intro σ H G Q he hs hx hq
  refine tE_of (pe_join pe_t pe_t hm.hs hm.hb hm.hl) ?_
  refine h σ H G _ he hs hx fun v H1 G1 s1 r1 t1 h1 o1 k1 => ?_
  obtain ⟨z, rfl, k1⟩ := k1
  refine ⟨⟨z, h1.ok.str⟩, ?_⟩
  refine k1 σ H1 G1 _ (he.stp t1) o1 (hx.stp t1) fun w H2 G2 s2 r2 t2 h2 o2 k2 => ?_
  obtain ⟨ys, ey, hb, k2⟩ := k2
  obtain ⟨p, vs, rfl, rd, al⟩ := h2.ok.list ey
  have ev : vs = ys.map V.str := by
    clear ey hb k2 rd
    induction ys generalizing vs with
    | nil => cases al; rfl
    | cons y ys ih =>
      cases al with
      | cons q t => cases q; rw [ih _ t]; rfl
  subst ev
  exact ⟨z, p, ys, h1.ok.str, rfl, .inl (c.ck ▸ rd.sq), hb, hq _ H2 G2 (.d (.str _)) r2 (t1.trans t2) (Is.str _) o2 k2⟩
theorem dx_find (h : DX c o ρ rs fun s r => ∃ z, s = .d (.str z) ∧ DX c a ρ r fun s2 r2 => ∃ y, s2 = .d (.str y) ∧ K (.d (.int (Txt.find z y))) r2)
    (hm : M1ok c.X o "find" a apos pos := by exact ⟨rfl, rfl, rfl⟩) : DX c (.Call (.Attribute o "find" apos) [a] [] pos) ρ rs K := by
  intro σ H G Q he hs hx hq
  refine tE_of (pe_m1 PySem.F.slot_str_find PySem.F.type_str_find mt_find pe_t pe_t hm.hs hm.hb hm.hl) ?_
  refine h σ H G _ he hs hx fun v H1 G1 s1 r1 t1 h1 o1 k1 => ?_
  obtain ⟨z, rfl, k1⟩ := k1
  refine ⟨⟨z, h1.ok.str⟩, ?_⟩
  refine k1 σ H1 G1 _ (he.stp t1) o1 (hx.stp t1) fun w H2 G2 s2 r2 t2 h2 o2 k2 => ?_
  obtain ⟨y, rfl, k2⟩ := k2
  exact ⟨z, y, h1.ok.str, by rw [h2.ok.str], hq _ H2 G2 (.d (.int _)) r2 (t1.trans t2) (Is.int _) o2 k2⟩
end
def nm : Option Str → PyData
  | none => .none
  | some z => .str z
def okO : Option Str → Prop
  | none => True
  | some z => PyData.strOk z = true
theorem od_isnm {rs : List Mem} {K : Sl → List Mem → Prop} {n : Option Str} (k : K (.d (.bool n.isNone)) rs) : OpD uIs (.d (nm n)) (.d .none) rs K := by
  cases n with
  | none => exact od_is rfl k
  | some z => exact od_is rfl k
theorem od_isnnm {rs : List Mem} {K : Sl → List Mem → Prop} {n : Option Str} (k : K (.d (.bool (!n.isNone))) rs) : OpD uIsn (.d (nm n)) (.d .none) rs K := by
  cases n with
  | none => exact od_isn rfl k
  | some z => exact od_isn rfl k
theorem od_nenm {rs : List Mem} {K : Sl → List Mem → Prop} {n k : Option Str} (h : K (.d (.bool (!decide (n = k)))) rs) : OpD (uNe KC.K) (.d (nm n)) (.d (nm k)) rs K := by
  cases n with
  | none => cases k with
    | none => exact od_ne rfl rfl .nn h
    | some z => exact od_ne rfl rfl (.ns z) h
  | some y => cases k with
    | none => exact od_ne rfl rfl (.sn y) h
    | some z =>
      refine od_ne rfl rfl (.str y z) ?_
      have e : decide (y = z) = decide (some y = some z) := by by_cases q : y = z <;> simp [q]
      rw [e]; exact h
theorem atI_mem {α : Type} {xs : List α} {i : Int} (h : -(xs.length : Int) ≤ i ∧ i < xs.length) : ∃ v, atI xs i = some v ∧ v ∈ xs := by
  by_cases h0 : 0 ≤ i
  · obtain ⟨v, h1, h2⟩ := atI_in (xs := xs) (i := i) ⟨h0, h.2⟩
    exact ⟨v, h1, List.mem_of_getElem? h2⟩
  · have hj : (i + xs.length).toNat < xs.length := by omega
    refine ⟨xs[(i + xs.length).toNat], ?_, List.getElem_mem hj⟩
    unfold atI ixN
    rw [if_neg h0, if_pos h.1]
    simp [hj]
theorem ex_seti {rs : List Mem} {p : Addr} {ss : List Sl} {f : List Mem → List Mem} {k : Int} {j : Nat} {B : Addr → List Sl → (List Mem → List Mem) → Nat → Prop} (pk : Pick rs (lstM p ss) f) (hj : ixN ss.length k = some j) (h : B p ss f j) :
    ∃ p' ss' f' k' j', Sl.r (.ref p) = .r (.ref p') ∧ Sl.d (.int k) = .d (.int k') ∧ Pick rs (lstM p' ss') f' ∧ ixN ss'.length k' = some j' ∧ B p' ss' f' j' := ⟨p, ss, f, k, j, rfl, rfl, pk, hj, h⟩
theorem end_rtE {fr : Mem} {res : Sl → List Mem → Prop} {b b' : Bool} (e : b = b') (h : res (.d (.bool b)) []) : (bodyPost fr res).rt (.d (.bool b')) [fr] := fin [] ent_refl (e ▸ h)
theorem sd_t625 {rs : List Mem} {K : Sl → List Mem → Prop} {x1 x2 x3 x4 x5 x6 : PyData} (k : K (.d (.tuple [x3, x4, x5])) rs) : SlD (uSl KC.K) (.d (.tuple [x1, x2, x3, x4, x5, x6])) (some 2) (some 5) rs K := sd_tup (by simp only [List.length_cons, List.length_nil]; decide) k
section
variable {c : Ctx m₀ N₀ sc₀ lv₀ xp₀ fF₀ cm₀} {ρ : List Sl} {rs : List Mem} {P : Post} {A B : List Stmt}
/-- both ways meet again -/
theorem ite_cut {k : Bool} (I : List Sl → List Mem → Prop) (h1 : k = true → DSs c A ρ rs { P with nx := I }) (h2 : k = false → DSs c B ρ rs { P with nx := I }) (h3 : ∀ ρ' r', I ρ' r' → P.nx ρ' r') : if k = true then DSs c A ρ rs P else DSs c B ρ rs P := by
  cases k with
  | true => exact dss_weak (h1 rfl) h3 (fun _ _ z => z) (fun _ _ z => z) fun _ _ z => z
  | false => exact dss_weak (h2 rfl) h3 (fun _ _ z => z) (fun _ _ z => z) fun _ _ z => z
end
theorem fold_signs (g : Str) (hg : g.cps = #[]) : ∀ (ns : List Nat) (acc : Array Nat), (ns.map fun n => (⟨#[n]⟩ : Str)).foldl (fun acc p => acc ++ g.cps ++ p.cps) acc = acc ++ ns.toArray
  | [], acc => by simp
  | n :: ns, acc => by
    rw [List.map_cons, List.foldl_cons, fold_signs g hg ns, hg]
    apply Array.ext'
    simp
theorem join_signs (g : Str) (hg : g.cps = #[]) (ns : List Nat) : Txt.join g (ns.map fun n => (⟨#[n]⟩ : Str)) = ⟨ns.toArray⟩ := by
  unfold Txt.join Builtin.Str.glued
  cases ns with
  | nil => rfl
  | cons n ns =>
    rw [List.map_cons, List.headD_cons, List.drop_succ_cons, List.drop_zero, fold_signs g hg]
    congr 1
    apply Array.ext'
    simp
theorem sum_ones (ns : List Nat) : ((ns.map fun n => (⟨#[n]⟩ : Str)).map (·.length)).sum = ns.length := by
  induction ns with
  | nil => rfl
  | cons n ns ih => rw [List.map_cons, List.map_cons, List.sum_cons, ih, List.length_cons, Nat.add_comm]; rfl
/-! ### signs that are signs -/
theorem ok_mk {ns : List Nat} (h : ∀ n ∈ ns, n < 1114112) : PyData.strOk ⟨ns.toArray⟩ = true := by
  unfold PyData.strOk
  rw [Array.all_eq_true_iff_forall_mem]
  intro n hn
  exact decide_eq_true (h n (by simpa using hn))
theorem ok_mem {z : Str} (h : PyData.strOk z = true) : ∀ n ∈ z.cps.toList, n < 1114112 := by
  unfold PyData.strOk at h
  rw [Array.all_eq_true_iff_forall_mem] at h
  intro n hn
  exact of_decide_eq_true (h n (by simpa using hn))
theorem ok_cut {z : Str} (h : PyData.strOk z = true) (lo hi : Option Int) : PyData.strOk (cutS z lo hi) = true := by
  unfold cutS
  exact ok_mk fun n hn => ok_mem h n (List.mem_of_mem_drop (List.mem_of_mem_take hn))
theorem ok_app {x y : Str} (h : PyData.strOk x = true) (h2 : PyData.strOk y = true) : PyData.strOk (x ++ y) = true := by
  have e : (x ++ y : Str) = ⟨(x.cps.toList ++ y.cps.toList).toArray⟩ := by
    show (⟨x.cps ++ y.cps⟩ : Str) = _
    congr 1
    apply Array.ext'
    simp
  rw [e]
  exact ok_mk fun n hn => (List.mem_append.mp hn).elim (ok_mem h n) (ok_mem h2 n)
theorem cut_lenS (z : Str) (lo hi : Option Int) : (cutS z lo hi).length ≤ z.length := by
  unfold cutS
  show (List.toArray _).size ≤ z.cps.size
  rw [List.size_toArray, List.length_take, List.length_drop]
  have : z.cps.toList.length = z.cps.size := by simp
  omega
theorem app_lenS (x y : Str) : (x ++ y : Str).length = x.length + y.length := by
  show (x.cps ++ y.cps).size = _
  rw [Array.size_append]; rfl
end PW

set_option maxHeartbeats 1000000
/-! Backwards, in, times. -/
namespace PW
open PySem L2
variable [KC]
variable {m₀ : Mo} {N₀ : List Str} {sc₀ : Scope} {lv₀ : Nat} {xp₀ : Addr → List Sl → List Mem → Prop} {fF₀ cm₀ : Bool}
section
variable {c : Ctx m₀ N₀ sc₀ lv₀ xp₀ fF₀ cm₀} {e a b o tg : Expr} {es : List Expr} {ρ ρ' : List Sl} {rs : List Mem} {K : Sl → List Mem → Prop} {KI : List Sl → (List Mem → Prop) → List Mem → Prop} {P : Post} {x f : Str} {pos pos' p2 apos : Pos} {s1 s2 : Sl}
/-- for x in reversed(xs) -/
theorem di_rev (h : DA c [a] ρ rs fun ss r => ∃ s ds, ss = [s] ∧ s.asList = some ds ∧ KI (ds.map .d).reverse (fun _ => True) r) (hg : KdIn sc₀.names ("reversed" : Str) .globalImplicit := by first | ((with_reducible (repeat (first | exact KdIn.zero | apply KdIn.succ))); (first | (all_goals fail) | fail)) | exact kd_of rfl)
    (hs : starEach [a] c.X.env = [(false, eval a c.X.env)] := by rfl) : DI c tg (.Call (.Name "reversed" p2) [a] [] pos) ρ rs KI := by
  intro σ H G R he hS hx hr
  refine tI_of (c.ck ▸ pi_reversed (c_gl hg) (by rw [c.hm.mg]; exact c.bl.reversed) pa_t hs) ?_
  refine h σ H G _ he hS hx fun vs H1 G1 ss r1 t1 h1 o1 k1 => ?_
  obtain ⟨s, ds, rfl, e1, k1⟩ := k1
  match vs, h1 with
  | [v], h1 =>
    obtain ⟨p, xs, rfl, rd, al⟩ := h1.1.list e1
    refine ⟨p, xs, rfl, rd.sq, hr _ H1 G1 _ _ r1 t1 o1 (fun G2 H2 r2 t2 o2 _ i => ?_) k1⟩
    have rd2 : SqL KC.K H2 p xs := (ls_stp0 t2.keep t2.sub rd).sq
    have al2 := al.stp t2
    have hlen : ((ds.map Sl.d).reverse).length = xs.length := by rw [List.length_reverse, List.length_map, al.length]
    constructor
    · intro hi
      rw [hlen] at hi
      refine ⟨⟨hi, xs, xs[xs.length - 1 - i], rd2, by simp⟩, fun y H3 z => ?_⟩
      obtain ⟨e3, z⟩ := z
      obtain ⟨d, hd, hI⟩ := al2.getV (i := xs.length - 1 - i) (v := y) (z xs rd2)
      refine ⟨e3, .d d, ?_, hI⟩
      rw [List.getElem?_reverse (by rw [List.length_map, ← al.length]; exact hi), List.length_map, ← al.length, List.getElem?_map, hd]; rfl
    · intro hi
      rw [hlen] at hi
      exact hi
/-- d in [..], any data -/
theorem cInD : OpR c.X (compareOp .In) (rInD KC.K) := c.ck ▸ op_inD (by have := c.un; omega)
theorem cNinD : OpR c.X (compareOp .NotIn) (rNotInD KC.K) := c.ck ▸ op_notInD (by have := c.un; omega)
theorem od_inD {d : PyData} {ds : List PyData} (v1 : View rs s1 d) (v2 : View rs s2 (.list ds)) (h1 : SeqAt.shaped d = true) (h2 : SeqAt.shaped (.list ds) = true) (k : K (.d (.bool (ds.any fun z => PyData.eqv z d))) rs) : OpD (rInD KC.K) s1 s2 rs K := fun G H x y Q hx hy hs hq =>
  ⟨d, ds, v1 G H x hx hs, v2 G H y hy hs, h1, h2, give0 hs hq (sl := .d (.bool _)) (Is.bl _) k⟩
theorem od_ninD {d : PyData} {ds : List PyData} (v1 : View rs s1 d) (v2 : View rs s2 (.list ds)) (h1 : SeqAt.shaped d = true) (h2 : SeqAt.shaped (.list ds) = true) (k : K (.d (.bool (!ds.any fun z => PyData.eqv z d))) rs) : OpD (rNotInD KC.K) s1 s2 rs K := fun G H x y Q hx hy hs hq =>
  ⟨d, ds, v1 G H x hx hs, v2 G H y hy hs, h1, h2, give0 hs hq (sl := .d (.bool _)) (Is.bl _) k⟩
theorem all_rep {G : Fp} {H : Hp} {vs : List V} {ss : List Sl} (h : SlAll G H vs ss) : ∀ n : Nat, SlAll G H (List.replicate n vs).flatten (List.replicate n ss).flatten
  | 0 => trivial
  | n + 1 => by
    rw [List.replicate_succ, List.replicate_succ, List.flatten_cons, List.flatten_cons]
    exact h.append (all_rep h n)
/-- [..] * k, owned -/
theorem od_mulO {p : Addr} {ss : List Sl} {g : List Mem → List Mem} {k : Int} (pk : Pick rs (lstM p ss) g) (hk : -(2 ^ 60) ≤ k ∧ k < 2 ^ 60) (hl : ss.length * k.toNat ≤ 100000) (kk : ∀ q, K (.r (.ref q)) (lstM q (List.replicate k.toNat ss).flatten :: rs)) : OpD uMul (.r (.ref p)) (.d (.int k)) rs K := od_r fun G H x y Q hx hy hs hq => by
  have ex : x = .ref p := hx
  subst ex
  obtain ⟨vs, hp, al, _, _⟩ := lst_at pk hs
  refine ⟨p, k, vs, rfl, hy.int, hp, by omega, by omega, by rw [al.length]; exact Nat.le_trans hl (by decide), fun q hq0 => ?_⟩
  obtain ⟨t, o⟩ := own_new hs hq0 (all_rep al k.toNat)
  exact hq _ _ _ (.r (.ref q)) _ t rfl o (kk q)
end
end PW

set_option maxHeartbeats 1000000
/-! Lists of one's own, lent to a call as plain data. -/
namespace PW
open PySem L2
variable [KC]
variable {m₀ : Mo} {N₀ : List Str} {sc₀ : Scope} {lv₀ : Nat} {xp₀ : Addr → List Sl → List Mem → Prop} {fF₀ cm₀ : Bool}
/-! ### data without lists -/
mutual
def noL : PyData → Bool
  | .list _ => false
  | .dict _ => false
  | .tuple ds => noLA ds
  | _ => true
def noLA : List PyData → Bool
  | [] => true
  | d :: ds => noL d && noLA ds
end
/-- G' has, beyond G, only lists -/
def More (G G' : Fp) (H : Hp) : Prop := ∀ a, G' a → G a ∨ ∃ vs, H a = some (.lst vs)
section
variable {G G' : Fp} {H : Hp}
theorem noL_t (ds : List PyData) : noL (.tuple ds) = noLA ds := by simp only [noL]
theorem noL_l (ds : List PyData) : noL (.list ds) = false := by simp only [noL]
theorem noLA_c (d : PyData) (ds : List PyData) : noLA (d :: ds) = (noL d && noLA ds) := by simp only [noLA]
theorem tup_more (m : More G G' H) {a : Addr} {xs : List V} (r : Rd H a (.tup xs)) (n : ¬ G a) : ¬ G' a := fun g => by
  rcases m a g with z | ⟨vs, z⟩
  · exact n z
  · rcases r with r | ⟨o, r⟩
    · rw [z] at r; cases r
    · rw [z] at r; cases r
mutual
theorem Is.more (m : More G G' H) : ∀ {v : V} {d : PyData}, Is G H v d → noL d = true → Is G' H v d
  | _, _, .non, _ => .non
  | _, _, .bl b, _ => .bl b
  | _, _, .int i, _ => .int i
  | _, _, .str x, _ => .str x
  | _, _, .lst (ds := ds) _ _, h => by rw [noL_l ds] at h; cases h
  | _, _, .tup (ds := ds) r n t, h => .tup r (tup_more m r n) (IsAll.more m t ((noL_t ds).symm.trans h))
theorem IsAll.more (m : More G G' H) : ∀ {vs : List V} {ds : List PyData}, IsAll G H vs ds → noLA ds = true → IsAll G' H vs ds
  | _, _, .nil, _ => .nil
  | _, _, .cons (d := d) (ds := ds) a t, h => .cons (Is.more m a (Bool.and_eq_true_iff.mp ((noLA_c d ds).symm.trans h)).1) (IsAll.more m t (Bool.and_eq_true_iff.mp ((noLA_c d ds).symm.trans h)).2)
end
theorem noLA_map {α : Type} {f : α → PyData} (h : ∀ a, noL (f a) = true) : ∀ xs : List α, noLA (xs.map f) = true
  | [] => rfl
  | x :: xs => by
    rw [List.map_cons, noLA_c, h x, noLA_map h xs]; rfl
def noS : Sl → Bool
  | .d x => noL x
  | .n _ => false
  | _ => true
theorem SlOk.more (m : More G G' H) {v : V} {s : Sl} (hn : noS s = true) (h : SlOk G H v s) : SlOk G' H v s := by
  cases s with
  | un => trivial
  | d x => exact Is.more m h hn
  | r u => exact h
  | n ds => cases hn
def noSA (ss : List Sl) : Prop := ∀ s ∈ ss, noS s = true
theorem SlAll.more (m : More G G' H) : ∀ {vs : List V} {ss : List Sl}, noSA ss → SlAll G H vs ss → SlAll G' H vs ss
  | [], [], _, _ => trivial
  | _ :: _, _ :: _, hn, ⟨h, q⟩ => ⟨h.more m (hn _ List.mem_cons_self), SlAll.more m (fun s z => hn s (List.mem_cons_of_mem _ z)) q⟩
  | [], _ :: _, _, h => h.elim
  | _ :: _, [], _, h => h.elim
theorem FldAll.more (m : More G G' H) : ∀ {vs : List (Str × V)} {ss : List (Str × Sl)}, noSA (ss.map (·.2)) → FldAll G H vs ss → FldAll G' H vs ss
  | [], [], _, _ => trivial
  | (_, _) :: _, (_, _) :: _, hn, ⟨e, h, q⟩ => ⟨e, h.more m (hn _ List.mem_cons_self), FldAll.more m (fun s z => hn s (List.mem_cons_of_mem _ z)) q⟩
  | [], _ :: _, _, h => h.elim
  | _ :: _, [], _, h => h.elim
end
/-- a thing without lists in its data -/
def Lnd (A : Mem) : Prop := ∀ F G G' H, A.ok F G H → More G G' H → A.ok F G' H
def LndA (rs : List Mem) : Prop := ∀ A ∈ rs, Lnd A
theorem lnd_lst {p : Addr} {ss : List Sl} (h : noSA ss) : Lnd (lstM p ss) := fun F G G' H ⟨e, vs, hp, al⟩ m => ⟨e, vs, hp, al.more m h⟩
theorem lnd_map {α : Type} {p : Addr} {f : α → PyData} {xs : List α} (h : ∀ a, noL (f a) = true) : Lnd (lstM p ((xs.map f).map .d)) := lnd_lst fun s z => by
  obtain ⟨d, hd, rfl⟩ := List.mem_map.mp z
  obtain ⟨a, _, rfl⟩ := List.mem_map.mp hd
  exact h a
theorem lnd_ins {C p : Addr} {fs : List (Str × Sl)} (h : noSA (fs.map (·.2))) : Lnd (insM C p fs) := fun F G G' H ⟨dx, vs, e, n, h1, h2, al⟩ m => ⟨dx, vs, e, n, h1, h2, al.more m h⟩
theorem lnda_nil : LndA [] := fun _ z => nomatch z
theorem lnda_cons {A : Mem} {rs : List Mem} (h : Lnd A) (t : LndA rs) : LndA (A :: rs) := fun B z => by
  rcases List.mem_cons.mp z with rfl | z
  · exact h
  · exact t B z
theorem sepL.more {G G' : Fp} {H : Hp} (m : More G G' H) : ∀ {rs : List Mem} {F : Fp}, LndA rs → sepL rs F G H → sepL rs F G' H
  | [], F, _, h => h
  | A :: rs, F, hl, ⟨F1, F2, h1, h2, d, e⟩ => ⟨F1, F2, hl A List.mem_cons_self F1 G G' H h1 m, sepL.more m (fun B z => hl B (List.mem_cons_of_mem _ z)) h2, d, e⟩
theorem lnd_ex {α : Type} {fam : α → List Mem} (h : ∀ q, LndA (fam q)) : Lnd (exM fam) := fun F G G' H ⟨q, z⟩ m => ⟨q, sepL.more m (h q) z⟩
/-! ### lists lent -/
def lentM (L : List (Addr × List PyData)) : List Mem := L.map fun q => lstM q.1 (q.2.map .d)
theorem lent_nil : lentM [] = [] := rfl
theorem lent_cons (p : Addr) (ds : List PyData) (L : List (Addr × List PyData)) : lentM ((p, ds) :: L) = lstM p (ds.map .d) :: lentM L := rfl
inductive LentS (L : List (Addr × List PyData)) : List Sl → List Sl → Prop
  | nil : LentS L [] []
  | lend {p ds ss ss'} : (p, ds) ∈ L → LentS L ss ss' → LentS L (.r (.ref p) :: ss) (.d (.list ds) :: ss')
  | eq {s ss ss'} : LentS L ss ss' → LentS L (s :: ss) (s :: ss')
theorem lent_at {G : Fp} {H : Hp} : ∀ {L : List (Addr × List PyData)} {F : Fp}, sepL (lentM L) F G H →
    (∀ p ds, (p, ds) ∈ L → ∃ vs, H p = some (.lst vs) ∧ IsAll G H vs ds ∧ F p) ∧ ∀ a, F a → ∃ vs, H a = some (.lst vs)
  | [], F, h => ⟨fun _ _ z => (nomatch z), fun a z => (h a z).elim⟩
  | (p, ds) :: L, F, ⟨F1, F2, ⟨e1, vs, hp, al⟩, h2, _, e⟩ => by
    obtain ⟨i1, i2⟩ := lent_at h2
    refine ⟨fun q es z => ?_, fun a z => ?_⟩
    · rcases List.mem_cons.mp z with z | z
      · cases z
        exact ⟨vs, hp, al.is, (e p).mpr (.inl ((e1 p).mpr rfl))⟩
      · obtain ⟨ws, a, b, f⟩ := i1 q es z
        exact ⟨ws, a, b, (e q).mpr (.inr f)⟩
    · rcases (e a).mp z with z | z
      · have := (e1 a).mp z
        subst this
        exact ⟨vs, hp⟩
      · exact i2 a z
theorem lent_sl {G G' F : Fp} {H : Hp} {L : List (Addr × List PyData)} (hL : ∀ p ds, (p, ds) ∈ L → ∃ vs, H p = some (.lst vs) ∧ IsAll G H vs ds ∧ F p) (hs : ∀ a, G' a → G a) (hd : ∀ a, F a → ¬ G' a) {ss ss' : List Sl} (l : LentS L ss ss') : ∀ {vs : List V}, SlAll G H vs ss → SlAll G' H vs ss' := by
  induction l with
  | nil =>
    intro vs h
    cases vs with
    | nil => trivial
    | cons _ _ => exact h.elim
  | @lend p ds ss ss' hm _ ih =>
    intro vs h
    cases vs with
    | nil => exact h.elim
    | cons v vs =>
      obtain ⟨h1, h2⟩ := h
      have ev : v = .ref p := h1
      subst ev
      obtain ⟨ws, hp, al, f⟩ := hL p ds hm
      exact ⟨.lst (.inl ⟨.inl hp, hd p f⟩) (al.stp (Stp.less hs)), ih h2⟩
  | eq _ ih =>
    intro vs h
    cases vs with
    | nil => exact h.elim
    | cons v vs => exact ⟨h.1.stp (Stp.less hs), ih h.2⟩
/-- rest, just as it stands in H -/
def asM (FT : Fp) (H : Hp) (hd : ∀ a, FT a → ∃ o, H a = some o) : Mem where
  ok F _ H1 := (∀ a, F a ↔ FT a) ∧ ∀ a o, FT a → H a = some o → H1 a = some o
  dom := fun ⟨e, h⟩ a q => by
    obtain ⟨o, z⟩ := hd a ((e a).mp q)
    exact ⟨o, h a o ((e a).mp q) z⟩
  step := fun ⟨e, h⟩ k s => ⟨e, fun a o f z => k a o (h a o f z) (.inl ((e a).mpr f))⟩
theorem lend_back {G G2 FL FR FT : Fp} {H H' : Hp} {L : List (Addr × List PyData)} {rest r2 : List Mem} {hd : ∀ a, FT a → ∃ o, H a = some o}
    (hL : sepL (lentM L) FL G H) (hT : sepL rest FT G H) (hLR : ∀ a, FL a → FR a → False) (hLT : ∀ a, FL a → FT a → False) (hRT : ∀ a, FR a → FT a → False) (hG : ∀ a, G a ↔ (FL a ∨ FR a) ∨ FT a)
    (t : Stp (fun a => FR a ∨ FT a) G2 H H') (o : sepL (r2 ++ [asM FT H hd]) G2 G2 H') (hl : LndA r2) :
    ∃ G3 : Fp, Stp G G3 H H' ∧ sepL (r2 ++ (lentM L ++ rest)) G3 G3 H' ∧ More G2 G3 H' ∧ (∀ a, H a = none → G3 a → G2 a) := by
  have ll := (lent_at hL).2
  have nL : ∀ a, FL a → ¬ (FR a ∨ FT a) := fun a f z => z.elim (hLR a f) (hLT a f)
  have kL : ∀ a u, H a = some u → FL a → H' a = some u := fun a u q f => t.keep a u q (nL a f)
  obtain ⟨F1, F2, o1, ⟨F3, F4, ⟨e3, k3⟩, o4, _, e2⟩, d12, e12⟩ := sepL.app.mp o
  have e4 : ∀ a, F2 a ↔ FT a := fun a => by
    rw [e2 a, e3 a]
    exact ⟨fun z => z.elim id fun z => (o4 a z).elim, .inl⟩
  have nF1 : ∀ a, F1 a → FL a → False := fun a f g => by
    rcases t.sub a ((e12 a).mpr (.inl f)) with z | z
    · exact nL a g z
    · obtain ⟨vs, q⟩ := ll a g
      rw [z] at q; cases q
  have mo : More G2 (fun a => G2 a ∨ FL a) H' := fun a z => z.imp id fun z => by
    obtain ⟨vs, q⟩ := ll a z
    exact ⟨vs, kL a _ q z⟩
  have st : Stp G (fun a => G2 a ∨ FL a) H H' := ⟨fun a u q n => t.keep a u q fun z => n ((hG a).mpr (z.elim (fun z => .inl (.inr z)) .inr)), fun a z => by
    rcases z with z | z
    · exact (t.sub a z).imp (fun z => (hG a).mpr (z.elim (fun z => .inl (.inr z)) .inr)) id
    · exact .inl ((hG a).mpr (.inl (.inl z))), t.old⟩
  have kG : ∀ a u, H a = some u → ¬ G a → H' a = some u := fun a u q n => st.keep a u q n
  refine ⟨fun a => G2 a ∨ FL a, st, ?_, mo, fun a z g => g.elim id fun g => by
    obtain ⟨vs, q⟩ := ll a g
    rw [z] at q; cases q⟩
  refine sepL.app.mpr ⟨F1, fun a => FL a ∨ FT a, sepL.more mo hl o1, sepL.app.mpr ⟨FL, FT, sepL.step st.sub hL fun a u q z => z.elim (kL a u q) (kG a u q), sepL.step st.sub hT fun a u q z => z.elim (fun f => k3 a u f q) (kG a u q), hLT, fun a => Iff.rfl⟩, fun a f z => ?_, fun a => ?_⟩
  · rcases z with z | z
    · exact nF1 a f z
    · exact d12 a f ((e4 a).mpr z)
  · rw [e12 a, e4 a]
    constructor
    · rintro ((z | z) | z)
      · exact .inl z
      · exact .inr (.inr z)
      · exact .inr (.inl z)
    · rintro (z | z | z)
      · exact .inl (.inl z)
      · exact .inr z
      · exact .inl (.inr z)
/-- a result that holds no list, or is a new one without such -/
def noR : Sl → Bool
  | .n ds => noLA ds
  | s => noS s
theorem Rs.more {G G' : Fp} {H0 H : Hp} {v : V} {s : Sl} (m : More G G' H) (hf : ∀ a, H0 a = none → G' a → G a) (hn : noR s = true) (h : Rs G H0 H v s) : Rs G' H0 H v s := by
  cases s with
  | un => trivial
  | d x => exact Is.more m h hn
  | r u => exact h
  | n ds =>
    obtain ⟨p, vs, e, z, ng, hp, t⟩ := h
    exact ⟨p, vs, e, z, fun g => ng (hf p z g), hp, IsAll.more m t hn⟩
theorem grab1 {r1 : List Mem} {A : Mem} {f : List Mem → List Mem} (p : Pick r1 A f) : Grab r1 [A] (f []) := .cons p .nil
theorem grab2 {r1 : List Mem} {A B : Mem} {f g : List Mem → List Mem} (p : Pick r1 A f) (q : Pick (f []) B g) : Grab r1 [A, B] (g []) := .cons p (grab1 q)
theorem grab3 {r1 : List Mem} {A B C : Mem} {f g h : List Mem → List Mem} (p : Pick r1 A f) (q : Pick (f []) B g) (r : Pick (g []) C h) : Grab r1 [A, B, C] (h []) := .cons p (grab2 q r)
section
variable {c : Ctx m₀ N₀ sc₀ lv₀ xp₀ fF₀ cm₀} {e a b o : Expr} {es : List Expr} {ρ ρ' : List Sl} {r1 rs : List Mem} {K : Sl → List Mem → Prop} {P : Post} {x f : Str} {pos pos' p2 apos : Pos} {s1 s2 : Sl}
theorem ce_lend {C : Cn} (L : List (Addr × List PyData)) {rin rest : List Mem} {ss ss' : List Sl} (gr : Grab r1 (lentM L ++ rin) rest) (hl : LentS L ss ss')
    (h : C ss' rin (fun s r2 => noR s = true ∧ LndA r2 ∧ K s (r2 ++ (lentM L ++ rest))) (fun D r2 => LndA r2 ∧ xp₀ D ρ (r2 ++ (lentM L ++ rest)))) : CallEnd c C ss ρ r1 K := fun σ H G vs Q he hs hx hv hq => by
  obtain ⟨F0, FT, h0, hT, d0, e0⟩ := sepL.app.mp (gr.sep hs)
  obtain ⟨FL, FR, hL, hR, d1, e1⟩ := sepL.app.mp h0
  have hG : ∀ a, G a ↔ (FL a ∨ FR a) ∨ FT a := fun a => by rw [e0 a, e1 a]
  have hLT : ∀ a, FL a → FT a → False := fun a f g => d0 a ((e1 a).mpr (.inl f)) g
  have hRT : ∀ a, FR a → FT a → False := fun a f g => d0 a ((e1 a).mpr (.inr f)) g
  have hd : ∀ a, FT a → ∃ o, H a = some o := fun a z => hT.dom a z
  have sub : ∀ a, (FR a ∨ FT a) → G a := fun a z => (hG a).mpr (z.elim (fun z => .inl (.inr z)) .inr)
  refine ⟨ss', asM FT H hd, rin, fun a => FR a ∨ FT a, _, _, lent_sl (lent_at hL).1 sub (fun a f z => z.elim (d1 a f) (hLT a f)) hl hv, ?_, h, ?_, ?_⟩
  · exact sepL.app.mpr ⟨FR, FT, sepL.step (G := G) (fun a z => .inl (sub a z)) hR fun a u q _ => q, ⟨FT, fun _ => False, ⟨fun a => Iff.rfl, fun a u _ q => q⟩, fun _ z => z, fun _ _ z => z, fun a => ⟨.inl, fun z => z.elim id False.elim⟩⟩, hRT, fun a => Iff.rfl⟩
  · rintro v H' G2 sl r2 t r o ⟨hn, hA, k⟩
    obtain ⟨G3, st, sp, mo, hf⟩ := lend_back hL hT d1 hLT hRT hG t o hA
    exact hq v H' G3 sl _ st (r.more mo hf hn) sp k
  · rintro D H' G2 r2 t o ⟨hA, k⟩
    obtain ⟨G3, st, sp, mo, hf⟩ := lend_back hL hT d1 hLT hRT hG t o hA
    exact hx D σ H' G3 ρ _ st (he.stp st) sp k
/-- some things handed over -/
theorem ce_gr {C : Cn} {rin rest : List Mem} {ss : List Sl} (gr : Grab r1 rin rest) (h : C ss rin (fun s r2 => K s (r2 ++ rest)) (fun D r2 => xp₀ D ρ (r2 ++ rest))) : CallEnd c C ss ρ r1 K := fun σ H G vs Q he hs hx hv hq =>
  ⟨ss, sepM rest, rin, G, _, _, hv, sepM_app.mpr (gr.sep hs), h, fun v H' G' sl rs' t r o k => hq v H' G' sl _ t r (sepM_app.mp o) k, fun D H' G' rs' t o k => hx D σ H' G' ρ _ t (he.stp t) (sepM_app.mp o) k⟩
/-- list(xs), owned, whatever xs is -/
def LiD (s : Sl) (r : List Mem) (K : Sl → List Mem → Prop) : Prop := (∃ ds, s.plain.asSeq = some ds ∧ ∀ q, K (.r (.ref q)) (lstM q (ds.map .d) :: r)) ∨ (∃ p ss f, s = .r (.ref p) ∧ Pick r (lstM p ss) f ∧ ∀ q, K (.r (.ref q)) (lstM q ss :: r))
theorem li_d {s : Sl} {ds : List PyData} (e : s.plain.asSeq = some ds) (k : ∀ q, K (.r (.ref q)) (lstM q (ds.map .d) :: rs)) : LiD s rs K := .inl ⟨ds, e, k⟩
theorem li_o {p : Addr} {ss : List Sl} {g : List Mem → List Mem} (pk : Pick rs (lstM p ss) g) (k : ∀ q, K (.r (.ref q)) (lstM q ss :: rs)) : LiD (.r (.ref p)) rs K := .inr ⟨p, ss, g, rfl, pk, k⟩
theorem dx_listU (h : DX c a ρ rs fun s r1 => LiD s r1 K) (hg : KdIn sc₀.names ("list" : Str) .globalImplicit := by first | ((with_reducible (repeat (first | exact KdIn.zero | apply KdIn.succ))); (first | (all_goals fail) | fail)) | exact kd_of rfl) (he : starEach [a] c.X.env = (false, eval a c.X.env) :: starEach [] c.X.env := by rfl) : DX c (.Call (.Name "list" p2) [a] [] pos) ρ rs K := by
  refine dx_callTy (c.ck ▸ call_list_of) c.bl.list b_list (da_cons (fun σ H G Q a1 a2 a3 a4 => h σ H G Q a1 a2 a3 fun v H' G' sl rs' t r o k => a4 v H' G' sl rs' t r o (da_nil ?_)) he) hg (he := he) (hpl := rfl)
  intro G H vs Q hv hs hq
  match vs, hv with
  | [v], hv =>
    rcases k with ⟨ds, e, k⟩ | ⟨p, ss, f, e, pk, k⟩
    · obtain ⟨p, ws, rfl, r, al⟩ := hv.1.seq e
      refine ⟨p, ws, rfl, r.imp LsAt.sq .inl, fun l hl => ?_⟩
      obtain ⟨t, o⟩ := own_new hs hl (SlAll.of_is al)
      exact hq _ _ _ (.r (.ref l)) _ t rfl o (k l)
    · subst e
      have ev : v = .ref p := hv.1
      subst ev
      obtain ⟨ws, hp, al, _, _⟩ := lst_at pk hs
      refine ⟨p, ws, rfl, .inl (.inl (.inl hp)), fun l hl => ?_⟩
      obtain ⟨t, o⟩ := own_new hs hl al
      exact hq _ _ _ (.r (.ref l)) _ t rfl o (k l)
theorem dx_open {α : Type} {fam : α → List Mem} (xs : List Mem) {tl : List Mem} (k : ∀ q, DX c e ρ (xs ++ (fam q ++ tl)) K) : DX c e ρ (xs ++ exM fam :: tl) K := by
  intro σ H G Q he hs hx hq
  obtain ⟨q, o⟩ := sep_open hs
  exact k q σ H G Q he o hx hq
theorem dt_open {α : Type} {fam : α → List Mem} {KB : Bool → List Mem → Prop} (xs : List Mem) {tl : List Mem} (k : ∀ q, DT c e ρ (xs ++ (fam q ++ tl)) KB) : DT c e ρ (xs ++ exM fam :: tl) KB := by
  intro σ H G Q he hs hx hq
  obtain ⟨q, o⟩ := sep_open hs
  exact k q σ H G Q he o hx hq
theorem flat_rep {α : Type} (x : α) : ∀ n : Nat, (List.replicate n [x]).flatten = List.replicate n x
  | 0 => rfl
  | n + 1 => by rw [List.replicate_succ, List.flatten_cons, flat_rep x n]; rfl
/-- [x] * k, owned -/
theorem dx_rep (h : DX c a ρ rs fun s r => ∀ p, DX c b ρ (lstM p [s.plain] :: r) fun s2 r2 => ∃ (k : Int) (f : List Mem → List Mem), s2 = .d (.int k) ∧ (-(2 ^ 60) ≤ k ∧ k ≤ 100000) ∧ Pick r2 (lstM p [s.plain]) f ∧ ∀ q, K (.r (.ref q)) (lstM q (List.replicate k.toNat s.plain) :: f []))
    (hst : starEach [a] c.X.env = (false, eval a c.X.env) :: starEach [] c.X.env := by rfl) : DX c (.BinOp (.List [a] pos') .Mult b pos) ρ rs K := by
  refine dx_bin op_uMul (dx_lstO (da_cons (dx_weak h fun s r k => da_nil ?_) hst))
  refine ⟨by show 1 ≤ 100000; decide, fun p => dx_weak (k p) fun s2 r2 k2 => ?_⟩
  obtain ⟨k, f, rfl, hk, pk, kk⟩ := k2
  refine od_r fun G H x y Q hx hy hs hq => ?_
  have ex : x = .ref p := hx
  subst ex
  obtain ⟨vs, hp, al, _, _⟩ := lst_at pk hs
  refine ⟨p, k, vs, rfl, hy.int, hp, by omega, by omega, by rw [al.length]; show 1 * _ ≤ _; have e : sizeLine = 1000000000000 ∨ 100000 ≤ sizeLine := .inr (by decide); omega, fun q hq0 => ?_⟩
  obtain ⟨t, o⟩ := own_new hs hq0 (all_rep al k.toNat)
  rw [flat_rep] at o
  obtain ⟨F1, G2, _, _, t2, o2⟩ := sepL.drop (.succ pk) o
  exact hq _ _ _ (.r (.ref q)) _ (t.trans t2) rfl o2 (kk q)
/-- [x] * k, plain -/
theorem dx_repD (h : DX c a ρ rs fun s r => ∃ d, s.plain = .d d ∧ ∀ p, DX c b ρ (lstM p [.d d] :: r) fun s2 r2 => ∃ (k : Int) (f : List Mem → List Mem), s2 = .d (.int k) ∧ (-(2 ^ 60) ≤ k ∧ k ≤ 100000) ∧ Pick r2 (lstM p [.d d]) f ∧ K (.d (.list (List.replicate k.toNat d))) (f []))
    (hst : starEach [a] c.X.env = (false, eval a c.X.env) :: starEach [] c.X.env := by rfl) : DX c (.BinOp (.List [a] pos') .Mult b pos) ρ rs K := by
  refine dx_frz (dx_rep (dx_weak h fun s r k p => ?_) hst)
  obtain ⟨d, e, k⟩ := k
  rw [e]
  refine dx_weak (k p) fun s2 r2 k2 => ?_
  obtain ⟨k, f, rfl, hk, pk, kk⟩ := k2
  exact ⟨k, f, rfl, hk, pk, fun q => ⟨q, List.replicate k.toNat d, fun xs => xs ++ f [], rfl, by rw [List.map_replicate]; exact .zero, kk⟩⟩
theorem ex_rep {k : Int} {s : Sl} {p : Addr} {f : List Mem → List Mem} {B : Int → (List Mem → List Mem) → Prop} (pk : Pick rs (lstM p [s]) f) (hk : -(2 ^ 60) ≤ k ∧ k ≤ 100000) (h : B k f) :
    ∃ (k' : Int) (f' : List Mem → List Mem), Sl.d (.int k) = .d (.int k') ∧ (-(2 ^ 60) ≤ k' ∧ k' ≤ 100000) ∧ Pick rs (lstM p [s]) f' ∧ B k' f' := ⟨k, f, rfl, hk, pk, h⟩
theorem ex_dat {d : PyData} {B : PyData → Prop} (h : B d) : ∃ e, Sl.d d = .d e ∧ B e := ⟨d, rfl, h⟩
end
end PW
/-! ### rows of truths -/
namespace PW
open PySem L2
def bat (ms : List Bool) (i : Int) : Bool := ms.getD i.toNat false
theorem bat_get {ms : List Bool} {i : Int} (h : 0 ≤ i ∧ i < ms.length) : ms[i.toNat]? = some (bat ms i) := by
  unfold bat
  have : i.toNat < ms.length := by omega
  rw [List.getD_eq_getElem?_getD, List.getElem?_eq_getElem this]; rfl
theorem bat_set {ms : List Bool} {i j : Int} {b : Bool} (hi : 0 ≤ i ∧ i < ms.length) (hj : 0 ≤ j) : bat (ms.set i.toNat b) j = if j = i then b else bat ms j := by
  unfold bat
  rw [List.getD_eq_getElem?_getD, List.getD_eq_getElem?_getD, List.getElem?_set]
  by_cases e : j = i
  · subst e
    rw [if_pos rfl, if_pos rfl, if_pos (by omega)]; rfl
  · rw [if_neg (by omega), if_neg e]
theorem bat_ext {a b : List Bool} (hl : a.length = b.length) (h : ∀ i : Int, 0 ≤ i → i < a.length → bat a i = bat b i) : a = b := by
  refine List.ext_getElem hl fun i h1 h2 => ?_
  have := h i (by omega) (by omega)
  unfold bat at this
  simpa [List.getD_eq_getElem?_getD, h1, h2] using this
theorem mem_bat {ms : List Bool} (h : true ∈ ms) : ∃ i : Int, 0 ≤ i ∧ i < ms.length ∧ bat ms i = true := by
  obtain ⟨i, hi, e⟩ := List.getElem_of_mem h
  exact ⟨i, by omega, by omega, by unfold bat; simp [hi, e]⟩
theorem bat_mem {ms : List Bool} {i : Int} (h : 0 ≤ i ∧ i < ms.length) (e : bat ms i = true) : true ∈ ms := by
  have := bat_get h
  rw [e] at this
  exact List.mem_of_getElem? this
variable [KC]
theorem ixN_in {n : Nat} {i : Int} (h : 0 ≤ i ∧ i < n) : ixN n i = some i.toNat := by
  unfold ixN
  rw [if_pos h.1, if_pos (by omega)]
theorem atI_b {ms : List Bool} {i : Int} (h : 0 ≤ i ∧ i < ms.length) : atI (ms.map PyData.bool) i = some (.bool (bat ms i)) := by
  unfold atI
  rw [List.length_map, ixN_in h]
  show (ms.map PyData.bool)[i.toNat]? = _
  rw [List.getElem?_map, bat_get h]; rfl
theorem atI_bs {ms : List Bool} {i : Int} (h : 0 ≤ i ∧ i < ms.length) : atI ((ms.map PyData.bool).map Sl.d) i = some (.d (.bool (bat ms i))) := by
  rw [atI_map, atI_b h]; rfl
theorem ixN_bs {ms : List Bool} {i : Int} (h : 0 ≤ i ∧ i < ms.length) : ixN ((ms.map PyData.bool).map Sl.d).length i = some i.toNat := by
  rw [List.length_map, List.length_map]; exact ixN_in h
theorem set_bs {ms : List Bool} {j : Nat} {b : Bool} : ((ms.map PyData.bool).map Sl.d).set j (.d (.bool b)) = ((ms.set j b).map PyData.bool).map Sl.d := by
  rw [List.map_set, List.map_set]
theorem range_split {n y : Nat} {pre post : List Nat} (e : List.range n = pre ++ y :: post) : y = pre.length ∧ y < n := by
  have h1 : (List.range n)[pre.length]? = some y := by rw [e]; simp
  have hl := congrArg List.length e
  rw [List.length_range, List.length_append, List.length_cons] at hl
  have hlt : pre.length < n := by omega
  rw [List.getElem?_eq_getElem (by simpa using hlt)] at h1
  simp at h1
  omega
theorem any_b (ms : List Bool) : ((ms.map PyData.bool).any fun y => eqF y (.bool true)) = decide (true ∈ ms) := by
  induction ms with
  | nil => rfl
  | cons b ms ih =>
    rw [List.map_cons, List.any_cons, ih]
    cases b <;> simp [eqF]
theorem flat_b (ms : List Bool) : (ms.map PyData.bool).all flatD = true := by
  induction ms with
  | nil => rfl
  | cons b ms ih => rw [List.map_cons, List.all_cons, ih]; rfl
theorem shaped_b (ms : List Bool) : SeqAt.shaped (.list (ms.map PyData.bool)) = true := shaped_list 0 (by decide) fun d hd => by
  obtain ⟨b, _, rfl⟩ := List.mem_map.mp hd
  exact ⟨rfl, Nat.le_refl 0⟩
end PW

set_option maxHeartbeats 1000000
/-! clear, pop; two names in a for; except X without a name; a list of one's own made plain. -/
namespace PW
open PySem L2
variable [KC]
variable {m₀ : Mo} {N₀ : List Str} {sc₀ : Scope} {lv₀ : Nat} {xp₀ : Addr → List Sl → List Mem → Prop} {fF₀ cm₀ : Bool}
theorem SlAll.dropLast {G : Fp} {H : Hp} : ∀ {vs : List V} {ss : List Sl}, SlAll G H vs ss → SlAll G H vs.dropLast ss.dropLast
  | [], [], _ => trivial
  | [_], [_], _ => trivial
  | _ :: _ :: _, _ :: _ :: _, ⟨h, q⟩ => ⟨h, SlAll.dropLast q⟩
  | [], _ :: _, h => h.elim
  | _ :: _, [], h => h.elim
  | [_], _ :: _ :: _, h => h.2.elim
  | _ :: _ :: _, [_], h => h.2.elim
/-- the slots of the list at q, made plain -/
inductive FrzS (q : Addr) (ds : List PyData) : List Sl → List Sl → Prop
  | nil : FrzS q ds [] []
  | here {ρ ρ'} : FrzS q ds ρ ρ' → FrzS q ds (.r (.ref q) :: ρ) (.d (.list ds) :: ρ')
  | eq {s ρ ρ'} : FrzS q ds ρ ρ' → FrzS q ds (s :: ρ) (s :: ρ')
theorem FrzS.env {q : Addr} {ds : List PyData} {G : Fp} {H : Hp} (hq : Is G H (.ref q) (.list ds)) {ρ ρ' : List Sl} (h : FrzS q ds ρ ρ') : ∀ {σ : L2.St}, EnvOk G H σ ρ → EnvOk G H σ ρ' := by
  induction h with
  | nil => exact id
  | here _ ih =>
    intro σ e
    cases σ with
    | nil => exact e.elim
    | cons o σ =>
      obtain ⟨⟨v, e1, z⟩, q2⟩ := e
      have ev : v = .ref q := z
      subst ev
      exact ⟨⟨_, e1, hq⟩, ih q2⟩
  | eq _ ih =>
    intro σ e
    cases σ with
    | nil => exact e.elim
    | cons o σ => exact ⟨e.1, ih e.2⟩
section
variable {c : Ctx m₀ N₀ sc₀ lv₀ xp₀ fF₀ cm₀} {e a b o it : Expr} {es : List Expr} {ρ ρ' : List Sl} {r1 rs : List Mem} {K : Sl → List Mem → Prop} {P : Post} {x y f : Str} {pos pos' p2 p3 apos cpos : Pos} {s1 s2 : Sl} {sts : List Stmt}
theorem dss_frz {q : Addr} {ds : List PyData} {g : List Mem → List Mem} (pk : Pick rs (lstM q (ds.map .d)) g) (hf : FrzS q ds ρ ρ') (k : DSs c sts ρ' (g []) P) : DSs c sts ρ rs P := by
  intro σ H G D he hs hx hd
  obtain ⟨F1, G2, ⟨eF, vs, hp, al⟩, dj, t, o⟩ := sepL.drop pk hs
  exact k σ H G2 D (hf.env (.lst (.inl ⟨.inl hp, fun g => dj q ((eF q).mpr rfl) g⟩) (al.stp t).is) (he.stp t)) o (hx.stp t) (hd.stp t)
structure Me0Ok (X : Cx) (o : Expr) (m : Str) (apos cpos : Pos) : Prop where
  hb : attributeBase o m X.env (eval o X.env) = eval o X.env
  hl : (apos.endLine == cpos.line) = true
/-- x.clear() -/
theorem dx_clear (h : DX c o ρ rs fun s r => ∃ p ss f, s = .r (.ref p) ∧ Pick r (lstM p ss) f ∧ K (.d .none) (f [lstM p []]))
    (hm : Me0Ok c.X o "clear" apos cpos := by exact ⟨rfl, rfl⟩) : DX c (.Call (.Attribute o "clear" apos) [] [] cpos) ρ rs K := by
  intro σ H G Q he hs hx hq
  refine tE_of (pe_bm0 PySem.F.plainAttrs_list PySem.F.slot_list_clear PySem.F.type_list_clear mt_clear pe_t (hbase := hm.hb) (hline := hm.hl)) ?_
  refine h σ H G _ he hs hx fun v H1 G1 s1 r1 t1 h1 o1 k1 => ?_
  obtain ⟨p, ss, f, rfl, pk, k1⟩ := k1
  have ev : v = .ref p := h1
  subst ev
  obtain ⟨vs, hp, al, _, ch⟩ := lst_at pk o1
  refine ⟨.inl ⟨rfl, vs, .inl (.inl hp)⟩, p, vs, rfl, rfl, hp, ?_⟩
  obtain ⟨t2, o2⟩ := ch [] [] trivial
  exact hq .non _ G1 (.d .none) _ (t1.trans t2) Is.non o2 k1
/-- x.pop() -/
theorem dx_pop (h : DX c o ρ rs fun s r => ∃ p ss t f, s = .r (.ref p) ∧ Pick r (lstM p (ss ++ [t])) f ∧ (∀ ds, t ≠ .n ds) ∧ K t (f [lstM p ss]))
    (hm : Me0Ok c.X o "pop" apos cpos := by exact ⟨rfl, rfl⟩) : DX c (.Call (.Attribute o "pop" apos) [] [] cpos) ρ rs K := by
  intro σ H G Q he hs hx hq
  refine tE_of (pe_bm0 PySem.F.plainAttrs_list PySem.F.slot_list_pop PySem.F.type_list_pop mt_pop pe_t (hbase := hm.hb) (hline := hm.hl)) ?_
  refine h σ H G _ he hs hx fun v H1 G1 s1 r1 t1 h1 o1 k1 => ?_
  obtain ⟨p, ss, t, f, rfl, pk, hn, k1⟩ := k1
  have ev : v = .ref p := h1
  subst ev
  obtain ⟨vs, hp, al, _, ch⟩ := lst_at pk o1
  have hl := al.length
  rw [List.length_append, List.length_cons, List.length_nil] at hl
  obtain ⟨y, hy, hk⟩ := al.get (i := vs.length - 1) (s := t) (by rw [hl]; simp)
  refine ⟨.inl ⟨rfl, vs, .inl (.inl hp)⟩, p, vs, y, rfl, rfl, hp, hy, ?_⟩
  have al2 := al.dropLast
  rw [List.dropLast_concat] at al2
  obtain ⟨t2, o2⟩ := ch _ _ al2
  exact hq y _ G1 t _ (t1.trans t2) (Rs.of_ok (hk.stp t2) hn) o2 k1
/-- for x, y in it: body -/
def ForD2 (c : Ctx m₀ N₀ sc₀ lv₀ xp₀ fF₀ cm₀) (x : Str) (j : Nat) (y : Str) (j2 : Nat) (body : List Stmt) {α : Type} (xs : List α) (e1 e2 : α → PyData) (keep : List Mem → Prop) (ρ : List Sl) (rs : List Mem) (P : Post) : Prop :=
  ∃ (S : Type) (ρf : S → List Sl) (rf : S → List Mem) (inv : List α → S → Prop), (∃ s, inv [] s ∧ Le ρ (ρf s) ∧ rs = rf s) ∧ (∀ pre s, inv pre s → keep (rf s)) ∧
    (∀ pre z post s, xs = pre ++ z :: post → inv pre s → ∃ ρ1 ρ2, SetS N₀ (ρf s) x j (.d (e1 z)) ρ1 ∧ SetS N₀ ρ1 y j2 (.d (e2 z)) ρ2 ∧
      DSs c body ρ2 (rf s) ⟨fun ρ' r' => ∃ s', inv (pre ++ [z]) s' ∧ Le ρ' (ρf s') ∧ r' = rf s', P.rt, P.nx, fun ρ' r' => ∃ s', inv (pre ++ [z]) s' ∧ Le ρ' (ρf s') ∧ r' = rf s'⟩) ∧
    (∀ s, inv xs s → P.nx (ρf s) (rf s))
theorem is_two {G : Fp} {H : Hp} {vs : List V} {d1 d2 : PyData} (h : IsAll G H vs [d1, d2]) : ∃ v1 v2, vs = [v1, v2] ∧ Is G H v1 d1 ∧ Is G H v2 d2 := by
  cases h with
  | cons a t =>
    cases t with
    | cons b u =>
      cases u with
      | nil => exact ⟨_, _, rfl, a, b⟩
theorem ds_for2 {body : List Stmt} {kk : Nat} {j j2 : Nat} (hj : IxOf N₀ x j) (hj2 : IxOf N₀ y j2) (h : DI c (.Tuple [.Name x p2, .Name y p3] kk pos') it ρ rs fun items keep r => ∃ (α : Type) (xs : List α) (e1 e2 : α → PyData), items = xs.map (fun z => .d (.tuple [e1 z, e2 z])) ∧ ForD2 c x j y j2 body xs e1 e2 keep ρ r P)
    (hcm : cm₀ = true := by rfl) (hl : LocF c x := by first | exact locF_of (by with_reducible (repeat (first | exact KdIn.zero | apply KdIn.succ))) rfl | exact Or.inl rfl | exact Or.inr ⟨rfl, rfl⟩) (hl2 : LocF c y := by first | exact locF_of (by with_reducible (repeat (first | exact KdIn.zero | apply KdIn.succ))) rfl | exact Or.inl rfl | exact Or.inr ⟨rfl, rfl⟩) (hf : ∀ z, foldedSetIterable it c.X.env z = pure z := by intro _; rfl) : DS c (.For (.Tuple [.Name x p2, .Name y p3] kk pos') it body [] pos) ρ rs P := by
  intro σ H G D he hs hx hd
  have nd : c.X.N.Nodup := by rw [c.hN]; exact c.nd
  have hi : c.X.N[j]? = some x := by rw [c.hN]; exact hj.get
  have hi2 : c.X.N[j2]? = some y := by rw [c.hN]; exact hj2.get
  refine tS_of (ps_for (tb := tSs c.X body) c.po (c.calm hcm) pi_t (pg_tup (c.calm hcm) (pgs_cons (pg_name nd hi hl.loc (c_hf hl)) (pgs_cons (pg_name nd hi2 hl2.loc (c_hf hl2)) pgs_nil))) pss_t hf) ?_
  refine h σ H G _ he hs hx fun J H1 G1 items keep r1 t1 o1 jok k1 => ?_
  obtain ⟨α, xs, e1, e2, rfl, S, ρf, rf, inv, ⟨s0, i0, l0, rfl⟩, hk, ht, hend⟩ := k1
  refine ⟨fun i m σ' H' => m = xs.length - i ∧ i ≤ xs.length ∧ ∃ G' s, Stp G1 G' H1 H' ∧ EnvOk G' H' σ' (ρf s) ∧ sepL (rf s) G' G' H' ∧ inv (xs.take i) s,
    ⟨_, rfl, Nat.zero_le _, G1, s0, Stp.refl _ _, l0.env (he.stp t1), o1, i0⟩, ?_⟩
  rintro i m σ' H' ⟨rfl, hle, G', s, t2, en2, o2, iv⟩
  have jk := jok G' H' (rf s) t2 o2 (hk _ s iv) i
  by_cases hlt : i < xs.length
  · refine .inr ⟨(jk.1 (by simpa using hlt)).1, fun σ2 H2 => xs.length - (i + 1) < xs.length - i ∧ i + 1 ≤ xs.length ∧ ∃ G2 s, Stp G1 G2 H1 H2 ∧ EnvOk G2 H2 σ2 (ρf s) ∧ sepL (rf s) G2 G2 H2 ∧ inv (xs.take (i + 1)) s,
      fun σ2 H2 ⟨l, l2, r⟩ => ⟨_, l, rfl, l2, r⟩, fun w H2 yl => ?_⟩
    obtain ⟨rfl, sl, hsl, hy⟩ := (jk.1 (by simpa using hlt)).2 w H2 yl
    have hsl' : sl = .d (.tuple [e1 xs[i], e2 xs[i]]) := by
      rw [List.getElem?_map, List.getElem?_eq_getElem hlt] at hsl
      exact (Option.some.inj hsl).symm
    subst hsl'
    obtain ⟨p, vs, rfl, rd, _, al⟩ := hy.tuple
    obtain ⟨v1, v2, rfl, a1, a2⟩ := is_two al
    have split : xs = xs.take i ++ xs[i] :: xs.drop (i + 1) := by simp
    obtain ⟨ρ1, ρ2, hset, hset2, hb⟩ := ht (xs.take i) xs[i] (xs.drop (i + 1)) s split iv
    have tk : xs.take i ++ [xs[i]] = xs.take (i + 1) := by simp
    rw [tk] at hb
    refine ⟨p, [v1, v2], rfl, rd_sqT rd, rfl, v1, [v2], rfl, v2, [], rfl, rfl, ?_⟩
    refine hb _ H2 G' _ (hset2.env a2 (hset.env a1 en2)) o2 (hx.stp (t1.trans t2)) ⟨fun σ3 H3 G3 ρ3 r3 t3 e3 o3 k3 => ?_, fun v H3 G3 sl r3 t3 => hd.rt v H3 G3 sl r3 ((t1.trans t2).trans t3) ∘ fun q => q.back (t1.trans t2), fun σ3 H3 G3 ρ3 r3 t3 => hd.nx σ3 H3 G3 ρ3 r3 ((t1.trans t2).trans t3), fun σ3 H3 G3 ρ3 r3 t3 e3 o3 k3 => ?_⟩
    · obtain ⟨s', i', l', rfl⟩ := k3
      exact ⟨by omega, by omega, G3, s', t2.trans t3, l'.env e3, o3, i'⟩
    · obtain ⟨s', i', l', rfl⟩ := k3
      exact ⟨by omega, by omega, G3, s', t2.trans t3, l'.env e3, o3, i'⟩
  · have hi : i = xs.length := by omega
    subst hi
    rw [List.take_length] at iv
    exact .inl ⟨jk.2 (by simp), hd.nx σ' H' G' (ρf s) (rf s) (t1.trans t2) en2 o2 (hend s iv)⟩
/-- try: .. except y: without a name; only y is raised -/
def CatchX (m₀ : Mo) (N₀ : List Str) (sc₀ : Scope) (lv₀ : Nat) (fF₀ : Bool) (E : Str → Addr) (y : Str) (suite : List Stmt) (P : Post) (D : Addr) (ρ : List Sl) (rs : List Mem) : Prop :=
  D = E y ∧ ∀ (c' : Ctx m₀ N₀ sc₀ lv₀ (fun _ _ _ => False) fF₀ false), DSs c' suite ρ rs P
theorem ds_tryX {E : Str → Addr} {ra ts : List Str} {body suite : List Stmt} {b₀ : Stmt} {np : Pos} (er : Errs m₀ E ra ts) (hp : y ∈ ts) (hex : PySem.W.exmOne m₀.K (.ref (E y)) (.ref (E y)) = some true)
    (body_ : ∀ c' : Ctx m₀ N₀ sc₀ lv₀ (CatchX m₀ N₀ sc₀ lv₀ fF₀ E y (b₀ :: suite) P) fF₀ cm₀, DSs c' body ρ rs P)
    (hF : fF₀ = true := by rfl) (hg : KdIn sc₀.names y .globalImplicit := by first | ((with_reducible (repeat (first | exact KdIn.zero | apply KdIn.succ))); (first | (all_goals fail) | fail)) | exact kd_of rfl) :
    DS c (.Try body [.ExceptHandler (some (.Name y np)) none (b₀ :: suite) pos'] [] [] pos) ρ rs P := by
  intro σ H G D he hs hX hd
  have eK := c.hm.K
  refine tS_of (ps_try_only (c := .ref (E y)) (tb := fun W D σ H => ∀ pn xe, Takes (c.X.tr pn xe) W → PassesOwn (model c.X.prog c.X.w) c.X.A c.X.env xe → tSs (c.X.tr pn xe) body D σ H)
    (ts := fun a cls d D σ H => ∀ oe pn, Zc cls d oe → (∃ vs, oe.data = .fields vs) → tSs (c.X.suite a ((a, oe) :: pn)) (b₀ :: suite) D σ H) (Wout := fun _ _ _ _ => False)
    (c.fs hF).1 (c.fs hF).2 ⟨c_gl hg, c.nd1 hg, .inl (by rw [c.hm.mg]; exact er.nm _ hp)⟩ takes0
    (fun W pn xe tk po => ⟨fun pins s _ _ _ I h => h pn xe tk po pins s I⟩) (fun a oe cls d pn hz hf => ⟨fun pins s _ _ _ I h => h oe pn hz hf pins s I⟩)) ?_
  intro pn xe tk po
  refine body_ (c.tr pn xe _ _ tk po) σ H G D he hs (fun C σ' H' G' ρ' rs' t e o k => ?_) hd
  obtain ⟨rfl, k⟩ := k
  refine ⟨true, eK ▸ hex, fun _ a ha => ?_, fun z => Bool.noConfusion z⟩
  intro oe pn' hz hf
  have hd2 := hd.stp t
  exact k (c.suite a ((a, oe) :: pn')) _ H' G' _ e o xok0 ⟨hd2.nx, hd2.rt, hd2.bk, hd2.ct⟩
theorem catchX {E : Str → Addr} {suite : List Stmt} {st : Stmt} (h : ∀ (c' : Ctx m₀ N₀ sc₀ lv₀ (fun _ _ _ => False) fF₀ false), DSs c' (st :: suite) ρ rs P) : CatchX m₀ N₀ sc₀ lv₀ fF₀ E y (st :: suite) P (E y) ρ rs := ⟨rfl, h⟩
theorem ds_ent {st : Stmt} {rs2 : List Mem} (h : Ent rs rs2) (k : DS c st ρ rs2 P) : DS c st ρ rs P := by
  intro σ H G D he hs hx hd
  obtain ⟨G', l, o⟩ := h G H hs
  have t : Stp G G' H H := Stp.less l
  exact k σ H G' D (he.stp t) o (hx.stp t) (hd.stp t)
end
end PW

set_option maxHeartbeats 1000000
/-! list(a text). -/
namespace PW
open PySem L2
def signV (z : Str) : List V := z.cps.toList.map fun n => V.str ⟨#[n]⟩
theorem call_listS {X : Cx} (hc : X.calm = true) : CallR X (.type "list") (fun xs H Q => ∃ z, xs = [.str z] ∧ z.cps.size ≤ sizeLine ∧ ∀ l, H l = none → Q (.ref l) (upd H l (.lst (signV z)))) := by
  intro pins s σ H xs us Q I r h
  obtain ⟨z, e, hz, q⟩ := h
  subst e
  obtain ⟨u, eu, t, e2⟩ := vals1 r
  subst eu
  subst e2
  refine call_list_str (I.ok.hd hc) z t (hn := hz) fun h' tk acc' c' hkeep hS hacc => ?_
  have hlen : (signV z).length = z.cps.size := by unfold signV; rw [List.length_map]; simp
  refine ⟨.ref s.heap.objs.size, upd H s.heap.objs.size (.lst (signV z)), I.laid hkeep (Nat.le_refl _) (show ObjOk X.prog X.w _ _ _ (.lst (signV z)) from ⟨?_, acc'.toList, c', ?_, ?_⟩), rfl, q _ (I.hok.fresh (Nat.le_refl _))⟩
  · rw [hlen]; exact hz
  · have el : acc'.toList.length = acc'.size := by simp
    refine vals_of_at (by rw [hlen, el, hacc.1]) fun j x w h1 h2 => ?_
    obtain ⟨n, u, hn, hw⟩ := hacc.2 j w (by rw [← Array.getElem?_toList]; exact h2)
    subst hw
    have e1 : (signV z)[j]? = some (.str ⟨#[n]⟩) := by
      unfold signV
      rw [List.getElem?_map, Array.getElem?_toList, hn]; rfl
    rw [e1] at h1
    cases h1
    exact ⟨u, rfl⟩
  · simpa using hS
variable [KC]
variable {m₀ : Mo} {N₀ : List Str} {sc₀ : Scope} {lv₀ : Nat} {xp₀ : Addr → List Sl → List Mem → Prop} {fF₀ cm₀ : Bool}
def signD (z : Str) : List PyData := z.cps.toList.map fun n => PyData.str ⟨#[n]⟩
theorem is_signs {G : Fp} {H : Hp} (z : Str) : IsAll G H (signV z) (signD z) := by
  unfold signV signD
  induction z.cps.toList with
  | nil => exact .nil
  | cons n l ih => exact .cons (.str _) ih
section
variable {c : Ctx m₀ N₀ sc₀ lv₀ xp₀ fF₀ cm₀} {e a b o it : Expr} {es : List Expr} {ρ ρ' : List Sl} {r1 rs : List Mem} {K : Sl → List Mem → Prop} {P : Post} {x y f : Str} {pos pos' p2 p3 apos cpos : Pos} {s1 s2 : Sl} {sts : List Stmt}
def LsD (s : Sl) (r : List Mem) (K : Sl → List Mem → Prop) : Prop := (∃ ds, s.asSeq = some ds ∧ K (.n ds) r) ∨ (∃ z, s = .d (.str z) ∧ z.length ≤ 100000 ∧ K (.n (signD z)) r)
theorem ls_d {s : Sl} {ds : List PyData} (e : s.asSeq = some ds) (k : K (.n ds) rs) : LsD s rs K := .inl ⟨ds, e, k⟩
theorem ls_s {z : Str} (hz : z.length ≤ 100000) (k : K (.n (signD z)) rs) : LsD (.d (.str z)) rs K := .inr ⟨z, rfl, hz, k⟩
theorem dx_listA (h : DX c a ρ rs fun s r1 => LsD s.plain r1 K) (hg : KdIn sc₀.names ("list" : Str) .globalImplicit := by first | ((with_reducible (repeat (first | exact KdIn.zero | apply KdIn.succ))); (first | (all_goals fail) | fail)) | exact kd_of rfl) (he : starEach [a] c.X.env = (false, eval a c.X.env) :: starEach [] c.X.env := by rfl) (hcm : cm₀ = true := by rfl) : DX c (.Call (.Name "list" p2) [a] [] pos) ρ rs K := by
  refine dx_callTy (call_or (c.ck ▸ call_list_of) (call_listS (c.calm hcm))) c.bl.list b_list (da_cons (fun σ H G Q a1 a2 a3 a4 => h σ H G Q a1 a2 a3 fun v H' G' sl rs' t r o k => a4 v H' G' sl rs' t r o (da_nil ?_)) he) hg (he := he) (hpl := rfl)
  rcases k with ⟨ds, e, k⟩ | ⟨z, e, hz, k⟩
  · exact cd_l (cd_list e k)
  · refine cd_r fun G H vs Q hv hs hq => ?_
    match vs, hv with
    | [v], hv =>
      have hv1 := hv.1
      rw [e] at hv1
      have ev := hv1.str
      subst ev
      refine ⟨z, rfl, Nat.le_trans hz (by decide), fun l hl => ?_⟩
      have st : Stp G G H (upd H l (.lst (signV z))) := stp_new hl
      exact hq _ _ G (.n (signD z)) _ st ⟨l, _, rfl, hl, hs.fresh hl, upd_same, is_signs z⟩ (sepL.step st.sub hs fun a o q _ => same_new hl a o q) k
end
end PW

set_option maxHeartbeats 1000000
/-! text.index, text.split; parts of texts. -/
namespace PW
open PySem L2
theorem cut_front (z : Str) : (cutS z none (some 1)).cps.toList = z.cps.toList.take 1 := by
  unfold cutS
  have e : z.length = z.cps.toList.length := by show z.cps.size = _; simp
  rw [show HT.sIx z.length 0 none = 0 from rfl, show HT.sIx z.length z.length (some 1) = min 1 z.length from HT.sIx_nat _ _ 1]
  show (List.take _ (List.drop 0 _)) = _
  rw [List.drop_zero, Nat.sub_zero, e, ← List.take_take, List.take_length]
theorem cut_tail (z : Str) : (cutS z (some 1) none).cps.toList = z.cps.toList.drop 1 := by
  unfold cutS
  have e : z.length = z.cps.toList.length := by show z.cps.size = _; simp
  rw [show HT.sIx z.length z.length none = z.length from rfl, show HT.sIx z.length 0 (some 1) = min 1 z.length from HT.sIx_nat _ _ 1, e]
  show (List.take _ (List.drop _ _)) = _
  rw [List.take_of_length_le (by rw [List.length_drop]; exact Nat.le_refl _)]
  by_cases h : z.cps.toList.length = 0
  · rw [List.length_eq_zero_iff.mp h]; rfl
  · rw [Nat.min_eq_left (by omega)]
theorem str_ext {a b : Str} (h : a.cps.toList = b.cps.toList) : a = b := by
  cases a; cases b
  congr 1
  exact Array.ext' h
theorem str_len (z : Str) : z.length = z.cps.toList.length := by show z.cps.size = _; simp
variable [KC]
variable {m₀ : Mo} {N₀ : List Str} {sc₀ : Scope} {lv₀ : Nat} {xp₀ : Addr → List Sl → List Mem → Prop} {fF₀ cm₀ : Bool}
section
variable {c : Ctx m₀ N₀ sc₀ lv₀ xp₀ fF₀ cm₀} {e a b o it : Expr} {es : List Expr} {ρ ρ' : List Sl} {r1 rs : List Mem} {K : Sl → List Mem → Prop} {P : Post} {x y f : Str} {pos pos' p2 p3 apos cpos : Pos} {s1 s2 : Sl} {sts : List Stmt}
theorem dx_sindex (h : DX c o ρ rs fun s r => ∃ z, s = .d (.str z) ∧ DX c a ρ r fun s2 r2 => ∃ y i rest, s2 = .d (.str y) ∧ Builtin.Str.occurrences z y 0 z.length 1 = i :: rest ∧ K (.d (.int (i : Nat))) r2)
    (hm : M1ok c.X o "index" a apos pos := by exact ⟨rfl, rfl, rfl⟩) : DX c (.Call (.Attribute o "index" apos) [a] [] pos) ρ rs K := by
  intro σ H G Q he hs hx hq
  refine tE_of (pe_m1 PySem.F.slot_str_index PySem.F.type_str_index mt_sindex pe_t pe_t hm.hs hm.hb hm.hl) ?_
  refine h σ H G _ he hs hx fun v H1 G1 s1 r1 t1 h1 o1 k1 => ?_
  obtain ⟨z, rfl, k1⟩ := k1
  refine ⟨⟨z, h1.ok.str⟩, ?_⟩
  refine k1 σ H1 G1 _ (he.stp t1) o1 (hx.stp t1) fun w H2 G2 s2 r2 t2 h2 o2 k2 => ?_
  obtain ⟨y, i, rest, rfl, ho, k2⟩ := k2
  exact ⟨z, y, i, rest, h1.ok.str, by rw [h2.ok.str], ho, hq _ H2 G2 (.d (.int _)) r2 (t1.trans t2) (Is.int _) o2 k2⟩
theorem is_strs {G : Fp} {H : Hp} : ∀ ys : List Str, IsAll G H (ys.map V.str) (ys.map PyData.str)
  | [] => .nil
  | y :: ys => .cons (.str y) (is_strs ys)
theorem dx_split (h : DX c o ρ rs fun s r => ∃ z, s = .d (.str z) ∧ DX c a ρ r fun s2 r2 => ∃ y, s2 = .d (.str y) ∧ (y.length == 0) = false ∧ z.length ≤ 100000 ∧ K (.n ((Txt.split z y).map .str)) r2)
    (hm : M1ok c.X o "split" a apos pos := by exact ⟨rfl, rfl, rfl⟩) : DX c (.Call (.Attribute o "split" apos) [a] [] pos) ρ rs K := by
  intro σ H G Q he hs hx hq
  refine tE_of (pe_m1 PySem.F.slot_str_split PySem.F.type_str_split mt_split pe_t pe_t hm.hs hm.hb hm.hl) ?_
  refine h σ H G _ he hs hx fun v H1 G1 s1 r1 t1 h1 o1 k1 => ?_
  obtain ⟨z, rfl, k1⟩ := k1
  refine ⟨⟨z, h1.ok.str⟩, ?_⟩
  refine k1 σ H1 G1 _ (he.stp t1) o1 (hx.stp t1) fun w H2 G2 s2 r2 t2 h2 o2 k2 => ?_
  obtain ⟨y, rfl, hy, hz, k2⟩ := k2
  refine ⟨z, y, h1.ok.str, by rw [h2.ok.str], hy, Nat.le_trans (Nat.add_le_add_right hz 2) (by decide), fun p hp => ?_⟩
  have st : Stp G2 G2 H2 (upd H2 p (.lst ((Txt.split z y).map V.str))) := stp_new hp
  exact hq _ _ G2 (.n ((Txt.split z y).map .str)) r2 ((t1.trans t2).trans st) ⟨p, _, rfl, (t1.trans t2).fresh hp, o2.fresh hp, upd_same, is_strs _⟩ (sepL.step st.sub o2 fun a o q _ => same_new hp a o q) k2
end
end PW
namespace PW
open PySem L2
variable [KC]
variable {m₀ : Mo} {N₀ : List Str} {sc₀ : Scope} {lv₀ : Nat} {xp₀ : Addr → List Sl → List Mem → Prop} {fF₀ cm₀ : Bool}
/-- a display of texts, told by its texts alone -/
inductive StrC : List Expr → List Str → Prop
  | nil : StrC [] []
  | cons {z j pos es zs} : StrC es zs → StrC (.Constant (.str z) j pos :: es) (z :: zs)
section
variable {c : Ctx m₀ N₀ sc₀ lv₀ xp₀ fF₀ cm₀} {es : List Expr} {zs : List Str} {L b : Expr} {ρ : List Sl} {rs : List Mem} {K : Sl → List Mem → Prop} {pos pos' : Pos}
theorem da_weak {KA KA' : List Sl → List Mem → Prop} (h : DA c es ρ rs KA) (hk : ∀ s r, KA s r → KA' s r) : DA c es ρ rs KA' := fun σ H G Q a1 a2 a3 a4 => h σ H G Q a1 a2 a3 fun v H' G' sl rs' t r o k => a4 v H' G' sl rs' t r o (hk _ _ k)
theorem da_strs (h : StrC es zs) : DA c es ρ rs fun ss r => ss = (zs.map PyData.str).map .d ∧ r = rs := by
  induction h with
  | nil => exact da_nil ⟨rfl, rfl⟩
  | cons _ ih => exact da_cons (dx_str (da_weak ih fun s r k => ⟨by rw [k.1]; rfl, k.2⟩))
theorem dx_strs (h : StrC es zs) (hl : zs.length ≤ 100000) (k : K (.n (zs.map .str)) rs) : DX c (.List es pos) ρ rs K :=
  dx_lst (da_weak (da_strs h) fun ss r q => ⟨zs.map .str, by rw [q.1]; exact Datas.of _, by rw [q.1]; simpa using hl, by rw [q.2]; exact k⟩)
/-- [texts][i] -/
theorem dx_ixS (hL : L = .List es pos') (h : StrC es zs) (hl : zs.length ≤ 100000) (k : DX c b ρ rs fun s2 r2 => OpD (rIx KC.K) (.n (zs.map .str)) s2 r2 K) (hp : PlainIx b := by exact fun _ _ => rfl) : DX c (.Subscript L b pos) ρ rs K := by
  subst hL
  exact dx_ix cIx (dx_strs h hl k) hp
end
end PW

set_option maxHeartbeats 1000000
/-! Dicts of one's own, with ints or texts as keys. -/
namespace PW
open PySem L2
variable [KC]
variable {m₀ : Mo} {N₀ : List Str} {sc₀ : Scope} {lv₀ : Nat} {xp₀ : Addr → List Sl → List Mem → Prop} {fF₀ cm₀ : Bool}
abbrev DKv := List (Key × Sl)
def valS (kvs : DKv) (k : Key) : Option Sl := (kvs.find? fun kv => decide (kv.1 = k)).map (·.2)
def putS (kvs : DKv) (k : Key) (s : Sl) : DKv := if (kvs.any fun kv => decide (kv.1 = k)) = true then kvs.map (fun kv => if kv.1 = k then (kv.1, s) else kv) else kvs ++ [(k, s)]
def dropS (kvs : DKv) (k : Key) : DKv := kvs.filter fun kv => decide (kv.1 ≠ k)
/-- a key as a slot -/
def keyD : Key → PyData
  | .inl i => .int i
  | .inr z => .str z
def KvAll (G : Fp) (H : Hp) : List (Key × V) → DKv → Prop
  | [], [] => True
  | (k, v) :: vs, (j, s) :: ss => k = j ∧ SlOk G H v s ∧ KvAll G H vs ss
  | _, _ => False
theorem KvAll.stp0 {G G' : Fp} {H H' : Hp} (k : ∀ a o, H a = some o → ¬ G a → H' a = some o) (t : ∀ a, G' a → G a ∨ H a = none) : ∀ {vs : List (Key × V)} {ss : DKv}, KvAll G H vs ss → KvAll G' H' vs ss
  | [], [], _ => trivial
  | (_, _) :: _, (_, _) :: _, ⟨e, h, q⟩ => ⟨e, SlOk.stp0 k t h, KvAll.stp0 k t q⟩
  | [], _ :: _, h => h.elim
  | _ :: _, [], h => h.elim
section
variable {G : Fp} {H : Hp}
theorem KvAll.length : ∀ {vs : List (Key × V)} {ss : DKv}, KvAll G H vs ss → vs.length = ss.length
  | [], [], _ => rfl
  | (_, _) :: _, (_, _) :: _, ⟨_, _, q⟩ => congrArg (· + 1) (KvAll.length q)
  | [], _ :: _, h => h.elim
  | _ :: _, [], h => h.elim
theorem KvAll.keys : ∀ {vs : List (Key × V)} {ss : DKv}, KvAll G H vs ss → vs.map (·.1) = ss.map (·.1)
  | [], [], _ => rfl
  | (_, _) :: _, (_, _) :: _, ⟨e, _, q⟩ => by rw [List.map_cons, List.map_cons, q.keys]; dsimp only; rw [e]
  | [], _ :: _, h => h.elim
  | _ :: _, [], h => h.elim
theorem KvAll.val (k : Key) : ∀ {vs : List (Key × V)} {ss : DKv}, KvAll G H vs ss → (valS ss k = none ∧ valV vs k = none) ∨ ∃ s v, valS ss k = some s ∧ valV vs k = some v ∧ SlOk G H v s
  | [], [], _ => .inl ⟨rfl, rfl⟩
  | (j, v) :: vs, (j2, s) :: ss, ⟨e, h, q⟩ => by
    subst e
    by_cases ek : j = k
    · refine .inr ⟨s, v, ?_, ?_, h⟩
      · unfold valS; rw [List.find?_cons, decide_eq_true ek]; rfl
      · unfold valV; rw [List.find?_cons, decide_eq_true ek]; rfl
    · have e1 : valS ((j, s) :: ss) k = valS ss k := by unfold valS; rw [List.find?_cons, decide_eq_false ek]
      have e2 : valV ((j, v) :: vs) k = valV vs k := by unfold valV; rw [List.find?_cons, decide_eq_false ek]
      rw [e1, e2]
      exact q.val k
  | [], _ :: _, h => h.elim
  | _ :: _, [], h => h.elim
theorem KvAll.any (k : Key) : ∀ {vs : List (Key × V)} {ss : DKv}, KvAll G H vs ss → (vs.any fun kv => decide (kv.1 = k)) = ss.any fun kv => decide (kv.1 = k)
  | [], [], _ => rfl
  | (_, _) :: _, (_, _) :: _, ⟨e, _, q⟩ => by rw [List.any_cons, List.any_cons, q.any k]; dsimp only; rw [e]
  | [], _ :: _, h => h.elim
  | _ :: _, [], h => h.elim
theorem KvAll.map (k : Key) {v : V} {s : Sl} (hv : SlOk G H v s) : ∀ {vs : List (Key × V)} {ss : DKv}, KvAll G H vs ss → KvAll G H (vs.map fun kv => if kv.1 = k then (kv.1, v) else kv) (ss.map fun kv => if kv.1 = k then (kv.1, s) else kv)
  | [], [], _ => trivial
  | (j, _) :: _, (_, _) :: _, ⟨e, h, q⟩ => by
    subst e
    rw [List.map_cons, List.map_cons]
    dsimp only
    by_cases ek : j = k
    · rw [if_pos ek, if_pos ek]; exact ⟨rfl, hv, q.map k hv⟩
    · rw [if_neg ek, if_neg ek]; exact ⟨rfl, h, q.map k hv⟩
  | [], _ :: _, h => h.elim
  | _ :: _, [], h => h.elim
theorem KvAll.snoc (k : Key) {v : V} {s : Sl} (hv : SlOk G H v s) : ∀ {vs : List (Key × V)} {ss : DKv}, KvAll G H vs ss → KvAll G H (vs ++ [(k, v)]) (ss ++ [(k, s)])
  | [], [], _ => ⟨rfl, hv, trivial⟩
  | (_, _) :: _, (_, _) :: _, ⟨e, h, q⟩ => ⟨e, h, q.snoc k hv⟩
  | [], _ :: _, h => h.elim
  | _ :: _, [], h => h.elim
theorem KvAll.put (k : Key) {v : V} {s : Sl} (hv : SlOk G H v s) {vs : List (Key × V)} {ss : DKv} (h : KvAll G H vs ss) : KvAll G H (putK vs k v) (putS ss k s) := by
  unfold putK putS
  rw [h.any k]
  split
  · exact h.map k hv
  · exact h.snoc k hv
theorem KvAll.drop (k : Key) : ∀ {vs : List (Key × V)} {ss : DKv}, KvAll G H vs ss → KvAll G H (dropK vs k) (dropS ss k)
  | [], [], _ => trivial
  | (j, _) :: _, (_, _) :: _, ⟨e, h, q⟩ => by
    subst e
    unfold dropK dropS
    rw [List.filter_cons, List.filter_cons]
    dsimp only
    by_cases ek : j = k
    · rw [if_neg (by simp [ek]), if_neg (by simp [ek])]; exact q.drop k
    · rw [if_pos (by simp [ek]), if_pos (by simp [ek])]; exact ⟨rfl, h, q.drop k⟩
  | [], _ :: _, h => h.elim
  | _ :: _, [], h => h.elim
theorem key_is {k : Key} {v : V} (h : SlOk G H v (.d (keyD k))) : v = kV k := by
  cases k with
  | inl i => exact h.int
  | inr z => exact h.str
end
def dictM (p : Addr) (kvs : DKv) : Mem where
  ok F G H := (∀ a, F a ↔ a = p) ∧ ∃ vs, H p = some (.dK vs) ∧ KvAll G H vs kvs
  dom := fun ⟨e, vs, h, _⟩ a q => by
    have e2 := (e a).mp q
    subst e2
    exact ⟨_, h⟩
  step := fun ⟨e, vs, h, al⟩ k s => ⟨e, vs, k _ _ h (.inl ((e p).mpr rfl)), al.stp0 (fun a o q n => k a o q (.inr n)) s⟩
theorem KvAll.more {G G' : Fp} {H : Hp} (m : More G G' H) : ∀ {vs : List (Key × V)} {ss : DKv}, noSA (ss.map (·.2)) → KvAll G H vs ss → KvAll G' H vs ss
  | [], [], _, _ => trivial
  | (_, _) :: _, (_, _) :: _, hn, ⟨e, h, q⟩ => ⟨e, h.more m (hn _ List.mem_cons_self), KvAll.more m (fun s z => hn s (List.mem_cons_of_mem _ z)) q⟩
  | [], _ :: _, _, h => h.elim
  | _ :: _, [], _, h => h.elim
theorem lnd_dict {p : Addr} {kvs : DKv} (h : noSA (kvs.map (·.2))) : Lnd (dictM p kvs) := fun F G G' H ⟨e, vs, hp, al⟩ m => ⟨e, vs, hp, al.more m h⟩
theorem dict_at {G : Fp} {H : Hp} {rs : List Mem} {p : Addr} {kvs : DKv} {f : List Mem → List Mem} (pk : Pick rs (dictM p kvs) f) (hs : sepL rs G G H) :
    ∃ vs, H p = some (.dK vs) ∧ KvAll G H vs kvs ∧ G p ∧ ∀ ws kv2, KvAll G H ws kv2 → Stp G G H (upd H p (.dK ws)) ∧ sepL (f [dictM p kv2]) G G (upd H p (.dK ws)) := by
  obtain ⟨F1, F2, ⟨eF, vs, hp, al⟩, _, dj, eG⟩ := pk.split.mp hs
  have gp : G p := (eG p).mpr (.inl ((eF p).mpr rfl))
  refine ⟨vs, hp, al, gp, fun ws kv2 aw => ?_⟩
  refine sepL.change (B := dictM p kv2) pk hs fun F1 hA sub => ⟨fun a o q n => ?_, fun a o q => ?_, ?_⟩
  · obtain ⟨e1, _⟩ := hA
    rw [upd_ne fun z => n ((e1 a).mpr z)]; exact q
  · by_cases ea : a = p
    · subst ea; exact ⟨_, upd_same⟩
    · rw [upd_ne ea]; exact ⟨o, q⟩
  · obtain ⟨e1, _⟩ := hA
    refine ⟨e1, ws, upd_same, aw.stp0 (fun a o q n => ?_) fun a g => .inl g⟩
    rw [upd_ne (fun z => n (by rw [z]; exact gp))]; exact q
theorem own_dict {G : Fp} {H : Hp} {rs : List Mem} {p : Addr} {vs : List (Key × V)} {kvs : DKv} (hs : sepL rs G G H) (hp : H p = none) (al : KvAll G H vs kvs) :
    Stp G (fun a => a = p ∨ G a) H (upd H p (.dK vs)) ∧ sepL (dictM p kvs :: rs) (fun a => a = p ∨ G a) (fun a => a = p ∨ G a) (upd H p (.dK vs)) :=
  sepL.join hs (same_new hp) hp ⟨fun a => Iff.rfl, vs, upd_same, al.stp0 (fun a o q _ => same_new hp a o q) fun a g => g.elim (fun e => .inr (e ▸ hp)) .inl⟩
section
variable {c : Ctx m₀ N₀ sc₀ lv₀ xp₀ fF₀ cm₀} {e a b o i it : Expr} {es : List Expr} {ρ ρ' : List Sl} {r1 rs : List Mem} {K : Sl → List Mem → Prop} {P : Post} {x y f : Str} {pos pos' p2 p3 apos cpos : Pos} {s1 s2 : Sl} {sts : List Stmt}
/-- {} -/
theorem dx_dnew (k : ∀ p, K (.r (.ref p)) (dictM p [] :: rs)) : DX c (.Dict [] [] pos) ρ rs K := by
  intro σ H G Q he hs hx hq
  refine tE_of pe_dnewK fun p hp => ?_
  obtain ⟨t, o⟩ := own_dict (vs := []) (kvs := []) hs hp trivial
  exact hq _ _ _ (.r (.ref p)) _ t rfl o (k p)
/-- d[k], there -/
theorem dx_dget (h : DX c o ρ rs fun s1 r1 => DX c i ρ r1 fun s2 r2 => ∃ p kvs f k s, s1 = .r (.ref p) ∧ s2 = .d (keyD k) ∧ Pick r2 (dictM p kvs) f ∧ valS kvs k = some s ∧ (∀ ds, s ≠ .n ds) ∧ K s r2)
    (hp : NoSl i := by exact fun _ _ => rfl) : DX c (.Subscript o i pos) ρ rs K := by
  intro σ H G Q he hs hx hq
  refine tE_of (pe_dget (by have := c.un; omega) pe_t pe_t hp) ?_
  refine h σ H G _ he hs hx fun v1 H1 G1 t1 r1 st1 h1 o1 k1 => ?_
  refine k1 σ H1 G1 _ (he.stp st1) o1 (hx.stp st1) fun v2 H2 G2 t2 r2 st2 h2 o2 k2 => ?_
  obtain ⟨p, kvs, f, k, s, rfl, rfl, pk, hv, hn, k2⟩ := k2
  have e1 : v1 = .ref p := h1
  obtain ⟨vs, hp, al, _, _⟩ := dict_at pk o2
  rcases al.val k with ⟨z, _⟩ | ⟨s', v, z1, z2, z3⟩
  · rw [z] at hv; cases hv
  · rw [z1] at hv
    cases hv
    refine ⟨p, v, e1, ?_, hq v H2 G2 s r2 (st1.trans st2) (Rs.of_ok z3 hn) o2 k2⟩
    rw [key_is h2.ok, ← z2]
    exact DGet.k hp
/-- d.get(k): there or None -/
theorem dx_dget1 (h : DX c o ρ rs fun s1 r1 => ∃ p kvs f, s1 = .r (.ref p) ∧ Pick r1 (dictM p kvs) f ∧ DX c i ρ r1 fun s2 r2 => ∃ kv2 f2 k, s2 = .d (keyD k) ∧ Pick r2 (dictM p kv2) f2 ∧ (∀ s, valS kv2 k = some s → ∀ ds, s ≠ .n ds) ∧ K ((valS kv2 k).getD (.d .none)) r2)
    (m : M1 c.X o "get" apos i cpos := by exact ⟨rfl, rfl, rfl, rfl⟩) : DX c (.Call (.Attribute o "get" apos) [i] [] cpos) ρ rs K := by
  intro σ H G Q he hs hx hq
  refine tE_of (pe_dget1 (by have := c.un; omega) pe_t pe_t m) ?_
  refine h σ H G _ he hs hx fun v1 H1 G1 t1 r1 st1 h1 o1 k1 => ?_
  obtain ⟨p, kvs, f, rfl, pk, k1⟩ := k1
  have e1 : v1 = .ref p := h1
  obtain ⟨vs, hp, al, _, _⟩ := dict_at pk o1
  refine ⟨p, e1, .inl ⟨vs, .inl hp⟩, ?_⟩
  refine k1 σ H1 G1 _ (he.stp st1) o1 (hx.stp st1) fun v2 H2 G2 t2 r2 st2 h2 o2 k2 => ?_
  obtain ⟨kv2, f2, k, rfl, pk2, hn, k2⟩ := k2
  obtain ⟨vs2, hp2, al2, _, _⟩ := dict_at pk2 o2
  refine ⟨valV vs2 k, by rw [key_is h2.ok]; exact DGet.k hp2, ?_⟩
  rcases al2.val k with ⟨z1, z2⟩ | ⟨s, v, z1, z2, z3⟩
  · rw [z1] at k2
    rw [z2]
    exact hq .non H2 G2 (.d .none) r2 (st1.trans st2) Is.non o2 k2
  · rw [z1] at k2
    rw [z2]
    exact hq v H2 G2 s r2 (st1.trans st2) (Rs.of_ok z3 (hn s z1)) o2 k2
/-- d[k] = e -/
theorem ds_dput (h : DX c e ρ rs fun s r => DX c o ρ r fun s1 r1 => DX c i ρ r1 fun s2 r2 => ∃ p kvs f k, s1 = .r (.ref p) ∧ s2 = .d (keyD k) ∧ Pick r2 (dictM p kvs) f ∧ kvs.length ≤ 100000 ∧ P.nx ρ (f [dictM p (putS kvs k s.plain)])) (hw : swapsWith e (some (.Subscript o i pos')) pos.line c.X.env = pure false := by rfl)
    (ha : ∀ v, assign (.Subscript o i pos') c.X.env v = (do let ov ← holding [v] (eval o c.X.env); let iv ← holding [v, ov] (eval i c.X.env); standAt pos'; holding [v, ov, iv] (setItem ov iv v); release [v, ov, iv] []) := by intro _; rfl) :
    DS c (.Assign [.Subscript o i pos'] e pos) ρ rs P := by
  intro σ H G D he hs hx hd
  refine tS_of (ps_asg pe_t (pg_sub pe_t pe_t (set_dict (by have := c.un; omega)) ha) hw rfl) ?_
  refine h σ H G _ he hs hx fun v H1 G1 s r1 t1 h1 o1 k1 => ?_
  refine k1 σ H1 G1 _ (he.stp t1) o1 (hx.stp t1) fun v2 H2 G2 s1 r2 t2 h2 o2 k2 => ?_
  refine k2 σ H2 G2 _ ((he.stp t1).stp t2) o2 ((hx.stp t1).stp t2) fun v3 H3 G3 s2 r3 t3 h3 o3 k3 => ?_
  obtain ⟨p, kvs, f, k, rfl, rfl, pk, hl, k3⟩ := k3
  have e2 : v2 = .ref p := h2
  obtain ⟨vs, hp, al, _, ch⟩ := dict_at pk o3
  obtain ⟨t4, o4⟩ := ch (putK vs k v) (putS kvs k s.plain) (al.put k ((h1.ok.plain.stp t2).stp t3))
  refine ⟨p, _, e2, ?_, hd.nx σ _ G3 ρ _ (((t1.trans t2).trans t3).trans t4) ((((he.stp t1).stp t2).stp t3).stp t4) o4 k3⟩
  rw [key_is h3.ok]
  exact DPut.k hp (by rw [al.length]; exact Nat.lt_of_le_of_lt hl (by decide))
/-- d.pop(k), there -/
theorem dx_dpop1 (h : DX c o ρ rs fun s1 r1 => ∃ p kvs f, s1 = .r (.ref p) ∧ Pick r1 (dictM p kvs) f ∧ DX c i ρ r1 fun s2 r2 => ∃ kv2 f2 k s, s2 = .d (keyD k) ∧ Pick r2 (dictM p kv2) f2 ∧ valS kv2 k = some s ∧ (∀ ds, s ≠ .n ds) ∧ K s (f2 [dictM p (dropS kv2 k)]))
    (m : M1 c.X o "pop" apos i cpos := by exact ⟨rfl, rfl, rfl, rfl⟩) : DX c (.Call (.Attribute o "pop" apos) [i] [] cpos) ρ rs K := by
  intro σ H G Q he hs hx hq
  refine tE_of (pe_dpop1 pe_t pe_t m) ?_
  refine h σ H G _ he hs hx fun v1 H1 G1 t1 r1 st1 h1 o1 k1 => ?_
  obtain ⟨p, kvs, f, rfl, pk, k1⟩ := k1
  have e1 : v1 = .ref p := h1
  obtain ⟨vs, hp, al, _, _⟩ := dict_at pk o1
  refine ⟨p, e1, .inl ⟨vs, .inl hp⟩, ?_⟩
  refine k1 σ H1 G1 _ (he.stp st1) o1 (hx.stp st1) fun v2 H2 G2 t2 r2 st2 h2 o2 k2 => ?_
  obtain ⟨kv2, f2, k, s, rfl, pk2, hv, hn, k2⟩ := k2
  obtain ⟨vs2, hp2, al2, _, ch⟩ := dict_at pk2 o2
  rcases al2.val k with ⟨z, _⟩ | ⟨s', v, z1, z2, z3⟩
  · rw [z] at hv; cases hv
  · rw [z1] at hv
    cases hv
    obtain ⟨t3, o3⟩ := ch (dropK vs2 k) (dropS kv2 k) (al2.drop k)
    exact ⟨vs2, k, v, hp2, key_is h2.ok, z2, hq v _ G2 s _ ((st1.trans st2).trans t3) (Rs.of_ok (z3.stp t3) hn) o3 k2⟩
/-- d.pop(k, x) -/
theorem dx_dpop2 (h : DX c o ρ rs fun s1 r1 => ∃ p kvs f, s1 = .r (.ref p) ∧ Pick r1 (dictM p kvs) f ∧ DX c i ρ r1 fun s2 r2 => DX c b ρ r2 fun s3 r3 => ∃ kv2 f2 k, s2.plain = .d (keyD k) ∧ Pick r3 (dictM p kv2) f2 ∧ (∀ s, valS kv2 k = some s → (∀ ds, s ≠ .n ds) ∧ K s (f2 [dictM p (dropS kv2 k)])) ∧ (valS kv2 k = none → K s3 r3))
    (m : M2 c.X o "pop" apos i b cpos := by exact ⟨rfl, rfl, rfl, rfl⟩) : DX c (.Call (.Attribute o "pop" apos) [i, b] [] cpos) ρ rs K := by
  intro σ H G Q he hs hx hq
  refine tE_of (pe_dpop2 pe_t pe_t pe_t m) ?_
  refine h σ H G _ he hs hx fun v1 H1 G1 t1 r1 st1 h1 o1 k1 => ?_
  obtain ⟨p, kvs, f, rfl, pk, k1⟩ := k1
  have e1 : v1 = .ref p := h1
  obtain ⟨vs, hp, al, _, _⟩ := dict_at pk o1
  refine ⟨p, e1, .inl ⟨vs, .inl hp⟩, ?_⟩
  refine k1 σ H1 G1 _ (he.stp st1) o1 (hx.stp st1) fun v2 H2 G2 t2 r2 st2 h2 o2 k2 => ?_
  refine k2 σ H2 G2 _ ((he.stp st1).stp st2) o2 ((hx.stp st1).stp st2) fun v3 H3 G3 t3 r3 st3 h3 o3 k3 => ?_
  obtain ⟨kv2, f2, k, ek, pk2, hs1, hs2⟩ := k3
  have st := (st1.trans st2).trans st3
  have e2 : v2 = kV k := key_is (by rw [← ek]; exact h2.ok.plain)
  obtain ⟨vs2, hp2, al2, _, ch⟩ := dict_at pk2 o3
  obtain ⟨t4, o4⟩ := ch (dropK vs2 k) (dropS kv2 k) (al2.drop k)
  refine ⟨vs2, k, hp2, e2, fun v hv => ?_, fun hv => ?_⟩
  · rcases al2.val k with ⟨_, z⟩ | ⟨s, v', z1, z2, z3⟩
    · rw [z] at hv; cases hv
    · rw [z2] at hv
      cases hv
      obtain ⟨hn, kk⟩ := hs1 s z1
      exact hq v _ G3 s _ (st.trans t4) (Rs.of_ok (z3.stp t4) hn) o4 kk
  · rcases al2.val k with ⟨z, _⟩ | ⟨s, v', z1, z2, z3⟩
    · exact hq v3 H3 G3 t3 r3 st (h3.back (st1.trans st2)) o3 (hs2 z)
    · rw [z2] at hv; cases hv
/-- k in d -/
theorem dx_din (h : DX c i ρ rs fun s2 r1 => DX c o ρ r1 fun s1 r2 => ∃ p kvs f k, s1 = .r (.ref p) ∧ s2.plain = .d (keyD k) ∧ Pick r2 (dictM p kvs) f ∧ K (.d (.bool (valS kvs k).isSome)) r2) (hm : behindInMarks .In o = false := by rfl) : DX c (.Compare i [.In] [o] pos) ρ rs K := by
  intro σ H G Q he hs hx hq
  refine tE_of (pe_cmp (pc_din (by have := c.un; omega) pe_t pe_t) hm) ?_
  refine h σ H G _ he hs hx fun v1 H1 G1 t1 r1 st1 h1 o1 k1 => ?_
  refine k1 σ H1 G1 _ (he.stp st1) o1 (hx.stp st1) fun v2 H2 G2 t2 r2 st2 h2 o2 k2 => ?_
  obtain ⟨p, kvs, f, k, rfl, ek, pk, k2⟩ := k2
  have e1 : v2 = .ref p := h2
  have e2 : v1 = kV k := key_is (by rw [← ek]; exact h1.ok.plain.stp st2)
  obtain ⟨vs, hp, al, _, _⟩ := dict_at pk o2
  refine ⟨p, valV vs k, e1, by rw [e2]; exact DGet.k hp, ?_⟩
  have ei : (valV vs k).isSome = (valS kvs k).isSome := by
    rcases al.val k with ⟨z1, z2⟩ | ⟨s, v, z1, z2, _⟩ <;> rw [z1, z2] <;> rfl
  rw [ei]
  exact hq _ H2 G2 (.d (.bool _)) r2 (st1.trans st2) (Is.bl _) o2 k2
/-- sorted(d), the keys ints -/
theorem dx_sortedD (h : DX c a ρ rs fun s r => ∃ p kvs f ks, s = .r (.ref p) ∧ Pick r (dictM p kvs) f ∧ kvs.map (·.1) = ks.map Sum.inl ∧ ks.length < 64 ∧ ∀ ys : List Int, ys.Perm ks → ys.Pairwise (· ≤ ·) → K (.n (ys.map .int)) r)
    (hg : KdIn sc₀.names ("sorted" : Str) .globalImplicit := by first | ((with_reducible (repeat (first | exact KdIn.zero | apply KdIn.succ))); (first | (all_goals fail) | fail)) | exact kd_of rfl) (he : starEach [a] c.X.env = (false, eval a c.X.env) :: starEach [] c.X.env := by rfl) (hcm : cm₀ = true := by rfl) : DX c (.Call (.Name "sorted" p2) [a] [] pos) ρ rs K := by
  refine dx_callB (call_sortedDI (c.calm hcm)) c.bl.sorted b_sorted (da_cons (dx_weak h fun s r k => da_nil ?_) he) hg (he := he) (hpl := rfl)
  obtain ⟨p, kvs, f, ks, rfl, pk, ek, hl, k⟩ := k
  intro G H vs Q hv hs hq
  match vs, hv with
  | [v], hv =>
    have ev : v = .ref p := hv.1
    subst ev
    obtain ⟨ws, hp, al, _, _⟩ := dict_at pk hs
    refine ⟨p, ws, ks, rfl, .inl hp, by rw [al.keys, ek], hl, fun ys q hperm hpw hz => ?_⟩
    have st : Stp G G H (upd H q (.lst (ys.map V.int))) := stp_new hz
    exact hq _ _ G (.n (ys.map .int)) _ st ⟨q, _, rfl, hz, hs.fresh hz, upd_same, is_ints ys⟩ (sepL.step st.sub hs fun a o q _ => same_new hz a o q) (k ys hperm hpw)
/-- C(): an object made, without arguments -/
theorem dx_make0 {k : Nat} {C : Addr} {Q0 : Cn} (M : MkIs m₀ x C k Q0) (h : ∀ p, Q0 [.r (.ref p)] [insM C p []] (fun s r2 => s = .d .none ∧ K (.r (.ref p)) (r2 ++ rs)) (fun _ _ => False))
    (hk : k + 1 ≤ lv₀ := by decide) (hcm : cm₀ = true := by rfl) (hg : KdIn sc₀.names x .globalImplicit := by first | ((with_reducible (repeat (first | exact KdIn.zero | apply KdIn.succ))); (first | (all_goals fail) | fail)) | exact kd_of rfl) : DX c (.Call (.Name x p2) [] [] pos) ρ rs K := by
  intro σ H G Q hE hs hx hq
  obtain ⟨f, fd, ps, F, mk, hmg, hb⟩ := M.ex
  refine tE_of (pe_make0 (by rw [c.hm.K]; exact mk) (fn_at c.hm F) ((c.room hcm).mono hk) (c_gl hg) (by rw [c.hm.mg]; exact hmg) (by rw [c.hm.K]; exact hb) .nil passL (c.nd1 hg)) ?_
  intro p dx hp hd ne
  obtain ⟨G2, t2, o2⟩ := own_ins (C := C) hs hp hd ne
  refine ⟨[.r (.ref p)], sepM rs, [insM C p []], G2, _, _, (show SlAll G2 _ [.ref p] [.r (.ref p)] from ⟨rfl, trivial⟩), sepM_app.mpr o2, h p, fun v H' G' sl rs' t r o ⟨es, k⟩ => ?_, fun D H' G' rs' t o k => k⟩
  subst es
  have hv : Is G' H' v .none := r
  refine ⟨by cases hv; rfl, ?_⟩
  exact hq (.ref p) H' G' (.r (.ref p)) _ (t2.trans t) rfl (sepM_app.mp o) k
end
end PW

set_option maxHeartbeats 1000000
/-! The bits of a script's numbers; a law's end that tells them. -/
namespace PW
open PySem L2
/-- no number of a script lies beyond it -/
@[irreducible] def BM : Int := ((2 ^ 1048576 : Nat) : Int)
theorem bm_def : BM = ((2 ^ 1048576 : Nat) : Int) := by unfold BM; rfl
theorem bm_ge {n : Nat} (h : n ≤ 1048576) : ((2 ^ n : Nat) : Int) ≤ BM := by
  unfold BM
  exact Int.ofNat_le.mpr (Nat.pow_le_pow_right (by decide) h)
theorem bm_big : (1000000000000000000000000000000 : Int) ≤ BM := Int.le_trans (by decide) (bm_ge (n := 300) (by decide))
theorem bm_of {n : Int} (h : Builtin.Int.intBits n ≤ 1048576) : -BM ≤ n ∧ n ≤ BM := by
  have h1 := intBits_le_iff.mp h
  have h2 : (n.natAbs : Int) ≤ BM := by
    unfold BM
    exact Int.ofNat_le.mpr (Nat.le_of_lt h1)
  omega
theorem mul_bm {i j : Int} (hi : -(16 * BM) ≤ i ∧ i ≤ 16 * BM) (hj : -(2 ^ 300) < j ∧ j < 2 ^ 300) : IntMulOk i j := by
  have e := bm_def
  have hb : Builtin.Int.intBits i ≤ 1048581 := by
    refine intBits_le_iff.mpr ?_
    have h2 : (2 ^ 1048581 : Nat) = 2 ^ 1048576 * 32 := by rw [show (1048581 : Nat) = 1048576 + 5 from rfl, Nat.pow_add]
    rw [h2]
    have hp : 0 < 2 ^ 1048576 := Nat.two_pow_pos _
    generalize hP : (2 ^ 1048576 : Nat) = P at e hp ⊢
    rw [e] at hi
    omega
  have hj2 : Builtin.Int.intBits j ≤ 300 := by
    refine intBits_le_iff.mpr ?_
    have h2 : ((2 ^ 300 : Nat) : Int) = 2 ^ 300 := by decide +kernel
    omega
  exact IntMulOk.of_le hb hj2 (by decide)
section
variable [KC]
def lawCB : Cn := fun ss rin res _ => ∃ ns : List Int, ss = [.d (.list (ns.map .int))] ∧ rin = [] ∧ (ns.length ≤ 63 ∧ ∀ n ∈ ns, -BM ≤ n ∧ n ≤ BM) ∧ res (.d (.bool true)) []
theorem law_inB {H : Hp} {a : Addr} {ns : List Int} (hl : ns.length ≤ 63) (hb : ∀ n ∈ ns, Builtin.Int.intBits n ≤ 1048576) (h : SqL KC.K H a (ns.map V.int)) : spC lawCB [.ref a] H (fun v _ => v = .bl true) (fun _ _ _ => False) := by
  refine ⟨[.d (.list (ns.map .int))], sepM [], [], fun _ => False, fun s _ => s = .d (.bool true), fun _ _ => False, ⟨?_, trivial⟩, ?_, ⟨ns, rfl, rfl, ⟨hl, fun n hn => bm_of (hb n hn)⟩, rfl⟩, fun v H' G' sl rs' t r o k => ?_, fun _ _ _ _ _ _ z => z⟩
  · refine Is.lst ?_ (is_ints ns)
    rcases h with h | h
    · exact .inl ⟨h, id⟩
    · exact .inr h
  · exact ⟨fun _ => False, fun _ => False, fun _ z => z, fun _ z => z, fun _ z => z.elim, fun _ => ⟨False.elim, fun z => z.elim id id⟩⟩
  · subst k
    exact rs_bool r
end
theorem law_walkB {l : PySem.W.OpenLaw} {k : Nat} {q : Program} {loose : List Str} {XP : (Str → Option Value) → Heap → Prop} {YP : World → Heap → Prop} {d : DefRec} {K : Params → PySem.W.Frag} {x : Str}
    (hn : l.most = some 63) (hdf : d.params.defaults = []) (hr : Room k callerA) (hY : ∀ (w : World) (h : Heap), YP w h → (K w.params).In h)
    (F : ∀ (w : World) (mg : Str → Option Value) (fa : Addr) (h : Heap), (K w.params).In h → h.Ns mainGlobals mg → mg d.name = some (.ref fa) →
      ∃ fd : FuncData, (∀ (s : Shared) (u : Value), BindsTo s fd ⟨[u], []⟩ [(x, u)]) ∧
        ∀ base : Heap, FnOk l.prog w (K w.params) mg base (L2.CX l.prog w) k fa fd [x] (@spC ⟨K w.params⟩ lawCB)) :
    PySem.W.WalkO q loose XP YP l.row.toRowW d [] (fun f vs => PySem.call f vs) := by
  refine L2.walk_ofB (K := K) (n := 63) (k := k) (x := x) (CX := fun w => L2.CX l.prog w) (sp := fun w => @spC ⟨K w.params⟩ lawCB) hn (by decide) hdf hr hY ?_ ?_ (fun w H s e s' => cx_no)
  · intro w mg fa h KX G hmg
    obtain ⟨fd, h1, h2⟩ := F w mg fa h KX G hmg
    exact ⟨fd, h1, fun base _ _ => h2 base⟩
  · intro w H a ns hl hb _ hS
    exact @law_inB ⟨K w.params⟩ H a ns hl hb hS
/-- data that _law_alike goes through, so deep -/
inductive AlikeOk : Nat → PyData → Prop
  | non (n) : AlikeOk n .none
  | bl (n b) : AlikeOk n (.bool b)
  | int (n i) : AlikeOk n (.int i)
  | str (n) (s : Str) : AlikeOk n (.str s)
  | tup {n ds} : ds.length ≤ 40000 → (∀ d ∈ ds, AlikeOk n d) → AlikeOk (n + 1) (.tuple ds)
  | lst {n ds} : ds.length ≤ 40000 → (∀ d ∈ ds, AlikeOk n d) → AlikeOk (n + 1) (.list ds)
theorem AlikeOk.mono {n : Nat} {d : PyData} (h : AlikeOk n d) : AlikeOk (n + 1) d := by
  induction h with
  | non => exact .non _
  | bl => exact .bl _ _
  | int => exact .int _ _
  | str => exact .str _ _
  | tup h _ ih => exact .tup h ih
  | lst h _ ih => exact .lst h ih
section
variable [KC] {m₀ : Mo} {N₀ : List Str} {sc₀ : Scope} {lv₀ : Nat} {xp₀ : Addr → List Sl → List Mem → Prop} {fF₀ cm₀ : Bool} {c : Ctx m₀ N₀ sc₀ lv₀ xp₀ fF₀ cm₀} {a o : Expr} {ρ : List Sl} {rs : List Mem} {K : Sl → List Mem → Prop} {pos apos cpos : Pos}
/-- xs.index(y), xs plain -/
theorem dx_lindex (h : DX c o ρ rs fun s r => ∃ ds, s.plain = .d (.list ds) ∧ DA c [a] ρ r fun ts r2 => ∃ t d j z, ts = [t] ∧ t.plain = .d d ∧ SeqAt.shaped (.list ds) = true ∧ SeqAt.shaped d = true ∧ ds[j]? = some z ∧ PyData.eqv z d = true ∧ (∀ (m : Nat) (z' : PyData), m < j → ds[m]? = some z' → PyData.eqv z' d = false) ∧ K (.d (.int (j : Nat))) r2)
    (hm : MeOk c.X o "index" a [] apos cpos := by exact ⟨rfl, rfl, rfl, rfl⟩) : DX c (.Call (.Attribute o "index" apos) [a] [] cpos) ρ rs K := by
  intro σ H G Q he hs hx hq
  refine tE_of (pe_bm PySem.F.plainAttrs_list PySem.F.slot_list_index PySem.F.type_list_index (mt_indexD (by have := c.un; omega)) pe_t pa_t (hs := hm.hs) (hbase := hm.hb) (hline := hm.hl) (hfew := hm.hf)) ?_
  refine h σ H G _ he hs hx fun v H1 G1 s1 r1 t1 h1 o1 k1 => ?_
  obtain ⟨ds, e1, k1⟩ := k1
  have i1 : Is G1 H1 v (.list ds) := plain_d e1 h1.ok
  obtain ⟨p, vs, rfl, rd, al⟩ := (show SlOk G1 H1 v (.d (.list ds)) from i1).list rfl
  refine ⟨.inl ⟨rfl, vs, c.ck ▸ rd.sq⟩, ?_⟩
  refine k1 σ H1 G1 _ (he.stp t1) o1 (hx.stp t1) fun us H2 G2 ts r2 t2 h2 o2 k2 => ?_
  obtain ⟨t, d, j, z, rfl, e2, sl, sd, hz, hzj, hno, k2⟩ := k2
  match us, h2 with
  | [y], h2 =>
    refine ⟨p, y, d, ds, j, z, rfl, rfl, c.ck ▸ (i1.stp t2).dp, c.ck ▸ (plain_d e2 h2.1).dp, sl, sd, hz, hzj, hno, ?_⟩
    exact hq _ H2 G2 (.d (.int _)) r2 (t1.trans t2) (Is.int _) o2 k2
end
end PW

set_option maxHeartbeats 1000000
/-! Collections of things; dicts copied, listed, counted, asked for truth. -/
namespace PW
open PySem L2
variable [KC]
variable {m₀ : Mo} {N₀ : List Str} {sc₀ : Scope} {lv₀ : Nat} {xp₀ : Addr → List Sl → List Mem → Prop} {fF₀ cm₀ : Bool}
theorem pick_mid (A : Mem) (ys : List Mem) : ∀ xs : List Mem, ∃ f, Pick (xs ++ A :: ys) A f ∧ ∀ zs, f zs = xs ++ (zs ++ ys)
  | [] => ⟨_, .zero, fun _ => rfl⟩
  | B :: xs => by
    obtain ⟨f, p, e⟩ := pick_mid A ys xs
    exact ⟨_, .succ p, fun zs => by show B :: f zs = _; rw [e]; rfl⟩
theorem sep_mid {H : Hp} {G F : Fp} {A : Mem} {xs ys : List Mem} : sepL (xs ++ A :: ys) F G H ↔ sepL (A :: (xs ++ ys)) F G H := by
  obtain ⟨f, p, e⟩ := pick_mid A ys xs
  have := p.split (H := H) (G := G) (F := F)
  rw [e []] at this
  exact this
theorem sep_fold {H : Hp} {G F : Fp} {xs ys : List Mem} : sepL (sepM xs :: ys) F G H ↔ sepL (xs ++ ys) F G H := by
  constructor
  · rintro ⟨F1, F2, h1, h2, d, e⟩
    exact sepL.app.mpr ⟨F1, F2, h1, h2, d, e⟩
  · intro h
    obtain ⟨F1, F2, h1, h2, d, e⟩ := sepL.app.mp h
    exact ⟨F1, F2, h1, h2, d, e⟩
/-- as many things as a list tells -/
def famM {α : Type} (f : α → Mem) (l : List α) : Mem := sepM (l.map f)
theorem ent_iff {a b : List Mem} (h : ∀ {G F : Fp} {H : Hp}, sepL a F G H → sepL b F G H) : Ent a b := fun G H q => ⟨G, fun _ z => z, h q⟩
theorem take_mid {α : Type} {l : List α} {i : Nat} {x : α} (h : l[i]? = some x) : l = l.take i ++ x :: l.drop (i + 1) ∧ i < l.length := by
  obtain ⟨hi, rfl⟩ := List.getElem?_eq_some_iff.mp h
  exact ⟨by simp, hi⟩
section
variable {α : Type} {f : α → Mem} {l : List α} {i : Nat} {x y : α} {rs : List Mem}
theorem fam_out (h : l[i]? = some x) : Ent (famM f l :: rs) (f x :: famM f (l.take i ++ l.drop (i + 1)) :: rs) := ent_iff fun {G F H} q => by
  obtain ⟨e, hi⟩ := take_mid h
  have q := sep_fold.mp q
  rw [e, List.map_append, List.map_cons, List.append_assoc, List.cons_append] at q
  have q := sep_mid.mp q
  obtain ⟨F1, F2, h1, h2, d, e2⟩ := q
  refine ⟨F1, F2, h1, sep_fold.mpr ?_, d, e2⟩
  rw [List.map_append, List.append_assoc]; exact h2
theorem fam_in (h : i < l.length) : Ent (f y :: famM f (l.take i ++ l.drop (i + 1)) :: rs) (famM f (l.set i y) :: rs) := ent_iff fun {G F H} q => by
  refine sep_fold.mpr ?_
  have e : l.set i y = l.take i ++ y :: l.drop (i + 1) := by rw [List.set_eq_take_append_cons_drop, if_pos h]
  rw [e, List.map_append, List.map_cons, List.append_assoc, List.cons_append]
  refine sep_mid.mpr ?_
  obtain ⟨F1, F2, h1, h2, d, e2⟩ := q
  refine ⟨F1, F2, h1, ?_, d, e2⟩
  have h2 := sep_fold.mp h2
  rw [List.map_append, List.append_assoc] at h2; exact h2
theorem fam_add : Ent (f y :: famM f l :: rs) (famM f (l ++ [y]) :: rs) := ent_iff fun {G F H} q => by
  refine sep_fold.mpr ?_
  rw [List.map_append, List.append_assoc]
  refine sep_mid.mpr ?_
  obtain ⟨F1, F2, h1, h2, d, e2⟩ := q
  exact ⟨F1, F2, h1, sep_fold.mp h2, d, e2⟩
theorem fam_cons : Ent (f y :: famM f l :: rs) (famM f (y :: l) :: rs) := ent_iff fun {G F H} q => by
  refine sep_fold.mpr ?_
  obtain ⟨F1, F2, h1, h2, d, e2⟩ := q
  exact ⟨F1, F2, h1, sep_fold.mp h2, d, e2⟩
theorem fam_uncons : Ent (famM f (y :: l) :: rs) (f y :: famM f l :: rs) := ent_iff fun {G F H} q => by
  obtain ⟨F1, F2, h1, h2, d, e2⟩ := sep_fold.mp q
  exact ⟨F1, F2, h1, sep_fold.mpr h2, d, e2⟩
theorem fam_nil : Ent rs (famM f [] :: rs) := ent_iff fun {G F H} q => ⟨fun _ => False, F, fun _ z => z, q, fun _ z => z.elim, fun _ => ⟨.inr, fun z => z.elim False.elim id⟩⟩
theorem fam_back (h : l[i]? = some x) : Ent (f x :: famM f (l.take i ++ l.drop (i + 1)) :: rs) (famM f l :: rs) := by
  obtain ⟨hi, e⟩ := List.getElem?_eq_some_iff.mp h
  have := fam_in (f := f) (y := x) (rs := rs) hi
  have e2 : l.set i x = l := by rw [← e]; exact List.set_getElem_self hi
  rwa [e2] at this
/-- under what stands ahead -/
theorem ent_under {xs a b : List Mem} (h : Ent a b) (hh : ∀ {G F : Fp} {H : Hp}, sepL a F G H → sepL b F G H) : Ent (xs ++ a) (xs ++ b) := ent_iff fun {G F H} q => by
  obtain ⟨F1, F2, h1, h2, d, e⟩ := sepL.app.mp q
  exact sepL.app.mpr ⟨F1, F2, h1, hh h2, d, e⟩
end
/-- the same, wherever the rest is -/
def SE (a b : List Mem) : Prop := ∀ (G F : Fp) (H : Hp), sepL a F G H → sepL b F G H
theorem SE.ent {a b : List Mem} (h : SE a b) : Ent a b := ent_iff fun q => h _ _ _ q
theorem SE.refl {a : List Mem} : SE a a := fun _ _ _ h => h
theorem SE.trans {a b d : List Mem} (h : SE a b) (k : SE b d) : SE a d := fun _ _ _ q => k _ _ _ (h _ _ _ q)
theorem SE.cons {A : Mem} {a b : List Mem} (h : SE a b) : SE (A :: a) (A :: b) := fun _ _ _ ⟨F1, F2, h1, h2, d, e⟩ => ⟨F1, F2, h1, h _ _ _ h2, d, e⟩
theorem SE.swap {A B : Mem} {a : List Mem} : SE (A :: B :: a) (B :: A :: a) := fun G F H h => (Pick.split (.succ .zero)).mp h
section
variable {α : Type} {f g : α → Mem} {l : List α} {i : Nat} {x y : α} {rs : List Mem}
theorem se_out (h : l[i]? = some x) : SE (famM f l :: rs) (f x :: famM f (l.take i ++ l.drop (i + 1)) :: rs) := fun G F H q => by
  obtain ⟨e, hi⟩ := take_mid h
  have q := sep_fold.mp q
  rw [e, List.map_append, List.map_cons, List.append_assoc, List.cons_append] at q
  have q := sep_mid.mp q
  obtain ⟨F1, F2, h1, h2, d, e2⟩ := q
  refine ⟨F1, F2, h1, sep_fold.mpr ?_, d, e2⟩
  rw [List.map_append, List.append_assoc]; exact h2
theorem se_in (h : i < l.length) : SE (f y :: famM f (l.take i ++ l.drop (i + 1)) :: rs) (famM f (l.set i y) :: rs) := fun G F H q => by
  refine sep_fold.mpr ?_
  have e : l.set i y = l.take i ++ y :: l.drop (i + 1) := by rw [List.set_eq_take_append_cons_drop, if_pos h]
  rw [e, List.map_append, List.map_cons, List.append_assoc, List.cons_append]
  refine sep_mid.mpr ?_
  obtain ⟨F1, F2, h1, h2, d, e2⟩ := q
  refine ⟨F1, F2, h1, ?_, d, e2⟩
  have h2 := sep_fold.mp h2
  rw [List.map_append, List.append_assoc] at h2; exact h2
theorem se_add : SE (f y :: famM f l :: rs) (famM f (l ++ [y]) :: rs) := fun G F H q => by
  refine sep_fold.mpr ?_
  rw [List.map_append, List.append_assoc]
  refine sep_mid.mpr ?_
  obtain ⟨F1, F2, h1, h2, d, e2⟩ := q
  exact ⟨F1, F2, h1, sep_fold.mp h2, d, e2⟩
theorem se_nil : SE rs (famM f [] :: rs) := fun G F H q => ⟨fun _ => False, F, fun _ z => z, q, fun _ z => z.elim, fun _ => ⟨.inr, fun z => z.elim False.elim id⟩⟩
/-- two families side by side -/
theorem se_out2 (h : l[i]? = some x) : SE (famM f l :: famM g l :: rs) (f x :: g x :: famM f (l.take i ++ l.drop (i + 1)) :: famM g (l.take i ++ l.drop (i + 1)) :: rs) :=
  (se_out h).trans (.cons (SE.trans (.cons (se_out h)) .swap))
theorem se_in2 (h : i < l.length) : SE (f y :: g y :: famM f (l.take i ++ l.drop (i + 1)) :: famM g (l.take i ++ l.drop (i + 1)) :: rs) (famM f (l.set i y) :: famM g (l.set i y) :: rs) :=
  SE.trans (.cons .swap) ((se_in h).trans (.cons (se_in h)))
theorem se_add2 : SE (f y :: g y :: famM f l :: famM g l :: rs) (famM f (l ++ [y]) :: famM g (l ++ [y]) :: rs) :=
  SE.trans (.cons .swap) (se_add.trans (.cons se_add))
theorem set_self {l : List α} (h : l[i]? = some x) : l.set i x = l := by
  obtain ⟨hi, e⟩ := List.getElem?_eq_some_iff.mp h
  rw [← e]; exact List.set_getElem_self hi
theorem se_back2 (h : l[i]? = some x) : SE (f x :: g x :: famM f (l.take i ++ l.drop (i + 1)) :: famM g (l.take i ++ l.drop (i + 1)) :: rs) (famM f l :: famM g l :: rs) := by
  have := se_in2 (f := f) (g := g) (y := x) (rs := rs) (List.getElem?_eq_some_iff.mp h).choose
  rwa [set_self h] at this
theorem se_back (h : l[i]? = some x) : SE (f x :: famM f (l.take i ++ l.drop (i + 1)) :: rs) (famM f l :: rs) := by
  have := se_in (f := f) (y := x) (rs := rs) (List.getElem?_eq_some_iff.mp h).choose
  rwa [set_self h] at this
end
section
variable {c : Ctx m₀ N₀ sc₀ lv₀ xp₀ fF₀ cm₀} {e a b o i it : Expr} {es : List Expr} {ρ ρ' : List Sl} {r1 rs rs2 : List Mem} {K : Sl → List Mem → Prop} {KB : Bool → List Mem → Prop} {P : Post} {x y f : Str} {pos pos' p2 p3 apos cpos : Pos} {s1 s2 : Sl} {sts : List Stmt}
/-- other words for the things, ahead of an expression -/
theorem dx_ent0 (h : Ent rs rs2) (k : DX c e ρ rs2 K) : DX c e ρ rs K := by
  intro σ H G Q he hs hx hq
  obtain ⟨G', l, o⟩ := h G H hs
  have t : Stp G G' H H := Stp.less l
  exact k σ H G' Q (he.stp t) o (hx.stp t) fun v H2 G2 sl r t2 h2 o2 k2 => hq v H2 G2 sl r (t.trans t2) (h2.back t) o2 k2
theorem dt_ent0 (h : Ent rs rs2) (k : DT c e ρ rs2 KB) : DT c e ρ rs KB := by
  intro σ H G Q he hs hx hq
  obtain ⟨G', l, o⟩ := h G H hs
  have t : Stp G G' H H := Stp.less l
  exact k σ H G' Q (he.stp t) o (hx.stp t) fun v H2 G2 r t2 o2 k2 => hq v H2 G2 r (t.trans t2) o2 k2
theorem dt_ent (h : DT c e ρ rs fun b r => ∃ r2, Ent r r2 ∧ KB b r2) : DT c e ρ rs KB := by
  intro σ H G Q he hs hx hq
  refine h σ H G Q he hs hx fun b H2 G2 r t2 o2 ⟨r2, en, k2⟩ => ?_
  obtain ⟨G', l, o⟩ := en G2 H2 o2
  exact hq b H2 G' r2 (t2.trans (Stp.less l)) o k2
/-- the truth of a dict -/
theorem tr_dict {p : Addr} {kvs : DKv} {g : List Mem → List Mem} (pk : Pick rs (dictM p kvs) g) (h : KB (!kvs.isEmpty) rs) : TrD (.r (.ref p)) rs KB := fun G H x hx hs => by
  have ex : x = .ref p := hx
  subst ex
  obtain ⟨vs, hp, al, _, _⟩ := dict_at pk hs
  refine ⟨!kvs.isEmpty, .inr (.inr ⟨vs, hp, ?_⟩), h⟩
  have := al.length
  cases vs with
  | nil => cases kvs with
    | nil => rfl
    | cons _ _ => cases this
  | cons _ _ => cases kvs with
    | nil => cases this
    | cons _ _ => rfl
/-- len(d) -/
theorem dx_dlen (h : DX c a ρ rs fun s r => ∃ p kvs g, s = .r (.ref p) ∧ Pick r (dictM p kvs) g ∧ K (.d (.int kvs.length)) r)
    (hg : KdIn sc₀.names ("len" : Str) .globalImplicit := by first | ((with_reducible (repeat (first | exact KdIn.zero | apply KdIn.succ))); (first | (all_goals fail) | fail)) | exact kd_of rfl) (he : starEach [a] c.X.env = (false, eval a c.X.env) :: starEach [] c.X.env := by rfl) : DX c (.Call (.Name "len" p2) [a] [] pos) ρ rs K := by
  refine dx_callB call_lenD c.bl.len (by decide +kernel) (da_cons (dx_weak h fun s r k => da_nil ?_) he) hg (he := he) (hpl := rfl)
  obtain ⟨p, kvs, g, rfl, pk, k⟩ := k
  intro G H vs Q hv hs hq
  match vs, hv with
  | [v], hv =>
    have ev : v = .ref p := hv.1
    subst ev
    obtain ⟨ws, hp, al, _, _⟩ := dict_at pk hs
    refine ⟨p, ws, rfl, hp, ?_⟩
    rw [al.length]
    exact hq _ _ G (.d (.int kvs.length)) _ (Stp.refl _ _) (Is.int _) hs k
theorem kvall_keys {G : Fp} {H : Hp} : ∀ {vs : List (Key × V)} {ss : DKv}, KvAll G H vs ss → IsAll G H (vs.map fun kv => kV kv.1) (ss.map fun kv => keyD kv.1)
  | [], [], _ => .nil
  | (k, _) :: _, (k2, _) :: _, ⟨e, _, q⟩ => by
    have e : k = k2 := e
    subst e
    refine .cons ?_ (kvall_keys q)
    cases k with
    | inl i => exact .int i
    | inr z => exact .str z
  | [], _ :: _, h => h.elim
  | _ :: _, [], h => h.elim
/-- list(d) -/
theorem dx_dlist (h : DX c a ρ rs fun s r => ∃ p kvs g, s = .r (.ref p) ∧ Pick r (dictM p kvs) g ∧ K (.n (kvs.map fun kv => keyD kv.1)) r)
    (hg : KdIn sc₀.names ("list" : Str) .globalImplicit := by first | ((with_reducible (repeat (first | exact KdIn.zero | apply KdIn.succ))); (first | (all_goals fail) | fail)) | exact kd_of rfl) (he : starEach [a] c.X.env = (false, eval a c.X.env) :: starEach [] c.X.env := by rfl) (hcm : cm₀ = true := by rfl) : DX c (.Call (.Name "list" p2) [a] [] pos) ρ rs K := by
  refine dx_callTy (call_listD (c.calm hcm)) c.bl.list b_list (da_cons (dx_weak h fun s r k => da_nil ?_) he) hg (he := he) (hpl := rfl)
  obtain ⟨p, kvs, g, rfl, pk, k⟩ := k
  intro G H vs Q hv hs hq
  match vs, hv with
  | [v], hv =>
    have ev : v = .ref p := hv.1
    subst ev
    obtain ⟨ws, hp, al, _, _⟩ := dict_at pk hs
    refine ⟨p, ws, rfl, .inl hp, fun q hz => ?_⟩
    have st : Stp G G H (upd H q (.lst (ws.map fun kv => kV kv.1))) := stp_new hz
    exact hq _ _ G (.n _) _ st ⟨q, _, rfl, hz, hs.fresh hz, upd_same, (kvall_keys al).stp st⟩ (sepL.step st.sub hs fun a o q _ => same_new hz a o q) k
/-- dict(d), owned -/
theorem dx_dictO (h : DX c a ρ rs fun s r => ∃ p kvs g, s = .r (.ref p) ∧ Pick r (dictM p kvs) g ∧ ∀ q, K (.r (.ref q)) (dictM q kvs :: r))
    (hg : KdIn sc₀.names ("dict" : Str) .globalImplicit := by first | ((with_reducible (repeat (first | exact KdIn.zero | apply KdIn.succ))); (first | (all_goals fail) | fail)) | exact kd_of rfl) (he : starEach [a] c.X.env = (false, eval a c.X.env) :: starEach [] c.X.env := by rfl) : DX c (.Call (.Name "dict" p2) [a] [] pos) ρ rs K := by
  refine dx_callTy call_dictD c.bl.dict (by decide +kernel) (da_cons (dx_weak h fun s r k => da_nil ?_) he) hg (he := he) (hpl := rfl)
  obtain ⟨p, kvs, g, rfl, pk, k⟩ := k
  intro G H vs Q hv hs hq
  match vs, hv with
  | [v], hv =>
    have ev : v = .ref p := hv.1
    subst ev
    obtain ⟨ws, hp, al, _, _⟩ := dict_at pk hs
    refine ⟨p, ws, rfl, .inl hp, fun q hz => ?_⟩
    obtain ⟨t, o⟩ := own_dict hs hz al
    exact hq _ _ _ (.r (.ref q)) _ t rfl o (k q)
/-- d.get(k, x) -/
theorem dx_dget2 (h : DX c o ρ rs fun s1 r1 => ∃ p kvs f, s1 = .r (.ref p) ∧ Pick r1 (dictM p kvs) f ∧ DX c i ρ r1 fun s2 r2 => DX c b ρ r2 fun s3 r3 => ∃ kv2 f2 k d, s2.plain = .d (keyD k) ∧ s3 = .d d ∧ Pick r3 (dictM p kv2) f2 ∧ (∀ s, valS kv2 k = some s → ∀ ds, s ≠ .n ds) ∧ K ((valS kv2 k).getD (.d d)) r3)
    (m : M2 c.X o "get" apos i b cpos := by exact ⟨rfl, rfl, rfl, rfl⟩) : DX c (.Call (.Attribute o "get" apos) [i, b] [] cpos) ρ rs K := by
  intro σ H G Q he hs hx hq
  refine tE_of (pe_dget2 (by have := c.un; omega) pe_t pe_t pe_t m) ?_
  refine h σ H G _ he hs hx fun v1 H1 G1 t1 r1 st1 h1 o1 k1 => ?_
  obtain ⟨p, kvs, f, rfl, pk, k1⟩ := k1
  have e1 : v1 = .ref p := h1
  obtain ⟨vs, hp, al, _, _⟩ := dict_at pk o1
  refine ⟨p, e1, .inl ⟨vs, .inl hp⟩, ?_⟩
  refine k1 σ H1 G1 _ (he.stp st1) o1 (hx.stp st1) fun v2 H2 G2 t2 r2 st2 h2 o2 k2 => ?_
  refine k2 σ H2 G2 _ ((he.stp st1).stp st2) o2 ((hx.stp st1).stp st2) fun v3 H3 G3 t3 r3 st3 h3 o3 k3 => ?_
  obtain ⟨kv2, f2, k, d, ek, rfl, pk2, hn, k3⟩ := k3
  have st := (st1.trans st2).trans st3
  have e2 : v2 = kV k := key_is (by rw [← ek]; exact h2.ok.plain)
  obtain ⟨vs2, hp2, al2, _, _⟩ := dict_at pk2 o3
  refine ⟨valV vs2 k, by rw [e2]; exact DGet.k hp2, ?_⟩
  rcases al2.val k with ⟨z1, z2⟩ | ⟨s, v, z1, z2, z3⟩
  · rw [z1] at k3
    rw [z2]
    exact hq v3 H3 G3 (.d d) r3 st (h3.back (st1.trans st2)) o3 k3
  · rw [z1] at k3
    rw [z2]
    exact hq v H3 G3 s r3 st (Rs.of_ok z3 (hn s z1)) o3 k3
theorem isSome_eq {vs : List (Key × V)} {kvs : DKv} {G : Fp} {H : Hp} (al : KvAll G H vs kvs) (k : Key) : (valV vs k).isSome = (valS kvs k).isSome := by
  rcases al.val k with ⟨z1, z2⟩ | ⟨s, v, z1, z2, _⟩ <;> rw [z1, z2] <;> rfl
/-- k not in d -/
theorem dx_dnin (h : DX c i ρ rs fun s2 r1 => DX c o ρ r1 fun s1 r2 => ∃ p kvs f k, s1 = .r (.ref p) ∧ s2.plain = .d (keyD k) ∧ Pick r2 (dictM p kvs) f ∧ K (.d (.bool (!(valS kvs k).isSome))) r2) (hm : behindInMarks .NotIn o = false := by rfl) : DX c (.Compare i [.NotIn] [o] pos) ρ rs K := by
  intro σ H G Q he hs hx hq
  refine tE_of (pe_cmp (pc_dnotin (by have := c.un; omega) pe_t pe_t) hm) ?_
  refine h σ H G _ he hs hx fun v1 H1 G1 t1 r1 st1 h1 o1 k1 => ?_
  refine k1 σ H1 G1 _ (he.stp st1) o1 (hx.stp st1) fun v2 H2 G2 t2 r2 st2 h2 o2 k2 => ?_
  obtain ⟨p, kvs, f, k, rfl, ek, pk, k2⟩ := k2
  have e1 : v2 = .ref p := h2
  have e2 : v1 = kV k := key_is (by rw [← ek]; exact h1.ok.plain.stp st2)
  obtain ⟨vs, hp, al, _, _⟩ := dict_at pk o2
  refine ⟨p, valV vs k, e1, by rw [e2]; exact DGet.k hp, ?_⟩
  rw [isSome_eq al k]
  exact hq _ H2 G2 (.d (.bool _)) r2 (st1.trans st2) (Is.bl _) o2 k2
theorem dt_din (h : DX c i ρ rs fun s2 r1 => DX c o ρ r1 fun s1 r2 => ∃ p kvs f k, s1 = .r (.ref p) ∧ s2.plain = .d (keyD k) ∧ Pick r2 (dictM p kvs) f ∧ KB (valS kvs k).isSome r2) (hm : behindInMarks .In o = false := by rfl) : DT c (.Compare i [.In] [o] pos) ρ rs KB := by
  intro σ H G Q he hs hx hq
  refine tT_of (pt_cmp (pc_din (by have := c.un; omega) pe_t pe_t) hm) ?_
  refine h σ H G _ he hs hx fun v1 H1 G1 t1 r1 st1 h1 o1 k1 => ?_
  refine k1 σ H1 G1 _ (he.stp st1) o1 (hx.stp st1) fun v2 H2 G2 t2 r2 st2 h2 o2 k2 => ?_
  obtain ⟨p, kvs, f, k, rfl, ek, pk, k2⟩ := k2
  have e1 : v2 = .ref p := h2
  have e2 : v1 = kV k := key_is (by rw [← ek]; exact h1.ok.plain.stp st2)
  obtain ⟨vs, hp, al, _, _⟩ := dict_at pk o2
  refine ⟨p, valV vs k, e1, by rw [e2]; exact DGet.k hp, _, rfl, ?_⟩
  rw [isSome_eq al k]
  exact hq _ H2 G2 r2 (st1.trans st2) o2 k2
theorem dt_dnin (h : DX c i ρ rs fun s2 r1 => DX c o ρ r1 fun s1 r2 => ∃ p kvs f k, s1 = .r (.ref p) ∧ s2.plain = .d (keyD k) ∧ Pick r2 (dictM p kvs) f ∧ KB (!(valS kvs k).isSome) r2) (hm : behindInMarks .NotIn o = false := by rfl) : DT c (.Compare i [.NotIn] [o] pos) ρ rs KB := by
  intro σ H G Q he hs hx hq
  refine tT_of (pt_cmp (pc_dnotin (by have := c.un; omega) pe_t pe_t) hm) ?_
  refine h σ H G _ he hs hx fun v1 H1 G1 t1 r1 st1 h1 o1 k1 => ?_
  refine k1 σ H1 G1 _ (he.stp st1) o1 (hx.stp st1) fun v2 H2 G2 t2 r2 st2 h2 o2 k2 => ?_
  obtain ⟨p, kvs, f, k, rfl, ek, pk, k2⟩ := k2
  have e1 : v2 = .ref p := h2
  have e2 : v1 = kV k := key_is (by rw [← ek]; exact h1.ok.plain.stp st2)
  obtain ⟨vs, hp, al, _, _⟩ := dict_at pk o2
  refine ⟨p, valV vs k, e1, by rw [e2]; exact DGet.k hp, _, rfl, ?_⟩
  rw [isSome_eq al k]
  exact hq _ H2 G2 r2 (st1.trans st2) o2 k2
theorem ex_dic {p : Addr} {kvs : DKv} {g : List Mem → List Mem} {B : Addr → DKv → (List Mem → List Mem) → Prop} (pk : Pick rs (dictM p kvs) g) (k : B p kvs g) : ∃ p' kvs' g', Sl.r (.ref p) = .r (.ref p') ∧ Pick rs (dictM p' kvs') g' ∧ B p' kvs' g' := ⟨p, kvs, g, rfl, pk, k⟩
theorem ex_din1 {p : Addr} {kvs : DKv} {g : List Mem → List Mem} {n : Int} {B : Addr → DKv → (List Mem → List Mem) → Key → Prop} (pk : Pick rs (dictM p kvs) g) (k : B p kvs g (.inl n)) : ∃ p' kvs' g' k, Sl.r (.ref p) = .r (.ref p') ∧ (Sl.d (.int n)).plain = .d (keyD k) ∧ Pick rs (dictM p' kvs') g' ∧ B p' kvs' g' k := ⟨p, kvs, g, .inl n, rfl, rfl, pk, k⟩
theorem ex_din2 {p : Addr} {kvs : DKv} {g : List Mem → List Mem} {n : Str} {B : Addr → DKv → (List Mem → List Mem) → Key → Prop} (pk : Pick rs (dictM p kvs) g) (k : B p kvs g (.inr n)) : ∃ p' kvs' g' k, Sl.r (.ref p) = .r (.ref p') ∧ (Sl.d (.str n)).plain = .d (keyD k) ∧ Pick rs (dictM p' kvs') g' ∧ B p' kvs' g' k := ⟨p, kvs, g, .inr n, rfl, rfl, pk, k⟩
theorem ex_dlen {p : Addr} {kvs : DKv} {g : List Mem → List Mem} {B : Addr → DKv → (List Mem → List Mem) → Prop} (pk : Pick rs (dictM p kvs) g) (k : B p kvs g) : ∃ p' kvs' g', Sl.r (.ref p) = .r (.ref p') ∧ Pick rs (dictM p' kvs') g' ∧ B p' kvs' g' := ⟨p, kvs, g, rfl, pk, k⟩
theorem ex_dget {p : Addr} {kvs : DKv} {g : List Mem → List Mem} {n : Int} {s : Sl} {B : Addr → DKv → (List Mem → List Mem) → Key → Sl → Prop} (pk : Pick rs (dictM p kvs) g) (hv : valS kvs (.inl n) = some s) (hn : ∀ ds, s ≠ .n ds) (k : B p kvs g (.inl n) s) : ∃ p' kvs' g' k s', Sl.r (.ref p) = .r (.ref p') ∧ Sl.d (.int n) = .d (keyD k) ∧ Pick rs (dictM p' kvs') g' ∧ valS kvs' k = some s' ∧ (∀ ds, s' ≠ .n ds) ∧ B p' kvs' g' k s' := ⟨p, kvs, g, .inl n, s, rfl, rfl, pk, hv, hn, k⟩
theorem ex_dgetS {p : Addr} {kvs : DKv} {g : List Mem → List Mem} {n : Str} {s : Sl} {B : Addr → DKv → (List Mem → List Mem) → Key → Sl → Prop} (pk : Pick rs (dictM p kvs) g) (hv : valS kvs (.inr n) = some s) (hn : ∀ ds, s ≠ .n ds) (k : B p kvs g (.inr n) s) : ∃ p' kvs' g' k s', Sl.r (.ref p) = .r (.ref p') ∧ Sl.d (.str n) = .d (keyD k) ∧ Pick rs (dictM p' kvs') g' ∧ valS kvs' k = some s' ∧ (∀ ds, s' ≠ .n ds) ∧ B p' kvs' g' k s' := ⟨p, kvs, g, .inr n, s, rfl, rfl, pk, hv, hn, k⟩
end
end PW

set_option maxHeartbeats 1000000
/-! Dicts as lists of pairs; what a list has at a key. -/
namespace PW
open PySem L2
variable [KC]
theorem valS_cons (p : Key × Sl) (r : DKv) (k : Key) : valS (p :: r) k = if p.1 = k then some p.2 else valS r k := by
  unfold valS
  rw [List.find?_cons]
  by_cases e : p.1 = k
  · rw [decide_eq_true e, if_pos e]; rfl
  · rw [decide_eq_false e, if_neg e]
theorem valS_any (k : Key) : ∀ kvs : DKv, (kvs.any fun kv => decide (kv.1 = k)) = (valS kvs k).isSome
  | [] => rfl
  | p :: r => by
    rw [List.any_cons, valS_cons, valS_any k r]
    by_cases e : p.1 = k
    · rw [decide_eq_true e, if_pos e]; rfl
    · rw [decide_eq_false e, if_neg e]; rfl
theorem valS_map (k j : Key) (s : Sl) : ∀ kvs : DKv, valS (kvs.map fun kv => if kv.1 = k then (kv.1, s) else kv) j = (valS kvs j).map fun x => if j = k then s else x
  | [] => rfl
  | p :: r => by
    rw [List.map_cons, valS_cons, valS_cons, valS_map k j s r]
    by_cases e : p.1 = k
    · rw [if_pos e]
      by_cases ej : p.1 = j
      · rw [if_pos ej, if_pos ej, Option.map_some, if_pos (ej.symm.trans e)]
      · rw [if_neg ej, if_neg ej]
    · rw [if_neg e]
      by_cases ej : p.1 = j
      · rw [if_pos ej, if_pos ej, Option.map_some, if_neg fun z => e (ej.trans z)]
      · rw [if_neg ej, if_neg ej]
theorem valS_snoc (k j : Key) (s : Sl) : ∀ kvs : DKv, valS (kvs ++ [(k, s)]) j = (valS kvs j).or (if k = j then some s else none)
  | [] => by rw [List.nil_append, valS_cons]; rfl
  | p :: r => by
    rw [List.cons_append, valS_cons, valS_cons, valS_snoc k j s r]
    by_cases e : p.1 = j
    · rw [if_pos e, if_pos e]; rfl
    · rw [if_neg e, if_neg e]
theorem valS_put (kvs : DKv) (k j : Key) (s : Sl) : valS (putS kvs k s) j = if j = k then some s else valS kvs j := by
  unfold putS
  rw [valS_any]
  cases h : valS kvs k with
  | some x =>
    rw [Option.isSome_some, if_pos rfl, valS_map]
    by_cases e : j = k
    · rw [if_pos e, e, h, Option.map_some, if_pos rfl]
    · rw [if_neg e]
      cases valS kvs j with
      | none => rfl
      | some y => rw [Option.map_some, if_neg e]
  | none =>
    rw [Option.isSome_none, if_neg Bool.false_ne_true, valS_snoc]
    by_cases e : j = k
    · rw [if_pos e, e, h, if_pos rfl]; rfl
    · rw [if_neg e, if_neg fun z => e z.symm]
      cases valS kvs j <;> rfl
theorem valS_drop (k j : Key) : ∀ kvs : DKv, valS (dropS kvs k) j = if j = k then none else valS kvs j
  | [] => by unfold dropS; split <;> rfl
  | p :: r => by
    have ih := valS_drop k j r
    unfold dropS at ih ⊢
    rw [List.filter_cons, valS_cons]
    by_cases e : p.1 = k
    · rw [if_neg (by simp [e]), ih]
      by_cases ej : j = k
      · rw [if_pos ej, if_pos ej]
      · rw [if_neg ej, if_neg ej, if_neg fun z => ej (z.symm.trans e)]
    · rw [if_pos (by simp [e]), valS_cons, ih]
      by_cases ej : j = k
      · rw [if_pos ej, if_pos ej, if_neg fun z => e (z.trans ej)]
      · rw [if_neg ej, if_neg ej]
theorem keys_put (kvs : DKv) (k : Key) (s : Sl) : (putS kvs k s).map (·.1) = if (valS kvs k).isSome = true then kvs.map (·.1) else kvs.map (·.1) ++ [k] := by
  unfold putS
  rw [valS_any]
  split
  · rw [List.map_map]
    refine List.map_congr_left fun p _ => ?_
    show (if p.1 = k then (p.1, s) else p).1 = p.1
    split <;> rfl
  · rw [List.map_append]; rfl
theorem keys_drop (kvs : DKv) (k : Key) : (dropS kvs k).map (·.1) = (kvs.map (·.1)).filter fun j => decide (j ≠ k) := by
  unfold dropS
  rw [List.filter_map]; rfl
theorem valS_mem (k : Key) : ∀ kvs : DKv, (valS kvs k).isSome = true ↔ k ∈ kvs.map (·.1)
  | [] => by simp [valS]
  | p :: r => by
    rw [valS_cons, List.map_cons, List.mem_cons, ← valS_mem k r]
    by_cases e : p.1 = k
    · rw [if_pos e]; simp [e]
    · rw [if_neg e]
      constructor
      · exact .inr
      · rintro (q | q)
        · exact absurd q.symm e
        · exact q
theorem drop_no {kvs : DKv} {k : Key} (h : valS kvs k = none) : dropS kvs k = kvs := by
  unfold dropS
  refine List.filter_eq_self.mpr fun p hp => decide_eq_true fun e => ?_
  have : (valS kvs k).isSome = true := (valS_mem k kvs).mpr (by rw [← e]; exact List.mem_map_of_mem hp)
  rw [h] at this; cases this
theorem put_len (kvs : DKv) (k : Key) (s : Sl) : (putS kvs k s).length ≤ kvs.length + 1 := by
  unfold putS
  split
  · rw [List.length_map]; omega
  · rw [List.length_append]; exact Nat.le_refl _
theorem valS_at {k : Key} {s : Sl} : ∀ {kvs : DKv}, (kvs.map (·.1)).Nodup → (k, s) ∈ kvs → valS kvs k = some s
  | [], _, h => nomatch h
  | p :: r, hn, h => by
    rw [List.map_cons, List.nodup_cons] at hn
    rw [valS_cons]
    rcases List.mem_cons.mp h with h | h
    · rw [← h, if_pos rfl]
    · rw [if_neg fun e => hn.1 (by rw [e]; exact List.mem_map_of_mem (f := (·.1)) h)]
      exact valS_at hn.2 h
theorem drop_len (kvs : DKv) (k : Key) : (dropS kvs k).length ≤ kvs.length := by
  unfold dropS
  exact List.length_filter_le _ _
theorem put_new {kvs : DKv} {k : Key} {s : Sl} (h : valS kvs k = none) : putS kvs k s = kvs ++ [(k, s)] := by
  unfold putS
  rw [valS_any, h, Option.isSome_none, if_neg Bool.false_ne_true]
section
variable {α : Type} {f : α → Key × Sl} {l : List α} {i : Nat} {x y : α}
theorem nd_mid (h : l[i]? = some x) (nd : (l.map fun z => (f z).1).Nodup) : ∀ z ∈ l.take i ++ l.drop (i + 1), (f z).1 ≠ (f x).1 := fun z hz e => by
  obtain ⟨el, _⟩ := take_mid h
  rw [el, List.map_append, List.map_cons] at nd
  obtain ⟨n1, n2, n3⟩ := List.nodup_append.mp nd
  rw [List.nodup_cons] at n2
  rcases List.mem_append.mp hz with hz | hz
  · exact n3 _ (List.mem_map_of_mem (f := fun z => (f z).1) hz) _ List.mem_cons_self e
  · exact n2.1 (by rw [← e]; exact List.mem_map_of_mem (f := fun z => (f z).1) hz)
theorem dict_val (h : l[i]? = some x) (nd : (l.map fun z => (f z).1).Nodup) : valS (l.map f) (f x).1 = some (f x).2 :=
  valS_at (by rw [List.map_map]; exact nd) (List.mem_map_of_mem (List.mem_of_getElem? h))
theorem dict_no {k : Key} (h : k ∉ l.map fun z => (f z).1) : valS (l.map f) k = none := by
  cases e : valS (l.map f) k with
  | none => rfl
  | some s =>
    have := (valS_mem k (l.map f)).mp (by rw [e]; rfl)
    rw [List.map_map] at this
    exact absurd this h
theorem dict_drop (h : l[i]? = some x) (nd : (l.map fun z => (f z).1).Nodup) : dropS (l.map f) (f x).1 = (l.take i ++ l.drop (i + 1)).map f := by
  obtain ⟨el, _⟩ := take_mid h
  have key := nd_mid h nd
  unfold dropS
  conv => lhs; rw [el]
  rw [List.map_append, List.map_cons, List.filter_append, List.filter_cons, if_neg (by simp), ← List.filter_append, ← List.map_append]
  refine List.filter_eq_self.mpr fun p hp => ?_
  obtain ⟨z, hz, rfl⟩ := List.mem_map.mp hp
  exact decide_eq_true (key z hz)
theorem dict_put (h : l[i]? = some x) (nd : (l.map fun z => (f z).1).Nodup) (e : (f y).1 = (f x).1) : putS (l.map f) (f x).1 (f y).2 = (l.set i y).map f := by
  obtain ⟨el, hi⟩ := take_mid h
  have key := nd_mid h nd
  unfold putS
  rw [valS_any, dict_val h nd, Option.isSome_some, if_pos rfl]
  have e2 : l.set i y = l.take i ++ y :: l.drop (i + 1) := by rw [List.set_eq_take_append_cons_drop, if_pos hi]
  rw [e2]
  conv => lhs; rw [el]
  rw [List.map_append, List.map_append, List.map_cons, List.map_cons, List.map_append, List.map_cons, if_pos rfl]
  have same : ∀ m : List α, (∀ z ∈ m, (f z).1 ≠ (f x).1) → (m.map f).map (fun kv => if kv.1 = (f x).1 then (kv.1, (f y).2) else kv) = m.map f := fun m hm => by
    rw [List.map_map]
    exact List.map_congr_left fun z hz => if_neg (hm z hz)
  rw [same _ fun z hz => key z (List.mem_append_left _ hz), same _ fun z hz => key z (List.mem_append_right _ hz), ← e]
theorem at_key (k : Key) (h : k ∈ l.map fun z => (f z).1) : ∃ (i : Nat) (x : α), l[i]? = some x ∧ (f x).1 = k := by
  obtain ⟨x, hx, e⟩ := List.mem_map.mp h
  obtain ⟨i, hi⟩ := List.mem_iff_getElem?.mp hx
  exact ⟨i, x, hi, e⟩
end
section
variable {m₀ : Mo} {N₀ : List Str} {sc₀ : Scope} {lv₀ : Nat} {xp₀ : Addr → List Sl → List Mem → Prop} {fF₀ cm₀ : Bool} {c : Ctx m₀ N₀ sc₀ lv₀ xp₀ fF₀ cm₀} {a o : Expr} {ρ : List Sl} {rs : List Mem} {K : Sl → List Mem → Prop} {pos apos cpos : Pos}
/-- xs.index(y), xs owned -/
theorem dx_lindexO (h : DX c o ρ rs fun s r => ∃ p ds g, s = .r (.ref p) ∧ Pick r (lstM p (ds.map .d)) g ∧ DA c [a] ρ r fun ts r2 => ∃ t d j z g2, ts = [t] ∧ t.plain = .d d ∧ Pick r2 (lstM p (ds.map .d)) g2 ∧ SeqAt.shaped (.list ds) = true ∧ SeqAt.shaped d = true ∧ ds[j]? = some z ∧ PyData.eqv z d = true ∧ (∀ (m : Nat) (z' : PyData), m < j → ds[m]? = some z' → PyData.eqv z' d = false) ∧ K (.d (.int (j : Nat))) r2)
    (hm : MeOk c.X o "index" a [] apos cpos := by exact ⟨rfl, rfl, rfl, rfl⟩) : DX c (.Call (.Attribute o "index" apos) [a] [] cpos) ρ rs K := by
  intro σ H G Q he hs hx hq
  refine tE_of (pe_bm PySem.F.plainAttrs_list PySem.F.slot_list_index PySem.F.type_list_index (mt_indexD (by have := c.un; omega)) pe_t pa_t (hs := hm.hs) (hbase := hm.hb) (hline := hm.hl) (hfew := hm.hf)) ?_
  refine h σ H G _ he hs hx fun v H1 G1 s1 r1 t1 h1 o1 k1 => ?_
  obtain ⟨p, ds, g, rfl, pk, k1⟩ := k1
  have ev : v = .ref p := h1
  subst ev
  obtain ⟨vs, hp, al, _, _⟩ := lst_at pk o1
  refine ⟨.inl ⟨rfl, vs, .inl (.inl hp)⟩, ?_⟩
  refine k1 σ H1 G1 _ (he.stp t1) o1 (hx.stp t1) fun us H2 G2 ts r2 t2 h2 o2 k2 => ?_
  obtain ⟨t, d, j, z, g2, rfl, e2, pk2, sl, sd, hz, hzj, hno, k2⟩ := k2
  match us, h2 with
  | [y], h2 =>
    refine ⟨p, y, d, ds, j, z, rfl, rfl, c.ck ▸ view_own pk2 G2 H2 (.ref p) rfl o2, c.ck ▸ (plain_d e2 h2.1).dp, sl, sd, hz, hzj, hno, ?_⟩
    exact hq _ H2 G2 (.d (.int _)) r2 (t1.trans t2) (Is.int _) o2 k2
theorem ex_dputI {p : Addr} {kvs : DKv} {g : List Mem → List Mem} {n : Int} {B : Addr → DKv → (List Mem → List Mem) → Key → Prop} (pk : Pick rs (dictM p kvs) g) (hl : kvs.length ≤ 100000) (k : B p kvs g (.inl n)) : ∃ p' kvs' g' k, Sl.r (.ref p) = .r (.ref p') ∧ Sl.d (.int n) = .d (keyD k) ∧ Pick rs (dictM p' kvs') g' ∧ kvs'.length ≤ 100000 ∧ B p' kvs' g' k := ⟨p, kvs, g, .inl n, rfl, rfl, pk, hl, k⟩
theorem ex_dputS {p : Addr} {kvs : DKv} {g : List Mem → List Mem} {n : Str} {B : Addr → DKv → (List Mem → List Mem) → Key → Prop} (pk : Pick rs (dictM p kvs) g) (hl : kvs.length ≤ 100000) (k : B p kvs g (.inr n)) : ∃ p' kvs' g' k, Sl.r (.ref p) = .r (.ref p') ∧ Sl.d (.str n) = .d (keyD k) ∧ Pick rs (dictM p' kvs') g' ∧ kvs'.length ≤ 100000 ∧ B p' kvs' g' k := ⟨p, kvs, g, .inr n, rfl, rfl, pk, hl, k⟩
theorem ex_dpopI {p : Addr} {kvs : DKv} {g : List Mem → List Mem} {n : Int} {s : Sl} {B : DKv → (List Mem → List Mem) → Key → Sl → Prop} (pk : Pick rs (dictM p kvs) g) (hv : valS kvs (.inl n) = some s) (hn : ∀ ds, s ≠ .n ds) (k : B kvs g (.inl n) s) : ∃ kvs' g' k s', Sl.d (.int n) = .d (keyD k) ∧ Pick rs (dictM p kvs') g' ∧ valS kvs' k = some s' ∧ (∀ ds, s' ≠ .n ds) ∧ B kvs' g' k s' := ⟨kvs, g, .inl n, s, rfl, pk, hv, hn, k⟩
theorem ex_dpopS {p : Addr} {kvs : DKv} {g : List Mem → List Mem} {n : Str} {s : Sl} {B : DKv → (List Mem → List Mem) → Key → Sl → Prop} (pk : Pick rs (dictM p kvs) g) (hv : valS kvs (.inr n) = some s) (hn : ∀ ds, s ≠ .n ds) (k : B kvs g (.inr n) s) : ∃ kvs' g' k s', Sl.d (.str n) = .d (keyD k) ∧ Pick rs (dictM p kvs') g' ∧ valS kvs' k = some s' ∧ (∀ ds, s' ≠ .n ds) ∧ B kvs' g' k s' := ⟨kvs, g, .inr n, s, rfl, pk, hv, hn, k⟩
/-- d in xs, xs owned, all flat -/
theorem od_inO {p : Addr} {ds : List PyData} {d : PyData} {g : List Mem → List Mem} (pk : Pick rs (lstM p (ds.map .d)) g) (fd : flatD d = true) (fs : ds.all flatD = true) (k : K (.d (.bool (ds.any fun y => eqF y d))) rs) : OpD (uIn KC.K) (.d d) (.r (.ref p)) rs K := od_r fun G H x y Q hx hy hs hq => by
  have ey : y = .ref p := hy
  subst ey
  obtain ⟨vs, hp, al, _, _⟩ := lst_at pk hs
  have al := al.is
  refine ⟨p, vs, rfl, .inl (.inl (.inl hp)), flat_is hx fd, flat_all al fs, ?_⟩
  show Q (.bl (inV x vs)) H
  rw [in_all hx fd al fs]
  exact give0 hs hq (sl := .d (.bool _)) (Is.bl _) k
theorem od_ninO {p : Addr} {ds : List PyData} {d : PyData} {g : List Mem → List Mem} (pk : Pick rs (lstM p (ds.map .d)) g) (fd : flatD d = true) (fs : ds.all flatD = true) (k : K (.d (.bool (!ds.any fun y => eqF y d))) rs) : OpD (uNin KC.K) (.d d) (.r (.ref p)) rs K := od_r fun G H x y Q hx hy hs hq => by
  have ey : y = .ref p := hy
  subst ey
  obtain ⟨vs, hp, al, _, _⟩ := lst_at pk hs
  have al := al.is
  refine ⟨p, vs, rfl, .inl (.inl (.inl hp)), flat_is hx fd, flat_all al fs, ?_⟩
  show Q (.bl (!inV x vs)) H
  rw [in_all hx fd al fs]
  exact give0 hs hq (sl := .d (.bool _)) (Is.bl _) k
end
end PW

set_option maxHeartbeats 1000000
/-! Lists of lists of one's own: made by a comprehension, lent, let go. -/
namespace PW
open PySem L2
variable [KC]
variable {m₀ : Mo} {N₀ : List Str} {sc₀ : Scope} {lv₀ : Nat} {xp₀ : Addr → List Sl → List Mem → Prop} {fF₀ cm₀ : Bool}
/-- a list at D of things, one for each of xs -/
abbrev ColA {α : Type} (xs : List α) := {l : List (α × Addr) // l.map (·.1) = xs}
def colF {α : Type} (D : Addr) (M : α → Addr → Mem) (xs : List α) (l : ColA xs) : List Mem := [lstM D (l.1.map fun x => .r (.ref x.2)), famM (fun x => M x.1 x.2) l.1]
def colM {α : Type} (D : Addr) (M : α → Addr → Mem) (xs : List α) : Mem := exM (colF D M xs)
section
variable {c : Ctx m₀ N₀ sc₀ lv₀ xp₀ fF₀ cm₀} {e a b tg it : Expr} {es : List Expr} {ρ ρ' : List Sl} {rs : List Mem} {KI : List Sl → (List Mem → Prop) → List Mem → Prop} {x : Str} {pos pos' p2 : Pos}
def ElM (c : Ctx m₀ N₀ sc₀ lv₀ xp₀ fF₀ cm₀) (scope : Scope) (elt : Expr) (ρ2 : List Sl) (rs : List Mem) (M : Addr → Mem) : Prop := ∀ (A : Mem) s0 H0 C0 cl0 fp0 hso, DX (c.blk scope s0 H0 C0 cl0 fp0 hso) elt ρ2 (A :: rs) fun s r => ∃ q, s = .r (.ref q) ∧ Ent r (A :: M q :: rs)
theorem lc_runM {elt : Expr} {scope : Scope} {j : Nat} {K : Sl → List Mem → Prop} (hso : ScOk (relS scope sc₀)) (hj : IxOf N₀ x j)
    (h : DI c (.Name x p2) it ρ rs fun items keep r => ∃ (α : Type) (xs : List α) (enc : α → Sl) (M : α → Addr → Mem), items = xs.map enc ∧ (∀ A : Mem, ∀ B : Mem, keep (A :: B :: r)) ∧ xs.length ≤ 100000 ∧
      (∃ ρw, SetS N₀ ρ x j .un ρw ∧ ∀ y ∈ xs, ∃ ρ2, SetS N₀ ρw x j (enc y) ρ2 ∧ ElM c scope elt ρ2 r (M y)) ∧
      ∀ D, K (.r (.ref D)) (colM D M xs :: r))
    {σ : L2.St} {H : Hp} {G : Fp} {Q : VK} (he : EnvOk G H σ ρ) (hs : sepL rs G G H) (hx : XOk c G H) (hq : ∀ v H' G' sl rs', Stp G G' H H' → Rs G' H H' v sl → sepL rs' G' G' H' → K sl rs' → Q v H') :
    tLc (tI c.X (.Name x p2) it) (gName j) tYes (tBE c.X scope elt) [j] σ H Q := by
  refine h σ H G _ he hs hx fun J H1 G1 items keep r1 t1 o1 jok k1 => ?_
  obtain ⟨α, xs, enc, M, rfl, hk, hlen, ⟨ρw, hw, ht⟩, kend⟩ := k1
  intro D hD
  have nG1 : ¬ G1 D := o1.fresh hD
  obtain ⟨tj, oj⟩ := sepL.join (A := lstM D []) (H' := upd H1 D (.lst [])) o1 (same_new hD) hD ⟨fun a => Iff.rfl, [], upd_same, trivial⟩
  have oj := (SE.cons (A := lstM D []) (se_nil (f := fun x : α × Addr => M x.1 x.2))) _ _ _ oj
  refine ⟨fun i m H' => m = xs.length - i ∧ i ≤ xs.length ∧ ∃ (G' : Fp) (l : List (α × Addr)), l.map (·.1) = xs.take i ∧ Stp G1 G' H1 H' ∧ sepL (lstM D (l.map fun x : α × Addr => Sl.r (.ref x.2)) :: famM (fun x : α × Addr => M x.1 x.2) l :: r1) G' G' H', ⟨_, rfl, Nat.zero_le _, _, [], rfl, tj, oj⟩, ?_⟩
  rintro i m H' ⟨rfl, hle, G', l, hl, t2, o2⟩
  have jk := jok G' H' _ t2 o2 (hk _ _) i
  by_cases hlt : i < xs.length
  · have hgo := jk.1 (by simpa using hlt)
    refine .inr ⟨hgo.1, fun H2 => ∃ (G2 : Fp) (l : List (α × Addr)), l.map (·.1) = xs.take (i + 1) ∧ Stp G1 G2 H1 H2 ∧ sepL (lstM D (l.map fun x : α × Addr => Sl.r (.ref x.2)) :: famM (fun x : α × Addr => M x.1 x.2) l :: r1) G2 G2 H2, fun H2 ⟨G2, l, a, b, d⟩ => ⟨_, by omega, rfl, by omega, G2, l, a, b, d⟩, fun v H2 yl => ?_⟩
    obtain ⟨rfl, sl, hsl, hy⟩ := hgo.2 v H2 yl
    have hsl' : sl = enc xs[i] := by
      rw [List.getElem?_map, List.getElem?_eq_getElem hlt] at hsl
      exact (Option.some.inj hsl).symm
    subst hsl'
    obtain ⟨ρ2, hset, hel⟩ := ht xs[i] (List.getElem_mem hlt)
    have tk : xs.take (i + 1) = xs.take i ++ [xs[i]] := by simp
    have eEnv : EnvOk G' H2 ((wipe σ [j]).set j (some v)) ρ2 := hset.env hy (set_un hw ((he.stp t1).stp t2))
    refine ⟨?_, ?_⟩
    · show ((σ.set j none).set j (some v)).set j none = σ.set j none
      rw [List.set_set, List.set_set]
    show tBE c.X scope elt _ H2 _
    intro s0 H0 C0 cl0 fp0
    refine hel (sepM [lstM D (l.map fun x : α × Addr => Sl.r (.ref x.2)), famM (fun x : α × Addr => M x.1 x.2) l]) s0 H0 C0 cl0 fp0 hso _ H2 G' _ eEnv (sep_fold.mpr o2) xok_blk fun w H4 G4 s4 r4 t4 h4 o4 k4 => ?_
    obtain ⟨q, rfl, en⟩ := k4
    have ew : w = .ref q := h4
    subst ew
    obtain ⟨G5, l5, o5⟩ := en G4 H4 o4
    have o5 := sep_fold.mp o5
    obtain ⟨acc, hp, al, gp, ch⟩ := lst_at (.zero (A := lstM D (l.map fun x : α × Addr => Sl.r (.ref x.2)))) o5
    have hla : acc.length = l.length := by
      have := al.length
      rwa [List.length_map] at this
    have hll : l.length ≤ xs.length := by
      have := congrArg List.length hl
      rw [List.length_map, List.length_take] at this
      omega
    refine ⟨acc, hp, Nat.lt_of_le_of_lt (Nat.le_trans (by omega) hlen) (by decide), ?_⟩
    obtain ⟨t6, o6⟩ := ch (acc ++ [.ref q]) ((l.map fun x : α × Addr => Sl.r (.ref x.2)) ++ [Sl.r (.ref q)]) (al.append (ws := [.ref q]) (ts := [Sl.r (.ref q)]) ⟨rfl, trivial⟩)
    refine ⟨G5, l ++ [(xs[i], q)], by rw [List.map_append, hl, tk]; rfl, ((t2.trans t4).trans (Stp.less l5)).trans t6, ?_⟩
    rw [List.map_append]
    exact (SE.cons (SE.trans .swap (se_add (f := fun x : α × Addr => M x.1 x.2) (y := (xs[i], q))))) _ _ _ o6
  · have hi : i = xs.length := by omega
    subst hi
    rw [List.take_length] at hl
    refine .inl ⟨jk.2 (by simp), ?_⟩
    refine hq (.ref D) H' G' (.r (.ref D)) _ (t1.trans t2) rfl ?_ (kend D)
    obtain ⟨F1, F2, h1, ⟨F3, F4, h3, h4, d2, e2⟩, d, e⟩ := o2
    refine ⟨fun a => F1 a ∨ F3 a, F4, ⟨⟨l, hl⟩, F1, F3, h1, ⟨F3, fun _ => False, h3, fun _ z => z, fun _ _ z => z, fun _ => ⟨.inl, fun z => z.elim id False.elim⟩⟩, fun a f g => d a f ((e2 a).mpr (.inl g)), fun _ => Iff.rfl⟩, h4, fun a z y => ?_, fun a => ?_⟩
    · rcases z with z | z
      · exact d a z ((e2 a).mpr (.inr y))
      · exact d2 a z y
    · rw [e a, e2 a, or_assoc]
theorem dx_lc0M {elt : Expr} {scope : Scope} {j : Nat} {K : Sl → List Mem → Prop} (hj : IxOf N₀ x j) (hok : BlkOk N₀ sc₀ scope [(x, j)])
    (h : DI c (.Name x p2) it ρ rs fun items keep r => ∃ (α : Type) (xs : List α) (enc : α → Sl) (M : α → Addr → Mem), items = xs.map enc ∧ (∀ A : Mem, ∀ B : Mem, keep (A :: B :: r)) ∧ xs.length ≤ 100000 ∧
      (∃ ρw, SetS N₀ ρ x j .un ρw ∧ ∀ y ∈ xs, ∃ ρ2, SetS N₀ ρw x j (enc y) ρ2 ∧ ElM c scope elt ρ2 r (M y)) ∧ ∀ D, K (.r (.ref D)) (colM D M xs :: r))
    (hso : ScOk (relS scope sc₀) := by decide +kernel) (hcm : cm₀ = true := by rfl) (hl : scope.names.lookup x = some .local := by rfl) (hr : (relS scope sc₀).names.lookup x = some .local := by rfl) (hf : ∀ y, foldedSetIterable it c.X.env y = pure y := by intro _; rfl) : DX c (.ListComp elt [⟨.Name x p2, it, [], 0⟩] scope pos) ρ rs K := by
  intro σ H G Q he hs hx hq
  have nd : c.X.N.Nodup := by rw [c.hN]; exact c.nd
  have hi : c.X.N[j]? = some x := by rw [c.hN]; exact hj.get
  refine tE_of (pe_lc (own := [(x, j)]) (g := gName j) (tt := tYes) (te := tBE c.X scope elt) (c.calm hcm) nd pi_t (by rw [c.hN, c.hsc]; exact hok) (fun s H C cl fp => pg_name nd hi (.inl (by show (relS scope c.X.env.scope).names.lookup x = _; rw [c.hsc]; exact hr)) (.inr (by show (relS scope c.X.env.scope).names.lookup x = _; rw [c.hsc]; exact hr))) (fun _ _ _ _ _ => pts_nil) (fun s H C cl fp => pe_b s H C cl fp) hf) ?_
  exact lc_runM (K := K) hso hj h he hs hx hq
theorem ds_lc0M {P : Post} {y : Str} {py : Pos} {i : Nat} {elt : Expr} {scope : Scope} {j : Nat} (hiy : IxOf N₀ y i) (hj : IxOf N₀ x j) (hok : BlkOk N₀ sc₀ scope [(x, j)])
    (h : DI c (.Name x p2) it ρ rs fun items keep r => ∃ (α : Type) (xs : List α) (enc : α → Sl) (M : α → Addr → Mem), items = xs.map enc ∧ (∀ A : Mem, ∀ B : Mem, keep (A :: B :: r)) ∧ xs.length ≤ 100000 ∧
      (∃ ρw, SetS N₀ ρ x j .un ρw ∧ ∀ y ∈ xs, ∃ ρ2, SetS N₀ ρw x j (enc y) ρ2 ∧ ElM c scope elt ρ2 r (M y)) ∧ ∀ D, ∃ ρ', SetS N₀ ρ y i (.r (.ref D)) ρ' ∧ P.nx ρ' (colM D M xs :: r))
    (hso : ScOk (relS scope sc₀) := by decide +kernel) (hcm : cm₀ = true := by rfl) (hl : scope.names.lookup x = some .local := by rfl) (hr : (relS scope sc₀).names.lookup x = some .local := by rfl) (hyl : sc₀.names.lookup y = some .local := by rfl) (hkd : sc₀.kind = .function := by rfl) (hln : (py.line == pos.line) = true := by rfl) (hny : (scope.names.any fun (n, k) => n == y && (k == .local || k == .cell)) = false := by first | rfl | decide +kernel)
    (hf : ∀ y, foldedSetIterable it c.X.env y = pure y := by intro _; rfl) : DS c (.Assign [.Name y py] (.ListComp elt [⟨.Name x p2, it, [], 0⟩] scope pos) pos') ρ rs P := by
  intro σ H G D he hs hx hd
  have nd : c.X.N.Nodup := by rw [c.hN]; exact c.nd
  have hi : c.X.N[j]? = some x := by rw [c.hN]; exact hj.get
  have hyi : c.X.N[i]? = some y := by rw [c.hN]; exact hiy.get
  refine tS_of (ps_setLc (own := [(x, j)]) (g := gName j) (tt := tYes) (te := tBE c.X scope elt) (c.calm hcm) nd hyi (by rw [c.hsc]; exact hyl) (sw_true (by rw [c.hsc]; exact hkd) (by rw [c.hsc]; exact hyl) hln hny) pi_t (by rw [c.hN, c.hsc]; exact hok) (fun s H C cl fp => pg_name nd hi (.inl (by show (relS scope c.X.env.scope).names.lookup x = _; rw [c.hsc]; exact hr)) (.inr (by show (relS scope c.X.env.scope).names.lookup x = _; rw [c.hsc]; exact hr))) (fun _ _ _ _ _ => pts_nil) (fun s H C cl fp => pe_b s H C cl fp) hf) ?_
  exact lc_runM (K := fun s r => ∃ ρ', SetS N₀ ρ y i s.plain ρ' ∧ P.nx ρ' r) (Q := fun v H' => D.nx (σ.set i (some v)) H') hso hj h he hs hx fun v H' G' sl r' t q o ⟨ρ', z, k⟩ => hd.nx _ H' G' ρ' r' t (z.env q.ok.plain (he.stp t)) o k
end

/-! ### things of several lists, lent and let go -/
/-- let go, A is the data d at v; it owns lists alone -/
structure Fz (A : Mem) (v : V) (d : PyData) : Prop where
  run : ∀ (F G : Fp) (H : Hp), A.ok F G H → (∀ a, F a → G a) → Is (fun a => G a ∧ ¬ F a) H v d
  lst : ∀ (F G : Fp) (H : Hp), A.ok F G H → ∀ a, F a → ∃ vs, H a = some (.lst vs)
theorem fz_lst {p : Addr} {ds : List PyData} : Fz (lstM p (ds.map .d)) (.ref p) (.list ds) where
  run := fun F G H ⟨e, vs, hp, al⟩ s => .lst (.inl ⟨.inl hp, fun z => z.2 ((e p).mpr rfl)⟩) (al.is.stp (Stp.less fun a z => z.1))
  lst := fun F G H ⟨e, vs, hp, _⟩ a z => by
    have := (e a).mp z
    subst this
    exact ⟨vs, hp⟩
theorem fz_ok {α : Type} {M : α → Addr → Mem} {d : α → PyData} (hM : ∀ x q, Fz (M x q) (.ref q) (d x)) : ∀ (l : List (α × Addr)) (F G : Fp) (H : Hp), sepL (l.map fun x : α × Addr => M x.1 x.2) F G H → (∀ a, F a → G a) →
    IsAll (fun a => G a ∧ ¬ F a) H (l.map fun x : α × Addr => V.ref x.2) (l.map fun x : α × Addr => d x.1) ∧ ∀ a, F a → ∃ vs, H a = some (.lst vs)
  | [], F, G, H, h, _ => ⟨.nil, fun a z => (h a z).elim⟩
  | x :: l, F, G, H, ⟨F1, F2, h1, h2, dj, e⟩, s => by
    obtain ⟨i1, i2⟩ := fz_ok hM l F2 G H h2 fun a z => s a ((e a).mpr (.inr z))
    have j1 := (hM x.1 x.2).run F1 G H h1 fun a z => s a ((e a).mpr (.inl z))
    refine ⟨.cons (j1.stp (Stp.less fun a z => ⟨z.1, fun y => z.2 ((e a).mpr (.inl y))⟩)) (i1.stp (Stp.less fun a z => ⟨z.1, fun y => z.2 ((e a).mpr (.inr y))⟩)), fun a z => ?_⟩
    rcases (e a).mp z with z | z
    · exact (hM x.1 x.2).lst F1 G H h1 a z
    · exact i2 a z
theorem vals_ref {α : Type} {G : Fp} {H : Hp} : ∀ {l : List (α × Addr)} {vs : List V}, SlAll G H vs (l.map fun x : α × Addr => Sl.r (.ref x.2)) → vs = l.map fun x : α × Addr => V.ref x.2
  | [], [], _ => rfl
  | _ :: _, v :: vs, h => congr (congrArg List.cons h.1) (vals_ref h.2)
  | [], _ :: _, h => h.elim
  | _ :: _, [], h => h.elim
theorem fz_col {α : Type} {M : α → Addr → Mem} {d : α → PyData} (hM : ∀ x q, Fz (M x q) (.ref q) (d x)) {D : Addr} {xs : List α} : Fz (colM D M xs) (.ref D) (.list (xs.map d)) where
  run := fun F G H ⟨⟨l, hl⟩, F1, F2, ⟨e1, vs, hp, al⟩, h2, dj, e⟩ s => by
    obtain ⟨F3, F4, h3, h4, _, e3⟩ := h2
    have e2 : ∀ a, F2 a ↔ F3 a := fun a => by rw [e3 a]; exact ⟨fun z => z.elim id fun z => (h4 a z).elim, .inl⟩
    have sub : ∀ a, F3 a → F a := fun a z => (e a).mpr (.inr ((e2 a).mpr z))
    obtain ⟨i1, _⟩ := fz_ok hM l F3 G H h3 fun a z => s a (sub a z)
    have ev : vs = l.map fun x : α × Addr => V.ref x.2 := vals_ref al
    subst ev
    rw [← hl, List.map_map]
    exact .lst (.inl ⟨.inl hp, fun z => z.2 ((e D).mpr (.inl ((e1 D).mpr rfl)))⟩) (i1.stp (Stp.less fun a z => ⟨z.1, fun y => z.2 (sub a y)⟩))
  lst := fun F G H ⟨⟨l, hl⟩, F1, F2, ⟨e1, vs, hp, al⟩, h2, dj, e⟩ a z => by
    obtain ⟨F3, F4, h3, h4, _, e3⟩ := h2
    rcases (e a).mp z with z | z
    · have := (e1 a).mp z
      subst this
      exact ⟨vs, hp⟩
    · rcases (e3 a).mp z with z | z
      · have key : ∀ (l : List (α × Addr)) (F : Fp), sepL (l.map fun x : α × Addr => M x.1 x.2) F G H → ∀ a, F a → ∃ vs, H a = some (.lst vs) := fun l => by
          induction l with
          | nil => exact fun F h a z => (h a z).elim
          | cons x l ih =>
            rintro F ⟨F1, F2, h1, h2, _, e⟩ a z
            rcases (e a).mp z with z | z
            · exact (hM x.1 x.2).lst F1 G H h1 a z
            · exact ih F2 h2 a z
        exact key l F3 h3 a z
      · exact (h4 a z).elim
/-- rows of one's own -/
abbrev rowsM (D : Addr) (rows : List (List PyData)) : Mem := colM D (fun r q => lstM q (r.map .d)) rows
theorem fz_rows {D : Addr} {rows : List (List PyData)} : Fz (rowsM D rows) (.ref D) (.list (rows.map .list)) := fz_col (d := PyData.list) fun _ _ => fz_lst
abbrev LnF := List (Mem × Addr × PyData)
inductive LentF (L : LnF) : List Sl → List Sl → Prop
  | nil : LentF L [] []
  | lend {A p d ss ss'} : (A, p, d) ∈ L → LentF L ss ss' → LentF L (.r (.ref p) :: ss) (.d d :: ss')
  | eq {s ss ss'} : LentF L ss ss' → LentF L (s :: ss) (s :: ss')
theorem lf_at {G : Fp} {H : Hp} : ∀ {L : LnF} {F : Fp}, (∀ x ∈ L, Fz x.1 (.ref x.2.1) x.2.2) → sepL (L.map (·.1)) F G H → (∀ a, F a → G a) →
    (∀ x ∈ L, Is (fun a => G a ∧ ¬ F a) H (.ref x.2.1) x.2.2) ∧ ∀ a, F a → ∃ vs, H a = some (.lst vs)
  | [], F, _, h, _ => ⟨fun _ z => (nomatch z), fun a z => (h a z).elim⟩
  | y :: L, F, hF, ⟨F1, F2, h1, h2, _, e⟩, s => by
    obtain ⟨i1, i2⟩ := lf_at (fun x hx => hF x (List.mem_cons_of_mem _ hx)) h2 fun a z => s a ((e a).mpr (.inr z))
    refine ⟨fun x hx => ?_, fun a z => ?_⟩
    · rcases List.mem_cons.mp hx with rfl | hx
      · exact ((hF _ List.mem_cons_self).run F1 G H h1 fun a z => s a ((e a).mpr (.inl z))).stp (Stp.less fun a z => ⟨z.1, fun w => z.2 ((e a).mpr (.inl w))⟩)
      · exact (i1 x hx).stp (Stp.less fun a z => ⟨z.1, fun w => z.2 ((e a).mpr (.inr w))⟩)
    · rcases (e a).mp z with z | z
      · exact (hF _ List.mem_cons_self).lst F1 G H h1 a z
      · exact i2 a z
theorem lf_sl {G G' F : Fp} {H : Hp} {L : LnF} (hL : ∀ x ∈ L, Is (fun a => G a ∧ ¬ F a) H (.ref x.2.1) x.2.2) (hs : ∀ a, G' a → G a) (hd : ∀ a, F a → ¬ G' a) {ss ss' : List Sl} (l : LentF L ss ss') : ∀ {vs : List V}, SlAll G H vs ss → SlAll G' H vs ss' := by
  induction l with
  | nil =>
    intro vs h
    cases vs with
    | nil => trivial
    | cons _ _ => exact h.elim
  | @lend A p d ss ss' hm _ ih =>
    intro vs h
    cases vs with
    | nil => exact h.elim
    | cons v vs =>
      obtain ⟨h1, h2⟩ := h
      have ev : v = .ref p := h1
      subst ev
      exact ⟨(hL _ hm).stp (Stp.less fun a z => ⟨hs a z, fun w => hd a w z⟩), ih h2⟩
  | eq _ ih =>
    intro vs h
    cases vs with
    | nil => exact h.elim
    | cons v vs => exact ⟨h.1.stp (Stp.less hs), ih h.2⟩
theorem lf_back {G G2 FL FR FT : Fp} {H H' : Hp} {Ls rest r2 : List Mem} {hd : ∀ a, FT a → ∃ o, H a = some o} (ll : ∀ a, FL a → ∃ vs, H a = some (.lst vs))
    (hL : sepL Ls FL G H) (hT : sepL rest FT G H) (hLR : ∀ a, FL a → FR a → False) (hLT : ∀ a, FL a → FT a → False) (hRT : ∀ a, FR a → FT a → False) (hG : ∀ a, G a ↔ (FL a ∨ FR a) ∨ FT a)
    (t : Stp (fun a => FR a ∨ FT a) G2 H H') (o : sepL (r2 ++ [asM FT H hd]) G2 G2 H') (hl : LndA r2) :
    ∃ G3 : Fp, Stp G G3 H H' ∧ sepL (r2 ++ (Ls ++ rest)) G3 G3 H' ∧ More G2 G3 H' ∧ (∀ a, H a = none → G3 a → G2 a) := by
  have nL : ∀ a, FL a → ¬ (FR a ∨ FT a) := fun a f z => z.elim (hLR a f) (hLT a f)
  have kL : ∀ a u, H a = some u → FL a → H' a = some u := fun a u q f => t.keep a u q (nL a f)
  obtain ⟨F1, F2, o1, ⟨F3, F4, ⟨e3, k3⟩, o4, _, e2⟩, d12, e12⟩ := sepL.app.mp o
  have e4 : ∀ a, F2 a ↔ FT a := fun a => by
    rw [e2 a, e3 a]
    exact ⟨fun z => z.elim id fun z => (o4 a z).elim, .inl⟩
  have nF1 : ∀ a, F1 a → FL a → False := fun a f g => by
    rcases t.sub a ((e12 a).mpr (.inl f)) with z | z
    · exact nL a g z
    · obtain ⟨vs, q⟩ := ll a g
      rw [z] at q; cases q
  have mo : More G2 (fun a => G2 a ∨ FL a) H' := fun a z => z.imp id fun z => by
    obtain ⟨vs, q⟩ := ll a z
    exact ⟨vs, kL a _ q z⟩
  have st : Stp G (fun a => G2 a ∨ FL a) H H' := ⟨fun a u q n => t.keep a u q fun z => n ((hG a).mpr (z.elim (fun z => .inl (.inr z)) .inr)), fun a z => by
    rcases z with z | z
    · exact (t.sub a z).imp (fun z => (hG a).mpr (z.elim (fun z => .inl (.inr z)) .inr)) id
    · exact .inl ((hG a).mpr (.inl (.inl z))), t.old⟩
  have kG : ∀ a u, H a = some u → ¬ G a → H' a = some u := fun a u q n => st.keep a u q n
  refine ⟨fun a => G2 a ∨ FL a, st, ?_, mo, fun a z g => g.elim id fun g => by
    obtain ⟨vs, q⟩ := ll a g
    rw [z] at q; cases q⟩
  refine sepL.app.mpr ⟨F1, fun a => FL a ∨ FT a, sepL.more mo hl o1, sepL.app.mpr ⟨FL, FT, sepL.step st.sub hL fun a u q z => z.elim (kL a u q) (kG a u q), sepL.step st.sub hT fun a u q z => z.elim (fun f => k3 a u f q) (kG a u q), hLT, fun a => Iff.rfl⟩, fun a f z => ?_, fun a => ?_⟩
  · rcases z with z | z
    · exact nF1 a f z
    · exact d12 a f ((e4 a).mpr z)
  · rw [e12 a, e4 a]
    constructor
    · rintro ((z | z) | z)
      · exact .inl z
      · exact .inr (.inr z)
      · exact .inr (.inl z)
    · rintro (z | z | z)
      · exact .inl (.inl z)
      · exact .inr z
      · exact .inl (.inr z)
/-- the slots of the thing at q, made plain -/
inductive FrzV (q : Addr) (dd : PyData) : List Sl → List Sl → Prop
  | nil : FrzV q dd [] []
  | here {t t' : List Sl} : FrzV q dd t t' → FrzV q dd (.r (.ref q) :: t) (.d dd :: t')
  | eq {s : Sl} {t t' : List Sl} : FrzV q dd t t' → FrzV q dd (s :: t) (s :: t')
section
variable {c : Ctx m₀ N₀ sc₀ lv₀ xp₀ fF₀ cm₀} {ρ ρ' : List Sl} {r1 rs : List Mem} {K : Sl → List Mem → Prop} {P : Post} {sts : List Stmt}
theorem ce_lendF {C : Cn} (L : LnF) (hF : ∀ x ∈ L, Fz x.1 (.ref x.2.1) x.2.2) {rin rest : List Mem} {ss ss' : List Sl} (gr : Grab r1 (L.map (·.1) ++ rin) rest) (hl : LentF L ss ss')
    (h : C ss' rin (fun s r2 => noR s = true ∧ LndA r2 ∧ K s (r2 ++ (L.map (·.1) ++ rest))) (fun D r2 => LndA r2 ∧ xp₀ D ρ (r2 ++ (L.map (·.1) ++ rest)))) : CallEnd c C ss ρ r1 K := fun σ H G vs Q he hs hx hv hq => by
  obtain ⟨F0, FT, h0, hT, d0, e0⟩ := sepL.app.mp (gr.sep hs)
  obtain ⟨FL, FR, hL, hR, d1, e1⟩ := sepL.app.mp h0
  have hG : ∀ a, G a ↔ (FL a ∨ FR a) ∨ FT a := fun a => by rw [e0 a, e1 a]
  have hLT : ∀ a, FL a → FT a → False := fun a f g => d0 a ((e1 a).mpr (.inl f)) g
  have hRT : ∀ a, FR a → FT a → False := fun a f g => d0 a ((e1 a).mpr (.inr f)) g
  have hd : ∀ a, FT a → ∃ o, H a = some o := fun a z => hT.dom a z
  have sub : ∀ a, (FR a ∨ FT a) → G a := fun a z => (hG a).mpr (z.elim (fun z => .inl (.inr z)) .inr)
  obtain ⟨la, ll⟩ := lf_at hF hL fun a z => (hG a).mpr (.inl (.inl z))
  refine ⟨ss', asM FT H hd, rin, fun a => FR a ∨ FT a, _, _, lf_sl la sub (fun a f z => z.elim (d1 a f) (hLT a f)) hl hv, ?_, h, ?_, ?_⟩
  · exact sepL.app.mpr ⟨FR, FT, sepL.step (G := G) (fun a z => .inl (sub a z)) hR fun a u q _ => q, ⟨FT, fun _ => False, ⟨fun a => Iff.rfl, fun a u _ q => q⟩, fun _ z => z, fun _ _ z => z, fun a => ⟨.inl, fun z => z.elim id False.elim⟩⟩, hRT, fun a => Iff.rfl⟩
  · rintro v H' G2 sl r2 t r o ⟨hn, hA, k⟩
    obtain ⟨G3, st, sp, mo, hf⟩ := lf_back ll hL hT d1 hLT hRT hG t o hA
    exact hq v H' G3 sl _ st (r.more mo hf hn) sp k
  · rintro D H' G2 r2 t o ⟨hA, k⟩
    obtain ⟨G3, st, sp, mo, hf⟩ := lf_back ll hL hT d1 hLT hRT hG t o hA
    exact hx D σ H' G3 ρ _ st (he.stp st) sp k
theorem FrzV.env {q : Addr} {d : PyData} {G : Fp} {H : Hp} (hq : Is G H (.ref q) d) {ρ ρ' : List Sl} (h : FrzV q d ρ ρ') : ∀ {σ : L2.St}, EnvOk G H σ ρ → EnvOk G H σ ρ' := by
  induction h with
  | nil => intro σ e; exact e
  | here _ ih =>
    intro σ e
    cases σ with
    | nil => exact e.elim
    | cons o σ =>
      obtain ⟨⟨v, rfl, hv⟩, t⟩ := e
      have ev : v = .ref q := hv
      subst ev
      exact ⟨⟨_, rfl, hq⟩, ih t⟩
  | eq _ ih =>
    intro σ e
    cases σ with
    | nil => exact e.elim
    | cons o σ => exact ⟨e.1, ih e.2⟩
theorem dss_frzF {A : Mem} {q : Addr} {d : PyData} {g : List Mem → List Mem} (pk : Pick rs A g) (hA : Fz A (.ref q) d) (hf : FrzV q d ρ ρ') (k : DSs c sts ρ' (g []) P) : DSs c sts ρ rs P := by
  intro σ H G D he hs hx hd
  obtain ⟨F1, F2, h1, h2, dj, e⟩ := pk.split.mp hs
  have s : Stp G F2 H H := Stp.less fun a z => (e a).mpr (.inr z)
  have hi : Is F2 H (.ref q) d := (hA.run F1 G H h1 fun a z => (e a).mpr (.inl z)).stp (Stp.less fun a z => ⟨(e a).mpr (.inr z), fun y => dj a y z⟩)
  exact k σ H F2 D (hf.env hi (he.stp s)) (sepL.step s.sub h2 fun a o q _ => q) (hx.stp s) (hd.stp s)
end
end PW

set_option maxHeartbeats 1000000
/-! Tuples of one's own; things with tuples lent to what only looks. -/
namespace PW
open PySem L2
variable [KC]
variable {m₀ : Mo} {N₀ : List Str} {sc₀ : Scope} {lv₀ : Nat} {xp₀ : Addr → List Sl → List Mem → Prop} {fF₀ cm₀ : Bool}
def tupM (p : Addr) (ss : List Sl) : Mem where
  ok F G H := (∀ a, F a ↔ a = p) ∧ ∃ vs, H p = some (.tup vs) ∧ SlAll G H vs ss
  dom := fun ⟨e, vs, h, _⟩ a q => by
    have e2 := (e a).mp q
    subst e2
    exact ⟨_, h⟩
  step := fun ⟨e, vs, h, al⟩ k s => ⟨e, vs, k _ _ h (.inl ((e p).mpr rfl)), al.stp0 (fun a o q n => k a o q (.inr n)) s⟩
theorem own_tup {G : Fp} {H : Hp} {rs : List Mem} {p : Addr} {vs : List V} {ss : List Sl} (hs : sepL rs G G H) (hp : H p = none) (al : SlAll G H vs ss) :
    Stp G (fun a => a = p ∨ G a) H (upd H p (.tup vs)) ∧ sepL (tupM p ss :: rs) (fun a => a = p ∨ G a) (fun a => a = p ∨ G a) (upd H p (.tup vs)) :=
  sepL.join hs (same_new hp) hp ⟨fun a => Iff.rfl, vs, upd_same, al.stp0 (fun a o q _ => same_new hp a o q) fun a g => g.elim (fun e => .inr (e ▸ hp)) .inl⟩
theorem tup_at {G : Fp} {H : Hp} {rs : List Mem} {p : Addr} {ss : List Sl} {f : List Mem → List Mem} (pk : Pick rs (tupM p ss) f) (hs : sepL rs G G H) : ∃ vs, H p = some (.tup vs) ∧ SlAll G H vs ss := by
  obtain ⟨F1, F2, ⟨eF, vs, hp, al⟩, _, dj, eG⟩ := pk.split.mp hs
  exact ⟨vs, hp, al⟩
/-- let go, A is the data d at v -/
def FzR (A : Mem) (v : V) (d : PyData) : Prop := ∀ (F G : Fp) (H : Hp), A.ok F G H → (∀ a, F a → G a) → Is (fun a => G a ∧ ¬ F a) H v d
theorem Fz.r {A : Mem} {v : V} {d : PyData} (h : Fz A v d) : FzR A v d := h.run
theorem fzr_ok {α : Type} {M : α → Addr → Mem} {d : α → PyData} (hM : ∀ x q, FzR (M x q) (.ref q) (d x)) : ∀ (l : List (α × Addr)) (F G : Fp) (H : Hp), sepL (l.map fun x : α × Addr => M x.1 x.2) F G H → (∀ a, F a → G a) →
    IsAll (fun a => G a ∧ ¬ F a) H (l.map fun x : α × Addr => V.ref x.2) (l.map fun x : α × Addr => d x.1)
  | [], F, G, H, h, _ => .nil
  | x :: l, F, G, H, ⟨F1, F2, h1, h2, dj, e⟩, s => by
    have i1 := fzr_ok hM l F2 G H h2 fun a z => s a ((e a).mpr (.inr z))
    have j1 := hM x.1 x.2 F1 G H h1 fun a z => s a ((e a).mpr (.inl z))
    exact .cons (j1.stp (Stp.less fun a z => ⟨z.1, fun y => z.2 ((e a).mpr (.inl y))⟩)) (i1.stp (Stp.less fun a z => ⟨z.1, fun y => z.2 ((e a).mpr (.inr y))⟩))
theorem fzr_own {α : Type} {M : α → Addr → Mem} {d : α → PyData} (hM : ∀ x q, FzR (M x q) (.ref q) (d x)) {D : Addr} (l : List (α × Addr)) {F G : Fp} {H : Hp} (h : sepL [lstM D (l.map fun x : α × Addr => .r (.ref x.2)), famM (fun x : α × Addr => M x.1 x.2) l] F G H) (s : ∀ a, F a → G a) :
    Is (fun a => G a ∧ ¬ F a) H (.ref D) (.list (l.map fun x : α × Addr => d x.1)) := by
  obtain ⟨F1, F2, ⟨e1, vs, hp, al⟩, h2, dj, e⟩ := h
  obtain ⟨F3, F4, h3, h4, _, e3⟩ := h2
  have e2 : ∀ a, F2 a ↔ F3 a := fun a => by rw [e3 a]; exact ⟨fun z => z.elim id fun z => (h4 a z).elim, .inl⟩
  have sub : ∀ a, F3 a → F a := fun a z => (e a).mpr (.inr ((e2 a).mpr z))
  have i1 := fzr_ok hM l F3 G H h3 fun a z => s a (sub a z)
  have ev : vs = l.map fun x : α × Addr => V.ref x.2 := vals_ref al
  subst ev
  exact .lst (.inl ⟨.inl hp, fun z => z.2 ((e D).mpr (.inl ((e1 D).mpr rfl)))⟩) (i1.stp (Stp.less fun a z => ⟨z.1, fun y => z.2 (sub a y)⟩))
theorem fzr_col {α : Type} {M : α → Addr → Mem} {d : α → PyData} (hM : ∀ x q, FzR (M x q) (.ref q) (d x)) {D : Addr} {xs : List α} : FzR (colM D M xs) (.ref D) (.list (xs.map d)) := fun F G H ⟨⟨l, hl⟩, h⟩ s => by
  have := fzr_own hM l h s
  rw [← hl, List.map_map]
  exact this
inductive LentR (L : LnF) : List Sl → List Sl → Prop
  | nil : LentR L [] []
  | lend {A p d ss ss'} : (A, p, d) ∈ L → LentR L ss ss' → LentR L (.r (.ref p) :: ss) (.d d :: ss')
  | eq {s ss ss'} : LentR L ss ss' → LentR L (s :: ss) (s :: ss')
theorem lr_at {G : Fp} {H : Hp} : ∀ {L : LnF} {F : Fp}, (∀ x ∈ L, FzR x.1 (.ref x.2.1) x.2.2) → sepL (L.map (·.1)) F G H → (∀ a, F a → G a) → ∀ x ∈ L, Is (fun a => G a ∧ ¬ F a) H (.ref x.2.1) x.2.2
  | [], F, _, h, _ => fun _ z => (nomatch z)
  | y :: L, F, hF, ⟨F1, F2, h1, h2, _, e⟩, s => fun x hx => by
    rcases List.mem_cons.mp hx with rfl | hx
    · exact (hF _ List.mem_cons_self F1 G H h1 fun a z => s a ((e a).mpr (.inl z))).stp (Stp.less fun a z => ⟨z.1, fun w => z.2 ((e a).mpr (.inl w))⟩)
    · exact (lr_at (fun x hx => hF x (List.mem_cons_of_mem _ hx)) h2 (fun a z => s a ((e a).mpr (.inr z))) x hx).stp (Stp.less fun a z => ⟨z.1, fun w => z.2 ((e a).mpr (.inr w))⟩)
theorem lr_sl {G G' F : Fp} {H : Hp} {L : LnF} (hL : ∀ x ∈ L, Is (fun a => G a ∧ ¬ F a) H (.ref x.2.1) x.2.2) (hs : ∀ a, G' a → G a) (hd : ∀ a, F a → ¬ G' a) {ss ss' : List Sl} (l : LentR L ss ss') : ∀ {vs : List V}, SlAll G H vs ss → SlAll G' H vs ss' := by
  induction l with
  | nil =>
    intro vs h
    cases vs with
    | nil => trivial
    | cons _ _ => exact h.elim
  | @lend A p d ss ss' hm _ ih =>
    intro vs h
    cases vs with
    | nil => exact h.elim
    | cons v vs =>
      obtain ⟨h1, h2⟩ := h
      have ev : v = .ref p := h1
      subst ev
      exact ⟨(hL _ hm).stp (Stp.less fun a z => ⟨hs a z, fun w => hd a w z⟩), ih h2⟩
  | eq _ ih =>
    intro vs h
    cases vs with
    | nil => exact h.elim
    | cons v vs => exact ⟨h.1.stp (Stp.less hs), ih h.2⟩
/-- without references -/
def flatS : Sl → Bool
  | .d .none => true
  | .d (.bool _) => true
  | .d (.int _) => true
  | .d (.str _) => true
  | _ => false
theorem flat_rs {G G' : Fp} {H H0 : Hp} {v : V} {s : Sl} (hf : flatS s = true) (h : Rs G H0 H v s) : Rs G' H0 H v s := by
  cases s with
  | d x =>
    have h : Is G H v x := h
    show Is G' H v x
    cases h with
    | non => exact .non
    | bl b => exact .bl b
    | int i => exact .int i
    | str x => exact .str x
    | lst _ _ => cases hf
    | tup _ _ _ => cases hf
  | un => cases hf
  | r _ => cases hf
  | n _ => cases hf
section
variable {c : Ctx m₀ N₀ sc₀ lv₀ xp₀ fF₀ cm₀} {e a b o : Expr} {es : List Expr} {ρ ρ' : List Sl} {r1 rs : List Mem} {K : Sl → List Mem → Prop} {P : Post} {x f : Str} {pos pos' p2 apos : Pos} {s1 s2 : Sl} {sts : List Stmt}
/-- (.., ..), owned -/
theorem dx_tupO {x1} (h : DA c es ρ rs fun ss r => ss.length ≤ 100000 ∧ ∀ p, K (.r (.ref p)) (tupM p ss :: r)) : DX c (.Tuple es x1 pos) ρ rs K := by
  intro σ H G Q he hs hx hq
  refine tE_of (pe_tup pa_t) ?_
  refine h σ H G _ he hs hx fun vs H1 G1 ss r1 t1 h1 o1 k1 => ?_
  refine ⟨Nat.le_trans (Nat.le_trans (Nat.le_of_eq h1.length) k1.1) (by decide), fun p hp => ?_⟩
  obtain ⟨t2, o2⟩ := own_tup o1 hp h1
  exact hq _ _ _ (.r (.ref p)) _ (t1.trans t2) rfl o2 (k1.2 p)
theorem od_ixt2 {i : Int} {p : Addr} {ss : List Sl} {f : List Mem → List Mem} {s : Sl} (pk : Pick rs (tupM p ss) f) (hi : atI ss i = some s) (hn : ∀ ds, s ≠ .n ds) (k : K s rs) : OpD (rIx KC.K) (.r (.ref p)) (.d (.int i)) rs K := fun G H x y Q hx hy hs hq => by
  have ex : x = .ref p := hx
  subst ex
  have ey := hy.int
  obtain ⟨vs, hp, al⟩ := tup_at pk hs
  have hv : ∃ v, atI vs i = some v ∧ SlOk G H v s := by
    unfold atI at hi ⊢
    rw [al.length]
    cases e : ixN ss.length i with
    | none => rw [e] at hi; cases hi
    | some j => rw [e] at hi; exact al.get hi
  obtain ⟨v, hv, hd⟩ := hv
  exact .inr (.inl ⟨p, vs, i, v, rfl, ey, .inl (.inl hp), hv, give0 hs hq (Rs.of_ok hd hn) k⟩)
/-- to a def that only looks, and tells what is flat -/
theorem ce_lendP {C : Cn} (L : LnF) (hF : ∀ x ∈ L, FzR x.1 (.ref x.2.1) x.2.2) {rest : List Mem} {ss ss' : List Sl} (gr : Grab r1 (L.map (·.1)) rest) (hl : LentR L ss ss')
    (h : C ss' [] (fun s r2 => flatS s = true ∧ r2 = [] ∧ K s (L.map (·.1) ++ rest)) (fun _ _ => False)) : CallEnd c C ss ρ r1 K := fun σ H G vs Q he hs hx hv hq => by
  obtain ⟨FL, FT, hL, hT, d0, e0⟩ := sepL.app.mp (gr.sep hs)
  have hd : ∀ a, FT a → ∃ o, H a = some o := fun a z => hT.dom a z
  have sub : ∀ a, FT a → G a := fun a z => (e0 a).mpr (.inr z)
  have la := lr_at hF hL fun a z => (e0 a).mpr (.inl z)
  refine ⟨ss', asM FT H hd, [], FT, _, _, lr_sl la sub (fun a f z => d0 a f z) hl hv, ?_, h, ?_, ?_⟩
  · exact ⟨FT, fun _ => False, ⟨fun a => Iff.rfl, fun a u _ q => q⟩, fun _ z => z, fun _ _ z => z, fun a => ⟨.inl, fun z => z.elim id False.elim⟩⟩
  · rintro v H' G2 sl r2 t r o ⟨hfl, rfl, k⟩
    obtain ⟨F3, F4, ⟨e3, k3⟩, o4, _, e2⟩ := o
    have e4 : ∀ a, G2 a ↔ FT a := fun a => by
      rw [e2 a, e3 a]
      exact ⟨fun z => z.elim id fun z => (o4 a z).elim, .inl⟩
    have kG : ∀ a u, H a = some u → ¬ FT a → H' a = some u := fun a u q n => t.keep a u q n
    have st : Stp G G H H' := ⟨fun a u q n => kG a u q fun z => n (sub a z), fun a z => .inl z, t.old⟩
    refine hq v H' G sl _ st (flat_rs hfl r) ?_ k
    exact sepL.app.mpr ⟨FL, FT, sepL.step (G := G) (fun a z => .inl z) hL (fun a u q z => z.elim (fun f => kG a u q (d0 a f)) fun n => kG a u q fun z => n (sub a z)), sepL.step (G := G) (fun a z => .inl z) hT (fun a u q z => z.elim (fun f => k3 a u f q) fun n => kG a u q fun z => n (sub a z)), d0, e0⟩
  · rintro D H' G2 r2 t o z
    exact z.elim
theorem dss_frzR {A : Mem} {q : Addr} {d : PyData} {g : List Mem → List Mem} (pk : Pick rs A g) (hA : FzR A (.ref q) d) (hf : FrzV q d ρ ρ') (k : DSs c sts ρ' (g []) P) : DSs c sts ρ rs P := by
  intro σ H G D he hs hx hd
  obtain ⟨F1, F2, h1, h2, dj, e⟩ := pk.split.mp hs
  have s : Stp G F2 H H := Stp.less fun a z => (e a).mpr (.inr z)
  have hi : Is F2 H (.ref q) d := (hA F1 G H h1 fun a z => (e a).mpr (.inl z)).stp (Stp.less fun a z => ⟨(e a).mpr (.inr z), fun y => dj a y z⟩)
  exact k σ H F2 D (hf.env hi (he.stp s)) (sepL.step s.sub h2 fun a o q _ => q) (hx.stp s) (hd.stp s)
theorem dx_frzR (h : DX c e ρ rs fun s r => ∃ p A d g, s = .r (.ref p) ∧ Pick r A g ∧ FzR A (.ref p) d ∧ K (.d d) (g [])) : DX c e ρ rs K := by
  intro σ H G Q he hs hx hq
  refine h σ H G _ he hs hx fun v H1 G1 s1 r1 t1 h1 o1 k1 => ?_
  obtain ⟨p, A, d, g, rfl, pk, hA, k1⟩ := k1
  have ev : v = .ref p := h1
  subst ev
  obtain ⟨F1, F2, h1, h2, dj, e⟩ := pk.split.mp o1
  have s : Stp G1 F2 H1 H1 := Stp.less fun a z => (e a).mpr (.inr z)
  have hi : Is F2 H1 (.ref p) d := (hA F1 G1 H1 h1 fun a z => (e a).mpr (.inl z)).stp (Stp.less fun a z => ⟨(e a).mpr (.inr z), fun y => dj a y z⟩)
  exact hq _ H1 F2 (.d d) _ (t1.trans s) hi (sepL.step s.sub h2 fun a o q _ => q) k1
end

section
variable {c : Ctx m₀ N₀ sc₀ lv₀ xp₀ fF₀ cm₀} {e a b tg it : Expr} {es : List Expr} {ρ ρ' : List Sl} {rs : List Mem} {KI : List Sl → (List Mem → Prop) → List Mem → Prop} {x : Str} {pos pos' p2 : Pos}
theorem lc_runM1 {elt : Expr} {tt : TT} {scope : Scope} {j : Nat} {K : Sl → List Mem → Prop} (hso : ScOk (relS scope sc₀)) (hj : IxOf N₀ x j)
    (h : DI c (.Name x p2) it ρ rs fun items keep r => ∃ (α : Type) (xs : List α) (enc : α → Sl) (p : α → Bool) (M : α → Addr → Mem), items = xs.map enc ∧ (∀ A : Mem, ∀ B : Mem, keep (A :: B :: r)) ∧ xs.length ≤ 100000 ∧
      (∃ ρw, SetS N₀ ρ x j .un ρw ∧ ∀ y ∈ xs, ∃ ρ2, SetS N₀ ρw x j (enc y) ρ2 ∧ (p y = true → ElM c scope elt ρ2 r (M y)) ∧
        ∀ (A B : Mem) (σ : L2.St) (H : Hp) (G : Fp) (Q : Bool → Hp → Prop), EnvOk G H σ ρ2 → sepL (A :: B :: r) G G H → (∀ H' G', Stp G G' H H' → sepL (A :: B :: r) G' G' H' → Q (p y) H') → tt σ H Q) ∧
      ∀ D, K (.r (.ref D)) (colM D M (xs.filter p) :: r))
    {σ : L2.St} {H : Hp} {G : Fp} {Q : VK} (he : EnvOk G H σ ρ) (hs : sepL rs G G H) (hx : XOk c G H) (hq : ∀ v H' G' sl rs', Stp G G' H H' → Rs G' H H' v sl → sepL rs' G' G' H' → K sl rs' → Q v H') :
    tLc (tI c.X (.Name x p2) it) (gName j) tt (tBE c.X scope elt) [j] σ H Q := by
  refine h σ H G _ he hs hx fun J H1 G1 items keep r1 t1 o1 jok k1 => ?_
  obtain ⟨α, xs, enc, p, M, rfl, hk, hlen, ⟨ρw, hw, ht⟩, kend⟩ := k1
  intro D hD
  have nG1 : ¬ G1 D := o1.fresh hD
  obtain ⟨tj, oj⟩ := sepL.join (A := lstM D []) (H' := upd H1 D (.lst [])) o1 (same_new hD) hD ⟨fun a => Iff.rfl, [], upd_same, trivial⟩
  have oj := (SE.cons (A := lstM D []) (se_nil (f := fun x : α × Addr => M x.1 x.2))) _ _ _ oj
  refine ⟨fun i m H' => m = xs.length - i ∧ i ≤ xs.length ∧ ∃ (G' : Fp) (l : List (α × Addr)), l.map (·.1) = (xs.take i).filter p ∧ Stp G1 G' H1 H' ∧ sepL (lstM D (l.map fun x : α × Addr => Sl.r (.ref x.2)) :: famM (fun x : α × Addr => M x.1 x.2) l :: r1) G' G' H', ⟨_, rfl, Nat.zero_le _, _, [], rfl, tj, oj⟩, ?_⟩
  rintro i m H' ⟨rfl, hle, G', l, hl, t2, o2⟩
  have jk := jok G' H' _ t2 o2 (hk _ _) i
  by_cases hlt : i < xs.length
  · have hgo := jk.1 (by simpa using hlt)
    refine .inr ⟨hgo.1, fun H2 => ∃ (G2 : Fp) (l : List (α × Addr)), l.map (·.1) = (xs.take (i + 1)).filter p ∧ Stp G1 G2 H1 H2 ∧ sepL (lstM D (l.map fun x : α × Addr => Sl.r (.ref x.2)) :: famM (fun x : α × Addr => M x.1 x.2) l :: r1) G2 G2 H2, fun H2 ⟨G2, l, a, b, d⟩ => ⟨_, by omega, rfl, by omega, G2, l, a, b, d⟩, fun v H2 yl => ?_⟩
    obtain ⟨rfl, sl, hsl, hy⟩ := hgo.2 v H2 yl
    have hsl' : sl = enc xs[i] := by
      rw [List.getElem?_map, List.getElem?_eq_getElem hlt] at hsl
      exact (Option.some.inj hsl).symm
    subst hsl'
    obtain ⟨ρ2, hset, hel, htt⟩ := ht xs[i] (List.getElem_mem hlt)
    have tk : xs.take (i + 1) = xs.take i ++ [xs[i]] := by simp
    have eEnv : EnvOk G' H2 ((wipe σ [j]).set j (some v)) ρ2 := hset.env hy (set_un hw ((he.stp t1).stp t2))
    refine ⟨?_, ?_⟩
    · show ((σ.set j none).set j (some v)).set j none = σ.set j none
      rw [List.set_set, List.set_set]
    refine htt _ _ _ H2 G' _ eEnv o2 fun H3 G3 t3 o3 => ?_
    cases hp : p xs[i] with
    | false =>
      show ∃ G2, _
      refine ⟨G3, l, ?_, t2.trans t3, o3⟩
      rw [tk, List.filter_append, List.filter_cons, if_neg (by rw [hp]; exact Bool.false_ne_true)]
      simpa using hl
    | true =>
      show tBE c.X scope elt _ H3 _
      intro s0 H0 C0 cl0 fp0
      refine hel hp (sepM [lstM D (l.map fun x : α × Addr => Sl.r (.ref x.2)), famM (fun x : α × Addr => M x.1 x.2) l]) s0 H0 C0 cl0 fp0 hso _ H3 G3 _ (eEnv.stp t3) (sep_fold.mpr o3) xok_blk fun w H4 G4 s4 r4 t4 h4 o4 k4 => ?_
      obtain ⟨q, rfl, en⟩ := k4
      have ew : w = .ref q := h4
      subst ew
      obtain ⟨G5, l5, o5⟩ := en G4 H4 o4
      have o5 := sep_fold.mp o5
      obtain ⟨acc, hpD, al, gp, ch⟩ := lst_at (.zero (A := lstM D (l.map fun x : α × Addr => Sl.r (.ref x.2)))) o5
      have hla : acc.length = l.length := by
        have := al.length
        rwa [List.length_map] at this
      have hll : l.length ≤ xs.length := by
        have := congrArg List.length hl
        rw [List.length_map] at this
        have l2 : ((xs.take i).filter p).length ≤ (xs.take i).length := List.length_filter_le _ _
        rw [List.length_take] at l2
        omega
      refine ⟨acc, hpD, Nat.lt_of_le_of_lt (Nat.le_trans (by omega) hlen) (by decide), ?_⟩
      obtain ⟨t6, o6⟩ := ch (acc ++ [.ref q]) ((l.map fun x : α × Addr => Sl.r (.ref x.2)) ++ [Sl.r (.ref q)]) (al.append (ws := [.ref q]) (ts := [Sl.r (.ref q)]) ⟨rfl, trivial⟩)
      refine ⟨G5, l ++ [(xs[i], q)], by rw [List.map_append, hl, tk, List.filter_append, List.filter_cons, if_pos hp]; rfl, (((t2.trans t3).trans t4).trans (Stp.less l5)).trans t6, ?_⟩
      rw [List.map_append]
      exact (SE.cons (SE.trans .swap (se_add (f := fun x : α × Addr => M x.1 x.2) (y := (xs[i], q))))) _ _ _ o6
  · have hi : i = xs.length := by omega
    subst hi
    rw [List.take_length] at hl
    refine .inl ⟨jk.2 (by simp), ?_⟩
    refine hq (.ref D) H' G' (.r (.ref D)) _ (t1.trans t2) rfl ?_ (kend D)
    obtain ⟨F1, F2, h1, ⟨F3, F4, h3, h4, d2, e2⟩, d, e⟩ := o2
    refine ⟨fun a => F1 a ∨ F3 a, F4, ⟨⟨l, hl⟩, F1, F3, h1, ⟨F3, fun _ => False, h3, fun _ z => z, fun _ _ z => z, fun _ => ⟨.inl, fun z => z.elim id False.elim⟩⟩, fun a f g => d a f ((e2 a).mpr (.inl g)), fun _ => Iff.rfl⟩, h4, fun a z y => ?_, fun a => ?_⟩
    · rcases z with z | z
      · exact d a z ((e2 a).mpr (.inr y))
      · exact d2 a z y
    · rw [e a, e2 a, or_assoc]
theorem dx_lc1M {elt t : Expr} {scope : Scope} {j : Nat} {K : Sl → List Mem → Prop} (hj : IxOf N₀ x j) (hok : BlkOk N₀ sc₀ scope [(x, j)])
    (h : DI c (.Name x p2) it ρ rs fun items keep r => ∃ (α : Type) (xs : List α) (enc : α → Sl) (p : α → Bool) (M : α → Addr → Mem), items = xs.map enc ∧ (∀ A : Mem, ∀ B : Mem, keep (A :: B :: r)) ∧ xs.length ≤ 100000 ∧
      (∃ ρw, SetS N₀ ρ x j .un ρw ∧ ∀ y ∈ xs, ∃ ρ2, SetS N₀ ρw x j (enc y) ρ2 ∧ TsD c scope t ρ2 r (p y) ∧ (p y = true → ElM c scope elt ρ2 r (M y))) ∧ ∀ D, K (.r (.ref D)) (colM D M (xs.filter p) :: r))
    (hso : ScOk (relS scope sc₀) := by decide +kernel) (hcm : cm₀ = true := by rfl) (hl : scope.names.lookup x = some .local := by rfl) (hr : (relS scope sc₀).names.lookup x = some .local := by rfl) (hf : ∀ y, foldedSetIterable it c.X.env y = pure y := by intro _; rfl) : DX c (.ListComp elt [⟨.Name x p2, it, [t], 0⟩] scope pos) ρ rs K := by
  intro σ H G Q he hs hx hq
  have nd : c.X.N.Nodup := by rw [c.hN]; exact c.nd
  have hi : c.X.N[j]? = some x := by rw [c.hN]; exact hj.get
  refine tE_of (pe_lc (own := [(x, j)]) (g := gName j) (tt := tBT c.X scope t) (te := tBE c.X scope elt) (c.calm hcm) nd pi_t (by rw [c.hN, c.hsc]; exact hok) (fun s H C cl fp => pg_name nd hi (.inl (by show (relS scope c.X.env.scope).names.lookup x = _; rw [c.hsc]; exact hr)) (.inr (by show (relS scope c.X.env.scope).names.lookup x = _; rw [c.hsc]; exact hr))) (fun s H C cl fp => pts_one (pt_b s H C cl fp)) (fun s H C cl fp => pe_b s H C cl fp) hf) ?_
  refine lc_runM1 (K := K) hso hj ?_ he hs hx hq
  refine fun σ H G R a b d k => h σ H G R a b d fun J H' G' items keep rs' t o jo q => k J H' G' items keep rs' t o jo ?_
  obtain ⟨α, xs, enc, p, M, e1, e2, e3, ⟨ρw, w1, w2⟩, e5⟩ := q
  refine ⟨α, xs, enc, p, M, e1, e2, e3, ⟨ρw, w1, fun y hy => ?_⟩, e5⟩
  obtain ⟨ρ2, s1, s2, s3⟩ := w2 y hy
  refine ⟨ρ2, s1, s3, fun A B σ H G Q ee o2 hq => ?_⟩
  intro s0 H0 C0 cl0 fp0
  refine s2 (sepM [A, B]) s0 H0 C0 cl0 fp0 hso σ H G _ ee (sep_fold.mpr o2) xok_blk fun k H1 G1 r1 t1 o1 k1 => ?_
  obtain ⟨rfl, rfl⟩ := k1
  exact hq H1 G1 t1 (sep_fold.mp o1)
end
end PW

set_option maxHeartbeats 4000000
namespace My
open PySem L2 PW
/-! ### the text by places -/
def top (i : Nat) : Stmt := PySem.Challenge.pw_paneworks_k07_leaves.main.body.getD i (.Pass ⟨0, 0, 0, 0⟩)
abbrev s_upper_of : Stmt := top 3
@[reducible] def c_upper_of : Scope := { kind := .function, names := [(PySem.Str.ofString "page", .«local»), (PySem.Str.ofString "FAN_places", .globalImplicit)], isGenerator := false, isCoroutine := false, more := [] }
theorem e_upper_of : defScope s_upper_of = c_upper_of := rfl
abbrev n_upper_of : List Str := ["page"]
theorem f_upper_of : FnScope n_upper_of ["page"] (defScope s_upper_of) := ⟨rfl, rfl, rfl, by decide +kernel, rfl, by decide +kernel, by decide +kernel⟩
abbrev s_lower_of : Stmt := top 4
@[reducible] def c_lower_of : Scope := { kind := .function, names := [(PySem.Str.ofString "page", .«local»), (PySem.Str.ofString "FAN_places", .globalImplicit)], isGenerator := false, isCoroutine := false, more := [] }
theorem e_lower_of : defScope s_lower_of = c_lower_of := rfl
abbrev n_lower_of : List Str := ["page"]
theorem f_lower_of : FnScope n_lower_of ["page"] (defScope s_lower_of) := ⟨rfl, rfl, rfl, by decide +kernel, rfl, by decide +kernel, by decide +kernel⟩
abbrev s_Table___init__ : Stmt := inClass (top 7) 0
@[reducible] def c_Table___init__ : Scope := { kind := .function, names := [(PySem.Str.ofString "self", .«local»), (PySem.Str.ofString "FAN_tables", .globalImplicit)], isGenerator := false, isCoroutine := false, more := [] }
theorem e_Table___init__ : defScope s_Table___init__ = c_Table___init__ := rfl
abbrev n_Table___init__ : List Str := ["self"]
theorem f_Table___init__ : FnScope n_Table___init__ ["self"] (defScope s_Table___init__) := ⟨rfl, rfl, rfl, by decide +kernel, rfl, by decide +kernel, by decide +kernel⟩
abbrev s_Table_lay : Stmt := inClass (top 7) 2
@[reducible] def c_Table_lay : Scope := { kind := .function, names := [(PySem.Str.ofString "self", .«local»), (PySem.Str.ofString "page", .«local»), (PySem.Str.ofString "sheet", .«local»), (PySem.Str.ofString "upper_of", .globalImplicit), (PySem.Str.ofString "FAN_tables", .globalImplicit), (PySem.Str.ofString "lower_of", .globalImplicit)], isGenerator := false, isCoroutine := false, more := [] }
theorem e_Table_lay : defScope s_Table_lay = c_Table_lay := rfl
abbrev n_Table_lay : List Str := ["self", "page", "sheet"]
theorem f_Table_lay : FnScope n_Table_lay ["self", "page", "sheet"] (defScope s_Table_lay) := ⟨rfl, rfl, rfl, by decide +kernel, rfl, by decide +kernel, by decide +kernel⟩
abbrev s_Table_strike : Stmt := inClass (top 7) 3
@[reducible] def c_Table_strike : Scope := { kind := .function, names := [(PySem.Str.ofString "self", .«local»), (PySem.Str.ofString "page", .«local»), (PySem.Str.ofString "leaf", .«local»), (PySem.Str.ofString "upper_of", .globalImplicit), (PySem.Str.ofString "lower_of", .globalImplicit), (PySem.Str.ofString "FAN_tables", .globalImplicit)], isGenerator := false, isCoroutine := false, more := [] }
theorem e_Table_strike : defScope s_Table_strike = c_Table_strike := rfl
abbrev n_Table_strike : List Str := ["self", "page", "leaf"]
theorem f_Table_strike : FnScope n_Table_strike ["self", "page"] (defScope s_Table_strike) := ⟨rfl, rfl, rfl, by decide +kernel, rfl, by decide +kernel, by decide +kernel⟩
abbrev s_Table_leaves : Stmt := inClass (top 7) 5
@[reducible] def c_Table_leaves : Scope := { kind := .function, names := [(PySem.Str.ofString "self", .cell), (PySem.Str.ofString "range", .globalImplicit), (PySem.Str.ofString "FAN_tables", .globalImplicit)], isGenerator := false, isCoroutine := false, more := [(PySem.Str.ofString "fast", (PySem.Const.str "self")), (PySem.Str.ofString "fast", (PySem.Const.str "upper"))] }
theorem e_Table_leaves : defScope s_Table_leaves = c_Table_leaves := rfl
abbrev n_Table_leaves : List Str := ["self", "upper"]
theorem f_Table_leaves : FnScope n_Table_leaves ["self"] (defScope s_Table_leaves) := ⟨rfl, rfl, rfl, by decide +kernel, rfl, by decide +kernel, by decide +kernel⟩
abbrev s_Lwhole : Stmt := top 9
@[reducible] def c_Lwhole : Scope := { kind := .function, names := [(PySem.Str.ofString "_law_num", .«local»), (PySem.Str.ofString "isinstance", .globalImplicit), (PySem.Str.ofString "int", .globalImplicit), (PySem.Str.ofString "bool", .globalImplicit)], isGenerator := false, isCoroutine := false, more := [] }
theorem e_Lwhole : defScope s_Lwhole = c_Lwhole := rfl
abbrev n_Lwhole : List Str := ["_law_num"]
theorem f_Lwhole : FnScope n_Lwhole ["_law_num"] (defScope s_Lwhole) := ⟨rfl, rfl, rfl, by decide +kernel, rfl, by decide +kernel, by decide +kernel⟩
abbrev s_Ldue_of : Stmt := top 10
@[reducible] def c_Ldue_of : Scope := { kind := .function, names := [(PySem.Str.ofString "_law_ways", .cell), (PySem.Str.ofString "_law_due", .«local»), (PySem.Str.ofString "_law_upper", .cell), (PySem.Str.ofString "_law_entries", .«local»), (PySem.Str.ofString "range", .globalImplicit)], isGenerator := false, isCoroutine := false, more := [(PySem.Str.ofString "fast", (PySem.Const.str "_law_ways")), (PySem.Str.ofString "fast", (PySem.Const.str "_law_due")), (PySem.Str.ofString "fast", (PySem.Const.str "_law_upper")), (PySem.Str.ofString "fast", (PySem.Const.str "_law_low")), (PySem.Str.ofString "fast", (PySem.Const.str "_law_entries"))] }
theorem e_Ldue_of : defScope s_Ldue_of = c_Ldue_of := rfl
abbrev n_Ldue_of : List Str := ["_law_ways", "_law_due", "_law_upper", "_law_entries", "_law_low"]
theorem f_Ldue_of : FnScope n_Ldue_of ["_law_ways"] (defScope s_Ldue_of) := ⟨rfl, rfl, rfl, by decide +kernel, rfl, by decide +kernel, by decide +kernel⟩
abbrev s_Lis_due : Stmt := top 11
@[reducible] def c_Lis_due : Scope := { kind := .function, names := [(PySem.Str.ofString "_law_found", .«local»), (PySem.Str.ofString "_law_due", .«local»), (PySem.Str.ofString "_law_leaf", .«local»), (PySem.Str.ofString "_law_entry", .«local»), (PySem.Str.ofString "isinstance", .globalImplicit), (PySem.Str.ofString "list", .globalImplicit), (PySem.Str.ofString "len", .globalImplicit), (PySem.Str.ofString "tuple", .globalImplicit), (PySem.Str.ofString "_law_whole", .globalImplicit)], isGenerator := false, isCoroutine := false, more := [] }
theorem e_Lis_due : defScope s_Lis_due = c_Lis_due := rfl
abbrev n_Lis_due : List Str := ["_law_found", "_law_due", "_law_leaf", "_law_entry"]
theorem f_Lis_due : FnScope n_Lis_due ["_law_found", "_law_due"] (defScope s_Lis_due) := ⟨rfl, rfl, rfl, by decide +kernel, rfl, by decide +kernel, by decide +kernel⟩
abbrev s_Lcopied : Stmt := top 12
@[reducible] def c_Lcopied : Scope := { kind := .function, names := [(PySem.Str.ofString "_law_found", .«local»)], isGenerator := false, isCoroutine := false, more := [(PySem.Str.ofString "fast", (PySem.Const.str "_law_found")), (PySem.Str.ofString "fast", (PySem.Const.str "_law_leaf"))] }
theorem e_Lcopied : defScope s_Lcopied = c_Lcopied := rfl
abbrev n_Lcopied : List Str := ["_law_found", "_law_leaf"]
theorem f_Lcopied : FnScope n_Lcopied ["_law_found"] (defScope s_Lcopied) := ⟨rfl, rfl, rfl, by decide +kernel, rfl, by decide +kernel, by decide +kernel⟩
abbrev s_law : Stmt := top 13
@[reducible] def c_law : Scope := { kind := .function, names := [(PySem.Str.ofString "_law_script", .«local»), (PySem.Str.ofString "_law_table", .«local»), (PySem.Str.ofString "_law_ways", .«local»), (PySem.Str.ofString "_law_held", .«local»), (PySem.Str.ofString "_law_some", .«local»), (PySem.Str.ofString "_law_k", .«local»), (PySem.Str.ofString "_law_draw", .«local»), (PySem.Str.ofString "_law_page", .«local»), (PySem.Str.ofString "_law_told", .«local»), (PySem.Str.ofString "_law_pair", .«local»), (PySem.Str.ofString "Table", .globalImplicit), (PySem.Str.ofString "range", .globalImplicit), (PySem.Str.ofString "len", .globalImplicit), (PySem.Str.ofString "sorted", .globalImplicit), (PySem.Str.ofString "_law_is_due", .globalImplicit), (PySem.Str.ofString "_law_due_of", .globalImplicit), (PySem.Str.ofString "_law_copied", .globalImplicit)], isGenerator := false, isCoroutine := false, more := [] }
theorem e_law : defScope s_law = c_law := rfl
abbrev n_law : List Str := ["_law_script", "_law_table", "_law_ways", "_law_held", "_law_some", "_law_k", "_law_draw", "_law_page", "_law_told", "_law_pair"]
theorem f_law : FnScope n_law ["_law_script"] (defScope s_law) := ⟨rfl, rfl, rfl, by decide +kernel, rfl, by decide +kernel, by decide +kernel⟩
/-! ### tables: a list of leaves -/
section
variable [KC]
abbrev Tb := List (Option (List PyData))
def tSl : Tb → (Nat → Addr) → Nat → List Sl
  | [], _, _ => []
  | none :: T, q, n => .d .none :: tSl T q (n + 1)
  | some _ :: T, q, n => .r (.ref (q n)) :: tSl T q (n + 1)
def tLv : Tb → (Nat → Addr) → Nat → List Mem
  | [], _, _ => []
  | none :: T, q, n => tLv T q (n + 1)
  | some es :: T, q, n => lstM (q n) (es.map .d) :: tLv T q (n + 1)
def lvM (T : Tb) (q : Nat → Addr) : Mem := sepM (tLv T q 0)
theorem tSl_len : ∀ (T : Tb) (q : Nat → Addr) (n : Nat), (tSl T q n).length = T.length
  | [], _, _ => rfl
  | none :: T, q, n => congrArg (· + 1) (tSl_len T q (n + 1))
  | some _ :: T, q, n => congrArg (· + 1) (tSl_len T q (n + 1))
theorem tSl_none : ∀ {T : Tb} {q : Nat → Addr} {n i : Nat}, T[i]? = some none → (tSl T q n)[i]? = some (.d .none)
  | [], _, _, _, h => by simp at h
  | none :: _, _, _, 0, _ => rfl
  | some _ :: _, _, _, 0, h => by simp at h
  | none :: T, q, n, i + 1, h => tSl_none (T := T) (q := q) (n := n + 1) (i := i) (by simpa using h)
  | some _ :: T, q, n, i + 1, h => tSl_none (T := T) (q := q) (n := n + 1) (i := i) (by simpa using h)
theorem tSl_some : ∀ {T : Tb} {q : Nat → Addr} {n i : Nat} {es : List PyData}, T[i]? = some (some es) → (tSl T q n)[i]? = some (.r (.ref (q (n + i))))
  | [], _, _, _, _, h => by simp at h
  | none :: _, _, _, 0, _, h => by simp at h
  | some _ :: _, _, _, 0, _, _ => rfl
  | none :: T, q, n, i + 1, es, h => by
    have := tSl_some (T := T) (q := q) (n := n + 1) (i := i) (es := es) (by simpa using h)
    rw [show n + 1 + i = n + (i + 1) by omega] at this
    exact this
  | some _ :: T, q, n, i + 1, es, h => by
    have := tSl_some (T := T) (q := q) (n := n + 1) (i := i) (es := es) (by simpa using h)
    rw [show n + 1 + i = n + (i + 1) by omega] at this
    exact this
/-- the same addresses from n on -/
theorem tSl_same : ∀ {T : Tb} {q q' : Nat → Addr} {n : Nat}, (∀ j, n ≤ j → q j = q' j) → tSl T q n = tSl T q' n
  | [], _, _, _, _ => rfl
  | none :: T, q, q', n, h => by
    show _ :: tSl T q (n + 1) = _ :: tSl T q' (n + 1)
    rw [tSl_same (T := T) fun j hj => h j (by omega)]
  | some _ :: T, q, q', n, h => by
    show _ :: tSl T q (n + 1) = _ :: tSl T q' (n + 1)
    rw [tSl_same (T := T) fun j hj => h j (by omega), h n (Nat.le_refl _)]
theorem tLv_same : ∀ {T : Tb} {q q' : Nat → Addr} {n : Nat}, (∀ j, n ≤ j → q j = q' j) → tLv T q n = tLv T q' n
  | [], _, _, _, _ => rfl
  | none :: T, q, q', n, h => tLv_same (T := T) (n := n + 1) fun j hj => h j (by omega)
  | some es :: T, q, q', n, h => by
    show lstM (q n) _ :: tLv T q (n + 1) = lstM (q' n) _ :: tLv T q' (n + 1)
    rw [tLv_same (T := T) fun j hj => h j (by omega), h n (Nat.le_refl _)]
def qSet (q : Nat → Addr) (i : Nat) (a : Addr) : Nat → Addr := fun j => if j = i then a else q j
theorem tSl_set : ∀ {T : Tb} {q : Nat → Addr} {n i : Nat} {es : List PyData} {a : Addr}, i < T.length → (tSl T q n).set i (.r (.ref a)) = tSl (T.set i (some es)) (qSet q (n + i) a) n
  | [], _, _, _, _, _, h => absurd h (Nat.not_lt_zero _)
  | x :: T, q, n, 0, es, a, _ => by
    have e : ∀ j, n + 1 ≤ j → q j = qSet q (n + 0) a j := fun j hj => by unfold qSet; rw [if_neg (by omega)]
    have e2 : qSet q (n + 0) a n = a := by unfold qSet; rw [if_pos (by omega)]
    cases x with
    | none =>
      show .r (.ref a) :: tSl T q (n + 1) = .r (.ref (qSet q (n + 0) a n)) :: tSl T (qSet q (n + 0) a) (n + 1)
      rw [e2, tSl_same e]
    | some _ =>
      show .r (.ref a) :: tSl T q (n + 1) = .r (.ref (qSet q (n + 0) a n)) :: tSl T (qSet q (n + 0) a) (n + 1)
      rw [e2, tSl_same e]
  | x :: T, q, n, i + 1, es, a, h => by
    have ih := tSl_set (T := T) (q := q) (n := n + 1) (i := i) (es := es) (a := a) (by simpa using h)
    rw [show n + 1 + i = n + (i + 1) by omega] at ih
    have e2 : qSet q (n + (i + 1)) a n = q n := by unfold qSet; rw [if_neg (by omega)]
    cases x with
    | none =>
      show .d .none :: (tSl T q (n + 1)).set i (.r (.ref a)) = .d .none :: tSl (T.set i (some es)) (qSet q (n + (i + 1)) a) (n + 1)
      rw [ih]
    | some _ =>
      show .r (.ref (q n)) :: (tSl T q (n + 1)).set i (.r (.ref a)) = .r (.ref (qSet q (n + (i + 1)) a n)) :: tSl (T.set i (some es)) (qSet q (n + (i + 1)) a) (n + 1)
      rw [ih, e2]
theorem tSl_put : ∀ {T : Tb} {q : Nat → Addr} {n i : Nat} {es es' : List PyData}, T[i]? = some (some es) → tSl (T.set i (some es')) q n = tSl T q n
  | [], _, _, _, _, _, h => by simp at h
  | none :: _, _, _, 0, _, _, h => by simp at h
  | some _ :: _, _, _, 0, _, _, _ => rfl
  | none :: T, q, n, i + 1, es, es', h => congrArg _ (tSl_put (T := T) (q := q) (n := n + 1) (i := i) (es := es) (es' := es') (by simpa using h))
  | some _ :: T, q, n, i + 1, es, es', h => congrArg _ (tSl_put (T := T) (q := q) (n := n + 1) (i := i) (es := es) (es' := es') (by simpa using h))
theorem tSl_clr : ∀ {T : Tb} {q : Nat → Addr} {n i : Nat}, i < T.length → (tSl T q n).set i (.d .none) = tSl (T.set i none) q n
  | [], _, _, _, h => absurd h (Nat.not_lt_zero _)
  | none :: T, q, n, 0, _ => rfl
  | some _ :: T, q, n, 0, _ => rfl
  | none :: T, q, n, i + 1, h => congrArg _ (tSl_clr (T := T) (q := q) (n := n + 1) (i := i) (by simpa using h))
  | some _ :: T, q, n, i + 1, h => congrArg _ (tSl_clr (T := T) (q := q) (n := n + 1) (i := i) (by simpa using h))
/-- a leaf stands among the things -/
theorem tLv_pick : ∀ {T : Tb} {q : Nat → Addr} {n i : Nat} {es : List PyData}, T[i]? = some (some es) → ∃ f, Pick (tLv T q n) (lstM (q (n + i)) (es.map .d)) f ∧ f [] = tLv (T.set i none) q n
  | [], _, _, _, _, h => by simp at h
  | none :: _, _, _, 0, _, h => by simp at h
  | some es0 :: T, q, n, 0, es, h => by
    have : es0 = es := by simpa using h
    subst this
    exact ⟨_, .zero, rfl⟩
  | none :: T, q, n, i + 1, es, h => by
    obtain ⟨f, p, e⟩ := tLv_pick (T := T) (q := q) (n := n + 1) (i := i) (es := es) (by simpa using h)
    rw [show n + 1 + i = n + (i + 1) by omega] at p
    exact ⟨f, p, e⟩
  | some es0 :: T, q, n, i + 1, es, h => by
    obtain ⟨f, p, e⟩ := tLv_pick (T := T) (q := q) (n := n + 1) (i := i) (es := es) (by simpa using h)
    rw [show n + 1 + i = n + (i + 1) by omega] at p
    exact ⟨_, .succ p, by show lstM (q n) _ :: f [] = lstM (q n) _ :: tLv (T.set i none) q (n + 1); rw [e]⟩
theorem tLv_qset : ∀ {T : Tb} {q : Nat → Addr} {n i : Nat} {a : Addr}, T[i]? = some none → tLv T (qSet q (n + i) a) n = tLv T q n
  | [], _, _, _, _, h => by simp at h
  | some _ :: _, _, _, 0, _, h => by simp at h
  | none :: T, q, n, 0, a, _ => tLv_same (T := T) (n := n + 1) fun j hj => by unfold qSet; rw [if_neg (by omega)]
  | none :: T, q, n, i + 1, a, h => by
    have := tLv_qset (T := T) (q := q) (n := n + 1) (i := i) (a := a) (by simpa using h)
    rw [show n + 1 + i = n + (i + 1) by omega] at this
    exact this
  | some es :: T, q, n, i + 1, a, h => by
    have := tLv_qset (T := T) (q := q) (n := n + 1) (i := i) (a := a) (by simpa using h)
    rw [show n + 1 + i = n + (i + 1) by omega] at this
    show lstM (qSet q (n + (i + 1)) a n) _ :: tLv T (qSet q (n + (i + 1)) a) (n + 1) = _
    rw [this, show qSet q (n + (i + 1)) a n = q n by unfold qSet; rw [if_neg (by omega)]]; rfl
/-- a leaf is taken out -/
theorem lv_out {T : Tb} {q : Nat → Addr} {i : Nat} {es : List PyData} {rs : List Mem} (h : T[i]? = some (some es)) : Ent (lvM T q :: rs) (lstM (q i) (es.map .d) :: lvM (T.set i none) q :: rs) := fun G H hs => by
  obtain ⟨F1, F2, h1, h2, d, e⟩ := hs
  obtain ⟨f, p, ef⟩ := tLv_pick (q := q) (n := 0) h
  obtain ⟨F3, F4, h3, h4, d2, e2⟩ := p.split.mp h1
  rw [ef] at h4
  rw [show 0 + i = i by omega] at h3
  refine ⟨G, fun _ z => z, F3, fun a => F4 a ∨ F2 a, h3, ⟨F4, F2, h4, h2, fun a x y => d a ((e2 a).mpr (.inr x)) y, fun a => Iff.rfl⟩, fun a x y => ?_, fun a => ?_⟩
  · rcases y with y | y
    · exact d2 a x y
    · exact d a ((e2 a).mpr (.inl x)) y
  · rw [e a, e2 a, or_assoc]
/-- and put back, or a new one laid in -/
theorem lv_in {T : Tb} {q : Nat → Addr} {i : Nat} {es : List PyData} {rs : List Mem} {a : Addr} (h : T[i]? = some none) : Ent (lstM a (es.map .d) :: lvM T q :: rs) (lvM (T.set i (some es)) (qSet q i a) :: rs) := fun G H hs => by
  obtain ⟨F1, F2, h1, ⟨F3, F4, h3, h4, d2, e2⟩, d, e⟩ := hs
  have hi : i < T.length := by
    by_cases z : i < T.length
    · exact z
    · rw [List.getElem?_eq_none (by omega)] at h; cases h
  obtain ⟨f, p, ef⟩ := tLv_pick (T := T.set i (some es)) (q := qSet q i a) (n := 0) (i := i) (es := es) (by rw [List.getElem?_set, if_pos rfl, if_pos hi])
  have e0 : T.set i none = T := by
    refine List.ext_getElem? fun j => ?_
    rw [List.getElem?_set]
    split
    · rename_i ej; subst ej; first | exact h.symm | (rw [if_pos hi, h])
    · rfl
  rw [List.set_set, e0] at ef
  have eq := tLv_qset (q := q) (n := 0) (a := a) h
  rw [show 0 + i = i by omega] at eq p
  rw [eq] at ef
  have ea : qSet q i a i = a := by unfold qSet; rw [if_pos rfl]
  rw [ea] at p
  refine ⟨G, fun _ z => z, fun x => F1 x ∨ F3 x, F4, p.split.mpr ⟨F1, F3, h1, ef ▸ h3, fun x y z => d x y ((e2 x).mpr (.inl z)), fun x => Iff.rfl⟩, h4, fun x y z => ?_, fun x => ?_⟩
  · rcases y with y | y
    · exact d x y ((e2 x).mpr (.inr z))
    · exact d2 x y z
  · rw [e x, e2 x, or_assoc]
end
section
variable [KC]
theorem qSet_self (q : Nat → Addr) (i : Nat) : qSet q i (q i) = q := funext fun j => by
  unfold qSet
  split
  · rename_i e; rw [e]
  · rfl
theorem set_same {T : Tb} {i : Nat} {x : Option (List PyData)} (h : T[i]? = some x) : T.set i x = T := by
  refine List.ext_getElem? fun j => ?_
  rw [List.getElem?_set]
  have hi : i < T.length := by
    by_cases z : i < T.length
    · exact z
    · rw [List.getElem?_eq_none (by omega)] at h; cases h
  split
  · rename_i ej; subst ej; first | exact h.symm | (rw [if_pos hi, h])
  · rfl
theorem set_at {T : Tb} {i : Nat} {x : Option (List PyData)} (hi : i < T.length) : (T.set i x)[i]? = some x := by
  rw [List.getElem?_set]; simp [hi]
theorem lv_back {T : Tb} {q : Nat → Addr} {i : Nat} {es : List PyData} {rs : List Mem} (hi : i < T.length) : Ent (lstM (q i) (es.map .d) :: lvM (T.set i none) q :: rs) (lvM (T.set i (some es)) q :: rs) := by
  have h := lv_in (T := T.set i none) (q := q) (i := i) (es := es) (rs := rs) (a := q i) (set_at hi)
  rw [List.set_set, qSet_self] at h
  exact h
end
/-! ### the table -/
section
variable [KC]
def tget (T : Tb) (page : Int) : PyData := match T[(page / 16).toNat]? with
  | some (some es) => es.getD (page % 16).toNat .none
  | _ => .none
def tput (T : Tb) (page : Int) (d : PyData) : Tb := T.set (page / 16).toNat (some ((match T[(page / 16).toNat]? with
  | some (some es) => es
  | _ => List.replicate 16 PyData.none).set (page % 16).toNat d))
def tabF (C p : Addr) (T : Tb) (z : Addr × (Nat → Addr)) : List Mem := [insM C p [("uppers", .r (.ref z.1))], lstM z.1 (tSl T z.2 0), lvM T z.2]
def tabM (C p : Addr) (T : Tb) : Mem := exM (tabF C p T)
theorem at_tab {C p : Addr} {T : Tb} {x : Str} (h : x ∉ [("uppers" : Str)]) : InsAt (tabM C p T) C p x := insAt_ex (fs := fun z => [("uppers", .r (.ref z.1))]) (fun _ => rfl) fun _ => h
structure TOk (T : Tb) : Prop where
  len : T.length = 16
  leaf : ∀ (i : Nat) (es : List PyData), T[i]? = some (some es) → es.length = 16 ∧ ∀ d ∈ es, d = .none ∨ ∃ n, d = .int n
end
section
variable [KC]
theorem ent_none {rs : List Mem} {q : Nat → Addr} : Ent rs (lvM (List.replicate 16 none) q :: rs) := fun G H h => ⟨G, fun _ z => z, fun _ => False, G, fun _ z => z, h, fun _ z => z.elim, fun _ => ⟨.inr, fun z => z.elim False.elim id⟩⟩
def hasT (T : Tb) (n : Nat) : Bool := match tget T n with
  | .none => false
  | _ => true
def tpg (T : Tb) (k : Nat) : List Int := ((List.range k).filter (hasT T)).map Int.ofNat
theorem tpg_step (T : Tb) (k : Nat) : tpg T (k + 1) = tpg T k ++ if hasT T k = true then [(k : Int)] else [] := by
  unfold tpg
  rw [List.range_succ, List.filter_append, List.map_append]
  congr 1
  by_cases h : hasT T k = true
  · rw [if_pos h, List.filter_cons, if_pos h]; rfl
  · rw [if_neg h, List.filter_cons, if_neg h]; rfl
theorem tpg_len (T : Tb) (k : Nat) : (tpg T k).length ≤ k := by
  unfold tpg
  rw [List.length_map]
  exact Nat.le_trans (List.length_filter_le _ _) (by simp)
theorem tpg_skip {T : Tb} {u : Nat} (h : T[u]? = some none) : ∀ j, j ≤ 16 → tpg T (16 * u + j) = tpg T (16 * u)
  | 0, _ => rfl
  | j + 1, hj => by
    rw [show 16 * u + (j + 1) = (16 * u + j) + 1 by omega, tpg_step, tpg_skip h j (by omega)]
    have : hasT T (16 * u + j) = false := by
      unfold hasT tget
      rw [show (((16 * u + j : Nat) : Int) / 16).toNat = u by omega, h]
    rw [this]; simp
end
section
variable [KC] {m₀ : Mo} {N₀ : List Str} {sc₀ : Scope} {lv₀ : Nat} {xp₀ : Addr → List Sl → List Mem → Prop} {fF₀ cm₀ : Bool} {c : PW.Ctx m₀ N₀ sc₀ lv₀ xp₀ fF₀ cm₀} {rs : List Mem} {ρ : List Sl} {K : Sl → List Mem → Prop} {C p : Addr} {T : Tb} {g : List Mem → List Mem}
theorem ce_tab {Q : Cn} {ss : List Sl} (pk : Pick rs (tabM C p T) g) (h : Q (.r (.ref p) :: ss) [tabM C p T] (fun s r2 => K s (g r2)) (fun D r2 => xp₀ D ρ (g r2))) : CallEnd c Q (.r (.ref p) :: ss) ρ rs K := ce_inr pk h
theorem ce0_tab {Q : Cn} (pk : Pick rs (tabM C p T) g) (h : Q [.r (.ref p)] [tabM C p T] (fun s r2 => K s (g r2)) (fun _ _ => False)) : CallEnd0 Q [.r (.ref p)] rs K := ce0_inr pk h
theorem me_tab {x : Str} {B : Addr → Prop} (pk : Pick rs (tabM C p T) g) (hx : x ∉ [("uppers" : Str)]) (h : B p) : ∃ p' A g, Sl.r (.ref p) = .r (.ref p') ∧ Pick rs A g ∧ InsAt A C p' x ∧ B p' := ⟨p, _, g, rfl, pk, at_tab hx, h⟩
end

--REPO
/-! ### the steps -/
local macro_rules | `(tactic| walk_at "sl") => `(tactic| ((repeat with_reducible first | exact Slot.zero | apply Slot.succ); (first | (all_goals fail) | fail)))
local macro_rules | `(tactic| walk_at "set") => `(tactic| ((repeat with_reducible first | exact SetS.zero | apply SetS.succ); (first | (all_goals fail) | fail)))
local macro_rules | `(tactic| walk_at "ix") => `(tactic| ((repeat with_reducible first | exact IxOf.zero | apply IxOf.succ); (first | (all_goals fail) | fail)))
local macro_rules | `(tactic| walk_at "pick") => `(tactic| ((repeat with_reducible first | exact Pick.zero | apply Pick.succ); (first | (all_goals fail) | fail)))
local macro_rules | `(tactic| walk_at "fld") => `(tactic| ((repeat with_reducible first | exact FldAt.zero | apply FldAt.succ); (first | (all_goals fail) | fail)))
local macro_rules | `(tactic| walk_at "fset") => `(tactic| ((repeat with_reducible first | exact FldSet.zero | apply FldSet.succ); (first | (all_goals fail) | fail)))
local macro_rules | `(tactic| walk_at "grab") => `(tactic| (repeat (first | exact has_nil | refine has_cons (by ((repeat with_reducible first | exact Pick.zero | apply Pick.succ); (first | (all_goals fail) | fail))) ?_ | dsimp only [List.nil_append, List.cons_append, List.map_nil])))
local macro_rules | `(tactic| walk_at "pick2") => `(tactic| ((dsimp only [List.nil_append, List.cons_append]); ((repeat with_reducible first | exact Pick.zero | apply Pick.succ); (first | (all_goals fail) | fail))))
local macro_rules | `(tactic| walk_at "lent") => `(tactic| (repeat (first | exact LentS.nil | refine LentS.lend (by first | exact List.mem_cons_self | exact List.mem_cons_of_mem _ List.mem_cons_self) ?_ | refine LentS.eq ?_)))
local macro_rules | `(tactic| walk_at "datas") => `(tactic| ((repeat with_reducible first | exact datas_nil | apply datas_cons); (first | (all_goals fail) | fail)))
local macro_rules | `(tactic| walk_at "le0") => `(tactic| (repeat (first | exact Le.nil | (with_reducible apply Le.eq) | (with_reducible apply Le.un) | apply Le.eq)))
local macro_rules | `(tactic| walk_at "le") => `(tactic| ((repeat with_reducible first | exact Le.nil | apply Le.eq | apply Le.un); (first | (all_goals fail) | fail)))
local macro_rules | `(tactic| walk_at "num") => `(tactic| (first | omega | decide | (simp; omega)))
local macro_rules | `(tactic| walk_at "len") => `(tactic| (first | (with_reducible assumption) | decide | ((try simp only [List.length_cons, List.length_nil, List.length_append, List.length_map, List.length_replicate]); omega) | (refine Nat.le_trans (cutL_len _ _ _) ?_; (try simp only [List.length_cons, List.length_nil, List.length_append, List.length_map, List.length_replicate]); omega) | (refine Nat.le_trans (Nat.add_le_add_left (cutL_len _ _ _) _) ?_; (try simp only [List.length_cons, List.length_nil, List.length_append, List.length_map, List.length_replicate]); omega) | (refine Nat.le_trans (Nat.add_le_add_right (cutL_len _ _ _) _) ?_; (try simp only [List.length_cons, List.length_nil, List.length_append, List.length_map, List.length_replicate]); omega)))
local macro_rules | `(tactic| walk_at "go") => `(tactic| (repeat (first | (first | ((with_reducible show DX _ _ _ _ _); (first | ((with_reducible show DX _ (.Name _ _) _ _ _); (first | refine dx_name (by ((repeat with_reducible first | exact Slot.zero | apply Slot.succ); (first | (all_goals fail) | fail))) (by exact fun e => nomatch e) ?_ | refine dx_gint (by with_reducible assumption) ?_ | refine dx_gstr (by with_reducible assumption) ?_ | refine dx_gcls (by with_reducible assumption) (by decide +kernel) ?_ | ((with_reducible show DX _ (.Name "int" _) _ _ _); refine dx_tint ?_) | ((with_reducible show DX _ (.Name "bool" _) _ _ _); refine dx_tbool ?_) | ((with_reducible show DX _ (.Name "str" _) _ _ _); refine dx_tstr ?_) | ((with_reducible show DX _ (.Name "list" _) _ _ _); refine dx_tlist ?_) | ((with_reducible show DX _ (.Name "tuple" _) _ _ _); refine dx_ttuple ?_) | ((with_reducible show DX _ (.Name "ValueError" _) _ _ _); refine dx_tVE (by with_reducible assumption) ?_))) | ((with_reducible show DX _ (.Constant _ _ _) _ _ _); (first | ((with_reducible show DX _ (.Constant (.int _) _ _) _ _ _); refine dx_int ?_) | ((with_reducible show DX _ (.Constant (.str _) _ _) _ _ _); refine dx_str ?_) | ((with_reducible show DX _ (.Constant (.bool _) _ _) _ _ _); refine dx_bl ?_) | refine dx_non ?_)) | ((with_reducible show DX _ (.BinOp (.List [_] _) .Mult _ _) _ _ _); refine dx_rep ?_) | ((with_reducible show DX _ (.BinOp _ _ _ _) _ _ _); (first | ((with_reducible show DX _ (.BinOp _ .Add _ _) _ _ _); refine dx_bin cAdd ?_) | ((with_reducible show DX _ (.BinOp _ .Sub _ _) _ _ _); refine dx_bin op_sub ?_) | ((with_reducible show DX _ (.BinOp _ .Mult _ _) _ _ _); refine dx_bin op_uMul ?_) | ((with_reducible show DX _ (.BinOp _ .FloorDiv _ _) _ _ _); refine dx_bin op_fdivW ?_) | ((with_reducible show DX _ (.BinOp _ .Mod _ _) _ _ _); refine dx_bin op_mod ?_) | ((with_reducible show DX _ (.BinOp _ .Pow _ _) _ _ _); refine dx_bin op_pow ?_))) | ((with_reducible show DX _ (.Compare _ [_] _ _) _ _ _); (first | ((with_reducible show DX _ (.Compare _ [.Eq] [_] _) _ _ _); refine dx_cmp cEq (nomark _) ?_) | ((with_reducible show DX _ (.Compare _ [.NotEq] [_] _) _ _ _); refine dx_cmp cNe (nomark _) ?_) | ((with_reducible show DX _ (.Compare _ [.Lt] [_] _) _ _ _); refine dx_cmp op_lt (nomark _) ?_) | ((with_reducible show DX _ (.Compare _ [.LtE] [_] _) _ _ _); refine dx_cmp op_le (nomark _) ?_) | ((with_reducible show DX _ (.Compare _ [.Gt] [_] _) _ _ _); refine dx_cmp op_gt (nomark _) ?_) | ((with_reducible show DX _ (.Compare _ [.GtE] [_] _) _ _ _); refine dx_cmp op_ge (nomark _) ?_) | ((with_reducible show DX _ (.Compare _ [.Is] [_] _) _ _ _); refine dx_cmp op_uIs (nomark _) ?_) | ((with_reducible show DX _ (.Compare _ [.IsNot] [_] _) _ _ _); refine dx_cmp op_uIsn (nomark _) ?_) | ((with_reducible show DX _ (.Compare _ [.In] [_] _) _ _ _); refine dx_cmp cIn (rfl) ?_) | ((with_reducible show DX _ (.Compare _ [.NotIn] [_] _) _ _ _); refine dx_cmp cNin (rfl) ?_))) | ((with_reducible show DX _ (.Compare _ [_, _] _ _) _ _ _); (first | ((with_reducible show DX _ (.Compare _ [.LtE, .Lt] [_, _] _) _ _ _); refine dx_chain op_le op_lt ?_) | ((with_reducible show DX _ (.Compare _ [.LtE, .LtE] [_, _] _) _ _ _); refine dx_chain op_le op_le ?_))) | ((with_reducible show DX _ (.BoolOp _ [_] _) _ _ _); refine dx_one ?_) | ((with_reducible show DX _ (.BoolOp .And _ _) _ _ _); refine dx_and ?_) | ((with_reducible show DX _ (.BoolOp .Or _ _) _ _ _); refine dx_or ?_) | ((with_reducible show DX _ (.UnaryOp .Not _ _) _ _ _); refine dx_not ?_) | ((with_reducible show DX _ (.UnaryOp _ _ _) _ _ _); refine dx_neg ?_) | ((with_reducible show DX _ (.Subscript _ (.Slice _ _ _ _) _) _ _ _); refine dx_slice ?_) | ((with_reducible show DX _ (.Subscript _ _ _) _ _ _); refine dx_ix cIx ?_) | ((with_reducible show DX _ (.Tuple _ _ _) _ _ _); refine dx_tup ?_) | ((with_reducible show DX _ (.IfExp _ _ _ _) _ _ _); refine dx_ifExp ?_) | ((with_reducible show DX _ (.List _ _) _ _ _); refine dx_lst ?_) | ((with_reducible show DX _ (.Dict [] [] _) _ _ _); refine dx_dnew ?_) | ((with_reducible show DX _ (.Attribute _ _ _) _ _ _); refine dx_fld ?_) | ((with_reducible show DX _ (.Call (.Attribute _ "clear" _) [] _ _) _ _ _); refine dx_clear ?_) | ((with_reducible show DX _ (.Call (.Attribute _ "pop" _) [] _ _) _ _ _); refine dx_pop ?_) | ((with_reducible show DX _ (.Call (.Attribute _ _ _) [] _ _) _ _ _); refine dx_meth0 (by with_reducible assumption) (by with_reducible assumption) ?_) | ((with_reducible show DX _ (.Call (.Name _ _) [] _ _) _ _ _); refine dx_call0 (by with_reducible assumption) ?_) | ((with_reducible show DX _ (.Call (.Attribute _ "append" _) [_] _ _) _ _ _); refine dx_append ?_) | ((with_reducible show DX _ (.Call (.Attribute _ "join" _) [_] _ _) _ _ _); refine dx_join ?_) | ((with_reducible show DX _ (.Call (.Attribute _ "find" _) [_] _ _) _ _ _); refine dx_find ?_) | ((with_reducible show DX _ (.Call (.Attribute (.Constant (.str _) _ _) "index" _) [_] _ _) _ _ _); refine dx_sindex ?_) | ((with_reducible show DX _ (.Call (.Attribute _ "split" _) [_] _ _) _ _ _); refine dx_split ?_) | ((with_reducible show DX _ (.Call (.Attribute _ _ _) _ _ _) _ _ _); refine dx_meth (by with_reducible assumption) (by with_reducible assumption) ?_) | ((with_reducible show DX _ (.Call (.Name _ _) _ _ _) _ _ _); (first | ((with_reducible show DX _ (.Call (.Name "len" _) _ _ _) _ _ _); refine dx_len ?_) | ((with_reducible show DX _ (.Call (.Name "isinstance" _) _ _ _) _ _ _); (first | ((with_reducible show DX _ (.Call _ [_, .Tuple _ _ _] _ _) _ _ _); refine dx_isET (by with_reducible assumption) (by with_reducible assumption) (by decide +kernel) ?_) | ((with_reducible show DX _ (.Call _ [_, .Name _ _] _ _) _ _ _); first | refine dx_isE (by with_reducible assumption) ?_ | refine dx_isi ?_))) | ((with_reducible show DX _ (.Call (.Name "list" _) _ _ _) _ _ _); (first | refine dx_listA ?_ | refine dx_list ?_)) | ((with_reducible show DX _ (.Call (.Name "min" _) _ _ _) _ _ _); refine dx_min ?_) | ((with_reducible show DX _ (.Call (.Name "max" _) _ _ _) _ _ _); refine dx_max ?_) | ((with_reducible show DX _ (.Call (.Name "str" _) _ _ _) _ _ _); refine dx_cstr ?_) | ((with_reducible show DX _ (.Call (.Name "int" _) _ _ _) _ _ _); refine dx_cint ?_) | refine dx_call (by with_reducible assumption) ?_ | refine dx_make (by with_reducible assumption) ?_)))) | ((with_reducible show OpD _ _ _ _ _); (first | ((with_reducible show OpD (uAdd _) (.d (.int _)) (.d (.int _)) _ _); refine od_add ?_) | ((with_reducible show OpD (uAdd _) (.d (.str _)) (.d (.str _)) _ _); refine od_adds (by (first | (with_reducible assumption) | decide | ((try simp only [List.length_cons, List.length_nil, List.length_append, List.length_map, List.length_replicate]); omega) | (refine Nat.le_trans (cutL_len _ _ _) ?_; (try simp only [List.length_cons, List.length_nil, List.length_append, List.length_map, List.length_replicate]); omega) | (refine Nat.le_trans (Nat.add_le_add_left (cutL_len _ _ _) _) ?_; (try simp only [List.length_cons, List.length_nil, List.length_append, List.length_map, List.length_replicate]); omega) | (refine Nat.le_trans (Nat.add_le_add_right (cutL_len _ _ _) _) ?_; (try simp only [List.length_cons, List.length_nil, List.length_append, List.length_map, List.length_replicate]); omega))) ?_) | ((with_reducible show OpD (uAdd _) (.d (.tuple _)) (.d (.tuple _)) _ _); refine od_addt (by first | exact List.cons_ne_nil _ _ | decide) (by (first | (with_reducible assumption) | decide | ((try simp only [List.length_cons, List.length_nil, List.length_append, List.length_map, List.length_replicate]); omega) | (refine Nat.le_trans (cutL_len _ _ _) ?_; (try simp only [List.length_cons, List.length_nil, List.length_append, List.length_map, List.length_replicate]); omega) | (refine Nat.le_trans (Nat.add_le_add_left (cutL_len _ _ _) _) ?_; (try simp only [List.length_cons, List.length_nil, List.length_append, List.length_map, List.length_replicate]); omega) | (refine Nat.le_trans (Nat.add_le_add_right (cutL_len _ _ _) _) ?_; (try simp only [List.length_cons, List.length_nil, List.length_append, List.length_map, List.length_replicate]); omega))) ?_) | ((with_reducible show OpD (uAdd _) _ _ _ _); refine od_addl rfl rfl (by (first | (with_reducible assumption) | decide | ((try simp only [List.length_cons, List.length_nil, List.length_append, List.length_map, List.length_replicate]); omega) | (refine Nat.le_trans (cutL_len _ _ _) ?_; (try simp only [List.length_cons, List.length_nil, List.length_append, List.length_map, List.length_replicate]); omega) | (refine Nat.le_trans (Nat.add_le_add_left (cutL_len _ _ _) _) ?_; (try simp only [List.length_cons, List.length_nil, List.length_append, List.length_map, List.length_replicate]); omega) | (refine Nat.le_trans (Nat.add_le_add_right (cutL_len _ _ _) _) ?_; (try simp only [List.length_cons, List.length_nil, List.length_append, List.length_map, List.length_replicate]); omega))) ?_) | ((with_reducible show OpD (rI0 fun i j => .int (i - j)) _ _ _ _); refine od_sub ?_) | ((with_reducible show OpD uMul (.d (.int _)) (.d (.int _)) _ _); (first | refine od_mul (mul_r (by (first | omega | decide | (simp; omega)))) ?_ | refine od_mul (mul_l (by (first | omega | decide | (simp; omega)))) ?_ | refine od_mul (mul_ok (by (first | omega | decide | (simp; omega))) (by (first | omega | decide | (simp; omega)))) ?_)) | ((with_reducible show OpD (rI CDivW _) _ _ _ _); refine od_div (by (first | omega | decide | (simp; omega))) ?_) | ((with_reducible show OpD (rI CPow _) (.d (.int 10)) _ _ _); (first | (with_reducible refine od_p60 ?_) | (with_reducible refine od_p59 ?_) | (with_reducible refine od_p20 ?_) | (with_reducible refine od_p40 ?_) | (with_reducible refine od_p6 ?_) | (with_reducible refine od_p9 ?_) | (with_reducible refine od_p50 ?_) | (with_reducible refine od_p58 ?_) | (with_reducible refine od_p30 ?_) | (with_reducible refine od_p3 ?_))) | ((with_reducible show OpD (rI CPow _) _ _ _ _); refine od_pow (by decide) ?_) | ((with_reducible show OpD (rI0 fun i j => .bl (decide (i < j))) _ _ _ _); refine od_lt ?_) | ((with_reducible show OpD (rI0 fun i j => .bl (decide (i ≤ j))) _ _ _ _); refine od_le ?_) | ((with_reducible show OpD (rI0 fun i j => .bl (decide (j < i))) _ _ _ _); refine od_gt ?_) | ((with_reducible show OpD (rI0 fun i j => .bl (decide (j ≤ i))) _ _ _ _); refine od_ge ?_) | ((with_reducible show OpD (rI _ _) _ _ _ _); refine od_mod (by (first | omega | decide | (simp; omega))) ?_) | ((with_reducible show OpD (uEq _) _ _ _ _); (first | refine od_eq rfl rfl (by first | exact .int _ _ | exact .str _ _ | exact .bl _ _ | exact .nn | exact .ni _ | exact .in_ _ | exact .ns _ | exact .sn _) ?_ | refine od_eqS rfl rfl (by first | (with_reducible assumption) | decide +kernel | rfl) ?_ | refine od_eq rfl rfl (.dat (by first | (with_reducible assumption) | decide +kernel | rfl) (by first | (with_reducible assumption) | decide +kernel | rfl)) ?_)) | ((with_reducible show OpD (uNe _) _ _ _ _); (first | (with_reducible refine od_nenm ?_) | refine od_ne rfl rfl (by first | exact .int _ _ | exact .str _ _ | exact .bl _ _ | exact .nn | exact .ni _ | exact .in_ _ | exact .ns _ | exact .sn _) ?_ | refine od_neS rfl rfl (by first | (with_reducible assumption) | decide +kernel | rfl) ?_ | refine od_ne rfl rfl (.dat (by first | (with_reducible assumption) | decide +kernel | rfl) (by first | (with_reducible assumption) | decide +kernel | rfl)) ?_)) | ((with_reducible show OpD (uNin _) (.d (.str _)) (.d (.str _)) _ _); refine od_nins ?_) | ((with_reducible show OpD (uIn _) (.d (.str _)) (.d (.str _)) _ _); refine od_ins ?_) | ((with_reducible show OpD (uIn _) (.d _) (.r (.ref _)) _ _); refine od_inO (by ((repeat with_reducible first | exact Pick.zero | apply Pick.succ); (first | (all_goals fail) | fail))) rfl (by with_reducible assumption) ?_) | ((with_reducible show OpD (uNin _) (.d _) (.r (.ref _)) _ _); refine od_ninO (by ((repeat with_reducible first | exact Pick.zero | apply Pick.succ); (first | (all_goals fail) | fail))) rfl (by with_reducible assumption) ?_) | ((with_reducible show OpD uIs _ _ _ _); (first | (with_reducible refine od_isnm ?_) | refine od_is rfl ?_)) | ((with_reducible show OpD uIsn _ _ _ _); (first | (with_reducible refine od_isnnm ?_) | refine od_isn rfl ?_)) | ((with_reducible show OpD (rIx _) (.r (.ref _)) _ _ _); refine od_ixo (by ((repeat with_reducible first | exact Pick.zero | apply Pick.succ); (first | (all_goals fail) | fail))) (by first | rfl | with_reducible assumption) (by exact fun _ z => nomatch z) ?_) | ((with_reducible show OpD (rIx _) (.d (.str _)) _ _ _); refine od_ixt (by (first | (with_reducible assumption) | decide | ((try simp only [List.length_cons, List.length_nil, List.length_append, List.length_map, List.length_replicate]); omega) | (refine Nat.le_trans (cutL_len _ _ _) ?_; (try simp only [List.length_cons, List.length_nil, List.length_append, List.length_map, List.length_replicate]); omega) | (refine Nat.le_trans (Nat.add_le_add_left (cutL_len _ _ _) _) ?_; (try simp only [List.length_cons, List.length_nil, List.length_append, List.length_map, List.length_replicate]); omega) | (refine Nat.le_trans (Nat.add_le_add_right (cutL_len _ _ _) _) ?_; (try simp only [List.length_cons, List.length_nil, List.length_append, List.length_map, List.length_replicate]); omega))) (by with_reducible assumption) ?_) | ((with_reducible show OpD (rIx _) _ _ _ _); refine od_ixs rfl (by first | rfl | with_reducible assumption) ?_))) | ((with_reducible show DS _ _ _ _ _); (first | ((with_reducible show DS _ (.Assign [.Name _ _] _ _) _ _ _); (fail_if_success (with_reducible show DS _ (.Assign _ (.List [] _) _) _ _ _)); (fail_if_success (with_reducible show DS _ (.Assign _ (.ListComp _ _ _ _) _) _ _ _)); refine ds_set ?_) | ((with_reducible show DS _ (.Assign [.Attribute _ _ _] _ _) _ _ _); (fail_if_success (with_reducible show DS _ (.Assign _ (.List _ _) _) _ _ _)); (fail_if_success (with_reducible show DS _ (.Assign _ (.ListComp _ _ _ _) _) _ _ _)); refine ds_fld ?_) | ((with_reducible show DS _ (.Assign [.Subscript _ _ _] _ _) _ _ _); (fail_if_success (with_reducible show DS _ (.Assign [.Subscript (.Subscript _ _ _) _ _] _ _) _ _ _)); refine ds_seti ?_) | ((with_reducible show DS _ (.Return (some _) _) _ _ _); refine ds_ret ?_) | ((with_reducible show DS _ (.Return none _) _ _ _); refine ds_retN ?_) | ((with_reducible show DS _ (.If _ _ _ _) _ _ _); refine ds_if ?_) | ((with_reducible show DS _ (.Expr (.Constant _ _ _) _) _ _ _); refine ds_doc ?_) | ((with_reducible show DS _ (.Expr _ _) _ _ _); refine ds_expr ?_) | ((with_reducible show DS _ (.Pass _) _ _ _); refine ds_pass ?_) | ((with_reducible show DS _ (.Break _) _ _ _); refine ds_break ?_) | ((with_reducible show DS _ (.Continue _) _ _ _); refine ds_continue ?_) | ((with_reducible show DS _ (.Raise (some (.Call (.Name _ _) [.Constant (.str _) _ _] [] _)) none _) _ _ _); refine ds_raise (by with_reducible assumption) (by decide +kernel) (by decide +kernel) ?_))) | ((with_reducible show DSs _ _ _ _ _); (first | ((with_reducible show DSs _ (_ :: _) _ _ _); refine dss_cons ?_) | ((with_reducible show DSs _ [] _ _ _); refine dss_nil ?_))) | ((with_reducible show DT _ _ _ _ _); (first | ((with_reducible show DT _ (.BoolOp _ _ _) _ _ _); refine dt_bool ?_) | ((with_reducible show DT _ (.UnaryOp .Not _ _) _ _ _); refine dt_not ?_) | ((with_reducible show DT _ (.Compare _ [_] _ _) _ _ _); (first | ((with_reducible show DT _ (.Compare _ [.Eq] [_] _) _ _ _); refine dt_cmp cEq (nomark _) ?_) | ((with_reducible show DT _ (.Compare _ [.NotEq] [_] _) _ _ _); refine dt_cmp cNe (nomark _) ?_) | ((with_reducible show DT _ (.Compare _ [.Lt] [_] _) _ _ _); refine dt_cmp op_lt (nomark _) ?_) | ((with_reducible show DT _ (.Compare _ [.LtE] [_] _) _ _ _); refine dt_cmp op_le (nomark _) ?_) | ((with_reducible show DT _ (.Compare _ [.Gt] [_] _) _ _ _); refine dt_cmp op_gt (nomark _) ?_) | ((with_reducible show DT _ (.Compare _ [.GtE] [_] _) _ _ _); refine dt_cmp op_ge (nomark _) ?_) | ((with_reducible show DT _ (.Compare _ [.Is] [_] _) _ _ _); refine dt_cmp op_uIs (nomark _) ?_) | ((with_reducible show DT _ (.Compare _ [.IsNot] [_] _) _ _ _); refine dt_cmp op_uIsn (nomark _) ?_) | ((with_reducible show DT _ (.Compare _ [.In] [_] _) _ _ _); refine dt_cmp cIn (rfl) ?_) | ((with_reducible show DT _ (.Compare _ [.NotIn] [_] _) _ _ _); refine dt_cmp cNin (rfl) ?_))) | ((with_reducible show DT _ (.Compare _ [_, _] _ _) _ _ _); (first | ((with_reducible show DT _ (.Compare _ [.LtE, .Lt] [_, _] _) _ _ _); refine dt_chain op_le op_lt ?_) | ((with_reducible show DT _ (.Compare _ [.LtE, .LtE] [_, _] _) _ _ _); refine dt_chain op_le op_le ?_))) | ((with_reducible show DT _ _ _ _ _); refine dt_tru ?_))) | ((with_reducible show DW _ _ _ _ _); (first | ((with_reducible show DW _ (.BoolOp .And [_] _) _ _ _); refine dw_and1 ?_) | ((with_reducible show DW _ (.BoolOp .Or [_] _) _ _ _); refine dw_or1 ?_) | ((with_reducible show DW _ (.BoolOp .And _ _) _ _ _); refine dw_and ?_) | ((with_reducible show DW _ (.BoolOp .Or _ _) _ _ _); refine dw_or ?_))) | ((with_reducible show DA _ _ _ _ _); (first | ((with_reducible show DA _ (_ :: _) _ _ _); refine da_cons ?_) | ((with_reducible show DA _ [] _ _ _); refine da_nil ?_))) | ((with_reducible show if _ = true then _ else _); (first | (with_reducible refine ite_tt ?_) | (with_reducible refine ite_ff ?_) | (with_reducible refine ite_nt ?_) | (with_reducible refine ite_nf ?_) | ((with_reducible show if decide _ = true then _ else _); first | refine ite_dt (by (first | (with_reducible assumption) | omega | decide +kernel | ((simp only [List.length_cons, List.length_nil, List.length_map, List.length_append]); omega) | ((simp only [List.length_cons, List.length_nil, List.length_map, List.length_append]); (first | (all_goals fail) | fail)))) ?_ | refine ite_df (by (first | (with_reducible assumption) | omega | decide +kernel | ((simp only [List.length_cons, List.length_nil, List.length_map, List.length_append]); omega) | ((simp only [List.length_cons, List.length_nil, List.length_map, List.length_append]); (first | (all_goals fail) | fail)))) ?_) | ((with_reducible show if (!decide _) = true then _ else _); first | refine ite_ndf (by (first | (with_reducible assumption) | omega | decide +kernel | ((simp only [List.length_cons, List.length_nil, List.length_map, List.length_append]); omega) | ((simp only [List.length_cons, List.length_nil, List.length_map, List.length_append]); (first | (all_goals fail) | fail)))) ?_ | refine ite_ndt (by (first | (with_reducible assumption) | omega | decide +kernel | ((simp only [List.length_cons, List.length_nil, List.length_map, List.length_append]); omega) | ((simp only [List.length_cons, List.length_nil, List.length_map, List.length_append]); (first | (all_goals fail) | fail)))) ?_) | (with_reducible refine ite_nn ?_) | ((with_reducible show if PyData.eqv _ _ = true then _ else _); first | refine ite_t (by decide +kernel) ?_ | refine ite_f (by decide +kernel) ?_ | refine ite_t rfl ?_ | refine ite_f rfl ?_) | ((with_reducible show if (!PyData.eqv _ _) = true then _ else _); first | refine ite_t (by decide +kernel) ?_ | refine ite_f (by decide +kernel) ?_ | refine ite_t rfl ?_ | refine ite_f rfl ?_) | ((with_reducible show if wholeD (.int _) = true then _ else _); refine ite_t rfl ?_) | ((with_reducible show if (!wholeD (.int _)) = true then _ else _); refine ite_f rfl ?_) | ((with_reducible show if isD _ _ = true then _ else _); first | refine ite_t rfl ?_ | refine ite_f rfl ?_) | ((with_reducible show if (!isD _ _) = true then _ else _); first | refine ite_t rfl ?_ | refine ite_f rfl ?_))) | ((with_reducible show Exists _); (first | (with_reducible refine me_tab (by ((repeat with_reducible first | exact Pick.zero | apply Pick.succ); (first | (all_goals fail) | fail))) (by decide +kernel) ?_) | ((with_reducible show ∃ i ρ', SetS _ _ _ i _ ρ' ∧ _); refine ⟨_, _, by ((repeat with_reducible first | exact SetS.zero | apply SetS.succ); (first | (all_goals fail) | fail)), ?_⟩) | (with_reducible refine ex_list rfl ?_) | ((with_reducible show ∃ ds, Sl.asSeq _ = some ds ∧ _); refine ex_seq rfl ?_) | ((with_reducible show ∃ ds, Datas _ ds ∧ _); refine ex_datas (by ((repeat with_reducible first | exact datas_nil | apply datas_cons); (first | (all_goals fail) | fail))) (by first | exact Nat.le_of_ble_eq_true rfl | (first | (with_reducible assumption) | decide | ((try simp only [List.length_cons, List.length_nil, List.length_append, List.length_map, List.length_replicate]); omega) | (refine Nat.le_trans (cutL_len _ _ _) ?_; (try simp only [List.length_cons, List.length_nil, List.length_append, List.length_map, List.length_replicate]); omega) | (refine Nat.le_trans (Nat.add_le_add_left (cutL_len _ _ _) _) ?_; (try simp only [List.length_cons, List.length_nil, List.length_append, List.length_map, List.length_replicate]); omega) | (refine Nat.le_trans (Nat.add_le_add_right (cutL_len _ _ _) _) ?_; (try simp only [List.length_cons, List.length_nil, List.length_append, List.length_map, List.length_replicate]); omega))) ?_) | ((with_reducible show ∃ C p fs g sl, _ = Sl.r (.ref p) ∧ Pick _ (insM C p fs) g ∧ FldC _ C _ ∧ FldAt fs _ sl ∧ _); refine ex_fld (by ((repeat with_reducible first | exact Pick.zero | apply Pick.succ); (first | (all_goals fail) | fail))) (fldc (by with_reducible assumption) (by decide +kernel)) (by ((repeat with_reducible first | exact FldAt.zero | apply FldAt.succ); (first | (all_goals fail) | fail))) (by (simp only [List.map_cons, List.map_nil]); decide +kernel) (by exact fun _ z => nomatch z) ?_) | ((with_reducible show ∃ C p fs g fs2, _ = Sl.r (.ref p) ∧ Pick _ (insM C p fs) g ∧ FldC _ C _ ∧ (FldSet fs _ _ fs2 ∨ _) ∧ _); first | refine ex_fset (by ((repeat with_reducible first | exact Pick.zero | apply Pick.succ); (first | (all_goals fail) | fail))) (fldc (by with_reducible assumption) (by decide +kernel)) (by ((repeat with_reducible first | exact FldSet.zero | apply FldSet.succ); (first | (all_goals fail) | fail))) (by (simp only [List.map_cons, List.map_nil]); decide +kernel) (by exact Nat.le_of_ble_eq_true rfl) ?_ | refine ex_fnew (by ((repeat with_reducible first | exact Pick.zero | apply Pick.succ); (first | (all_goals fail) | fail))) (fldc (by with_reducible assumption) (by decide +kernel)) (by (simp only [List.map_cons, List.map_nil]); decide +kernel) (by (simp only [List.map_cons, List.map_nil]); decide +kernel) (by exact Nat.le_of_ble_eq_true rfl) ?_) | ((with_reducible show ∃ p ss f k j, _ = Sl.r (.ref p) ∧ _ = Sl.d (.int k) ∧ _); refine ex_seti (by ((repeat with_reducible first | exact Pick.zero | apply Pick.succ); (first | (all_goals fail) | fail))) (by first | with_reducible assumption | rfl) ?_) | (with_reducible refine ex_frz (by ((repeat with_reducible first | exact Pick.zero | apply Pick.succ); (first | (all_goals fail) | fail))) ?_) | (with_reducible refine ex_own (by ((repeat with_reducible first | exact Pick.zero | apply Pick.succ); (first | (all_goals fail) | fail))) ?_) | (with_reducible refine ex_app (by ((repeat with_reducible first | exact Pick.zero | apply Pick.succ); (first | (all_goals fail) | fail))) (by (first | (with_reducible assumption) | decide | ((try simp only [List.length_cons, List.length_nil, List.length_append, List.length_map, List.length_replicate]); omega) | (refine Nat.le_trans (cutL_len _ _ _) ?_; (try simp only [List.length_cons, List.length_nil, List.length_append, List.length_map, List.length_replicate]); omega) | (refine Nat.le_trans (Nat.add_le_add_left (cutL_len _ _ _) _) ?_; (try simp only [List.length_cons, List.length_nil, List.length_append, List.length_map, List.length_replicate]); omega) | (refine Nat.le_trans (Nat.add_le_add_right (cutL_len _ _ _) _) ?_; (try simp only [List.length_cons, List.length_nil, List.length_append, List.length_map, List.length_replicate]); omega))) ?_) | ((with_reducible show ∃ ys, RefsE _ _ ys ∧ _); (first | refine ex_refs (w := false) (by ((repeat with_reducible first | exact RefsE.nil | apply RefsE.cons); (first | (all_goals fail) | fail))) (by decide +kernel) ?_ | refine ex_refs (w := true) (by ((repeat with_reducible first | exact RefsE.nil | apply RefsE.cons); (first | (all_goals fail) | fail))) (by decide +kernel) ?_)) | ((with_reducible show ∃ rs', Ent [_] (rs' ++ [_]) ∧ _); (refine end_ex ?_; with_reducible assumption)) | ((with_reducible show ∃ ρ', SetS _ _ _ _ _ ρ' ∧ _); refine ⟨_, by ((repeat with_reducible first | exact SetS.zero | apply SetS.succ); (first | (all_goals fail) | fail)), ?_⟩) | (with_reducible refine ex_rep (by ((repeat with_reducible first | exact Pick.zero | apply Pick.succ); (first | (all_goals fail) | fail))) (by (first | omega | decide | (simp; omega))) ?_) | (with_reducible refine ex_dat ?_) | (with_reducible refine ex_int ?_) | (with_reducible refine ex_str ?_) | (with_reducible refine ex_dic (by ((repeat with_reducible first | exact Pick.zero | apply Pick.succ); (first | (all_goals fail) | fail))) ?_) | (with_reducible refine ex_din1 (by ((repeat with_reducible first | exact Pick.zero | apply Pick.succ); (first | (all_goals fail) | fail))) ?_) | (with_reducible refine ex_din2 (by ((repeat with_reducible first | exact Pick.zero | apply Pick.succ); (first | (all_goals fail) | fail))) ?_) | (with_reducible refine ex_dlen (by ((repeat with_reducible first | exact Pick.zero | apply Pick.succ); (first | (all_goals fail) | fail))) ?_) | ((with_reducible show ∃ p kvs f k, _ = Sl.r (.ref p) ∧ _ = Sl.d (keyD k) ∧ Pick _ (dictM p kvs) f ∧ kvs.length ≤ _ ∧ _); first | refine ex_dputI (by ((repeat with_reducible first | exact Pick.zero | apply Pick.succ); (first | (all_goals fail) | fail))) (by (first | (with_reducible assumption) | decide | ((try simp only [List.length_cons, List.length_nil, List.length_append, List.length_map, List.length_replicate]); omega) | (refine Nat.le_trans (cutL_len _ _ _) ?_; (try simp only [List.length_cons, List.length_nil, List.length_append, List.length_map, List.length_replicate]); omega) | (refine Nat.le_trans (Nat.add_le_add_left (cutL_len _ _ _) _) ?_; (try simp only [List.length_cons, List.length_nil, List.length_append, List.length_map, List.length_replicate]); omega) | (refine Nat.le_trans (Nat.add_le_add_right (cutL_len _ _ _) _) ?_; (try simp only [List.length_cons, List.length_nil, List.length_append, List.length_map, List.length_replicate]); omega))) ?_ | refine ex_dputS (by ((repeat with_reducible first | exact Pick.zero | apply Pick.succ); (first | (all_goals fail) | fail))) (by (first | (with_reducible assumption) | decide | ((try simp only [List.length_cons, List.length_nil, List.length_append, List.length_map, List.length_replicate]); omega) | (refine Nat.le_trans (cutL_len _ _ _) ?_; (try simp only [List.length_cons, List.length_nil, List.length_append, List.length_map, List.length_replicate]); omega) | (refine Nat.le_trans (Nat.add_le_add_left (cutL_len _ _ _) _) ?_; (try simp only [List.length_cons, List.length_nil, List.length_append, List.length_map, List.length_replicate]); omega) | (refine Nat.le_trans (Nat.add_le_add_right (cutL_len _ _ _) _) ?_; (try simp only [List.length_cons, List.length_nil, List.length_append, List.length_map, List.length_replicate]); omega))) ?_) | ((with_reducible show ∃ p kvs f k, _ = Sl.r (.ref p) ∧ _ = Sl.d (keyD k) ∧ Pick _ (dictM p kvs) f ∧ _); first | refine ex_din1 (by ((repeat with_reducible first | exact Pick.zero | apply Pick.succ); (first | (all_goals fail) | fail))) ?_ | refine ex_din2 (by ((repeat with_reducible first | exact Pick.zero | apply Pick.succ); (first | (all_goals fail) | fail))) ?_) | ((with_reducible show ∃ kvs f k s, _ = Sl.d (keyD k) ∧ Pick _ (dictM _ kvs) f ∧ valS kvs k = some s ∧ _); first | refine ex_dpopI (by ((repeat with_reducible first | exact Pick.zero | apply Pick.succ); (first | (all_goals fail) | fail))) (by with_reducible assumption) (by exact fun _ z => nomatch z) ?_ | refine ex_dpopS (by ((repeat with_reducible first | exact Pick.zero | apply Pick.succ); (first | (all_goals fail) | fail))) (by with_reducible assumption) (by exact fun _ z => nomatch z) ?_) | ((with_reducible show ∃ p kvs f k s, _ = Sl.r (.ref p) ∧ _ = Sl.d (keyD k) ∧ Pick _ (dictM p kvs) f ∧ _); first | refine ex_dget (by ((repeat with_reducible first | exact Pick.zero | apply Pick.succ); (first | (all_goals fail) | fail))) (by with_reducible assumption) (by exact fun _ z => nomatch z) ?_ | refine ex_dgetS (by ((repeat with_reducible first | exact Pick.zero | apply Pick.succ); (first | (all_goals fail) | fail))) (by with_reducible assumption) (by exact fun _ z => nomatch z) ?_))) | (first | (with_reducible refine kt ?_) | ((with_reducible show ∀ _ : Addr, _); intro q) | ((with_reducible show Le _ _ ∧ _ = _); exact ⟨by ((repeat with_reducible first | exact Le.nil | apply Le.eq | apply Le.un); (first | (all_goals fail) | fail)), rfl⟩) | ((with_reducible show CallEnd _ _ _ _ _ _); (first | ((with_reducible refine ce_tab (by ((repeat with_reducible first | exact Pick.zero | apply Pick.succ); (first | (all_goals fail) | fail))) ?_); (first | refine ⟨_, rfl, rfl, by (first | (with_reducible trivial) | (with_reducible assumption) | omega | (exact ⟨by with_reducible assumption, by with_reducible assumption⟩)), ?_⟩ | refine ⟨_, _, rfl, rfl, by (first | (with_reducible trivial) | (with_reducible assumption) | omega | (exact ⟨by with_reducible assumption, by with_reducible assumption⟩)), ?_⟩ | refine ⟨_, _, _, rfl, rfl, by (first | (with_reducible trivial) | (with_reducible assumption) | omega | (exact ⟨by with_reducible assumption, by with_reducible assumption⟩)), ?_⟩ | refine ⟨_, _, _, _, rfl, rfl, by (first | (with_reducible trivial) | (with_reducible assumption) | omega | (exact ⟨by with_reducible assumption, by with_reducible assumption⟩)), ?_⟩ | refine ⟨_, _, _, _, _, rfl, rfl, by (first | (with_reducible trivial) | (with_reducible assumption) | omega | (exact ⟨by with_reducible assumption, by with_reducible assumption⟩)), ?_⟩ | refine ⟨_, _, _, _, _, _, rfl, rfl, by (first | (with_reducible trivial) | (with_reducible assumption) | omega | (exact ⟨by with_reducible assumption, by with_reducible assumption⟩)), ?_⟩ | refine ⟨_, _, _, _, _, _, _, rfl, rfl, by (first | (with_reducible trivial) | (with_reducible assumption) | omega | (exact ⟨by with_reducible assumption, by with_reducible assumption⟩)), ?_⟩ | refine ⟨_, _, _, _, _, _, _, _, rfl, rfl, by (first | (with_reducible trivial) | (with_reducible assumption) | omega | (exact ⟨by with_reducible assumption, by with_reducible assumption⟩)), ?_⟩)) | (refine ce_inl ?_; first | refine ⟨_, rfl, rfl, by (first | (with_reducible trivial) | (with_reducible assumption) | omega | (exact ⟨by with_reducible assumption, by with_reducible assumption⟩)), ?_⟩ | refine ⟨_, _, rfl, rfl, by (first | (with_reducible trivial) | (with_reducible assumption) | omega | (exact ⟨by with_reducible assumption, by with_reducible assumption⟩)), ?_⟩ | refine ⟨_, _, _, rfl, rfl, by (first | (with_reducible trivial) | (with_reducible assumption) | omega | (exact ⟨by with_reducible assumption, by with_reducible assumption⟩)), ?_⟩ | refine ⟨_, _, _, _, rfl, rfl, by (first | (with_reducible trivial) | (with_reducible assumption) | omega | (exact ⟨by with_reducible assumption, by with_reducible assumption⟩)), ?_⟩ | refine ⟨_, _, _, _, _, rfl, rfl, by (first | (with_reducible trivial) | (with_reducible assumption) | omega | (exact ⟨by with_reducible assumption, by with_reducible assumption⟩)), ?_⟩ | refine ⟨_, _, _, _, _, _, rfl, rfl, by (first | (with_reducible trivial) | (with_reducible assumption) | omega | (exact ⟨by with_reducible assumption, by with_reducible assumption⟩)), ?_⟩))) | ((with_reducible show CallEnd0 _ _ _ _); (first | ((with_reducible refine ce0_tab (by ((repeat with_reducible first | exact Pick.zero | apply Pick.succ); (first | (all_goals fail) | fail))) ?_); (first | refine ⟨_, rfl, rfl, by (first | (with_reducible trivial) | (with_reducible assumption) | omega | (exact ⟨by with_reducible assumption, by with_reducible assumption⟩)), ?_⟩ | refine ⟨_, _, rfl, rfl, by (first | (with_reducible trivial) | (with_reducible assumption) | omega | (exact ⟨by with_reducible assumption, by with_reducible assumption⟩)), ?_⟩ | refine ⟨_, _, _, rfl, rfl, by (first | (with_reducible trivial) | (with_reducible assumption) | omega | (exact ⟨by with_reducible assumption, by with_reducible assumption⟩)), ?_⟩ | refine ⟨_, _, _, _, rfl, rfl, by (first | (with_reducible trivial) | (with_reducible assumption) | omega | (exact ⟨by with_reducible assumption, by with_reducible assumption⟩)), ?_⟩ | refine ⟨_, _, _, _, _, rfl, rfl, by (first | (with_reducible trivial) | (with_reducible assumption) | omega | (exact ⟨by with_reducible assumption, by with_reducible assumption⟩)), ?_⟩ | refine ⟨_, _, _, _, _, _, rfl, rfl, by (first | (with_reducible trivial) | (with_reducible assumption) | omega | (exact ⟨by with_reducible assumption, by with_reducible assumption⟩)), ?_⟩ | refine ⟨_, _, _, _, _, _, _, rfl, rfl, by (first | (with_reducible trivial) | (with_reducible assumption) | omega | (exact ⟨by with_reducible assumption, by with_reducible assumption⟩)), ?_⟩ | refine ⟨_, _, _, _, _, _, _, _, rfl, rfl, by (first | (with_reducible trivial) | (with_reducible assumption) | omega | (exact ⟨by with_reducible assumption, by with_reducible assumption⟩)), ?_⟩)))) | ((with_reducible show (bodyPost _ _).rt _ _); (first | (refine end_rt ?_; with_reducible assumption) | refine end_rtT (decide_eq_true (by omega)) (by with_reducible assumption) | refine end_rtT rfl (by with_reducible assumption))) | ((with_reducible show TrD (.d (.bool _)) _ _); refine tr_bool ?_) | ((with_reducible show TrD (.d .none) _ _); refine tr_none ?_) | ((with_reducible show TrD (.d (.int _)) _ _); refine tr_int ?_) | ((with_reducible show TrD (.d (.list _)) _ _); refine tr_list ?_) | ((with_reducible show TrD (.d (.tuple _)) _ _); refine tr_tuple ?_) | ((with_reducible show TrD (.r (.ref _)) _ _); (first | refine tr_own (by ((repeat with_reducible first | exact Pick.zero | apply Pick.succ); (first | (all_goals fail) | fail))) ?_ | refine tr_dict (by ((repeat with_reducible first | exact Pick.zero | apply Pick.succ); (first | (all_goals fail) | fail))) ?_)) | ((with_reducible show CaD (rIsi _) _ _ _); (first | refine cd_isiT (by decide) rfl rfl ?_ | refine cd_isiF (by decide) rfl rfl ?_ | refine cd_isi (by decide) rfl ?_)) | ((with_reducible show CaD _ [.d (.int _), .d (.int _)] _ _); (first | refine cd_min ?_ | refine cd_max ?_)) | ((with_reducible show LenD (.d (.str _)) _ _); refine ld_str (by (first | (with_reducible assumption) | decide | ((try simp only [List.length_cons, List.length_nil, List.length_append, List.length_map, List.length_replicate]); omega) | (refine Nat.le_trans (cutL_len _ _ _) ?_; (try simp only [List.length_cons, List.length_nil, List.length_append, List.length_map, List.length_replicate]); omega) | (refine Nat.le_trans (Nat.add_le_add_left (cutL_len _ _ _) _) ?_; (try simp only [List.length_cons, List.length_nil, List.length_append, List.length_map, List.length_replicate]); omega) | (refine Nat.le_trans (Nat.add_le_add_right (cutL_len _ _ _) _) ?_; (try simp only [List.length_cons, List.length_nil, List.length_append, List.length_map, List.length_replicate]); omega))) ?_) | ((with_reducible show LenD (.r (.ref _)) _ _); refine ld_own (by ((repeat with_reducible first | exact Pick.zero | apply Pick.succ); (first | (all_goals fail) | fail))) ?_) | ((with_reducible show LenD _ _ _); refine ld_seq rfl ?_) | ((with_reducible show SlD _ (.d (.list _)) _ _ _ _); refine sd_list ?_) | ((with_reducible show SlD _ (.n _) _ _ _ _); refine sd_list ?_) | ((with_reducible show SlD _ (.r (.ref _)) _ _ _ _); refine sd_own (by ((repeat with_reducible first | exact Pick.zero | apply Pick.succ); (first | (all_goals fail) | fail))) (fun q => ?_)) | ((with_reducible show SlD _ (.d (.str _)) _ _ _ _); refine sd_str (by (first | (with_reducible assumption) | decide | ((try simp only [List.length_cons, List.length_nil, List.length_append, List.length_map, List.length_replicate]); omega) | (refine Nat.le_trans (cutL_len _ _ _) ?_; (try simp only [List.length_cons, List.length_nil, List.length_append, List.length_map, List.length_replicate]); omega) | (refine Nat.le_trans (Nat.add_le_add_left (cutL_len _ _ _) _) ?_; (try simp only [List.length_cons, List.length_nil, List.length_append, List.length_map, List.length_replicate]); omega) | (refine Nat.le_trans (Nat.add_le_add_right (cutL_len _ _ _) _) ?_; (try simp only [List.length_cons, List.length_nil, List.length_append, List.length_map, List.length_replicate]); omega))) ?_) | ((with_reducible show SlD _ (.d (.tuple [_, _, _, _])) none (some 2) _ _); refine sd_t42 ?_) | ((with_reducible show SlD _ (.d (.tuple [_, _, _, _, _, _])) (some 2) (some 5) _ _); refine sd_t625 ?_) | ((with_reducible show SlD _ (.d (.tuple [_, _, _, _])) (some 2) none _ _); refine sd_t4f2 ?_) | ((with_reducible show SlD _ (.d (.tuple _)) _ _ _ _); refine sd_tup (by first | decide | ((simp only [List.length_cons, List.length_nil]); decide +kernel)) ?_) | ((with_reducible show DO _ none _ _ _); refine do_none ?_) | ((with_reducible show DO _ (some _) _ _ _); refine do_some ?_) | (with_reducible refine ex_eqr ?_) | ((with_reducible show LsD _ _ _); first | refine ls_s (by (first | (with_reducible assumption) | decide | ((try simp only [List.length_cons, List.length_nil, List.length_append, List.length_map, List.length_replicate]); omega) | (refine Nat.le_trans (cutL_len _ _ _) ?_; (try simp only [List.length_cons, List.length_nil, List.length_append, List.length_map, List.length_replicate]); omega) | (refine Nat.le_trans (Nat.add_le_add_left (cutL_len _ _ _) _) ?_; (try simp only [List.length_cons, List.length_nil, List.length_append, List.length_map, List.length_replicate]); omega) | (refine Nat.le_trans (Nat.add_le_add_right (cutL_len _ _ _) _) ?_; (try simp only [List.length_cons, List.length_nil, List.length_append, List.length_map, List.length_replicate]); omega))) ?_ | refine ls_d rfl ?_) | ((with_reducible show LiD _ _ _); first | refine li_o (by ((repeat with_reducible first | exact Pick.zero | apply Pick.succ); (first | (all_goals fail) | fail))) (fun q => ?_) | refine li_d rfl (fun q => ?_)) | ((with_reducible show _ < 1920 ∧ _); refine ⟨log2_ok (by (first | omega | decide | (simp; omega))), ?_⟩) | ((with_reducible show CaD (rIsE _ _ _) [_, .r (.ty _)] _ _); refine cd_isEV (by with_reducible assumption) (by decide +kernel) ?_) | ((with_reducible show CaD (rIsE _ _ _) _ _ _); (first | refine cd_isE1 (r := true) (by with_reducible assumption) (by decide +kernel) (by decide +kernel) (by decide +kernel) ?_ | refine cd_isE1 (r := false) (by with_reducible assumption) (by decide +kernel) (by decide +kernel) (by decide +kernel) ?_)))) | dsimp only [List.nil_append, List.cons_append, Sl.plain])))
local macro_rules | `(tactic| walk_at "auto") => `(tactic| (repeat' (first | (first | ((with_reducible show DX _ _ _ _ _); (first | ((with_reducible show DX _ (.Name _ _) _ _ _); (first | refine dx_name (by ((repeat with_reducible first | exact Slot.zero | apply Slot.succ); (first | (all_goals fail) | fail))) (by exact fun e => nomatch e) ?_ | refine dx_gint (by with_reducible assumption) ?_ | refine dx_gstr (by with_reducible assumption) ?_ | refine dx_gcls (by with_reducible assumption) (by decide +kernel) ?_ | ((with_reducible show DX _ (.Name "int" _) _ _ _); refine dx_tint ?_) | ((with_reducible show DX _ (.Name "bool" _) _ _ _); refine dx_tbool ?_) | ((with_reducible show DX _ (.Name "str" _) _ _ _); refine dx_tstr ?_) | ((with_reducible show DX _ (.Name "list" _) _ _ _); refine dx_tlist ?_) | ((with_reducible show DX _ (.Name "tuple" _) _ _ _); refine dx_ttuple ?_) | ((with_reducible show DX _ (.Name "ValueError" _) _ _ _); refine dx_tVE (by with_reducible assumption) ?_))) | ((with_reducible show DX _ (.Constant _ _ _) _ _ _); (first | ((with_reducible show DX _ (.Constant (.int _) _ _) _ _ _); refine dx_int ?_) | ((with_reducible show DX _ (.Constant (.str _) _ _) _ _ _); refine dx_str ?_) | ((with_reducible show DX _ (.Constant (.bool _) _ _) _ _ _); refine dx_bl ?_) | refine dx_non ?_)) | ((with_reducible show DX _ (.BinOp (.List [_] _) .Mult _ _) _ _ _); refine dx_rep ?_) | ((with_reducible show DX _ (.BinOp _ _ _ _) _ _ _); (first | ((with_reducible show DX _ (.BinOp _ .Add _ _) _ _ _); refine dx_bin cAdd ?_) | ((with_reducible show DX _ (.BinOp _ .Sub _ _) _ _ _); refine dx_bin op_sub ?_) | ((with_reducible show DX _ (.BinOp _ .Mult _ _) _ _ _); refine dx_bin op_uMul ?_) | ((with_reducible show DX _ (.BinOp _ .FloorDiv _ _) _ _ _); refine dx_bin op_fdivW ?_) | ((with_reducible show DX _ (.BinOp _ .Mod _ _) _ _ _); refine dx_bin op_mod ?_) | ((with_reducible show DX _ (.BinOp _ .Pow _ _) _ _ _); refine dx_bin op_pow ?_))) | ((with_reducible show DX _ (.Compare _ [_] _ _) _ _ _); (first | ((with_reducible show DX _ (.Compare _ [.Eq] [_] _) _ _ _); refine dx_cmp cEq (nomark _) ?_) | ((with_reducible show DX _ (.Compare _ [.NotEq] [_] _) _ _ _); refine dx_cmp cNe (nomark _) ?_) | ((with_reducible show DX _ (.Compare _ [.Lt] [_] _) _ _ _); refine dx_cmp op_lt (nomark _) ?_) | ((with_reducible show DX _ (.Compare _ [.LtE] [_] _) _ _ _); refine dx_cmp op_le (nomark _) ?_) | ((with_reducible show DX _ (.Compare _ [.Gt] [_] _) _ _ _); refine dx_cmp op_gt (nomark _) ?_) | ((with_reducible show DX _ (.Compare _ [.GtE] [_] _) _ _ _); refine dx_cmp op_ge (nomark _) ?_) | ((with_reducible show DX _ (.Compare _ [.Is] [_] _) _ _ _); refine dx_cmp op_uIs (nomark _) ?_) | ((with_reducible show DX _ (.Compare _ [.IsNot] [_] _) _ _ _); refine dx_cmp op_uIsn (nomark _) ?_) | ((with_reducible show DX _ (.Compare _ [.In] [_] _) _ _ _); refine dx_cmp cIn (rfl) ?_) | ((with_reducible show DX _ (.Compare _ [.NotIn] [_] _) _ _ _); refine dx_cmp cNin (rfl) ?_))) | ((with_reducible show DX _ (.Compare _ [_, _] _ _) _ _ _); (first | ((with_reducible show DX _ (.Compare _ [.LtE, .Lt] [_, _] _) _ _ _); refine dx_chain op_le op_lt ?_) | ((with_reducible show DX _ (.Compare _ [.LtE, .LtE] [_, _] _) _ _ _); refine dx_chain op_le op_le ?_))) | ((with_reducible show DX _ (.BoolOp _ [_] _) _ _ _); refine dx_one ?_) | ((with_reducible show DX _ (.BoolOp .And _ _) _ _ _); refine dx_and ?_) | ((with_reducible show DX _ (.BoolOp .Or _ _) _ _ _); refine dx_or ?_) | ((with_reducible show DX _ (.UnaryOp .Not _ _) _ _ _); refine dx_not ?_) | ((with_reducible show DX _ (.UnaryOp _ _ _) _ _ _); refine dx_neg ?_) | ((with_reducible show DX _ (.Subscript _ (.Slice _ _ _ _) _) _ _ _); refine dx_slice ?_) | ((with_reducible show DX _ (.Subscript _ _ _) _ _ _); refine dx_ix cIx ?_) | ((with_reducible show DX _ (.Tuple _ _ _) _ _ _); refine dx_tup ?_) | ((with_reducible show DX _ (.IfExp _ _ _ _) _ _ _); refine dx_ifExp ?_) | ((with_reducible show DX _ (.List _ _) _ _ _); refine dx_lst ?_) | ((with_reducible show DX _ (.Dict [] [] _) _ _ _); refine dx_dnew ?_) | ((with_reducible show DX _ (.Attribute _ _ _) _ _ _); refine dx_fld ?_) | ((with_reducible show DX _ (.Call (.Attribute _ "clear" _) [] _ _) _ _ _); refine dx_clear ?_) | ((with_reducible show DX _ (.Call (.Attribute _ "pop" _) [] _ _) _ _ _); refine dx_pop ?_) | ((with_reducible show DX _ (.Call (.Attribute _ _ _) [] _ _) _ _ _); refine dx_meth0 (by with_reducible assumption) (by with_reducible assumption) ?_) | ((with_reducible show DX _ (.Call (.Name _ _) [] _ _) _ _ _); refine dx_call0 (by with_reducible assumption) ?_) | ((with_reducible show DX _ (.Call (.Attribute _ "append" _) [_] _ _) _ _ _); refine dx_append ?_) | ((with_reducible show DX _ (.Call (.Attribute _ "join" _) [_] _ _) _ _ _); refine dx_join ?_) | ((with_reducible show DX _ (.Call (.Attribute _ "find" _) [_] _ _) _ _ _); refine dx_find ?_) | ((with_reducible show DX _ (.Call (.Attribute (.Constant (.str _) _ _) "index" _) [_] _ _) _ _ _); refine dx_sindex ?_) | ((with_reducible show DX _ (.Call (.Attribute _ "split" _) [_] _ _) _ _ _); refine dx_split ?_) | ((with_reducible show DX _ (.Call (.Attribute _ _ _) _ _ _) _ _ _); refine dx_meth (by with_reducible assumption) (by with_reducible assumption) ?_) | ((with_reducible show DX _ (.Call (.Name _ _) _ _ _) _ _ _); (first | ((with_reducible show DX _ (.Call (.Name "len" _) _ _ _) _ _ _); refine dx_len ?_) | ((with_reducible show DX _ (.Call (.Name "isinstance" _) _ _ _) _ _ _); (first | ((with_reducible show DX _ (.Call _ [_, .Tuple _ _ _] _ _) _ _ _); refine dx_isET (by with_reducible assumption) (by with_reducible assumption) (by decide +kernel) ?_) | ((with_reducible show DX _ (.Call _ [_, .Name _ _] _ _) _ _ _); first | refine dx_isE (by with_reducible assumption) ?_ | refine dx_isi ?_))) | ((with_reducible show DX _ (.Call (.Name "list" _) _ _ _) _ _ _); (first | refine dx_listA ?_ | refine dx_list ?_)) | ((with_reducible show DX _ (.Call (.Name "min" _) _ _ _) _ _ _); refine dx_min ?_) | ((with_reducible show DX _ (.Call (.Name "max" _) _ _ _) _ _ _); refine dx_max ?_) | ((with_reducible show DX _ (.Call (.Name "str" _) _ _ _) _ _ _); refine dx_cstr ?_) | ((with_reducible show DX _ (.Call (.Name "int" _) _ _ _) _ _ _); refine dx_cint ?_) | refine dx_call (by with_reducible assumption) ?_ | refine dx_make (by with_reducible assumption) ?_)))) | ((with_reducible show OpD _ _ _ _ _); (first | ((with_reducible show OpD (uAdd _) (.d (.int _)) (.d (.int _)) _ _); refine od_add ?_) | ((with_reducible show OpD (uAdd _) (.d (.str _)) (.d (.str _)) _ _); refine od_adds (by (first | (with_reducible assumption) | decide | ((try simp only [List.length_cons, List.length_nil, List.length_append, List.length_map, List.length_replicate]); omega) | (refine Nat.le_trans (cutL_len _ _ _) ?_; (try simp only [List.length_cons, List.length_nil, List.length_append, List.length_map, List.length_replicate]); omega) | (refine Nat.le_trans (Nat.add_le_add_left (cutL_len _ _ _) _) ?_; (try simp only [List.length_cons, List.length_nil, List.length_append, List.length_map, List.length_replicate]); omega) | (refine Nat.le_trans (Nat.add_le_add_right (cutL_len _ _ _) _) ?_; (try simp only [List.length_cons, List.length_nil, List.length_append, List.length_map, List.length_replicate]); omega))) ?_) | ((with_reducible show OpD (uAdd _) (.d (.tuple _)) (.d (.tuple _)) _ _); refine od_addt (by first | exact List.cons_ne_nil _ _ | decide) (by (first | (with_reducible assumption) | decide | ((try simp only [List.length_cons, List.length_nil, List.length_append, List.length_map, List.length_replicate]); omega) | (refine Nat.le_trans (cutL_len _ _ _) ?_; (try simp only [List.length_cons, List.length_nil, List.length_append, List.length_map, List.length_replicate]); omega) | (refine Nat.le_trans (Nat.add_le_add_left (cutL_len _ _ _) _) ?_; (try simp only [List.length_cons, List.length_nil, List.length_append, List.length_map, List.length_replicate]); omega) | (refine Nat.le_trans (Nat.add_le_add_right (cutL_len _ _ _) _) ?_; (try simp only [List.length_cons, List.length_nil, List.length_append, List.length_map, List.length_replicate]); omega))) ?_) | ((with_reducible show OpD (uAdd _) _ _ _ _); refine od_addl rfl rfl (by (first | (with_reducible assumption) | decide | ((try simp only [List.length_cons, List.length_nil, List.length_append, List.length_map, List.length_replicate]); omega) | (refine Nat.le_trans (cutL_len _ _ _) ?_; (try simp only [List.length_cons, List.length_nil, List.length_append, List.length_map, List.length_replicate]); omega) | (refine Nat.le_trans (Nat.add_le_add_left (cutL_len _ _ _) _) ?_; (try simp only [List.length_cons, List.length_nil, List.length_append, List.length_map, List.length_replicate]); omega) | (refine Nat.le_trans (Nat.add_le_add_right (cutL_len _ _ _) _) ?_; (try simp only [List.length_cons, List.length_nil, List.length_append, List.length_map, List.length_replicate]); omega))) ?_) | ((with_reducible show OpD (rI0 fun i j => .int (i - j)) _ _ _ _); refine od_sub ?_) | ((with_reducible show OpD uMul (.d (.int _)) (.d (.int _)) _ _); (first | refine od_mul (mul_r (by (first | omega | decide | (simp; omega)))) ?_ | refine od_mul (mul_l (by (first | omega | decide | (simp; omega)))) ?_ | refine od_mul (mul_ok (by (first | omega | decide | (simp; omega))) (by (first | omega | decide | (simp; omega)))) ?_)) | ((with_reducible show OpD (rI CDivW _) _ _ _ _); refine od_div (by (first | omega | decide | (simp; omega))) ?_) | ((with_reducible show OpD (rI CPow _) (.d (.int 10)) _ _ _); (first | (with_reducible refine od_p60 ?_) | (with_reducible refine od_p59 ?_) | (with_reducible refine od_p20 ?_) | (with_reducible refine od_p40 ?_) | (with_reducible refine od_p6 ?_) | (with_reducible refine od_p9 ?_) | (with_reducible refine od_p50 ?_) | (with_reducible refine od_p58 ?_) | (with_reducible refine od_p30 ?_) | (with_reducible refine od_p3 ?_))) | ((with_reducible show OpD (rI CPow _) _ _ _ _); refine od_pow (by decide) ?_) | ((with_reducible show OpD (rI0 fun i j => .bl (decide (i < j))) _ _ _ _); refine od_lt ?_) | ((with_reducible show OpD (rI0 fun i j => .bl (decide (i ≤ j))) _ _ _ _); refine od_le ?_) | ((with_reducible show OpD (rI0 fun i j => .bl (decide (j < i))) _ _ _ _); refine od_gt ?_) | ((with_reducible show OpD (rI0 fun i j => .bl (decide (j ≤ i))) _ _ _ _); refine od_ge ?_) | ((with_reducible show OpD (rI _ _) _ _ _ _); refine od_mod (by (first | omega | decide | (simp; omega))) ?_) | ((with_reducible show OpD (uEq _) _ _ _ _); (first | refine od_eq rfl rfl (by first | exact .int _ _ | exact .str _ _ | exact .bl _ _ | exact .nn | exact .ni _ | exact .in_ _ | exact .ns _ | exact .sn _) ?_ | refine od_eqS rfl rfl (by first | (with_reducible assumption) | decide +kernel | rfl) ?_ | refine od_eq rfl rfl (.dat (by first | (with_reducible assumption) | decide +kernel | rfl) (by first | (with_reducible assumption) | decide +kernel | rfl)) ?_)) | ((with_reducible show OpD (uNe _) _ _ _ _); (first | (with_reducible refine od_nenm ?_) | refine od_ne rfl rfl (by first | exact .int _ _ | exact .str _ _ | exact .bl _ _ | exact .nn | exact .ni _ | exact .in_ _ | exact .ns _ | exact .sn _) ?_ | refine od_neS rfl rfl (by first | (with_reducible assumption) | decide +kernel | rfl) ?_ | refine od_ne rfl rfl (.dat (by first | (with_reducible assumption) | decide +kernel | rfl) (by first | (with_reducible assumption) | decide +kernel | rfl)) ?_)) | ((with_reducible show OpD (uNin _) (.d (.str _)) (.d (.str _)) _ _); refine od_nins ?_) | ((with_reducible show OpD (uIn _) (.d (.str _)) (.d (.str _)) _ _); refine od_ins ?_) | ((with_reducible show OpD (uIn _) (.d _) (.r (.ref _)) _ _); refine od_inO (by ((repeat with_reducible first | exact Pick.zero | apply Pick.succ); (first | (all_goals fail) | fail))) rfl (by with_reducible assumption) ?_) | ((with_reducible show OpD (uNin _) (.d _) (.r (.ref _)) _ _); refine od_ninO (by ((repeat with_reducible first | exact Pick.zero | apply Pick.succ); (first | (all_goals fail) | fail))) rfl (by with_reducible assumption) ?_) | ((with_reducible show OpD uIs _ _ _ _); (first | (with_reducible refine od_isnm ?_) | refine od_is rfl ?_)) | ((with_reducible show OpD uIsn _ _ _ _); (first | (with_reducible refine od_isnnm ?_) | refine od_isn rfl ?_)) | ((with_reducible show OpD (rIx _) (.r (.ref _)) _ _ _); refine od_ixo (by ((repeat with_reducible first | exact Pick.zero | apply Pick.succ); (first | (all_goals fail) | fail))) (by first | rfl | with_reducible assumption) (by exact fun _ z => nomatch z) ?_) | ((with_reducible show OpD (rIx _) (.d (.str _)) _ _ _); refine od_ixt (by (first | (with_reducible assumption) | decide | ((try simp only [List.length_cons, List.length_nil, List.length_append, List.length_map, List.length_replicate]); omega) | (refine Nat.le_trans (cutL_len _ _ _) ?_; (try simp only [List.length_cons, List.length_nil, List.length_append, List.length_map, List.length_replicate]); omega) | (refine Nat.le_trans (Nat.add_le_add_left (cutL_len _ _ _) _) ?_; (try simp only [List.length_cons, List.length_nil, List.length_append, List.length_map, List.length_replicate]); omega) | (refine Nat.le_trans (Nat.add_le_add_right (cutL_len _ _ _) _) ?_; (try simp only [List.length_cons, List.length_nil, List.length_append, List.length_map, List.length_replicate]); omega))) (by with_reducible assumption) ?_) | ((with_reducible show OpD (rIx _) _ _ _ _); refine od_ixs rfl (by first | rfl | with_reducible assumption) ?_))) | ((with_reducible show DS _ _ _ _ _); (first | ((with_reducible show DS _ (.Assign [.Name _ _] _ _) _ _ _); (fail_if_success (with_reducible show DS _ (.Assign _ (.List [] _) _) _ _ _)); (fail_if_success (with_reducible show DS _ (.Assign _ (.ListComp _ _ _ _) _) _ _ _)); refine ds_set ?_) | ((with_reducible show DS _ (.Assign [.Attribute _ _ _] _ _) _ _ _); (fail_if_success (with_reducible show DS _ (.Assign _ (.List _ _) _) _ _ _)); (fail_if_success (with_reducible show DS _ (.Assign _ (.ListComp _ _ _ _) _) _ _ _)); refine ds_fld ?_) | ((with_reducible show DS _ (.Assign [.Subscript _ _ _] _ _) _ _ _); (fail_if_success (with_reducible show DS _ (.Assign [.Subscript (.Subscript _ _ _) _ _] _ _) _ _ _)); refine ds_seti ?_) | ((with_reducible show DS _ (.Return (some _) _) _ _ _); refine ds_ret ?_) | ((with_reducible show DS _ (.Return none _) _ _ _); refine ds_retN ?_) | ((with_reducible show DS _ (.If _ _ _ _) _ _ _); refine ds_if ?_) | ((with_reducible show DS _ (.Expr (.Constant _ _ _) _) _ _ _); refine ds_doc ?_) | ((with_reducible show DS _ (.Expr _ _) _ _ _); refine ds_expr ?_) | ((with_reducible show DS _ (.Pass _) _ _ _); refine ds_pass ?_) | ((with_reducible show DS _ (.Break _) _ _ _); refine ds_break ?_) | ((with_reducible show DS _ (.Continue _) _ _ _); refine ds_continue ?_) | ((with_reducible show DS _ (.Raise (some (.Call (.Name _ _) [.Constant (.str _) _ _] [] _)) none _) _ _ _); refine ds_raise (by with_reducible assumption) (by decide +kernel) (by decide +kernel) ?_))) | ((with_reducible show DSs _ _ _ _ _); (first | ((with_reducible show DSs _ (_ :: _) _ _ _); refine dss_cons ?_) | ((with_reducible show DSs _ [] _ _ _); refine dss_nil ?_))) | ((with_reducible show DT _ _ _ _ _); (first | ((with_reducible show DT _ (.BoolOp _ _ _) _ _ _); refine dt_bool ?_) | ((with_reducible show DT _ (.UnaryOp .Not _ _) _ _ _); refine dt_not ?_) | ((with_reducible show DT _ (.Compare _ [_] _ _) _ _ _); (first | ((with_reducible show DT _ (.Compare _ [.Eq] [_] _) _ _ _); refine dt_cmp cEq (nomark _) ?_) | ((with_reducible show DT _ (.Compare _ [.NotEq] [_] _) _ _ _); refine dt_cmp cNe (nomark _) ?_) | ((with_reducible show DT _ (.Compare _ [.Lt] [_] _) _ _ _); refine dt_cmp op_lt (nomark _) ?_) | ((with_reducible show DT _ (.Compare _ [.LtE] [_] _) _ _ _); refine dt_cmp op_le (nomark _) ?_) | ((with_reducible show DT _ (.Compare _ [.Gt] [_] _) _ _ _); refine dt_cmp op_gt (nomark _) ?_) | ((with_reducible show DT _ (.Compare _ [.GtE] [_] _) _ _ _); refine dt_cmp op_ge (nomark _) ?_) | ((with_reducible show DT _ (.Compare _ [.Is] [_] _) _ _ _); refine dt_cmp op_uIs (nomark _) ?_) | ((with_reducible show DT _ (.Compare _ [.IsNot] [_] _) _ _ _); refine dt_cmp op_uIsn (nomark _) ?_) | ((with_reducible show DT _ (.Compare _ [.In] [_] _) _ _ _); refine dt_cmp cIn (rfl) ?_) | ((with_reducible show DT _ (.Compare _ [.NotIn] [_] _) _ _ _); refine dt_cmp cNin (rfl) ?_))) | ((with_reducible show DT _ (.Compare _ [_, _] _ _) _ _ _); (first | ((with_reducible show DT _ (.Compare _ [.LtE, .Lt] [_, _] _) _ _ _); refine dt_chain op_le op_lt ?_) | ((with_reducible show DT _ (.Compare _ [.LtE, .LtE] [_, _] _) _ _ _); refine dt_chain op_le op_le ?_))) | ((with_reducible show DT _ _ _ _ _); refine dt_tru ?_))) | ((with_reducible show DW _ _ _ _ _); (first | ((with_reducible show DW _ (.BoolOp .And [_] _) _ _ _); refine dw_and1 ?_) | ((with_reducible show DW _ (.BoolOp .Or [_] _) _ _ _); refine dw_or1 ?_) | ((with_reducible show DW _ (.BoolOp .And _ _) _ _ _); refine dw_and ?_) | ((with_reducible show DW _ (.BoolOp .Or _ _) _ _ _); refine dw_or ?_))) | ((with_reducible show DA _ _ _ _ _); (first | ((with_reducible show DA _ (_ :: _) _ _ _); refine da_cons ?_) | ((with_reducible show DA _ [] _ _ _); refine da_nil ?_))) | ((with_reducible show if _ = true then _ else _); (first | (with_reducible refine ite_tt ?_) | (with_reducible refine ite_ff ?_) | (with_reducible refine ite_nt ?_) | (with_reducible refine ite_nf ?_) | ((with_reducible show if decide _ = true then _ else _); first | refine ite_dt (by (first | (with_reducible assumption) | omega | decide +kernel | ((simp only [List.length_cons, List.length_nil, List.length_map, List.length_append]); omega) | ((simp only [List.length_cons, List.length_nil, List.length_map, List.length_append]); (first | (all_goals fail) | fail)))) ?_ | refine ite_df (by (first | (with_reducible assumption) | omega | decide +kernel | ((simp only [List.length_cons, List.length_nil, List.length_map, List.length_append]); omega) | ((simp only [List.length_cons, List.length_nil, List.length_map, List.length_append]); (first | (all_goals fail) | fail)))) ?_) | ((with_reducible show if (!decide _) = true then _ else _); first | refine ite_ndf (by (first | (with_reducible assumption) | omega | decide +kernel | ((simp only [List.length_cons, List.length_nil, List.length_map, List.length_append]); omega) | ((simp only [List.length_cons, List.length_nil, List.length_map, List.length_append]); (first | (all_goals fail) | fail)))) ?_ | refine ite_ndt (by (first | (with_reducible assumption) | omega | decide +kernel | ((simp only [List.length_cons, List.length_nil, List.length_map, List.length_append]); omega) | ((simp only [List.length_cons, List.length_nil, List.length_map, List.length_append]); (first | (all_goals fail) | fail)))) ?_) | (with_reducible refine ite_nn ?_) | ((with_reducible show if PyData.eqv _ _ = true then _ else _); first | refine ite_t (by decide +kernel) ?_ | refine ite_f (by decide +kernel) ?_ | refine ite_t rfl ?_ | refine ite_f rfl ?_) | ((with_reducible show if (!PyData.eqv _ _) = true then _ else _); first | refine ite_t (by decide +kernel) ?_ | refine ite_f (by decide +kernel) ?_ | refine ite_t rfl ?_ | refine ite_f rfl ?_) | ((with_reducible show if wholeD (.int _) = true then _ else _); refine ite_t rfl ?_) | ((with_reducible show if (!wholeD (.int _)) = true then _ else _); refine ite_f rfl ?_) | ((with_reducible show if isD _ _ = true then _ else _); first | refine ite_t rfl ?_ | refine ite_f rfl ?_) | ((with_reducible show if (!isD _ _) = true then _ else _); first | refine ite_t rfl ?_ | refine ite_f rfl ?_))) | ((with_reducible show Exists _); (first | (with_reducible refine me_tab (by ((repeat with_reducible first | exact Pick.zero | apply Pick.succ); (first | (all_goals fail) | fail))) (by decide +kernel) ?_) | ((with_reducible show ∃ i ρ', SetS _ _ _ i _ ρ' ∧ _); refine ⟨_, _, by ((repeat with_reducible first | exact SetS.zero | apply SetS.succ); (first | (all_goals fail) | fail)), ?_⟩) | (with_reducible refine ex_list rfl ?_) | ((with_reducible show ∃ ds, Sl.asSeq _ = some ds ∧ _); refine ex_seq rfl ?_) | ((with_reducible show ∃ ds, Datas _ ds ∧ _); refine ex_datas (by ((repeat with_reducible first | exact datas_nil | apply datas_cons); (first | (all_goals fail) | fail))) (by first | exact Nat.le_of_ble_eq_true rfl | (first | (with_reducible assumption) | decide | ((try simp only [List.length_cons, List.length_nil, List.length_append, List.length_map, List.length_replicate]); omega) | (refine Nat.le_trans (cutL_len _ _ _) ?_; (try simp only [List.length_cons, List.length_nil, List.length_append, List.length_map, List.length_replicate]); omega) | (refine Nat.le_trans (Nat.add_le_add_left (cutL_len _ _ _) _) ?_; (try simp only [List.length_cons, List.length_nil, List.length_append, List.length_map, List.length_replicate]); omega) | (refine Nat.le_trans (Nat.add_le_add_right (cutL_len _ _ _) _) ?_; (try simp only [List.length_cons, List.length_nil, List.length_append, List.length_map, List.length_replicate]); omega))) ?_) | ((with_reducible show ∃ C p fs g sl, _ = Sl.r (.ref p) ∧ Pick _ (insM C p fs) g ∧ FldC _ C _ ∧ FldAt fs _ sl ∧ _); refine ex_fld (by ((repeat with_reducible first | exact Pick.zero | apply Pick.succ); (first | (all_goals fail) | fail))) (fldc (by with_reducible assumption) (by decide +kernel)) (by ((repeat with_reducible first | exact FldAt.zero | apply FldAt.succ); (first | (all_goals fail) | fail))) (by (simp only [List.map_cons, List.map_nil]); decide +kernel) (by exact fun _ z => nomatch z) ?_) | ((with_reducible show ∃ C p fs g fs2, _ = Sl.r (.ref p) ∧ Pick _ (insM C p fs) g ∧ FldC _ C _ ∧ (FldSet fs _ _ fs2 ∨ _) ∧ _); first | refine ex_fset (by ((repeat with_reducible first | exact Pick.zero | apply Pick.succ); (first | (all_goals fail) | fail))) (fldc (by with_reducible assumption) (by decide +kernel)) (by ((repeat with_reducible first | exact FldSet.zero | apply FldSet.succ); (first | (all_goals fail) | fail))) (by (simp only [List.map_cons, List.map_nil]); decide +kernel) (by exact Nat.le_of_ble_eq_true rfl) ?_ | refine ex_fnew (by ((repeat with_reducible first | exact Pick.zero | apply Pick.succ); (first | (all_goals fail) | fail))) (fldc (by with_reducible assumption) (by decide +kernel)) (by (simp only [List.map_cons, List.map_nil]); decide +kernel) (by (simp only [List.map_cons, List.map_nil]); decide +kernel) (by exact Nat.le_of_ble_eq_true rfl) ?_) | ((with_reducible show ∃ p ss f k j, _ = Sl.r (.ref p) ∧ _ = Sl.d (.int k) ∧ _); refine ex_seti (by ((repeat with_reducible first | exact Pick.zero | apply Pick.succ); (first | (all_goals fail) | fail))) (by first | with_reducible assumption | rfl) ?_) | (with_reducible refine ex_frz (by ((repeat with_reducible first | exact Pick.zero | apply Pick.succ); (first | (all_goals fail) | fail))) ?_) | (with_reducible refine ex_own (by ((repeat with_reducible first | exact Pick.zero | apply Pick.succ); (first | (all_goals fail) | fail))) ?_) | (with_reducible refine ex_app (by ((repeat with_reducible first | exact Pick.zero | apply Pick.succ); (first | (all_goals fail) | fail))) (by (first | (with_reducible assumption) | decide | ((try simp only [List.length_cons, List.length_nil, List.length_append, List.length_map, List.length_replicate]); omega) | (refine Nat.le_trans (cutL_len _ _ _) ?_; (try simp only [List.length_cons, List.length_nil, List.length_append, List.length_map, List.length_replicate]); omega) | (refine Nat.le_trans (Nat.add_le_add_left (cutL_len _ _ _) _) ?_; (try simp only [List.length_cons, List.length_nil, List.length_append, List.length_map, List.length_replicate]); omega) | (refine Nat.le_trans (Nat.add_le_add_right (cutL_len _ _ _) _) ?_; (try simp only [List.length_cons, List.length_nil, List.length_append, List.length_map, List.length_replicate]); omega))) ?_) | ((with_reducible show ∃ ys, RefsE _ _ ys ∧ _); (first | refine ex_refs (w := false) (by ((repeat with_reducible first | exact RefsE.nil | apply RefsE.cons); (first | (all_goals fail) | fail))) (by decide +kernel) ?_ | refine ex_refs (w := true) (by ((repeat with_reducible first | exact RefsE.nil | apply RefsE.cons); (first | (all_goals fail) | fail))) (by decide +kernel) ?_)) | ((with_reducible show ∃ rs', Ent [_] (rs' ++ [_]) ∧ _); (refine end_ex ?_; with_reducible assumption)) | ((with_reducible show ∃ ρ', SetS _ _ _ _ _ ρ' ∧ _); refine ⟨_, by ((repeat with_reducible first | exact SetS.zero | apply SetS.succ); (first | (all_goals fail) | fail)), ?_⟩) | (with_reducible refine ex_rep (by ((repeat with_reducible first | exact Pick.zero | apply Pick.succ); (first | (all_goals fail) | fail))) (by (first | omega | decide | (simp; omega))) ?_) | (with_reducible refine ex_dat ?_) | (with_reducible refine ex_int ?_) | (with_reducible refine ex_str ?_) | (with_reducible refine ex_dic (by ((repeat with_reducible first | exact Pick.zero | apply Pick.succ); (first | (all_goals fail) | fail))) ?_) | (with_reducible refine ex_din1 (by ((repeat with_reducible first | exact Pick.zero | apply Pick.succ); (first | (all_goals fail) | fail))) ?_) | (with_reducible refine ex_din2 (by ((repeat with_reducible first | exact Pick.zero | apply Pick.succ); (first | (all_goals fail) | fail))) ?_) | (with_reducible refine ex_dlen (by ((repeat with_reducible first | exact Pick.zero | apply Pick.succ); (first | (all_goals fail) | fail))) ?_) | ((with_reducible show ∃ p kvs f k, _ = Sl.r (.ref p) ∧ _ = Sl.d (keyD k) ∧ Pick _ (dictM p kvs) f ∧ kvs.length ≤ _ ∧ _); first | refine ex_dputI (by ((repeat with_reducible first | exact Pick.zero | apply Pick.succ); (first | (all_goals fail) | fail))) (by (first | (with_reducible assumption) | decide | ((try simp only [List.length_cons, List.length_nil, List.length_append, List.length_map, List.length_replicate]); omega) | (refine Nat.le_trans (cutL_len _ _ _) ?_; (try simp only [List.length_cons, List.length_nil, List.length_append, List.length_map, List.length_replicate]); omega) | (refine Nat.le_trans (Nat.add_le_add_left (cutL_len _ _ _) _) ?_; (try simp only [List.length_cons, List.length_nil, List.length_append, List.length_map, List.length_replicate]); omega) | (refine Nat.le_trans (Nat.add_le_add_right (cutL_len _ _ _) _) ?_; (try simp only [List.length_cons, List.length_nil, List.length_append, List.length_map, List.length_replicate]); omega))) ?_ | refine ex_dputS (by ((repeat with_reducible first | exact Pick.zero | apply Pick.succ); (first | (all_goals fail) | fail))) (by (first | (with_reducible assumption) | decide | ((try simp only [List.length_cons, List.length_nil, List.length_append, List.length_map, List.length_replicate]); omega) | (refine Nat.le_trans (cutL_len _ _ _) ?_; (try simp only [List.length_cons, List.length_nil, List.length_append, List.length_map, List.length_replicate]); omega) | (refine Nat.le_trans (Nat.add_le_add_left (cutL_len _ _ _) _) ?_; (try simp only [List.length_cons, List.length_nil, List.length_append, List.length_map, List.length_replicate]); omega) | (refine Nat.le_trans (Nat.add_le_add_right (cutL_len _ _ _) _) ?_; (try simp only [List.length_cons, List.length_nil, List.length_append, List.length_map, List.length_replicate]); omega))) ?_) | ((with_reducible show ∃ p kvs f k, _ = Sl.r (.ref p) ∧ _ = Sl.d (keyD k) ∧ Pick _ (dictM p kvs) f ∧ _); first | refine ex_din1 (by ((repeat with_reducible first | exact Pick.zero | apply Pick.succ); (first | (all_goals fail) | fail))) ?_ | refine ex_din2 (by ((repeat with_reducible first | exact Pick.zero | apply Pick.succ); (first | (all_goals fail) | fail))) ?_) | ((with_reducible show ∃ kvs f k s, _ = Sl.d (keyD k) ∧ Pick _ (dictM _ kvs) f ∧ valS kvs k = some s ∧ _); first | refine ex_dpopI (by ((repeat with_reducible first | exact Pick.zero | apply Pick.succ); (first | (all_goals fail) | fail))) (by with_reducible assumption) (by exact fun _ z => nomatch z) ?_ | refine ex_dpopS (by ((repeat with_reducible first | exact Pick.zero | apply Pick.succ); (first | (all_goals fail) | fail))) (by with_reducible assumption) (by exact fun _ z => nomatch z) ?_) | ((with_reducible show ∃ p kvs f k s, _ = Sl.r (.ref p) ∧ _ = Sl.d (keyD k) ∧ Pick _ (dictM p kvs) f ∧ _); first | refine ex_dget (by ((repeat with_reducible first | exact Pick.zero | apply Pick.succ); (first | (all_goals fail) | fail))) (by with_reducible assumption) (by exact fun _ z => nomatch z) ?_ | refine ex_dgetS (by ((repeat with_reducible first | exact Pick.zero | apply Pick.succ); (first | (all_goals fail) | fail))) (by with_reducible assumption) (by exact fun _ z => nomatch z) ?_))) | (first | (with_reducible refine kt ?_) | ((with_reducible show ∀ _ : Addr, _); intro q) | ((with_reducible show Le _ _ ∧ _ = _); exact ⟨by ((repeat with_reducible first | exact Le.nil | apply Le.eq | apply Le.un); (first | (all_goals fail) | fail)), rfl⟩) | ((with_reducible show CallEnd _ _ _ _ _ _); (first | ((with_reducible refine ce_tab (by ((repeat with_reducible first | exact Pick.zero | apply Pick.succ); (first | (all_goals fail) | fail))) ?_); (first | refine ⟨_, rfl, rfl, by (first | (with_reducible trivial) | (with_reducible assumption) | omega | (exact ⟨by with_reducible assumption, by with_reducible assumption⟩)), ?_⟩ | refine ⟨_, _, rfl, rfl, by (first | (with_reducible trivial) | (with_reducible assumption) | omega | (exact ⟨by with_reducible assumption, by with_reducible assumption⟩)), ?_⟩ | refine ⟨_, _, _, rfl, rfl, by (first | (with_reducible trivial) | (with_reducible assumption) | omega | (exact ⟨by with_reducible assumption, by with_reducible assumption⟩)), ?_⟩ | refine ⟨_, _, _, _, rfl, rfl, by (first | (with_reducible trivial) | (with_reducible assumption) | omega | (exact ⟨by with_reducible assumption, by with_reducible assumption⟩)), ?_⟩ | refine ⟨_, _, _, _, _, rfl, rfl, by (first | (with_reducible trivial) | (with_reducible assumption) | omega | (exact ⟨by with_reducible assumption, by with_reducible assumption⟩)), ?_⟩ | refine ⟨_, _, _, _, _, _, rfl, rfl, by (first | (with_reducible trivial) | (with_reducible assumption) | omega | (exact ⟨by with_reducible assumption, by with_reducible assumption⟩)), ?_⟩ | refine ⟨_, _, _, _, _, _, _, rfl, rfl, by (first | (with_reducible trivial) | (with_reducible assumption) | omega | (exact ⟨by with_reducible assumption, by with_reducible assumption⟩)), ?_⟩ | refine ⟨_, _, _, _, _, _, _, _, rfl, rfl, by (first | (with_reducible trivial) | (with_reducible assumption) | omega | (exact ⟨by with_reducible assumption, by with_reducible assumption⟩)), ?_⟩)) | (refine ce_inl ?_; first | refine ⟨_, rfl, rfl, by (first | (with_reducible trivial) | (with_reducible assumption) | omega | (exact ⟨by with_reducible assumption, by with_reducible assumption⟩)), ?_⟩ | refine ⟨_, _, rfl, rfl, by (first | (with_reducible trivial) | (with_reducible assumption) | omega | (exact ⟨by with_reducible assumption, by with_reducible assumption⟩)), ?_⟩ | refine ⟨_, _, _, rfl, rfl, by (first | (with_reducible trivial) | (with_reducible assumption) | omega | (exact ⟨by with_reducible assumption, by with_reducible assumption⟩)), ?_⟩ | refine ⟨_, _, _, _, rfl, rfl, by (first | (with_reducible trivial) | (with_reducible assumption) | omega | (exact ⟨by with_reducible assumption, by with_reducible assumption⟩)), ?_⟩ | refine ⟨_, _, _, _, _, rfl, rfl, by (first | (with_reducible trivial) | (with_reducible assumption) | omega | (exact ⟨by with_reducible assumption, by with_reducible assumption⟩)), ?_⟩ | refine ⟨_, _, _, _, _, _, rfl, rfl, by (first | (with_reducible trivial) | (with_reducible assumption) | omega | (exact ⟨by with_reducible assumption, by with_reducible assumption⟩)), ?_⟩))) | ((with_reducible show CallEnd0 _ _ _ _); (first | ((with_reducible refine ce0_tab (by ((repeat with_reducible first | exact Pick.zero | apply Pick.succ); (first | (all_goals fail) | fail))) ?_); (first | refine ⟨_, rfl, rfl, by (first | (with_reducible trivial) | (with_reducible assumption) | omega | (exact ⟨by with_reducible assumption, by with_reducible assumption⟩)), ?_⟩ | refine ⟨_, _, rfl, rfl, by (first | (with_reducible trivial) | (with_reducible assumption) | omega | (exact ⟨by with_reducible assumption, by with_reducible assumption⟩)), ?_⟩ | refine ⟨_, _, _, rfl, rfl, by (first | (with_reducible trivial) | (with_reducible assumption) | omega | (exact ⟨by with_reducible assumption, by with_reducible assumption⟩)), ?_⟩ | refine ⟨_, _, _, _, rfl, rfl, by (first | (with_reducible trivial) | (with_reducible assumption) | omega | (exact ⟨by with_reducible assumption, by with_reducible assumption⟩)), ?_⟩ | refine ⟨_, _, _, _, _, rfl, rfl, by (first | (with_reducible trivial) | (with_reducible assumption) | omega | (exact ⟨by with_reducible assumption, by with_reducible assumption⟩)), ?_⟩ | refine ⟨_, _, _, _, _, _, rfl, rfl, by (first | (with_reducible trivial) | (with_reducible assumption) | omega | (exact ⟨by with_reducible assumption, by with_reducible assumption⟩)), ?_⟩ | refine ⟨_, _, _, _, _, _, _, rfl, rfl, by (first | (with_reducible trivial) | (with_reducible assumption) | omega | (exact ⟨by with_reducible assumption, by with_reducible assumption⟩)), ?_⟩ | refine ⟨_, _, _, _, _, _, _, _, rfl, rfl, by (first | (with_reducible trivial) | (with_reducible assumption) | omega | (exact ⟨by with_reducible assumption, by with_reducible assumption⟩)), ?_⟩)))) | ((with_reducible show (bodyPost _ _).rt _ _); (first | (refine end_rt ?_; with_reducible assumption) | refine end_rtT (decide_eq_true (by omega)) (by with_reducible assumption) | refine end_rtT rfl (by with_reducible assumption))) | ((with_reducible show TrD (.d (.bool _)) _ _); refine tr_bool ?_) | ((with_reducible show TrD (.d .none) _ _); refine tr_none ?_) | ((with_reducible show TrD (.d (.int _)) _ _); refine tr_int ?_) | ((with_reducible show TrD (.d (.list _)) _ _); refine tr_list ?_) | ((with_reducible show TrD (.d (.tuple _)) _ _); refine tr_tuple ?_) | ((with_reducible show TrD (.r (.ref _)) _ _); (first | refine tr_own (by ((repeat with_reducible first | exact Pick.zero | apply Pick.succ); (first | (all_goals fail) | fail))) ?_ | refine tr_dict (by ((repeat with_reducible first | exact Pick.zero | apply Pick.succ); (first | (all_goals fail) | fail))) ?_)) | ((with_reducible show CaD (rIsi _) _ _ _); (first | refine cd_isiT (by decide) rfl rfl ?_ | refine cd_isiF (by decide) rfl rfl ?_ | refine cd_isi (by decide) rfl ?_)) | ((with_reducible show CaD _ [.d (.int _), .d (.int _)] _ _); (first | refine cd_min ?_ | refine cd_max ?_)) | ((with_reducible show LenD (.d (.str _)) _ _); refine ld_str (by (first | (with_reducible assumption) | decide | ((try simp only [List.length_cons, List.length_nil, List.length_append, List.length_map, List.length_replicate]); omega) | (refine Nat.le_trans (cutL_len _ _ _) ?_; (try simp only [List.length_cons, List.length_nil, List.length_append, List.length_map, List.length_replicate]); omega) | (refine Nat.le_trans (Nat.add_le_add_left (cutL_len _ _ _) _) ?_; (try simp only [List.length_cons, List.length_nil, List.length_append, List.length_map, List.length_replicate]); omega) | (refine Nat.le_trans (Nat.add_le_add_right (cutL_len _ _ _) _) ?_; (try simp only [List.length_cons, List.length_nil, List.length_append, List.length_map, List.length_replicate]); omega))) ?_) | ((with_reducible show LenD (.r (.ref _)) _ _); refine ld_own (by ((repeat with_reducible first | exact Pick.zero | apply Pick.succ); (first | (all_goals fail) | fail))) ?_) | ((with_reducible show LenD _ _ _); refine ld_seq rfl ?_) | ((with_reducible show SlD _ (.d (.list _)) _ _ _ _); refine sd_list ?_) | ((with_reducible show SlD _ (.n _) _ _ _ _); refine sd_list ?_) | ((with_reducible show SlD _ (.r (.ref _)) _ _ _ _); refine sd_own (by ((repeat with_reducible first | exact Pick.zero | apply Pick.succ); (first | (all_goals fail) | fail))) (fun q => ?_)) | ((with_reducible show SlD _ (.d (.str _)) _ _ _ _); refine sd_str (by (first | (with_reducible assumption) | decide | ((try simp only [List.length_cons, List.length_nil, List.length_append, List.length_map, List.length_replicate]); omega) | (refine Nat.le_trans (cutL_len _ _ _) ?_; (try simp only [List.length_cons, List.length_nil, List.length_append, List.length_map, List.length_replicate]); omega) | (refine Nat.le_trans (Nat.add_le_add_left (cutL_len _ _ _) _) ?_; (try simp only [List.length_cons, List.length_nil, List.length_append, List.length_map, List.length_replicate]); omega) | (refine Nat.le_trans (Nat.add_le_add_right (cutL_len _ _ _) _) ?_; (try simp only [List.length_cons, List.length_nil, List.length_append, List.length_map, List.length_replicate]); omega))) ?_) | ((with_reducible show SlD _ (.d (.tuple [_, _, _, _])) none (some 2) _ _); refine sd_t42 ?_) | ((with_reducible show SlD _ (.d (.tuple [_, _, _, _, _, _])) (some 2) (some 5) _ _); refine sd_t625 ?_) | ((with_reducible show SlD _ (.d (.tuple [_, _, _, _])) (some 2) none _ _); refine sd_t4f2 ?_) | ((with_reducible show SlD _ (.d (.tuple _)) _ _ _ _); refine sd_tup (by first | decide | ((simp only [List.length_cons, List.length_nil]); decide +kernel)) ?_) | ((with_reducible show DO _ none _ _ _); refine do_none ?_) | ((with_reducible show DO _ (some _) _ _ _); refine do_some ?_) | (with_reducible refine ex_eqr ?_) | ((with_reducible show LsD _ _ _); first | refine ls_s (by (first | (with_reducible assumption) | decide | ((try simp only [List.length_cons, List.length_nil, List.length_append, List.length_map, List.length_replicate]); omega) | (refine Nat.le_trans (cutL_len _ _ _) ?_; (try simp only [List.length_cons, List.length_nil, List.length_append, List.length_map, List.length_replicate]); omega) | (refine Nat.le_trans (Nat.add_le_add_left (cutL_len _ _ _) _) ?_; (try simp only [List.length_cons, List.length_nil, List.length_append, List.length_map, List.length_replicate]); omega) | (refine Nat.le_trans (Nat.add_le_add_right (cutL_len _ _ _) _) ?_; (try simp only [List.length_cons, List.length_nil, List.length_append, List.length_map, List.length_replicate]); omega))) ?_ | refine ls_d rfl ?_) | ((with_reducible show LiD _ _ _); first | refine li_o (by ((repeat with_reducible first | exact Pick.zero | apply Pick.succ); (first | (all_goals fail) | fail))) (fun q => ?_) | refine li_d rfl (fun q => ?_)) | ((with_reducible show _ < 1920 ∧ _); refine ⟨log2_ok (by (first | omega | decide | (simp; omega))), ?_⟩) | ((with_reducible show CaD (rIsE _ _ _) [_, .r (.ty _)] _ _); refine cd_isEV (by with_reducible assumption) (by decide +kernel) ?_) | ((with_reducible show CaD (rIsE _ _ _) _ _ _); (first | refine cd_isE1 (r := true) (by with_reducible assumption) (by decide +kernel) (by decide +kernel) (by decide +kernel) ?_ | refine cd_isE1 (r := false) (by with_reducible assumption) (by decide +kernel) (by decide +kernel) (by decide +kernel) ?_)))) | dsimp only [List.nil_append, List.cons_append, Sl.plain] | refine ite_d (fun h => ?_) (fun h => ?_) | refine ite_nd (fun h => ?_) (fun h => ?_) | refine ite_b (fun h => ?_) (fun h => ?_) | refine od_ixI rfl ⟨by omega, by (simp only [List.length_cons, List.length_nil]; omega)⟩ rfl (fun i => ?_) | refine od_ixA rfl ⟨by omega, by (simp only [List.length_cons, List.length_nil]; omega)⟩ (fun d hd => ?_) | intro z)))
local macro_rules | `(tactic| walk_at "nrm") => `(tactic| (dsimp only [List.replicate, List.cons_append, List.nil_append, List.append_nil]))
local macro_rules | `(tactic| walk_at "st") => `(tactic| ((try dsimp only [List.replicate, List.cons_append, List.nil_append, List.append_nil]); refine dss_cons ?_))
local macro_rules | `(tactic| walk_at "end") => `(tactic| (first | (with_reducible exact ⟨[], rfl, by assumption⟩) | exact ⟨[], rfl, by assumption⟩))
local macro_rules | `(tactic| walk_at "all") => `(tactic| (walk_at "st"; walk_at "go"; walk_at "end"))
section
variable [KC] {m : Mo} {C : Addr}
def K_upper_of : Cn := fun ss rin res _ => ∃ n : Int, ss = [.d (.int n)] ∧ rin = [] ∧ True ∧ res (.d (.int (n / 16))) []
theorem ok_upper_of {t : Tok} (hK : m.K = KC.K) (bl : Bl m.mg) {f fd} (F : Fun m.K "upper_of" "upper_of" s_upper_of f fd) (hF : m.mg "FAN_places" = some (.int 16 t)) :
    FnOk m.P m.w m.K m.mg m.base (L2.CX m.P m.w) 1 f fd ["page"] (spC K_upper_of) := by
  refine fn_ok F f_upper_of e_upper_of bl hK (by rintro _ _ _ _ ⟨_, rfl, _⟩; rfl) 0 rfl ?_
  rintro ss rin fr res exc c hC
  obtain ⟨n, rfl, rfl, _, hr⟩ := hC
  walk_at "st"; walk_at "go"
def K_lower_of : Cn := fun ss rin res _ => ∃ n : Int, ss = [.d (.int n)] ∧ rin = [] ∧ True ∧ res (.d (.int (n % 16))) []
theorem ok_lower_of {t : Tok} (hK : m.K = KC.K) (bl : Bl m.mg) {f fd} (F : Fun m.K "lower_of" "lower_of" s_lower_of f fd) (hF : m.mg "FAN_places" = some (.int 16 t)) :
    FnOk m.P m.w m.K m.mg m.base (L2.CX m.P m.w) 1 f fd ["page"] (spC K_lower_of) := by
  refine fn_ok F f_lower_of e_lower_of bl hK (by rintro _ _ _ _ ⟨_, rfl, _⟩; rfl) 0 rfl ?_
  rintro ss rin fr res exc c hC
  obtain ⟨n, rfl, rfl, _, hr⟩ := hC
  walk_at "st"; walk_at "go"
theorem enT {C p lu : Addr} {T : Tb} {q : Nat → Addr} {rs : List Mem} : Ent (insM C p [("uppers", .r (.ref lu))] :: lstM lu (tSl T q 0) :: lvM T q :: rs) (tabM C p T :: rs) := ent_box (fam := tabF C p T) (q := (lu, q)) [] rs
def K_Table_sheet_at (C : Addr) : Cn := fun ss rin res _ => ∃ (p : Addr) (T : Tb) (n : Int), ss = [.r (.ref p), .d (.int n)] ∧ rin = [tabM C p T] ∧ (TOk T ∧ 0 ≤ n ∧ n < 256) ∧ res (.d (tget T n)) [tabM C p T]
def K_Table_lay (C : Addr) : Cn := fun ss rin res _ => ∃ (p : Addr) (T : Tb) (n s : Int), ss = [.r (.ref p), .d (.int n), .d (.int s)] ∧ rin = [tabM C p T] ∧ (TOk T ∧ 0 ≤ n ∧ n < 256) ∧ res (.d .none) [tabM C p (tput T n (.int s))]
theorem ok_Table_lay {t : Tok} (hK : m.K = KC.K) (bl : Bl m.mg) {f fd} (F : Fun m.K "lay" "Table.lay" s_Table_lay f fd) (hF : m.mg "FAN_tables" = some (.int 16 t)) (oc : ObjC m C ["uppers"]) (h1 : FnIs m "upper_of" 1 K_upper_of) (h2 : FnIs m "lower_of" 1 K_lower_of) :
    FnOk m.P m.w m.K m.mg m.base (L2.CX m.P m.w) 2 f fd ["self", "page", "sheet"] (spC (K_Table_lay C)) := by
  refine fn_ok F f_Table_lay e_Table_lay bl hK (by rintro _ _ _ _ ⟨_, _, _, _, rfl, _⟩; rfl) 0 rfl ?_
  rintro ss rin fr res exc c hC
  obtain ⟨p, T, n, s, rfl, rfl, ⟨ht, hn⟩, hr⟩ := hC
  walk_at "nrm"
  refine dss_open (fam := tabF C p T) [] fun z => ?_
  obtain ⟨lu, q⟩ := z
  dsimp only [tabF, List.nil_append, List.cons_append]
  have hu : (n / 16).toNat < T.length := by rw [ht.len]; omega
  have hix : ∀ (T' : Tb) (q' : Nat → Addr), T'.length = 16 → ixN (tSl T' q' 0).length (n / 16) = some (n / 16).toNat := fun T' q' e => ixN_in (by rw [tSl_len, e]; omega)
  -- a leaf is there behind the first statement
  refine dss_cut (I := fun ρ' r' => ∃ (T2 : Tb) (q2 : Nat → Addr) (es : List PyData), (es = match T[(n / 16).toNat]? with
      | some (some es) => es
      | _ => List.replicate 16 PyData.none) ∧ T2 = T.set (n / 16).toNat (some es) ∧ es.length = 16 ∧ ρ' = [.r (.ref p), .d (.int n), .d (.int s)] ∧ Ent r' [lvM T2 q2, insM C p [("uppers", .r (.ref lu))], lstM lu (tSl T2 q2 0), fr]) ?_ ?_
  · cases hT : T[(n / 16).toNat]? with
    | none => rw [List.getElem?_eq_none_iff] at hT; omega
    | some o =>
      cases o with
      | none =>
        have hat : atI (tSl T q 0) (n / 16) = some (.d .none) := by unfold atI; rw [hix T q ht.len]; exact tSl_none hT
        have hi0 := hix T q ht.len
        walk_at "go"
        rename_i a
        have ts := tSl_set (T := T) (q := q) (n := 0) (i := (n / 16).toNat) (es := List.replicate 16 PyData.none) (a := a) hu
        rw [show 0 + (n / 16).toNat = (n / 16).toNat by omega] at ts
        refine ⟨_, qSet q (n / 16).toNat a, _, rfl, rfl, List.length_replicate, rfl, ?_⟩
        rw [show List.replicate (Int.toNat 16) (Sl.d PyData.none) = (List.replicate 16 PyData.none).map .d from List.map_replicate.symm, ts]
        exact ent_trans (ent_has (Bs := [lstM a ((List.replicate 16 PyData.none).map .d), lvM T q, insM C p [("uppers", .r (.ref lu))], lstM lu (tSl (T.set (n / 16).toNat (some (List.replicate 16 PyData.none))) (qSet q (n / 16).toNat a) 0), fr]) (by walk_at "grab")) (lv_in hT)
      | some es =>
        have hs := tSl_some (q := q) (n := 0) hT
        rw [show 0 + (n / 16).toNat = (n / 16).toNat by omega] at hs
        have hat : atI (tSl T q 0) (n / 16) = some (.r (.ref (q (n / 16).toNat))) := by unfold atI; rw [hix T q ht.len]; exact hs
        walk_at "go"
        exact ⟨T, q, es, rfl, (set_same hT).symm, (ht.leaf _ _ hT).1, rfl, ent_has (by walk_at "grab")⟩
  rintro _ _ ⟨T2, q2, es, hes, rfl, hel, rfl, he⟩
  refine dss_ent he ?_
  have hT2 := set_at (x := some es) hu
  have hs := tSl_some (q := q2) (n := 0) hT2
  rw [show 0 + (n / 16).toNat = (n / 16).toNat by omega] at hs
  have hlen : (T.set (n / 16).toNat (some es)).length = 16 := by rw [List.length_set, ht.len]
  have hat : atI (tSl (T.set (n / 16).toNat (some es)) q2 0) (n / 16) = some (.r (.ref (q2 (n / 16).toNat))) := by unfold atI; rw [hix _ q2 hlen]; exact hs
  have hi2 : ixN (es.map Sl.d).length (n % 16) = some (n % 16).toNat := ixN_in (by rw [List.length_map, hel]; omega)
  refine dss_ent (lv_out hT2) ?_
  rw [List.set_set]
  walk_at "go"
  refine ds_seti ?_
  walk_at "go"
  have ep : tput T n (.int s) = T.set (n / 16).toNat (some (es.set (n % 16).toNat (.int s))) := by unfold tput; rw [hes]
  rw [ep] at hr
  have etp := tSl_put (q := q2) (n := 0) (es' := es.set (n % 16).toNat (.int s)) hT2
  rw [List.set_set] at etp
  rw [show (es.map Sl.d).set (n % 16).toNat (.d (.int s)) = (es.set (n % 16).toNat (.int s)).map .d from (List.map_set ..).symm, ← etp]
  exact ⟨[tabM C p _], ent_trans (lv_back hu) (ent_trans (ent_has (Bs := [insM C p [("uppers", .r (.ref lu))], lstM lu (tSl (T.set (n / 16).toNat (some (es.set (n % 16).toNat (.int s)))) q2 0), lvM (T.set (n / 16).toNat (some (es.set (n % 16).toNat (.int s)))) q2, fr]) (by walk_at "grab")) enT), hr⟩
def tstr (T : Tb) (page : Int) : Tb := match T[(page / 16).toNat]? with
  | some (some es) => T.set (page / 16).toNat (if PyData.eqv (.list (es.set (page % 16).toNat .none)) (.list (List.replicate 16 PyData.none)) = true then none else some (es.set (page % 16).toNat .none))
  | _ => T
theorem shaped_es {es : List PyData} (h : ∀ d ∈ es, d = .none ∨ ∃ n, d = .int n) : SeqAt.shaped (.list es) = true := shaped_list 0 (by decide) fun d hd => by
  rcases h d hd with rfl | ⟨n, rfl⟩ <;> exact ⟨rfl, Nat.le_refl 0⟩
def K_Table_strike (C : Addr) : Cn := fun ss rin res _ => ∃ (p : Addr) (T : Tb) (n : Int), ss = [.r (.ref p), .d (.int n)] ∧ rin = [tabM C p T] ∧ (TOk T ∧ 0 ≤ n ∧ n < 256) ∧ res (.d .none) [tabM C p (tstr T n)]
theorem ok_Table_strike {t : Tok} (hK : m.K = KC.K) (bl : Bl m.mg) {f fd} (F : Fun m.K "strike" "Table.strike" s_Table_strike f fd) (hF : m.mg "FAN_tables" = some (.int 16 t)) (oc : ObjC m C ["uppers"]) (h1 : FnIs m "upper_of" 1 K_upper_of) (h2 : FnIs m "lower_of" 1 K_lower_of) :
    FnOk m.P m.w m.K m.mg m.base (L2.CX m.P m.w) 2 f fd ["self", "page"] (spC (K_Table_strike C)) := by
  refine fn_ok F f_Table_strike e_Table_strike bl hK (by rintro _ _ _ _ ⟨_, _, _, rfl, _⟩; rfl) 1 rfl ?_
  rintro ss rin fr res exc c hC
  obtain ⟨p, T, n, rfl, rfl, ⟨ht, hn⟩, hr⟩ := hC
  walk_at "nrm"
  refine dss_open (fam := tabF C p T) [] fun z => ?_
  obtain ⟨lu, q⟩ := z
  dsimp only [tabF, List.nil_append, List.cons_append]
  have hu : (n / 16).toNat < T.length := by rw [ht.len]; omega
  have hix : ixN (tSl T q 0).length (n / 16) = some (n / 16).toNat := ixN_in (by rw [tSl_len, ht.len]; omega)
  cases hT : T[(n / 16).toNat]? with
  | none => rw [List.getElem?_eq_none_iff] at hT; omega
  | some o =>
    cases o with
    | none =>
      have hat : atI (tSl T q 0) (n / 16) = some (.d .none) := by unfold atI; rw [hix]; exact tSl_none hT
      rw [show tstr T n = T by unfold tstr; rw [hT]] at hr
      walk_at "st"; walk_at "go"
      exact fin _ enT hr
    | some es =>
      have hs := tSl_some (q := q) (n := 0) hT
      rw [show 0 + (n / 16).toNat = (n / 16).toNat by omega] at hs
      have hat : atI (tSl T q 0) (n / 16) = some (.r (.ref (q (n / 16).toNat))) := by unfold atI; rw [hix]; exact hs
      obtain ⟨hel, hed⟩ := ht.leaf _ _ hT
      have hi2 : ixN (es.map Sl.d).length (n % 16) = some (n % 16).toNat := ixN_in (by rw [List.length_map, hel]; omega)
      refine dss_cut (I := fun ρ' r' => ρ' = [.r (.ref p), .d (.int n), .r (.ref (q (n / 16).toNat))] ∧ r' = [insM C p [("uppers", .r (.ref lu))], lstM lu (tSl T q 0), lvM T q, fr]) ?_ ?_
      · walk_at "go"
        exact ⟨rfl, rfl⟩
      rintro _ _ ⟨rfl, rfl⟩
      refine dss_ent (rs2 := [lvM T q, insM C p [("uppers", .r (.ref lu))], lstM lu (tSl T q 0), fr]) (ent_has (by walk_at "grab")) ?_
      refine dss_ent (lv_out hT) ?_
      have hed2 : ∀ d ∈ es.set (n % 16).toNat .none, d = .none ∨ ∃ n, d = .int n := fun d hd => by
        rcases List.mem_or_eq_of_mem_set hd with h | h
        · exact hed d h
        · exact .inl h
      have hes := shaped_es hed2
      have hrs : SeqAt.shaped (.list (List.replicate 16 PyData.none)) = true := shaped_es fun d hd => .inl (List.eq_of_mem_replicate hd)
      have etp := tSl_put (q := q) (n := 0) (es' := es.set (n % 16).toNat .none) hT
      have etc := tSl_clr (T := T) (q := q) (n := 0) (i := (n / 16).toNat) hu
      walk_at "go"
      rw [show List.replicate (Int.toNat 16) (Sl.d PyData.none) = (List.replicate 16 PyData.none).map .d from List.map_replicate.symm, show (es.map Sl.d).set (n % 16).toNat (.d .none) = (es.set (n % 16).toNat .none).map .d from (List.map_set ..).symm]
      refine od_eqv (view_own (by walk_at "pick")) (view_own (by walk_at "pick")) hes hrs ?_
      walk_at "go"
      refine ite_b (fun h => ?_) (fun h => ?_)
      · rw [show tstr T n = T.set (n / 16).toNat none by unfold tstr; rw [hT]; show T.set _ (if _ = true then _ else _) = _; rw [if_pos h]] at hr
        walk_at "go"
        rw [etc]
        exact ⟨[tabM C p _], ent_trans (ent_has (Bs := [insM C p [("uppers", .r (.ref lu))], lstM lu (tSl (T.set (n / 16).toNat none) q 0), lvM (T.set (n / 16).toNat none) q, fr]) (by walk_at "grab")) enT, hr⟩
      · rw [show tstr T n = T.set (n / 16).toNat (some (es.set (n % 16).toNat .none)) by unfold tstr; rw [hT]; show T.set _ (if _ = true then _ else _) = _; rw [if_neg (by rw [h]; exact Bool.false_ne_true)]] at hr
        walk_at "go"
        rw [← etp]
        exact ⟨[tabM C p _], ent_trans (ent_has (Bs := [lstM (q (n / 16).toNat) ((es.set (n % 16).toNat .none).map .d), lvM (T.set (n / 16).toNat none) q, insM C p [("uppers", .r (.ref lu))], lstM lu (tSl (T.set (n / 16).toNat (some (es.set (n % 16).toNat .none))) q 0), fr]) (by walk_at "grab")) (ent_trans (lv_back hu) (ent_trans (ent_has (Bs := [insM C p [("uppers", .r (.ref lu))], lstM lu (tSl (T.set (n / 16).toNat (some (es.set (n % 16).toNat .none))) q 0), lvM (T.set (n / 16).toNat (some (es.set (n % 16).toNat .none))) q, fr]) (by walk_at "grab")) enT)), hr⟩
def K_Table___init__ (C : Addr) : Cn := fun ss rin res _ => ∃ (p : Addr), ss = [.r (.ref p)] ∧ rin = [insM C p []] ∧ True ∧ res (.d .none) [tabM C p (List.replicate 16 none)]
theorem ok_Table___init__ {t : Tok} (hK : m.K = KC.K) (bl : Bl m.mg) {f fd} (F : Fun m.K "__init__" "Table.__init__" s_Table___init__ f fd) (hF : m.mg "FAN_tables" = some (.int 16 t)) (oc : ObjC m C ["uppers"]) :
    FnOk m.P m.w m.K m.mg m.base (L2.CX m.P m.w) 1 f fd ["self"] (spC (K_Table___init__ C)) := by
  refine fn_ok F f_Table___init__ e_Table___init__ bl hK (by rintro _ _ _ _ ⟨_, rfl, _⟩; rfl) 0 rfl ?_
  rintro ss rin fr res exc c hC
  obtain ⟨p, rfl, rfl, _, hr⟩ := hC
  walk_at "st"; walk_at "go"
  rename_i a
  exact ⟨[tabM C p (List.replicate 16 none)], ent_trans (ent_none (q := fun _ => a)) (ent_trans (ent_has (Bs := [insM C p [("uppers", .r (.ref a))], lstM a (tSl (List.replicate 16 none) (fun _ => a) 0), lvM (List.replicate 16 none) (fun _ => a), fr]) (by
    rw [show tSl (List.replicate 16 none) (fun _ => a) 0 = List.replicate (Int.toNat 16) (Sl.d PyData.none) from rfl]
    walk_at "grab")) enT), hr⟩
def K_Table_pages (C : Addr) : Cn := fun ss rin res _ => ∃ (p : Addr) (T : Tb), ss = [.r (.ref p)] ∧ rin = [tabM C p T] ∧ TOk T ∧ ∀ q, res (.r (.ref q)) [lstM q (((tpg T 256).map PyData.int).map .d), tabM C p T]
end

section
variable [KC]
theorem getD_at {es : List PyData} {i : Nat} {d v : PyData} (j : Nat) (hi : i < es.length) : (es.set i d).getD j v = if j = i then d else es.getD j v := by
  rw [List.getD_eq_getElem?_getD, List.getD_eq_getElem?_getD, List.getElem?_set]
  by_cases e : i = j
  · subst e; rw [if_pos rfl, if_pos rfl, if_pos hi]; rfl
  · rw [if_neg e, if_neg (fun z => e z.symm)]
theorem rep_getD (j : Nat) : (List.replicate 16 PyData.none).getD j .none = .none := by
  rw [List.getD_eq_getElem?_getD, List.getElem?_replicate]
  split <;> rfl
/-- the leaf of a page -/
def leafT (T : Tb) (n : Int) : List PyData := match T[(n / 16).toNat]? with
  | some (some es) => es
  | _ => List.replicate 16 PyData.none
theorem tget_leaf (T : Tb) (n : Int) : tget T n = (leafT T n).getD (n % 16).toNat .none := by
  unfold tget leafT
  cases T[(n / 16).toNat]? with
  | none => exact (rep_getD _).symm
  | some o =>
    cases o with
    | none => exact (rep_getD _).symm
    | some es => rfl
theorem leaf_len {T : Tb} (h : TOk T) (n : Int) : (leafT T n).length = 16 := by
  unfold leafT
  split
  · rename_i es he; exact (h.leaf _ _ he).1
  · simp
theorem leaf_ok {T : Tb} (h : TOk T) (n : Int) : ∀ d ∈ leafT T n, d = .none ∨ ∃ k, d = .int k := by
  unfold leafT
  split
  · rename_i es he; exact (h.leaf _ _ he).2
  · intro d hd; exact .inl (List.eq_of_mem_replicate hd)
theorem tput_eq (T : Tb) (n : Int) (d : PyData) : tput T n d = T.set (n / 16).toNat (some ((leafT T n).set (n % 16).toNat d)) := rfl
theorem tput_ok {T : Tb} (h : TOk T) {n s : Int} : TOk (tput T n (.int s)) := by
  rw [tput_eq]
  refine ⟨by rw [List.length_set]; exact h.len, fun i es he => ?_⟩
  rw [List.getElem?_set] at he
  split at he
  · split at he
    · cases he
      refine ⟨by rw [List.length_set]; exact leaf_len h n, fun d hd => ?_⟩
      rcases List.mem_or_eq_of_mem_set hd with q | q
      · exact leaf_ok h n d q
      · exact .inr ⟨s, q⟩
    · cases he
  · exact h.leaf i es he
theorem tget_put {T : Tb} (h : TOk T) {n m : Int} {d : PyData} (hn : 0 ≤ n ∧ n < 256) (hm : 0 ≤ m ∧ m < 256) : tget (tput T n d) m = if m = n then d else tget T m := by
  have hl := leaf_len h n
  rw [tput_eq]
  by_cases eu : (m / 16).toNat = (n / 16).toNat
  · have e1 : tget (T.set (n / 16).toNat (some ((leafT T n).set (n % 16).toNat d))) m = ((leafT T n).set (n % 16).toNat d).getD (m % 16).toNat .none := by
      unfold tget
      rw [eu, set_at (by rw [h.len]; omega)]
    rw [e1, getD_at _ (by rw [hl]; omega)]
    have e2 : leafT T n = leafT T m := by unfold leafT; rw [eu]
    by_cases em : m = n
    · rw [if_pos (by rw [em]), if_pos em]
    · rw [if_neg (by omega), if_neg em, tget_leaf, e2]
  · rw [if_neg (fun z => eu (by rw [z]))]
    unfold tget
    rw [List.getElem?_set, if_neg (fun z => eu z.symm)]
theorem eqv_none {es : List PyData} (h : ∀ d ∈ es, d = .none ∨ ∃ k, d = .int k) : ∀ k, PyData.eqvAll es (List.replicate k PyData.none) = true → ∀ d ∈ es, d = .none := by
  induction es with
  | nil => intro k _ d hd; cases hd
  | cons e es ih =>
    intro k hk
    cases k with
    | zero => rw [List.replicate_zero] at hk; simp [PyData.eqvAll] at hk
    | succ k =>
      rw [List.replicate_succ] at hk
      unfold PyData.eqvAll at hk
      rw [Bool.and_eq_true] at hk
      have he : e = .none := by
        rcases h e List.mem_cons_self with q | ⟨j, q⟩
        · exact q
        · rw [q] at hk; exact absurd hk.1 (by unfold PyData.eqv; exact Bool.false_ne_true)
      intro d hd
      rcases List.mem_cons.mp hd with q | q
      · rw [q]; exact he
      · exact ih (fun d hd => h d (List.mem_cons_of_mem _ hd)) k hk.2 d q
theorem all_none {es : List PyData} (h : ∀ d ∈ es, d = .none) (j : Nat) : es.getD j .none = .none := by
  rw [List.getD_eq_getElem?_getD]
  cases e : es[j]? with
  | none => rfl
  | some d => exact h d (List.mem_of_getElem? e)
theorem tstr_some {T : Tb} {n : Int} {es : List PyData} (he : T[(n / 16).toNat]? = some (some es)) : tstr T n = T.set (n / 16).toNat (if PyData.eqv (.list (es.set (n % 16).toNat .none)) (.list (List.replicate 16 PyData.none)) = true then none else some (es.set (n % 16).toNat .none)) := by
  unfold tstr; rw [he]
theorem tstr_no {T : Tb} {n : Int} (he : T[(n / 16).toNat]? = some none) : tstr T n = T := by
  unfold tstr; rw [he]
theorem tstr_ok {T : Tb} (h : TOk T) {n : Int} (hn : 0 ≤ n ∧ n < 256) : TOk (tstr T n) := by
  cases he : T[(n / 16).toNat]? with
  | none => rw [List.getElem?_eq_none_iff, h.len] at he; omega
  | some o =>
    cases o with
    | none => rw [tstr_no he]; exact h
    | some es =>
      rw [tstr_some he]
      refine ⟨by rw [List.length_set]; exact h.len, fun i es2 h2 => ?_⟩
      rw [List.getElem?_set] at h2
      split at h2
      · split at h2
        · have h3 := Option.some.inj h2
          split at h3
          · cases h3
          · cases h3
            obtain ⟨a, b⟩ := h.leaf _ _ he
            refine ⟨by rw [List.length_set]; exact a, fun d hd => ?_⟩
            rcases List.mem_or_eq_of_mem_set hd with q | q
            · exact b d q
            · exact .inl q
        · cases h2
      · exact h.leaf i es2 h2
theorem tget_str {T : Tb} (h : TOk T) {n m : Int} (hn : 0 ≤ n ∧ n < 256) (hm : 0 ≤ m ∧ m < 256) : tget (tstr T n) m = if m = n then .none else tget T m := by
  cases he : T[(n / 16).toNat]? with
  | none => rw [List.getElem?_eq_none_iff, h.len] at he; omega
  | some o =>
    cases o with
    | none =>
      rw [tstr_no he]
      by_cases em : m = n
      · rw [if_pos em, em]; unfold tget; rw [he]
      · rw [if_neg em]
    | some es =>
      obtain ⟨hl, hd⟩ := h.leaf _ _ he
      rw [tstr_some he]
      by_cases eu : (m / 16).toNat = (n / 16).toNat
      · have e3 : tget T m = es.getD (m % 16).toNat .none := by unfold tget; rw [eu, he]
        have e4 : (es.set (n % 16).toNat .none).getD (m % 16).toNat .none = if m = n then .none else tget T m := by
          rw [getD_at _ (by rw [hl]; omega), e3]
          by_cases em : m = n
          · rw [if_pos (by rw [em]), if_pos em]
          · rw [if_neg (by omega), if_neg em]
        rw [← e4]
        unfold tget
        rw [eu, set_at (by rw [h.len]; omega)]
        split
        · rename_i es2 h2
          split at h2
          · cases h2
          · cases h2; rfl
        · rename_i h2
          split at h2
          · rename_i hq
            refine (all_none ?_ _).symm
            refine eqv_none (fun d q => ?_) 16 (by unfold PyData.eqv at hq; exact hq)
            rcases List.mem_or_eq_of_mem_set q with q | q
            · exact hd d q
            · exact .inl q
          · exact absurd rfl (h2 _)
      · have em : ¬ m = n := fun z => eu (by rw [z])
        rw [if_neg em]
        unfold tget
        rw [List.getElem?_set, if_neg (fun z => eu z.symm)]
end

section
variable [KC]
theorem rising_eq : ∀ {a b : List Int}, a.Pairwise (· < ·) → b.Pairwise (· < ·) → (∀ x, x ∈ a ↔ x ∈ b) → a = b
  | [], [], _, _, _ => rfl
  | [], y :: b, _, _, h => absurd ((h y).mpr List.mem_cons_self) List.not_mem_nil
  | x :: a, [], _, _, h => absurd ((h x).mp List.mem_cons_self) List.not_mem_nil
  | x :: a, y :: b, ha, hb, h => by
    have ha1 := List.pairwise_cons.mp ha
    have hb1 := List.pairwise_cons.mp hb
    have e : x = y := by
      rcases List.mem_cons.mp ((h x).mp List.mem_cons_self) with q | q
      · exact q
      · rcases List.mem_cons.mp ((h y).mpr List.mem_cons_self) with r | r
        · exact r.symm
        · have := hb1.1 x q
          have := ha1.1 y r
          omega
    subst e
    rw [rising_eq ha1.2 hb1.2 fun z => ?_]
    constructor
    · intro q
      rcases List.mem_cons.mp ((h z).mp (List.mem_cons_of_mem _ q)) with r | r
      · have := ha1.1 z q; omega
      · exact r
    · intro q
      rcases List.mem_cons.mp ((h z).mpr (List.mem_cons_of_mem _ q)) with r | r
      · have := hb1.1 z q; omega
      · exact r
theorem tpg_rising (T : Tb) (k : Nat) : (tpg T k).Pairwise (· < ·) := by
  unfold tpg
  rw [List.pairwise_map]
  refine List.Pairwise.imp (R := (· < ·)) (fun h => Int.ofNat_lt.mpr h) ?_
  exact List.Pairwise.filter _ List.pairwise_lt_range
theorem tpg_mem (T : Tb) (x : Int) : x ∈ tpg T 256 ↔ 0 ≤ x ∧ x < 256 ∧ hasT T x.toNat = true := by
  unfold tpg
  rw [List.mem_map]
  constructor
  · rintro ⟨n, hn, rfl⟩
    rw [List.mem_filter, List.mem_range] at hn
    exact ⟨Int.natCast_nonneg _, by have := hn.1; show ((n : Nat) : Int) < 256; omega, hn.2⟩
  · rintro ⟨h1, h2, h3⟩
    exact ⟨x.toNat, by rw [List.mem_filter, List.mem_range]; exact ⟨by omega, h3⟩, by show ((x.toNat : Nat) : Int) = x; omega⟩
theorem sorted_eq {l ks ys : List Int} (hn : ks.Nodup) (hl : l.Pairwise (· < ·)) (hm : ∀ x, x ∈ l ↔ x ∈ ks) (hp : ys.Perm ks) (hs : ys.Pairwise (· ≤ ·)) : ys = l := by
  have h1 : ys.Nodup := hp.nodup_iff.mpr hn
  have h2 : ys.Pairwise (· < ·) := (hs.and h1).imp fun ⟨a, b⟩ => by omega
  exact rising_eq h2 hl fun x => (hp.mem_iff).trans (hm x).symm
structure Agr (T : Tb) (kvs : DKv) : Prop where
  ok : TOk T
  val : ∀ n : Int, 0 ≤ n ∧ n < 256 → (valS kvs (.inl n)).getD (.d .none) = .d (tget T n)
  keys : ∃ ks : List Int, kvs.map (·.1) = ks.map Sum.inl ∧ ks.Nodup ∧ ∀ n ∈ ks, 0 ≤ n ∧ n < 256
  pl : ∀ k s, valS kvs k = some s → ∃ n : Int, s = .d (.int n)
theorem tget_ok {T : Tb} (h : TOk T) (n : Int) : tget T n = .none ∨ ∃ k, tget T n = .int k := by
  rw [tget_leaf, List.getD_eq_getElem?_getD]
  cases e : (leafT T n)[(n % 16).toNat]? with
  | none => exact .inl rfl
  | some d => exact leaf_ok h n d (List.mem_of_getElem? e)
theorem Agr.no {T : Tb} {kvs : DKv} (a : Agr T kvs) (k : Key) : ∀ s, valS kvs k = some s → ∀ ds, s ≠ .n ds := fun s h ds e => by
  obtain ⟨n, q⟩ := a.pl k s h
  rw [e] at q; cases q
end

section
variable [KC]
theorem valS_cons (p : Key × Sl) (r : DKv) (k : Key) : valS (p :: r) k = if p.1 = k then some p.2 else valS r k := by
  unfold valS
  rw [List.find?_cons]
  by_cases e : p.1 = k
  · rw [decide_eq_true e, if_pos e]; rfl
  · rw [decide_eq_false e, if_neg e]
theorem valS_any (k : Key) : ∀ kvs : DKv, (kvs.any fun kv => decide (kv.1 = k)) = (valS kvs k).isSome
  | [] => rfl
  | p :: r => by
    rw [List.any_cons, valS_cons, valS_any k r]
    by_cases e : p.1 = k
    · rw [decide_eq_true e, if_pos e]; rfl
    · rw [decide_eq_false e, if_neg e]; rfl
theorem valS_map (k j : Key) (s : Sl) : ∀ kvs : DKv, valS (kvs.map fun kv => if kv.1 = k then (kv.1, s) else kv) j = (valS kvs j).map fun x => if j = k then s else x
  | [] => rfl
  | p :: r => by
    rw [List.map_cons, valS_cons, valS_cons, valS_map k j s r]
    by_cases e : p.1 = k
    · rw [if_pos e]
      by_cases ej : p.1 = j
      · rw [if_pos ej, if_pos ej, Option.map_some, if_pos (ej.symm.trans e)]
      · rw [if_neg ej, if_neg ej]
    · rw [if_neg e]
      by_cases ej : p.1 = j
      · rw [if_pos ej, if_pos ej, Option.map_some, if_neg fun z => e (ej.trans z)]
      · rw [if_neg ej, if_neg ej]
theorem valS_snoc (k j : Key) (s : Sl) : ∀ kvs : DKv, valS (kvs ++ [(k, s)]) j = (valS kvs j).or (if k = j then some s else none)
  | [] => by rw [List.nil_append, valS_cons]; rfl
  | p :: r => by
    rw [List.cons_append, valS_cons, valS_cons, valS_snoc k j s r]
    by_cases e : p.1 = j
    · rw [if_pos e, if_pos e]; rfl
    · rw [if_neg e, if_neg e]
theorem valS_put (kvs : DKv) (k j : Key) (s : Sl) : valS (putS kvs k s) j = if j = k then some s else valS kvs j := by
  unfold putS
  rw [valS_any]
  cases h : valS kvs k with
  | some x =>
    rw [Option.isSome_some, if_pos rfl, valS_map]
    by_cases e : j = k
    · rw [if_pos e, e, h, Option.map_some, if_pos rfl]
    · rw [if_neg e]
      cases valS kvs j with
      | none => rfl
      | some y => rw [Option.map_some, if_neg e]
  | none =>
    rw [Option.isSome_none, if_neg Bool.false_ne_true, valS_snoc]
    by_cases e : j = k
    · rw [if_pos e, e, h, if_pos rfl]; rfl
    · rw [if_neg e, if_neg fun z => e z.symm]
      cases valS kvs j <;> rfl
theorem valS_drop (k j : Key) : ∀ kvs : DKv, valS (dropS kvs k) j = if j = k then none else valS kvs j
  | [] => by unfold dropS; split <;> rfl
  | p :: r => by
    have ih := valS_drop k j r
    unfold dropS at ih ⊢
    rw [List.filter_cons, valS_cons]
    by_cases e : p.1 = k
    · rw [if_neg (by simp [e]), ih]
      by_cases ej : j = k
      · rw [if_pos ej, if_pos ej]
      · rw [if_neg ej, if_neg ej, if_neg fun z => ej (z.symm.trans e)]
    · rw [if_pos (by simp [e]), valS_cons, ih]
      by_cases ej : j = k
      · rw [if_pos ej, if_pos ej, if_neg fun z => e (z.trans ej)]
      · rw [if_neg ej, if_neg ej]
theorem keys_put (kvs : DKv) (k : Key) (s : Sl) : (putS kvs k s).map (·.1) = if (valS kvs k).isSome = true then kvs.map (·.1) else kvs.map (·.1) ++ [k] := by
  unfold putS
  rw [valS_any]
  split
  · rw [List.map_map]
    refine List.map_congr_left fun p _ => ?_
    show (if p.1 = k then (p.1, s) else p).1 = p.1
    split <;> rfl
  · rw [List.map_append]; rfl
theorem keys_drop (kvs : DKv) (k : Key) : (dropS kvs k).map (·.1) = (kvs.map (·.1)).filter fun j => decide (j ≠ k) := by
  unfold dropS
  rw [List.filter_map]; rfl
theorem valS_mem (k : Key) : ∀ kvs : DKv, (valS kvs k).isSome = true ↔ k ∈ kvs.map (·.1)
  | [] => by simp [valS]
  | p :: r => by
    rw [valS_cons, List.map_cons, List.mem_cons, ← valS_mem k r]
    by_cases e : p.1 = k
    · rw [if_pos e]; simp [e]
    · rw [if_neg e]
      constructor
      · exact .inr
      · rintro (q | q)
        · exact absurd q.symm e
        · exact q
theorem Agr.put {T : Tb} {kvs : DKv} (a : Agr T kvs) {n s : Int} (hn : 0 ≤ n ∧ n < 256) : Agr (tput T n (.int s)) (putS kvs (.inl n) (.d (.int s))) := by
  obtain ⟨ks, h1, h2, h3⟩ := a.keys
  refine ⟨tput_ok a.ok, fun m hm => ?_, ?_, fun k x h => ?_⟩
  · rw [valS_put, tget_put a.ok hn hm]
    by_cases e : m = n
    · rw [if_pos (by rw [e]), if_pos e]; rfl
    · rw [if_neg (fun z => e (Sum.inl.inj z)), if_neg e]; exact a.val m hm
  · by_cases hv : (valS kvs (.inl n)).isSome = true
    · exact ⟨ks, by rw [keys_put, if_pos hv, h1], h2, h3⟩
    · refine ⟨ks ++ [n], by rw [keys_put, if_neg hv, h1, List.map_append]; rfl, ?_, fun x hx => ?_⟩
      · rw [List.nodup_append]
        refine ⟨h2, by simp, fun x hx y hy => ?_⟩
        rw [List.mem_singleton.mp hy]
        rintro rfl
        exact hv ((valS_mem _ _).mpr (by rw [h1]; exact List.mem_map_of_mem hx))
      · rcases List.mem_append.mp hx with q | q
        · exact h3 x q
        · rw [List.mem_singleton.mp q]; exact hn
  · rw [valS_put] at h
    split at h
    · cases h; exact ⟨s, rfl⟩
    · exact a.pl k x h
theorem Agr.drop {T : Tb} {kvs : DKv} (a : Agr T kvs) {n : Int} (hn : 0 ≤ n ∧ n < 256) : Agr (tstr T n) (dropS kvs (.inl n)) := by
  obtain ⟨ks, h1, h2, h3⟩ := a.keys
  refine ⟨tstr_ok a.ok hn, fun m hm => ?_, ⟨ks.filter fun j => decide (j ≠ n), ?_, h2.filter _, fun x hx => h3 x (List.mem_filter.mp hx).1⟩, fun k x h => ?_⟩
  · rw [valS_drop, tget_str a.ok hn hm]
    by_cases e : m = n
    · rw [if_pos (by rw [e]), if_pos e]; rfl
    · rw [if_neg (fun z => e (Sum.inl.inj z)), if_neg e]; exact a.val m hm
  · rw [keys_drop, h1, List.filter_map]
    congr 1
    refine List.filter_congr fun j _ => ?_
    show decide (Sum.inl j ≠ (Sum.inl n : Key)) = decide (j ≠ n)
    by_cases e : j = n
    · simp [e]
    · simp [e]
  · rw [valS_drop] at h
    split at h
    · cases h
    · exact a.pl k x h
theorem Agr.mem {T : Tb} {kvs : DKv} (a : Agr T kvs) {ks : List Int} (hk : kvs.map (·.1) = ks.map Sum.inl) (x : Int) (hb : ∀ n ∈ ks, 0 ≤ n ∧ n < 256) : x ∈ tpg T 256 ↔ x ∈ ks := by
  have key : x ∈ ks ↔ (valS kvs (.inl x)).isSome = true := by
    rw [valS_mem, hk, List.mem_map]
    constructor
    · intro h; exact ⟨x, h, rfl⟩
    · rintro ⟨y, h, e⟩; cases e; exact h
  rw [tpg_mem, key]
  by_cases hx : 0 ≤ x ∧ x < 256
  · have hv := a.val x hx
    have ex : ((x.toNat : Nat) : Int) = x := by omega
    unfold hasT
    rw [ex]
    cases h : valS kvs (.inl x) with
    | none =>
      rw [h] at hv
      have : tget T x = .none := by
        have hv : Sl.d .none = .d (tget T x) := hv
        injection hv with hv
        exact hv.symm
      rw [this]; simp
    | some y =>
      obtain ⟨n, rfl⟩ := a.pl _ _ h
      rw [h] at hv
      have : tget T x = .int n := by
        have hv : Sl.d (.int n) = .d (tget T x) := hv
        injection hv with hv
        exact hv.symm
      rw [this]; simp [hx]
  · constructor
    · intro h; exact absurd ⟨h.1, h.2.1⟩ hx
    · intro h; exact absurd (hb x (key.mpr h)) hx
theorem agr_new : Agr (List.replicate 16 none) [] := ⟨⟨rfl, fun i es h => by
    rw [List.getElem?_replicate] at h
    split at h <;> cases h⟩, fun n hn => by
    have : tget (List.replicate 16 none) n = .none := by
      unfold tget
      rw [List.getElem?_replicate]
      split <;> rename_i h
      · split at h <;> cases h
      · rfl
    rw [this]; rfl, ⟨[], rfl, List.nodup_nil, fun _ h => (List.not_mem_nil h).elim⟩, fun k s h => by cases h⟩
end

section
variable [KC]
theorem drop_no {kvs : DKv} {k : Key} (h : valS kvs k = none) : dropS kvs k = kvs := by
  unfold dropS
  refine List.filter_eq_self.mpr fun p hp => decide_eq_true fun e => ?_
  have : (valS kvs k).isSome = true := (valS_mem k kvs).mpr (by rw [← e]; exact List.mem_map_of_mem hp)
  rw [h] at this; cases this
theorem put_len (kvs : DKv) (k : Key) (s : Sl) : (putS kvs k s).length ≤ kvs.length + 1 := by
  unfold putS
  split
  · rw [List.length_map]; omega
  · rw [List.length_append]; exact Nat.le_refl _
theorem valS_at {k : Key} {s : Sl} : ∀ {kvs : DKv}, (kvs.map (·.1)).Nodup → (k, s) ∈ kvs → valS kvs k = some s
  | [], _, h => nomatch h
  | p :: r, hn, h => by
    rw [List.map_cons, List.nodup_cons] at hn
    rw [valS_cons]
    rcases List.mem_cons.mp h with h | h
    · rw [← h, if_pos rfl]
    · rw [if_neg fun e => hn.1 (by rw [e]; exact List.mem_map_of_mem (f := (·.1)) h)]
      exact valS_at hn.2 h
theorem Agr.nol {T : Tb} {kvs : DKv} (a : Agr T kvs) : noSA (kvs.map (·.2)) := fun s hs => by
  obtain ⟨⟨k, s2⟩, h, rfl⟩ := List.mem_map.mp hs
  obtain ⟨ks, h1, h2, _⟩ := a.keys
  have hn : (kvs.map (·.1)).Nodup := by
    rw [h1]
    unfold List.Nodup
    rw [List.pairwise_map]
    exact h2.imp fun h e => h (Sum.inl.inj e)
  obtain ⟨n, e⟩ := a.pl k s2 (valS_at hn h)
  dsimp only
  rw [e]; rfl
end

section
variable [KC]
/-- no leaf without a way -/
def TNe (T : Tb) : Prop := ∀ (i : Nat) (es : List PyData), T[i]? = some (some es) → ∃ d ∈ es, d ≠ .none
def leafB (T : Tb) (u : Nat) : Bool := match T[u]? with
  | some (some _) => true
  | _ => false
def leafL (T : Tb) (u : Nat) : List PyData := match T[u]? with
  | some (some es) => es
  | _ => []
def leafD (T : Tb) (u : Nat) : PyData := .tuple [.int (u : Nat), .list (leafL T u)]
def leavesD (T : Tb) : List PyData := ((List.range 16).filter (leafB T)).map (leafD T)
theorem tne_new : TNe (List.replicate 16 none) := fun i es h => by
  rw [List.getElem?_replicate] at h
  split at h <;> cases h
theorem tne_put {T : Tb} (h : TOk T) (hn : TNe T) {n s : Int} (hb : 0 ≤ n ∧ n < 256) : TNe (tput T n (.int s)) := fun i es he => by
  rw [tput_eq, List.getElem?_set] at he
  by_cases e : (n / 16).toNat = i
  · rw [if_pos e] at he
    split at he
    · cases he
      have hl := leaf_len h n
      exact ⟨.int s, List.mem_iff_getElem?.mpr ⟨(n % 16).toNat, by rw [List.getElem?_set, if_pos rfl, if_pos (by omega)]⟩, by intro z; cases z⟩
    · cases he
  · rw [if_neg e] at he
    exact hn i es he
theorem eqv_rep : ∀ k, PyData.eqvAll (List.replicate k PyData.none) (List.replicate k PyData.none) = true
  | 0 => rfl
  | k + 1 => by rw [List.replicate_succ]; show (PyData.eqv .none .none && _) = true; rw [eqv_rep k]; rfl
theorem all_rep16 {es : List PyData} (hl : es.length = 16) (h : ∀ d ∈ es, d = .none) : es = List.replicate 16 .none := List.eq_replicate_iff.mpr ⟨hl, h⟩
theorem eqv_some {es : List PyData} (hl : es.length = 16) (hk : ∀ d ∈ es, d = .none ∨ ∃ k, d = .int k) (h : ∃ d ∈ es, d ≠ .none) : PyData.eqv (.list es) (.list (List.replicate 16 PyData.none)) = false := by
  cases e : PyData.eqv (.list es) (.list (List.replicate 16 PyData.none)) with
  | false => rfl
  | true =>
    obtain ⟨d, hd, hn⟩ := h
    exact absurd (eqv_none hk 16 (by simpa only [PyData.eqv] using e) d hd) hn
theorem tne_str {T : Tb} (h : TOk T) (hn : TNe T) {n : Int} (hb : 0 ≤ n ∧ n < 256) : TNe (tstr T n) := fun i es he => by
  have hu : (n / 16).toNat < T.length := by rw [h.len]; omega
  cases hT : T[(n / 16).toNat]? with
  | none => rw [List.getElem?_eq_none_iff] at hT; omega
  | some o =>
    cases o with
    | none => rw [tstr_no hT] at he; exact hn i es he
    | some es0 =>
      rw [tstr_some hT, List.getElem?_set] at he
      by_cases e : (n / 16).toNat = i
      · rw [if_pos e, if_pos hu] at he
        split at he
        · cases he
        · rename_i hne
          cases he
          obtain ⟨hel, hed⟩ := h.leaf _ _ hT
          refine Classical.byContradiction fun hno => hne ?_
          have : es0.set (n % 16).toNat .none = List.replicate 16 .none := all_rep16 (by rw [List.length_set]; exact hel) fun d hd => Classical.byContradiction fun z => hno ⟨d, hd, z⟩
          rw [this]
          show PyData.eqvAll _ _ = true
          exact eqv_rep 16
      · rw [if_neg e] at he
        exact hn i es he
theorem leaf_at {T : Tb} (h : TOk T) {u : Nat} (hu : u < 16) : (T[u]? = some none ∧ leafB T u = false) ∨ ∃ es, T[u]? = some (some es) ∧ leafB T u = true ∧ leafL T u = es ∧ es.length = 16 ∧ ∀ d ∈ es, d = .none ∨ ∃ k, d = .int k := by
  cases hT : T[u]? with
  | none => rw [List.getElem?_eq_none_iff, h.len] at hT; omega
  | some o =>
    cases o with
    | none => exact .inl ⟨rfl, by unfold leafB; rw [hT]⟩
    | some es => exact .inr ⟨es, rfl, by unfold leafB; rw [hT], by unfold leafL; rw [hT], h.leaf _ _ hT⟩
theorem tget_es {T : Tb} {u l : Nat} {es : List PyData} (h : T[u]? = some (some es)) (hl : l < 16) : tget T ((16 * u + l : Nat) : Int) = es.getD l .none := by
  unfold tget
  rw [show (((16 * u + l : Nat) : Int) / 16).toNat = u by omega, h]
  show es.getD _ _ = _
  rw [show (((16 * u + l : Nat) : Int) % 16).toNat = l by omega]
theorem tget_no {T : Tb} {u l : Nat} (h : T[u]? = some none) (hl : l < 16) : tget T ((16 * u + l : Nat) : Int) = .none := by
  unfold tget
  rw [show (((16 * u + l : Nat) : Int) / 16).toNat = u by omega, h]
theorem es_map {es : List PyData} (hl : es.length = 16) : (List.range 16).map (fun l => es.getD l .none) = es := by
  refine List.ext_getElem? fun j => ?_
  by_cases hj : j < 16
  · rw [List.getElem?_map, List.getElem?_range hj, Option.map_some, List.getD_eq_getElem?_getD, List.getElem?_eq_getElem (by omega)]; rfl
  · rw [List.getElem?_eq_none (by rw [List.length_map, List.length_range]; omega), List.getElem?_eq_none (by omega)]
theorem tb_ext {T S : Tb} (h : TOk T) (k : TOk S) (hn : TNe T) (kn : TNe S) (e : ∀ n : Nat, n < 256 → tget T n = tget S n) : T = S := by
  refine List.ext_getElem? fun u => ?_
  by_cases hu : u < 16
  · have key : ∀ {A B : Tb}, (∀ l : Nat, l < 16 → tget A ((16 * u + l : Nat) : Int) = tget B ((16 * u + l : Nat) : Int)) → A[u]? = some none → ∀ es, B[u]? = some (some es) → es.length = 16 → (∃ d ∈ es, d ≠ .none) → False := fun ee hA es hB hl ⟨d, hd, hdn⟩ => by
      obtain ⟨j, hj⟩ := List.mem_iff_getElem?.mp hd
      have hjl : j < 16 := by have := (List.getElem?_eq_some_iff.mp hj).choose; omega
      have := ee j hjl
      rw [tget_no hA hjl, tget_es hB hjl, List.getD_eq_getElem?_getD, hj] at this
      exact hdn this.symm
    have e2 : ∀ l : Nat, l < 16 → tget T ((16 * u + l : Nat) : Int) = tget S ((16 * u + l : Nat) : Int) := fun l hl => e _ (by omega)
    rcases leaf_at h hu with ⟨a1, _⟩ | ⟨es, a1, _, _, l1, _⟩ <;> rcases leaf_at k hu with ⟨b1, _⟩ | ⟨fs, b1, _, _, l2, _⟩
    · rw [a1, b1]
    · exact (key e2 a1 fs b1 l2 (kn _ _ b1)).elim
    · exact (key (fun l hl => (e2 l hl).symm) b1 es a1 l1 (hn _ _ a1)).elim
    · rw [a1, b1, ← es_map l1, ← es_map l2]
      congr 2
      refine List.map_congr_left fun l hl => ?_
      have hl := List.mem_range.mp hl
      rw [← tget_es a1 hl, ← tget_es b1 hl]
      exact e2 l hl
  · rw [List.getElem?_eq_none (by rw [h.len]; omega), List.getElem?_eq_none (by rw [k.len]; omega)]
end
section
variable [KC] {m : Mo} {C : Addr}
def K_Table_leaves (C : Addr) : Cn := fun ss rin res _ => ∃ (p : Addr) (T : Tb), ss = [.r (.ref p)] ∧ rin = [tabM C p T] ∧ TOk T ∧ res (.n (leavesD T)) [tabM C p T]
theorem ok_Table_leaves {t : Tok} (hK : m.K = KC.K) (bl : Bl m.mg) {f fd} (F : Fun m.K "leaves" "Table.leaves" s_Table_leaves f fd) (hF : m.mg "FAN_tables" = some (.int 16 t)) (oc : ObjC m C ["uppers"]) :
    FnOk m.P m.w m.K m.mg m.base (L2.CX m.P m.w) 1 f fd ["self"] (spC (K_Table_leaves C)) := by
  refine fn_ok F f_Table_leaves e_Table_leaves bl hK (by rintro _ _ _ _ ⟨_, _, rfl, _⟩; rfl) 1 rfl ?_
  rintro ss rin fr res exc c hC
  obtain ⟨p, T, rfl, rfl, ht, hr⟩ := hC
  walk_at "nrm"
  refine dss_open (fam := tabF C p T) [] fun z => ?_
  obtain ⟨lu, q⟩ := z
  dsimp only [tabF, List.nil_append, List.cons_append]
  refine dss_cons (ds_ret (dx_lc1 (by walk_at "ix") (blkOk_by (by decide +kernel)) (di_range1 ?_)))
  walk_at "go"
  refine ⟨16, rfl, by omega, Nat, List.range 16, fun k => .d (.int (0 + (k : Nat))), leafB T, leafD T, rfl, fun A => trivial, by decide, ⟨_, by walk_at "set", fun u hu => ⟨_, by walk_at "set", ?_, fun hb => ?_⟩⟩, ?_⟩
  · intro A s0 H0 C0 cl0 fp0 hso
    rw [List.mem_range] at hu
    have hix : ixN (tSl T q 0).length (0 + (u : Int)) = some u := by rw [ixN_in (by rw [tSl_len, ht.len]; omega)]; congr 1; omega
    rcases leaf_at ht hu with ⟨hT, hb⟩ | ⟨es, hT, hb, _⟩
    · have hat : atI (tSl T q 0) (0 + (u : Int)) = some (.d .none) := by unfold atI; rw [hix]; exact tSl_none hT
      rw [hb]
      walk_at "go"
      exact ⟨rfl, rfl⟩
    · have hs := tSl_some (q := q) (n := 0) hT
      rw [show 0 + u = u by omega] at hs
      have hat : atI (tSl T q 0) (0 + (u : Int)) = some (.r (.ref (q u))) := by unfold atI; rw [hix]; exact hs
      rw [hb]
      walk_at "go"
      exact ⟨rfl, rfl⟩
  · intro A s0 H0 C0 cl0 fp0 hso
    rw [List.mem_range] at hu
    have hix : ixN (tSl T q 0).length (0 + (u : Int)) = some u := by rw [ixN_in (by rw [tSl_len, ht.len]; omega)]; congr 1; omega
    rcases leaf_at ht hu with ⟨hT, hb2⟩ | ⟨es, hT, _, hL, _⟩
    · rw [hb] at hb2; cases hb2
    have hs := tSl_some (q := q) (n := 0) hT
    rw [show 0 + u = u by omega] at hs
    have hat : atI (tSl T q 0) (0 + (u : Int)) = some (.r (.ref (q u))) := by unfold atI; rw [hix]; exact hs
    refine dx_ent0 (rs2 := lvM T q :: [A, insM C p [("uppers", .r (.ref lu))], lstM lu (tSl T q 0), fr]) (ent_has (by walk_at "grab")) ?_
    refine dx_ent0 (lv_out hT) (dx_ent ?_)
    refine dx_tup (da_cons (dx_name (by walk_at "sl") (by exact fun e => nomatch e) (da_cons (dx_frz (dx_listU ?_)))))
    walk_at "go"
    refine ⟨_, ent_trans (lv_back (by rw [ht.len]; exact hu)) (by rw [set_same hT]; exact ent_has (by walk_at "grab")), ?_, rfl⟩
    unfold leafD
    rw [hL, Int.zero_add]
  · exact fin [tabM C p T] enT hr
end
section
variable [KC] {m : Mo} {C : Addr}
/-- S has the ways of T at the pages that w tells -/
structure Cop (T S : Tb) (w : Nat → Bool) : Prop where
  ok : TOk S
  ne : TNe S
  at_ : ∀ n : Nat, n < 256 → tget S n = if w n = true then tget T n else .none
theorem cop_skip {T S : Tb} {w w2 : Nat → Bool} (h : Cop T S w) (e : ∀ n : Nat, n < 256 → w2 n = w n ∨ tget T n = .none) : Cop T S w2 := ⟨h.ok, h.ne, fun n hn => by
  rw [h.at_ n hn]
  rcases e n hn with e | e
  · rw [e]
  · rw [e]; split <;> split <;> rfl⟩
theorem cop_put {T S : Tb} {w w2 : Nat → Bool} {k : Nat} {s : Int} (h : Cop T S w) (hk : k < 256) (hs : tget T k = .int s) (e : ∀ n : Nat, n < 256 → w2 n = (w n || decide (n = k))) : Cop T (tput S k (.int s)) w2 := ⟨tput_ok h.ok, tne_put h.ok h.ne (by omega), fun n hn => by
  rw [tget_put h.ok (by omega) (by omega), e n hn]
  by_cases ek : n = k
  · subst ek
    rw [if_pos rfl, decide_eq_true rfl, Bool.or_true, if_pos rfl, hs]
  · rw [if_neg (by omega), decide_eq_false ek, Bool.or_false, h.at_ n hn]⟩
theorem cop_end {T S : Tb} {w : Nat → Bool} (h : Cop T S w) (ht : TOk T) (hn : TNe T) (hw : ∀ n : Nat, n < 256 → w n = true) : S = T := tb_ext h.ok ht h.ne hn fun n hl => by
  rw [h.at_ n hl, if_pos (hw n hl)]
theorem tget_rep (n : Int) : tget (List.replicate 16 none) n = .none := by
  unfold tget
  rw [List.getElem?_replicate]
  split
  · rename_i h; split at h <;> cases h
  · rfl
theorem tok_new : TOk (List.replicate 16 none) := ⟨by rw [List.length_replicate], fun i es h => by
  rw [List.getElem?_replicate] at h
  split at h <;> cases h⟩
theorem cop_new (T : Tb) : Cop T (List.replicate 16 none) fun _ => false := ⟨tok_new, tne_new, fun n _ => by rw [tget_rep]; rfl⟩
def K_copy_of (C : Addr) : Cn := fun ss rin res _ => ∃ (p : Addr) (T : Tb), ss = [.r (.ref p)] ∧ rin = [tabM C p T] ∧ (TOk T ∧ TNe T) ∧ ∀ q, res (.r (.ref q)) [tabM C q T, tabM C p T]
end

/-! ### the steps -/
local macro_rules | `(tactic| walk_at "sl") => `(tactic| ((repeat with_reducible first | exact Slot.zero | apply Slot.succ); (first | (all_goals fail) | fail)))
local macro_rules | `(tactic| walk_at "set") => `(tactic| ((repeat with_reducible first | exact SetS.zero | apply SetS.succ); (first | (all_goals fail) | fail)))
local macro_rules | `(tactic| walk_at "ix") => `(tactic| ((repeat with_reducible first | exact IxOf.zero | apply IxOf.succ); (first | (all_goals fail) | fail)))
local macro_rules | `(tactic| walk_at "pick") => `(tactic| ((repeat with_reducible first | exact Pick.zero | apply Pick.succ); (first | (all_goals fail) | fail)))
local macro_rules | `(tactic| walk_at "fld") => `(tactic| ((repeat with_reducible first | exact FldAt.zero | apply FldAt.succ); (first | (all_goals fail) | fail)))
local macro_rules | `(tactic| walk_at "fset") => `(tactic| ((repeat with_reducible first | exact FldSet.zero | apply FldSet.succ); (first | (all_goals fail) | fail)))
local macro_rules | `(tactic| walk_at "grab") => `(tactic| (repeat (first | exact has_nil | refine has_cons (by ((repeat with_reducible first | exact Pick.zero | apply Pick.succ); (first | (all_goals fail) | fail))) ?_ | dsimp only [List.nil_append, List.cons_append, List.map_nil])))
local macro_rules | `(tactic| walk_at "pick2") => `(tactic| ((dsimp only [List.nil_append, List.cons_append]); ((repeat with_reducible first | exact Pick.zero | apply Pick.succ); (first | (all_goals fail) | fail))))
local macro_rules | `(tactic| walk_at "lent") => `(tactic| (repeat (first | exact LentS.nil | refine LentS.lend (by first | exact List.mem_cons_self | exact List.mem_cons_of_mem _ List.mem_cons_self) ?_ | refine LentS.eq ?_)))
local macro_rules | `(tactic| walk_at "datas") => `(tactic| ((repeat with_reducible first | exact datas_nil | apply datas_cons); (first | (all_goals fail) | fail)))
local macro_rules | `(tactic| walk_at "le0") => `(tactic| (repeat (first | exact Le.nil | (with_reducible apply Le.eq) | (with_reducible apply Le.un) | apply Le.eq)))
local macro_rules | `(tactic| walk_at "le") => `(tactic| ((repeat with_reducible first | exact Le.nil | apply Le.eq | apply Le.un); (first | (all_goals fail) | fail)))
local macro_rules | `(tactic| walk_at "num") => `(tactic| (first | omega | decide | (simp; omega)))
local macro_rules | `(tactic| walk_at "len") => `(tactic| (first | (with_reducible assumption) | decide | ((try simp only [List.length_cons, List.length_nil, List.length_append, List.length_map, List.length_replicate]); omega) | (refine Nat.le_trans (cutL_len _ _ _) ?_; (try simp only [List.length_cons, List.length_nil, List.length_append, List.length_map, List.length_replicate]); omega) | (refine Nat.le_trans (Nat.add_le_add_left (cutL_len _ _ _) _) ?_; (try simp only [List.length_cons, List.length_nil, List.length_append, List.length_map, List.length_replicate]); omega) | (refine Nat.le_trans (Nat.add_le_add_right (cutL_len _ _ _) _) ?_; (try simp only [List.length_cons, List.length_nil, List.length_append, List.length_map, List.length_replicate]); omega)))
local macro_rules | `(tactic| walk_at "go") => `(tactic| (repeat (first | (first | ((with_reducible show DX _ _ _ _ _); (first | ((with_reducible show DX _ (.Subscript (.Name "_law_ways" _) _ _) _ _ _); refine dx_dget ?_) | ((with_reducible show DX _ (.Call (.Attribute (.Name "_law_ways" _) "get" _) [_] _ _) _ _ _); refine dx_dget1 ?_) | ((with_reducible show DX _ (.Call (.Attribute (.Name "_law_ways" _) "get" _) [_, _] _ _) _ _ _); refine dx_dget2 ?_) | ((with_reducible show DX _ (.Call (.Attribute (.Name "_law_ways" _) "pop" _) [_] _ _) _ _ _); refine dx_dpop1 ?_) | ((with_reducible show DX _ (.Call (.Attribute (.Name "_law_ways" _) "pop" _) [_, _] _ _) _ _ _); refine dx_dpop2 ?_) | ((with_reducible show DX _ (.Call (.Name "len" _) [(.Name "_law_ways" _)] _ _) _ _ _); refine dx_dlen ?_) | ((with_reducible show DX _ (.Call (.Name "list" _) [(.Name "_law_ways" _)] _ _) _ _ _); refine dx_dlist ?_) | ((with_reducible show DX _ (.Call (.Name "dict" _) [(.Name "_law_ways" _)] _ _) _ _ _); refine dx_dictO ?_) | ((with_reducible show DX _ (.Call (.Name "sorted" _) [(.Name "_law_ways" _)] _ _) _ _ _); refine dx_sortedD ?_) | ((with_reducible show DX _ (.Compare _ [.In] [(.Name "_law_ways" _)] _) _ _ _); refine dx_din ?_) | ((with_reducible show DX _ (.Compare _ [.NotIn] [(.Name "_law_ways" _)] _) _ _ _); refine dx_dnin ?_) | ((with_reducible show DX _ (.Name _ _) _ _ _); (first | refine dx_name (by ((repeat with_reducible first | exact Slot.zero | apply Slot.succ); (first | (all_goals fail) | fail))) (by exact fun e => nomatch e) ?_ | refine dx_gint (by with_reducible assumption) ?_ | refine dx_gstr (by with_reducible assumption) ?_ | refine dx_gcls (by with_reducible assumption) (by decide +kernel) ?_ | ((with_reducible show DX _ (.Name "int" _) _ _ _); refine dx_tint ?_) | ((with_reducible show DX _ (.Name "bool" _) _ _ _); refine dx_tbool ?_) | ((with_reducible show DX _ (.Name "str" _) _ _ _); refine dx_tstr ?_) | ((with_reducible show DX _ (.Name "list" _) _ _ _); refine dx_tlist ?_) | ((with_reducible show DX _ (.Name "tuple" _) _ _ _); refine dx_ttuple ?_) | ((with_reducible show DX _ (.Name "ValueError" _) _ _ _); refine dx_tVE (by with_reducible assumption) ?_))) | ((with_reducible show DX _ (.Constant _ _ _) _ _ _); (first | ((with_reducible show DX _ (.Constant (.int _) _ _) _ _ _); refine dx_int ?_) | ((with_reducible show DX _ (.Constant (.str _) _ _) _ _ _); refine dx_str ?_) | ((with_reducible show DX _ (.Constant (.bool _) _ _) _ _ _); refine dx_bl ?_) | refine dx_non ?_)) | ((with_reducible show DX _ (.BinOp (.List [_] _) .Mult _ _) _ _ _); refine dx_repD ?_) | ((with_reducible show DX _ (.BinOp _ _ _ _) _ _ _); (first | ((with_reducible show DX _ (.BinOp _ .Add _ _) _ _ _); refine dx_bin cAdd ?_) | ((with_reducible show DX _ (.BinOp _ .Sub _ _) _ _ _); refine dx_bin op_sub ?_) | ((with_reducible show DX _ (.BinOp _ .Mult _ _) _ _ _); refine dx_bin op_uMul ?_) | ((with_reducible show DX _ (.BinOp _ .FloorDiv _ _) _ _ _); refine dx_bin op_fdivW ?_) | ((with_reducible show DX _ (.BinOp _ .Mod _ _) _ _ _); refine dx_bin op_mod ?_) | ((with_reducible show DX _ (.BinOp _ .Pow _ _) _ _ _); refine dx_bin op_pow ?_))) | ((with_reducible show DX _ (.Compare _ [_] _ _) _ _ _); (first | ((with_reducible show DX _ (.Compare _ [.Eq] [_] _) _ _ _); refine dx_cmp cEq (nomark _) ?_) | ((with_reducible show DX _ (.Compare _ [.NotEq] [_] _) _ _ _); refine dx_cmp cNe (nomark _) ?_) | ((with_reducible show DX _ (.Compare _ [.Lt] [_] _) _ _ _); refine dx_cmp op_lt (nomark _) ?_) | ((with_reducible show DX _ (.Compare _ [.LtE] [_] _) _ _ _); refine dx_cmp op_le (nomark _) ?_) | ((with_reducible show DX _ (.Compare _ [.Gt] [_] _) _ _ _); refine dx_cmp op_gt (nomark _) ?_) | ((with_reducible show DX _ (.Compare _ [.GtE] [_] _) _ _ _); refine dx_cmp op_ge (nomark _) ?_) | ((with_reducible show DX _ (.Compare _ [.Is] [_] _) _ _ _); refine dx_cmp op_uIs (nomark _) ?_) | ((with_reducible show DX _ (.Compare _ [.IsNot] [_] _) _ _ _); refine dx_cmp op_uIsn (nomark _) ?_) | ((with_reducible show DX _ (.Compare _ [.In] [_] _) _ _ _); refine dx_cmp cIn (rfl) ?_) | ((with_reducible show DX _ (.Compare _ [.NotIn] [_] _) _ _ _); refine dx_cmp cNin (rfl) ?_))) | ((with_reducible show DX _ (.Compare _ [_, _] _ _) _ _ _); (first | ((with_reducible show DX _ (.Compare _ [.LtE, .Lt] [_, _] _) _ _ _); refine dx_chain op_le op_lt ?_) | ((with_reducible show DX _ (.Compare _ [.LtE, .LtE] [_, _] _) _ _ _); refine dx_chain op_le op_le ?_))) | ((with_reducible show DX _ (.BoolOp _ [_] _) _ _ _); refine dx_one ?_) | ((with_reducible show DX _ (.BoolOp .And _ _) _ _ _); refine dx_and ?_) | ((with_reducible show DX _ (.BoolOp .Or _ _) _ _ _); refine dx_or ?_) | ((with_reducible show DX _ (.UnaryOp .Not _ _) _ _ _); refine dx_not ?_) | ((with_reducible show DX _ (.UnaryOp _ _ _) _ _ _); refine dx_neg ?_) | ((with_reducible show DX _ (.Subscript _ (.Slice _ _ _ _) _) _ _ _); refine dx_slice ?_) | ((with_reducible show DX _ (.Subscript _ _ _) _ _ _); refine dx_ix cIx ?_) | ((with_reducible show DX _ (.Tuple _ _ _) _ _ _); refine dx_tup ?_) | ((with_reducible show DX _ (.IfExp _ _ _ _) _ _ _); refine dx_ifExp ?_) | ((with_reducible show DX _ (.List _ _) _ _ _); refine dx_lst ?_) | ((with_reducible show DX _ (.Dict [] [] _) _ _ _); refine dx_dnew ?_) | ((with_reducible show DX _ (.Attribute _ _ _) _ _ _); refine dx_fld ?_) | ((with_reducible show DX _ (.Call (.Attribute _ "clear" _) [] _ _) _ _ _); refine dx_clear ?_) | ((with_reducible show DX _ (.Call (.Attribute _ "pop" _) [] _ _) _ _ _); refine dx_pop ?_) | ((with_reducible show DX _ (.Call (.Attribute _ _ _) [] _ _) _ _ _); refine dx_meth0 (by with_reducible assumption) (by with_reducible assumption) ?_) | ((with_reducible show DX _ (.Call (.Name _ _) [] _ _) _ _ _); refine dx_call0 (by with_reducible assumption) ?_) | ((with_reducible show DX _ (.Call (.Attribute _ "append" _) [_] _ _) _ _ _); refine dx_append ?_) | ((with_reducible show DX _ (.Call (.Attribute _ "join" _) [_] _ _) _ _ _); refine dx_join ?_) | ((with_reducible show DX _ (.Call (.Attribute _ "find" _) [_] _ _) _ _ _); refine dx_find ?_) | ((with_reducible show DX _ (.Call (.Attribute (.Constant (.str _) _ _) "index" _) [_] _ _) _ _ _); refine dx_sindex ?_) | ((with_reducible show DX _ (.Call (.Attribute _ "split" _) [_] _ _) _ _ _); refine dx_split ?_) | ((with_reducible show DX _ (.Call (.Attribute _ _ _) _ _ _) _ _ _); refine dx_meth (by with_reducible assumption) (by with_reducible assumption) ?_) | ((with_reducible show DX _ (.Call (.Name _ _) _ _ _) _ _ _); (first | ((with_reducible show DX _ (.Call (.Name "len" _) _ _ _) _ _ _); refine dx_len ?_) | ((with_reducible show DX _ (.Call (.Name "isinstance" _) _ _ _) _ _ _); (first | ((with_reducible show DX _ (.Call _ [_, .Tuple _ _ _] _ _) _ _ _); refine dx_isET (by with_reducible assumption) (by with_reducible assumption) (by decide +kernel) ?_) | ((with_reducible show DX _ (.Call _ [_, .Name _ _] _ _) _ _ _); first | refine dx_isE (by with_reducible assumption) ?_ | refine dx_isi ?_))) | ((with_reducible show DX _ (.Call (.Name "list" _) _ _ _) _ _ _); (first | refine dx_listA ?_ | refine dx_list ?_)) | ((with_reducible show DX _ (.Call (.Name "min" _) _ _ _) _ _ _); refine dx_min ?_) | ((with_reducible show DX _ (.Call (.Name "max" _) _ _ _) _ _ _); refine dx_max ?_) | ((with_reducible show DX _ (.Call (.Name "str" _) _ _ _) _ _ _); refine dx_cstr ?_) | ((with_reducible show DX _ (.Call (.Name "int" _) _ _ _) _ _ _); refine dx_cint ?_) | refine dx_call (by with_reducible assumption) ?_ | refine dx_make (by with_reducible assumption) ?_)))) | ((with_reducible show OpD _ _ _ _ _); (first | ((with_reducible show OpD (uAdd _) (.d (.int _)) (.d (.int _)) _ _); refine od_add ?_) | ((with_reducible show OpD (uAdd _) (.d (.str _)) (.d (.str _)) _ _); refine od_adds (by (first | (with_reducible assumption) | decide | ((try simp only [List.length_cons, List.length_nil, List.length_append, List.length_map, List.length_replicate]); omega) | (refine Nat.le_trans (cutL_len _ _ _) ?_; (try simp only [List.length_cons, List.length_nil, List.length_append, List.length_map, List.length_replicate]); omega) | (refine Nat.le_trans (Nat.add_le_add_left (cutL_len _ _ _) _) ?_; (try simp only [List.length_cons, List.length_nil, List.length_append, List.length_map, List.length_replicate]); omega) | (refine Nat.le_trans (Nat.add_le_add_right (cutL_len _ _ _) _) ?_; (try simp only [List.length_cons, List.length_nil, List.length_append, List.length_map, List.length_replicate]); omega))) ?_) | ((with_reducible show OpD (uAdd _) (.d (.tuple _)) (.d (.tuple _)) _ _); refine od_addt (by first | exact List.cons_ne_nil _ _ | decide) (by (first | (with_reducible assumption) | decide | ((try simp only [List.length_cons, List.length_nil, List.length_append, List.length_map, List.length_replicate]); omega) | (refine Nat.le_trans (cutL_len _ _ _) ?_; (try simp only [List.length_cons, List.length_nil, List.length_append, List.length_map, List.length_replicate]); omega) | (refine Nat.le_trans (Nat.add_le_add_left (cutL_len _ _ _) _) ?_; (try simp only [List.length_cons, List.length_nil, List.length_append, List.length_map, List.length_replicate]); omega) | (refine Nat.le_trans (Nat.add_le_add_right (cutL_len _ _ _) _) ?_; (try simp only [List.length_cons, List.length_nil, List.length_append, List.length_map, List.length_replicate]); omega))) ?_) | ((with_reducible show OpD (uAdd _) _ _ _ _); refine od_addl rfl rfl (by (first | (with_reducible assumption) | decide | ((try simp only [List.length_cons, List.length_nil, List.length_append, List.length_map, List.length_replicate]); omega) | (refine Nat.le_trans (cutL_len _ _ _) ?_; (try simp only [List.length_cons, List.length_nil, List.length_append, List.length_map, List.length_replicate]); omega) | (refine Nat.le_trans (Nat.add_le_add_left (cutL_len _ _ _) _) ?_; (try simp only [List.length_cons, List.length_nil, List.length_append, List.length_map, List.length_replicate]); omega) | (refine Nat.le_trans (Nat.add_le_add_right (cutL_len _ _ _) _) ?_; (try simp only [List.length_cons, List.length_nil, List.length_append, List.length_map, List.length_replicate]); omega))) ?_) | ((with_reducible show OpD (rI0 fun i j => .int (i - j)) _ _ _ _); refine od_sub ?_) | ((with_reducible show OpD uMul (.d (.int _)) (.d (.int _)) _ _); (first | refine od_mul (mul_r (by (first | omega | decide | (simp; omega)))) ?_ | refine od_mul (mul_l (by (first | omega | decide | (simp; omega)))) ?_ | refine od_mul (mul_ok (by (first | omega | decide | (simp; omega))) (by (first | omega | decide | (simp; omega)))) ?_)) | ((with_reducible show OpD (rI CDivW _) _ _ _ _); refine od_div (by (first | omega | decide | (simp; omega))) ?_) | ((with_reducible show OpD (rI CPow _) (.d (.int 10)) _ _ _); (first | (with_reducible refine od_p60 ?_) | (with_reducible refine od_p59 ?_) | (with_reducible refine od_p20 ?_) | (with_reducible refine od_p40 ?_) | (with_reducible refine od_p6 ?_) | (with_reducible refine od_p9 ?_) | (with_reducible refine od_p50 ?_) | (with_reducible refine od_p58 ?_) | (with_reducible refine od_p30 ?_) | (with_reducible refine od_p3 ?_))) | ((with_reducible show OpD (rI CPow _) _ _ _ _); refine od_pow (by decide) ?_) | ((with_reducible show OpD (rI0 fun i j => .bl (decide (i < j))) _ _ _ _); refine od_lt ?_) | ((with_reducible show OpD (rI0 fun i j => .bl (decide (i ≤ j))) _ _ _ _); refine od_le ?_) | ((with_reducible show OpD (rI0 fun i j => .bl (decide (j < i))) _ _ _ _); refine od_gt ?_) | ((with_reducible show OpD (rI0 fun i j => .bl (decide (j ≤ i))) _ _ _ _); refine od_ge ?_) | ((with_reducible show OpD (rI _ _) _ _ _ _); refine od_mod (by (first | omega | decide | (simp; omega))) ?_) | ((with_reducible show OpD (uEq _) _ _ _ _); (first | refine od_eq rfl rfl (by first | exact .int _ _ | exact .str _ _ | exact .bl _ _ | exact .nn | exact .ni _ | exact .in_ _ | exact .ns _ | exact .sn _) ?_ | refine od_eqS rfl rfl (by first | (with_reducible assumption) | decide +kernel | rfl) ?_ | refine od_eq rfl rfl (.dat (by first | (with_reducible assumption) | decide +kernel | rfl) (by first | (with_reducible assumption) | decide +kernel | rfl)) ?_)) | ((with_reducible show OpD (uNe _) _ _ _ _); (first | (with_reducible refine od_nenm ?_) | refine od_ne rfl rfl (by first | exact .int _ _ | exact .str _ _ | exact .bl _ _ | exact .nn | exact .ni _ | exact .in_ _ | exact .ns _ | exact .sn _) ?_ | refine od_neS rfl rfl (by first | (with_reducible assumption) | decide +kernel | rfl) ?_ | refine od_ne rfl rfl (.dat (by first | (with_reducible assumption) | decide +kernel | rfl) (by first | (with_reducible assumption) | decide +kernel | rfl)) ?_)) | ((with_reducible show OpD (uNin _) (.d (.str _)) (.d (.str _)) _ _); refine od_nins ?_) | ((with_reducible show OpD (uIn _) (.d (.str _)) (.d (.str _)) _ _); refine od_ins ?_) | ((with_reducible show OpD (uIn _) (.d _) (.r (.ref _)) _ _); refine od_inO (by ((repeat with_reducible first | exact Pick.zero | apply Pick.succ); (first | (all_goals fail) | fail))) rfl (by with_reducible assumption) ?_) | ((with_reducible show OpD (uNin _) (.d _) (.r (.ref _)) _ _); refine od_ninO (by ((repeat with_reducible first | exact Pick.zero | apply Pick.succ); (first | (all_goals fail) | fail))) rfl (by with_reducible assumption) ?_) | ((with_reducible show OpD uIs _ _ _ _); (first | (with_reducible refine od_isnm ?_) | refine od_is rfl ?_)) | ((with_reducible show OpD uIsn _ _ _ _); (first | (with_reducible refine od_isnnm ?_) | refine od_isn rfl ?_)) | ((with_reducible show OpD (rIx _) (.r (.ref _)) _ _ _); refine od_ixo (by ((repeat with_reducible first | exact Pick.zero | apply Pick.succ); (first | (all_goals fail) | fail))) (by first | rfl | with_reducible assumption) (by exact fun _ z => nomatch z) ?_) | ((with_reducible show OpD (rIx _) (.d (.str _)) _ _ _); refine od_ixt (by (first | (with_reducible assumption) | decide | ((try simp only [List.length_cons, List.length_nil, List.length_append, List.length_map, List.length_replicate]); omega) | (refine Nat.le_trans (cutL_len _ _ _) ?_; (try simp only [List.length_cons, List.length_nil, List.length_append, List.length_map, List.length_replicate]); omega) | (refine Nat.le_trans (Nat.add_le_add_left (cutL_len _ _ _) _) ?_; (try simp only [List.length_cons, List.length_nil, List.length_append, List.length_map, List.length_replicate]); omega) | (refine Nat.le_trans (Nat.add_le_add_right (cutL_len _ _ _) _) ?_; (try simp only [List.length_cons, List.length_nil, List.length_append, List.length_map, List.length_replicate]); omega))) (by with_reducible assumption) ?_) | ((with_reducible show OpD (rIx _) _ _ _ _); refine od_ixs rfl (by first | rfl | with_reducible assumption) ?_))) | ((with_reducible show DS _ _ _ _ _); (first | ((with_reducible show DS _ (.Assign [.Subscript (.Name "_law_ways" _) _ _] _ _) _ _ _); refine ds_dput ?_) | ((with_reducible show DS _ (.Assign [.Name _ _] (.Call (.Attribute _ "leaves" _) _ _ _) _) _ _ _); refine ds_set (dx_frz ?_)) | ((with_reducible show DS _ (.Assign [.Name _ _] _ _) _ _ _); (fail_if_success (with_reducible show DS _ (.Assign _ (.List [] _) _) _ _ _)); (fail_if_success (with_reducible show DS _ (.Assign _ (.ListComp _ _ _ _) _) _ _ _)); refine ds_set ?_) | ((with_reducible show DS _ (.Assign [.Attribute _ _ _] _ _) _ _ _); (fail_if_success (with_reducible show DS _ (.Assign _ (.List _ _) _) _ _ _)); (fail_if_success (with_reducible show DS _ (.Assign _ (.ListComp _ _ _ _) _) _ _ _)); refine ds_fld ?_) | ((with_reducible show DS _ (.Assign [.Subscript _ _ _] _ _) _ _ _); (fail_if_success (with_reducible show DS _ (.Assign [.Subscript (.Subscript _ _ _) _ _] _ _) _ _ _)); refine ds_seti ?_) | ((with_reducible show DS _ (.Return (some _) _) _ _ _); refine ds_ret ?_) | ((with_reducible show DS _ (.Return none _) _ _ _); refine ds_retN ?_) | ((with_reducible show DS _ (.If _ _ _ _) _ _ _); refine ds_if ?_) | ((with_reducible show DS _ (.Expr (.Constant _ _ _) _) _ _ _); refine ds_doc ?_) | ((with_reducible show DS _ (.Expr _ _) _ _ _); refine ds_expr ?_) | ((with_reducible show DS _ (.Pass _) _ _ _); refine ds_pass ?_) | ((with_reducible show DS _ (.Break _) _ _ _); refine ds_break ?_) | ((with_reducible show DS _ (.Continue _) _ _ _); refine ds_continue ?_) | ((with_reducible show DS _ (.Raise (some (.Call (.Name _ _) [.Constant (.str _) _ _] [] _)) none _) _ _ _); refine ds_raise (by with_reducible assumption) (by decide +kernel) (by decide +kernel) ?_))) | ((with_reducible show DSs _ _ _ _ _); (first | ((with_reducible show DSs _ (_ :: _) _ _ _); refine dss_cons ?_) | ((with_reducible show DSs _ [] _ _ _); refine dss_nil ?_))) | ((with_reducible show DT _ _ _ _ _); (first | ((with_reducible show DT _ (.Compare _ [.In] [(.Name "_law_ways" _)] _) _ _ _); refine dt_din ?_) | ((with_reducible show DT _ (.Compare _ [.NotIn] [(.Name "_law_ways" _)] _) _ _ _); refine dt_dnin ?_) | ((with_reducible show DT _ (.BoolOp _ _ _) _ _ _); refine dt_bool ?_) | ((with_reducible show DT _ (.UnaryOp .Not _ _) _ _ _); refine dt_not ?_) | ((with_reducible show DT _ (.Compare _ [_] _ _) _ _ _); (first | ((with_reducible show DT _ (.Compare _ [.Eq] [_] _) _ _ _); refine dt_cmp cEq (nomark _) ?_) | ((with_reducible show DT _ (.Compare _ [.NotEq] [_] _) _ _ _); refine dt_cmp cNe (nomark _) ?_) | ((with_reducible show DT _ (.Compare _ [.Lt] [_] _) _ _ _); refine dt_cmp op_lt (nomark _) ?_) | ((with_reducible show DT _ (.Compare _ [.LtE] [_] _) _ _ _); refine dt_cmp op_le (nomark _) ?_) | ((with_reducible show DT _ (.Compare _ [.Gt] [_] _) _ _ _); refine dt_cmp op_gt (nomark _) ?_) | ((with_reducible show DT _ (.Compare _ [.GtE] [_] _) _ _ _); refine dt_cmp op_ge (nomark _) ?_) | ((with_reducible show DT _ (.Compare _ [.Is] [_] _) _ _ _); refine dt_cmp op_uIs (nomark _) ?_) | ((with_reducible show DT _ (.Compare _ [.IsNot] [_] _) _ _ _); refine dt_cmp op_uIsn (nomark _) ?_) | ((with_reducible show DT _ (.Compare _ [.In] [_] _) _ _ _); refine dt_cmp cIn (rfl) ?_) | ((with_reducible show DT _ (.Compare _ [.NotIn] [_] _) _ _ _); refine dt_cmp cNin (rfl) ?_))) | ((with_reducible show DT _ (.Compare _ [_, _] _ _) _ _ _); (first | ((with_reducible show DT _ (.Compare _ [.LtE, .Lt] [_, _] _) _ _ _); refine dt_chain op_le op_lt ?_) | ((with_reducible show DT _ (.Compare _ [.LtE, .LtE] [_, _] _) _ _ _); refine dt_chain op_le op_le ?_))) | ((with_reducible show DT _ _ _ _ _); refine dt_tru ?_))) | ((with_reducible show DW _ _ _ _ _); (first | ((with_reducible show DW _ (.BoolOp .And [_] _) _ _ _); refine dw_and1 ?_) | ((with_reducible show DW _ (.BoolOp .Or [_] _) _ _ _); refine dw_or1 ?_) | ((with_reducible show DW _ (.BoolOp .And _ _) _ _ _); refine dw_and ?_) | ((with_reducible show DW _ (.BoolOp .Or _ _) _ _ _); refine dw_or ?_))) | ((with_reducible show DA _ _ _ _ _); (first | ((with_reducible show DA _ (.Call (.Attribute _ "leaves" _) _ _ _ :: _) _ _ _); refine da_cons (dx_frz ?_)) | ((with_reducible show DA _ (_ :: _) _ _ _); refine da_cons ?_) | ((with_reducible show DA _ [] _ _ _); refine da_nil ?_))) | ((with_reducible show if _ = true then _ else _); (first | (with_reducible refine ite_tt ?_) | (with_reducible refine ite_ff ?_) | (with_reducible refine ite_nt ?_) | (with_reducible refine ite_nf ?_) | ((with_reducible show if decide _ = true then _ else _); first | refine ite_dt (by (first | (with_reducible assumption) | omega | decide +kernel | ((simp only [List.length_cons, List.length_nil, List.length_map, List.length_append]); omega) | ((simp only [List.length_cons, List.length_nil, List.length_map, List.length_append]); (first | (all_goals fail) | fail)))) ?_ | refine ite_df (by (first | (with_reducible assumption) | omega | decide +kernel | ((simp only [List.length_cons, List.length_nil, List.length_map, List.length_append]); omega) | ((simp only [List.length_cons, List.length_nil, List.length_map, List.length_append]); (first | (all_goals fail) | fail)))) ?_) | ((with_reducible show if (!decide _) = true then _ else _); first | refine ite_ndf (by (first | (with_reducible assumption) | omega | decide +kernel | ((simp only [List.length_cons, List.length_nil, List.length_map, List.length_append]); omega) | ((simp only [List.length_cons, List.length_nil, List.length_map, List.length_append]); (first | (all_goals fail) | fail)))) ?_ | refine ite_ndt (by (first | (with_reducible assumption) | omega | decide +kernel | ((simp only [List.length_cons, List.length_nil, List.length_map, List.length_append]); omega) | ((simp only [List.length_cons, List.length_nil, List.length_map, List.length_append]); (first | (all_goals fail) | fail)))) ?_) | (with_reducible refine ite_nn ?_) | ((with_reducible show if PyData.eqv _ _ = true then _ else _); first | refine ite_t (by decide +kernel) ?_ | refine ite_f (by decide +kernel) ?_ | refine ite_t rfl ?_ | refine ite_f rfl ?_) | ((with_reducible show if (!PyData.eqv _ _) = true then _ else _); first | refine ite_t (by decide +kernel) ?_ | refine ite_f (by decide +kernel) ?_ | refine ite_t rfl ?_ | refine ite_f rfl ?_) | ((with_reducible show if wholeD (.int _) = true then _ else _); refine ite_t rfl ?_) | ((with_reducible show if (!wholeD (.int _)) = true then _ else _); refine ite_f rfl ?_) | ((with_reducible show if isD _ _ = true then _ else _); first | refine ite_t rfl ?_ | refine ite_f rfl ?_) | ((with_reducible show if (!isD _ _) = true then _ else _); first | refine ite_t rfl ?_ | refine ite_f rfl ?_))) | ((with_reducible show Exists _); (first | (with_reducible refine me_tab (by ((repeat with_reducible first | exact Pick.zero | apply Pick.succ); (first | (all_goals fail) | fail))) (by decide +kernel) ?_) | ((with_reducible show ∃ i ρ', SetS _ _ _ i _ ρ' ∧ _); refine ⟨_, _, by ((repeat with_reducible first | exact SetS.zero | apply SetS.succ); (first | (all_goals fail) | fail)), ?_⟩) | (with_reducible refine ex_list rfl ?_) | ((with_reducible show ∃ ds, Sl.asSeq _ = some ds ∧ _); refine ex_seq rfl ?_) | ((with_reducible show ∃ ds, Datas _ ds ∧ _); refine ex_datas (by ((repeat with_reducible first | exact datas_nil | apply datas_cons); (first | (all_goals fail) | fail))) (by first | exact Nat.le_of_ble_eq_true rfl | (first | (with_reducible assumption) | decide | ((try simp only [List.length_cons, List.length_nil, List.length_append, List.length_map, List.length_replicate]); omega) | (refine Nat.le_trans (cutL_len _ _ _) ?_; (try simp only [List.length_cons, List.length_nil, List.length_append, List.length_map, List.length_replicate]); omega) | (refine Nat.le_trans (Nat.add_le_add_left (cutL_len _ _ _) _) ?_; (try simp only [List.length_cons, List.length_nil, List.length_append, List.length_map, List.length_replicate]); omega) | (refine Nat.le_trans (Nat.add_le_add_right (cutL_len _ _ _) _) ?_; (try simp only [List.length_cons, List.length_nil, List.length_append, List.length_map, List.length_replicate]); omega))) ?_) | ((with_reducible show ∃ C p fs g sl, _ = Sl.r (.ref p) ∧ Pick _ (insM C p fs) g ∧ FldC _ C _ ∧ FldAt fs _ sl ∧ _); refine ex_fld (by ((repeat with_reducible first | exact Pick.zero | apply Pick.succ); (first | (all_goals fail) | fail))) (fldc (by with_reducible assumption) (by decide +kernel)) (by ((repeat with_reducible first | exact FldAt.zero | apply FldAt.succ); (first | (all_goals fail) | fail))) (by (simp only [List.map_cons, List.map_nil]); decide +kernel) (by exact fun _ z => nomatch z) ?_) | ((with_reducible show ∃ C p fs g fs2, _ = Sl.r (.ref p) ∧ Pick _ (insM C p fs) g ∧ FldC _ C _ ∧ (FldSet fs _ _ fs2 ∨ _) ∧ _); first | refine ex_fset (by ((repeat with_reducible first | exact Pick.zero | apply Pick.succ); (first | (all_goals fail) | fail))) (fldc (by with_reducible assumption) (by decide +kernel)) (by ((repeat with_reducible first | exact FldSet.zero | apply FldSet.succ); (first | (all_goals fail) | fail))) (by (simp only [List.map_cons, List.map_nil]); decide +kernel) (by exact Nat.le_of_ble_eq_true rfl) ?_ | refine ex_fnew (by ((repeat with_reducible first | exact Pick.zero | apply Pick.succ); (first | (all_goals fail) | fail))) (fldc (by with_reducible assumption) (by decide +kernel)) (by (simp only [List.map_cons, List.map_nil]); decide +kernel) (by (simp only [List.map_cons, List.map_nil]); decide +kernel) (by exact Nat.le_of_ble_eq_true rfl) ?_) | ((with_reducible show ∃ p ss f k j, _ = Sl.r (.ref p) ∧ _ = Sl.d (.int k) ∧ _); refine ex_seti (by ((repeat with_reducible first | exact Pick.zero | apply Pick.succ); (first | (all_goals fail) | fail))) (by first | with_reducible assumption | rfl) ?_) | (with_reducible refine ex_frz (by ((repeat with_reducible first | exact Pick.zero | apply Pick.succ); (first | (all_goals fail) | fail))) ?_) | (with_reducible refine ex_own (by ((repeat with_reducible first | exact Pick.zero | apply Pick.succ); (first | (all_goals fail) | fail))) ?_) | (with_reducible refine ex_app (by ((repeat with_reducible first | exact Pick.zero | apply Pick.succ); (first | (all_goals fail) | fail))) (by (first | (with_reducible assumption) | decide | ((try simp only [List.length_cons, List.length_nil, List.length_append, List.length_map, List.length_replicate]); omega) | (refine Nat.le_trans (cutL_len _ _ _) ?_; (try simp only [List.length_cons, List.length_nil, List.length_append, List.length_map, List.length_replicate]); omega) | (refine Nat.le_trans (Nat.add_le_add_left (cutL_len _ _ _) _) ?_; (try simp only [List.length_cons, List.length_nil, List.length_append, List.length_map, List.length_replicate]); omega) | (refine Nat.le_trans (Nat.add_le_add_right (cutL_len _ _ _) _) ?_; (try simp only [List.length_cons, List.length_nil, List.length_append, List.length_map, List.length_replicate]); omega))) ?_) | ((with_reducible show ∃ ys, RefsE _ _ ys ∧ _); (first | refine ex_refs (w := false) (by ((repeat with_reducible first | exact RefsE.nil | apply RefsE.cons); (first | (all_goals fail) | fail))) (by decide +kernel) ?_ | refine ex_refs (w := true) (by ((repeat with_reducible first | exact RefsE.nil | apply RefsE.cons); (first | (all_goals fail) | fail))) (by decide +kernel) ?_)) | ((with_reducible show ∃ rs', Ent [_] (rs' ++ [_]) ∧ _); (refine end_ex ?_; with_reducible assumption)) | ((with_reducible show ∃ ρ', SetS _ _ _ _ _ ρ' ∧ _); refine ⟨_, by ((repeat with_reducible first | exact SetS.zero | apply SetS.succ); (first | (all_goals fail) | fail)), ?_⟩) | (with_reducible refine ex_rep (by ((repeat with_reducible first | exact Pick.zero | apply Pick.succ); (first | (all_goals fail) | fail))) (by (first | omega | decide | (simp; omega))) ?_) | (with_reducible refine ex_dat ?_) | (with_reducible refine ex_int ?_) | (with_reducible refine ex_str ?_) | (with_reducible refine ex_dic (by ((repeat with_reducible first | exact Pick.zero | apply Pick.succ); (first | (all_goals fail) | fail))) ?_) | (with_reducible refine ex_din1 (by ((repeat with_reducible first | exact Pick.zero | apply Pick.succ); (first | (all_goals fail) | fail))) ?_) | (with_reducible refine ex_din2 (by ((repeat with_reducible first | exact Pick.zero | apply Pick.succ); (first | (all_goals fail) | fail))) ?_) | (with_reducible refine ex_dlen (by ((repeat with_reducible first | exact Pick.zero | apply Pick.succ); (first | (all_goals fail) | fail))) ?_) | ((with_reducible show ∃ p kvs f k, _ = Sl.r (.ref p) ∧ _ = Sl.d (keyD k) ∧ Pick _ (dictM p kvs) f ∧ kvs.length ≤ _ ∧ _); first | refine ex_dputI (by ((repeat with_reducible first | exact Pick.zero | apply Pick.succ); (first | (all_goals fail) | fail))) (by (first | (with_reducible assumption) | decide | ((try simp only [List.length_cons, List.length_nil, List.length_append, List.length_map, List.length_replicate]); omega) | (refine Nat.le_trans (cutL_len _ _ _) ?_; (try simp only [List.length_cons, List.length_nil, List.length_append, List.length_map, List.length_replicate]); omega) | (refine Nat.le_trans (Nat.add_le_add_left (cutL_len _ _ _) _) ?_; (try simp only [List.length_cons, List.length_nil, List.length_append, List.length_map, List.length_replicate]); omega) | (refine Nat.le_trans (Nat.add_le_add_right (cutL_len _ _ _) _) ?_; (try simp only [List.length_cons, List.length_nil, List.length_append, List.length_map, List.length_replicate]); omega))) ?_ | refine ex_dputS (by ((repeat with_reducible first | exact Pick.zero | apply Pick.succ); (first | (all_goals fail) | fail))) (by (first | (with_reducible assumption) | decide | ((try simp only [List.length_cons, List.length_nil, List.length_append, List.length_map, List.length_replicate]); omega) | (refine Nat.le_trans (cutL_len _ _ _) ?_; (try simp only [List.length_cons, List.length_nil, List.length_append, List.length_map, List.length_replicate]); omega) | (refine Nat.le_trans (Nat.add_le_add_left (cutL_len _ _ _) _) ?_; (try simp only [List.length_cons, List.length_nil, List.length_append, List.length_map, List.length_replicate]); omega) | (refine Nat.le_trans (Nat.add_le_add_right (cutL_len _ _ _) _) ?_; (try simp only [List.length_cons, List.length_nil, List.length_append, List.length_map, List.length_replicate]); omega))) ?_) | ((with_reducible show ∃ p kvs f k, _ = Sl.r (.ref p) ∧ _ = Sl.d (keyD k) ∧ Pick _ (dictM p kvs) f ∧ _); first | refine ex_din1 (by ((repeat with_reducible first | exact Pick.zero | apply Pick.succ); (first | (all_goals fail) | fail))) ?_ | refine ex_din2 (by ((repeat with_reducible first | exact Pick.zero | apply Pick.succ); (first | (all_goals fail) | fail))) ?_) | ((with_reducible show ∃ kvs f k s, _ = Sl.d (keyD k) ∧ Pick _ (dictM _ kvs) f ∧ valS kvs k = some s ∧ _); first | refine ex_dpopI (by ((repeat with_reducible first | exact Pick.zero | apply Pick.succ); (first | (all_goals fail) | fail))) (by with_reducible assumption) (by exact fun _ z => nomatch z) ?_ | refine ex_dpopS (by ((repeat with_reducible first | exact Pick.zero | apply Pick.succ); (first | (all_goals fail) | fail))) (by with_reducible assumption) (by exact fun _ z => nomatch z) ?_) | ((with_reducible show ∃ p kvs f k s, _ = Sl.r (.ref p) ∧ _ = Sl.d (keyD k) ∧ Pick _ (dictM p kvs) f ∧ _); first | refine ex_dget (by ((repeat with_reducible first | exact Pick.zero | apply Pick.succ); (first | (all_goals fail) | fail))) (by with_reducible assumption) (by exact fun _ z => nomatch z) ?_ | refine ex_dgetS (by ((repeat with_reducible first | exact Pick.zero | apply Pick.succ); (first | (all_goals fail) | fail))) (by with_reducible assumption) (by exact fun _ z => nomatch z) ?_))) | (first | (with_reducible refine kt ?_) | ((with_reducible show ∀ _ : Addr, _); intro q) | ((with_reducible show Le _ _ ∧ _ = _); exact ⟨by ((repeat with_reducible first | exact Le.nil | apply Le.eq | apply Le.un); (first | (all_goals fail) | fail)), rfl⟩) | ((with_reducible show CallEnd _ _ _ _ _ _); (first | ((with_reducible refine ce_tab (by ((repeat with_reducible first | exact Pick.zero | apply Pick.succ); (first | (all_goals fail) | fail))) ?_); (first | refine ⟨_, rfl, rfl, by (first | (with_reducible trivial) | (with_reducible assumption) | omega | (exact ⟨by with_reducible assumption, by with_reducible assumption⟩)), ?_⟩ | refine ⟨_, _, rfl, rfl, by (first | (with_reducible trivial) | (with_reducible assumption) | omega | (exact ⟨by with_reducible assumption, by with_reducible assumption⟩)), ?_⟩ | refine ⟨_, _, _, rfl, rfl, by (first | (with_reducible trivial) | (with_reducible assumption) | omega | (exact ⟨by with_reducible assumption, by with_reducible assumption⟩)), ?_⟩ | refine ⟨_, _, _, _, rfl, rfl, by (first | (with_reducible trivial) | (with_reducible assumption) | omega | (exact ⟨by with_reducible assumption, by with_reducible assumption⟩)), ?_⟩ | refine ⟨_, _, _, _, _, rfl, rfl, by (first | (with_reducible trivial) | (with_reducible assumption) | omega | (exact ⟨by with_reducible assumption, by with_reducible assumption⟩)), ?_⟩ | refine ⟨_, _, _, _, _, _, rfl, rfl, by (first | (with_reducible trivial) | (with_reducible assumption) | omega | (exact ⟨by with_reducible assumption, by with_reducible assumption⟩)), ?_⟩ | refine ⟨_, _, _, _, _, _, _, rfl, rfl, by (first | (with_reducible trivial) | (with_reducible assumption) | omega | (exact ⟨by with_reducible assumption, by with_reducible assumption⟩)), ?_⟩ | refine ⟨_, _, _, _, _, _, _, _, rfl, rfl, by (first | (with_reducible trivial) | (with_reducible assumption) | omega | (exact ⟨by with_reducible assumption, by with_reducible assumption⟩)), ?_⟩)) | (refine ce_inl ?_; first | refine ⟨_, rfl, rfl, by (first | (with_reducible trivial) | (with_reducible assumption) | omega | (exact ⟨by with_reducible assumption, by with_reducible assumption⟩)), ?_⟩ | refine ⟨_, _, rfl, rfl, by (first | (with_reducible trivial) | (with_reducible assumption) | omega | (exact ⟨by with_reducible assumption, by with_reducible assumption⟩)), ?_⟩ | refine ⟨_, _, _, rfl, rfl, by (first | (with_reducible trivial) | (with_reducible assumption) | omega | (exact ⟨by with_reducible assumption, by with_reducible assumption⟩)), ?_⟩ | refine ⟨_, _, _, _, rfl, rfl, by (first | (with_reducible trivial) | (with_reducible assumption) | omega | (exact ⟨by with_reducible assumption, by with_reducible assumption⟩)), ?_⟩ | refine ⟨_, _, _, _, _, rfl, rfl, by (first | (with_reducible trivial) | (with_reducible assumption) | omega | (exact ⟨by with_reducible assumption, by with_reducible assumption⟩)), ?_⟩ | refine ⟨_, _, _, _, _, _, rfl, rfl, by (first | (with_reducible trivial) | (with_reducible assumption) | omega | (exact ⟨by with_reducible assumption, by with_reducible assumption⟩)), ?_⟩))) | ((with_reducible show CallEnd0 _ _ _ _); (first | ((with_reducible refine ce0_tab (by ((repeat with_reducible first | exact Pick.zero | apply Pick.succ); (first | (all_goals fail) | fail))) ?_); (first | refine ⟨_, rfl, rfl, by (first | (with_reducible trivial) | (with_reducible assumption) | omega | (exact ⟨by with_reducible assumption, by with_reducible assumption⟩)), ?_⟩ | refine ⟨_, _, rfl, rfl, by (first | (with_reducible trivial) | (with_reducible assumption) | omega | (exact ⟨by with_reducible assumption, by with_reducible assumption⟩)), ?_⟩ | refine ⟨_, _, _, rfl, rfl, by (first | (with_reducible trivial) | (with_reducible assumption) | omega | (exact ⟨by with_reducible assumption, by with_reducible assumption⟩)), ?_⟩ | refine ⟨_, _, _, _, rfl, rfl, by (first | (with_reducible trivial) | (with_reducible assumption) | omega | (exact ⟨by with_reducible assumption, by with_reducible assumption⟩)), ?_⟩ | refine ⟨_, _, _, _, _, rfl, rfl, by (first | (with_reducible trivial) | (with_reducible assumption) | omega | (exact ⟨by with_reducible assumption, by with_reducible assumption⟩)), ?_⟩ | refine ⟨_, _, _, _, _, _, rfl, rfl, by (first | (with_reducible trivial) | (with_reducible assumption) | omega | (exact ⟨by with_reducible assumption, by with_reducible assumption⟩)), ?_⟩ | refine ⟨_, _, _, _, _, _, _, rfl, rfl, by (first | (with_reducible trivial) | (with_reducible assumption) | omega | (exact ⟨by with_reducible assumption, by with_reducible assumption⟩)), ?_⟩ | refine ⟨_, _, _, _, _, _, _, _, rfl, rfl, by (first | (with_reducible trivial) | (with_reducible assumption) | omega | (exact ⟨by with_reducible assumption, by with_reducible assumption⟩)), ?_⟩)))) | ((with_reducible show (bodyPost _ _).rt _ _); (first | (refine end_rt ?_; with_reducible assumption) | refine end_rtT (decide_eq_true (by omega)) (by with_reducible assumption) | refine end_rtT rfl (by with_reducible assumption))) | ((with_reducible show TrD (.d (.bool _)) _ _); refine tr_bool ?_) | ((with_reducible show TrD (.d .none) _ _); refine tr_none ?_) | ((with_reducible show TrD (.d (.int _)) _ _); refine tr_int ?_) | ((with_reducible show TrD (.d (.list _)) _ _); refine tr_list ?_) | ((with_reducible show TrD (.d (.tuple _)) _ _); refine tr_tuple ?_) | ((with_reducible show TrD (.r (.ref _)) _ _); (first | refine tr_own (by ((repeat with_reducible first | exact Pick.zero | apply Pick.succ); (first | (all_goals fail) | fail))) ?_ | refine tr_dict (by ((repeat with_reducible first | exact Pick.zero | apply Pick.succ); (first | (all_goals fail) | fail))) ?_)) | ((with_reducible show CaD (rIsi _) _ _ _); (first | refine cd_isiT (by decide) rfl rfl ?_ | refine cd_isiF (by decide) rfl rfl ?_ | refine cd_isi (by decide) rfl ?_)) | ((with_reducible show CaD _ [.d (.int _), .d (.int _)] _ _); (first | refine cd_min ?_ | refine cd_max ?_)) | ((with_reducible show LenD (.d (.str _)) _ _); refine ld_str (by (first | (with_reducible assumption) | decide | ((try simp only [List.length_cons, List.length_nil, List.length_append, List.length_map, List.length_replicate]); omega) | (refine Nat.le_trans (cutL_len _ _ _) ?_; (try simp only [List.length_cons, List.length_nil, List.length_append, List.length_map, List.length_replicate]); omega) | (refine Nat.le_trans (Nat.add_le_add_left (cutL_len _ _ _) _) ?_; (try simp only [List.length_cons, List.length_nil, List.length_append, List.length_map, List.length_replicate]); omega) | (refine Nat.le_trans (Nat.add_le_add_right (cutL_len _ _ _) _) ?_; (try simp only [List.length_cons, List.length_nil, List.length_append, List.length_map, List.length_replicate]); omega))) ?_) | ((with_reducible show LenD (.r (.ref _)) _ _); refine ld_own (by ((repeat with_reducible first | exact Pick.zero | apply Pick.succ); (first | (all_goals fail) | fail))) ?_) | ((with_reducible show LenD _ _ _); refine ld_seq rfl ?_) | ((with_reducible show SlD _ (.d (.list _)) _ _ _ _); refine sd_list ?_) | ((with_reducible show SlD _ (.n _) _ _ _ _); refine sd_list ?_) | ((with_reducible show SlD _ (.r (.ref _)) _ _ _ _); refine sd_own (by ((repeat with_reducible first | exact Pick.zero | apply Pick.succ); (first | (all_goals fail) | fail))) (fun q => ?_)) | ((with_reducible show SlD _ (.d (.str _)) _ _ _ _); refine sd_str (by (first | (with_reducible assumption) | decide | ((try simp only [List.length_cons, List.length_nil, List.length_append, List.length_map, List.length_replicate]); omega) | (refine Nat.le_trans (cutL_len _ _ _) ?_; (try simp only [List.length_cons, List.length_nil, List.length_append, List.length_map, List.length_replicate]); omega) | (refine Nat.le_trans (Nat.add_le_add_left (cutL_len _ _ _) _) ?_; (try simp only [List.length_cons, List.length_nil, List.length_append, List.length_map, List.length_replicate]); omega) | (refine Nat.le_trans (Nat.add_le_add_right (cutL_len _ _ _) _) ?_; (try simp only [List.length_cons, List.length_nil, List.length_append, List.length_map, List.length_replicate]); omega))) ?_) | ((with_reducible show SlD _ (.d (.tuple [_, _, _, _])) none (some 2) _ _); refine sd_t42 ?_) | ((with_reducible show SlD _ (.d (.tuple [_, _, _, _, _, _])) (some 2) (some 5) _ _); refine sd_t625 ?_) | ((with_reducible show SlD _ (.d (.tuple [_, _, _, _])) (some 2) none _ _); refine sd_t4f2 ?_) | ((with_reducible show SlD _ (.d (.tuple _)) _ _ _ _); refine sd_tup (by first | decide | ((simp only [List.length_cons, List.length_nil]); decide +kernel)) ?_) | ((with_reducible show DO _ none _ _ _); refine do_none ?_) | ((with_reducible show DO _ (some _) _ _ _); refine do_some ?_) | (with_reducible refine ex_eqr ?_) | ((with_reducible show LsD _ _ _); first | refine ls_s (by (first | (with_reducible assumption) | decide | ((try simp only [List.length_cons, List.length_nil, List.length_append, List.length_map, List.length_replicate]); omega) | (refine Nat.le_trans (cutL_len _ _ _) ?_; (try simp only [List.length_cons, List.length_nil, List.length_append, List.length_map, List.length_replicate]); omega) | (refine Nat.le_trans (Nat.add_le_add_left (cutL_len _ _ _) _) ?_; (try simp only [List.length_cons, List.length_nil, List.length_append, List.length_map, List.length_replicate]); omega) | (refine Nat.le_trans (Nat.add_le_add_right (cutL_len _ _ _) _) ?_; (try simp only [List.length_cons, List.length_nil, List.length_append, List.length_map, List.length_replicate]); omega))) ?_ | refine ls_d rfl ?_) | ((with_reducible show LiD _ _ _); first | refine li_o (by ((repeat with_reducible first | exact Pick.zero | apply Pick.succ); (first | (all_goals fail) | fail))) (fun q => ?_) | refine li_d rfl (fun q => ?_)) | ((with_reducible show _ < 1920 ∧ _); refine ⟨log2_ok (by (first | omega | decide | (simp; omega))), ?_⟩) | ((with_reducible show CaD (rIsE _ _ _) [_, .r (.ty _)] _ _); refine cd_isEV (by with_reducible assumption) (by decide +kernel) ?_) | ((with_reducible show CaD (rIsE _ _ _) _ _ _); (first | refine cd_isE1 (r := true) (by with_reducible assumption) (by decide +kernel) (by decide +kernel) (by decide +kernel) ?_ | refine cd_isE1 (r := false) (by with_reducible assumption) (by decide +kernel) (by decide +kernel) (by decide +kernel) ?_)))) | dsimp only [List.nil_append, List.cons_append, Sl.plain])))
local macro_rules | `(tactic| walk_at "auto") => `(tactic| (repeat' (first | (first | ((with_reducible show DX _ _ _ _ _); (first | ((with_reducible show DX _ (.Subscript (.Name "_law_ways" _) _ _) _ _ _); refine dx_dget ?_) | ((with_reducible show DX _ (.Call (.Attribute (.Name "_law_ways" _) "get" _) [_] _ _) _ _ _); refine dx_dget1 ?_) | ((with_reducible show DX _ (.Call (.Attribute (.Name "_law_ways" _) "get" _) [_, _] _ _) _ _ _); refine dx_dget2 ?_) | ((with_reducible show DX _ (.Call (.Attribute (.Name "_law_ways" _) "pop" _) [_] _ _) _ _ _); refine dx_dpop1 ?_) | ((with_reducible show DX _ (.Call (.Attribute (.Name "_law_ways" _) "pop" _) [_, _] _ _) _ _ _); refine dx_dpop2 ?_) | ((with_reducible show DX _ (.Call (.Name "len" _) [(.Name "_law_ways" _)] _ _) _ _ _); refine dx_dlen ?_) | ((with_reducible show DX _ (.Call (.Name "list" _) [(.Name "_law_ways" _)] _ _) _ _ _); refine dx_dlist ?_) | ((with_reducible show DX _ (.Call (.Name "dict" _) [(.Name "_law_ways" _)] _ _) _ _ _); refine dx_dictO ?_) | ((with_reducible show DX _ (.Call (.Name "sorted" _) [(.Name "_law_ways" _)] _ _) _ _ _); refine dx_sortedD ?_) | ((with_reducible show DX _ (.Compare _ [.In] [(.Name "_law_ways" _)] _) _ _ _); refine dx_din ?_) | ((with_reducible show DX _ (.Compare _ [.NotIn] [(.Name "_law_ways" _)] _) _ _ _); refine dx_dnin ?_) | ((with_reducible show DX _ (.Name _ _) _ _ _); (first | refine dx_name (by ((repeat with_reducible first | exact Slot.zero | apply Slot.succ); (first | (all_goals fail) | fail))) (by exact fun e => nomatch e) ?_ | refine dx_gint (by with_reducible assumption) ?_ | refine dx_gstr (by with_reducible assumption) ?_ | refine dx_gcls (by with_reducible assumption) (by decide +kernel) ?_ | ((with_reducible show DX _ (.Name "int" _) _ _ _); refine dx_tint ?_) | ((with_reducible show DX _ (.Name "bool" _) _ _ _); refine dx_tbool ?_) | ((with_reducible show DX _ (.Name "str" _) _ _ _); refine dx_tstr ?_) | ((with_reducible show DX _ (.Name "list" _) _ _ _); refine dx_tlist ?_) | ((with_reducible show DX _ (.Name "tuple" _) _ _ _); refine dx_ttuple ?_) | ((with_reducible show DX _ (.Name "ValueError" _) _ _ _); refine dx_tVE (by with_reducible assumption) ?_))) | ((with_reducible show DX _ (.Constant _ _ _) _ _ _); (first | ((with_reducible show DX _ (.Constant (.int _) _ _) _ _ _); refine dx_int ?_) | ((with_reducible show DX _ (.Constant (.str _) _ _) _ _ _); refine dx_str ?_) | ((with_reducible show DX _ (.Constant (.bool _) _ _) _ _ _); refine dx_bl ?_) | refine dx_non ?_)) | ((with_reducible show DX _ (.BinOp (.List [_] _) .Mult _ _) _ _ _); refine dx_repD ?_) | ((with_reducible show DX _ (.BinOp _ _ _ _) _ _ _); (first | ((with_reducible show DX _ (.BinOp _ .Add _ _) _ _ _); refine dx_bin cAdd ?_) | ((with_reducible show DX _ (.BinOp _ .Sub _ _) _ _ _); refine dx_bin op_sub ?_) | ((with_reducible show DX _ (.BinOp _ .Mult _ _) _ _ _); refine dx_bin op_uMul ?_) | ((with_reducible show DX _ (.BinOp _ .FloorDiv _ _) _ _ _); refine dx_bin op_fdivW ?_) | ((with_reducible show DX _ (.BinOp _ .Mod _ _) _ _ _); refine dx_bin op_mod ?_) | ((with_reducible show DX _ (.BinOp _ .Pow _ _) _ _ _); refine dx_bin op_pow ?_))) | ((with_reducible show DX _ (.Compare _ [_] _ _) _ _ _); (first | ((with_reducible show DX _ (.Compare _ [.Eq] [_] _) _ _ _); refine dx_cmp cEq (nomark _) ?_) | ((with_reducible show DX _ (.Compare _ [.NotEq] [_] _) _ _ _); refine dx_cmp cNe (nomark _) ?_) | ((with_reducible show DX _ (.Compare _ [.Lt] [_] _) _ _ _); refine dx_cmp op_lt (nomark _) ?_) | ((with_reducible show DX _ (.Compare _ [.LtE] [_] _) _ _ _); refine dx_cmp op_le (nomark _) ?_) | ((with_reducible show DX _ (.Compare _ [.Gt] [_] _) _ _ _); refine dx_cmp op_gt (nomark _) ?_) | ((with_reducible show DX _ (.Compare _ [.GtE] [_] _) _ _ _); refine dx_cmp op_ge (nomark _) ?_) | ((with_reducible show DX _ (.Compare _ [.Is] [_] _) _ _ _); refine dx_cmp op_uIs (nomark _) ?_) | ((with_reducible show DX _ (.Compare _ [.IsNot] [_] _) _ _ _); refine dx_cmp op_uIsn (nomark _) ?_) | ((with_reducible show DX _ (.Compare _ [.In] [_] _) _ _ _); refine dx_cmp cIn (rfl) ?_) | ((with_reducible show DX _ (.Compare _ [.NotIn] [_] _) _ _ _); refine dx_cmp cNin (rfl) ?_))) | ((with_reducible show DX _ (.Compare _ [_, _] _ _) _ _ _); (first | ((with_reducible show DX _ (.Compare _ [.LtE, .Lt] [_, _] _) _ _ _); refine dx_chain op_le op_lt ?_) | ((with_reducible show DX _ (.Compare _ [.LtE, .LtE] [_, _] _) _ _ _); refine dx_chain op_le op_le ?_))) | ((with_reducible show DX _ (.BoolOp _ [_] _) _ _ _); refine dx_one ?_) | ((with_reducible show DX _ (.BoolOp .And _ _) _ _ _); refine dx_and ?_) | ((with_reducible show DX _ (.BoolOp .Or _ _) _ _ _); refine dx_or ?_) | ((with_reducible show DX _ (.UnaryOp .Not _ _) _ _ _); refine dx_not ?_) | ((with_reducible show DX _ (.UnaryOp _ _ _) _ _ _); refine dx_neg ?_) | ((with_reducible show DX _ (.Subscript _ (.Slice _ _ _ _) _) _ _ _); refine dx_slice ?_) | ((with_reducible show DX _ (.Subscript _ _ _) _ _ _); refine dx_ix cIx ?_) | ((with_reducible show DX _ (.Tuple _ _ _) _ _ _); refine dx_tup ?_) | ((with_reducible show DX _ (.IfExp _ _ _ _) _ _ _); refine dx_ifExp ?_) | ((with_reducible show DX _ (.List _ _) _ _ _); refine dx_lst ?_) | ((with_reducible show DX _ (.Dict [] [] _) _ _ _); refine dx_dnew ?_) | ((with_reducible show DX _ (.Attribute _ _ _) _ _ _); refine dx_fld ?_) | ((with_reducible show DX _ (.Call (.Attribute _ "clear" _) [] _ _) _ _ _); refine dx_clear ?_) | ((with_reducible show DX _ (.Call (.Attribute _ "pop" _) [] _ _) _ _ _); refine dx_pop ?_) | ((with_reducible show DX _ (.Call (.Attribute _ _ _) [] _ _) _ _ _); refine dx_meth0 (by with_reducible assumption) (by with_reducible assumption) ?_) | ((with_reducible show DX _ (.Call (.Name _ _) [] _ _) _ _ _); refine dx_call0 (by with_reducible assumption) ?_) | ((with_reducible show DX _ (.Call (.Attribute _ "append" _) [_] _ _) _ _ _); refine dx_append ?_) | ((with_reducible show DX _ (.Call (.Attribute _ "join" _) [_] _ _) _ _ _); refine dx_join ?_) | ((with_reducible show DX _ (.Call (.Attribute _ "find" _) [_] _ _) _ _ _); refine dx_find ?_) | ((with_reducible show DX _ (.Call (.Attribute (.Constant (.str _) _ _) "index" _) [_] _ _) _ _ _); refine dx_sindex ?_) | ((with_reducible show DX _ (.Call (.Attribute _ "split" _) [_] _ _) _ _ _); refine dx_split ?_) | ((with_reducible show DX _ (.Call (.Attribute _ _ _) _ _ _) _ _ _); refine dx_meth (by with_reducible assumption) (by with_reducible assumption) ?_) | ((with_reducible show DX _ (.Call (.Name _ _) _ _ _) _ _ _); (first | ((with_reducible show DX _ (.Call (.Name "len" _) _ _ _) _ _ _); refine dx_len ?_) | ((with_reducible show DX _ (.Call (.Name "isinstance" _) _ _ _) _ _ _); (first | ((with_reducible show DX _ (.Call _ [_, .Tuple _ _ _] _ _) _ _ _); refine dx_isET (by with_reducible assumption) (by with_reducible assumption) (by decide +kernel) ?_) | ((with_reducible show DX _ (.Call _ [_, .Name _ _] _ _) _ _ _); first | refine dx_isE (by with_reducible assumption) ?_ | refine dx_isi ?_))) | ((with_reducible show DX _ (.Call (.Name "list" _) _ _ _) _ _ _); (first | refine dx_listA ?_ | refine dx_list ?_)) | ((with_reducible show DX _ (.Call (.Name "min" _) _ _ _) _ _ _); refine dx_min ?_) | ((with_reducible show DX _ (.Call (.Name "max" _) _ _ _) _ _ _); refine dx_max ?_) | ((with_reducible show DX _ (.Call (.Name "str" _) _ _ _) _ _ _); refine dx_cstr ?_) | ((with_reducible show DX _ (.Call (.Name "int" _) _ _ _) _ _ _); refine dx_cint ?_) | refine dx_call (by with_reducible assumption) ?_ | refine dx_make (by with_reducible assumption) ?_)))) | ((with_reducible show OpD _ _ _ _ _); (first | ((with_reducible show OpD (uAdd _) (.d (.int _)) (.d (.int _)) _ _); refine od_add ?_) | ((with_reducible show OpD (uAdd _) (.d (.str _)) (.d (.str _)) _ _); refine od_adds (by (first | (with_reducible assumption) | decide | ((try simp only [List.length_cons, List.length_nil, List.length_append, List.length_map, List.length_replicate]); omega) | (refine Nat.le_trans (cutL_len _ _ _) ?_; (try simp only [List.length_cons, List.length_nil, List.length_append, List.length_map, List.length_replicate]); omega) | (refine Nat.le_trans (Nat.add_le_add_left (cutL_len _ _ _) _) ?_; (try simp only [List.length_cons, List.length_nil, List.length_append, List.length_map, List.length_replicate]); omega) | (refine Nat.le_trans (Nat.add_le_add_right (cutL_len _ _ _) _) ?_; (try simp only [List.length_cons, List.length_nil, List.length_append, List.length_map, List.length_replicate]); omega))) ?_) | ((with_reducible show OpD (uAdd _) (.d (.tuple _)) (.d (.tuple _)) _ _); refine od_addt (by first | exact List.cons_ne_nil _ _ | decide) (by (first | (with_reducible assumption) | decide | ((try simp only [List.length_cons, List.length_nil, List.length_append, List.length_map, List.length_replicate]); omega) | (refine Nat.le_trans (cutL_len _ _ _) ?_; (try simp only [List.length_cons, List.length_nil, List.length_append, List.length_map, List.length_replicate]); omega) | (refine Nat.le_trans (Nat.add_le_add_left (cutL_len _ _ _) _) ?_; (try simp only [List.length_cons, List.length_nil, List.length_append, List.length_map, List.length_replicate]); omega) | (refine Nat.le_trans (Nat.add_le_add_right (cutL_len _ _ _) _) ?_; (try simp only [List.length_cons, List.length_nil, List.length_append, List.length_map, List.length_replicate]); omega))) ?_) | ((with_reducible show OpD (uAdd _) _ _ _ _); refine od_addl rfl rfl (by (first | (with_reducible assumption) | decide | ((try simp only [List.length_cons, List.length_nil, List.length_append, List.length_map, List.length_replicate]); omega) | (refine Nat.le_trans (cutL_len _ _ _) ?_; (try simp only [List.length_cons, List.length_nil, List.length_append, List.length_map, List.length_replicate]); omega) | (refine Nat.le_trans (Nat.add_le_add_left (cutL_len _ _ _) _) ?_; (try simp only [List.length_cons, List.length_nil, List.length_append, List.length_map, List.length_replicate]); omega) | (refine Nat.le_trans (Nat.add_le_add_right (cutL_len _ _ _) _) ?_; (try simp only [List.length_cons, List.length_nil, List.length_append, List.length_map, List.length_replicate]); omega))) ?_) | ((with_reducible show OpD (rI0 fun i j => .int (i - j)) _ _ _ _); refine od_sub ?_) | ((with_reducible show OpD uMul (.d (.int _)) (.d (.int _)) _ _); (first | refine od_mul (mul_r (by (first | omega | decide | (simp; omega)))) ?_ | refine od_mul (mul_l (by (first | omega | decide | (simp; omega)))) ?_ | refine od_mul (mul_ok (by (first | omega | decide | (simp; omega))) (by (first | omega | decide | (simp; omega)))) ?_)) | ((with_reducible show OpD (rI CDivW _) _ _ _ _); refine od_div (by (first | omega | decide | (simp; omega))) ?_) | ((with_reducible show OpD (rI CPow _) (.d (.int 10)) _ _ _); (first | (with_reducible refine od_p60 ?_) | (with_reducible refine od_p59 ?_) | (with_reducible refine od_p20 ?_) | (with_reducible refine od_p40 ?_) | (with_reducible refine od_p6 ?_) | (with_reducible refine od_p9 ?_) | (with_reducible refine od_p50 ?_) | (with_reducible refine od_p58 ?_) | (with_reducible refine od_p30 ?_) | (with_reducible refine od_p3 ?_))) | ((with_reducible show OpD (rI CPow _) _ _ _ _); refine od_pow (by decide) ?_) | ((with_reducible show OpD (rI0 fun i j => .bl (decide (i < j))) _ _ _ _); refine od_lt ?_) | ((with_reducible show OpD (rI0 fun i j => .bl (decide (i ≤ j))) _ _ _ _); refine od_le ?_) | ((with_reducible show OpD (rI0 fun i j => .bl (decide (j < i))) _ _ _ _); refine od_gt ?_) | ((with_reducible show OpD (rI0 fun i j => .bl (decide (j ≤ i))) _ _ _ _); refine od_ge ?_) | ((with_reducible show OpD (rI _ _) _ _ _ _); refine od_mod (by (first | omega | decide | (simp; omega))) ?_) | ((with_reducible show OpD (uEq _) _ _ _ _); (first | refine od_eq rfl rfl (by first | exact .int _ _ | exact .str _ _ | exact .bl _ _ | exact .nn | exact .ni _ | exact .in_ _ | exact .ns _ | exact .sn _) ?_ | refine od_eqS rfl rfl (by first | (with_reducible assumption) | decide +kernel | rfl) ?_ | refine od_eq rfl rfl (.dat (by first | (with_reducible assumption) | decide +kernel | rfl) (by first | (with_reducible assumption) | decide +kernel | rfl)) ?_)) | ((with_reducible show OpD (uNe _) _ _ _ _); (first | (with_reducible refine od_nenm ?_) | refine od_ne rfl rfl (by first | exact .int _ _ | exact .str _ _ | exact .bl _ _ | exact .nn | exact .ni _ | exact .in_ _ | exact .ns _ | exact .sn _) ?_ | refine od_neS rfl rfl (by first | (with_reducible assumption) | decide +kernel | rfl) ?_ | refine od_ne rfl rfl (.dat (by first | (with_reducible assumption) | decide +kernel | rfl) (by first | (with_reducible assumption) | decide +kernel | rfl)) ?_)) | ((with_reducible show OpD (uNin _) (.d (.str _)) (.d (.str _)) _ _); refine od_nins ?_) | ((with_reducible show OpD (uIn _) (.d (.str _)) (.d (.str _)) _ _); refine od_ins ?_) | ((with_reducible show OpD (uIn _) (.d _) (.r (.ref _)) _ _); refine od_inO (by ((repeat with_reducible first | exact Pick.zero | apply Pick.succ); (first | (all_goals fail) | fail))) rfl (by with_reducible assumption) ?_) | ((with_reducible show OpD (uNin _) (.d _) (.r (.ref _)) _ _); refine od_ninO (by ((repeat with_reducible first | exact Pick.zero | apply Pick.succ); (first | (all_goals fail) | fail))) rfl (by with_reducible assumption) ?_) | ((with_reducible show OpD uIs _ _ _ _); (first | (with_reducible refine od_isnm ?_) | refine od_is rfl ?_)) | ((with_reducible show OpD uIsn _ _ _ _); (first | (with_reducible refine od_isnnm ?_) | refine od_isn rfl ?_)) | ((with_reducible show OpD (rIx _) (.r (.ref _)) _ _ _); refine od_ixo (by ((repeat with_reducible first | exact Pick.zero | apply Pick.succ); (first | (all_goals fail) | fail))) (by first | rfl | with_reducible assumption) (by exact fun _ z => nomatch z) ?_) | ((with_reducible show OpD (rIx _) (.d (.str _)) _ _ _); refine od_ixt (by (first | (with_reducible assumption) | decide | ((try simp only [List.length_cons, List.length_nil, List.length_append, List.length_map, List.length_replicate]); omega) | (refine Nat.le_trans (cutL_len _ _ _) ?_; (try simp only [List.length_cons, List.length_nil, List.length_append, List.length_map, List.length_replicate]); omega) | (refine Nat.le_trans (Nat.add_le_add_left (cutL_len _ _ _) _) ?_; (try simp only [List.length_cons, List.length_nil, List.length_append, List.length_map, List.length_replicate]); omega) | (refine Nat.le_trans (Nat.add_le_add_right (cutL_len _ _ _) _) ?_; (try simp only [List.length_cons, List.length_nil, List.length_append, List.length_map, List.length_replicate]); omega))) (by with_reducible assumption) ?_) | ((with_reducible show OpD (rIx _) _ _ _ _); refine od_ixs rfl (by first | rfl | with_reducible assumption) ?_))) | ((with_reducible show DS _ _ _ _ _); (first | ((with_reducible show DS _ (.Assign [.Subscript (.Name "_law_ways" _) _ _] _ _) _ _ _); refine ds_dput ?_) | ((with_reducible show DS _ (.Assign [.Name _ _] (.Call (.Attribute _ "leaves" _) _ _ _) _) _ _ _); refine ds_set (dx_frz ?_)) | ((with_reducible show DS _ (.Assign [.Name _ _] _ _) _ _ _); (fail_if_success (with_reducible show DS _ (.Assign _ (.List [] _) _) _ _ _)); (fail_if_success (with_reducible show DS _ (.Assign _ (.ListComp _ _ _ _) _) _ _ _)); refine ds_set ?_) | ((with_reducible show DS _ (.Assign [.Attribute _ _ _] _ _) _ _ _); (fail_if_success (with_reducible show DS _ (.Assign _ (.List _ _) _) _ _ _)); (fail_if_success (with_reducible show DS _ (.Assign _ (.ListComp _ _ _ _) _) _ _ _)); refine ds_fld ?_) | ((with_reducible show DS _ (.Assign [.Subscript _ _ _] _ _) _ _ _); (fail_if_success (with_reducible show DS _ (.Assign [.Subscript (.Subscript _ _ _) _ _] _ _) _ _ _)); refine ds_seti ?_) | ((with_reducible show DS _ (.Return (some _) _) _ _ _); refine ds_ret ?_) | ((with_reducible show DS _ (.Return none _) _ _ _); refine ds_retN ?_) | ((with_reducible show DS _ (.If _ _ _ _) _ _ _); refine ds_if ?_) | ((with_reducible show DS _ (.Expr (.Constant _ _ _) _) _ _ _); refine ds_doc ?_) | ((with_reducible show DS _ (.Expr _ _) _ _ _); refine ds_expr ?_) | ((with_reducible show DS _ (.Pass _) _ _ _); refine ds_pass ?_) | ((with_reducible show DS _ (.Break _) _ _ _); refine ds_break ?_) | ((with_reducible show DS _ (.Continue _) _ _ _); refine ds_continue ?_) | ((with_reducible show DS _ (.Raise (some (.Call (.Name _ _) [.Constant (.str _) _ _] [] _)) none _) _ _ _); refine ds_raise (by with_reducible assumption) (by decide +kernel) (by decide +kernel) ?_))) | ((with_reducible show DSs _ _ _ _ _); (first | ((with_reducible show DSs _ (_ :: _) _ _ _); refine dss_cons ?_) | ((with_reducible show DSs _ [] _ _ _); refine dss_nil ?_))) | ((with_reducible show DT _ _ _ _ _); (first | ((with_reducible show DT _ (.Compare _ [.In] [(.Name "_law_ways" _)] _) _ _ _); refine dt_din ?_) | ((with_reducible show DT _ (.Compare _ [.NotIn] [(.Name "_law_ways" _)] _) _ _ _); refine dt_dnin ?_) | ((with_reducible show DT _ (.BoolOp _ _ _) _ _ _); refine dt_bool ?_) | ((with_reducible show DT _ (.UnaryOp .Not _ _) _ _ _); refine dt_not ?_) | ((with_reducible show DT _ (.Compare _ [_] _ _) _ _ _); (first | ((with_reducible show DT _ (.Compare _ [.Eq] [_] _) _ _ _); refine dt_cmp cEq (nomark _) ?_) | ((with_reducible show DT _ (.Compare _ [.NotEq] [_] _) _ _ _); refine dt_cmp cNe (nomark _) ?_) | ((with_reducible show DT _ (.Compare _ [.Lt] [_] _) _ _ _); refine dt_cmp op_lt (nomark _) ?_) | ((with_reducible show DT _ (.Compare _ [.LtE] [_] _) _ _ _); refine dt_cmp op_le (nomark _) ?_) | ((with_reducible show DT _ (.Compare _ [.Gt] [_] _) _ _ _); refine dt_cmp op_gt (nomark _) ?_) | ((with_reducible show DT _ (.Compare _ [.GtE] [_] _) _ _ _); refine dt_cmp op_ge (nomark _) ?_) | ((with_reducible show DT _ (.Compare _ [.Is] [_] _) _ _ _); refine dt_cmp op_uIs (nomark _) ?_) | ((with_reducible show DT _ (.Compare _ [.IsNot] [_] _) _ _ _); refine dt_cmp op_uIsn (nomark _) ?_) | ((with_reducible show DT _ (.Compare _ [.In] [_] _) _ _ _); refine dt_cmp cIn (rfl) ?_) | ((with_reducible show DT _ (.Compare _ [.NotIn] [_] _) _ _ _); refine dt_cmp cNin (rfl) ?_))) | ((with_reducible show DT _ (.Compare _ [_, _] _ _) _ _ _); (first | ((with_reducible show DT _ (.Compare _ [.LtE, .Lt] [_, _] _) _ _ _); refine dt_chain op_le op_lt ?_) | ((with_reducible show DT _ (.Compare _ [.LtE, .LtE] [_, _] _) _ _ _); refine dt_chain op_le op_le ?_))) | ((with_reducible show DT _ _ _ _ _); refine dt_tru ?_))) | ((with_reducible show DW _ _ _ _ _); (first | ((with_reducible show DW _ (.BoolOp .And [_] _) _ _ _); refine dw_and1 ?_) | ((with_reducible show DW _ (.BoolOp .Or [_] _) _ _ _); refine dw_or1 ?_) | ((with_reducible show DW _ (.BoolOp .And _ _) _ _ _); refine dw_and ?_) | ((with_reducible show DW _ (.BoolOp .Or _ _) _ _ _); refine dw_or ?_))) | ((with_reducible show DA _ _ _ _ _); (first | ((with_reducible show DA _ (.Call (.Attribute _ "leaves" _) _ _ _ :: _) _ _ _); refine da_cons (dx_frz ?_)) | ((with_reducible show DA _ (_ :: _) _ _ _); refine da_cons ?_) | ((with_reducible show DA _ [] _ _ _); refine da_nil ?_))) | ((with_reducible show if _ = true then _ else _); (first | (with_reducible refine ite_tt ?_) | (with_reducible refine ite_ff ?_) | (with_reducible refine ite_nt ?_) | (with_reducible refine ite_nf ?_) | ((with_reducible show if decide _ = true then _ else _); first | refine ite_dt (by (first | (with_reducible assumption) | omega | decide +kernel | ((simp only [List.length_cons, List.length_nil, List.length_map, List.length_append]); omega) | ((simp only [List.length_cons, List.length_nil, List.length_map, List.length_append]); (first | (all_goals fail) | fail)))) ?_ | refine ite_df (by (first | (with_reducible assumption) | omega | decide +kernel | ((simp only [List.length_cons, List.length_nil, List.length_map, List.length_append]); omega) | ((simp only [List.length_cons, List.length_nil, List.length_map, List.length_append]); (first | (all_goals fail) | fail)))) ?_) | ((with_reducible show if (!decide _) = true then _ else _); first | refine ite_ndf (by (first | (with_reducible assumption) | omega | decide +kernel | ((simp only [List.length_cons, List.length_nil, List.length_map, List.length_append]); omega) | ((simp only [List.length_cons, List.length_nil, List.length_map, List.length_append]); (first | (all_goals fail) | fail)))) ?_ | refine ite_ndt (by (first | (with_reducible assumption) | omega | decide +kernel | ((simp only [List.length_cons, List.length_nil, List.length_map, List.length_append]); omega) | ((simp only [List.length_cons, List.length_nil, List.length_map, List.length_append]); (first | (all_goals fail) | fail)))) ?_) | (with_reducible refine ite_nn ?_) | ((with_reducible show if PyData.eqv _ _ = true then _ else _); first | refine ite_t (by decide +kernel) ?_ | refine ite_f (by decide +kernel) ?_ | refine ite_t rfl ?_ | refine ite_f rfl ?_) | ((with_reducible show if (!PyData.eqv _ _) = true then _ else _); first | refine ite_t (by decide +kernel) ?_ | refine ite_f (by decide +kernel) ?_ | refine ite_t rfl ?_ | refine ite_f rfl ?_) | ((with_reducible show if wholeD (.int _) = true then _ else _); refine ite_t rfl ?_) | ((with_reducible show if (!wholeD (.int _)) = true then _ else _); refine ite_f rfl ?_) | ((with_reducible show if isD _ _ = true then _ else _); first | refine ite_t rfl ?_ | refine ite_f rfl ?_) | ((with_reducible show if (!isD _ _) = true then _ else _); first | refine ite_t rfl ?_ | refine ite_f rfl ?_))) | ((with_reducible show Exists _); (first | (with_reducible refine me_tab (by ((repeat with_reducible first | exact Pick.zero | apply Pick.succ); (first | (all_goals fail) | fail))) (by decide +kernel) ?_) | ((with_reducible show ∃ i ρ', SetS _ _ _ i _ ρ' ∧ _); refine ⟨_, _, by ((repeat with_reducible first | exact SetS.zero | apply SetS.succ); (first | (all_goals fail) | fail)), ?_⟩) | (with_reducible refine ex_list rfl ?_) | ((with_reducible show ∃ ds, Sl.asSeq _ = some ds ∧ _); refine ex_seq rfl ?_) | ((with_reducible show ∃ ds, Datas _ ds ∧ _); refine ex_datas (by ((repeat with_reducible first | exact datas_nil | apply datas_cons); (first | (all_goals fail) | fail))) (by first | exact Nat.le_of_ble_eq_true rfl | (first | (with_reducible assumption) | decide | ((try simp only [List.length_cons, List.length_nil, List.length_append, List.length_map, List.length_replicate]); omega) | (refine Nat.le_trans (cutL_len _ _ _) ?_; (try simp only [List.length_cons, List.length_nil, List.length_append, List.length_map, List.length_replicate]); omega) | (refine Nat.le_trans (Nat.add_le_add_left (cutL_len _ _ _) _) ?_; (try simp only [List.length_cons, List.length_nil, List.length_append, List.length_map, List.length_replicate]); omega) | (refine Nat.le_trans (Nat.add_le_add_right (cutL_len _ _ _) _) ?_; (try simp only [List.length_cons, List.length_nil, List.length_append, List.length_map, List.length_replicate]); omega))) ?_) | ((with_reducible show ∃ C p fs g sl, _ = Sl.r (.ref p) ∧ Pick _ (insM C p fs) g ∧ FldC _ C _ ∧ FldAt fs _ sl ∧ _); refine ex_fld (by ((repeat with_reducible first | exact Pick.zero | apply Pick.succ); (first | (all_goals fail) | fail))) (fldc (by with_reducible assumption) (by decide +kernel)) (by ((repeat with_reducible first | exact FldAt.zero | apply FldAt.succ); (first | (all_goals fail) | fail))) (by (simp only [List.map_cons, List.map_nil]); decide +kernel) (by exact fun _ z => nomatch z) ?_) | ((with_reducible show ∃ C p fs g fs2, _ = Sl.r (.ref p) ∧ Pick _ (insM C p fs) g ∧ FldC _ C _ ∧ (FldSet fs _ _ fs2 ∨ _) ∧ _); first | refine ex_fset (by ((repeat with_reducible first | exact Pick.zero | apply Pick.succ); (first | (all_goals fail) | fail))) (fldc (by with_reducible assumption) (by decide +kernel)) (by ((repeat with_reducible first | exact FldSet.zero | apply FldSet.succ); (first | (all_goals fail) | fail))) (by (simp only [List.map_cons, List.map_nil]); decide +kernel) (by exact Nat.le_of_ble_eq_true rfl) ?_ | refine ex_fnew (by ((repeat with_reducible first | exact Pick.zero | apply Pick.succ); (first | (all_goals fail) | fail))) (fldc (by with_reducible assumption) (by decide +kernel)) (by (simp only [List.map_cons, List.map_nil]); decide +kernel) (by (simp only [List.map_cons, List.map_nil]); decide +kernel) (by exact Nat.le_of_ble_eq_true rfl) ?_) | ((with_reducible show ∃ p ss f k j, _ = Sl.r (.ref p) ∧ _ = Sl.d (.int k) ∧ _); refine ex_seti (by ((repeat with_reducible first | exact Pick.zero | apply Pick.succ); (first | (all_goals fail) | fail))) (by first | with_reducible assumption | rfl) ?_) | (with_reducible refine ex_frz (by ((repeat with_reducible first | exact Pick.zero | apply Pick.succ); (first | (all_goals fail) | fail))) ?_) | (with_reducible refine ex_own (by ((repeat with_reducible first | exact Pick.zero | apply Pick.succ); (first | (all_goals fail) | fail))) ?_) | (with_reducible refine ex_app (by ((repeat with_reducible first | exact Pick.zero | apply Pick.succ); (first | (all_goals fail) | fail))) (by (first | (with_reducible assumption) | decide | ((try simp only [List.length_cons, List.length_nil, List.length_append, List.length_map, List.length_replicate]); omega) | (refine Nat.le_trans (cutL_len _ _ _) ?_; (try simp only [List.length_cons, List.length_nil, List.length_append, List.length_map, List.length_replicate]); omega) | (refine Nat.le_trans (Nat.add_le_add_left (cutL_len _ _ _) _) ?_; (try simp only [List.length_cons, List.length_nil, List.length_append, List.length_map, List.length_replicate]); omega) | (refine Nat.le_trans (Nat.add_le_add_right (cutL_len _ _ _) _) ?_; (try simp only [List.length_cons, List.length_nil, List.length_append, List.length_map, List.length_replicate]); omega))) ?_) | ((with_reducible show ∃ ys, RefsE _ _ ys ∧ _); (first | refine ex_refs (w := false) (by ((repeat with_reducible first | exact RefsE.nil | apply RefsE.cons); (first | (all_goals fail) | fail))) (by decide +kernel) ?_ | refine ex_refs (w := true) (by ((repeat with_reducible first | exact RefsE.nil | apply RefsE.cons); (first | (all_goals fail) | fail))) (by decide +kernel) ?_)) | ((with_reducible show ∃ rs', Ent [_] (rs' ++ [_]) ∧ _); (refine end_ex ?_; with_reducible assumption)) | ((with_reducible show ∃ ρ', SetS _ _ _ _ _ ρ' ∧ _); refine ⟨_, by ((repeat with_reducible first | exact SetS.zero | apply SetS.succ); (first | (all_goals fail) | fail)), ?_⟩) | (with_reducible refine ex_rep (by ((repeat with_reducible first | exact Pick.zero | apply Pick.succ); (first | (all_goals fail) | fail))) (by (first | omega | decide | (simp; omega))) ?_) | (with_reducible refine ex_dat ?_) | (with_reducible refine ex_int ?_) | (with_reducible refine ex_str ?_) | (with_reducible refine ex_dic (by ((repeat with_reducible first | exact Pick.zero | apply Pick.succ); (first | (all_goals fail) | fail))) ?_) | (with_reducible refine ex_din1 (by ((repeat with_reducible first | exact Pick.zero | apply Pick.succ); (first | (all_goals fail) | fail))) ?_) | (with_reducible refine ex_din2 (by ((repeat with_reducible first | exact Pick.zero | apply Pick.succ); (first | (all_goals fail) | fail))) ?_) | (with_reducible refine ex_dlen (by ((repeat with_reducible first | exact Pick.zero | apply Pick.succ); (first | (all_goals fail) | fail))) ?_) | ((with_reducible show ∃ p kvs f k, _ = Sl.r (.ref p) ∧ _ = Sl.d (keyD k) ∧ Pick _ (dictM p kvs) f ∧ kvs.length ≤ _ ∧ _); first | refine ex_dputI (by ((repeat with_reducible first | exact Pick.zero | apply Pick.succ); (first | (all_goals fail) | fail))) (by (first | (with_reducible assumption) | decide | ((try simp only [List.length_cons, List.length_nil, List.length_append, List.length_map, List.length_replicate]); omega) | (refine Nat.le_trans (cutL_len _ _ _) ?_; (try simp only [List.length_cons, List.length_nil, List.length_append, List.length_map, List.length_replicate]); omega) | (refine Nat.le_trans (Nat.add_le_add_left (cutL_len _ _ _) _) ?_; (try simp only [List.length_cons, List.length_nil, List.length_append, List.length_map, List.length_replicate]); omega) | (refine Nat.le_trans (Nat.add_le_add_right (cutL_len _ _ _) _) ?_; (try simp only [List.length_cons, List.length_nil, List.length_append, List.length_map, List.length_replicate]); omega))) ?_ | refine ex_dputS (by ((repeat with_reducible first | exact Pick.zero | apply Pick.succ); (first | (all_goals fail) | fail))) (by (first | (with_reducible assumption) | decide | ((try simp only [List.length_cons, List.length_nil, List.length_append, List.length_map, List.length_replicate]); omega) | (refine Nat.le_trans (cutL_len _ _ _) ?_; (try simp only [List.length_cons, List.length_nil, List.length_append, List.length_map, List.length_replicate]); omega) | (refine Nat.le_trans (Nat.add_le_add_left (cutL_len _ _ _) _) ?_; (try simp only [List.length_cons, List.length_nil, List.length_append, List.length_map, List.length_replicate]); omega) | (refine Nat.le_trans (Nat.add_le_add_right (cutL_len _ _ _) _) ?_; (try simp only [List.length_cons, List.length_nil, List.length_append, List.length_map, List.length_replicate]); omega))) ?_) | ((with_reducible show ∃ p kvs f k, _ = Sl.r (.ref p) ∧ _ = Sl.d (keyD k) ∧ Pick _ (dictM p kvs) f ∧ _); first | refine ex_din1 (by ((repeat with_reducible first | exact Pick.zero | apply Pick.succ); (first | (all_goals fail) | fail))) ?_ | refine ex_din2 (by ((repeat with_reducible first | exact Pick.zero | apply Pick.succ); (first | (all_goals fail) | fail))) ?_) | ((with_reducible show ∃ kvs f k s, _ = Sl.d (keyD k) ∧ Pick _ (dictM _ kvs) f ∧ valS kvs k = some s ∧ _); first | refine ex_dpopI (by ((repeat with_reducible first | exact Pick.zero | apply Pick.succ); (first | (all_goals fail) | fail))) (by with_reducible assumption) (by exact fun _ z => nomatch z) ?_ | refine ex_dpopS (by ((repeat with_reducible first | exact Pick.zero | apply Pick.succ); (first | (all_goals fail) | fail))) (by with_reducible assumption) (by exact fun _ z => nomatch z) ?_) | ((with_reducible show ∃ p kvs f k s, _ = Sl.r (.ref p) ∧ _ = Sl.d (keyD k) ∧ Pick _ (dictM p kvs) f ∧ _); first | refine ex_dget (by ((repeat with_reducible first | exact Pick.zero | apply Pick.succ); (first | (all_goals fail) | fail))) (by with_reducible assumption) (by exact fun _ z => nomatch z) ?_ | refine ex_dgetS (by ((repeat with_reducible first | exact Pick.zero | apply Pick.succ); (first | (all_goals fail) | fail))) (by with_reducible assumption) (by exact fun _ z => nomatch z) ?_))) | (first | (with_reducible refine kt ?_) | ((with_reducible show ∀ _ : Addr, _); intro q) | ((with_reducible show Le _ _ ∧ _ = _); exact ⟨by ((repeat with_reducible first | exact Le.nil | apply Le.eq | apply Le.un); (first | (all_goals fail) | fail)), rfl⟩) | ((with_reducible show CallEnd _ _ _ _ _ _); (first | ((with_reducible refine ce_tab (by ((repeat with_reducible first | exact Pick.zero | apply Pick.succ); (first | (all_goals fail) | fail))) ?_); (first | refine ⟨_, rfl, rfl, by (first | (with_reducible trivial) | (with_reducible assumption) | omega | (exact ⟨by with_reducible assumption, by with_reducible assumption⟩)), ?_⟩ | refine ⟨_, _, rfl, rfl, by (first | (with_reducible trivial) | (with_reducible assumption) | omega | (exact ⟨by with_reducible assumption, by with_reducible assumption⟩)), ?_⟩ | refine ⟨_, _, _, rfl, rfl, by (first | (with_reducible trivial) | (with_reducible assumption) | omega | (exact ⟨by with_reducible assumption, by with_reducible assumption⟩)), ?_⟩ | refine ⟨_, _, _, _, rfl, rfl, by (first | (with_reducible trivial) | (with_reducible assumption) | omega | (exact ⟨by with_reducible assumption, by with_reducible assumption⟩)), ?_⟩ | refine ⟨_, _, _, _, _, rfl, rfl, by (first | (with_reducible trivial) | (with_reducible assumption) | omega | (exact ⟨by with_reducible assumption, by with_reducible assumption⟩)), ?_⟩ | refine ⟨_, _, _, _, _, _, rfl, rfl, by (first | (with_reducible trivial) | (with_reducible assumption) | omega | (exact ⟨by with_reducible assumption, by with_reducible assumption⟩)), ?_⟩ | refine ⟨_, _, _, _, _, _, _, rfl, rfl, by (first | (with_reducible trivial) | (with_reducible assumption) | omega | (exact ⟨by with_reducible assumption, by with_reducible assumption⟩)), ?_⟩ | refine ⟨_, _, _, _, _, _, _, _, rfl, rfl, by (first | (with_reducible trivial) | (with_reducible assumption) | omega | (exact ⟨by with_reducible assumption, by with_reducible assumption⟩)), ?_⟩)) | (refine ce_inl ?_; first | refine ⟨_, rfl, rfl, by (first | (with_reducible trivial) | (with_reducible assumption) | omega | (exact ⟨by with_reducible assumption, by with_reducible assumption⟩)), ?_⟩ | refine ⟨_, _, rfl, rfl, by (first | (with_reducible trivial) | (with_reducible assumption) | omega | (exact ⟨by with_reducible assumption, by with_reducible assumption⟩)), ?_⟩ | refine ⟨_, _, _, rfl, rfl, by (first | (with_reducible trivial) | (with_reducible assumption) | omega | (exact ⟨by with_reducible assumption, by with_reducible assumption⟩)), ?_⟩ | refine ⟨_, _, _, _, rfl, rfl, by (first | (with_reducible trivial) | (with_reducible assumption) | omega | (exact ⟨by with_reducible assumption, by with_reducible assumption⟩)), ?_⟩ | refine ⟨_, _, _, _, _, rfl, rfl, by (first | (with_reducible trivial) | (with_reducible assumption) | omega | (exact ⟨by with_reducible assumption, by with_reducible assumption⟩)), ?_⟩ | refine ⟨_, _, _, _, _, _, rfl, rfl, by (first | (with_reducible trivial) | (with_reducible assumption) | omega | (exact ⟨by with_reducible assumption, by with_reducible assumption⟩)), ?_⟩))) | ((with_reducible show CallEnd0 _ _ _ _); (first | ((with_reducible refine ce0_tab (by ((repeat with_reducible first | exact Pick.zero | apply Pick.succ); (first | (all_goals fail) | fail))) ?_); (first | refine ⟨_, rfl, rfl, by (first | (with_reducible trivial) | (with_reducible assumption) | omega | (exact ⟨by with_reducible assumption, by with_reducible assumption⟩)), ?_⟩ | refine ⟨_, _, rfl, rfl, by (first | (with_reducible trivial) | (with_reducible assumption) | omega | (exact ⟨by with_reducible assumption, by with_reducible assumption⟩)), ?_⟩ | refine ⟨_, _, _, rfl, rfl, by (first | (with_reducible trivial) | (with_reducible assumption) | omega | (exact ⟨by with_reducible assumption, by with_reducible assumption⟩)), ?_⟩ | refine ⟨_, _, _, _, rfl, rfl, by (first | (with_reducible trivial) | (with_reducible assumption) | omega | (exact ⟨by with_reducible assumption, by with_reducible assumption⟩)), ?_⟩ | refine ⟨_, _, _, _, _, rfl, rfl, by (first | (with_reducible trivial) | (with_reducible assumption) | omega | (exact ⟨by with_reducible assumption, by with_reducible assumption⟩)), ?_⟩ | refine ⟨_, _, _, _, _, _, rfl, rfl, by (first | (with_reducible trivial) | (with_reducible assumption) | omega | (exact ⟨by with_reducible assumption, by with_reducible assumption⟩)), ?_⟩ | refine ⟨_, _, _, _, _, _, _, rfl, rfl, by (first | (with_reducible trivial) | (with_reducible assumption) | omega | (exact ⟨by with_reducible assumption, by with_reducible assumption⟩)), ?_⟩ | refine ⟨_, _, _, _, _, _, _, _, rfl, rfl, by (first | (with_reducible trivial) | (with_reducible assumption) | omega | (exact ⟨by with_reducible assumption, by with_reducible assumption⟩)), ?_⟩)))) | ((with_reducible show (bodyPost _ _).rt _ _); (first | (refine end_rt ?_; with_reducible assumption) | refine end_rtT (decide_eq_true (by omega)) (by with_reducible assumption) | refine end_rtT rfl (by with_reducible assumption))) | ((with_reducible show TrD (.d (.bool _)) _ _); refine tr_bool ?_) | ((with_reducible show TrD (.d .none) _ _); refine tr_none ?_) | ((with_reducible show TrD (.d (.int _)) _ _); refine tr_int ?_) | ((with_reducible show TrD (.d (.list _)) _ _); refine tr_list ?_) | ((with_reducible show TrD (.d (.tuple _)) _ _); refine tr_tuple ?_) | ((with_reducible show TrD (.r (.ref _)) _ _); (first | refine tr_own (by ((repeat with_reducible first | exact Pick.zero | apply Pick.succ); (first | (all_goals fail) | fail))) ?_ | refine tr_dict (by ((repeat with_reducible first | exact Pick.zero | apply Pick.succ); (first | (all_goals fail) | fail))) ?_)) | ((with_reducible show CaD (rIsi _) _ _ _); (first | refine cd_isiT (by decide) rfl rfl ?_ | refine cd_isiF (by decide) rfl rfl ?_ | refine cd_isi (by decide) rfl ?_)) | ((with_reducible show CaD _ [.d (.int _), .d (.int _)] _ _); (first | refine cd_min ?_ | refine cd_max ?_)) | ((with_reducible show LenD (.d (.str _)) _ _); refine ld_str (by (first | (with_reducible assumption) | decide | ((try simp only [List.length_cons, List.length_nil, List.length_append, List.length_map, List.length_replicate]); omega) | (refine Nat.le_trans (cutL_len _ _ _) ?_; (try simp only [List.length_cons, List.length_nil, List.length_append, List.length_map, List.length_replicate]); omega) | (refine Nat.le_trans (Nat.add_le_add_left (cutL_len _ _ _) _) ?_; (try simp only [List.length_cons, List.length_nil, List.length_append, List.length_map, List.length_replicate]); omega) | (refine Nat.le_trans (Nat.add_le_add_right (cutL_len _ _ _) _) ?_; (try simp only [List.length_cons, List.length_nil, List.length_append, List.length_map, List.length_replicate]); omega))) ?_) | ((with_reducible show LenD (.r (.ref _)) _ _); refine ld_own (by ((repeat with_reducible first | exact Pick.zero | apply Pick.succ); (first | (all_goals fail) | fail))) ?_) | ((with_reducible show LenD _ _ _); refine ld_seq rfl ?_) | ((with_reducible show SlD _ (.d (.list _)) _ _ _ _); refine sd_list ?_) | ((with_reducible show SlD _ (.n _) _ _ _ _); refine sd_list ?_) | ((with_reducible show SlD _ (.r (.ref _)) _ _ _ _); refine sd_own (by ((repeat with_reducible first | exact Pick.zero | apply Pick.succ); (first | (all_goals fail) | fail))) (fun q => ?_)) | ((with_reducible show SlD _ (.d (.str _)) _ _ _ _); refine sd_str (by (first | (with_reducible assumption) | decide | ((try simp only [List.length_cons, List.length_nil, List.length_append, List.length_map, List.length_replicate]); omega) | (refine Nat.le_trans (cutL_len _ _ _) ?_; (try simp only [List.length_cons, List.length_nil, List.length_append, List.length_map, List.length_replicate]); omega) | (refine Nat.le_trans (Nat.add_le_add_left (cutL_len _ _ _) _) ?_; (try simp only [List.length_cons, List.length_nil, List.length_append, List.length_map, List.length_replicate]); omega) | (refine Nat.le_trans (Nat.add_le_add_right (cutL_len _ _ _) _) ?_; (try simp only [List.length_cons, List.length_nil, List.length_append, List.length_map, List.length_replicate]); omega))) ?_) | ((with_reducible show SlD _ (.d (.tuple [_, _, _, _])) none (some 2) _ _); refine sd_t42 ?_) | ((with_reducible show SlD _ (.d (.tuple [_, _, _, _, _, _])) (some 2) (some 5) _ _); refine sd_t625 ?_) | ((with_reducible show SlD _ (.d (.tuple [_, _, _, _])) (some 2) none _ _); refine sd_t4f2 ?_) | ((with_reducible show SlD _ (.d (.tuple _)) _ _ _ _); refine sd_tup (by first | decide | ((simp only [List.length_cons, List.length_nil]); decide +kernel)) ?_) | ((with_reducible show DO _ none _ _ _); refine do_none ?_) | ((with_reducible show DO _ (some _) _ _ _); refine do_some ?_) | (with_reducible refine ex_eqr ?_) | ((with_reducible show LsD _ _ _); first | refine ls_s (by (first | (with_reducible assumption) | decide | ((try simp only [List.length_cons, List.length_nil, List.length_append, List.length_map, List.length_replicate]); omega) | (refine Nat.le_trans (cutL_len _ _ _) ?_; (try simp only [List.length_cons, List.length_nil, List.length_append, List.length_map, List.length_replicate]); omega) | (refine Nat.le_trans (Nat.add_le_add_left (cutL_len _ _ _) _) ?_; (try simp only [List.length_cons, List.length_nil, List.length_append, List.length_map, List.length_replicate]); omega) | (refine Nat.le_trans (Nat.add_le_add_right (cutL_len _ _ _) _) ?_; (try simp only [List.length_cons, List.length_nil, List.length_append, List.length_map, List.length_replicate]); omega))) ?_ | refine ls_d rfl ?_) | ((with_reducible show LiD _ _ _); first | refine li_o (by ((repeat with_reducible first | exact Pick.zero | apply Pick.succ); (first | (all_goals fail) | fail))) (fun q => ?_) | refine li_d rfl (fun q => ?_)) | ((with_reducible show _ < 1920 ∧ _); refine ⟨log2_ok (by (first | omega | decide | (simp; omega))), ?_⟩) | ((with_reducible show CaD (rIsE _ _ _) [_, .r (.ty _)] _ _); refine cd_isEV (by with_reducible assumption) (by decide +kernel) ?_) | ((with_reducible show CaD (rIsE _ _ _) _ _ _); (first | refine cd_isE1 (r := true) (by with_reducible assumption) (by decide +kernel) (by decide +kernel) (by decide +kernel) ?_ | refine cd_isE1 (r := false) (by with_reducible assumption) (by decide +kernel) (by decide +kernel) (by decide +kernel) ?_)))) | dsimp only [List.nil_append, List.cons_append, Sl.plain] | refine ite_d (fun h => ?_) (fun h => ?_) | refine ite_nd (fun h => ?_) (fun h => ?_) | refine ite_b (fun h => ?_) (fun h => ?_) | refine od_ixI rfl ⟨by omega, by (simp only [List.length_cons, List.length_nil]; omega)⟩ rfl (fun i => ?_) | refine od_ixA rfl ⟨by omega, by (simp only [List.length_cons, List.length_nil]; omega)⟩ (fun d hd => ?_) | intro z)))
local macro_rules | `(tactic| walk_at "nrm") => `(tactic| (dsimp only [List.replicate, List.cons_append, List.nil_append, List.append_nil]))
local macro_rules | `(tactic| walk_at "st") => `(tactic| ((try dsimp only [List.replicate, List.cons_append, List.nil_append, List.append_nil]); refine dss_cons ?_))
local macro_rules | `(tactic| walk_at "end") => `(tactic| (first | (with_reducible exact ⟨[], rfl, by assumption⟩) | exact ⟨[], rfl, by assumption⟩))
local macro_rules | `(tactic| walk_at "all") => `(tactic| (walk_at "st"; walk_at "go"; walk_at "end"))
section
variable [KC] {m : Mo} {C : Addr}
def K_Lwhole : Cn := fun ss rin res _ => ∃ n : Int, ss = [.d (.int n)] ∧ rin = [] ∧ True ∧ res (.d (.bool true)) []
theorem ok_Lwhole (hK : m.K = KC.K) (bl : Bl m.mg) {f fd} (F : Fun m.K "_law_whole" "_law_whole" s_Lwhole f fd) :
    FnOk m.P m.w m.K m.mg m.base (L2.CX m.P m.w) 1 f fd ["_law_num"] (spC K_Lwhole) := by
  refine fn_ok F f_Lwhole e_Lwhole bl hK (by rintro _ _ _ _ ⟨_, rfl, _⟩; rfl) 0 rfl ?_
  rintro ss rin fr res exc c hC
  obtain ⟨n, rfl, rfl, _, hr⟩ := hC
  walk_at "st"; walk_at "go"
def duesD (T : Tb) (k : Nat) : List PyData := ((List.range k).filter (leafB T)).map (leafD T)
theorem dues_step (T : Tb) (k : Nat) : duesD T (k + 1) = duesD T k ++ if leafB T k = true then [leafD T k] else [] := by
  unfold duesD
  rw [List.range_succ, List.filter_append, List.map_append]
  congr 1
  by_cases h : leafB T k = true
  · rw [if_pos h, List.filter_cons, if_pos h]; rfl
  · rw [if_neg h, List.filter_cons, if_neg h]; rfl
theorem dues_len (T : Tb) (k : Nat) : (duesD T k).length ≤ k := by
  unfold duesD
  rw [List.length_map]
  exact Nat.le_trans (List.length_filter_le _ _) (by simp)
/-- the entries that the ways tell for one upper number -/
theorem ent_of {T : Tb} (h : TOk T) (hn : TNe T) {u : Nat} (hu : u < 16) :
    (leafB T u = false ∧ (List.range 16).map (fun l : Nat => tget T ((16 * u + l : Nat) : Int)) = List.replicate 16 .none) ∨
    (leafB T u = true ∧ (List.range 16).map (fun l : Nat => tget T ((16 * u + l : Nat) : Int)) = leafL T u ∧ SeqAt.shaped (.list (leafL T u)) = true ∧ PyData.eqv (.list (leafL T u)) (.list (List.replicate 16 .none)) = false) := by
  rcases leaf_at h hu with ⟨hT, hb⟩ | ⟨es, hT, hb, hL, hel, hed⟩
  · refine .inl ⟨hb, List.eq_replicate_iff.mpr ⟨by simp, fun d hd => ?_⟩⟩
    obtain ⟨l, hl, rfl⟩ := List.mem_map.mp hd
    exact tget_no hT (List.mem_range.mp hl)
  · refine .inr ⟨hb, ?_, by rw [hL]; exact shaped_es hed, by rw [hL]; exact eqv_some hel hed (hn _ _ hT)⟩
    rw [hL]
    exact (List.map_congr_left fun l hl => tget_es hT (List.mem_range.mp hl)).trans (es_map hel)
def K_Ldue_of : Cn := fun ss rin res _ => ∃ (w : Addr) (T : Tb) (kvs : DKv), ss = [.r (.ref w)] ∧ rin = [dictM w kvs] ∧ (Agr T kvs ∧ TNe T) ∧ res (.d (.list (leavesD T))) [dictM w kvs]
theorem ok_Ldue_of (hK : m.K = KC.K) (bl : Bl m.mg) {f fd} (F : Fun m.K "_law_due_of" "_law_due_of" s_Ldue_of f fd) :
    FnOk m.P m.w m.K m.mg m.base (L2.CX m.P m.w) 1 f fd ["_law_ways"] (spC K_Ldue_of) := by
  refine fn_ok F f_Ldue_of e_Ldue_of bl hK (by rintro _ _ _ _ ⟨_, _, _, rfl, _⟩; rfl) 4 rfl ?_
  rintro ss rin fr res exc c hC
  obtain ⟨w, T, kvs, rfl, rfl, ⟨ha, hn⟩, hr⟩ := hC
  have ht := ha.ok
  walk_at "nrm"
  refine dss_cons (ds_set (dx_lstO (da_nil ⟨by decide, fun l => ⟨_, _, by walk_at "set", ?_⟩⟩)))
  refine dss_cons (ds_for (by walk_at "ix") (di_range1 ?_))
  walk_at "go"
  refine ⟨16, rfl, by omega, Nat, List.range 16, fun k => .d (.int (0 + (k : Nat))), rfl, Nat, fun _ => [.r (.ref w), .r (.ref l), .un, .un, .un], fun s => [lstM l ((duesD T s).map .d), dictM w kvs, fr], fun pre s => s = pre.length,
    ⟨0, rfl, by walk_at "le0", rfl⟩, fun _ _ _ => trivial, ?_, ?_⟩
  · rintro pre u post _ e rfl
    obtain ⟨rfl, hu⟩ := range_split e
    have hl1 := dues_len T pre.length
    refine ⟨_, by walk_at "set", ?_⟩
    refine dss_cons (ds_lc0 (by walk_at "ix") (by walk_at "ix") (blkOk_by (by decide +kernel)) (di_range1 ?_))
    walk_at "go"
    refine ⟨16, rfl, by omega, Nat, List.range 16, fun k => .d (.int (0 + (k : Nat))), fun k => tget T ((16 * pre.length + k : Nat) : Int), rfl, fun A => trivial, by decide, ⟨_, by walk_at "set", fun k hk => ⟨_, by walk_at "set", ?_⟩⟩, ?_⟩
    · intro A s0 H0 C0 cl0 fp0 hso
      rw [List.mem_range] at hk
      walk_at "go"
      rw [show 16 * (0 + (pre.length : Int)) + (0 + (k : Int)) = ((16 * pre.length + k : Nat) : Int) by omega]
      refine ⟨_, _, .inl _, rfl, by walk_at "pick", ha.no _, ?_⟩
      rw [ha.val _ (by omega)]
      exact ⟨rfl, rfl⟩
    refine ⟨_, by walk_at "set", ?_⟩
    show DSs _ _ _ _ _
    have hrs : SeqAt.shaped (.list (List.replicate 16 PyData.none)) = true := shaped_es fun d hd => .inl (List.eq_of_mem_replicate hd)
    rcases ent_of ht hn hu with ⟨hb, he⟩ | ⟨hb, he, hs, hq⟩
    · rw [he]
      walk_at "go"
      exact ⟨_, rfl, by walk_at "le", by rw [List.length_append, List.length_cons, List.length_nil, dues_step, hb]; simp⟩
    · rw [he]
      walk_at "go"
      rw [show Int.toNat 16 = 16 from rfl, hq]
      walk_at "go"
      refine ⟨_, rfl, by walk_at "le", ?_⟩
      rw [List.length_append, List.length_cons, List.length_nil, dues_step, hb, if_pos rfl, List.map_append]
      unfold leafD
      rw [Int.zero_add]; rfl
  · rintro _ rfl
    walk_at "go"
    exact fin_frz [dictM w kvs] .zero ent_refl hr
theorem leaves_shaped {T : Tb} (h : TOk T) : SeqAt.shaped (.list (leavesD T)) = true := shaped_list 2 (by decide) fun d hd => by
  unfold leavesD at hd
  obtain ⟨u, hu, rfl⟩ := List.mem_map.mp hd
  obtain ⟨hu, hb⟩ := List.mem_filter.mp hu
  rcases leaf_at h (List.mem_range.mp hu) with ⟨_, hb2⟩ | ⟨es, _, _, hL, hel, hed⟩
  · rw [hb] at hb2; cases hb2
  have key : ∀ d ∈ leafL T u, d.canLay0 = true ∧ d.depth ≤ 0 := fun d hd => by
    rw [hL] at hd
    rcases hed d hd with rfl | ⟨k, rfl⟩ <;> exact ⟨rfl, Nat.le_refl 0⟩
  refine ⟨?_, ?_⟩
  · have k2 := layAll fun d hd => (key d hd).1
    rw [hL] at k2
    simp only [leafD, hL, PyData.canLay0, PyData.canLayAll0, k2, hel, Bool.and_true, Bool.true_and]
    try decide +kernel
  · have := depAll (n := 0) fun d hd => (key d hd).2
    simp only [leafD, PyData.depth, PyData.depthAll]
    omega
theorem Agr.sorted {T : Tb} {kvs : DKv} (a : Agr T kvs) {ks ys : List Int} (hk : kvs.map (·.1) = ks.map Sum.inl) (hp : ys.Perm ks) (hs : ys.Pairwise (· ≤ ·)) : ys = tpg T 256 := by
  obtain ⟨ks2, h1, h2, h3⟩ := a.keys
  have e : ks = ks2 := by
    have := hk.symm.trans h1
    exact List.map_inj_right (fun x y => Sum.inl.inj) |>.mp this
  subst e
  exact sorted_eq h2 (tpg_rising T 256) (fun x => a.mem hk x h3) hp hs
theorem Agr.at_pg {T : Tb} {kvs : DKv} (a : Agr T kvs) {x : Int} (hx : x ∈ tpg T 256) : (0 ≤ x ∧ x < 256) ∧ ∃ k, tget T x = .int k ∧ valS kvs (.inl x) = some (.d (.int k)) := by
  obtain ⟨h0, h1, h2⟩ := (tpg_mem T x).mp hx
  refine ⟨⟨h0, h1⟩, ?_⟩
  have hv := a.val x ⟨h0, h1⟩
  unfold hasT at h2
  rw [Int.toNat_of_nonneg h0] at h2
  rcases tget_ok a.ok x with e | ⟨k, e⟩
  · rw [e] at h2; cases h2
  · refine ⟨k, e, ?_⟩
    rw [e] at hv
    cases hs : valS kvs (.inl x) with
    | none => rw [hs] at hv; cases hv
    | some s => rw [hs] at hv; exact congrArg some hv
theorem shaped_ints (l : List Int) : SeqAt.shaped (.list (l.map .int)) = true := shaped_list 0 (by decide) fun d hd => by
  obtain ⟨n, _, rfl⟩ := List.mem_map.mp hd
  exact ⟨rfl, Nat.le_refl 0⟩
theorem due_shape {T : Tb} (h : TOk T) {d : PyData} (hd : d ∈ leavesD T) : ∃ (u : Nat) (es : List PyData), d = .tuple [.int (u : Nat), .list es] ∧ ∀ e ∈ es, e = .none ∨ ∃ k, e = .int k := by
  unfold leavesD at hd
  obtain ⟨u, hu, rfl⟩ := List.mem_map.mp hd
  obtain ⟨hu, hb⟩ := List.mem_filter.mp hu
  rcases leaf_at h (List.mem_range.mp hu) with ⟨_, hb2⟩ | ⟨es, _, _, hL, hel, hed⟩
  · rw [hb] at hb2; cases hb2
  · exact ⟨u, leafL T u, rfl, by rw [hL]; exact hed⟩
def K_Lis_due : Cn := fun ss rin res _ => ∃ T : Tb, ss = [.d (.list (leavesD T)), .d (.list (leavesD T))] ∧ rin = [] ∧ TOk T ∧ res (.d (.bool true)) []
theorem leaves_len (T : Tb) : (leavesD T).length ≤ 16 := dues_len T 16
theorem ok_Lis_due (hK : m.K = KC.K) (bl : Bl m.mg) {f fd} (F : Fun m.K "_law_is_due" "_law_is_due" s_Lis_due f fd) (h1 : FnIs m "_law_whole" 1 K_Lwhole) :
    FnOk m.P m.w m.K m.mg m.base (L2.CX m.P m.w) 2 f fd ["_law_found", "_law_due"] (spC K_Lis_due) := by
  refine fn_ok F f_Lis_due e_Lis_due bl hK (by rintro _ _ _ _ ⟨_, rfl, _⟩; rfl) 2 rfl ?_
  rintro ss rin fr res exc c hC
  obtain ⟨T, rfl, rfl, ht, hr⟩ := hC
  have hsh := leaves_shaped ht
  walk_at "st"; walk_at "go"
  refine ds_for (by walk_at "ix") (di_list ?_)
  walk_at "go"
  refine ⟨PyData, leavesD T, fun d => .d d, rfl, ?_⟩
  refine for_un (ρ0 := [.d (.list (leavesD T)), .d (.list (leavesD T)), .un, .un]) (by walk_at "le") trivial ?_ fun d hd => ⟨_, by walk_at "set", ?_⟩
  · walk_at "go"
  · obtain ⟨u, es, rfl, hes⟩ := due_shape ht hd
    walk_at "go"
    refine ds_for (by walk_at "ix") (di_list ?_)
    walk_at "go"
    refine ⟨PyData, es, fun d => .d d, rfl, ?_⟩
    refine for_un (ρ0 := [.d (.list (leavesD T)), .d (.list (leavesD T)), .d (.tuple [.int (u : Nat), .list es]), .un]) (by walk_at "le") trivial ?_ fun e he => ⟨_, by walk_at "set", ?_⟩
    · walk_at "go"
    · rcases hes e he with rfl | ⟨k, rfl⟩
      · walk_at "go"
      · walk_at "go"
def K_Lcopied : Cn := fun ss rin res _ => ∃ T : Tb, ss = [.d (.list (leavesD T))] ∧ rin = [] ∧ TOk T ∧ res (.n (leavesD T)) []
theorem ok_Lcopied (hK : m.K = KC.K) (bl : Bl m.mg) {f fd} (F : Fun m.K "_law_copied" "_law_copied" s_Lcopied f fd) :
    FnOk m.P m.w m.K m.mg m.base (L2.CX m.P m.w) 1 f fd ["_law_found"] (spC K_Lcopied) := by
  refine fn_ok F f_Lcopied e_Lcopied bl hK (by rintro _ _ _ _ ⟨_, rfl, _⟩; rfl) 1 rfl ?_
  rintro ss rin fr res exc c hC
  obtain ⟨T, rfl, rfl, ht, hr⟩ := hC
  walk_at "nrm"
  refine dss_cons (ds_ret (dx_lc0 (by walk_at "ix") (blkOk_by (by decide +kernel)) (di_list ?_)))
  walk_at "go"
  refine ⟨PyData, leavesD T, fun d => .d d, fun d => d, rfl, fun A => trivial, Nat.le_trans (leaves_len T) (by decide), ⟨_, by walk_at "set", fun d hd => ⟨_, by walk_at "set", ?_⟩⟩, ?_⟩
  · intro A s0 H0 C0 cl0 fp0 hso
    obtain ⟨u, es, rfl, hes⟩ := due_shape ht hd
    walk_at "go"
    exact ⟨rfl, rfl⟩
  rw [List.map_id']
  exact end_rt hr
/-- the leaves, all their lists one's own -/
def leafM (x : Nat) (es : List PyData) (q : Addr) : Mem := exM fun l : Addr => [tupM q [.d (.int (x : Nat)), .r (.ref l)], lstM l (es.map .d)]
theorem fzr_leaf (x : Nat) (es : List PyData) (q : Addr) : FzR (leafM x es q) (.ref q) (.tuple [.int (x : Nat), .list es]) := fun F G H ⟨l, F1, F2, ⟨e1, vs, hp, al⟩, ⟨F3, F4, ⟨e3, ws, hl, bl⟩, h4, d4, e4⟩, dj, e⟩ s => by
  have nq : ¬ (G q ∧ ¬ F q) := fun z => z.2 ((e q).mpr (.inl ((e1 q).mpr rfl)))
  have nl : ¬ (G l ∧ ¬ F l) := fun z => z.2 ((e l).mpr (.inr ((e4 l).mpr (.inl ((e3 l).mpr rfl)))))
  have t : Stp G (fun a => G a ∧ ¬ F a) H H := Stp.less fun a z => z.1
  match vs, al with
  | [v1, v2], al =>
    obtain ⟨a1, a2, _⟩ := al
    have e2 : v2 = .ref l := a2
    subst e2
    exact .tup (.inl hp) nq (.cons (Is.stp t a1) (.cons (.lst (.inl ⟨.inl hl, nl⟩) (bl.stp t).is) .nil))
def K_Table_leaves2 (C : Addr) : Cn := fun ss rin res _ => ∃ (p : Addr) (T : Tb), ss = [.r (.ref p)] ∧ rin = [tabM C p T] ∧ TOk T ∧ ∀ D, res (.r (.ref D)) [colM D (fun u => leafM u (leafL T u)) ((List.range 16).filter (leafB T)), tabM C p T]
theorem ok_Table_leaves2 {t : Tok} (hK : m.K = KC.K) (bl : Bl m.mg) {f fd} (F : Fun m.K "leaves" "Table.leaves" s_Table_leaves f fd) (hF : m.mg "FAN_tables" = some (.int 16 t)) (oc : ObjC m C ["uppers"]) :
    FnOk m.P m.w m.K m.mg m.base (L2.CX m.P m.w) 1 f fd ["self"] (spC (K_Table_leaves2 C)) := by
  refine fn_ok F f_Table_leaves e_Table_leaves bl hK (by rintro _ _ _ _ ⟨_, _, rfl, _⟩; rfl) 1 rfl ?_
  rintro ss rin fr res exc c hC
  obtain ⟨p, T, rfl, rfl, ht, hr⟩ := hC
  walk_at "nrm"
  refine dss_open (fam := tabF C p T) [] fun z => ?_
  obtain ⟨lu, q⟩ := z
  dsimp only [tabF, List.nil_append, List.cons_append]
  refine dss_cons (ds_ret (dx_lc1M (by walk_at "ix") (blkOk_by (by decide +kernel)) (di_range1 ?_)))
  walk_at "go"
  refine ⟨16, rfl, by omega, Nat, List.range 16, fun k => .d (.int (0 + (k : Nat))), leafB T, fun u => leafM u (leafL T u), rfl, fun A B => trivial, by decide, ⟨_, by walk_at "set", fun u hu => ⟨_, by walk_at "set", ?_, fun hb => ?_⟩⟩, ?_⟩
  · intro A s0 H0 C0 cl0 fp0 hso
    rw [List.mem_range] at hu
    have hix : ixN (tSl T q 0).length (0 + (u : Int)) = some u := by rw [ixN_in (by rw [tSl_len, ht.len]; omega)]; congr 1; omega
    rcases leaf_at ht hu with ⟨hT, hb⟩ | ⟨es, hT, hb, _⟩
    · have hat : atI (tSl T q 0) (0 + (u : Int)) = some (.d .none) := by unfold atI; rw [hix]; exact tSl_none hT
      rw [hb]
      walk_at "go"
      exact ⟨rfl, rfl⟩
    · have hs := tSl_some (q := q) (n := 0) hT
      rw [show 0 + u = u by omega] at hs
      have hat : atI (tSl T q 0) (0 + (u : Int)) = some (.r (.ref (q u))) := by unfold atI; rw [hix]; exact hs
      rw [hb]
      walk_at "go"
      exact ⟨rfl, rfl⟩
  · intro A s0 H0 C0 cl0 fp0 hso
    rw [List.mem_range] at hu
    have hix : ixN (tSl T q 0).length (0 + (u : Int)) = some u := by rw [ixN_in (by rw [tSl_len, ht.len]; omega)]; congr 1; omega
    rcases leaf_at ht hu with ⟨hT, hb2⟩ | ⟨es, hT, _, hL, _⟩
    · rw [hb] at hb2; cases hb2
    have hs := tSl_some (q := q) (n := 0) hT
    rw [show 0 + u = u by omega] at hs
    have hat : atI (tSl T q 0) (0 + (u : Int)) = some (.r (.ref (q u))) := by unfold atI; rw [hix]; exact hs
    refine dx_ent0 (rs2 := lvM T q :: [A, insM C p [("uppers", .r (.ref lu))], lstM lu (tSl T q 0), fr]) (ent_has (by walk_at "grab")) ?_
    refine dx_ent0 (lv_out hT) ?_
    refine dx_tupO (da_cons (dx_name (by walk_at "sl") (by exact fun e => nomatch e) (da_cons (dx_listU ?_))))
    walk_at "go"
    rename_i l2
    refine ⟨Nat.le_of_ble_eq_true rfl, fun q2 => ⟨q2, rfl, ?_⟩⟩
    rw [hL, Int.zero_add]
    refine ent_trans (ent_has (Bs := [lstM (q u) (es.map .d), lvM (T.set u none) q, A, tupM q2 [.d (.int (u : Nat)), .r (.ref l2)], lstM l2 (es.map .d), insM C p [("uppers", .r (.ref lu))], lstM lu (tSl T q 0), fr]) (by walk_at "grab")) ?_
    refine ent_trans (lv_back (by rw [ht.len]; exact hu)) ?_
    rw [set_same hT]
    refine ent_trans (ent_has (Bs := [A, tupM q2 [.d (.int (u : Nat)), .r (.ref l2)], lstM l2 (es.map .d), insM C p [("uppers", .r (.ref lu))], lstM lu (tSl T q 0), lvM T q, fr]) (by walk_at "grab")) ?_
    exact ent_box (fam := fun l : Addr => [tupM q2 [.d (.int (u : Nat)), .r (.ref l)], lstM l (es.map .d)]) (q := l2) [A] [insM C p [("uppers", .r (.ref lu))], lstM lu (tSl T q 0), lvM T q, fr]
  · intro D
    exact fin [colM D (fun u => leafM u (leafL T u)) ((List.range 16).filter (leafB T)), tabM C p T] (ent_box (fam := tabF C p T) (q := (lu, q)) [colM D (fun u => leafM u (leafL T u)) ((List.range 16).filter (leafB T))] [fr]) (hr D)
end
/-! ### the steps -/
local macro_rules | `(tactic| walk_at "sl") => `(tactic| ((repeat with_reducible first | exact Slot.zero | apply Slot.succ); (first | (all_goals fail) | fail)))
local macro_rules | `(tactic| walk_at "set") => `(tactic| ((repeat with_reducible first | exact SetS.zero | apply SetS.succ); (first | (all_goals fail) | fail)))
local macro_rules | `(tactic| walk_at "ix") => `(tactic| ((repeat with_reducible first | exact IxOf.zero | apply IxOf.succ); (first | (all_goals fail) | fail)))
local macro_rules | `(tactic| walk_at "pick") => `(tactic| ((repeat with_reducible first | exact Pick.zero | apply Pick.succ); (first | (all_goals fail) | fail)))
local macro_rules | `(tactic| walk_at "fld") => `(tactic| ((repeat with_reducible first | exact FldAt.zero | apply FldAt.succ); (first | (all_goals fail) | fail)))
local macro_rules | `(tactic| walk_at "fset") => `(tactic| ((repeat with_reducible first | exact FldSet.zero | apply FldSet.succ); (first | (all_goals fail) | fail)))
local macro_rules | `(tactic| walk_at "grab") => `(tactic| (repeat (first | exact has_nil | refine has_cons (by ((repeat with_reducible first | exact Pick.zero | apply Pick.succ); (first | (all_goals fail) | fail))) ?_ | dsimp only [List.nil_append, List.cons_append, List.map_nil])))
local macro_rules | `(tactic| walk_at "pick2") => `(tactic| ((dsimp only [List.nil_append, List.cons_append]); ((repeat with_reducible first | exact Pick.zero | apply Pick.succ); (first | (all_goals fail) | fail))))
local macro_rules | `(tactic| walk_at "lent") => `(tactic| (repeat (first | exact LentS.nil | refine LentS.lend (by first | exact List.mem_cons_self | exact List.mem_cons_of_mem _ List.mem_cons_self) ?_ | refine LentS.eq ?_)))
local macro_rules | `(tactic| walk_at "datas") => `(tactic| ((repeat with_reducible first | exact datas_nil | apply datas_cons); (first | (all_goals fail) | fail)))
local macro_rules | `(tactic| walk_at "le0") => `(tactic| (repeat (first | exact Le.nil | (with_reducible apply Le.eq) | (with_reducible apply Le.un) | apply Le.eq)))
local macro_rules | `(tactic| walk_at "le") => `(tactic| ((repeat with_reducible first | exact Le.nil | apply Le.eq | apply Le.un); (first | (all_goals fail) | fail)))
local macro_rules | `(tactic| walk_at "num") => `(tactic| (first | omega | decide | (simp; omega)))
local macro_rules | `(tactic| walk_at "len") => `(tactic| (first | (with_reducible assumption) | decide | ((try simp only [List.length_cons, List.length_nil, List.length_append, List.length_map, List.length_replicate]); omega) | (refine Nat.le_trans (cutL_len _ _ _) ?_; (try simp only [List.length_cons, List.length_nil, List.length_append, List.length_map, List.length_replicate]); omega) | (refine Nat.le_trans (Nat.add_le_add_left (cutL_len _ _ _) _) ?_; (try simp only [List.length_cons, List.length_nil, List.length_append, List.length_map, List.length_replicate]); omega) | (refine Nat.le_trans (Nat.add_le_add_right (cutL_len _ _ _) _) ?_; (try simp only [List.length_cons, List.length_nil, List.length_append, List.length_map, List.length_replicate]); omega)))
local macro_rules | `(tactic| walk_at "go") => `(tactic| (repeat (first | (first | ((with_reducible show DX _ _ _ _ _); (first | ((with_reducible show DX _ (.Subscript (.Name "_law_ways" _) _ _) _ _ _); refine dx_dget ?_) | ((with_reducible show DX _ (.Call (.Attribute (.Name "_law_ways" _) "get" _) [_] _ _) _ _ _); refine dx_dget1 ?_) | ((with_reducible show DX _ (.Call (.Attribute (.Name "_law_ways" _) "get" _) [_, _] _ _) _ _ _); refine dx_dget2 ?_) | ((with_reducible show DX _ (.Call (.Attribute (.Name "_law_ways" _) "pop" _) [_] _ _) _ _ _); refine dx_dpop1 ?_) | ((with_reducible show DX _ (.Call (.Attribute (.Name "_law_ways" _) "pop" _) [_, _] _ _) _ _ _); refine dx_dpop2 ?_) | ((with_reducible show DX _ (.Call (.Name "len" _) [(.Name "_law_ways" _)] _ _) _ _ _); refine dx_dlen ?_) | ((with_reducible show DX _ (.Call (.Name "list" _) [(.Name "_law_ways" _)] _ _) _ _ _); refine dx_dlist ?_) | ((with_reducible show DX _ (.Call (.Name "dict" _) [(.Name "_law_ways" _)] _ _) _ _ _); refine dx_dictO ?_) | ((with_reducible show DX _ (.Call (.Name "sorted" _) [(.Name "_law_ways" _)] _ _) _ _ _); refine dx_sortedD ?_) | ((with_reducible show DX _ (.Compare _ [.In] [(.Name "_law_ways" _)] _) _ _ _); refine dx_din ?_) | ((with_reducible show DX _ (.Compare _ [.NotIn] [(.Name "_law_ways" _)] _) _ _ _); refine dx_dnin ?_) | ((with_reducible show DX _ (.Name _ _) _ _ _); (first | refine dx_name (by ((repeat with_reducible first | exact Slot.zero | apply Slot.succ); (first | (all_goals fail) | fail))) (by exact fun e => nomatch e) ?_ | refine dx_gint (by with_reducible assumption) ?_ | refine dx_gstr (by with_reducible assumption) ?_ | refine dx_gcls (by with_reducible assumption) (by decide +kernel) ?_ | ((with_reducible show DX _ (.Name "int" _) _ _ _); refine dx_tint ?_) | ((with_reducible show DX _ (.Name "bool" _) _ _ _); refine dx_tbool ?_) | ((with_reducible show DX _ (.Name "str" _) _ _ _); refine dx_tstr ?_) | ((with_reducible show DX _ (.Name "list" _) _ _ _); refine dx_tlist ?_) | ((with_reducible show DX _ (.Name "tuple" _) _ _ _); refine dx_ttuple ?_) | ((with_reducible show DX _ (.Name "ValueError" _) _ _ _); refine dx_tVE (by with_reducible assumption) ?_))) | ((with_reducible show DX _ (.Constant _ _ _) _ _ _); (first | ((with_reducible show DX _ (.Constant (.int _) _ _) _ _ _); refine dx_int ?_) | ((with_reducible show DX _ (.Constant (.str _) _ _) _ _ _); refine dx_str ?_) | ((with_reducible show DX _ (.Constant (.bool _) _ _) _ _ _); refine dx_bl ?_) | refine dx_non ?_)) | ((with_reducible show DX _ (.BinOp (.List [_] _) .Mult _ _) _ _ _); refine dx_repD ?_) | ((with_reducible show DX _ (.BinOp _ _ _ _) _ _ _); (first | ((with_reducible show DX _ (.BinOp _ .Add _ _) _ _ _); refine dx_bin cAdd ?_) | ((with_reducible show DX _ (.BinOp _ .Sub _ _) _ _ _); refine dx_bin op_sub ?_) | ((with_reducible show DX _ (.BinOp _ .Mult _ _) _ _ _); refine dx_bin op_uMul ?_) | ((with_reducible show DX _ (.BinOp _ .FloorDiv _ _) _ _ _); refine dx_bin op_fdivW ?_) | ((with_reducible show DX _ (.BinOp _ .Mod _ _) _ _ _); refine dx_bin op_mod ?_) | ((with_reducible show DX _ (.BinOp _ .Pow _ _) _ _ _); refine dx_bin op_pow ?_))) | ((with_reducible show DX _ (.Compare _ [_] _ _) _ _ _); (first | ((with_reducible show DX _ (.Compare _ [.Eq] [_] _) _ _ _); refine dx_cmp cEq (nomark _) ?_) | ((with_reducible show DX _ (.Compare _ [.NotEq] [_] _) _ _ _); refine dx_cmp cNe (nomark _) ?_) | ((with_reducible show DX _ (.Compare _ [.Lt] [_] _) _ _ _); refine dx_cmp op_lt (nomark _) ?_) | ((with_reducible show DX _ (.Compare _ [.LtE] [_] _) _ _ _); refine dx_cmp op_le (nomark _) ?_) | ((with_reducible show DX _ (.Compare _ [.Gt] [_] _) _ _ _); refine dx_cmp op_gt (nomark _) ?_) | ((with_reducible show DX _ (.Compare _ [.GtE] [_] _) _ _ _); refine dx_cmp op_ge (nomark _) ?_) | ((with_reducible show DX _ (.Compare _ [.Is] [_] _) _ _ _); refine dx_cmp op_uIs (nomark _) ?_) | ((with_reducible show DX _ (.Compare _ [.IsNot] [_] _) _ _ _); refine dx_cmp op_uIsn (nomark _) ?_) | ((with_reducible show DX _ (.Compare _ [.In] [_] _) _ _ _); refine dx_cmp cIn (rfl) ?_) | ((with_reducible show DX _ (.Compare _ [.NotIn] [_] _) _ _ _); refine dx_cmp cNin (rfl) ?_))) | ((with_reducible show DX _ (.Compare _ [_, _] _ _) _ _ _); (first | ((with_reducible show DX _ (.Compare _ [.LtE, .Lt] [_, _] _) _ _ _); refine dx_chain op_le op_lt ?_) | ((with_reducible show DX _ (.Compare _ [.LtE, .LtE] [_, _] _) _ _ _); refine dx_chain op_le op_le ?_))) | ((with_reducible show DX _ (.BoolOp _ [_] _) _ _ _); refine dx_one ?_) | ((with_reducible show DX _ (.BoolOp .And _ _) _ _ _); refine dx_and ?_) | ((with_reducible show DX _ (.BoolOp .Or _ _) _ _ _); refine dx_or ?_) | ((with_reducible show DX _ (.UnaryOp .Not _ _) _ _ _); refine dx_not ?_) | ((with_reducible show DX _ (.UnaryOp _ _ _) _ _ _); refine dx_neg ?_) | ((with_reducible show DX _ (.Subscript _ (.Slice _ _ _ _) _) _ _ _); refine dx_slice ?_) | ((with_reducible show DX _ (.Subscript _ _ _) _ _ _); refine dx_ix cIx ?_) | ((with_reducible show DX _ (.Tuple _ _ _) _ _ _); refine dx_tup ?_) | ((with_reducible show DX _ (.IfExp _ _ _ _) _ _ _); refine dx_ifExp ?_) | ((with_reducible show DX _ (.List _ _) _ _ _); refine dx_lst ?_) | ((with_reducible show DX _ (.Dict [] [] _) _ _ _); refine dx_dnew ?_) | ((with_reducible show DX _ (.Attribute _ _ _) _ _ _); refine dx_fld ?_) | ((with_reducible show DX _ (.Call (.Attribute _ "clear" _) [] _ _) _ _ _); refine dx_clear ?_) | ((with_reducible show DX _ (.Call (.Attribute _ "pop" _) [] _ _) _ _ _); refine dx_pop ?_) | ((with_reducible show DX _ (.Call (.Attribute _ _ _) [] _ _) _ _ _); refine dx_meth0 (by with_reducible assumption) (by with_reducible assumption) ?_) | ((with_reducible show DX _ (.Call (.Name _ _) [] _ _) _ _ _); refine dx_call0 (by with_reducible assumption) ?_) | ((with_reducible show DX _ (.Call (.Attribute _ "append" _) [_] _ _) _ _ _); refine dx_append ?_) | ((with_reducible show DX _ (.Call (.Attribute _ "join" _) [_] _ _) _ _ _); refine dx_join ?_) | ((with_reducible show DX _ (.Call (.Attribute _ "find" _) [_] _ _) _ _ _); refine dx_find ?_) | ((with_reducible show DX _ (.Call (.Attribute (.Constant (.str _) _ _) "index" _) [_] _ _) _ _ _); refine dx_sindex ?_) | ((with_reducible show DX _ (.Call (.Attribute _ "split" _) [_] _ _) _ _ _); refine dx_split ?_) | ((with_reducible show DX _ (.Call (.Attribute _ _ _) _ _ _) _ _ _); refine dx_meth (by with_reducible assumption) (by with_reducible assumption) ?_) | ((with_reducible show DX _ (.Call (.Name _ _) _ _ _) _ _ _); (first | ((with_reducible show DX _ (.Call (.Name "len" _) _ _ _) _ _ _); refine dx_len ?_) | ((with_reducible show DX _ (.Call (.Name "isinstance" _) _ _ _) _ _ _); (first | ((with_reducible show DX _ (.Call _ [_, .Tuple _ _ _] _ _) _ _ _); refine dx_isET (by with_reducible assumption) (by with_reducible assumption) (by decide +kernel) ?_) | ((with_reducible show DX _ (.Call _ [_, .Name _ _] _ _) _ _ _); first | refine dx_isE (by with_reducible assumption) ?_ | refine dx_isi ?_))) | ((with_reducible show DX _ (.Call (.Name "list" _) _ _ _) _ _ _); (first | refine dx_listA ?_ | refine dx_list ?_)) | ((with_reducible show DX _ (.Call (.Name "min" _) _ _ _) _ _ _); refine dx_min ?_) | ((with_reducible show DX _ (.Call (.Name "max" _) _ _ _) _ _ _); refine dx_max ?_) | ((with_reducible show DX _ (.Call (.Name "str" _) _ _ _) _ _ _); refine dx_cstr ?_) | ((with_reducible show DX _ (.Call (.Name "int" _) _ _ _) _ _ _); refine dx_cint ?_) | refine dx_call (by with_reducible assumption) ?_ | refine dx_make (by with_reducible assumption) ?_)))) | ((with_reducible show OpD _ _ _ _ _); (first | ((with_reducible show OpD (uAdd _) (.d (.int _)) (.d (.int _)) _ _); refine od_add ?_) | ((with_reducible show OpD (uAdd _) (.d (.str _)) (.d (.str _)) _ _); refine od_adds (by (first | (with_reducible assumption) | decide | ((try simp only [List.length_cons, List.length_nil, List.length_append, List.length_map, List.length_replicate]); omega) | (refine Nat.le_trans (cutL_len _ _ _) ?_; (try simp only [List.length_cons, List.length_nil, List.length_append, List.length_map, List.length_replicate]); omega) | (refine Nat.le_trans (Nat.add_le_add_left (cutL_len _ _ _) _) ?_; (try simp only [List.length_cons, List.length_nil, List.length_append, List.length_map, List.length_replicate]); omega) | (refine Nat.le_trans (Nat.add_le_add_right (cutL_len _ _ _) _) ?_; (try simp only [List.length_cons, List.length_nil, List.length_append, List.length_map, List.length_replicate]); omega))) ?_) | ((with_reducible show OpD (uAdd _) (.d (.tuple _)) (.d (.tuple _)) _ _); refine od_addt (by first | exact List.cons_ne_nil _ _ | decide) (by (first | (with_reducible assumption) | decide | ((try simp only [List.length_cons, List.length_nil, List.length_append, List.length_map, List.length_replicate]); omega) | (refine Nat.le_trans (cutL_len _ _ _) ?_; (try simp only [List.length_cons, List.length_nil, List.length_append, List.length_map, List.length_replicate]); omega) | (refine Nat.le_trans (Nat.add_le_add_left (cutL_len _ _ _) _) ?_; (try simp only [List.length_cons, List.length_nil, List.length_append, List.length_map, List.length_replicate]); omega) | (refine Nat.le_trans (Nat.add_le_add_right (cutL_len _ _ _) _) ?_; (try simp only [List.length_cons, List.length_nil, List.length_append, List.length_map, List.length_replicate]); omega))) ?_) | ((with_reducible show OpD (uAdd _) _ _ _ _); refine od_addl rfl rfl (by (first | (with_reducible assumption) | decide | ((try simp only [List.length_cons, List.length_nil, List.length_append, List.length_map, List.length_replicate]); omega) | (refine Nat.le_trans (cutL_len _ _ _) ?_; (try simp only [List.length_cons, List.length_nil, List.length_append, List.length_map, List.length_replicate]); omega) | (refine Nat.le_trans (Nat.add_le_add_left (cutL_len _ _ _) _) ?_; (try simp only [List.length_cons, List.length_nil, List.length_append, List.length_map, List.length_replicate]); omega) | (refine Nat.le_trans (Nat.add_le_add_right (cutL_len _ _ _) _) ?_; (try simp only [List.length_cons, List.length_nil, List.length_append, List.length_map, List.length_replicate]); omega))) ?_) | ((with_reducible show OpD (rI0 fun i j => .int (i - j)) _ _ _ _); refine od_sub ?_) | ((with_reducible show OpD uMul (.d (.int _)) (.d (.int _)) _ _); (first | refine od_mul (mul_r (by (first | omega | decide | (simp; omega)))) ?_ | refine od_mul (mul_l (by (first | omega | decide | (simp; omega)))) ?_ | refine od_mul (mul_ok (by (first | omega | decide | (simp; omega))) (by (first | omega | decide | (simp; omega)))) ?_)) | ((with_reducible show OpD (rI CDivW _) _ _ _ _); refine od_div (by (first | omega | decide | (simp; omega))) ?_) | ((with_reducible show OpD (rI CPow _) (.d (.int 10)) _ _ _); (first | (with_reducible refine od_p60 ?_) | (with_reducible refine od_p59 ?_) | (with_reducible refine od_p20 ?_) | (with_reducible refine od_p40 ?_) | (with_reducible refine od_p6 ?_) | (with_reducible refine od_p9 ?_) | (with_reducible refine od_p50 ?_) | (with_reducible refine od_p58 ?_) | (with_reducible refine od_p30 ?_) | (with_reducible refine od_p3 ?_))) | ((with_reducible show OpD (rI CPow _) _ _ _ _); refine od_pow (by decide) ?_) | ((with_reducible show OpD (rI0 fun i j => .bl (decide (i < j))) _ _ _ _); refine od_lt ?_) | ((with_reducible show OpD (rI0 fun i j => .bl (decide (i ≤ j))) _ _ _ _); refine od_le ?_) | ((with_reducible show OpD (rI0 fun i j => .bl (decide (j < i))) _ _ _ _); refine od_gt ?_) | ((with_reducible show OpD (rI0 fun i j => .bl (decide (j ≤ i))) _ _ _ _); refine od_ge ?_) | ((with_reducible show OpD (rI _ _) _ _ _ _); refine od_mod (by (first | omega | decide | (simp; omega))) ?_) | ((with_reducible show OpD (uEq _) _ _ _ _); (first | refine od_eq rfl rfl (by first | exact .int _ _ | exact .str _ _ | exact .bl _ _ | exact .nn | exact .ni _ | exact .in_ _ | exact .ns _ | exact .sn _) ?_ | refine od_eqS rfl rfl (by first | (with_reducible assumption) | decide +kernel | rfl) ?_ | refine od_eq rfl rfl (.dat (by first | (with_reducible assumption) | decide +kernel | rfl) (by first | (with_reducible assumption) | decide +kernel | rfl)) ?_)) | ((with_reducible show OpD (uNe _) _ _ _ _); (first | (with_reducible refine od_nenm ?_) | refine od_ne rfl rfl (by first | exact .int _ _ | exact .str _ _ | exact .bl _ _ | exact .nn | exact .ni _ | exact .in_ _ | exact .ns _ | exact .sn _) ?_ | refine od_neS rfl rfl (by first | (with_reducible assumption) | decide +kernel | rfl) ?_ | refine od_ne rfl rfl (.dat (by first | (with_reducible assumption) | decide +kernel | rfl) (by first | (with_reducible assumption) | decide +kernel | rfl)) ?_)) | ((with_reducible show OpD (uNin _) (.d (.str _)) (.d (.str _)) _ _); refine od_nins ?_) | ((with_reducible show OpD (uIn _) (.d (.str _)) (.d (.str _)) _ _); refine od_ins ?_) | ((with_reducible show OpD (uIn _) (.d _) (.r (.ref _)) _ _); refine od_inO (by ((repeat with_reducible first | exact Pick.zero | apply Pick.succ); (first | (all_goals fail) | fail))) rfl (by with_reducible assumption) ?_) | ((with_reducible show OpD (uNin _) (.d _) (.r (.ref _)) _ _); refine od_ninO (by ((repeat with_reducible first | exact Pick.zero | apply Pick.succ); (first | (all_goals fail) | fail))) rfl (by with_reducible assumption) ?_) | ((with_reducible show OpD uIs _ _ _ _); (first | (with_reducible refine od_isnm ?_) | refine od_is rfl ?_)) | ((with_reducible show OpD uIsn _ _ _ _); (first | (with_reducible refine od_isnnm ?_) | refine od_isn rfl ?_)) | ((with_reducible show OpD (rIx _) (.r (.ref _)) _ _ _); refine od_ixo (by ((repeat with_reducible first | exact Pick.zero | apply Pick.succ); (first | (all_goals fail) | fail))) (by first | rfl | with_reducible assumption) (by exact fun _ z => nomatch z) ?_) | ((with_reducible show OpD (rIx _) (.d (.str _)) _ _ _); refine od_ixt (by (first | (with_reducible assumption) | decide | ((try simp only [List.length_cons, List.length_nil, List.length_append, List.length_map, List.length_replicate]); omega) | (refine Nat.le_trans (cutL_len _ _ _) ?_; (try simp only [List.length_cons, List.length_nil, List.length_append, List.length_map, List.length_replicate]); omega) | (refine Nat.le_trans (Nat.add_le_add_left (cutL_len _ _ _) _) ?_; (try simp only [List.length_cons, List.length_nil, List.length_append, List.length_map, List.length_replicate]); omega) | (refine Nat.le_trans (Nat.add_le_add_right (cutL_len _ _ _) _) ?_; (try simp only [List.length_cons, List.length_nil, List.length_append, List.length_map, List.length_replicate]); omega))) (by with_reducible assumption) ?_) | ((with_reducible show OpD (rIx _) _ _ _ _); refine od_ixs rfl (by first | rfl | with_reducible assumption) ?_))) | ((with_reducible show DS _ _ _ _ _); (first | ((with_reducible show DS _ (.Assign [.Subscript (.Name "_law_ways" _) _ _] _ _) _ _ _); refine ds_dput ?_) | ((with_reducible show DS _ (.Assign [.Name _ _] _ _) _ _ _); (fail_if_success (with_reducible show DS _ (.Assign _ (.List [] _) _) _ _ _)); (fail_if_success (with_reducible show DS _ (.Assign _ (.ListComp _ _ _ _) _) _ _ _)); refine ds_set ?_) | ((with_reducible show DS _ (.Assign [.Attribute _ _ _] _ _) _ _ _); (fail_if_success (with_reducible show DS _ (.Assign _ (.List _ _) _) _ _ _)); (fail_if_success (with_reducible show DS _ (.Assign _ (.ListComp _ _ _ _) _) _ _ _)); refine ds_fld ?_) | ((with_reducible show DS _ (.Assign [.Subscript _ _ _] _ _) _ _ _); (fail_if_success (with_reducible show DS _ (.Assign [.Subscript (.Subscript _ _ _) _ _] _ _) _ _ _)); refine ds_seti ?_) | ((with_reducible show DS _ (.Return (some _) _) _ _ _); refine ds_ret ?_) | ((with_reducible show DS _ (.Return none _) _ _ _); refine ds_retN ?_) | ((with_reducible show DS _ (.If _ _ _ _) _ _ _); refine ds_if ?_) | ((with_reducible show DS _ (.Expr (.Constant _ _ _) _) _ _ _); refine ds_doc ?_) | ((with_reducible show DS _ (.Expr _ _) _ _ _); refine ds_expr ?_) | ((with_reducible show DS _ (.Pass _) _ _ _); refine ds_pass ?_) | ((with_reducible show DS _ (.Break _) _ _ _); refine ds_break ?_) | ((with_reducible show DS _ (.Continue _) _ _ _); refine ds_continue ?_) | ((with_reducible show DS _ (.Raise (some (.Call (.Name _ _) [.Constant (.str _) _ _] [] _)) none _) _ _ _); refine ds_raise (by with_reducible assumption) (by decide +kernel) (by decide +kernel) ?_))) | ((with_reducible show DSs _ _ _ _ _); (first | ((with_reducible show DSs _ (_ :: _) _ _ _); refine dss_cons ?_) | ((with_reducible show DSs _ [] _ _ _); refine dss_nil ?_))) | ((with_reducible show DT _ _ _ _ _); (first | ((with_reducible show DT _ (.Compare _ [.In] [(.Name "_law_ways" _)] _) _ _ _); refine dt_din ?_) | ((with_reducible show DT _ (.Compare _ [.NotIn] [(.Name "_law_ways" _)] _) _ _ _); refine dt_dnin ?_) | ((with_reducible show DT _ (.BoolOp _ _ _) _ _ _); refine dt_bool ?_) | ((with_reducible show DT _ (.UnaryOp .Not _ _) _ _ _); refine dt_not ?_) | ((with_reducible show DT _ (.Compare _ [_] _ _) _ _ _); (first | ((with_reducible show DT _ (.Compare _ [.Eq] [_] _) _ _ _); refine dt_cmp cEq (nomark _) ?_) | ((with_reducible show DT _ (.Compare _ [.NotEq] [_] _) _ _ _); refine dt_cmp cNe (nomark _) ?_) | ((with_reducible show DT _ (.Compare _ [.Lt] [_] _) _ _ _); refine dt_cmp op_lt (nomark _) ?_) | ((with_reducible show DT _ (.Compare _ [.LtE] [_] _) _ _ _); refine dt_cmp op_le (nomark _) ?_) | ((with_reducible show DT _ (.Compare _ [.Gt] [_] _) _ _ _); refine dt_cmp op_gt (nomark _) ?_) | ((with_reducible show DT _ (.Compare _ [.GtE] [_] _) _ _ _); refine dt_cmp op_ge (nomark _) ?_) | ((with_reducible show DT _ (.Compare _ [.Is] [_] _) _ _ _); refine dt_cmp op_uIs (nomark _) ?_) | ((with_reducible show DT _ (.Compare _ [.IsNot] [_] _) _ _ _); refine dt_cmp op_uIsn (nomark _) ?_) | ((with_reducible show DT _ (.Compare _ [.In] [_] _) _ _ _); refine dt_cmp cIn (rfl) ?_) | ((with_reducible show DT _ (.Compare _ [.NotIn] [_] _) _ _ _); refine dt_cmp cNin (rfl) ?_))) | ((with_reducible show DT _ (.Compare _ [_, _] _ _) _ _ _); (first | ((with_reducible show DT _ (.Compare _ [.LtE, .Lt] [_, _] _) _ _ _); refine dt_chain op_le op_lt ?_) | ((with_reducible show DT _ (.Compare _ [.LtE, .LtE] [_, _] _) _ _ _); refine dt_chain op_le op_le ?_))) | ((with_reducible show DT _ _ _ _ _); refine dt_tru ?_))) | ((with_reducible show DW _ _ _ _ _); (first | ((with_reducible show DW _ (.BoolOp .And [_] _) _ _ _); refine dw_and1 ?_) | ((with_reducible show DW _ (.BoolOp .Or [_] _) _ _ _); refine dw_or1 ?_) | ((with_reducible show DW _ (.BoolOp .And _ _) _ _ _); refine dw_and ?_) | ((with_reducible show DW _ (.BoolOp .Or _ _) _ _ _); refine dw_or ?_))) | ((with_reducible show DA _ _ _ _ _); (first | ((with_reducible show DA _ (_ :: _) _ _ _); refine da_cons ?_) | ((with_reducible show DA _ [] _ _ _); refine da_nil ?_))) | ((with_reducible show if _ = true then _ else _); (first | (with_reducible refine ite_tt ?_) | (with_reducible refine ite_ff ?_) | (with_reducible refine ite_nt ?_) | (with_reducible refine ite_nf ?_) | ((with_reducible show if decide _ = true then _ else _); first | refine ite_dt (by (first | (with_reducible assumption) | omega | decide +kernel | ((simp only [List.length_cons, List.length_nil, List.length_map, List.length_append]); omega) | ((simp only [List.length_cons, List.length_nil, List.length_map, List.length_append]); (first | (all_goals fail) | fail)))) ?_ | refine ite_df (by (first | (with_reducible assumption) | omega | decide +kernel | ((simp only [List.length_cons, List.length_nil, List.length_map, List.length_append]); omega) | ((simp only [List.length_cons, List.length_nil, List.length_map, List.length_append]); (first | (all_goals fail) | fail)))) ?_) | ((with_reducible show if (!decide _) = true then _ else _); first | refine ite_ndf (by (first | (with_reducible assumption) | omega | decide +kernel | ((simp only [List.length_cons, List.length_nil, List.length_map, List.length_append]); omega) | ((simp only [List.length_cons, List.length_nil, List.length_map, List.length_append]); (first | (all_goals fail) | fail)))) ?_ | refine ite_ndt (by (first | (with_reducible assumption) | omega | decide +kernel | ((simp only [List.length_cons, List.length_nil, List.length_map, List.length_append]); omega) | ((simp only [List.length_cons, List.length_nil, List.length_map, List.length_append]); (first | (all_goals fail) | fail)))) ?_) | (with_reducible refine ite_nn ?_) | ((with_reducible show if PyData.eqv _ _ = true then _ else _); first | refine ite_t (by decide +kernel) ?_ | refine ite_f (by decide +kernel) ?_ | refine ite_t rfl ?_ | refine ite_f rfl ?_) | ((with_reducible show if (!PyData.eqv _ _) = true then _ else _); first | refine ite_t (by decide +kernel) ?_ | refine ite_f (by decide +kernel) ?_ | refine ite_t rfl ?_ | refine ite_f rfl ?_) | ((with_reducible show if wholeD (.int _) = true then _ else _); refine ite_t rfl ?_) | ((with_reducible show if (!wholeD (.int _)) = true then _ else _); refine ite_f rfl ?_) | ((with_reducible show if isD _ _ = true then _ else _); first | refine ite_t rfl ?_ | refine ite_f rfl ?_) | ((with_reducible show if (!isD _ _) = true then _ else _); first | refine ite_t rfl ?_ | refine ite_f rfl ?_))) | ((with_reducible show Exists _); (first | (with_reducible refine me_tab (by ((repeat with_reducible first | exact Pick.zero | apply Pick.succ); (first | (all_goals fail) | fail))) (by decide +kernel) ?_) | ((with_reducible show ∃ i ρ', SetS _ _ _ i _ ρ' ∧ _); refine ⟨_, _, by ((repeat with_reducible first | exact SetS.zero | apply SetS.succ); (first | (all_goals fail) | fail)), ?_⟩) | (with_reducible refine ex_list rfl ?_) | ((with_reducible show ∃ ds, Sl.asSeq _ = some ds ∧ _); refine ex_seq rfl ?_) | ((with_reducible show ∃ ds, Datas _ ds ∧ _); refine ex_datas (by ((repeat with_reducible first | exact datas_nil | apply datas_cons); (first | (all_goals fail) | fail))) (by first | exact Nat.le_of_ble_eq_true rfl | (first | (with_reducible assumption) | decide | ((try simp only [List.length_cons, List.length_nil, List.length_append, List.length_map, List.length_replicate]); omega) | (refine Nat.le_trans (cutL_len _ _ _) ?_; (try simp only [List.length_cons, List.length_nil, List.length_append, List.length_map, List.length_replicate]); omega) | (refine Nat.le_trans (Nat.add_le_add_left (cutL_len _ _ _) _) ?_; (try simp only [List.length_cons, List.length_nil, List.length_append, List.length_map, List.length_replicate]); omega) | (refine Nat.le_trans (Nat.add_le_add_right (cutL_len _ _ _) _) ?_; (try simp only [List.length_cons, List.length_nil, List.length_append, List.length_map, List.length_replicate]); omega))) ?_) | ((with_reducible show ∃ C p fs g sl, _ = Sl.r (.ref p) ∧ Pick _ (insM C p fs) g ∧ FldC _ C _ ∧ FldAt fs _ sl ∧ _); refine ex_fld (by ((repeat with_reducible first | exact Pick.zero | apply Pick.succ); (first | (all_goals fail) | fail))) (fldc (by with_reducible assumption) (by decide +kernel)) (by ((repeat with_reducible first | exact FldAt.zero | apply FldAt.succ); (first | (all_goals fail) | fail))) (by (simp only [List.map_cons, List.map_nil]); decide +kernel) (by exact fun _ z => nomatch z) ?_) | ((with_reducible show ∃ C p fs g fs2, _ = Sl.r (.ref p) ∧ Pick _ (insM C p fs) g ∧ FldC _ C _ ∧ (FldSet fs _ _ fs2 ∨ _) ∧ _); first | refine ex_fset (by ((repeat with_reducible first | exact Pick.zero | apply Pick.succ); (first | (all_goals fail) | fail))) (fldc (by with_reducible assumption) (by decide +kernel)) (by ((repeat with_reducible first | exact FldSet.zero | apply FldSet.succ); (first | (all_goals fail) | fail))) (by (simp only [List.map_cons, List.map_nil]); decide +kernel) (by exact Nat.le_of_ble_eq_true rfl) ?_ | refine ex_fnew (by ((repeat with_reducible first | exact Pick.zero | apply Pick.succ); (first | (all_goals fail) | fail))) (fldc (by with_reducible assumption) (by decide +kernel)) (by (simp only [List.map_cons, List.map_nil]); decide +kernel) (by (simp only [List.map_cons, List.map_nil]); decide +kernel) (by exact Nat.le_of_ble_eq_true rfl) ?_) | ((with_reducible show ∃ p ss f k j, _ = Sl.r (.ref p) ∧ _ = Sl.d (.int k) ∧ _); refine ex_seti (by ((repeat with_reducible first | exact Pick.zero | apply Pick.succ); (first | (all_goals fail) | fail))) (by first | with_reducible assumption | rfl) ?_) | (with_reducible refine ex_frz (by ((repeat with_reducible first | exact Pick.zero | apply Pick.succ); (first | (all_goals fail) | fail))) ?_) | (with_reducible refine ex_own (by ((repeat with_reducible first | exact Pick.zero | apply Pick.succ); (first | (all_goals fail) | fail))) ?_) | (with_reducible refine ex_app (by ((repeat with_reducible first | exact Pick.zero | apply Pick.succ); (first | (all_goals fail) | fail))) (by (first | (with_reducible assumption) | decide | ((try simp only [List.length_cons, List.length_nil, List.length_append, List.length_map, List.length_replicate]); omega) | (refine Nat.le_trans (cutL_len _ _ _) ?_; (try simp only [List.length_cons, List.length_nil, List.length_append, List.length_map, List.length_replicate]); omega) | (refine Nat.le_trans (Nat.add_le_add_left (cutL_len _ _ _) _) ?_; (try simp only [List.length_cons, List.length_nil, List.length_append, List.length_map, List.length_replicate]); omega) | (refine Nat.le_trans (Nat.add_le_add_right (cutL_len _ _ _) _) ?_; (try simp only [List.length_cons, List.length_nil, List.length_append, List.length_map, List.length_replicate]); omega))) ?_) | ((with_reducible show ∃ ys, RefsE _ _ ys ∧ _); (first | refine ex_refs (w := false) (by ((repeat with_reducible first | exact RefsE.nil | apply RefsE.cons); (first | (all_goals fail) | fail))) (by decide +kernel) ?_ | refine ex_refs (w := true) (by ((repeat with_reducible first | exact RefsE.nil | apply RefsE.cons); (first | (all_goals fail) | fail))) (by decide +kernel) ?_)) | ((with_reducible show ∃ rs', Ent [_] (rs' ++ [_]) ∧ _); (refine end_ex ?_; with_reducible assumption)) | ((with_reducible show ∃ ρ', SetS _ _ _ _ _ ρ' ∧ _); refine ⟨_, by ((repeat with_reducible first | exact SetS.zero | apply SetS.succ); (first | (all_goals fail) | fail)), ?_⟩) | (with_reducible refine ex_rep (by ((repeat with_reducible first | exact Pick.zero | apply Pick.succ); (first | (all_goals fail) | fail))) (by (first | omega | decide | (simp; omega))) ?_) | (with_reducible refine ex_dat ?_) | (with_reducible refine ex_int ?_) | (with_reducible refine ex_str ?_) | (with_reducible refine ex_dic (by ((repeat with_reducible first | exact Pick.zero | apply Pick.succ); (first | (all_goals fail) | fail))) ?_) | (with_reducible refine ex_din1 (by ((repeat with_reducible first | exact Pick.zero | apply Pick.succ); (first | (all_goals fail) | fail))) ?_) | (with_reducible refine ex_din2 (by ((repeat with_reducible first | exact Pick.zero | apply Pick.succ); (first | (all_goals fail) | fail))) ?_) | (with_reducible refine ex_dlen (by ((repeat with_reducible first | exact Pick.zero | apply Pick.succ); (first | (all_goals fail) | fail))) ?_) | ((with_reducible show ∃ p kvs f k, _ = Sl.r (.ref p) ∧ _ = Sl.d (keyD k) ∧ Pick _ (dictM p kvs) f ∧ kvs.length ≤ _ ∧ _); first | refine ex_dputI (by ((repeat with_reducible first | exact Pick.zero | apply Pick.succ); (first | (all_goals fail) | fail))) (by (first | (with_reducible assumption) | decide | ((try simp only [List.length_cons, List.length_nil, List.length_append, List.length_map, List.length_replicate]); omega) | (refine Nat.le_trans (cutL_len _ _ _) ?_; (try simp only [List.length_cons, List.length_nil, List.length_append, List.length_map, List.length_replicate]); omega) | (refine Nat.le_trans (Nat.add_le_add_left (cutL_len _ _ _) _) ?_; (try simp only [List.length_cons, List.length_nil, List.length_append, List.length_map, List.length_replicate]); omega) | (refine Nat.le_trans (Nat.add_le_add_right (cutL_len _ _ _) _) ?_; (try simp only [List.length_cons, List.length_nil, List.length_append, List.length_map, List.length_replicate]); omega))) ?_ | refine ex_dputS (by ((repeat with_reducible first | exact Pick.zero | apply Pick.succ); (first | (all_goals fail) | fail))) (by (first | (with_reducible assumption) | decide | ((try simp only [List.length_cons, List.length_nil, List.length_append, List.length_map, List.length_replicate]); omega) | (refine Nat.le_trans (cutL_len _ _ _) ?_; (try simp only [List.length_cons, List.length_nil, List.length_append, List.length_map, List.length_replicate]); omega) | (refine Nat.le_trans (Nat.add_le_add_left (cutL_len _ _ _) _) ?_; (try simp only [List.length_cons, List.length_nil, List.length_append, List.length_map, List.length_replicate]); omega) | (refine Nat.le_trans (Nat.add_le_add_right (cutL_len _ _ _) _) ?_; (try simp only [List.length_cons, List.length_nil, List.length_append, List.length_map, List.length_replicate]); omega))) ?_) | ((with_reducible show ∃ p kvs f k, _ = Sl.r (.ref p) ∧ _ = Sl.d (keyD k) ∧ Pick _ (dictM p kvs) f ∧ _); first | refine ex_din1 (by ((repeat with_reducible first | exact Pick.zero | apply Pick.succ); (first | (all_goals fail) | fail))) ?_ | refine ex_din2 (by ((repeat with_reducible first | exact Pick.zero | apply Pick.succ); (first | (all_goals fail) | fail))) ?_) | ((with_reducible show ∃ kvs f k s, _ = Sl.d (keyD k) ∧ Pick _ (dictM _ kvs) f ∧ valS kvs k = some s ∧ _); first | refine ex_dpopI (by ((repeat with_reducible first | exact Pick.zero | apply Pick.succ); (first | (all_goals fail) | fail))) (by with_reducible assumption) (by exact fun _ z => nomatch z) ?_ | refine ex_dpopS (by ((repeat with_reducible first | exact Pick.zero | apply Pick.succ); (first | (all_goals fail) | fail))) (by with_reducible assumption) (by exact fun _ z => nomatch z) ?_) | ((with_reducible show ∃ p kvs f k s, _ = Sl.r (.ref p) ∧ _ = Sl.d (keyD k) ∧ Pick _ (dictM p kvs) f ∧ _); first | refine ex_dget (by ((repeat with_reducible first | exact Pick.zero | apply Pick.succ); (first | (all_goals fail) | fail))) (by with_reducible assumption) (by exact fun _ z => nomatch z) ?_ | refine ex_dgetS (by ((repeat with_reducible first | exact Pick.zero | apply Pick.succ); (first | (all_goals fail) | fail))) (by with_reducible assumption) (by exact fun _ z => nomatch z) ?_))) | (first | (with_reducible refine kt ?_) | ((with_reducible show ∀ _ : Addr, _); intro q) | ((with_reducible show Le _ _ ∧ _ = _); exact ⟨by ((repeat with_reducible first | exact Le.nil | apply Le.eq | apply Le.un); (first | (all_goals fail) | fail)), rfl⟩) | ((with_reducible show CallEnd _ _ _ _ _ _); (first | ((with_reducible refine ce_tab (by ((repeat with_reducible first | exact Pick.zero | apply Pick.succ); (first | (all_goals fail) | fail))) ?_); (first | refine ⟨_, rfl, rfl, by (first | (with_reducible trivial) | (with_reducible assumption) | omega | (exact ⟨by with_reducible assumption, by with_reducible assumption⟩)), ?_⟩ | refine ⟨_, _, rfl, rfl, by (first | (with_reducible trivial) | (with_reducible assumption) | omega | (exact ⟨by with_reducible assumption, by with_reducible assumption⟩)), ?_⟩ | refine ⟨_, _, _, rfl, rfl, by (first | (with_reducible trivial) | (with_reducible assumption) | omega | (exact ⟨by with_reducible assumption, by with_reducible assumption⟩)), ?_⟩ | refine ⟨_, _, _, _, rfl, rfl, by (first | (with_reducible trivial) | (with_reducible assumption) | omega | (exact ⟨by with_reducible assumption, by with_reducible assumption⟩)), ?_⟩ | refine ⟨_, _, _, _, _, rfl, rfl, by (first | (with_reducible trivial) | (with_reducible assumption) | omega | (exact ⟨by with_reducible assumption, by with_reducible assumption⟩)), ?_⟩ | refine ⟨_, _, _, _, _, _, rfl, rfl, by (first | (with_reducible trivial) | (with_reducible assumption) | omega | (exact ⟨by with_reducible assumption, by with_reducible assumption⟩)), ?_⟩ | refine ⟨_, _, _, _, _, _, _, rfl, rfl, by (first | (with_reducible trivial) | (with_reducible assumption) | omega | (exact ⟨by with_reducible assumption, by with_reducible assumption⟩)), ?_⟩ | refine ⟨_, _, _, _, _, _, _, _, rfl, rfl, by (first | (with_reducible trivial) | (with_reducible assumption) | omega | (exact ⟨by with_reducible assumption, by with_reducible assumption⟩)), ?_⟩)) | (refine ce_inl ?_; first | refine ⟨_, rfl, rfl, by (first | (with_reducible trivial) | (with_reducible assumption) | omega | (exact ⟨by with_reducible assumption, by with_reducible assumption⟩)), ?_⟩ | refine ⟨_, _, rfl, rfl, by (first | (with_reducible trivial) | (with_reducible assumption) | omega | (exact ⟨by with_reducible assumption, by with_reducible assumption⟩)), ?_⟩ | refine ⟨_, _, _, rfl, rfl, by (first | (with_reducible trivial) | (with_reducible assumption) | omega | (exact ⟨by with_reducible assumption, by with_reducible assumption⟩)), ?_⟩ | refine ⟨_, _, _, _, rfl, rfl, by (first | (with_reducible trivial) | (with_reducible assumption) | omega | (exact ⟨by with_reducible assumption, by with_reducible assumption⟩)), ?_⟩ | refine ⟨_, _, _, _, _, rfl, rfl, by (first | (with_reducible trivial) | (with_reducible assumption) | omega | (exact ⟨by with_reducible assumption, by with_reducible assumption⟩)), ?_⟩ | refine ⟨_, _, _, _, _, _, rfl, rfl, by (first | (with_reducible trivial) | (with_reducible assumption) | omega | (exact ⟨by with_reducible assumption, by with_reducible assumption⟩)), ?_⟩))) | ((with_reducible show CallEnd0 _ _ _ _); (first | ((with_reducible refine ce0_tab (by ((repeat with_reducible first | exact Pick.zero | apply Pick.succ); (first | (all_goals fail) | fail))) ?_); (first | refine ⟨_, rfl, rfl, by (first | (with_reducible trivial) | (with_reducible assumption) | omega | (exact ⟨by with_reducible assumption, by with_reducible assumption⟩)), ?_⟩ | refine ⟨_, _, rfl, rfl, by (first | (with_reducible trivial) | (with_reducible assumption) | omega | (exact ⟨by with_reducible assumption, by with_reducible assumption⟩)), ?_⟩ | refine ⟨_, _, _, rfl, rfl, by (first | (with_reducible trivial) | (with_reducible assumption) | omega | (exact ⟨by with_reducible assumption, by with_reducible assumption⟩)), ?_⟩ | refine ⟨_, _, _, _, rfl, rfl, by (first | (with_reducible trivial) | (with_reducible assumption) | omega | (exact ⟨by with_reducible assumption, by with_reducible assumption⟩)), ?_⟩ | refine ⟨_, _, _, _, _, rfl, rfl, by (first | (with_reducible trivial) | (with_reducible assumption) | omega | (exact ⟨by with_reducible assumption, by with_reducible assumption⟩)), ?_⟩ | refine ⟨_, _, _, _, _, _, rfl, rfl, by (first | (with_reducible trivial) | (with_reducible assumption) | omega | (exact ⟨by with_reducible assumption, by with_reducible assumption⟩)), ?_⟩ | refine ⟨_, _, _, _, _, _, _, rfl, rfl, by (first | (with_reducible trivial) | (with_reducible assumption) | omega | (exact ⟨by with_reducible assumption, by with_reducible assumption⟩)), ?_⟩ | refine ⟨_, _, _, _, _, _, _, _, rfl, rfl, by (first | (with_reducible trivial) | (with_reducible assumption) | omega | (exact ⟨by with_reducible assumption, by with_reducible assumption⟩)), ?_⟩)))) | ((with_reducible show (bodyPost _ _).rt _ _); (first | (refine end_rt ?_; with_reducible assumption) | refine end_rtT (decide_eq_true (by omega)) (by with_reducible assumption) | refine end_rtT rfl (by with_reducible assumption))) | ((with_reducible show TrD (.d (.bool _)) _ _); refine tr_bool ?_) | ((with_reducible show TrD (.d .none) _ _); refine tr_none ?_) | ((with_reducible show TrD (.d (.int _)) _ _); refine tr_int ?_) | ((with_reducible show TrD (.d (.list _)) _ _); refine tr_list ?_) | ((with_reducible show TrD (.d (.tuple _)) _ _); refine tr_tuple ?_) | ((with_reducible show TrD (.r (.ref _)) _ _); (first | refine tr_own (by ((repeat with_reducible first | exact Pick.zero | apply Pick.succ); (first | (all_goals fail) | fail))) ?_ | refine tr_dict (by ((repeat with_reducible first | exact Pick.zero | apply Pick.succ); (first | (all_goals fail) | fail))) ?_)) | ((with_reducible show CaD (rIsi _) _ _ _); (first | refine cd_isiT (by decide) rfl rfl ?_ | refine cd_isiF (by decide) rfl rfl ?_ | refine cd_isi (by decide) rfl ?_)) | ((with_reducible show CaD _ [.d (.int _), .d (.int _)] _ _); (first | refine cd_min ?_ | refine cd_max ?_)) | ((with_reducible show LenD (.d (.str _)) _ _); refine ld_str (by (first | (with_reducible assumption) | decide | ((try simp only [List.length_cons, List.length_nil, List.length_append, List.length_map, List.length_replicate]); omega) | (refine Nat.le_trans (cutL_len _ _ _) ?_; (try simp only [List.length_cons, List.length_nil, List.length_append, List.length_map, List.length_replicate]); omega) | (refine Nat.le_trans (Nat.add_le_add_left (cutL_len _ _ _) _) ?_; (try simp only [List.length_cons, List.length_nil, List.length_append, List.length_map, List.length_replicate]); omega) | (refine Nat.le_trans (Nat.add_le_add_right (cutL_len _ _ _) _) ?_; (try simp only [List.length_cons, List.length_nil, List.length_append, List.length_map, List.length_replicate]); omega))) ?_) | ((with_reducible show LenD (.r (.ref _)) _ _); refine ld_own (by ((repeat with_reducible first | exact Pick.zero | apply Pick.succ); (first | (all_goals fail) | fail))) ?_) | ((with_reducible show LenD _ _ _); refine ld_seq rfl ?_) | ((with_reducible show SlD _ (.d (.list _)) _ _ _ _); refine sd_list ?_) | ((with_reducible show SlD _ (.n _) _ _ _ _); refine sd_list ?_) | ((with_reducible show SlD _ (.r (.ref _)) _ _ _ _); refine sd_own (by ((repeat with_reducible first | exact Pick.zero | apply Pick.succ); (first | (all_goals fail) | fail))) (fun q => ?_)) | ((with_reducible show SlD _ (.d (.str _)) _ _ _ _); refine sd_str (by (first | (with_reducible assumption) | decide | ((try simp only [List.length_cons, List.length_nil, List.length_append, List.length_map, List.length_replicate]); omega) | (refine Nat.le_trans (cutL_len _ _ _) ?_; (try simp only [List.length_cons, List.length_nil, List.length_append, List.length_map, List.length_replicate]); omega) | (refine Nat.le_trans (Nat.add_le_add_left (cutL_len _ _ _) _) ?_; (try simp only [List.length_cons, List.length_nil, List.length_append, List.length_map, List.length_replicate]); omega) | (refine Nat.le_trans (Nat.add_le_add_right (cutL_len _ _ _) _) ?_; (try simp only [List.length_cons, List.length_nil, List.length_append, List.length_map, List.length_replicate]); omega))) ?_) | ((with_reducible show SlD _ (.d (.tuple [_, _, _, _])) none (some 2) _ _); refine sd_t42 ?_) | ((with_reducible show SlD _ (.d (.tuple [_, _, _, _, _, _])) (some 2) (some 5) _ _); refine sd_t625 ?_) | ((with_reducible show SlD _ (.d (.tuple [_, _, _, _])) (some 2) none _ _); refine sd_t4f2 ?_) | ((with_reducible show SlD _ (.d (.tuple _)) _ _ _ _); refine sd_tup (by first | decide | ((simp only [List.length_cons, List.length_nil]); decide +kernel)) ?_) | ((with_reducible show DO _ none _ _ _); refine do_none ?_) | ((with_reducible show DO _ (some _) _ _ _); refine do_some ?_) | (with_reducible refine ex_eqr ?_) | ((with_reducible show LsD _ _ _); first | refine ls_s (by (first | (with_reducible assumption) | decide | ((try simp only [List.length_cons, List.length_nil, List.length_append, List.length_map, List.length_replicate]); omega) | (refine Nat.le_trans (cutL_len _ _ _) ?_; (try simp only [List.length_cons, List.length_nil, List.length_append, List.length_map, List.length_replicate]); omega) | (refine Nat.le_trans (Nat.add_le_add_left (cutL_len _ _ _) _) ?_; (try simp only [List.length_cons, List.length_nil, List.length_append, List.length_map, List.length_replicate]); omega) | (refine Nat.le_trans (Nat.add_le_add_right (cutL_len _ _ _) _) ?_; (try simp only [List.length_cons, List.length_nil, List.length_append, List.length_map, List.length_replicate]); omega))) ?_ | refine ls_d rfl ?_) | ((with_reducible show LiD _ _ _); first | refine li_o (by ((repeat with_reducible first | exact Pick.zero | apply Pick.succ); (first | (all_goals fail) | fail))) (fun q => ?_) | refine li_d rfl (fun q => ?_)) | ((with_reducible show _ < 1920 ∧ _); refine ⟨log2_ok (by (first | omega | decide | (simp; omega))), ?_⟩) | ((with_reducible show CaD (rIsE _ _ _) [_, .r (.ty _)] _ _); refine cd_isEV (by with_reducible assumption) (by decide +kernel) ?_) | ((with_reducible show CaD (rIsE _ _ _) _ _ _); (first | refine cd_isE1 (r := true) (by with_reducible assumption) (by decide +kernel) (by decide +kernel) (by decide +kernel) ?_ | refine cd_isE1 (r := false) (by with_reducible assumption) (by decide +kernel) (by decide +kernel) (by decide +kernel) ?_)))) | dsimp only [List.nil_append, List.cons_append, Sl.plain])))
local macro_rules | `(tactic| walk_at "auto") => `(tactic| (repeat' (first | (first | ((with_reducible show DX _ _ _ _ _); (first | ((with_reducible show DX _ (.Subscript (.Name "_law_ways" _) _ _) _ _ _); refine dx_dget ?_) | ((with_reducible show DX _ (.Call (.Attribute (.Name "_law_ways" _) "get" _) [_] _ _) _ _ _); refine dx_dget1 ?_) | ((with_reducible show DX _ (.Call (.Attribute (.Name "_law_ways" _) "get" _) [_, _] _ _) _ _ _); refine dx_dget2 ?_) | ((with_reducible show DX _ (.Call (.Attribute (.Name "_law_ways" _) "pop" _) [_] _ _) _ _ _); refine dx_dpop1 ?_) | ((with_reducible show DX _ (.Call (.Attribute (.Name "_law_ways" _) "pop" _) [_, _] _ _) _ _ _); refine dx_dpop2 ?_) | ((with_reducible show DX _ (.Call (.Name "len" _) [(.Name "_law_ways" _)] _ _) _ _ _); refine dx_dlen ?_) | ((with_reducible show DX _ (.Call (.Name "list" _) [(.Name "_law_ways" _)] _ _) _ _ _); refine dx_dlist ?_) | ((with_reducible show DX _ (.Call (.Name "dict" _) [(.Name "_law_ways" _)] _ _) _ _ _); refine dx_dictO ?_) | ((with_reducible show DX _ (.Call (.Name "sorted" _) [(.Name "_law_ways" _)] _ _) _ _ _); refine dx_sortedD ?_) | ((with_reducible show DX _ (.Compare _ [.In] [(.Name "_law_ways" _)] _) _ _ _); refine dx_din ?_) | ((with_reducible show DX _ (.Compare _ [.NotIn] [(.Name "_law_ways" _)] _) _ _ _); refine dx_dnin ?_) | ((with_reducible show DX _ (.Name _ _) _ _ _); (first | refine dx_name (by ((repeat with_reducible first | exact Slot.zero | apply Slot.succ); (first | (all_goals fail) | fail))) (by exact fun e => nomatch e) ?_ | refine dx_gint (by with_reducible assumption) ?_ | refine dx_gstr (by with_reducible assumption) ?_ | refine dx_gcls (by with_reducible assumption) (by decide +kernel) ?_ | ((with_reducible show DX _ (.Name "int" _) _ _ _); refine dx_tint ?_) | ((with_reducible show DX _ (.Name "bool" _) _ _ _); refine dx_tbool ?_) | ((with_reducible show DX _ (.Name "str" _) _ _ _); refine dx_tstr ?_) | ((with_reducible show DX _ (.Name "list" _) _ _ _); refine dx_tlist ?_) | ((with_reducible show DX _ (.Name "tuple" _) _ _ _); refine dx_ttuple ?_) | ((with_reducible show DX _ (.Name "ValueError" _) _ _ _); refine dx_tVE (by with_reducible assumption) ?_))) | ((with_reducible show DX _ (.Constant _ _ _) _ _ _); (first | ((with_reducible show DX _ (.Constant (.int _) _ _) _ _ _); refine dx_int ?_) | ((with_reducible show DX _ (.Constant (.str _) _ _) _ _ _); refine dx_str ?_) | ((with_reducible show DX _ (.Constant (.bool _) _ _) _ _ _); refine dx_bl ?_) | refine dx_non ?_)) | ((with_reducible show DX _ (.BinOp (.List [_] _) .Mult _ _) _ _ _); refine dx_repD ?_) | ((with_reducible show DX _ (.BinOp _ _ _ _) _ _ _); (first | ((with_reducible show DX _ (.BinOp _ .Add _ _) _ _ _); refine dx_bin cAdd ?_) | ((with_reducible show DX _ (.BinOp _ .Sub _ _) _ _ _); refine dx_bin op_sub ?_) | ((with_reducible show DX _ (.BinOp _ .Mult _ _) _ _ _); refine dx_bin op_uMul ?_) | ((with_reducible show DX _ (.BinOp _ .FloorDiv _ _) _ _ _); refine dx_bin op_fdivW ?_) | ((with_reducible show DX _ (.BinOp _ .Mod _ _) _ _ _); refine dx_bin op_mod ?_) | ((with_reducible show DX _ (.BinOp _ .Pow _ _) _ _ _); refine dx_bin op_pow ?_))) | ((with_reducible show DX _ (.Compare _ [_] _ _) _ _ _); (first | ((with_reducible show DX _ (.Compare _ [.Eq] [_] _) _ _ _); refine dx_cmp cEq (nomark _) ?_) | ((with_reducible show DX _ (.Compare _ [.NotEq] [_] _) _ _ _); refine dx_cmp cNe (nomark _) ?_) | ((with_reducible show DX _ (.Compare _ [.Lt] [_] _) _ _ _); refine dx_cmp op_lt (nomark _) ?_) | ((with_reducible show DX _ (.Compare _ [.LtE] [_] _) _ _ _); refine dx_cmp op_le (nomark _) ?_) | ((with_reducible show DX _ (.Compare _ [.Gt] [_] _) _ _ _); refine dx_cmp op_gt (nomark _) ?_) | ((with_reducible show DX _ (.Compare _ [.GtE] [_] _) _ _ _); refine dx_cmp op_ge (nomark _) ?_) | ((with_reducible show DX _ (.Compare _ [.Is] [_] _) _ _ _); refine dx_cmp op_uIs (nomark _) ?_) | ((with_reducible show DX _ (.Compare _ [.IsNot] [_] _) _ _ _); refine dx_cmp op_uIsn (nomark _) ?_) | ((with_reducible show DX _ (.Compare _ [.In] [_] _) _ _ _); refine dx_cmp cIn (rfl) ?_) | ((with_reducible show DX _ (.Compare _ [.NotIn] [_] _) _ _ _); refine dx_cmp cNin (rfl) ?_))) | ((with_reducible show DX _ (.Compare _ [_, _] _ _) _ _ _); (first | ((with_reducible show DX _ (.Compare _ [.LtE, .Lt] [_, _] _) _ _ _); refine dx_chain op_le op_lt ?_) | ((with_reducible show DX _ (.Compare _ [.LtE, .LtE] [_, _] _) _ _ _); refine dx_chain op_le op_le ?_))) | ((with_reducible show DX _ (.BoolOp _ [_] _) _ _ _); refine dx_one ?_) | ((with_reducible show DX _ (.BoolOp .And _ _) _ _ _); refine dx_and ?_) | ((with_reducible show DX _ (.BoolOp .Or _ _) _ _ _); refine dx_or ?_) | ((with_reducible show DX _ (.UnaryOp .Not _ _) _ _ _); refine dx_not ?_) | ((with_reducible show DX _ (.UnaryOp _ _ _) _ _ _); refine dx_neg ?_) | ((with_reducible show DX _ (.Subscript _ (.Slice _ _ _ _) _) _ _ _); refine dx_slice ?_) | ((with_reducible show DX _ (.Subscript _ _ _) _ _ _); refine dx_ix cIx ?_) | ((with_reducible show DX _ (.Tuple _ _ _) _ _ _); refine dx_tup ?_) | ((with_reducible show DX _ (.IfExp _ _ _ _) _ _ _); refine dx_ifExp ?_) | ((with_reducible show DX _ (.List _ _) _ _ _); refine dx_lst ?_) | ((with_reducible show DX _ (.Dict [] [] _) _ _ _); refine dx_dnew ?_) | ((with_reducible show DX _ (.Attribute _ _ _) _ _ _); refine dx_fld ?_) | ((with_reducible show DX _ (.Call (.Attribute _ "clear" _) [] _ _) _ _ _); refine dx_clear ?_) | ((with_reducible show DX _ (.Call (.Attribute _ "pop" _) [] _ _) _ _ _); refine dx_pop ?_) | ((with_reducible show DX _ (.Call (.Attribute _ _ _) [] _ _) _ _ _); refine dx_meth0 (by with_reducible assumption) (by with_reducible assumption) ?_) | ((with_reducible show DX _ (.Call (.Name _ _) [] _ _) _ _ _); refine dx_call0 (by with_reducible assumption) ?_) | ((with_reducible show DX _ (.Call (.Attribute _ "append" _) [_] _ _) _ _ _); refine dx_append ?_) | ((with_reducible show DX _ (.Call (.Attribute _ "join" _) [_] _ _) _ _ _); refine dx_join ?_) | ((with_reducible show DX _ (.Call (.Attribute _ "find" _) [_] _ _) _ _ _); refine dx_find ?_) | ((with_reducible show DX _ (.Call (.Attribute (.Constant (.str _) _ _) "index" _) [_] _ _) _ _ _); refine dx_sindex ?_) | ((with_reducible show DX _ (.Call (.Attribute _ "split" _) [_] _ _) _ _ _); refine dx_split ?_) | ((with_reducible show DX _ (.Call (.Attribute _ _ _) _ _ _) _ _ _); refine dx_meth (by with_reducible assumption) (by with_reducible assumption) ?_) | ((with_reducible show DX _ (.Call (.Name _ _) _ _ _) _ _ _); (first | ((with_reducible show DX _ (.Call (.Name "len" _) _ _ _) _ _ _); refine dx_len ?_) | ((with_reducible show DX _ (.Call (.Name "isinstance" _) _ _ _) _ _ _); (first | ((with_reducible show DX _ (.Call _ [_, .Tuple _ _ _] _ _) _ _ _); refine dx_isET (by with_reducible assumption) (by with_reducible assumption) (by decide +kernel) ?_) | ((with_reducible show DX _ (.Call _ [_, .Name _ _] _ _) _ _ _); first | refine dx_isE (by with_reducible assumption) ?_ | refine dx_isi ?_))) | ((with_reducible show DX _ (.Call (.Name "list" _) _ _ _) _ _ _); (first | refine dx_listA ?_ | refine dx_list ?_)) | ((with_reducible show DX _ (.Call (.Name "min" _) _ _ _) _ _ _); refine dx_min ?_) | ((with_reducible show DX _ (.Call (.Name "max" _) _ _ _) _ _ _); refine dx_max ?_) | ((with_reducible show DX _ (.Call (.Name "str" _) _ _ _) _ _ _); refine dx_cstr ?_) | ((with_reducible show DX _ (.Call (.Name "int" _) _ _ _) _ _ _); refine dx_cint ?_) | refine dx_call (by with_reducible assumption) ?_ | refine dx_make (by with_reducible assumption) ?_)))) | ((with_reducible show OpD _ _ _ _ _); (first | ((with_reducible show OpD (uAdd _) (.d (.int _)) (.d (.int _)) _ _); refine od_add ?_) | ((with_reducible show OpD (uAdd _) (.d (.str _)) (.d (.str _)) _ _); refine od_adds (by (first | (with_reducible assumption) | decide | ((try simp only [List.length_cons, List.length_nil, List.length_append, List.length_map, List.length_replicate]); omega) | (refine Nat.le_trans (cutL_len _ _ _) ?_; (try simp only [List.length_cons, List.length_nil, List.length_append, List.length_map, List.length_replicate]); omega) | (refine Nat.le_trans (Nat.add_le_add_left (cutL_len _ _ _) _) ?_; (try simp only [List.length_cons, List.length_nil, List.length_append, List.length_map, List.length_replicate]); omega) | (refine Nat.le_trans (Nat.add_le_add_right (cutL_len _ _ _) _) ?_; (try simp only [List.length_cons, List.length_nil, List.length_append, List.length_map, List.length_replicate]); omega))) ?_) | ((with_reducible show OpD (uAdd _) (.d (.tuple _)) (.d (.tuple _)) _ _); refine od_addt (by first | exact List.cons_ne_nil _ _ | decide) (by (first | (with_reducible assumption) | decide | ((try simp only [List.length_cons, List.length_nil, List.length_append, List.length_map, List.length_replicate]); omega) | (refine Nat.le_trans (cutL_len _ _ _) ?_; (try simp only [List.length_cons, List.length_nil, List.length_append, List.length_map, List.length_replicate]); omega) | (refine Nat.le_trans (Nat.add_le_add_left (cutL_len _ _ _) _) ?_; (try simp only [List.length_cons, List.length_nil, List.length_append, List.length_map, List.length_replicate]); omega) | (refine Nat.le_trans (Nat.add_le_add_right (cutL_len _ _ _) _) ?_; (try simp only [List.length_cons, List.length_nil, List.length_append, List.length_map, List.length_replicate]); omega))) ?_) | ((with_reducible show OpD (uAdd _) _ _ _ _); refine od_addl rfl rfl (by (first | (with_reducible assumption) | decide | ((try simp only [List.length_cons, List.length_nil, List.length_append, List.length_map, List.length_replicate]); omega) | (refine Nat.le_trans (cutL_len _ _ _) ?_; (try simp only [List.length_cons, List.length_nil, List.length_append, List.length_map, List.length_replicate]); omega) | (refine Nat.le_trans (Nat.add_le_add_left (cutL_len _ _ _) _) ?_; (try simp only [List.length_cons, List.length_nil, List.length_append, List.length_map, List.length_replicate]); omega) | (refine Nat.le_trans (Nat.add_le_add_right (cutL_len _ _ _) _) ?_; (try simp only [List.length_cons, List.length_nil, List.length_append, List.length_map, List.length_replicate]); omega))) ?_) | ((with_reducible show OpD (rI0 fun i j => .int (i - j)) _ _ _ _); refine od_sub ?_) | ((with_reducible show OpD uMul (.d (.int _)) (.d (.int _)) _ _); (first | refine od_mul (mul_r (by (first | omega | decide | (simp; omega)))) ?_ | refine od_mul (mul_l (by (first | omega | decide | (simp; omega)))) ?_ | refine od_mul (mul_ok (by (first | omega | decide | (simp; omega))) (by (first | omega | decide | (simp; omega)))) ?_)) | ((with_reducible show OpD (rI CDivW _) _ _ _ _); refine od_div (by (first | omega | decide | (simp; omega))) ?_) | ((with_reducible show OpD (rI CPow _) (.d (.int 10)) _ _ _); (first | (with_reducible refine od_p60 ?_) | (with_reducible refine od_p59 ?_) | (with_reducible refine od_p20 ?_) | (with_reducible refine od_p40 ?_) | (with_reducible refine od_p6 ?_) | (with_reducible refine od_p9 ?_) | (with_reducible refine od_p50 ?_) | (with_reducible refine od_p58 ?_) | (with_reducible refine od_p30 ?_) | (with_reducible refine od_p3 ?_))) | ((with_reducible show OpD (rI CPow _) _ _ _ _); refine od_pow (by decide) ?_) | ((with_reducible show OpD (rI0 fun i j => .bl (decide (i < j))) _ _ _ _); refine od_lt ?_) | ((with_reducible show OpD (rI0 fun i j => .bl (decide (i ≤ j))) _ _ _ _); refine od_le ?_) | ((with_reducible show OpD (rI0 fun i j => .bl (decide (j < i))) _ _ _ _); refine od_gt ?_) | ((with_reducible show OpD (rI0 fun i j => .bl (decide (j ≤ i))) _ _ _ _); refine od_ge ?_) | ((with_reducible show OpD (rI _ _) _ _ _ _); refine od_mod (by (first | omega | decide | (simp; omega))) ?_) | ((with_reducible show OpD (uEq _) _ _ _ _); (first | refine od_eq rfl rfl (by first | exact .int _ _ | exact .str _ _ | exact .bl _ _ | exact .nn | exact .ni _ | exact .in_ _ | exact .ns _ | exact .sn _) ?_ | refine od_eqS rfl rfl (by first | (with_reducible assumption) | decide +kernel | rfl) ?_ | refine od_eq rfl rfl (.dat (by first | (with_reducible assumption) | decide +kernel | rfl) (by first | (with_reducible assumption) | decide +kernel | rfl)) ?_)) | ((with_reducible show OpD (uNe _) _ _ _ _); (first | (with_reducible refine od_nenm ?_) | refine od_ne rfl rfl (by first | exact .int _ _ | exact .str _ _ | exact .bl _ _ | exact .nn | exact .ni _ | exact .in_ _ | exact .ns _ | exact .sn _) ?_ | refine od_neS rfl rfl (by first | (with_reducible assumption) | decide +kernel | rfl) ?_ | refine od_ne rfl rfl (.dat (by first | (with_reducible assumption) | decide +kernel | rfl) (by first | (with_reducible assumption) | decide +kernel | rfl)) ?_)) | ((with_reducible show OpD (uNin _) (.d (.str _)) (.d (.str _)) _ _); refine od_nins ?_) | ((with_reducible show OpD (uIn _) (.d (.str _)) (.d (.str _)) _ _); refine od_ins ?_) | ((with_reducible show OpD (uIn _) (.d _) (.r (.ref _)) _ _); refine od_inO (by ((repeat with_reducible first | exact Pick.zero | apply Pick.succ); (first | (all_goals fail) | fail))) rfl (by with_reducible assumption) ?_) | ((with_reducible show OpD (uNin _) (.d _) (.r (.ref _)) _ _); refine od_ninO (by ((repeat with_reducible first | exact Pick.zero | apply Pick.succ); (first | (all_goals fail) | fail))) rfl (by with_reducible assumption) ?_) | ((with_reducible show OpD uIs _ _ _ _); (first | (with_reducible refine od_isnm ?_) | refine od_is rfl ?_)) | ((with_reducible show OpD uIsn _ _ _ _); (first | (with_reducible refine od_isnnm ?_) | refine od_isn rfl ?_)) | ((with_reducible show OpD (rIx _) (.r (.ref _)) _ _ _); refine od_ixo (by ((repeat with_reducible first | exact Pick.zero | apply Pick.succ); (first | (all_goals fail) | fail))) (by first | rfl | with_reducible assumption) (by exact fun _ z => nomatch z) ?_) | ((with_reducible show OpD (rIx _) (.d (.str _)) _ _ _); refine od_ixt (by (first | (with_reducible assumption) | decide | ((try simp only [List.length_cons, List.length_nil, List.length_append, List.length_map, List.length_replicate]); omega) | (refine Nat.le_trans (cutL_len _ _ _) ?_; (try simp only [List.length_cons, List.length_nil, List.length_append, List.length_map, List.length_replicate]); omega) | (refine Nat.le_trans (Nat.add_le_add_left (cutL_len _ _ _) _) ?_; (try simp only [List.length_cons, List.length_nil, List.length_append, List.length_map, List.length_replicate]); omega) | (refine Nat.le_trans (Nat.add_le_add_right (cutL_len _ _ _) _) ?_; (try simp only [List.length_cons, List.length_nil, List.length_append, List.length_map, List.length_replicate]); omega))) (by with_reducible assumption) ?_) | ((with_reducible show OpD (rIx _) _ _ _ _); refine od_ixs rfl (by first | rfl | with_reducible assumption) ?_))) | ((with_reducible show DS _ _ _ _ _); (first | ((with_reducible show DS _ (.Assign [.Subscript (.Name "_law_ways" _) _ _] _ _) _ _ _); refine ds_dput ?_) | ((with_reducible show DS _ (.Assign [.Name _ _] _ _) _ _ _); (fail_if_success (with_reducible show DS _ (.Assign _ (.List [] _) _) _ _ _)); (fail_if_success (with_reducible show DS _ (.Assign _ (.ListComp _ _ _ _) _) _ _ _)); refine ds_set ?_) | ((with_reducible show DS _ (.Assign [.Attribute _ _ _] _ _) _ _ _); (fail_if_success (with_reducible show DS _ (.Assign _ (.List _ _) _) _ _ _)); (fail_if_success (with_reducible show DS _ (.Assign _ (.ListComp _ _ _ _) _) _ _ _)); refine ds_fld ?_) | ((with_reducible show DS _ (.Assign [.Subscript _ _ _] _ _) _ _ _); (fail_if_success (with_reducible show DS _ (.Assign [.Subscript (.Subscript _ _ _) _ _] _ _) _ _ _)); refine ds_seti ?_) | ((with_reducible show DS _ (.Return (some _) _) _ _ _); refine ds_ret ?_) | ((with_reducible show DS _ (.Return none _) _ _ _); refine ds_retN ?_) | ((with_reducible show DS _ (.If _ _ _ _) _ _ _); refine ds_if ?_) | ((with_reducible show DS _ (.Expr (.Constant _ _ _) _) _ _ _); refine ds_doc ?_) | ((with_reducible show DS _ (.Expr _ _) _ _ _); refine ds_expr ?_) | ((with_reducible show DS _ (.Pass _) _ _ _); refine ds_pass ?_) | ((with_reducible show DS _ (.Break _) _ _ _); refine ds_break ?_) | ((with_reducible show DS _ (.Continue _) _ _ _); refine ds_continue ?_) | ((with_reducible show DS _ (.Raise (some (.Call (.Name _ _) [.Constant (.str _) _ _] [] _)) none _) _ _ _); refine ds_raise (by with_reducible assumption) (by decide +kernel) (by decide +kernel) ?_))) | ((with_reducible show DSs _ _ _ _ _); (first | ((with_reducible show DSs _ (_ :: _) _ _ _); refine dss_cons ?_) | ((with_reducible show DSs _ [] _ _ _); refine dss_nil ?_))) | ((with_reducible show DT _ _ _ _ _); (first | ((with_reducible show DT _ (.Compare _ [.In] [(.Name "_law_ways" _)] _) _ _ _); refine dt_din ?_) | ((with_reducible show DT _ (.Compare _ [.NotIn] [(.Name "_law_ways" _)] _) _ _ _); refine dt_dnin ?_) | ((with_reducible show DT _ (.BoolOp _ _ _) _ _ _); refine dt_bool ?_) | ((with_reducible show DT _ (.UnaryOp .Not _ _) _ _ _); refine dt_not ?_) | ((with_reducible show DT _ (.Compare _ [_] _ _) _ _ _); (first | ((with_reducible show DT _ (.Compare _ [.Eq] [_] _) _ _ _); refine dt_cmp cEq (nomark _) ?_) | ((with_reducible show DT _ (.Compare _ [.NotEq] [_] _) _ _ _); refine dt_cmp cNe (nomark _) ?_) | ((with_reducible show DT _ (.Compare _ [.Lt] [_] _) _ _ _); refine dt_cmp op_lt (nomark _) ?_) | ((with_reducible show DT _ (.Compare _ [.LtE] [_] _) _ _ _); refine dt_cmp op_le (nomark _) ?_) | ((with_reducible show DT _ (.Compare _ [.Gt] [_] _) _ _ _); refine dt_cmp op_gt (nomark _) ?_) | ((with_reducible show DT _ (.Compare _ [.GtE] [_] _) _ _ _); refine dt_cmp op_ge (nomark _) ?_) | ((with_reducible show DT _ (.Compare _ [.Is] [_] _) _ _ _); refine dt_cmp op_uIs (nomark _) ?_) | ((with_reducible show DT _ (.Compare _ [.IsNot] [_] _) _ _ _); refine dt_cmp op_uIsn (nomark _) ?_) | ((with_reducible show DT _ (.Compare _ [.In] [_] _) _ _ _); refine dt_cmp cIn (rfl) ?_) | ((with_reducible show DT _ (.Compare _ [.NotIn] [_] _) _ _ _); refine dt_cmp cNin (rfl) ?_))) | ((with_reducible show DT _ (.Compare _ [_, _] _ _) _ _ _); (first | ((with_reducible show DT _ (.Compare _ [.LtE, .Lt] [_, _] _) _ _ _); refine dt_chain op_le op_lt ?_) | ((with_reducible show DT _ (.Compare _ [.LtE, .LtE] [_, _] _) _ _ _); refine dt_chain op_le op_le ?_))) | ((with_reducible show DT _ _ _ _ _); refine dt_tru ?_))) | ((with_reducible show DW _ _ _ _ _); (first | ((with_reducible show DW _ (.BoolOp .And [_] _) _ _ _); refine dw_and1 ?_) | ((with_reducible show DW _ (.BoolOp .Or [_] _) _ _ _); refine dw_or1 ?_) | ((with_reducible show DW _ (.BoolOp .And _ _) _ _ _); refine dw_and ?_) | ((with_reducible show DW _ (.BoolOp .Or _ _) _ _ _); refine dw_or ?_))) | ((with_reducible show DA _ _ _ _ _); (first | ((with_reducible show DA _ (_ :: _) _ _ _); refine da_cons ?_) | ((with_reducible show DA _ [] _ _ _); refine da_nil ?_))) | ((with_reducible show if _ = true then _ else _); (first | (with_reducible refine ite_tt ?_) | (with_reducible refine ite_ff ?_) | (with_reducible refine ite_nt ?_) | (with_reducible refine ite_nf ?_) | ((with_reducible show if decide _ = true then _ else _); first | refine ite_dt (by (first | (with_reducible assumption) | omega | decide +kernel | ((simp only [List.length_cons, List.length_nil, List.length_map, List.length_append]); omega) | ((simp only [List.length_cons, List.length_nil, List.length_map, List.length_append]); (first | (all_goals fail) | fail)))) ?_ | refine ite_df (by (first | (with_reducible assumption) | omega | decide +kernel | ((simp only [List.length_cons, List.length_nil, List.length_map, List.length_append]); omega) | ((simp only [List.length_cons, List.length_nil, List.length_map, List.length_append]); (first | (all_goals fail) | fail)))) ?_) | ((with_reducible show if (!decide _) = true then _ else _); first | refine ite_ndf (by (first | (with_reducible assumption) | omega | decide +kernel | ((simp only [List.length_cons, List.length_nil, List.length_map, List.length_append]); omega) | ((simp only [List.length_cons, List.length_nil, List.length_map, List.length_append]); (first | (all_goals fail) | fail)))) ?_ | refine ite_ndt (by (first | (with_reducible assumption) | omega | decide +kernel | ((simp only [List.length_cons, List.length_nil, List.length_map, List.length_append]); omega) | ((simp only [List.length_cons, List.length_nil, List.length_map, List.length_append]); (first | (all_goals fail) | fail)))) ?_) | (with_reducible refine ite_nn ?_) | ((with_reducible show if PyData.eqv _ _ = true then _ else _); first | refine ite_t (by decide +kernel) ?_ | refine ite_f (by decide +kernel) ?_ | refine ite_t rfl ?_ | refine ite_f rfl ?_) | ((with_reducible show if (!PyData.eqv _ _) = true then _ else _); first | refine ite_t (by decide +kernel) ?_ | refine ite_f (by decide +kernel) ?_ | refine ite_t rfl ?_ | refine ite_f rfl ?_) | ((with_reducible show if wholeD (.int _) = true then _ else _); refine ite_t rfl ?_) | ((with_reducible show if (!wholeD (.int _)) = true then _ else _); refine ite_f rfl ?_) | ((with_reducible show if isD _ _ = true then _ else _); first | refine ite_t rfl ?_ | refine ite_f rfl ?_) | ((with_reducible show if (!isD _ _) = true then _ else _); first | refine ite_t rfl ?_ | refine ite_f rfl ?_))) | ((with_reducible show Exists _); (first | (with_reducible refine me_tab (by ((repeat with_reducible first | exact Pick.zero | apply Pick.succ); (first | (all_goals fail) | fail))) (by decide +kernel) ?_) | ((with_reducible show ∃ i ρ', SetS _ _ _ i _ ρ' ∧ _); refine ⟨_, _, by ((repeat with_reducible first | exact SetS.zero | apply SetS.succ); (first | (all_goals fail) | fail)), ?_⟩) | (with_reducible refine ex_list rfl ?_) | ((with_reducible show ∃ ds, Sl.asSeq _ = some ds ∧ _); refine ex_seq rfl ?_) | ((with_reducible show ∃ ds, Datas _ ds ∧ _); refine ex_datas (by ((repeat with_reducible first | exact datas_nil | apply datas_cons); (first | (all_goals fail) | fail))) (by first | exact Nat.le_of_ble_eq_true rfl | (first | (with_reducible assumption) | decide | ((try simp only [List.length_cons, List.length_nil, List.length_append, List.length_map, List.length_replicate]); omega) | (refine Nat.le_trans (cutL_len _ _ _) ?_; (try simp only [List.length_cons, List.length_nil, List.length_append, List.length_map, List.length_replicate]); omega) | (refine Nat.le_trans (Nat.add_le_add_left (cutL_len _ _ _) _) ?_; (try simp only [List.length_cons, List.length_nil, List.length_append, List.length_map, List.length_replicate]); omega) | (refine Nat.le_trans (Nat.add_le_add_right (cutL_len _ _ _) _) ?_; (try simp only [List.length_cons, List.length_nil, List.length_append, List.length_map, List.length_replicate]); omega))) ?_) | ((with_reducible show ∃ C p fs g sl, _ = Sl.r (.ref p) ∧ Pick _ (insM C p fs) g ∧ FldC _ C _ ∧ FldAt fs _ sl ∧ _); refine ex_fld (by ((repeat with_reducible first | exact Pick.zero | apply Pick.succ); (first | (all_goals fail) | fail))) (fldc (by with_reducible assumption) (by decide +kernel)) (by ((repeat with_reducible first | exact FldAt.zero | apply FldAt.succ); (first | (all_goals fail) | fail))) (by (simp only [List.map_cons, List.map_nil]); decide +kernel) (by exact fun _ z => nomatch z) ?_) | ((with_reducible show ∃ C p fs g fs2, _ = Sl.r (.ref p) ∧ Pick _ (insM C p fs) g ∧ FldC _ C _ ∧ (FldSet fs _ _ fs2 ∨ _) ∧ _); first | refine ex_fset (by ((repeat with_reducible first | exact Pick.zero | apply Pick.succ); (first | (all_goals fail) | fail))) (fldc (by with_reducible assumption) (by decide +kernel)) (by ((repeat with_reducible first | exact FldSet.zero | apply FldSet.succ); (first | (all_goals fail) | fail))) (by (simp only [List.map_cons, List.map_nil]); decide +kernel) (by exact Nat.le_of_ble_eq_true rfl) ?_ | refine ex_fnew (by ((repeat with_reducible first | exact Pick.zero | apply Pick.succ); (first | (all_goals fail) | fail))) (fldc (by with_reducible assumption) (by decide +kernel)) (by (simp only [List.map_cons, List.map_nil]); decide +kernel) (by (simp only [List.map_cons, List.map_nil]); decide +kernel) (by exact Nat.le_of_ble_eq_true rfl) ?_) | ((with_reducible show ∃ p ss f k j, _ = Sl.r (.ref p) ∧ _ = Sl.d (.int k) ∧ _); refine ex_seti (by ((repeat with_reducible first | exact Pick.zero | apply Pick.succ); (first | (all_goals fail) | fail))) (by first | with_reducible assumption | rfl) ?_) | (with_reducible refine ex_frz (by ((repeat with_reducible first | exact Pick.zero | apply Pick.succ); (first | (all_goals fail) | fail))) ?_) | (with_reducible refine ex_own (by ((repeat with_reducible first | exact Pick.zero | apply Pick.succ); (first | (all_goals fail) | fail))) ?_) | (with_reducible refine ex_app (by ((repeat with_reducible first | exact Pick.zero | apply Pick.succ); (first | (all_goals fail) | fail))) (by (first | (with_reducible assumption) | decide | ((try simp only [List.length_cons, List.length_nil, List.length_append, List.length_map, List.length_replicate]); omega) | (refine Nat.le_trans (cutL_len _ _ _) ?_; (try simp only [List.length_cons, List.length_nil, List.length_append, List.length_map, List.length_replicate]); omega) | (refine Nat.le_trans (Nat.add_le_add_left (cutL_len _ _ _) _) ?_; (try simp only [List.length_cons, List.length_nil, List.length_append, List.length_map, List.length_replicate]); omega) | (refine Nat.le_trans (Nat.add_le_add_right (cutL_len _ _ _) _) ?_; (try simp only [List.length_cons, List.length_nil, List.length_append, List.length_map, List.length_replicate]); omega))) ?_) | ((with_reducible show ∃ ys, RefsE _ _ ys ∧ _); (first | refine ex_refs (w := false) (by ((repeat with_reducible first | exact RefsE.nil | apply RefsE.cons); (first | (all_goals fail) | fail))) (by decide +kernel) ?_ | refine ex_refs (w := true) (by ((repeat with_reducible first | exact RefsE.nil | apply RefsE.cons); (first | (all_goals fail) | fail))) (by decide +kernel) ?_)) | ((with_reducible show ∃ rs', Ent [_] (rs' ++ [_]) ∧ _); (refine end_ex ?_; with_reducible assumption)) | ((with_reducible show ∃ ρ', SetS _ _ _ _ _ ρ' ∧ _); refine ⟨_, by ((repeat with_reducible first | exact SetS.zero | apply SetS.succ); (first | (all_goals fail) | fail)), ?_⟩) | (with_reducible refine ex_rep (by ((repeat with_reducible first | exact Pick.zero | apply Pick.succ); (first | (all_goals fail) | fail))) (by (first | omega | decide | (simp; omega))) ?_) | (with_reducible refine ex_dat ?_) | (with_reducible refine ex_int ?_) | (with_reducible refine ex_str ?_) | (with_reducible refine ex_dic (by ((repeat with_reducible first | exact Pick.zero | apply Pick.succ); (first | (all_goals fail) | fail))) ?_) | (with_reducible refine ex_din1 (by ((repeat with_reducible first | exact Pick.zero | apply Pick.succ); (first | (all_goals fail) | fail))) ?_) | (with_reducible refine ex_din2 (by ((repeat with_reducible first | exact Pick.zero | apply Pick.succ); (first | (all_goals fail) | fail))) ?_) | (with_reducible refine ex_dlen (by ((repeat with_reducible first | exact Pick.zero | apply Pick.succ); (first | (all_goals fail) | fail))) ?_) | ((with_reducible show ∃ p kvs f k, _ = Sl.r (.ref p) ∧ _ = Sl.d (keyD k) ∧ Pick _ (dictM p kvs) f ∧ kvs.length ≤ _ ∧ _); first | refine ex_dputI (by ((repeat with_reducible first | exact Pick.zero | apply Pick.succ); (first | (all_goals fail) | fail))) (by (first | (with_reducible assumption) | decide | ((try simp only [List.length_cons, List.length_nil, List.length_append, List.length_map, List.length_replicate]); omega) | (refine Nat.le_trans (cutL_len _ _ _) ?_; (try simp only [List.length_cons, List.length_nil, List.length_append, List.length_map, List.length_replicate]); omega) | (refine Nat.le_trans (Nat.add_le_add_left (cutL_len _ _ _) _) ?_; (try simp only [List.length_cons, List.length_nil, List.length_append, List.length_map, List.length_replicate]); omega) | (refine Nat.le_trans (Nat.add_le_add_right (cutL_len _ _ _) _) ?_; (try simp only [List.length_cons, List.length_nil, List.length_append, List.length_map, List.length_replicate]); omega))) ?_ | refine ex_dputS (by ((repeat with_reducible first | exact Pick.zero | apply Pick.succ); (first | (all_goals fail) | fail))) (by (first | (with_reducible assumption) | decide | ((try simp only [List.length_cons, List.length_nil, List.length_append, List.length_map, List.length_replicate]); omega) | (refine Nat.le_trans (cutL_len _ _ _) ?_; (try simp only [List.length_cons, List.length_nil, List.length_append, List.length_map, List.length_replicate]); omega) | (refine Nat.le_trans (Nat.add_le_add_left (cutL_len _ _ _) _) ?_; (try simp only [List.length_cons, List.length_nil, List.length_append, List.length_map, List.length_replicate]); omega) | (refine Nat.le_trans (Nat.add_le_add_right (cutL_len _ _ _) _) ?_; (try simp only [List.length_cons, List.length_nil, List.length_append, List.length_map, List.length_replicate]); omega))) ?_) | ((with_reducible show ∃ p kvs f k, _ = Sl.r (.ref p) ∧ _ = Sl.d (keyD k) ∧ Pick _ (dictM p kvs) f ∧ _); first | refine ex_din1 (by ((repeat with_reducible first | exact Pick.zero | apply Pick.succ); (first | (all_goals fail) | fail))) ?_ | refine ex_din2 (by ((repeat with_reducible first | exact Pick.zero | apply Pick.succ); (first | (all_goals fail) | fail))) ?_) | ((with_reducible show ∃ kvs f k s, _ = Sl.d (keyD k) ∧ Pick _ (dictM _ kvs) f ∧ valS kvs k = some s ∧ _); first | refine ex_dpopI (by ((repeat with_reducible first | exact Pick.zero | apply Pick.succ); (first | (all_goals fail) | fail))) (by with_reducible assumption) (by exact fun _ z => nomatch z) ?_ | refine ex_dpopS (by ((repeat with_reducible first | exact Pick.zero | apply Pick.succ); (first | (all_goals fail) | fail))) (by with_reducible assumption) (by exact fun _ z => nomatch z) ?_) | ((with_reducible show ∃ p kvs f k s, _ = Sl.r (.ref p) ∧ _ = Sl.d (keyD k) ∧ Pick _ (dictM p kvs) f ∧ _); first | refine ex_dget (by ((repeat with_reducible first | exact Pick.zero | apply Pick.succ); (first | (all_goals fail) | fail))) (by with_reducible assumption) (by exact fun _ z => nomatch z) ?_ | refine ex_dgetS (by ((repeat with_reducible first | exact Pick.zero | apply Pick.succ); (first | (all_goals fail) | fail))) (by with_reducible assumption) (by exact fun _ z => nomatch z) ?_))) | (first | (with_reducible refine kt ?_) | ((with_reducible show ∀ _ : Addr, _); intro q) | ((with_reducible show Le _ _ ∧ _ = _); exact ⟨by ((repeat with_reducible first | exact Le.nil | apply Le.eq | apply Le.un); (first | (all_goals fail) | fail)), rfl⟩) | ((with_reducible show CallEnd _ _ _ _ _ _); (first | ((with_reducible refine ce_tab (by ((repeat with_reducible first | exact Pick.zero | apply Pick.succ); (first | (all_goals fail) | fail))) ?_); (first | refine ⟨_, rfl, rfl, by (first | (with_reducible trivial) | (with_reducible assumption) | omega | (exact ⟨by with_reducible assumption, by with_reducible assumption⟩)), ?_⟩ | refine ⟨_, _, rfl, rfl, by (first | (with_reducible trivial) | (with_reducible assumption) | omega | (exact ⟨by with_reducible assumption, by with_reducible assumption⟩)), ?_⟩ | refine ⟨_, _, _, rfl, rfl, by (first | (with_reducible trivial) | (with_reducible assumption) | omega | (exact ⟨by with_reducible assumption, by with_reducible assumption⟩)), ?_⟩ | refine ⟨_, _, _, _, rfl, rfl, by (first | (with_reducible trivial) | (with_reducible assumption) | omega | (exact ⟨by with_reducible assumption, by with_reducible assumption⟩)), ?_⟩ | refine ⟨_, _, _, _, _, rfl, rfl, by (first | (with_reducible trivial) | (with_reducible assumption) | omega | (exact ⟨by with_reducible assumption, by with_reducible assumption⟩)), ?_⟩ | refine ⟨_, _, _, _, _, _, rfl, rfl, by (first | (with_reducible trivial) | (with_reducible assumption) | omega | (exact ⟨by with_reducible assumption, by with_reducible assumption⟩)), ?_⟩ | refine ⟨_, _, _, _, _, _, _, rfl, rfl, by (first | (with_reducible trivial) | (with_reducible assumption) | omega | (exact ⟨by with_reducible assumption, by with_reducible assumption⟩)), ?_⟩ | refine ⟨_, _, _, _, _, _, _, _, rfl, rfl, by (first | (with_reducible trivial) | (with_reducible assumption) | omega | (exact ⟨by with_reducible assumption, by with_reducible assumption⟩)), ?_⟩)) | (refine ce_inl ?_; first | refine ⟨_, rfl, rfl, by (first | (with_reducible trivial) | (with_reducible assumption) | omega | (exact ⟨by with_reducible assumption, by with_reducible assumption⟩)), ?_⟩ | refine ⟨_, _, rfl, rfl, by (first | (with_reducible trivial) | (with_reducible assumption) | omega | (exact ⟨by with_reducible assumption, by with_reducible assumption⟩)), ?_⟩ | refine ⟨_, _, _, rfl, rfl, by (first | (with_reducible trivial) | (with_reducible assumption) | omega | (exact ⟨by with_reducible assumption, by with_reducible assumption⟩)), ?_⟩ | refine ⟨_, _, _, _, rfl, rfl, by (first | (with_reducible trivial) | (with_reducible assumption) | omega | (exact ⟨by with_reducible assumption, by with_reducible assumption⟩)), ?_⟩ | refine ⟨_, _, _, _, _, rfl, rfl, by (first | (with_reducible trivial) | (with_reducible assumption) | omega | (exact ⟨by with_reducible assumption, by with_reducible assumption⟩)), ?_⟩ | refine ⟨_, _, _, _, _, _, rfl, rfl, by (first | (with_reducible trivial) | (with_reducible assumption) | omega | (exact ⟨by with_reducible assumption, by with_reducible assumption⟩)), ?_⟩))) | ((with_reducible show CallEnd0 _ _ _ _); (first | ((with_reducible refine ce0_tab (by ((repeat with_reducible first | exact Pick.zero | apply Pick.succ); (first | (all_goals fail) | fail))) ?_); (first | refine ⟨_, rfl, rfl, by (first | (with_reducible trivial) | (with_reducible assumption) | omega | (exact ⟨by with_reducible assumption, by with_reducible assumption⟩)), ?_⟩ | refine ⟨_, _, rfl, rfl, by (first | (with_reducible trivial) | (with_reducible assumption) | omega | (exact ⟨by with_reducible assumption, by with_reducible assumption⟩)), ?_⟩ | refine ⟨_, _, _, rfl, rfl, by (first | (with_reducible trivial) | (with_reducible assumption) | omega | (exact ⟨by with_reducible assumption, by with_reducible assumption⟩)), ?_⟩ | refine ⟨_, _, _, _, rfl, rfl, by (first | (with_reducible trivial) | (with_reducible assumption) | omega | (exact ⟨by with_reducible assumption, by with_reducible assumption⟩)), ?_⟩ | refine ⟨_, _, _, _, _, rfl, rfl, by (first | (with_reducible trivial) | (with_reducible assumption) | omega | (exact ⟨by with_reducible assumption, by with_reducible assumption⟩)), ?_⟩ | refine ⟨_, _, _, _, _, _, rfl, rfl, by (first | (with_reducible trivial) | (with_reducible assumption) | omega | (exact ⟨by with_reducible assumption, by with_reducible assumption⟩)), ?_⟩ | refine ⟨_, _, _, _, _, _, _, rfl, rfl, by (first | (with_reducible trivial) | (with_reducible assumption) | omega | (exact ⟨by with_reducible assumption, by with_reducible assumption⟩)), ?_⟩ | refine ⟨_, _, _, _, _, _, _, _, rfl, rfl, by (first | (with_reducible trivial) | (with_reducible assumption) | omega | (exact ⟨by with_reducible assumption, by with_reducible assumption⟩)), ?_⟩)))) | ((with_reducible show (bodyPost _ _).rt _ _); (first | (refine end_rt ?_; with_reducible assumption) | refine end_rtT (decide_eq_true (by omega)) (by with_reducible assumption) | refine end_rtT rfl (by with_reducible assumption))) | ((with_reducible show TrD (.d (.bool _)) _ _); refine tr_bool ?_) | ((with_reducible show TrD (.d .none) _ _); refine tr_none ?_) | ((with_reducible show TrD (.d (.int _)) _ _); refine tr_int ?_) | ((with_reducible show TrD (.d (.list _)) _ _); refine tr_list ?_) | ((with_reducible show TrD (.d (.tuple _)) _ _); refine tr_tuple ?_) | ((with_reducible show TrD (.r (.ref _)) _ _); (first | refine tr_own (by ((repeat with_reducible first | exact Pick.zero | apply Pick.succ); (first | (all_goals fail) | fail))) ?_ | refine tr_dict (by ((repeat with_reducible first | exact Pick.zero | apply Pick.succ); (first | (all_goals fail) | fail))) ?_)) | ((with_reducible show CaD (rIsi _) _ _ _); (first | refine cd_isiT (by decide) rfl rfl ?_ | refine cd_isiF (by decide) rfl rfl ?_ | refine cd_isi (by decide) rfl ?_)) | ((with_reducible show CaD _ [.d (.int _), .d (.int _)] _ _); (first | refine cd_min ?_ | refine cd_max ?_)) | ((with_reducible show LenD (.d (.str _)) _ _); refine ld_str (by (first | (with_reducible assumption) | decide | ((try simp only [List.length_cons, List.length_nil, List.length_append, List.length_map, List.length_replicate]); omega) | (refine Nat.le_trans (cutL_len _ _ _) ?_; (try simp only [List.length_cons, List.length_nil, List.length_append, List.length_map, List.length_replicate]); omega) | (refine Nat.le_trans (Nat.add_le_add_left (cutL_len _ _ _) _) ?_; (try simp only [List.length_cons, List.length_nil, List.length_append, List.length_map, List.length_replicate]); omega) | (refine Nat.le_trans (Nat.add_le_add_right (cutL_len _ _ _) _) ?_; (try simp only [List.length_cons, List.length_nil, List.length_append, List.length_map, List.length_replicate]); omega))) ?_) | ((with_reducible show LenD (.r (.ref _)) _ _); refine ld_own (by ((repeat with_reducible first | exact Pick.zero | apply Pick.succ); (first | (all_goals fail) | fail))) ?_) | ((with_reducible show LenD _ _ _); refine ld_seq rfl ?_) | ((with_reducible show SlD _ (.d (.list _)) _ _ _ _); refine sd_list ?_) | ((with_reducible show SlD _ (.n _) _ _ _ _); refine sd_list ?_) | ((with_reducible show SlD _ (.r (.ref _)) _ _ _ _); refine sd_own (by ((repeat with_reducible first | exact Pick.zero | apply Pick.succ); (first | (all_goals fail) | fail))) (fun q => ?_)) | ((with_reducible show SlD _ (.d (.str _)) _ _ _ _); refine sd_str (by (first | (with_reducible assumption) | decide | ((try simp only [List.length_cons, List.length_nil, List.length_append, List.length_map, List.length_replicate]); omega) | (refine Nat.le_trans (cutL_len _ _ _) ?_; (try simp only [List.length_cons, List.length_nil, List.length_append, List.length_map, List.length_replicate]); omega) | (refine Nat.le_trans (Nat.add_le_add_left (cutL_len _ _ _) _) ?_; (try simp only [List.length_cons, List.length_nil, List.length_append, List.length_map, List.length_replicate]); omega) | (refine Nat.le_trans (Nat.add_le_add_right (cutL_len _ _ _) _) ?_; (try simp only [List.length_cons, List.length_nil, List.length_append, List.length_map, List.length_replicate]); omega))) ?_) | ((with_reducible show SlD _ (.d (.tuple [_, _, _, _])) none (some 2) _ _); refine sd_t42 ?_) | ((with_reducible show SlD _ (.d (.tuple [_, _, _, _, _, _])) (some 2) (some 5) _ _); refine sd_t625 ?_) | ((with_reducible show SlD _ (.d (.tuple [_, _, _, _])) (some 2) none _ _); refine sd_t4f2 ?_) | ((with_reducible show SlD _ (.d (.tuple _)) _ _ _ _); refine sd_tup (by first | decide | ((simp only [List.length_cons, List.length_nil]); decide +kernel)) ?_) | ((with_reducible show DO _ none _ _ _); refine do_none ?_) | ((with_reducible show DO _ (some _) _ _ _); refine do_some ?_) | (with_reducible refine ex_eqr ?_) | ((with_reducible show LsD _ _ _); first | refine ls_s (by (first | (with_reducible assumption) | decide | ((try simp only [List.length_cons, List.length_nil, List.length_append, List.length_map, List.length_replicate]); omega) | (refine Nat.le_trans (cutL_len _ _ _) ?_; (try simp only [List.length_cons, List.length_nil, List.length_append, List.length_map, List.length_replicate]); omega) | (refine Nat.le_trans (Nat.add_le_add_left (cutL_len _ _ _) _) ?_; (try simp only [List.length_cons, List.length_nil, List.length_append, List.length_map, List.length_replicate]); omega) | (refine Nat.le_trans (Nat.add_le_add_right (cutL_len _ _ _) _) ?_; (try simp only [List.length_cons, List.length_nil, List.length_append, List.length_map, List.length_replicate]); omega))) ?_ | refine ls_d rfl ?_) | ((with_reducible show LiD _ _ _); first | refine li_o (by ((repeat with_reducible first | exact Pick.zero | apply Pick.succ); (first | (all_goals fail) | fail))) (fun q => ?_) | refine li_d rfl (fun q => ?_)) | ((with_reducible show _ < 1920 ∧ _); refine ⟨log2_ok (by (first | omega | decide | (simp; omega))), ?_⟩) | ((with_reducible show CaD (rIsE _ _ _) [_, .r (.ty _)] _ _); refine cd_isEV (by with_reducible assumption) (by decide +kernel) ?_) | ((with_reducible show CaD (rIsE _ _ _) _ _ _); (first | refine cd_isE1 (r := true) (by with_reducible assumption) (by decide +kernel) (by decide +kernel) (by decide +kernel) ?_ | refine cd_isE1 (r := false) (by with_reducible assumption) (by decide +kernel) (by decide +kernel) (by decide +kernel) ?_)))) | dsimp only [List.nil_append, List.cons_append, Sl.plain] | refine ite_d (fun h => ?_) (fun h => ?_) | refine ite_nd (fun h => ?_) (fun h => ?_) | refine ite_b (fun h => ?_) (fun h => ?_) | refine od_ixI rfl ⟨by omega, by (simp only [List.length_cons, List.length_nil]; omega)⟩ rfl (fun i => ?_) | refine od_ixA rfl ⟨by omega, by (simp only [List.length_cons, List.length_nil]; omega)⟩ (fun d hd => ?_) | intro z)))
local macro_rules | `(tactic| walk_at "nrm") => `(tactic| (dsimp only [List.replicate, List.cons_append, List.nil_append, List.append_nil]))
local macro_rules | `(tactic| walk_at "st") => `(tactic| ((try dsimp only [List.replicate, List.cons_append, List.nil_append, List.append_nil]); refine dss_cons ?_))
local macro_rules | `(tactic| walk_at "end") => `(tactic| (first | (with_reducible exact ⟨[], rfl, by assumption⟩) | exact ⟨[], rfl, by assumption⟩))
local macro_rules | `(tactic| walk_at "all") => `(tactic| (walk_at "st"; walk_at "go"; walk_at "end"))

section
variable [KC] {m : Mo} {C : Addr}
def hD (l : List PyData) : PyData := .tuple [.list l, .list l]
abbrev heM (q : Addr) (hs : List (List PyData)) : Mem := lstM q ((hs.map hD).map .d)
theorem no_leaves {T : Tb} (h : TOk T) (hn : TNe T) (e : ∀ n : Nat, n < 256 → tget T n = .none) : leavesD T = [] := by
  unfold leavesD
  rw [List.filter_eq_nil_iff.mpr, List.map_nil]
  intro u hu hb
  have hu := List.mem_range.mp hu
  rcases leaf_at h hu with ⟨_, hb2⟩ | ⟨es, hT, _, _, hel, _⟩
  · rw [hb] at hb2; cases hb2
  · obtain ⟨d, hd, hdn⟩ := hn _ _ hT
    obtain ⟨j, hj⟩ := List.mem_iff_getElem?.mp hd
    have hjl : j < 16 := by have := (List.getElem?_eq_some_iff.mp hj).choose; omega
    have := e (16 * u + j) (by omega)
    rw [tget_es hT hjl, List.getD_eq_getElem?_getD, hj] at this
    exact hdn this
end
section
variable [KC] {m : Mo} {C : Addr}
theorem law_tail {fr : Mem} {res : Sl → List Mem → Prop} {exc : Addr → List Mem → Prop} {c : PW.Ctx m n_law c_law 2 (fun D x rs => ∃ rs', Ent rs (rs' ++ [fr]) ∧ exc D rs') true true} (oc : ObjC m C ["uppers"]) (ht2 : MtIs m C "strike" 2 (K_Table_strike C)) (ht3 : MtIs m C "leaves" 1 (K_Table_leaves2 C)) (ht4 : MtIs m C "leaves" 1 (K_Table_leaves C))
    (h1 : FnIs m "_law_due_of" 1 K_Ldue_of) (h2 : FnIs m "_law_is_due" 2 K_Lis_due) {ns zs : List Int} {p w h : Addr} {T : Tb} {kv : DKv} {hs : List (List PyData)} (hag : Agr T kv) (hne : TNe T) (hkl : kv.length ≤ 60) (hsh : ∀ l ∈ hs, SeqAt.shaped (.list l) = true) (hr : res (.d (.bool true)) []) :
    DSs c ((defBody s_law).drop 5) [.d (.list (ns.map .int)), .r (.ref p), .r (.ref w), .r (.ref h), .d (.list (zs.map .int)), .un, .un, .un, .un, .un] [tabM C p T, dictM w kv, heM h hs, fr] (bodyPost fr res) := by
  have ht := hag.ok
  have hc : Agr T kv ∧ TNe T := ⟨hag, hne⟩
  obtain ⟨ks, hk1, hk2, hk3⟩ := hag.keys
  have hkl2 : ks.length = kv.length := by
    have := congrArg List.length hk1
    rw [List.length_map, List.length_map] at this
    exact this.symm
  refine dss_cons (ds_set (dx_meth0 ht3 oc ?_))
  walk_at "go"
  rename_i D
  refine ce_gr (rin := [dictM w kv]) (grab1 (by walk_at "pick")) ⟨w, T, kv, rfl, rfl, hc, ?_⟩
  dsimp only [List.nil_append, List.cons_append]
  walk_at "go"
  have hfz : FzR (colM D (fun u => leafM u (leafL T u)) ((List.range 16).filter (leafB T))) (.ref D) (.list (leavesD T)) := fzr_col (d := leafD T) fun u q => fzr_leaf u (leafL T u) q
  refine ce_lendP [(colM D (fun u => leafM u (leafL T u)) ((List.range 16).filter (leafB T)), D, .list (leavesD T))] (fun x hx => by rw [List.mem_singleton.mp hx]; exact hfz) (grab1 (by walk_at "pick")) (.lend (List.mem_singleton.mpr rfl) (.eq .nil)) ⟨T, rfl, rfl, ht, rfl, rfl, ?_⟩
  dsimp only [List.map_cons, List.map_nil, List.nil_append, List.cons_append]
  refine tr_bool (ite_nt (dss_nil ?_))
  refine dss_ent (rs2 := colM D (fun u => leafM u (leafL T u)) ((List.range 16).filter (leafB T)) :: [dictM w kv, tabM C p T, heM h hs, fr]) (ent_of_eq rfl) ?_
  refine dss_cut (I := fun ρ' r' => Le ρ' [.d (.list (ns.map .int)), .r (.ref p), .r (.ref w), .r (.ref h), .d (.list (zs.map .int)), .un, .un, .un, .un, .un] ∧ Ent r' [tabM C p T, dictM w kv, heM h hs, fr]) ?_ ?_
  · refine ds_ent (rs2 := colM D (fun u => leafM u (leafL T u)) ((List.range 16).filter (leafB T)) :: [tabM C p T, dictM w kv, heM h hs, fr]) (ent_has (by walk_at "grab")) ?_
    refine ds_if ?_
    refine dt_open (fam := colF D (fun u => leafM u (leafL T u)) ((List.range 16).filter (leafB T))) [] fun l => ?_
    obtain ⟨l, hl⟩ := l
    dsimp only [colF, List.nil_append, List.cons_append]
    cases l with
    | nil =>
      walk_at "go"
      refine ite_f rfl ?_
      walk_at "go"
      exact ⟨by walk_at "le", ent_has (by walk_at "grab")⟩
    | cons x0 l' =>
      have hx0 : x0.1 ∈ (List.range 16).filter (leafB T) := by rw [← hl]; exact List.mem_cons_self
      obtain ⟨hu, hb⟩ := List.mem_filter.mp hx0
      have hlen : (leafL T x0.1).length = 16 := by
        rcases leaf_at ht (List.mem_range.mp hu) with ⟨_, hb2⟩ | ⟨es, _, _, hL, hel, _⟩
        · rw [hb] at hb2; cases hb2
        · rw [hL]; exact hel
      have hix : ixN ((leafL T x0.1).map Sl.d).length 0 = some (0 : Int).toNat := ixN_in (by rw [List.length_map]; omega)
      have hat : atI ((x0 :: l').map fun x : Nat × Addr => Sl.r (.ref x.2)) 0 = some (.r (.ref x0.2)) := by
        obtain ⟨v, g1, g2⟩ := atI_in (xs := x0 :: l') (i := 0) ⟨by decide, by rw [List.length_cons]; omega⟩
        have ev : x0 = v := by simpa using g2
        rw [atI_map, g1, ev]; rfl
      refine dt_ent0 (SE.cons (se_out (f := fun x : Nat × Addr => leafM x.1 (leafL T x.1) x.2) (i := 0) (x := x0) rfl)).ent ?_
      refine dt_open (fam := fun l : Addr => [tupM x0.2 [.d (.int (x0.1 : Nat)), .r (.ref l)], lstM l ((leafL T x0.1).map .d)]) [lstM D ((x0 :: l').map fun x => .r (.ref x.2))] fun l0 => ?_
      dsimp only [List.nil_append, List.cons_append]
      walk_at "go"
      refine ite_t rfl ?_
      walk_at "go"
      refine ds_seti ?_
      walk_at "go"
      refine od_ixt2 (by walk_at "pick") rfl (by exact fun _ z => nomatch z) ?_
      walk_at "go"
      obtain ⟨l2, y, e2⟩ : ∃ l2 y, x0 :: l' = l2 ++ [y] := ⟨_, _, (List.dropLast_concat_getLast (List.cons_ne_nil x0 l')).symm⟩
      rw [e2, List.map_append, List.map_cons, List.map_nil]
      refine ⟨D, l2.map fun x => .r (.ref x.2), .r (.ref y.2), _, rfl, by walk_at "pick", (by exact fun _ z => nomatch z), ?_⟩
      walk_at "go"
      exact ⟨by walk_at "le", ent_has (by walk_at "grab")⟩
  rintro ρ' r' ⟨hle, hent⟩
  refine dss_le hle (dss_ent hent ?_)
  walk_at "go"
  refine ce_gr (rin := [dictM w kv]) (grab1 (by walk_at "pick")) ⟨w, T, kv, rfl, rfl, hc, ?_⟩
  dsimp only [List.nil_append, List.cons_append]
  walk_at "go"
  refine ds_for (by walk_at "ix") (di_own ?_)
  walk_at "go"
  refine ⟨List PyData, hs, fun l => .d (hD l), by rw [List.map_map]; rfl, ?_⟩
  refine ⟨Unit, fun _ => [.d (.list (ns.map .int)), .r (.ref p), .r (.ref w), .r (.ref h), .d (.list (zs.map .int)), .un, .un, .un, .un, .un], fun _ => [dictM w kv, tabM C p T, heM h hs, fr], fun _ _ => True, ⟨(), trivial, by walk_at "le0", rfl⟩, fun _ _ _ => ⟨_, by walk_at "pick"⟩, ?_, ?_⟩
  · rintro pre l post _ e _
    have hsl : SeqAt.shaped (.list l) = true := hsh l (by rw [e]; simp)
    refine ⟨_, by walk_at "set", ?_⟩
    unfold hD
    walk_at "go"
    exact ⟨(), trivial, by walk_at "le", rfl⟩
  · rintro _ _
    show DSs _ _ _ _ _
    refine dss_cons (ds_for (by walk_at "ix") (di_list ?_))
    walk_at "go"
    refine ⟨w, kv, _, ks, rfl, by walk_at "pick", hk1, by omega, fun ys hp hq => ?_⟩
    rw [hag.sorted hk1 hp hq]
    refine ⟨_, rfl, Int, tpg T 256, fun n => .d (.int n), by rw [List.map_map]; rfl, Tb, fun _ => [.d (.list (ns.map .int)), .r (.ref p), .r (.ref w), .r (.ref h), .d (.list (zs.map .int)), .un, .un, .un, .un, .un], fun S => [dictM w kv, tabM C p S, heM h hs, fr], fun pre S => TOk S ∧ TNe S ∧ ∀ n : Nat, n < 256 → tget S n = if (n : Int) ∈ pre then .none else tget T n,
      ⟨T, ⟨ht, hne, fun n _ => by simp⟩, by walk_at "le0", rfl⟩, fun _ _ _ => trivial, ?_, ?_⟩
    · rintro pre k post S e ⟨hS, hSn, hSg⟩
      obtain ⟨hkb, _⟩ := hag.at_pg (show k ∈ tpg T 256 by rw [e]; simp)
      have hck : TOk S ∧ 0 ≤ k ∧ k < 256 := ⟨hS, hkb⟩
      refine ⟨_, by walk_at "set", dss_post ?_⟩
      walk_at "go"
      refine ⟨[dictM w kv, tabM C p (tstr S k), heM h hs, fr], ent_has (by walk_at "grab"), tstr S k, ⟨tstr_ok hS hkb, tne_str hS hSn hkb, fun n hn => ?_⟩, by walk_at "le", rfl⟩
      rw [tget_str hS hkb (by omega), hSg n hn]
      by_cases en : (n : Int) = k
      · rw [if_pos en, if_pos (by rw [en]; simp)]
      · rw [if_neg en]
        by_cases em : (n : Int) ∈ pre
        · rw [if_pos em, if_pos (List.mem_append_left _ em)]
        · rw [if_neg em, if_neg fun z => by
            rcases List.mem_append.mp z with z | z
            · exact em z
            · exact en (List.mem_singleton.mp z)]
    · rintro S ⟨hS, hSn, hSg⟩
      have e := no_leaves hS hSn fun n hn => by
        rw [hSg n hn]
        split
        · rfl
        · rename_i hno
          rw [tpg_mem] at hno
          have hh : hasT T n = false := by
            cases q : hasT T n with
            | false => rfl
            | true => exact absurd ⟨by omega, by omega, by rw [Int.toNat_natCast]; exact q⟩ hno
          unfold hasT at hh
          split at hh
          · assumption
          · cases hh
      walk_at "go"
      refine ce_inl ⟨S, by rw [e], rfl, hS, ?_⟩
      walk_at "go"
      exact fin [] (ent_has (by walk_at "grab")) hr
end
section
variable [KC] {m : Mo} {C : Addr}
theorem ok_law (hK : m.K = KC.K) (bl : Bl m.mg) {f fd} (F : Fun m.K "law" "law" s_law f fd) (oc : ObjC m C ["uppers"]) (hmk : MkIs m "Table" C 1 (K_Table___init__ C)) (ht1 : MtIs m C "lay" 2 (K_Table_lay C)) (ht2 : MtIs m C "strike" 2 (K_Table_strike C)) (ht3 : MtIs m C "leaves" 1 (K_Table_leaves2 C)) (ht4 : MtIs m C "leaves" 1 (K_Table_leaves C))
    (h1 : FnIs m "_law_due_of" 1 K_Ldue_of) (h2 : FnIs m "_law_is_due" 2 K_Lis_due) (h3 : FnIs m "_law_copied" 1 K_Lcopied) :
    FnOk m.P m.w m.K m.mg m.base (L2.CX m.P m.w) 3 f fd ["_law_script"] (spC lawC) := by
  refine fn_ok F f_law e_law bl hK (by rintro _ _ _ _ ⟨_, rfl, _⟩; rfl) 9 rfl ?_
  rintro ss rin fr res exc c hC
  obtain ⟨ns, rfl, rfl, hl, hr⟩ := hC
  walk_at "nrm"
  refine dss_cons (ds_set (dx_make0 hmk fun p => ⟨p, rfl, rfl, trivial, rfl, ⟨_, _, by walk_at "set", ?_⟩⟩))
  refine dss_cons (ds_set (dx_dnew fun w => ⟨_, _, by walk_at "set", ?_⟩))
  refine dss_cons (ds_set (dx_lstO (da_nil ⟨by decide, fun h => ⟨_, _, by walk_at "set", ?_⟩⟩)))
  dsimp only [List.nil_append, List.cons_append, Sl.plain]
  rw [show lstM h [] = heM h [] from rfl]
  refine dss_ent (rs2 := [tabM C p (List.replicate 16 none), dictM w [], heM h [], fr]) (ent_has (by walk_at "grab")) ?_
  walk_at "go"
  rw [cutL_map]
  generalize hzs : cutL ns none (some 60) = zs
  have hz : zs.length ≤ 60 := by rw [← hzs]; unfold cutL; rw [show (60 : Int) = ((60 : Nat) : Int) from rfl, HT.sIx_nat, List.length_take]; show min (min 60 ns.length - 0) _ ≤ 60; omega
  refine ds_for (by walk_at "ix") (di_range1 ?_)
  walk_at "go"
  refine ⟨_, rfl, by rw [List.length_map]; omega, Nat, List.range _, fun k => .d (.int (0 + (k : Nat))), rfl, Tb × DKv × List (List PyData), fun _ => [.d (.list (ns.map .int)), .r (.ref p), .r (.ref w), .r (.ref h), .d (.list (zs.map .int)), .un, .un, .un, .un, .un], fun z => [tabM C p z.1, dictM w z.2.1, heM h z.2.2, fr],
    fun pre z => Agr z.1 z.2.1 ∧ TNe z.1 ∧ z.2.1.length ≤ pre.length ∧ z.2.2.length ≤ pre.length ∧ ∀ l ∈ z.2.2, SeqAt.shaped (.list l) = true,
    ⟨(List.replicate 16 none, [], []), ⟨agr_new, tne_new, Nat.zero_le _, Nat.zero_le _, fun l hl => by cases hl⟩, by walk_at "le0", rfl⟩, fun _ _ _ => trivial, ?_, ?_⟩
  · rintro pre k post ⟨T, kv, hs⟩ e ⟨hag, hne, hkl, hhl, hsh⟩
    dsimp only at hag hne hkl hhl hsh ⊢
    obtain ⟨rfl, hk⟩ := range_split e
    rw [List.length_map, Int.toNat_natCast] at hk
    obtain ⟨z, hz1, hz2⟩ := atI_ints (xs := zs) (i := 0 + (pre.length : Int)) (by omega)
    obtain ⟨y, hy1, hy2⟩ := atI_ints (xs := zs) (i := 0) (by omega)
    refine ⟨_, by walk_at "set", dss_post ?_⟩
    refine dss_cut (I := fun ρ' r' => ∃ dr : Int, 0 ≤ dr ∧ ρ' = [.d (.list (ns.map .int)), .r (.ref p), .r (.ref w), .r (.ref h), .d (.list (zs.map .int)), .d (.int (0 + (pre.length : Int))), .d (.int dr), .un, .un, .un] ∧ r' = [tabM C p T, dictM w kv, heM h hs, fr]) ?_ ?_
    · walk_at "go"
      exact ⟨_, Int.emod_nonneg _ (by decide), rfl, rfl⟩
    rintro _ _ ⟨dr, hdr, rfl, rfl⟩
    refine dss_cut (I := fun ρ' r' => ∃ pg : Int, (0 ≤ pg ∧ pg < 256) ∧ ρ' = [.d (.list (ns.map .int)), .r (.ref p), .r (.ref w), .r (.ref h), .d (.list (zs.map .int)), .d (.int (0 + (pre.length : Int))), .d (.int dr), .d (.int pg), .un, .un] ∧ r' = [tabM C p T, dictM w kv, heM h hs, fr]) ?_ ?_
    · walk_at "go"
      exact ⟨_, by omega, rfl, rfl⟩
    rintro _ _ ⟨pg0, hpg0, rfl, rfl⟩
    refine dss_cut (I := fun ρ' r' => ∃ pg : Int, (0 ≤ pg ∧ pg < 256) ∧ ρ' = [.d (.list (ns.map .int)), .r (.ref p), .r (.ref w), .r (.ref h), .d (.list (zs.map .int)), .d (.int (0 + (pre.length : Int))), .d (.int dr), .d (.int pg), .un, .un] ∧ r' = [tabM C p T, dictM w kv, heM h hs, fr]) ?_ ?_
    · walk_at "go"
      refine ite_d (fun h => ?_) (fun h => ?_)
      · walk_at "go"
        exact ⟨_, by omega, rfl, rfl⟩
      · walk_at "go"
        exact ⟨_, hpg0, rfl, rfl⟩
    rintro _ _ ⟨pg, hpg, rfl, rfl⟩
    have hcp : TOk T ∧ 0 ≤ pg ∧ pg < 256 := ⟨hag.ok, hpg⟩
    obtain ⟨ks, hk1, hk2, hk3⟩ := hag.keys
    have hkl2 : ks.length = kv.length := by
      have := congrArg List.length hk1
      rw [List.length_map, List.length_map] at this
      exact this.symm
    refine dss_cut (I := fun ρ' r' => ∃ T2 kv2, Agr T2 kv2 ∧ TNe T2 ∧ kv2.length ≤ pre.length + 1 ∧ Le ρ' [.d (.list (ns.map .int)), .r (.ref p), .r (.ref w), .r (.ref h), .d (.list (zs.map .int)), .un, .d (.int dr), .un, .un, .un] ∧ Ent r' [tabM C p T2, dictM w kv2, heM h hs, fr]) ?_ ?_
    · walk_at "go"
      refine ite_d (fun h0 => ?a) (fun h0 => ?b)
      case' a =>
        walk_at "go"
        refine ite_b (fun h2 => ?a1) (fun h2 => ?a2)
        case a1 =>
          have hpos : 0 < kv.length := by
            cases hkv : kv with
            | nil => rw [hkv] at h2; cases h2
            | cons _ _ => exact Nat.succ_pos _
          walk_at "go"
          refine ⟨w, kv, _, ks, rfl, by walk_at "pick", hk1, by omega, fun ys hp hs => ?_⟩
          have hyl := hp.length_eq
          rw [hag.sorted hk1 hp hs] at hyl ⊢
          have hm1 := Int.emod_nonneg (dr / 9) (show (kv.length : Int) ≠ 0 by omega)
          have hm2 := Int.emod_lt_of_pos (dr / 9) (show 0 < (kv.length : Int) by omega)
          obtain ⟨v, hv1, hv2⟩ := atI_ints (xs := tpg T 256) (i := dr / 9 % (kv.length : Int)) ⟨hm1, by omega⟩
          obtain ⟨hvb, sv, hs1, hs2⟩ := hag.at_pg (List.mem_of_getElem? hv2)
          have hcv : TOk T ∧ 0 ≤ v ∧ v < 256 := ⟨hag.ok, hvb⟩
          walk_at "go"
          exact ⟨tstr T v, dropS kv (.inl v), hag.drop hvb, tne_str hag.ok hne hvb, Nat.le_trans (drop_len _ _) (by omega), by walk_at "le", ent_has (by walk_at "grab")⟩
      all_goals
        have hkv1 : kv.length ≤ 100000 := by omega
        walk_at "go"
        exact ⟨tput T pg (.int (1 + z % 1000000000000000000000000000000000000000000000000000000000000)), putS kv (.inl pg) (.d (.int (1 + z % 1000000000000000000000000000000000000000000000000000000000000))), hag.put hpg, tne_put hag.ok hne hpg, Nat.le_trans (put_len _ _ _) (by omega), by walk_at "le", ent_has (by walk_at "grab")⟩
    rintro ρ' r' ⟨T2, kv2, hag2, hne2, hkl3, hle, hent⟩
    refine dss_le hle (dss_ent hent ?_)
    have hc2 : Agr T2 kv2 ∧ TNe T2 := ⟨hag2, hne2⟩
    have hok2 := hag2.ok
    walk_at "go"
    refine ite_d (fun h5 => ?_) (fun h5 => ?_)
    · have hhl3 : ((hs.map hD).map Sl.d).length < 100000 := by rw [List.length_map, List.length_map]; omega
      walk_at "go"
      refine ce_gr (rin := [dictM w kv2]) (grab1 (by walk_at "pick")) ⟨w, T2, kv2, rfl, rfl, hc2, ?_⟩
      dsimp only [List.nil_append, List.cons_append]
      walk_at "go"
      rw [show (hs.map hD).map Sl.d ++ [.d (.tuple [.list (leavesD T2), .list (leavesD T2)])] = ((hs ++ [leavesD T2]).map hD).map .d by rw [List.map_append, List.map_append]; rfl]
      exact ⟨[tabM C p T2, dictM w kv2, heM h (hs ++ [leavesD T2]), fr], ent_has (by walk_at "grab"), (T2, kv2, hs ++ [leavesD T2]), ⟨hag2, hne2, by rw [List.length_append]; exact hkl3, by rw [List.length_append, List.length_append]; exact Nat.add_le_add_right hhl 1, fun l hl2 => by
        rcases List.mem_append.mp hl2 with q | q
        · exact hsh l q
        · rw [List.mem_singleton.mp q]; exact leaves_shaped hok2⟩, by walk_at "le", rfl⟩
    · walk_at "go"
      exact ⟨_, ent_refl, (T2, kv2, hs), ⟨hag2, hne2, by rw [List.length_append]; exact hkl3, by rw [List.length_append]; dsimp only; omega, hsh⟩, by walk_at "le", rfl⟩
  · rintro ⟨T, kv, hs⟩ ⟨hag, hne, hkl, hhl, hsh⟩
    rw [List.length_range, List.length_map, Int.toNat_natCast] at hkl hhl
    dsimp only at hag hne hkl hhl hsh ⊢
    exact law_tail oc ht2 ht3 ht4 h1 h2 hag hne (by omega) hsh hr
end
/-! ### the steps -/
local macro_rules | `(tactic| walk_at "sl") => `(tactic| ((repeat with_reducible first | exact Slot.zero | apply Slot.succ); (first | (all_goals fail) | fail)))
local macro_rules | `(tactic| walk_at "set") => `(tactic| ((repeat with_reducible first | exact SetS.zero | apply SetS.succ); (first | (all_goals fail) | fail)))
local macro_rules | `(tactic| walk_at "ix") => `(tactic| ((repeat with_reducible first | exact IxOf.zero | apply IxOf.succ); (first | (all_goals fail) | fail)))
local macro_rules | `(tactic| walk_at "pick") => `(tactic| ((repeat with_reducible first | exact Pick.zero | apply Pick.succ); (first | (all_goals fail) | fail)))
local macro_rules | `(tactic| walk_at "fld") => `(tactic| ((repeat with_reducible first | exact FldAt.zero | apply FldAt.succ); (first | (all_goals fail) | fail)))
local macro_rules | `(tactic| walk_at "fset") => `(tactic| ((repeat with_reducible first | exact FldSet.zero | apply FldSet.succ); (first | (all_goals fail) | fail)))
local macro_rules | `(tactic| walk_at "grab") => `(tactic| (repeat (first | exact has_nil | refine has_cons (by ((repeat with_reducible first | exact Pick.zero | apply Pick.succ); (first | (all_goals fail) | fail))) ?_ | dsimp only [List.nil_append, List.cons_append, List.map_nil])))
local macro_rules | `(tactic| walk_at "pick2") => `(tactic| ((dsimp only [List.nil_append, List.cons_append]); ((repeat with_reducible first | exact Pick.zero | apply Pick.succ); (first | (all_goals fail) | fail))))
local macro_rules | `(tactic| walk_at "lent") => `(tactic| (repeat (first | exact LentS.nil | refine LentS.lend (by first | exact List.mem_cons_self | exact List.mem_cons_of_mem _ List.mem_cons_self) ?_ | refine LentS.eq ?_)))
local macro_rules | `(tactic| walk_at "datas") => `(tactic| ((repeat with_reducible first | exact datas_nil | apply datas_cons); (first | (all_goals fail) | fail)))
local macro_rules | `(tactic| walk_at "le0") => `(tactic| (repeat (first | exact Le.nil | (with_reducible apply Le.eq) | (with_reducible apply Le.un) | apply Le.eq)))
local macro_rules | `(tactic| walk_at "le") => `(tactic| ((repeat with_reducible first | exact Le.nil | apply Le.eq | apply Le.un); (first | (all_goals fail) | fail)))
local macro_rules | `(tactic| walk_at "num") => `(tactic| (first | omega | decide | (simp; omega)))
local macro_rules | `(tactic| walk_at "len") => `(tactic| (first | (with_reducible assumption) | decide | ((try simp only [List.length_cons, List.length_nil, List.length_append, List.length_map, List.length_replicate]); omega) | (refine Nat.le_trans (cutL_len _ _ _) ?_; (try simp only [List.length_cons, List.length_nil, List.length_append, List.length_map, List.length_replicate]); omega) | (refine Nat.le_trans (Nat.add_le_add_left (cutL_len _ _ _) _) ?_; (try simp only [List.length_cons, List.length_nil, List.length_append, List.length_map, List.length_replicate]); omega) | (refine Nat.le_trans (Nat.add_le_add_right (cutL_len _ _ _) _) ?_; (try simp only [List.length_cons, List.length_nil, List.length_append, List.length_map, List.length_replicate]); omega)))
local macro_rules | `(tactic| walk_at "go") => `(tactic| (repeat (first | (first | ((with_reducible show DX _ _ _ _ _); (first | ((with_reducible show DX _ (.Name _ _) _ _ _); (first | refine dx_name (by ((repeat with_reducible first | exact Slot.zero | apply Slot.succ); (first | (all_goals fail) | fail))) (by exact fun e => nomatch e) ?_ | refine dx_gint (by with_reducible assumption) ?_ | refine dx_gstr (by with_reducible assumption) ?_ | refine dx_gcls (by with_reducible assumption) (by decide +kernel) ?_ | ((with_reducible show DX _ (.Name "int" _) _ _ _); refine dx_tint ?_) | ((with_reducible show DX _ (.Name "bool" _) _ _ _); refine dx_tbool ?_) | ((with_reducible show DX _ (.Name "str" _) _ _ _); refine dx_tstr ?_) | ((with_reducible show DX _ (.Name "list" _) _ _ _); refine dx_tlist ?_) | ((with_reducible show DX _ (.Name "tuple" _) _ _ _); refine dx_ttuple ?_) | ((with_reducible show DX _ (.Name "ValueError" _) _ _ _); refine dx_tVE (by with_reducible assumption) ?_))) | ((with_reducible show DX _ (.Constant _ _ _) _ _ _); (first | ((with_reducible show DX _ (.Constant (.int _) _ _) _ _ _); refine dx_int ?_) | ((with_reducible show DX _ (.Constant (.str _) _ _) _ _ _); refine dx_str ?_) | ((with_reducible show DX _ (.Constant (.bool _) _ _) _ _ _); refine dx_bl ?_) | refine dx_non ?_)) | ((with_reducible show DX _ (.BinOp (.List [_] _) .Mult _ _) _ _ _); refine dx_rep ?_) | ((with_reducible show DX _ (.BinOp _ _ _ _) _ _ _); (first | ((with_reducible show DX _ (.BinOp _ .Add _ _) _ _ _); refine dx_bin cAdd ?_) | ((with_reducible show DX _ (.BinOp _ .Sub _ _) _ _ _); refine dx_bin op_sub ?_) | ((with_reducible show DX _ (.BinOp _ .Mult _ _) _ _ _); refine dx_bin op_uMul ?_) | ((with_reducible show DX _ (.BinOp _ .FloorDiv _ _) _ _ _); refine dx_bin op_fdivW ?_) | ((with_reducible show DX _ (.BinOp _ .Mod _ _) _ _ _); refine dx_bin op_mod ?_) | ((with_reducible show DX _ (.BinOp _ .Pow _ _) _ _ _); refine dx_bin op_pow ?_))) | ((with_reducible show DX _ (.Compare _ [_] _ _) _ _ _); (first | ((with_reducible show DX _ (.Compare _ [.Eq] [_] _) _ _ _); refine dx_cmp cEq (nomark _) ?_) | ((with_reducible show DX _ (.Compare _ [.NotEq] [_] _) _ _ _); refine dx_cmp cNe (nomark _) ?_) | ((with_reducible show DX _ (.Compare _ [.Lt] [_] _) _ _ _); refine dx_cmp op_lt (nomark _) ?_) | ((with_reducible show DX _ (.Compare _ [.LtE] [_] _) _ _ _); refine dx_cmp op_le (nomark _) ?_) | ((with_reducible show DX _ (.Compare _ [.Gt] [_] _) _ _ _); refine dx_cmp op_gt (nomark _) ?_) | ((with_reducible show DX _ (.Compare _ [.GtE] [_] _) _ _ _); refine dx_cmp op_ge (nomark _) ?_) | ((with_reducible show DX _ (.Compare _ [.Is] [_] _) _ _ _); refine dx_cmp op_uIs (nomark _) ?_) | ((with_reducible show DX _ (.Compare _ [.IsNot] [_] _) _ _ _); refine dx_cmp op_uIsn (nomark _) ?_) | ((with_reducible show DX _ (.Compare _ [.In] [_] _) _ _ _); refine dx_cmp cIn (rfl) ?_) | ((with_reducible show DX _ (.Compare _ [.NotIn] [_] _) _ _ _); refine dx_cmp cNin (rfl) ?_))) | ((with_reducible show DX _ (.Compare _ [_, _] _ _) _ _ _); (first | ((with_reducible show DX _ (.Compare _ [.LtE, .Lt] [_, _] _) _ _ _); refine dx_chain op_le op_lt ?_) | ((with_reducible show DX _ (.Compare _ [.LtE, .LtE] [_, _] _) _ _ _); refine dx_chain op_le op_le ?_))) | ((with_reducible show DX _ (.BoolOp _ [_] _) _ _ _); refine dx_one ?_) | ((with_reducible show DX _ (.BoolOp .And _ _) _ _ _); refine dx_and ?_) | ((with_reducible show DX _ (.BoolOp .Or _ _) _ _ _); refine dx_or ?_) | ((with_reducible show DX _ (.UnaryOp .Not _ _) _ _ _); refine dx_not ?_) | ((with_reducible show DX _ (.UnaryOp _ _ _) _ _ _); refine dx_neg ?_) | ((with_reducible show DX _ (.Subscript _ (.Slice _ _ _ _) _) _ _ _); refine dx_slice ?_) | ((with_reducible show DX _ (.Subscript _ _ _) _ _ _); refine dx_ix cIx ?_) | ((with_reducible show DX _ (.Tuple _ _ _) _ _ _); refine dx_tup ?_) | ((with_reducible show DX _ (.IfExp _ _ _ _) _ _ _); refine dx_ifExp ?_) | ((with_reducible show DX _ (.List _ _) _ _ _); refine dx_lst ?_) | ((with_reducible show DX _ (.Dict [] [] _) _ _ _); refine dx_dnew ?_) | ((with_reducible show DX _ (.Attribute _ _ _) _ _ _); refine dx_fld ?_) | ((with_reducible show DX _ (.Call (.Attribute _ "clear" _) [] _ _) _ _ _); refine dx_clear ?_) | ((with_reducible show DX _ (.Call (.Attribute _ "pop" _) [] _ _) _ _ _); refine dx_pop ?_) | ((with_reducible show DX _ (.Call (.Attribute _ _ _) [] _ _) _ _ _); refine dx_meth0 (by with_reducible assumption) (by with_reducible assumption) ?_) | ((with_reducible show DX _ (.Call (.Name _ _) [] _ _) _ _ _); refine dx_call0 (by with_reducible assumption) ?_) | ((with_reducible show DX _ (.Call (.Attribute _ "append" _) [_] _ _) _ _ _); refine dx_append ?_) | ((with_reducible show DX _ (.Call (.Attribute _ "join" _) [_] _ _) _ _ _); refine dx_join ?_) | ((with_reducible show DX _ (.Call (.Attribute _ "find" _) [_] _ _) _ _ _); refine dx_find ?_) | ((with_reducible show DX _ (.Call (.Attribute (.Constant (.str _) _ _) "index" _) [_] _ _) _ _ _); refine dx_sindex ?_) | ((with_reducible show DX _ (.Call (.Attribute _ "split" _) [_] _ _) _ _ _); refine dx_split ?_) | ((with_reducible show DX _ (.Call (.Attribute _ _ _) _ _ _) _ _ _); refine dx_meth (by with_reducible assumption) (by with_reducible assumption) ?_) | ((with_reducible show DX _ (.Call (.Name _ _) _ _ _) _ _ _); (first | ((with_reducible show DX _ (.Call (.Name "len" _) _ _ _) _ _ _); refine dx_len ?_) | ((with_reducible show DX _ (.Call (.Name "isinstance" _) _ _ _) _ _ _); (first | ((with_reducible show DX _ (.Call _ [_, .Tuple _ _ _] _ _) _ _ _); refine dx_isET (by with_reducible assumption) (by with_reducible assumption) (by decide +kernel) ?_) | ((with_reducible show DX _ (.Call _ [_, .Name _ _] _ _) _ _ _); first | refine dx_isE (by with_reducible assumption) ?_ | refine dx_isi ?_))) | ((with_reducible show DX _ (.Call (.Name "list" _) _ _ _) _ _ _); (first | refine dx_listA ?_ | refine dx_list ?_)) | ((with_reducible show DX _ (.Call (.Name "min" _) _ _ _) _ _ _); refine dx_min ?_) | ((with_reducible show DX _ (.Call (.Name "max" _) _ _ _) _ _ _); refine dx_max ?_) | ((with_reducible show DX _ (.Call (.Name "str" _) _ _ _) _ _ _); refine dx_cstr ?_) | ((with_reducible show DX _ (.Call (.Name "int" _) _ _ _) _ _ _); refine dx_cint ?_) | refine dx_call (by with_reducible assumption) ?_ | refine dx_make (by with_reducible assumption) ?_)))) | ((with_reducible show OpD _ _ _ _ _); (first | ((with_reducible show OpD (uAdd _) (.d (.int _)) (.d (.int _)) _ _); refine od_add ?_) | ((with_reducible show OpD (uAdd _) (.d (.str _)) (.d (.str _)) _ _); refine od_adds (by (first | (with_reducible assumption) | decide | ((try simp only [List.length_cons, List.length_nil, List.length_append, List.length_map, List.length_replicate]); omega) | (refine Nat.le_trans (cutL_len _ _ _) ?_; (try simp only [List.length_cons, List.length_nil, List.length_append, List.length_map, List.length_replicate]); omega) | (refine Nat.le_trans (Nat.add_le_add_left (cutL_len _ _ _) _) ?_; (try simp only [List.length_cons, List.length_nil, List.length_append, List.length_map, List.length_replicate]); omega) | (refine Nat.le_trans (Nat.add_le_add_right (cutL_len _ _ _) _) ?_; (try simp only [List.length_cons, List.length_nil, List.length_append, List.length_map, List.length_replicate]); omega))) ?_) | ((with_reducible show OpD (uAdd _) (.d (.tuple _)) (.d (.tuple _)) _ _); refine od_addt (by first | exact List.cons_ne_nil _ _ | decide) (by (first | (with_reducible assumption) | decide | ((try simp only [List.length_cons, List.length_nil, List.length_append, List.length_map, List.length_replicate]); omega) | (refine Nat.le_trans (cutL_len _ _ _) ?_; (try simp only [List.length_cons, List.length_nil, List.length_append, List.length_map, List.length_replicate]); omega) | (refine Nat.le_trans (Nat.add_le_add_left (cutL_len _ _ _) _) ?_; (try simp only [List.length_cons, List.length_nil, List.length_append, List.length_map, List.length_replicate]); omega) | (refine Nat.le_trans (Nat.add_le_add_right (cutL_len _ _ _) _) ?_; (try simp only [List.length_cons, List.length_nil, List.length_append, List.length_map, List.length_replicate]); omega))) ?_) | ((with_reducible show OpD (uAdd _) _ _ _ _); refine od_addl rfl rfl (by (first | (with_reducible assumption) | decide | ((try simp only [List.length_cons, List.length_nil, List.length_append, List.length_map, List.length_replicate]); omega) | (refine Nat.le_trans (cutL_len _ _ _) ?_; (try simp only [List.length_cons, List.length_nil, List.length_append, List.length_map, List.length_replicate]); omega) | (refine Nat.le_trans (Nat.add_le_add_left (cutL_len _ _ _) _) ?_; (try simp only [List.length_cons, List.length_nil, List.length_append, List.length_map, List.length_replicate]); omega) | (refine Nat.le_trans (Nat.add_le_add_right (cutL_len _ _ _) _) ?_; (try simp only [List.length_cons, List.length_nil, List.length_append, List.length_map, List.length_replicate]); omega))) ?_) | ((with_reducible show OpD (rI0 fun i j => .int (i - j)) _ _ _ _); refine od_sub ?_) | ((with_reducible show OpD uMul (.d (.int _)) (.d (.int _)) _ _); (first | refine od_mul (mul_r (by (first | omega | decide | (simp; omega)))) ?_ | refine od_mul (mul_l (by (first | omega | decide | (simp; omega)))) ?_ | refine od_mul (mul_ok (by (first | omega | decide | (simp; omega))) (by (first | omega | decide | (simp; omega)))) ?_)) | ((with_reducible show OpD (rI CDivW _) _ _ _ _); refine od_div (by (first | omega | decide | (simp; omega))) ?_) | ((with_reducible show OpD (rI CPow _) (.d (.int 10)) _ _ _); (first | (with_reducible refine od_p60 ?_) | (with_reducible refine od_p59 ?_) | (with_reducible refine od_p20 ?_) | (with_reducible refine od_p40 ?_) | (with_reducible refine od_p6 ?_) | (with_reducible refine od_p9 ?_) | (with_reducible refine od_p50 ?_) | (with_reducible refine od_p58 ?_) | (with_reducible refine od_p30 ?_) | (with_reducible refine od_p3 ?_))) | ((with_reducible show OpD (rI CPow _) _ _ _ _); refine od_pow (by decide) ?_) | ((with_reducible show OpD (rI0 fun i j => .bl (decide (i < j))) _ _ _ _); refine od_lt ?_) | ((with_reducible show OpD (rI0 fun i j => .bl (decide (i ≤ j))) _ _ _ _); refine od_le ?_) | ((with_reducible show OpD (rI0 fun i j => .bl (decide (j < i))) _ _ _ _); refine od_gt ?_) | ((with_reducible show OpD (rI0 fun i j => .bl (decide (j ≤ i))) _ _ _ _); refine od_ge ?_) | ((with_reducible show OpD (rI _ _) _ _ _ _); refine od_mod (by (first | omega | decide | (simp; omega))) ?_) | ((with_reducible show OpD (uEq _) _ _ _ _); (first | refine od_eq rfl rfl (by first | exact .int _ _ | exact .str _ _ | exact .bl _ _ | exact .nn | exact .ni _ | exact .in_ _ | exact .ns _ | exact .sn _) ?_ | refine od_eqS rfl rfl (by first | (with_reducible assumption) | decide +kernel | rfl) ?_ | refine od_eq rfl rfl (.dat (by first | (with_reducible assumption) | decide +kernel | rfl) (by first | (with_reducible assumption) | decide +kernel | rfl)) ?_)) | ((with_reducible show OpD (uNe _) _ _ _ _); (first | (with_reducible refine od_nenm ?_) | refine od_ne rfl rfl (by first | exact .int _ _ | exact .str _ _ | exact .bl _ _ | exact .nn | exact .ni _ | exact .in_ _ | exact .ns _ | exact .sn _) ?_ | refine od_neS rfl rfl (by first | (with_reducible assumption) | decide +kernel | rfl) ?_ | refine od_ne rfl rfl (.dat (by first | (with_reducible assumption) | decide +kernel | rfl) (by first | (with_reducible assumption) | decide +kernel | rfl)) ?_)) | ((with_reducible show OpD (uNin _) (.d (.str _)) (.d (.str _)) _ _); refine od_nins ?_) | ((with_reducible show OpD (uIn _) (.d (.str _)) (.d (.str _)) _ _); refine od_ins ?_) | ((with_reducible show OpD (uIn _) (.d _) (.r (.ref _)) _ _); refine od_inO (by ((repeat with_reducible first | exact Pick.zero | apply Pick.succ); (first | (all_goals fail) | fail))) rfl (by with_reducible assumption) ?_) | ((with_reducible show OpD (uNin _) (.d _) (.r (.ref _)) _ _); refine od_ninO (by ((repeat with_reducible first | exact Pick.zero | apply Pick.succ); (first | (all_goals fail) | fail))) rfl (by with_reducible assumption) ?_) | ((with_reducible show OpD uIs _ _ _ _); (first | (with_reducible refine od_isnm ?_) | refine od_is rfl ?_)) | ((with_reducible show OpD uIsn _ _ _ _); (first | (with_reducible refine od_isnnm ?_) | refine od_isn rfl ?_)) | ((with_reducible show OpD (rIx _) (.r (.ref _)) _ _ _); refine od_ixo (by ((repeat with_reducible first | exact Pick.zero | apply Pick.succ); (first | (all_goals fail) | fail))) (by first | rfl | with_reducible assumption) (by exact fun _ z => nomatch z) ?_) | ((with_reducible show OpD (rIx _) (.d (.str _)) _ _ _); refine od_ixt (by (first | (with_reducible assumption) | decide | ((try simp only [List.length_cons, List.length_nil, List.length_append, List.length_map, List.length_replicate]); omega) | (refine Nat.le_trans (cutL_len _ _ _) ?_; (try simp only [List.length_cons, List.length_nil, List.length_append, List.length_map, List.length_replicate]); omega) | (refine Nat.le_trans (Nat.add_le_add_left (cutL_len _ _ _) _) ?_; (try simp only [List.length_cons, List.length_nil, List.length_append, List.length_map, List.length_replicate]); omega) | (refine Nat.le_trans (Nat.add_le_add_right (cutL_len _ _ _) _) ?_; (try simp only [List.length_cons, List.length_nil, List.length_append, List.length_map, List.length_replicate]); omega))) (by with_reducible assumption) ?_) | ((with_reducible show OpD (rIx _) _ _ _ _); refine od_ixs rfl (by first | rfl | with_reducible assumption) ?_))) | ((with_reducible show DS _ _ _ _ _); (first | ((with_reducible show DS _ (.Assign [.Name _ _] _ _) _ _ _); (fail_if_success (with_reducible show DS _ (.Assign _ (.List [] _) _) _ _ _)); (fail_if_success (with_reducible show DS _ (.Assign _ (.ListComp _ _ _ _) _) _ _ _)); refine ds_set ?_) | ((with_reducible show DS _ (.Assign [.Attribute _ _ _] _ _) _ _ _); (fail_if_success (with_reducible show DS _ (.Assign _ (.List _ _) _) _ _ _)); (fail_if_success (with_reducible show DS _ (.Assign _ (.ListComp _ _ _ _) _) _ _ _)); refine ds_fld ?_) | ((with_reducible show DS _ (.Assign [.Subscript _ _ _] _ _) _ _ _); (fail_if_success (with_reducible show DS _ (.Assign [.Subscript (.Subscript _ _ _) _ _] _ _) _ _ _)); refine ds_seti ?_) | ((with_reducible show DS _ (.Return (some _) _) _ _ _); refine ds_ret ?_) | ((with_reducible show DS _ (.Return none _) _ _ _); refine ds_retN ?_) | ((with_reducible show DS _ (.If _ _ _ _) _ _ _); refine ds_if ?_) | ((with_reducible show DS _ (.Expr (.Constant _ _ _) _) _ _ _); refine ds_doc ?_) | ((with_reducible show DS _ (.Expr _ _) _ _ _); refine ds_expr ?_) | ((with_reducible show DS _ (.Pass _) _ _ _); refine ds_pass ?_) | ((with_reducible show DS _ (.Break _) _ _ _); refine ds_break ?_) | ((with_reducible show DS _ (.Continue _) _ _ _); refine ds_continue ?_) | ((with_reducible show DS _ (.Raise (some (.Call (.Name _ _) [.Constant (.str _) _ _] [] _)) none _) _ _ _); refine ds_raise (by with_reducible assumption) (by decide +kernel) (by decide +kernel) ?_))) | ((with_reducible show DSs _ _ _ _ _); (first | ((with_reducible show DSs _ (_ :: _) _ _ _); refine dss_cons ?_) | ((with_reducible show DSs _ [] _ _ _); refine dss_nil ?_))) | ((with_reducible show DT _ _ _ _ _); (first | ((with_reducible show DT _ (.BoolOp _ _ _) _ _ _); refine dt_bool ?_) | ((with_reducible show DT _ (.UnaryOp .Not _ _) _ _ _); refine dt_not ?_) | ((with_reducible show DT _ (.Compare _ [_] _ _) _ _ _); (first | ((with_reducible show DT _ (.Compare _ [.Eq] [_] _) _ _ _); refine dt_cmp cEq (nomark _) ?_) | ((with_reducible show DT _ (.Compare _ [.NotEq] [_] _) _ _ _); refine dt_cmp cNe (nomark _) ?_) | ((with_reducible show DT _ (.Compare _ [.Lt] [_] _) _ _ _); refine dt_cmp op_lt (nomark _) ?_) | ((with_reducible show DT _ (.Compare _ [.LtE] [_] _) _ _ _); refine dt_cmp op_le (nomark _) ?_) | ((with_reducible show DT _ (.Compare _ [.Gt] [_] _) _ _ _); refine dt_cmp op_gt (nomark _) ?_) | ((with_reducible show DT _ (.Compare _ [.GtE] [_] _) _ _ _); refine dt_cmp op_ge (nomark _) ?_) | ((with_reducible show DT _ (.Compare _ [.Is] [_] _) _ _ _); refine dt_cmp op_uIs (nomark _) ?_) | ((with_reducible show DT _ (.Compare _ [.IsNot] [_] _) _ _ _); refine dt_cmp op_uIsn (nomark _) ?_) | ((with_reducible show DT _ (.Compare _ [.In] [_] _) _ _ _); refine dt_cmp cIn (rfl) ?_) | ((with_reducible show DT _ (.Compare _ [.NotIn] [_] _) _ _ _); refine dt_cmp cNin (rfl) ?_))) | ((with_reducible show DT _ (.Compare _ [_, _] _ _) _ _ _); (first | ((with_reducible show DT _ (.Compare _ [.LtE, .Lt] [_, _] _) _ _ _); refine dt_chain op_le op_lt ?_) | ((with_reducible show DT _ (.Compare _ [.LtE, .LtE] [_, _] _) _ _ _); refine dt_chain op_le op_le ?_))) | ((with_reducible show DT _ _ _ _ _); refine dt_tru ?_))) | ((with_reducible show DW _ _ _ _ _); (first | ((with_reducible show DW _ (.BoolOp .And [_] _) _ _ _); refine dw_and1 ?_) | ((with_reducible show DW _ (.BoolOp .Or [_] _) _ _ _); refine dw_or1 ?_) | ((with_reducible show DW _ (.BoolOp .And _ _) _ _ _); refine dw_and ?_) | ((with_reducible show DW _ (.BoolOp .Or _ _) _ _ _); refine dw_or ?_))) | ((with_reducible show DA _ _ _ _ _); (first | ((with_reducible show DA _ (_ :: _) _ _ _); refine da_cons ?_) | ((with_reducible show DA _ [] _ _ _); refine da_nil ?_))) | ((with_reducible show if _ = true then _ else _); (first | (with_reducible refine ite_tt ?_) | (with_reducible refine ite_ff ?_) | (with_reducible refine ite_nt ?_) | (with_reducible refine ite_nf ?_) | ((with_reducible show if decide _ = true then _ else _); first | refine ite_dt (by (first | (with_reducible assumption) | omega | decide +kernel | ((simp only [List.length_cons, List.length_nil, List.length_map, List.length_append]); omega) | ((simp only [List.length_cons, List.length_nil, List.length_map, List.length_append]); (first | (all_goals fail) | fail)))) ?_ | refine ite_df (by (first | (with_reducible assumption) | omega | decide +kernel | ((simp only [List.length_cons, List.length_nil, List.length_map, List.length_append]); omega) | ((simp only [List.length_cons, List.length_nil, List.length_map, List.length_append]); (first | (all_goals fail) | fail)))) ?_) | ((with_reducible show if (!decide _) = true then _ else _); first | refine ite_ndf (by (first | (with_reducible assumption) | omega | decide +kernel | ((simp only [List.length_cons, List.length_nil, List.length_map, List.length_append]); omega) | ((simp only [List.length_cons, List.length_nil, List.length_map, List.length_append]); (first | (all_goals fail) | fail)))) ?_ | refine ite_ndt (by (first | (with_reducible assumption) | omega | decide +kernel | ((simp only [List.length_cons, List.length_nil, List.length_map, List.length_append]); omega) | ((simp only [List.length_cons, List.length_nil, List.length_map, List.length_append]); (first | (all_goals fail) | fail)))) ?_) | (with_reducible refine ite_nn ?_) | ((with_reducible show if PyData.eqv _ _ = true then _ else _); first | refine ite_t (by decide +kernel) ?_ | refine ite_f (by decide +kernel) ?_ | refine ite_t rfl ?_ | refine ite_f rfl ?_) | ((with_reducible show if (!PyData.eqv _ _) = true then _ else _); first | refine ite_t (by decide +kernel) ?_ | refine ite_f (by decide +kernel) ?_ | refine ite_t rfl ?_ | refine ite_f rfl ?_) | ((with_reducible show if wholeD (.int _) = true then _ else _); refine ite_t rfl ?_) | ((with_reducible show if (!wholeD (.int _)) = true then _ else _); refine ite_f rfl ?_) | ((with_reducible show if isD _ _ = true then _ else _); first | refine ite_t rfl ?_ | refine ite_f rfl ?_) | ((with_reducible show if (!isD _ _) = true then _ else _); first | refine ite_t rfl ?_ | refine ite_f rfl ?_))) | ((with_reducible show Exists _); (first | (with_reducible refine me_tab (by ((repeat with_reducible first | exact Pick.zero | apply Pick.succ); (first | (all_goals fail) | fail))) (by decide +kernel) ?_) | ((with_reducible show ∃ i ρ', SetS _ _ _ i _ ρ' ∧ _); refine ⟨_, _, by ((repeat with_reducible first | exact SetS.zero | apply SetS.succ); (first | (all_goals fail) | fail)), ?_⟩) | (with_reducible refine ex_list rfl ?_) | ((with_reducible show ∃ ds, Sl.asSeq _ = some ds ∧ _); refine ex_seq rfl ?_) | ((with_reducible show ∃ ds, Datas _ ds ∧ _); refine ex_datas (by ((repeat with_reducible first | exact datas_nil | apply datas_cons); (first | (all_goals fail) | fail))) (by first | exact Nat.le_of_ble_eq_true rfl | (first | (with_reducible assumption) | decide | ((try simp only [List.length_cons, List.length_nil, List.length_append, List.length_map, List.length_replicate]); omega) | (refine Nat.le_trans (cutL_len _ _ _) ?_; (try simp only [List.length_cons, List.length_nil, List.length_append, List.length_map, List.length_replicate]); omega) | (refine Nat.le_trans (Nat.add_le_add_left (cutL_len _ _ _) _) ?_; (try simp only [List.length_cons, List.length_nil, List.length_append, List.length_map, List.length_replicate]); omega) | (refine Nat.le_trans (Nat.add_le_add_right (cutL_len _ _ _) _) ?_; (try simp only [List.length_cons, List.length_nil, List.length_append, List.length_map, List.length_replicate]); omega))) ?_) | ((with_reducible show ∃ C p fs g sl, _ = Sl.r (.ref p) ∧ Pick _ (insM C p fs) g ∧ FldC _ C _ ∧ FldAt fs _ sl ∧ _); refine ex_fld (by ((repeat with_reducible first | exact Pick.zero | apply Pick.succ); (first | (all_goals fail) | fail))) (fldc (by with_reducible assumption) (by decide +kernel)) (by ((repeat with_reducible first | exact FldAt.zero | apply FldAt.succ); (first | (all_goals fail) | fail))) (by (simp only [List.map_cons, List.map_nil]); decide +kernel) (by exact fun _ z => nomatch z) ?_) | ((with_reducible show ∃ C p fs g fs2, _ = Sl.r (.ref p) ∧ Pick _ (insM C p fs) g ∧ FldC _ C _ ∧ (FldSet fs _ _ fs2 ∨ _) ∧ _); first | refine ex_fset (by ((repeat with_reducible first | exact Pick.zero | apply Pick.succ); (first | (all_goals fail) | fail))) (fldc (by with_reducible assumption) (by decide +kernel)) (by ((repeat with_reducible first | exact FldSet.zero | apply FldSet.succ); (first | (all_goals fail) | fail))) (by (simp only [List.map_cons, List.map_nil]); decide +kernel) (by exact Nat.le_of_ble_eq_true rfl) ?_ | refine ex_fnew (by ((repeat with_reducible first | exact Pick.zero | apply Pick.succ); (first | (all_goals fail) | fail))) (fldc (by with_reducible assumption) (by decide +kernel)) (by (simp only [List.map_cons, List.map_nil]); decide +kernel) (by (simp only [List.map_cons, List.map_nil]); decide +kernel) (by exact Nat.le_of_ble_eq_true rfl) ?_) | ((with_reducible show ∃ p ss f k j, _ = Sl.r (.ref p) ∧ _ = Sl.d (.int k) ∧ _); refine ex_seti (by ((repeat with_reducible first | exact Pick.zero | apply Pick.succ); (first | (all_goals fail) | fail))) (by first | with_reducible assumption | rfl) ?_) | (with_reducible refine ex_frz (by ((repeat with_reducible first | exact Pick.zero | apply Pick.succ); (first | (all_goals fail) | fail))) ?_) | (with_reducible refine ex_own (by ((repeat with_reducible first | exact Pick.zero | apply Pick.succ); (first | (all_goals fail) | fail))) ?_) | (with_reducible refine ex_app (by ((repeat with_reducible first | exact Pick.zero | apply Pick.succ); (first | (all_goals fail) | fail))) (by (first | (with_reducible assumption) | decide | ((try simp only [List.length_cons, List.length_nil, List.length_append, List.length_map, List.length_replicate]); omega) | (refine Nat.le_trans (cutL_len _ _ _) ?_; (try simp only [List.length_cons, List.length_nil, List.length_append, List.length_map, List.length_replicate]); omega) | (refine Nat.le_trans (Nat.add_le_add_left (cutL_len _ _ _) _) ?_; (try simp only [List.length_cons, List.length_nil, List.length_append, List.length_map, List.length_replicate]); omega) | (refine Nat.le_trans (Nat.add_le_add_right (cutL_len _ _ _) _) ?_; (try simp only [List.length_cons, List.length_nil, List.length_append, List.length_map, List.length_replicate]); omega))) ?_) | ((with_reducible show ∃ ys, RefsE _ _ ys ∧ _); (first | refine ex_refs (w := false) (by ((repeat with_reducible first | exact RefsE.nil | apply RefsE.cons); (first | (all_goals fail) | fail))) (by decide +kernel) ?_ | refine ex_refs (w := true) (by ((repeat with_reducible first | exact RefsE.nil | apply RefsE.cons); (first | (all_goals fail) | fail))) (by decide +kernel) ?_)) | ((with_reducible show ∃ rs', Ent [_] (rs' ++ [_]) ∧ _); (refine end_ex ?_; with_reducible assumption)) | ((with_reducible show ∃ ρ', SetS _ _ _ _ _ ρ' ∧ _); refine ⟨_, by ((repeat with_reducible first | exact SetS.zero | apply SetS.succ); (first | (all_goals fail) | fail)), ?_⟩) | (with_reducible refine ex_rep (by ((repeat with_reducible first | exact Pick.zero | apply Pick.succ); (first | (all_goals fail) | fail))) (by (first | omega | decide | (simp; omega))) ?_) | (with_reducible refine ex_dat ?_) | (with_reducible refine ex_int ?_) | (with_reducible refine ex_str ?_) | (with_reducible refine ex_dic (by ((repeat with_reducible first | exact Pick.zero | apply Pick.succ); (first | (all_goals fail) | fail))) ?_) | (with_reducible refine ex_din1 (by ((repeat with_reducible first | exact Pick.zero | apply Pick.succ); (first | (all_goals fail) | fail))) ?_) | (with_reducible refine ex_din2 (by ((repeat with_reducible first | exact Pick.zero | apply Pick.succ); (first | (all_goals fail) | fail))) ?_) | (with_reducible refine ex_dlen (by ((repeat with_reducible first | exact Pick.zero | apply Pick.succ); (first | (all_goals fail) | fail))) ?_) | ((with_reducible show ∃ p kvs f k, _ = Sl.r (.ref p) ∧ _ = Sl.d (keyD k) ∧ Pick _ (dictM p kvs) f ∧ kvs.length ≤ _ ∧ _); first | refine ex_dputI (by ((repeat with_reducible first | exact Pick.zero | apply Pick.succ); (first | (all_goals fail) | fail))) (by (first | (with_reducible assumption) | decide | ((try simp only [List.length_cons, List.length_nil, List.length_append, List.length_map, List.length_replicate]); omega) | (refine Nat.le_trans (cutL_len _ _ _) ?_; (try simp only [List.length_cons, List.length_nil, List.length_append, List.length_map, List.length_replicate]); omega) | (refine Nat.le_trans (Nat.add_le_add_left (cutL_len _ _ _) _) ?_; (try simp only [List.length_cons, List.length_nil, List.length_append, List.length_map, List.length_replicate]); omega) | (refine Nat.le_trans (Nat.add_le_add_right (cutL_len _ _ _) _) ?_; (try simp only [List.length_cons, List.length_nil, List.length_append, List.length_map, List.length_replicate]); omega))) ?_ | refine ex_dputS (by ((repeat with_reducible first | exact Pick.zero | apply Pick.succ); (first | (all_goals fail) | fail))) (by (first | (with_reducible assumption) | decide | ((try simp only [List.length_cons, List.length_nil, List.length_append, List.length_map, List.length_replicate]); omega) | (refine Nat.le_trans (cutL_len _ _ _) ?_; (try simp only [List.length_cons, List.length_nil, List.length_append, List.length_map, List.length_replicate]); omega) | (refine Nat.le_trans (Nat.add_le_add_left (cutL_len _ _ _) _) ?_; (try simp only [List.length_cons, List.length_nil, List.length_append, List.length_map, List.length_replicate]); omega) | (refine Nat.le_trans (Nat.add_le_add_right (cutL_len _ _ _) _) ?_; (try simp only [List.length_cons, List.length_nil, List.length_append, List.length_map, List.length_replicate]); omega))) ?_) | ((with_reducible show ∃ p kvs f k, _ = Sl.r (.ref p) ∧ _ = Sl.d (keyD k) ∧ Pick _ (dictM p kvs) f ∧ _); first | refine ex_din1 (by ((repeat with_reducible first | exact Pick.zero | apply Pick.succ); (first | (all_goals fail) | fail))) ?_ | refine ex_din2 (by ((repeat with_reducible first | exact Pick.zero | apply Pick.succ); (first | (all_goals fail) | fail))) ?_) | ((with_reducible show ∃ kvs f k s, _ = Sl.d (keyD k) ∧ Pick _ (dictM _ kvs) f ∧ valS kvs k = some s ∧ _); first | refine ex_dpopI (by ((repeat with_reducible first | exact Pick.zero | apply Pick.succ); (first | (all_goals fail) | fail))) (by with_reducible assumption) (by exact fun _ z => nomatch z) ?_ | refine ex_dpopS (by ((repeat with_reducible first | exact Pick.zero | apply Pick.succ); (first | (all_goals fail) | fail))) (by with_reducible assumption) (by exact fun _ z => nomatch z) ?_) | ((with_reducible show ∃ p kvs f k s, _ = Sl.r (.ref p) ∧ _ = Sl.d (keyD k) ∧ Pick _ (dictM p kvs) f ∧ _); first | refine ex_dget (by ((repeat with_reducible first | exact Pick.zero | apply Pick.succ); (first | (all_goals fail) | fail))) (by with_reducible assumption) (by exact fun _ z => nomatch z) ?_ | refine ex_dgetS (by ((repeat with_reducible first | exact Pick.zero | apply Pick.succ); (first | (all_goals fail) | fail))) (by with_reducible assumption) (by exact fun _ z => nomatch z) ?_))) | (first | (with_reducible refine kt ?_) | ((with_reducible show ∀ _ : Addr, _); intro q) | ((with_reducible show Le _ _ ∧ _ = _); exact ⟨by ((repeat with_reducible first | exact Le.nil | apply Le.eq | apply Le.un); (first | (all_goals fail) | fail)), rfl⟩) | ((with_reducible show CallEnd _ _ _ _ _ _); (first | ((with_reducible refine ce_tab (by ((repeat with_reducible first | exact Pick.zero | apply Pick.succ); (first | (all_goals fail) | fail))) ?_); (first | refine ⟨_, rfl, rfl, by (first | (with_reducible trivial) | (with_reducible assumption) | omega | (exact ⟨by with_reducible assumption, by with_reducible assumption⟩)), ?_⟩ | refine ⟨_, _, rfl, rfl, by (first | (with_reducible trivial) | (with_reducible assumption) | omega | (exact ⟨by with_reducible assumption, by with_reducible assumption⟩)), ?_⟩ | refine ⟨_, _, _, rfl, rfl, by (first | (with_reducible trivial) | (with_reducible assumption) | omega | (exact ⟨by with_reducible assumption, by with_reducible assumption⟩)), ?_⟩ | refine ⟨_, _, _, _, rfl, rfl, by (first | (with_reducible trivial) | (with_reducible assumption) | omega | (exact ⟨by with_reducible assumption, by with_reducible assumption⟩)), ?_⟩ | refine ⟨_, _, _, _, _, rfl, rfl, by (first | (with_reducible trivial) | (with_reducible assumption) | omega | (exact ⟨by with_reducible assumption, by with_reducible assumption⟩)), ?_⟩ | refine ⟨_, _, _, _, _, _, rfl, rfl, by (first | (with_reducible trivial) | (with_reducible assumption) | omega | (exact ⟨by with_reducible assumption, by with_reducible assumption⟩)), ?_⟩ | refine ⟨_, _, _, _, _, _, _, rfl, rfl, by (first | (with_reducible trivial) | (with_reducible assumption) | omega | (exact ⟨by with_reducible assumption, by with_reducible assumption⟩)), ?_⟩ | refine ⟨_, _, _, _, _, _, _, _, rfl, rfl, by (first | (with_reducible trivial) | (with_reducible assumption) | omega | (exact ⟨by with_reducible assumption, by with_reducible assumption⟩)), ?_⟩)) | (refine ce_inl ?_; first | refine ⟨_, rfl, rfl, by (first | (with_reducible trivial) | (with_reducible assumption) | omega | (exact ⟨by with_reducible assumption, by with_reducible assumption⟩)), ?_⟩ | refine ⟨_, _, rfl, rfl, by (first | (with_reducible trivial) | (with_reducible assumption) | omega | (exact ⟨by with_reducible assumption, by with_reducible assumption⟩)), ?_⟩ | refine ⟨_, _, _, rfl, rfl, by (first | (with_reducible trivial) | (with_reducible assumption) | omega | (exact ⟨by with_reducible assumption, by with_reducible assumption⟩)), ?_⟩ | refine ⟨_, _, _, _, rfl, rfl, by (first | (with_reducible trivial) | (with_reducible assumption) | omega | (exact ⟨by with_reducible assumption, by with_reducible assumption⟩)), ?_⟩ | refine ⟨_, _, _, _, _, rfl, rfl, by (first | (with_reducible trivial) | (with_reducible assumption) | omega | (exact ⟨by with_reducible assumption, by with_reducible assumption⟩)), ?_⟩ | refine ⟨_, _, _, _, _, _, rfl, rfl, by (first | (with_reducible trivial) | (with_reducible assumption) | omega | (exact ⟨by with_reducible assumption, by with_reducible assumption⟩)), ?_⟩))) | ((with_reducible show CallEnd0 _ _ _ _); (first | ((with_reducible refine ce0_tab (by ((repeat with_reducible first | exact Pick.zero | apply Pick.succ); (first | (all_goals fail) | fail))) ?_); (first | refine ⟨_, rfl, rfl, by (first | (with_reducible trivial) | (with_reducible assumption) | omega | (exact ⟨by with_reducible assumption, by with_reducible assumption⟩)), ?_⟩ | refine ⟨_, _, rfl, rfl, by (first | (with_reducible trivial) | (with_reducible assumption) | omega | (exact ⟨by with_reducible assumption, by with_reducible assumption⟩)), ?_⟩ | refine ⟨_, _, _, rfl, rfl, by (first | (with_reducible trivial) | (with_reducible assumption) | omega | (exact ⟨by with_reducible assumption, by with_reducible assumption⟩)), ?_⟩ | refine ⟨_, _, _, _, rfl, rfl, by (first | (with_reducible trivial) | (with_reducible assumption) | omega | (exact ⟨by with_reducible assumption, by with_reducible assumption⟩)), ?_⟩ | refine ⟨_, _, _, _, _, rfl, rfl, by (first | (with_reducible trivial) | (with_reducible assumption) | omega | (exact ⟨by with_reducible assumption, by with_reducible assumption⟩)), ?_⟩ | refine ⟨_, _, _, _, _, _, rfl, rfl, by (first | (with_reducible trivial) | (with_reducible assumption) | omega | (exact ⟨by with_reducible assumption, by with_reducible assumption⟩)), ?_⟩ | refine ⟨_, _, _, _, _, _, _, rfl, rfl, by (first | (with_reducible trivial) | (with_reducible assumption) | omega | (exact ⟨by with_reducible assumption, by with_reducible assumption⟩)), ?_⟩ | refine ⟨_, _, _, _, _, _, _, _, rfl, rfl, by (first | (with_reducible trivial) | (with_reducible assumption) | omega | (exact ⟨by with_reducible assumption, by with_reducible assumption⟩)), ?_⟩)))) | ((with_reducible show (bodyPost _ _).rt _ _); (first | (refine end_rt ?_; with_reducible assumption) | refine end_rtT (decide_eq_true (by omega)) (by with_reducible assumption) | refine end_rtT rfl (by with_reducible assumption))) | ((with_reducible show TrD (.d (.bool _)) _ _); refine tr_bool ?_) | ((with_reducible show TrD (.d .none) _ _); refine tr_none ?_) | ((with_reducible show TrD (.d (.int _)) _ _); refine tr_int ?_) | ((with_reducible show TrD (.d (.list _)) _ _); refine tr_list ?_) | ((with_reducible show TrD (.d (.tuple _)) _ _); refine tr_tuple ?_) | ((with_reducible show TrD (.r (.ref _)) _ _); (first | refine tr_own (by ((repeat with_reducible first | exact Pick.zero | apply Pick.succ); (first | (all_goals fail) | fail))) ?_ | refine tr_dict (by ((repeat with_reducible first | exact Pick.zero | apply Pick.succ); (first | (all_goals fail) | fail))) ?_)) | ((with_reducible show CaD (rIsi _) _ _ _); (first | refine cd_isiT (by decide) rfl rfl ?_ | refine cd_isiF (by decide) rfl rfl ?_ | refine cd_isi (by decide) rfl ?_)) | ((with_reducible show CaD _ [.d (.int _), .d (.int _)] _ _); (first | refine cd_min ?_ | refine cd_max ?_)) | ((with_reducible show LenD (.d (.str _)) _ _); refine ld_str (by (first | (with_reducible assumption) | decide | ((try simp only [List.length_cons, List.length_nil, List.length_append, List.length_map, List.length_replicate]); omega) | (refine Nat.le_trans (cutL_len _ _ _) ?_; (try simp only [List.length_cons, List.length_nil, List.length_append, List.length_map, List.length_replicate]); omega) | (refine Nat.le_trans (Nat.add_le_add_left (cutL_len _ _ _) _) ?_; (try simp only [List.length_cons, List.length_nil, List.length_append, List.length_map, List.length_replicate]); omega) | (refine Nat.le_trans (Nat.add_le_add_right (cutL_len _ _ _) _) ?_; (try simp only [List.length_cons, List.length_nil, List.length_append, List.length_map, List.length_replicate]); omega))) ?_) | ((with_reducible show LenD (.r (.ref _)) _ _); refine ld_own (by ((repeat with_reducible first | exact Pick.zero | apply Pick.succ); (first | (all_goals fail) | fail))) ?_) | ((with_reducible show LenD _ _ _); refine ld_seq rfl ?_) | ((with_reducible show SlD _ (.d (.list _)) _ _ _ _); refine sd_list ?_) | ((with_reducible show SlD _ (.n _) _ _ _ _); refine sd_list ?_) | ((with_reducible show SlD _ (.r (.ref _)) _ _ _ _); refine sd_own (by ((repeat with_reducible first | exact Pick.zero | apply Pick.succ); (first | (all_goals fail) | fail))) (fun q => ?_)) | ((with_reducible show SlD _ (.d (.str _)) _ _ _ _); refine sd_str (by (first | (with_reducible assumption) | decide | ((try simp only [List.length_cons, List.length_nil, List.length_append, List.length_map, List.length_replicate]); omega) | (refine Nat.le_trans (cutL_len _ _ _) ?_; (try simp only [List.length_cons, List.length_nil, List.length_append, List.length_map, List.length_replicate]); omega) | (refine Nat.le_trans (Nat.add_le_add_left (cutL_len _ _ _) _) ?_; (try simp only [List.length_cons, List.length_nil, List.length_append, List.length_map, List.length_replicate]); omega) | (refine Nat.le_trans (Nat.add_le_add_right (cutL_len _ _ _) _) ?_; (try simp only [List.length_cons, List.length_nil, List.length_append, List.length_map, List.length_replicate]); omega))) ?_) | ((with_reducible show SlD _ (.d (.tuple [_, _, _, _])) none (some 2) _ _); refine sd_t42 ?_) | ((with_reducible show SlD _ (.d (.tuple [_, _, _, _, _, _])) (some 2) (some 5) _ _); refine sd_t625 ?_) | ((with_reducible show SlD _ (.d (.tuple [_, _, _, _])) (some 2) none _ _); refine sd_t4f2 ?_) | ((with_reducible show SlD _ (.d (.tuple _)) _ _ _ _); refine sd_tup (by first | decide | ((simp only [List.length_cons, List.length_nil]); decide +kernel)) ?_) | ((with_reducible show DO _ none _ _ _); refine do_none ?_) | ((with_reducible show DO _ (some _) _ _ _); refine do_some ?_) | (with_reducible refine ex_eqr ?_) | ((with_reducible show LsD _ _ _); first | refine ls_s (by (first | (with_reducible assumption) | decide | ((try simp only [List.length_cons, List.length_nil, List.length_append, List.length_map, List.length_replicate]); omega) | (refine Nat.le_trans (cutL_len _ _ _) ?_; (try simp only [List.length_cons, List.length_nil, List.length_append, List.length_map, List.length_replicate]); omega) | (refine Nat.le_trans (Nat.add_le_add_left (cutL_len _ _ _) _) ?_; (try simp only [List.length_cons, List.length_nil, List.length_append, List.length_map, List.length_replicate]); omega) | (refine Nat.le_trans (Nat.add_le_add_right (cutL_len _ _ _) _) ?_; (try simp only [List.length_cons, List.length_nil, List.length_append, List.length_map, List.length_replicate]); omega))) ?_ | refine ls_d rfl ?_) | ((with_reducible show LiD _ _ _); first | refine li_o (by ((repeat with_reducible first | exact Pick.zero | apply Pick.succ); (first | (all_goals fail) | fail))) (fun q => ?_) | refine li_d rfl (fun q => ?_)) | ((with_reducible show _ < 1920 ∧ _); refine ⟨log2_ok (by (first | omega | decide | (simp; omega))), ?_⟩) | ((with_reducible show CaD (rIsE _ _ _) [_, .r (.ty _)] _ _); refine cd_isEV (by with_reducible assumption) (by decide +kernel) ?_) | ((with_reducible show CaD (rIsE _ _ _) _ _ _); (first | refine cd_isE1 (r := true) (by with_reducible assumption) (by decide +kernel) (by decide +kernel) (by decide +kernel) ?_ | refine cd_isE1 (r := false) (by with_reducible assumption) (by decide +kernel) (by decide +kernel) (by decide +kernel) ?_)))) | dsimp only [List.nil_append, List.cons_append, Sl.plain])))
local macro_rules | `(tactic| walk_at "auto") => `(tactic| (repeat' (first | (first | ((with_reducible show DX _ _ _ _ _); (first | ((with_reducible show DX _ (.Name _ _) _ _ _); (first | refine dx_name (by ((repeat with_reducible first | exact Slot.zero | apply Slot.succ); (first | (all_goals fail) | fail))) (by exact fun e => nomatch e) ?_ | refine dx_gint (by with_reducible assumption) ?_ | refine dx_gstr (by with_reducible assumption) ?_ | refine dx_gcls (by with_reducible assumption) (by decide +kernel) ?_ | ((with_reducible show DX _ (.Name "int" _) _ _ _); refine dx_tint ?_) | ((with_reducible show DX _ (.Name "bool" _) _ _ _); refine dx_tbool ?_) | ((with_reducible show DX _ (.Name "str" _) _ _ _); refine dx_tstr ?_) | ((with_reducible show DX _ (.Name "list" _) _ _ _); refine dx_tlist ?_) | ((with_reducible show DX _ (.Name "tuple" _) _ _ _); refine dx_ttuple ?_) | ((with_reducible show DX _ (.Name "ValueError" _) _ _ _); refine dx_tVE (by with_reducible assumption) ?_))) | ((with_reducible show DX _ (.Constant _ _ _) _ _ _); (first | ((with_reducible show DX _ (.Constant (.int _) _ _) _ _ _); refine dx_int ?_) | ((with_reducible show DX _ (.Constant (.str _) _ _) _ _ _); refine dx_str ?_) | ((with_reducible show DX _ (.Constant (.bool _) _ _) _ _ _); refine dx_bl ?_) | refine dx_non ?_)) | ((with_reducible show DX _ (.BinOp (.List [_] _) .Mult _ _) _ _ _); refine dx_rep ?_) | ((with_reducible show DX _ (.BinOp _ _ _ _) _ _ _); (first | ((with_reducible show DX _ (.BinOp _ .Add _ _) _ _ _); refine dx_bin cAdd ?_) | ((with_reducible show DX _ (.BinOp _ .Sub _ _) _ _ _); refine dx_bin op_sub ?_) | ((with_reducible show DX _ (.BinOp _ .Mult _ _) _ _ _); refine dx_bin op_uMul ?_) | ((with_reducible show DX _ (.BinOp _ .FloorDiv _ _) _ _ _); refine dx_bin op_fdivW ?_) | ((with_reducible show DX _ (.BinOp _ .Mod _ _) _ _ _); refine dx_bin op_mod ?_) | ((with_reducible show DX _ (.BinOp _ .Pow _ _) _ _ _); refine dx_bin op_pow ?_))) | ((with_reducible show DX _ (.Compare _ [_] _ _) _ _ _); (first | ((with_reducible show DX _ (.Compare _ [.Eq] [_] _) _ _ _); refine dx_cmp cEq (nomark _) ?_) | ((with_reducible show DX _ (.Compare _ [.NotEq] [_] _) _ _ _); refine dx_cmp cNe (nomark _) ?_) | ((with_reducible show DX _ (.Compare _ [.Lt] [_] _) _ _ _); refine dx_cmp op_lt (nomark _) ?_) | ((with_reducible show DX _ (.Compare _ [.LtE] [_] _) _ _ _); refine dx_cmp op_le (nomark _) ?_) | ((with_reducible show DX _ (.Compare _ [.Gt] [_] _) _ _ _); refine dx_cmp op_gt (nomark _) ?_) | ((with_reducible show DX _ (.Compare _ [.GtE] [_] _) _ _ _); refine dx_cmp op_ge (nomark _) ?_) | ((with_reducible show DX _ (.Compare _ [.Is] [_] _) _ _ _); refine dx_cmp op_uIs (nomark _) ?_) | ((with_reducible show DX _ (.Compare _ [.IsNot] [_] _) _ _ _); refine dx_cmp op_uIsn (nomark _) ?_) | ((with_reducible show DX _ (.Compare _ [.In] [_] _) _ _ _); refine dx_cmp cIn (rfl) ?_) | ((with_reducible show DX _ (.Compare _ [.NotIn] [_] _) _ _ _); refine dx_cmp cNin (rfl) ?_))) | ((with_reducible show DX _ (.Compare _ [_, _] _ _) _ _ _); (first | ((with_reducible show DX _ (.Compare _ [.LtE, .Lt] [_, _] _) _ _ _); refine dx_chain op_le op_lt ?_) | ((with_reducible show DX _ (.Compare _ [.LtE, .LtE] [_, _] _) _ _ _); refine dx_chain op_le op_le ?_))) | ((with_reducible show DX _ (.BoolOp _ [_] _) _ _ _); refine dx_one ?_) | ((with_reducible show DX _ (.BoolOp .And _ _) _ _ _); refine dx_and ?_) | ((with_reducible show DX _ (.BoolOp .Or _ _) _ _ _); refine dx_or ?_) | ((with_reducible show DX _ (.UnaryOp .Not _ _) _ _ _); refine dx_not ?_) | ((with_reducible show DX _ (.UnaryOp _ _ _) _ _ _); refine dx_neg ?_) | ((with_reducible show DX _ (.Subscript _ (.Slice _ _ _ _) _) _ _ _); refine dx_slice ?_) | ((with_reducible show DX _ (.Subscript _ _ _) _ _ _); refine dx_ix cIx ?_) | ((with_reducible show DX _ (.Tuple _ _ _) _ _ _); refine dx_tup ?_) | ((with_reducible show DX _ (.IfExp _ _ _ _) _ _ _); refine dx_ifExp ?_) | ((with_reducible show DX _ (.List _ _) _ _ _); refine dx_lst ?_) | ((with_reducible show DX _ (.Dict [] [] _) _ _ _); refine dx_dnew ?_) | ((with_reducible show DX _ (.Attribute _ _ _) _ _ _); refine dx_fld ?_) | ((with_reducible show DX _ (.Call (.Attribute _ "clear" _) [] _ _) _ _ _); refine dx_clear ?_) | ((with_reducible show DX _ (.Call (.Attribute _ "pop" _) [] _ _) _ _ _); refine dx_pop ?_) | ((with_reducible show DX _ (.Call (.Attribute _ _ _) [] _ _) _ _ _); refine dx_meth0 (by with_reducible assumption) (by with_reducible assumption) ?_) | ((with_reducible show DX _ (.Call (.Name _ _) [] _ _) _ _ _); refine dx_call0 (by with_reducible assumption) ?_) | ((with_reducible show DX _ (.Call (.Attribute _ "append" _) [_] _ _) _ _ _); refine dx_append ?_) | ((with_reducible show DX _ (.Call (.Attribute _ "join" _) [_] _ _) _ _ _); refine dx_join ?_) | ((with_reducible show DX _ (.Call (.Attribute _ "find" _) [_] _ _) _ _ _); refine dx_find ?_) | ((with_reducible show DX _ (.Call (.Attribute (.Constant (.str _) _ _) "index" _) [_] _ _) _ _ _); refine dx_sindex ?_) | ((with_reducible show DX _ (.Call (.Attribute _ "split" _) [_] _ _) _ _ _); refine dx_split ?_) | ((with_reducible show DX _ (.Call (.Attribute _ _ _) _ _ _) _ _ _); refine dx_meth (by with_reducible assumption) (by with_reducible assumption) ?_) | ((with_reducible show DX _ (.Call (.Name _ _) _ _ _) _ _ _); (first | ((with_reducible show DX _ (.Call (.Name "len" _) _ _ _) _ _ _); refine dx_len ?_) | ((with_reducible show DX _ (.Call (.Name "isinstance" _) _ _ _) _ _ _); (first | ((with_reducible show DX _ (.Call _ [_, .Tuple _ _ _] _ _) _ _ _); refine dx_isET (by with_reducible assumption) (by with_reducible assumption) (by decide +kernel) ?_) | ((with_reducible show DX _ (.Call _ [_, .Name _ _] _ _) _ _ _); first | refine dx_isE (by with_reducible assumption) ?_ | refine dx_isi ?_))) | ((with_reducible show DX _ (.Call (.Name "list" _) _ _ _) _ _ _); (first | refine dx_listA ?_ | refine dx_list ?_)) | ((with_reducible show DX _ (.Call (.Name "min" _) _ _ _) _ _ _); refine dx_min ?_) | ((with_reducible show DX _ (.Call (.Name "max" _) _ _ _) _ _ _); refine dx_max ?_) | ((with_reducible show DX _ (.Call (.Name "str" _) _ _ _) _ _ _); refine dx_cstr ?_) | ((with_reducible show DX _ (.Call (.Name "int" _) _ _ _) _ _ _); refine dx_cint ?_) | refine dx_call (by with_reducible assumption) ?_ | refine dx_make (by with_reducible assumption) ?_)))) | ((with_reducible show OpD _ _ _ _ _); (first | ((with_reducible show OpD (uAdd _) (.d (.int _)) (.d (.int _)) _ _); refine od_add ?_) | ((with_reducible show OpD (uAdd _) (.d (.str _)) (.d (.str _)) _ _); refine od_adds (by (first | (with_reducible assumption) | decide | ((try simp only [List.length_cons, List.length_nil, List.length_append, List.length_map, List.length_replicate]); omega) | (refine Nat.le_trans (cutL_len _ _ _) ?_; (try simp only [List.length_cons, List.length_nil, List.length_append, List.length_map, List.length_replicate]); omega) | (refine Nat.le_trans (Nat.add_le_add_left (cutL_len _ _ _) _) ?_; (try simp only [List.length_cons, List.length_nil, List.length_append, List.length_map, List.length_replicate]); omega) | (refine Nat.le_trans (Nat.add_le_add_right (cutL_len _ _ _) _) ?_; (try simp only [List.length_cons, List.length_nil, List.length_append, List.length_map, List.length_replicate]); omega))) ?_) | ((with_reducible show OpD (uAdd _) (.d (.tuple _)) (.d (.tuple _)) _ _); refine od_addt (by first | exact List.cons_ne_nil _ _ | decide) (by (first | (with_reducible assumption) | decide | ((try simp only [List.length_cons, List.length_nil, List.length_append, List.length_map, List.length_replicate]); omega) | (refine Nat.le_trans (cutL_len _ _ _) ?_; (try simp only [List.length_cons, List.length_nil, List.length_append, List.length_map, List.length_replicate]); omega) | (refine Nat.le_trans (Nat.add_le_add_left (cutL_len _ _ _) _) ?_; (try simp only [List.length_cons, List.length_nil, List.length_append, List.length_map, List.length_replicate]); omega) | (refine Nat.le_trans (Nat.add_le_add_right (cutL_len _ _ _) _) ?_; (try simp only [List.length_cons, List.length_nil, List.length_append, List.length_map, List.length_replicate]); omega))) ?_) | ((with_reducible show OpD (uAdd _) _ _ _ _); refine od_addl rfl rfl (by (first | (with_reducible assumption) | decide | ((try simp only [List.length_cons, List.length_nil, List.length_append, List.length_map, List.length_replicate]); omega) | (refine Nat.le_trans (cutL_len _ _ _) ?_; (try simp only [List.length_cons, List.length_nil, List.length_append, List.length_map, List.length_replicate]); omega) | (refine Nat.le_trans (Nat.add_le_add_left (cutL_len _ _ _) _) ?_; (try simp only [List.length_cons, List.length_nil, List.length_append, List.length_map, List.length_replicate]); omega) | (refine Nat.le_trans (Nat.add_le_add_right (cutL_len _ _ _) _) ?_; (try simp only [List.length_cons, List.length_nil, List.length_append, List.length_map, List.length_replicate]); omega))) ?_) | ((with_reducible show OpD (rI0 fun i j => .int (i - j)) _ _ _ _); refine od_sub ?_) | ((with_reducible show OpD uMul (.d (.int _)) (.d (.int _)) _ _); (first | refine od_mul (mul_r (by (first | omega | decide | (simp; omega)))) ?_ | refine od_mul (mul_l (by (first | omega | decide | (simp; omega)))) ?_ | refine od_mul (mul_ok (by (first | omega | decide | (simp; omega))) (by (first | omega | decide | (simp; omega)))) ?_)) | ((with_reducible show OpD (rI CDivW _) _ _ _ _); refine od_div (by (first | omega | decide | (simp; omega))) ?_) | ((with_reducible show OpD (rI CPow _) (.d (.int 10)) _ _ _); (first | (with_reducible refine od_p60 ?_) | (with_reducible refine od_p59 ?_) | (with_reducible refine od_p20 ?_) | (with_reducible refine od_p40 ?_) | (with_reducible refine od_p6 ?_) | (with_reducible refine od_p9 ?_) | (with_reducible refine od_p50 ?_) | (with_reducible refine od_p58 ?_) | (with_reducible refine od_p30 ?_) | (with_reducible refine od_p3 ?_))) | ((with_reducible show OpD (rI CPow _) _ _ _ _); refine od_pow (by decide) ?_) | ((with_reducible show OpD (rI0 fun i j => .bl (decide (i < j))) _ _ _ _); refine od_lt ?_) | ((with_reducible show OpD (rI0 fun i j => .bl (decide (i ≤ j))) _ _ _ _); refine od_le ?_) | ((with_reducible show OpD (rI0 fun i j => .bl (decide (j < i))) _ _ _ _); refine od_gt ?_) | ((with_reducible show OpD (rI0 fun i j => .bl (decide (j ≤ i))) _ _ _ _); refine od_ge ?_) | ((with_reducible show OpD (rI _ _) _ _ _ _); refine od_mod (by (first | omega | decide | (simp; omega))) ?_) | ((with_reducible show OpD (uEq _) _ _ _ _); (first | refine od_eq rfl rfl (by first | exact .int _ _ | exact .str _ _ | exact .bl _ _ | exact .nn | exact .ni _ | exact .in_ _ | exact .ns _ | exact .sn _) ?_ | refine od_eqS rfl rfl (by first | (with_reducible assumption) | decide +kernel | rfl) ?_ | refine od_eq rfl rfl (.dat (by first | (with_reducible assumption) | decide +kernel | rfl) (by first | (with_reducible assumption) | decide +kernel | rfl)) ?_)) | ((with_reducible show OpD (uNe _) _ _ _ _); (first | (with_reducible refine od_nenm ?_) | refine od_ne rfl rfl (by first | exact .int _ _ | exact .str _ _ | exact .bl _ _ | exact .nn | exact .ni _ | exact .in_ _ | exact .ns _ | exact .sn _) ?_ | refine od_neS rfl rfl (by first | (with_reducible assumption) | decide +kernel | rfl) ?_ | refine od_ne rfl rfl (.dat (by first | (with_reducible assumption) | decide +kernel | rfl) (by first | (with_reducible assumption) | decide +kernel | rfl)) ?_)) | ((with_reducible show OpD (uNin _) (.d (.str _)) (.d (.str _)) _ _); refine od_nins ?_) | ((with_reducible show OpD (uIn _) (.d (.str _)) (.d (.str _)) _ _); refine od_ins ?_) | ((with_reducible show OpD (uIn _) (.d _) (.r (.ref _)) _ _); refine od_inO (by ((repeat with_reducible first | exact Pick.zero | apply Pick.succ); (first | (all_goals fail) | fail))) rfl (by with_reducible assumption) ?_) | ((with_reducible show OpD (uNin _) (.d _) (.r (.ref _)) _ _); refine od_ninO (by ((repeat with_reducible first | exact Pick.zero | apply Pick.succ); (first | (all_goals fail) | fail))) rfl (by with_reducible assumption) ?_) | ((with_reducible show OpD uIs _ _ _ _); (first | (with_reducible refine od_isnm ?_) | refine od_is rfl ?_)) | ((with_reducible show OpD uIsn _ _ _ _); (first | (with_reducible refine od_isnnm ?_) | refine od_isn rfl ?_)) | ((with_reducible show OpD (rIx _) (.r (.ref _)) _ _ _); refine od_ixo (by ((repeat with_reducible first | exact Pick.zero | apply Pick.succ); (first | (all_goals fail) | fail))) (by first | rfl | with_reducible assumption) (by exact fun _ z => nomatch z) ?_) | ((with_reducible show OpD (rIx _) (.d (.str _)) _ _ _); refine od_ixt (by (first | (with_reducible assumption) | decide | ((try simp only [List.length_cons, List.length_nil, List.length_append, List.length_map, List.length_replicate]); omega) | (refine Nat.le_trans (cutL_len _ _ _) ?_; (try simp only [List.length_cons, List.length_nil, List.length_append, List.length_map, List.length_replicate]); omega) | (refine Nat.le_trans (Nat.add_le_add_left (cutL_len _ _ _) _) ?_; (try simp only [List.length_cons, List.length_nil, List.length_append, List.length_map, List.length_replicate]); omega) | (refine Nat.le_trans (Nat.add_le_add_right (cutL_len _ _ _) _) ?_; (try simp only [List.length_cons, List.length_nil, List.length_append, List.length_map, List.length_replicate]); omega))) (by with_reducible assumption) ?_) | ((with_reducible show OpD (rIx _) _ _ _ _); refine od_ixs rfl (by first | rfl | with_reducible assumption) ?_))) | ((with_reducible show DS _ _ _ _ _); (first | ((with_reducible show DS _ (.Assign [.Name _ _] _ _) _ _ _); (fail_if_success (with_reducible show DS _ (.Assign _ (.List [] _) _) _ _ _)); (fail_if_success (with_reducible show DS _ (.Assign _ (.ListComp _ _ _ _) _) _ _ _)); refine ds_set ?_) | ((with_reducible show DS _ (.Assign [.Attribute _ _ _] _ _) _ _ _); (fail_if_success (with_reducible show DS _ (.Assign _ (.List _ _) _) _ _ _)); (fail_if_success (with_reducible show DS _ (.Assign _ (.ListComp _ _ _ _) _) _ _ _)); refine ds_fld ?_) | ((with_reducible show DS _ (.Assign [.Subscript _ _ _] _ _) _ _ _); (fail_if_success (with_reducible show DS _ (.Assign [.Subscript (.Subscript _ _ _) _ _] _ _) _ _ _)); refine ds_seti ?_) | ((with_reducible show DS _ (.Return (some _) _) _ _ _); refine ds_ret ?_) | ((with_reducible show DS _ (.Return none _) _ _ _); refine ds_retN ?_) | ((with_reducible show DS _ (.If _ _ _ _) _ _ _); refine ds_if ?_) | ((with_reducible show DS _ (.Expr (.Constant _ _ _) _) _ _ _); refine ds_doc ?_) | ((with_reducible show DS _ (.Expr _ _) _ _ _); refine ds_expr ?_) | ((with_reducible show DS _ (.Pass _) _ _ _); refine ds_pass ?_) | ((with_reducible show DS _ (.Break _) _ _ _); refine ds_break ?_) | ((with_reducible show DS _ (.Continue _) _ _ _); refine ds_continue ?_) | ((with_reducible show DS _ (.Raise (some (.Call (.Name _ _) [.Constant (.str _) _ _] [] _)) none _) _ _ _); refine ds_raise (by with_reducible assumption) (by decide +kernel) (by decide +kernel) ?_))) | ((with_reducible show DSs _ _ _ _ _); (first | ((with_reducible show DSs _ (_ :: _) _ _ _); refine dss_cons ?_) | ((with_reducible show DSs _ [] _ _ _); refine dss_nil ?_))) | ((with_reducible show DT _ _ _ _ _); (first | ((with_reducible show DT _ (.BoolOp _ _ _) _ _ _); refine dt_bool ?_) | ((with_reducible show DT _ (.UnaryOp .Not _ _) _ _ _); refine dt_not ?_) | ((with_reducible show DT _ (.Compare _ [_] _ _) _ _ _); (first | ((with_reducible show DT _ (.Compare _ [.Eq] [_] _) _ _ _); refine dt_cmp cEq (nomark _) ?_) | ((with_reducible show DT _ (.Compare _ [.NotEq] [_] _) _ _ _); refine dt_cmp cNe (nomark _) ?_) | ((with_reducible show DT _ (.Compare _ [.Lt] [_] _) _ _ _); refine dt_cmp op_lt (nomark _) ?_) | ((with_reducible show DT _ (.Compare _ [.LtE] [_] _) _ _ _); refine dt_cmp op_le (nomark _) ?_) | ((with_reducible show DT _ (.Compare _ [.Gt] [_] _) _ _ _); refine dt_cmp op_gt (nomark _) ?_) | ((with_reducible show DT _ (.Compare _ [.GtE] [_] _) _ _ _); refine dt_cmp op_ge (nomark _) ?_) | ((with_reducible show DT _ (.Compare _ [.Is] [_] _) _ _ _); refine dt_cmp op_uIs (nomark _) ?_) | ((with_reducible show DT _ (.Compare _ [.IsNot] [_] _) _ _ _); refine dt_cmp op_uIsn (nomark _) ?_) | ((with_reducible show DT _ (.Compare _ [.In] [_] _) _ _ _); refine dt_cmp cIn (rfl) ?_) | ((with_reducible show DT _ (.Compare _ [.NotIn] [_] _) _ _ _); refine dt_cmp cNin (rfl) ?_))) | ((with_reducible show DT _ (.Compare _ [_, _] _ _) _ _ _); (first | ((with_reducible show DT _ (.Compare _ [.LtE, .Lt] [_, _] _) _ _ _); refine dt_chain op_le op_lt ?_) | ((with_reducible show DT _ (.Compare _ [.LtE, .LtE] [_, _] _) _ _ _); refine dt_chain op_le op_le ?_))) | ((with_reducible show DT _ _ _ _ _); refine dt_tru ?_))) | ((with_reducible show DW _ _ _ _ _); (first | ((with_reducible show DW _ (.BoolOp .And [_] _) _ _ _); refine dw_and1 ?_) | ((with_reducible show DW _ (.BoolOp .Or [_] _) _ _ _); refine dw_or1 ?_) | ((with_reducible show DW _ (.BoolOp .And _ _) _ _ _); refine dw_and ?_) | ((with_reducible show DW _ (.BoolOp .Or _ _) _ _ _); refine dw_or ?_))) | ((with_reducible show DA _ _ _ _ _); (first | ((with_reducible show DA _ (_ :: _) _ _ _); refine da_cons ?_) | ((with_reducible show DA _ [] _ _ _); refine da_nil ?_))) | ((with_reducible show if _ = true then _ else _); (first | (with_reducible refine ite_tt ?_) | (with_reducible refine ite_ff ?_) | (with_reducible refine ite_nt ?_) | (with_reducible refine ite_nf ?_) | ((with_reducible show if decide _ = true then _ else _); first | refine ite_dt (by (first | (with_reducible assumption) | omega | decide +kernel | ((simp only [List.length_cons, List.length_nil, List.length_map, List.length_append]); omega) | ((simp only [List.length_cons, List.length_nil, List.length_map, List.length_append]); (first | (all_goals fail) | fail)))) ?_ | refine ite_df (by (first | (with_reducible assumption) | omega | decide +kernel | ((simp only [List.length_cons, List.length_nil, List.length_map, List.length_append]); omega) | ((simp only [List.length_cons, List.length_nil, List.length_map, List.length_append]); (first | (all_goals fail) | fail)))) ?_) | ((with_reducible show if (!decide _) = true then _ else _); first | refine ite_ndf (by (first | (with_reducible assumption) | omega | decide +kernel | ((simp only [List.length_cons, List.length_nil, List.length_map, List.length_append]); omega) | ((simp only [List.length_cons, List.length_nil, List.length_map, List.length_append]); (first | (all_goals fail) | fail)))) ?_ | refine ite_ndt (by (first | (with_reducible assumption) | omega | decide +kernel | ((simp only [List.length_cons, List.length_nil, List.length_map, List.length_append]); omega) | ((simp only [List.length_cons, List.length_nil, List.length_map, List.length_append]); (first | (all_goals fail) | fail)))) ?_) | (with_reducible refine ite_nn ?_) | ((with_reducible show if PyData.eqv _ _ = true then _ else _); first | refine ite_t (by decide +kernel) ?_ | refine ite_f (by decide +kernel) ?_ | refine ite_t rfl ?_ | refine ite_f rfl ?_) | ((with_reducible show if (!PyData.eqv _ _) = true then _ else _); first | refine ite_t (by decide +kernel) ?_ | refine ite_f (by decide +kernel) ?_ | refine ite_t rfl ?_ | refine ite_f rfl ?_) | ((with_reducible show if wholeD (.int _) = true then _ else _); refine ite_t rfl ?_) | ((with_reducible show if (!wholeD (.int _)) = true then _ else _); refine ite_f rfl ?_) | ((with_reducible show if isD _ _ = true then _ else _); first | refine ite_t rfl ?_ | refine ite_f rfl ?_) | ((with_reducible show if (!isD _ _) = true then _ else _); first | refine ite_t rfl ?_ | refine ite_f rfl ?_))) | ((with_reducible show Exists _); (first | (with_reducible refine me_tab (by ((repeat with_reducible first | exact Pick.zero | apply Pick.succ); (first | (all_goals fail) | fail))) (by decide +kernel) ?_) | ((with_reducible show ∃ i ρ', SetS _ _ _ i _ ρ' ∧ _); refine ⟨_, _, by ((repeat with_reducible first | exact SetS.zero | apply SetS.succ); (first | (all_goals fail) | fail)), ?_⟩) | (with_reducible refine ex_list rfl ?_) | ((with_reducible show ∃ ds, Sl.asSeq _ = some ds ∧ _); refine ex_seq rfl ?_) | ((with_reducible show ∃ ds, Datas _ ds ∧ _); refine ex_datas (by ((repeat with_reducible first | exact datas_nil | apply datas_cons); (first | (all_goals fail) | fail))) (by first | exact Nat.le_of_ble_eq_true rfl | (first | (with_reducible assumption) | decide | ((try simp only [List.length_cons, List.length_nil, List.length_append, List.length_map, List.length_replicate]); omega) | (refine Nat.le_trans (cutL_len _ _ _) ?_; (try simp only [List.length_cons, List.length_nil, List.length_append, List.length_map, List.length_replicate]); omega) | (refine Nat.le_trans (Nat.add_le_add_left (cutL_len _ _ _) _) ?_; (try simp only [List.length_cons, List.length_nil, List.length_append, List.length_map, List.length_replicate]); omega) | (refine Nat.le_trans (Nat.add_le_add_right (cutL_len _ _ _) _) ?_; (try simp only [List.length_cons, List.length_nil, List.length_append, List.length_map, List.length_replicate]); omega))) ?_) | ((with_reducible show ∃ C p fs g sl, _ = Sl.r (.ref p) ∧ Pick _ (insM C p fs) g ∧ FldC _ C _ ∧ FldAt fs _ sl ∧ _); refine ex_fld (by ((repeat with_reducible first | exact Pick.zero | apply Pick.succ); (first | (all_goals fail) | fail))) (fldc (by with_reducible assumption) (by decide +kernel)) (by ((repeat with_reducible first | exact FldAt.zero | apply FldAt.succ); (first | (all_goals fail) | fail))) (by (simp only [List.map_cons, List.map_nil]); decide +kernel) (by exact fun _ z => nomatch z) ?_) | ((with_reducible show ∃ C p fs g fs2, _ = Sl.r (.ref p) ∧ Pick _ (insM C p fs) g ∧ FldC _ C _ ∧ (FldSet fs _ _ fs2 ∨ _) ∧ _); first | refine ex_fset (by ((repeat with_reducible first | exact Pick.zero | apply Pick.succ); (first | (all_goals fail) | fail))) (fldc (by with_reducible assumption) (by decide +kernel)) (by ((repeat with_reducible first | exact FldSet.zero | apply FldSet.succ); (first | (all_goals fail) | fail))) (by (simp only [List.map_cons, List.map_nil]); decide +kernel) (by exact Nat.le_of_ble_eq_true rfl) ?_ | refine ex_fnew (by ((repeat with_reducible first | exact Pick.zero | apply Pick.succ); (first | (all_goals fail) | fail))) (fldc (by with_reducible assumption) (by decide +kernel)) (by (simp only [List.map_cons, List.map_nil]); decide +kernel) (by (simp only [List.map_cons, List.map_nil]); decide +kernel) (by exact Nat.le_of_ble_eq_true rfl) ?_) | ((with_reducible show ∃ p ss f k j, _ = Sl.r (.ref p) ∧ _ = Sl.d (.int k) ∧ _); refine ex_seti (by ((repeat with_reducible first | exact Pick.zero | apply Pick.succ); (first | (all_goals fail) | fail))) (by first | with_reducible assumption | rfl) ?_) | (with_reducible refine ex_frz (by ((repeat with_reducible first | exact Pick.zero | apply Pick.succ); (first | (all_goals fail) | fail))) ?_) | (with_reducible refine ex_own (by ((repeat with_reducible first | exact Pick.zero | apply Pick.succ); (first | (all_goals fail) | fail))) ?_) | (with_reducible refine ex_app (by ((repeat with_reducible first | exact Pick.zero | apply Pick.succ); (first | (all_goals fail) | fail))) (by (first | (with_reducible assumption) | decide | ((try simp only [List.length_cons, List.length_nil, List.length_append, List.length_map, List.length_replicate]); omega) | (refine Nat.le_trans (cutL_len _ _ _) ?_; (try simp only [List.length_cons, List.length_nil, List.length_append, List.length_map, List.length_replicate]); omega) | (refine Nat.le_trans (Nat.add_le_add_left (cutL_len _ _ _) _) ?_; (try simp only [List.length_cons, List.length_nil, List.length_append, List.length_map, List.length_replicate]); omega) | (refine Nat.le_trans (Nat.add_le_add_right (cutL_len _ _ _) _) ?_; (try simp only [List.length_cons, List.length_nil, List.length_append, List.length_map, List.length_replicate]); omega))) ?_) | ((with_reducible show ∃ ys, RefsE _ _ ys ∧ _); (first | refine ex_refs (w := false) (by ((repeat with_reducible first | exact RefsE.nil | apply RefsE.cons); (first | (all_goals fail) | fail))) (by decide +kernel) ?_ | refine ex_refs (w := true) (by ((repeat with_reducible first | exact RefsE.nil | apply RefsE.cons); (first | (all_goals fail) | fail))) (by decide +kernel) ?_)) | ((with_reducible show ∃ rs', Ent [_] (rs' ++ [_]) ∧ _); (refine end_ex ?_; with_reducible assumption)) | ((with_reducible show ∃ ρ', SetS _ _ _ _ _ ρ' ∧ _); refine ⟨_, by ((repeat with_reducible first | exact SetS.zero | apply SetS.succ); (first | (all_goals fail) | fail)), ?_⟩) | (with_reducible refine ex_rep (by ((repeat with_reducible first | exact Pick.zero | apply Pick.succ); (first | (all_goals fail) | fail))) (by (first | omega | decide | (simp; omega))) ?_) | (with_reducible refine ex_dat ?_) | (with_reducible refine ex_int ?_) | (with_reducible refine ex_str ?_) | (with_reducible refine ex_dic (by ((repeat with_reducible first | exact Pick.zero | apply Pick.succ); (first | (all_goals fail) | fail))) ?_) | (with_reducible refine ex_din1 (by ((repeat with_reducible first | exact Pick.zero | apply Pick.succ); (first | (all_goals fail) | fail))) ?_) | (with_reducible refine ex_din2 (by ((repeat with_reducible first | exact Pick.zero | apply Pick.succ); (first | (all_goals fail) | fail))) ?_) | (with_reducible refine ex_dlen (by ((repeat with_reducible first | exact Pick.zero | apply Pick.succ); (first | (all_goals fail) | fail))) ?_) | ((with_reducible show ∃ p kvs f k, _ = Sl.r (.ref p) ∧ _ = Sl.d (keyD k) ∧ Pick _ (dictM p kvs) f ∧ kvs.length ≤ _ ∧ _); first | refine ex_dputI (by ((repeat with_reducible first | exact Pick.zero | apply Pick.succ); (first | (all_goals fail) | fail))) (by (first | (with_reducible assumption) | decide | ((try simp only [List.length_cons, List.length_nil, List.length_append, List.length_map, List.length_replicate]); omega) | (refine Nat.le_trans (cutL_len _ _ _) ?_; (try simp only [List.length_cons, List.length_nil, List.length_append, List.length_map, List.length_replicate]); omega) | (refine Nat.le_trans (Nat.add_le_add_left (cutL_len _ _ _) _) ?_; (try simp only [List.length_cons, List.length_nil, List.length_append, List.length_map, List.length_replicate]); omega) | (refine Nat.le_trans (Nat.add_le_add_right (cutL_len _ _ _) _) ?_; (try simp only [List.length_cons, List.length_nil, List.length_append, List.length_map, List.length_replicate]); omega))) ?_ | refine ex_dputS (by ((repeat with_reducible first | exact Pick.zero | apply Pick.succ); (first | (all_goals fail) | fail))) (by (first | (with_reducible assumption) | decide | ((try simp only [List.length_cons, List.length_nil, List.length_append, List.length_map, List.length_replicate]); omega) | (refine Nat.le_trans (cutL_len _ _ _) ?_; (try simp only [List.length_cons, List.length_nil, List.length_append, List.length_map, List.length_replicate]); omega) | (refine Nat.le_trans (Nat.add_le_add_left (cutL_len _ _ _) _) ?_; (try simp only [List.length_cons, List.length_nil, List.length_append, List.length_map, List.length_replicate]); omega) | (refine Nat.le_trans (Nat.add_le_add_right (cutL_len _ _ _) _) ?_; (try simp only [List.length_cons, List.length_nil, List.length_append, List.length_map, List.length_replicate]); omega))) ?_) | ((with_reducible show ∃ p kvs f k, _ = Sl.r (.ref p) ∧ _ = Sl.d (keyD k) ∧ Pick _ (dictM p kvs) f ∧ _); first | refine ex_din1 (by ((repeat with_reducible first | exact Pick.zero | apply Pick.succ); (first | (all_goals fail) | fail))) ?_ | refine ex_din2 (by ((repeat with_reducible first | exact Pick.zero | apply Pick.succ); (first | (all_goals fail) | fail))) ?_) | ((with_reducible show ∃ kvs f k s, _ = Sl.d (keyD k) ∧ Pick _ (dictM _ kvs) f ∧ valS kvs k = some s ∧ _); first | refine ex_dpopI (by ((repeat with_reducible first | exact Pick.zero | apply Pick.succ); (first | (all_goals fail) | fail))) (by with_reducible assumption) (by exact fun _ z => nomatch z) ?_ | refine ex_dpopS (by ((repeat with_reducible first | exact Pick.zero | apply Pick.succ); (first | (all_goals fail) | fail))) (by with_reducible assumption) (by exact fun _ z => nomatch z) ?_) | ((with_reducible show ∃ p kvs f k s, _ = Sl.r (.ref p) ∧ _ = Sl.d (keyD k) ∧ Pick _ (dictM p kvs) f ∧ _); first | refine ex_dget (by ((repeat with_reducible first | exact Pick.zero | apply Pick.succ); (first | (all_goals fail) | fail))) (by with_reducible assumption) (by exact fun _ z => nomatch z) ?_ | refine ex_dgetS (by ((repeat with_reducible first | exact Pick.zero | apply Pick.succ); (first | (all_goals fail) | fail))) (by with_reducible assumption) (by exact fun _ z => nomatch z) ?_))) | (first | (with_reducible refine kt ?_) | ((with_reducible show ∀ _ : Addr, _); intro q) | ((with_reducible show Le _ _ ∧ _ = _); exact ⟨by ((repeat with_reducible first | exact Le.nil | apply Le.eq | apply Le.un); (first | (all_goals fail) | fail)), rfl⟩) | ((with_reducible show CallEnd _ _ _ _ _ _); (first | ((with_reducible refine ce_tab (by ((repeat with_reducible first | exact Pick.zero | apply Pick.succ); (first | (all_goals fail) | fail))) ?_); (first | refine ⟨_, rfl, rfl, by (first | (with_reducible trivial) | (with_reducible assumption) | omega | (exact ⟨by with_reducible assumption, by with_reducible assumption⟩)), ?_⟩ | refine ⟨_, _, rfl, rfl, by (first | (with_reducible trivial) | (with_reducible assumption) | omega | (exact ⟨by with_reducible assumption, by with_reducible assumption⟩)), ?_⟩ | refine ⟨_, _, _, rfl, rfl, by (first | (with_reducible trivial) | (with_reducible assumption) | omega | (exact ⟨by with_reducible assumption, by with_reducible assumption⟩)), ?_⟩ | refine ⟨_, _, _, _, rfl, rfl, by (first | (with_reducible trivial) | (with_reducible assumption) | omega | (exact ⟨by with_reducible assumption, by with_reducible assumption⟩)), ?_⟩ | refine ⟨_, _, _, _, _, rfl, rfl, by (first | (with_reducible trivial) | (with_reducible assumption) | omega | (exact ⟨by with_reducible assumption, by with_reducible assumption⟩)), ?_⟩ | refine ⟨_, _, _, _, _, _, rfl, rfl, by (first | (with_reducible trivial) | (with_reducible assumption) | omega | (exact ⟨by with_reducible assumption, by with_reducible assumption⟩)), ?_⟩ | refine ⟨_, _, _, _, _, _, _, rfl, rfl, by (first | (with_reducible trivial) | (with_reducible assumption) | omega | (exact ⟨by with_reducible assumption, by with_reducible assumption⟩)), ?_⟩ | refine ⟨_, _, _, _, _, _, _, _, rfl, rfl, by (first | (with_reducible trivial) | (with_reducible assumption) | omega | (exact ⟨by with_reducible assumption, by with_reducible assumption⟩)), ?_⟩)) | (refine ce_inl ?_; first | refine ⟨_, rfl, rfl, by (first | (with_reducible trivial) | (with_reducible assumption) | omega | (exact ⟨by with_reducible assumption, by with_reducible assumption⟩)), ?_⟩ | refine ⟨_, _, rfl, rfl, by (first | (with_reducible trivial) | (with_reducible assumption) | omega | (exact ⟨by with_reducible assumption, by with_reducible assumption⟩)), ?_⟩ | refine ⟨_, _, _, rfl, rfl, by (first | (with_reducible trivial) | (with_reducible assumption) | omega | (exact ⟨by with_reducible assumption, by with_reducible assumption⟩)), ?_⟩ | refine ⟨_, _, _, _, rfl, rfl, by (first | (with_reducible trivial) | (with_reducible assumption) | omega | (exact ⟨by with_reducible assumption, by with_reducible assumption⟩)), ?_⟩ | refine ⟨_, _, _, _, _, rfl, rfl, by (first | (with_reducible trivial) | (with_reducible assumption) | omega | (exact ⟨by with_reducible assumption, by with_reducible assumption⟩)), ?_⟩ | refine ⟨_, _, _, _, _, _, rfl, rfl, by (first | (with_reducible trivial) | (with_reducible assumption) | omega | (exact ⟨by with_reducible assumption, by with_reducible assumption⟩)), ?_⟩))) | ((with_reducible show CallEnd0 _ _ _ _); (first | ((with_reducible refine ce0_tab (by ((repeat with_reducible first | exact Pick.zero | apply Pick.succ); (first | (all_goals fail) | fail))) ?_); (first | refine ⟨_, rfl, rfl, by (first | (with_reducible trivial) | (with_reducible assumption) | omega | (exact ⟨by with_reducible assumption, by with_reducible assumption⟩)), ?_⟩ | refine ⟨_, _, rfl, rfl, by (first | (with_reducible trivial) | (with_reducible assumption) | omega | (exact ⟨by with_reducible assumption, by with_reducible assumption⟩)), ?_⟩ | refine ⟨_, _, _, rfl, rfl, by (first | (with_reducible trivial) | (with_reducible assumption) | omega | (exact ⟨by with_reducible assumption, by with_reducible assumption⟩)), ?_⟩ | refine ⟨_, _, _, _, rfl, rfl, by (first | (with_reducible trivial) | (with_reducible assumption) | omega | (exact ⟨by with_reducible assumption, by with_reducible assumption⟩)), ?_⟩ | refine ⟨_, _, _, _, _, rfl, rfl, by (first | (with_reducible trivial) | (with_reducible assumption) | omega | (exact ⟨by with_reducible assumption, by with_reducible assumption⟩)), ?_⟩ | refine ⟨_, _, _, _, _, _, rfl, rfl, by (first | (with_reducible trivial) | (with_reducible assumption) | omega | (exact ⟨by with_reducible assumption, by with_reducible assumption⟩)), ?_⟩ | refine ⟨_, _, _, _, _, _, _, rfl, rfl, by (first | (with_reducible trivial) | (with_reducible assumption) | omega | (exact ⟨by with_reducible assumption, by with_reducible assumption⟩)), ?_⟩ | refine ⟨_, _, _, _, _, _, _, _, rfl, rfl, by (first | (with_reducible trivial) | (with_reducible assumption) | omega | (exact ⟨by with_reducible assumption, by with_reducible assumption⟩)), ?_⟩)))) | ((with_reducible show (bodyPost _ _).rt _ _); (first | (refine end_rt ?_; with_reducible assumption) | refine end_rtT (decide_eq_true (by omega)) (by with_reducible assumption) | refine end_rtT rfl (by with_reducible assumption))) | ((with_reducible show TrD (.d (.bool _)) _ _); refine tr_bool ?_) | ((with_reducible show TrD (.d .none) _ _); refine tr_none ?_) | ((with_reducible show TrD (.d (.int _)) _ _); refine tr_int ?_) | ((with_reducible show TrD (.d (.list _)) _ _); refine tr_list ?_) | ((with_reducible show TrD (.d (.tuple _)) _ _); refine tr_tuple ?_) | ((with_reducible show TrD (.r (.ref _)) _ _); (first | refine tr_own (by ((repeat with_reducible first | exact Pick.zero | apply Pick.succ); (first | (all_goals fail) | fail))) ?_ | refine tr_dict (by ((repeat with_reducible first | exact Pick.zero | apply Pick.succ); (first | (all_goals fail) | fail))) ?_)) | ((with_reducible show CaD (rIsi _) _ _ _); (first | refine cd_isiT (by decide) rfl rfl ?_ | refine cd_isiF (by decide) rfl rfl ?_ | refine cd_isi (by decide) rfl ?_)) | ((with_reducible show CaD _ [.d (.int _), .d (.int _)] _ _); (first | refine cd_min ?_ | refine cd_max ?_)) | ((with_reducible show LenD (.d (.str _)) _ _); refine ld_str (by (first | (with_reducible assumption) | decide | ((try simp only [List.length_cons, List.length_nil, List.length_append, List.length_map, List.length_replicate]); omega) | (refine Nat.le_trans (cutL_len _ _ _) ?_; (try simp only [List.length_cons, List.length_nil, List.length_append, List.length_map, List.length_replicate]); omega) | (refine Nat.le_trans (Nat.add_le_add_left (cutL_len _ _ _) _) ?_; (try simp only [List.length_cons, List.length_nil, List.length_append, List.length_map, List.length_replicate]); omega) | (refine Nat.le_trans (Nat.add_le_add_right (cutL_len _ _ _) _) ?_; (try simp only [List.length_cons, List.length_nil, List.length_append, List.length_map, List.length_replicate]); omega))) ?_) | ((with_reducible show LenD (.r (.ref _)) _ _); refine ld_own (by ((repeat with_reducible first | exact Pick.zero | apply Pick.succ); (first | (all_goals fail) | fail))) ?_) | ((with_reducible show LenD _ _ _); refine ld_seq rfl ?_) | ((with_reducible show SlD _ (.d (.list _)) _ _ _ _); refine sd_list ?_) | ((with_reducible show SlD _ (.n _) _ _ _ _); refine sd_list ?_) | ((with_reducible show SlD _ (.r (.ref _)) _ _ _ _); refine sd_own (by ((repeat with_reducible first | exact Pick.zero | apply Pick.succ); (first | (all_goals fail) | fail))) (fun q => ?_)) | ((with_reducible show SlD _ (.d (.str _)) _ _ _ _); refine sd_str (by (first | (with_reducible assumption) | decide | ((try simp only [List.length_cons, List.length_nil, List.length_append, List.length_map, List.length_replicate]); omega) | (refine Nat.le_trans (cutL_len _ _ _) ?_; (try simp only [List.length_cons, List.length_nil, List.length_append, List.length_map, List.length_replicate]); omega) | (refine Nat.le_trans (Nat.add_le_add_left (cutL_len _ _ _) _) ?_; (try simp only [List.length_cons, List.length_nil, List.length_append, List.length_map, List.length_replicate]); omega) | (refine Nat.le_trans (Nat.add_le_add_right (cutL_len _ _ _) _) ?_; (try simp only [List.length_cons, List.length_nil, List.length_append, List.length_map, List.length_replicate]); omega))) ?_) | ((with_reducible show SlD _ (.d (.tuple [_, _, _, _])) none (some 2) _ _); refine sd_t42 ?_) | ((with_reducible show SlD _ (.d (.tuple [_, _, _, _, _, _])) (some 2) (some 5) _ _); refine sd_t625 ?_) | ((with_reducible show SlD _ (.d (.tuple [_, _, _, _])) (some 2) none _ _); refine sd_t4f2 ?_) | ((with_reducible show SlD _ (.d (.tuple _)) _ _ _ _); refine sd_tup (by first | decide | ((simp only [List.length_cons, List.length_nil]); decide +kernel)) ?_) | ((with_reducible show DO _ none _ _ _); refine do_none ?_) | ((with_reducible show DO _ (some _) _ _ _); refine do_some ?_) | (with_reducible refine ex_eqr ?_) | ((with_reducible show LsD _ _ _); first | refine ls_s (by (first | (with_reducible assumption) | decide | ((try simp only [List.length_cons, List.length_nil, List.length_append, List.length_map, List.length_replicate]); omega) | (refine Nat.le_trans (cutL_len _ _ _) ?_; (try simp only [List.length_cons, List.length_nil, List.length_append, List.length_map, List.length_replicate]); omega) | (refine Nat.le_trans (Nat.add_le_add_left (cutL_len _ _ _) _) ?_; (try simp only [List.length_cons, List.length_nil, List.length_append, List.length_map, List.length_replicate]); omega) | (refine Nat.le_trans (Nat.add_le_add_right (cutL_len _ _ _) _) ?_; (try simp only [List.length_cons, List.length_nil, List.length_append, List.length_map, List.length_replicate]); omega))) ?_ | refine ls_d rfl ?_) | ((with_reducible show LiD _ _ _); first | refine li_o (by ((repeat with_reducible first | exact Pick.zero | apply Pick.succ); (first | (all_goals fail) | fail))) (fun q => ?_) | refine li_d rfl (fun q => ?_)) | ((with_reducible show _ < 1920 ∧ _); refine ⟨log2_ok (by (first | omega | decide | (simp; omega))), ?_⟩) | ((with_reducible show CaD (rIsE _ _ _) [_, .r (.ty _)] _ _); refine cd_isEV (by with_reducible assumption) (by decide +kernel) ?_) | ((with_reducible show CaD (rIsE _ _ _) _ _ _); (first | refine cd_isE1 (r := true) (by with_reducible assumption) (by decide +kernel) (by decide +kernel) (by decide +kernel) ?_ | refine cd_isE1 (r := false) (by with_reducible assumption) (by decide +kernel) (by decide +kernel) (by decide +kernel) ?_)))) | dsimp only [List.nil_append, List.cons_append, Sl.plain] | refine ite_d (fun h => ?_) (fun h => ?_) | refine ite_nd (fun h => ?_) (fun h => ?_) | refine ite_b (fun h => ?_) (fun h => ?_) | refine od_ixI rfl ⟨by omega, by (simp only [List.length_cons, List.length_nil]; omega)⟩ rfl (fun i => ?_) | refine od_ixA rfl ⟨by omega, by (simp only [List.length_cons, List.length_nil]; omega)⟩ (fun d hd => ?_) | intro z)))
local macro_rules | `(tactic| walk_at "nrm") => `(tactic| (dsimp only [List.replicate, List.cons_append, List.nil_append, List.append_nil]))
local macro_rules | `(tactic| walk_at "st") => `(tactic| ((try dsimp only [List.replicate, List.cons_append, List.nil_append, List.append_nil]); refine dss_cons ?_))
local macro_rules | `(tactic| walk_at "end") => `(tactic| (first | (with_reducible exact ⟨[], rfl, by assumption⟩) | exact ⟨[], rfl, by assumption⟩))
local macro_rules | `(tactic| walk_at "all") => `(tactic| (walk_at "st"; walk_at "go"; walk_at "end"))

/-! ### the end -/
theorem all_mk {l : PySem.W.OpenLaw} {w : World} {K : PySem.W.Frag} {h : Heap} {mg : Str → Option Value} {fa : Addr} (X : K.In h) (G : h.Ns mainGlobals mg) (hfa : mg "law" = some (.ref fa))
    {p_upper_of : Addr} {od_upper_of an_upper_of : Option Addr} {sl_upper_of : Array (Option Value)} {oc_upper_of kV_upper_of dc_upper_of pm_upper_of cd_upper_of ct_upper_of : Value}
    {p_lower_of : Addr} {od_lower_of an_lower_of : Option Addr} {sl_lower_of : Array (Option Value)} {oc_lower_of kV_lower_of dc_lower_of pm_lower_of cd_lower_of ct_lower_of : Value}
    {p_Table___init__ : Addr} {od_Table___init__ an_Table___init__ : Option Addr} {sl_Table___init__ : Array (Option Value)} {oc_Table___init__ kV_Table___init__ dc_Table___init__ pm_Table___init__ cd_Table___init__ ct_Table___init__ : Value}
    {p_Table_lay : Addr} {od_Table_lay an_Table_lay : Option Addr} {sl_Table_lay : Array (Option Value)} {oc_Table_lay kV_Table_lay dc_Table_lay pm_Table_lay cd_Table_lay ct_Table_lay : Value}
    {p_Table_strike : Addr} {od_Table_strike an_Table_strike : Option Addr} {sl_Table_strike : Array (Option Value)} {oc_Table_strike kV_Table_strike dc_Table_strike pm_Table_strike cd_Table_strike ct_Table_strike : Value}
    {p_Table_leaves : Addr} {od_Table_leaves an_Table_leaves : Option Addr} {sl_Table_leaves : Array (Option Value)} {oc_Table_leaves kV_Table_leaves dc_Table_leaves pm_Table_leaves cd_Table_leaves ct_Table_leaves : Value}
    {p_Lwhole : Addr} {od_Lwhole an_Lwhole : Option Addr} {sl_Lwhole : Array (Option Value)} {oc_Lwhole kV_Lwhole dc_Lwhole pm_Lwhole cd_Lwhole ct_Lwhole : Value}
    {p_Ldue_of : Addr} {od_Ldue_of an_Ldue_of : Option Addr} {sl_Ldue_of : Array (Option Value)} {oc_Ldue_of kV_Ldue_of dc_Ldue_of pm_Ldue_of cd_Ldue_of ct_Ldue_of : Value}
    {p_Lis_due : Addr} {od_Lis_due an_Lis_due : Option Addr} {sl_Lis_due : Array (Option Value)} {oc_Lis_due kV_Lis_due dc_Lis_due pm_Lis_due cd_Lis_due ct_Lis_due : Value}
    {p_Lcopied : Addr} {od_Lcopied an_Lcopied : Option Addr} {sl_Lcopied : Array (Option Value)} {oc_Lcopied kV_Lcopied dc_Lcopied pm_Lcopied cd_Lcopied ct_Lcopied : Value}
    {p_law : Addr} {od_law an_law : Option Addr} {sl_law : Array (Option Value)} {oc_law kV_law dc_law pm_law cd_law ct_law : Value}
    {C_Table : Addr}
    {t_FAN_tables : Tok}
    {t_FAN_places : Tok}
    (aC_Table : PySem.W.nsIn K mainGlobals "Table" = some (some (.ref C_Table)))
    (pg_Table : PySem.W.plainGet K C_Table Str.empty = true)
    (hd_Table : PySem.W.hasDictIn K C_Table = true)
    (po_Table : PySem.W.plainOver K C_Table = true)
    (sa_Table : PySem.W.findIn K (.ref C_Table) "__setattr__" = some (some (.builtin "object.__setattr__")))
    (mkf_Table : PySem.W.makesIn K C_Table = true)
    (kc_Table : PySem.W.keepIn K (.ref C_Table) = true)
    (na_Table_uppers : PySem.W.findIn K (.ref C_Table) "uppers" = some none)
    (a_upper_of : PySem.W.nsIn K mainGlobals "upper_of" = some (some (.ref p_upper_of)))
    (l_upper_of : K.lookup p_upper_of = some ⟨oc_upper_of, od_upper_of, .func (PySem.W.fnOf "upper_of" "upper_of" (defArgs s_upper_of) (defBody s_upper_of) (defScope s_upper_of) .none kV_upper_of dc_upper_of pm_upper_of an_upper_of cd_upper_of ct_upper_of), sl_upper_of⟩)
    (c_upper_of : PySem.W.codeIn K cd_upper_of "upper_of" = true)
    (k_upper_of : PySem.W.keepIn K (.ref p_upper_of) = true)
    (a_lower_of : PySem.W.nsIn K mainGlobals "lower_of" = some (some (.ref p_lower_of)))
    (l_lower_of : K.lookup p_lower_of = some ⟨oc_lower_of, od_lower_of, .func (PySem.W.fnOf "lower_of" "lower_of" (defArgs s_lower_of) (defBody s_lower_of) (defScope s_lower_of) .none kV_lower_of dc_lower_of pm_lower_of an_lower_of cd_lower_of ct_lower_of), sl_lower_of⟩)
    (c_lower_of : PySem.W.codeIn K cd_lower_of "lower_of" = true)
    (k_lower_of : PySem.W.keepIn K (.ref p_lower_of) = true)
    (a_Table___init__ : PySem.W.findIn K (.ref C_Table) "__init__" = some (some (.ref p_Table___init__)))
    (i_Table___init__ : PySem.W.isFn K (.ref p_Table___init__) = true)
    (l_Table___init__ : K.lookup p_Table___init__ = some ⟨oc_Table___init__, od_Table___init__, .func (PySem.W.fnOf "__init__" "Table.__init__" (defArgs s_Table___init__) (defBody s_Table___init__) (defScope s_Table___init__) .none kV_Table___init__ dc_Table___init__ pm_Table___init__ an_Table___init__ cd_Table___init__ ct_Table___init__), sl_Table___init__⟩)
    (c_Table___init__ : PySem.W.codeIn K cd_Table___init__ "Table.__init__" = true)
    (k_Table___init__ : PySem.W.keepIn K (.ref p_Table___init__) = true)
    (a_Table_lay : PySem.W.findIn K (.ref C_Table) "lay" = some (some (.ref p_Table_lay)))
    (i_Table_lay : PySem.W.isFn K (.ref p_Table_lay) = true)
    (l_Table_lay : K.lookup p_Table_lay = some ⟨oc_Table_lay, od_Table_lay, .func (PySem.W.fnOf "lay" "Table.lay" (defArgs s_Table_lay) (defBody s_Table_lay) (defScope s_Table_lay) .none kV_Table_lay dc_Table_lay pm_Table_lay an_Table_lay cd_Table_lay ct_Table_lay), sl_Table_lay⟩)
    (c_Table_lay : PySem.W.codeIn K cd_Table_lay "Table.lay" = true)
    (k_Table_lay : PySem.W.keepIn K (.ref p_Table_lay) = true)
    (a_Table_strike : PySem.W.findIn K (.ref C_Table) "strike" = some (some (.ref p_Table_strike)))
    (i_Table_strike : PySem.W.isFn K (.ref p_Table_strike) = true)
    (l_Table_strike : K.lookup p_Table_strike = some ⟨oc_Table_strike, od_Table_strike, .func (PySem.W.fnOf "strike" "Table.strike" (defArgs s_Table_strike) (defBody s_Table_strike) (defScope s_Table_strike) .none kV_Table_strike dc_Table_strike pm_Table_strike an_Table_strike cd_Table_strike ct_Table_strike), sl_Table_strike⟩)
    (c_Table_strike : PySem.W.codeIn K cd_Table_strike "Table.strike" = true)
    (k_Table_strike : PySem.W.keepIn K (.ref p_Table_strike) = true)
    (a_Table_leaves : PySem.W.findIn K (.ref C_Table) "leaves" = some (some (.ref p_Table_leaves)))
    (i_Table_leaves : PySem.W.isFn K (.ref p_Table_leaves) = true)
    (l_Table_leaves : K.lookup p_Table_leaves = some ⟨oc_Table_leaves, od_Table_leaves, .func (PySem.W.fnOf "leaves" "Table.leaves" (defArgs s_Table_leaves) (defBody s_Table_leaves) (defScope s_Table_leaves) .none kV_Table_leaves dc_Table_leaves pm_Table_leaves an_Table_leaves cd_Table_leaves ct_Table_leaves), sl_Table_leaves⟩)
    (c_Table_leaves : PySem.W.codeIn K cd_Table_leaves "Table.leaves" = true)
    (k_Table_leaves : PySem.W.keepIn K (.ref p_Table_leaves) = true)
    (a_Lwhole : PySem.W.nsIn K mainGlobals "_law_whole" = some (some (.ref p_Lwhole)))
    (l_Lwhole : K.lookup p_Lwhole = some ⟨oc_Lwhole, od_Lwhole, .func (PySem.W.fnOf "_law_whole" "_law_whole" (defArgs s_Lwhole) (defBody s_Lwhole) (defScope s_Lwhole) .none kV_Lwhole dc_Lwhole pm_Lwhole an_Lwhole cd_Lwhole ct_Lwhole), sl_Lwhole⟩)
    (c_Lwhole : PySem.W.codeIn K cd_Lwhole "_law_whole" = true)
    (k_Lwhole : PySem.W.keepIn K (.ref p_Lwhole) = true)
    (a_Ldue_of : PySem.W.nsIn K mainGlobals "_law_due_of" = some (some (.ref p_Ldue_of)))
    (l_Ldue_of : K.lookup p_Ldue_of = some ⟨oc_Ldue_of, od_Ldue_of, .func (PySem.W.fnOf "_law_due_of" "_law_due_of" (defArgs s_Ldue_of) (defBody s_Ldue_of) (defScope s_Ldue_of) .none kV_Ldue_of dc_Ldue_of pm_Ldue_of an_Ldue_of cd_Ldue_of ct_Ldue_of), sl_Ldue_of⟩)
    (c_Ldue_of : PySem.W.codeIn K cd_Ldue_of "_law_due_of" = true)
    (k_Ldue_of : PySem.W.keepIn K (.ref p_Ldue_of) = true)
    (a_Lis_due : PySem.W.nsIn K mainGlobals "_law_is_due" = some (some (.ref p_Lis_due)))
    (l_Lis_due : K.lookup p_Lis_due = some ⟨oc_Lis_due, od_Lis_due, .func (PySem.W.fnOf "_law_is_due" "_law_is_due" (defArgs s_Lis_due) (defBody s_Lis_due) (defScope s_Lis_due) .none kV_Lis_due dc_Lis_due pm_Lis_due an_Lis_due cd_Lis_due ct_Lis_due), sl_Lis_due⟩)
    (c_Lis_due : PySem.W.codeIn K cd_Lis_due "_law_is_due" = true)
    (k_Lis_due : PySem.W.keepIn K (.ref p_Lis_due) = true)
    (a_Lcopied : PySem.W.nsIn K mainGlobals "_law_copied" = some (some (.ref p_Lcopied)))
    (l_Lcopied : K.lookup p_Lcopied = some ⟨oc_Lcopied, od_Lcopied, .func (PySem.W.fnOf "_law_copied" "_law_copied" (defArgs s_Lcopied) (defBody s_Lcopied) (defScope s_Lcopied) .none kV_Lcopied dc_Lcopied pm_Lcopied an_Lcopied cd_Lcopied ct_Lcopied), sl_Lcopied⟩)
    (c_Lcopied : PySem.W.codeIn K cd_Lcopied "_law_copied" = true)
    (k_Lcopied : PySem.W.keepIn K (.ref p_Lcopied) = true)
    (a_law : PySem.W.nsIn K mainGlobals "law" = some (some (.ref p_law)))
    (l_law : K.lookup p_law = some ⟨oc_law, od_law, .func (PySem.W.fnOf "law" "law" (defArgs s_law) (defBody s_law) (defScope s_law) .none kV_law dc_law pm_law an_law cd_law ct_law), sl_law⟩)
    (c_law : PySem.W.codeIn K cd_law "law" = true)
    (k_law : PySem.W.keepIn K (.ref p_law) = true)
    (z_len : PySem.W.nsIn K mainGlobals "len" = some none)
    (z_range : PySem.W.nsIn K mainGlobals "range" = some none)
    (z_isinstance : PySem.W.nsIn K mainGlobals "isinstance" = some none)
    (z_list : PySem.W.nsIn K mainGlobals "list" = some none)
    (z_int : PySem.W.nsIn K mainGlobals "int" = some none)
    (z_bool : PySem.W.nsIn K mainGlobals "bool" = some none)
    (z_str : PySem.W.nsIn K mainGlobals "str" = some none)
    (z_tuple : PySem.W.nsIn K mainGlobals "tuple" = some none)
    (z_dict : PySem.W.nsIn K mainGlobals "dict" = some none)
    (z_set : PySem.W.nsIn K mainGlobals "set" = some none)
    (z_sorted : PySem.W.nsIn K mainGlobals "sorted" = some none)
    (z_min : PySem.W.nsIn K mainGlobals "min" = some none)
    (z_max : PySem.W.nsIn K mainGlobals "max" = some none)
    (z_reversed : PySem.W.nsIn K mainGlobals "reversed" = some none)
    (z_ValueError : PySem.W.nsIn K mainGlobals "ValueError" = some none)
    (g_FAN_tables : PySem.W.nsIn K mainGlobals "FAN_tables" = some (some (.int 16 t_FAN_tables)))
    (g_FAN_places : PySem.W.nsIn K mainGlobals "FAN_places" = some (some (.int 16 t_FAN_places))) :
    ∃ fd : FuncData, (∀ (s : Shared) (v : Value), BindsTo s fd ⟨[v], []⟩ [("_law_script", v)]) ∧ ∀ base : Heap, FnOk l.prog w K mg base (L2.CX l.prog w) 3 fa fd ["_law_script"] (@spC ⟨K⟩ lawC) := by
  have e := hfa.symm.trans (PySem.W.mg_of X G a_law)
  cases e
  have bl : Bl mg := ⟨PySem.W.mg_none_of X G z_len, PySem.W.mg_none_of X G z_range, PySem.W.mg_none_of X G z_isinstance, PySem.W.mg_none_of X G z_list, PySem.W.mg_none_of X G z_int, PySem.W.mg_none_of X G z_bool, PySem.W.mg_none_of X G z_str, PySem.W.mg_none_of X G z_tuple, PySem.W.mg_none_of X G z_dict, PySem.W.mg_none_of X G z_set, PySem.W.mg_none_of X G z_sorted, PySem.W.mg_none_of X G z_min, PySem.W.mg_none_of X G z_max, PySem.W.mg_none_of X G z_reversed, PySem.W.mg_none_of X G z_ValueError⟩
  have cl_Table : Cls K C_Table := ⟨pg_Table, hd_Table, po_Table, sa_Table⟩
  have F_upper_of := fun_mk (st := s_upper_of) l_upper_of c_upper_of k_upper_of
  have b_upper_of := F_upper_of.binds (ps := ["page"]) fun _ _ _ _ _ _ us hl => match us, hl with | [_], _ => rfl
  have F_lower_of := fun_mk (st := s_lower_of) l_lower_of c_lower_of k_lower_of
  have b_lower_of := F_lower_of.binds (ps := ["page"]) fun _ _ _ _ _ _ us hl => match us, hl with | [_], _ => rfl
  have F_Table___init__ := fun_mk (st := s_Table___init__) l_Table___init__ c_Table___init__ k_Table___init__
  have b_Table___init__ := F_Table___init__.binds (ps := ["self"]) fun _ _ _ _ _ _ us hl => match us, hl with | [_], _ => rfl
  have F_Table_lay := fun_mk (st := s_Table_lay) l_Table_lay c_Table_lay k_Table_lay
  have b_Table_lay := F_Table_lay.binds (ps := ["self", "page", "sheet"]) fun _ _ _ _ _ _ us hl => match us, hl with | [_, _, _], _ => rfl
  have F_Table_strike := fun_mk (st := s_Table_strike) l_Table_strike c_Table_strike k_Table_strike
  have b_Table_strike := F_Table_strike.binds (ps := ["self", "page"]) fun _ _ _ _ _ _ us hl => match us, hl with | [_, _], _ => rfl
  have F_Table_leaves := fun_mk (st := s_Table_leaves) l_Table_leaves c_Table_leaves k_Table_leaves
  have b_Table_leaves := F_Table_leaves.binds (ps := ["self"]) fun _ _ _ _ _ _ us hl => match us, hl with | [_], _ => rfl
  have F_Lwhole := fun_mk (st := s_Lwhole) l_Lwhole c_Lwhole k_Lwhole
  have b_Lwhole := F_Lwhole.binds (ps := ["_law_num"]) fun _ _ _ _ _ _ us hl => match us, hl with | [_], _ => rfl
  have F_Ldue_of := fun_mk (st := s_Ldue_of) l_Ldue_of c_Ldue_of k_Ldue_of
  have b_Ldue_of := F_Ldue_of.binds (ps := ["_law_ways"]) fun _ _ _ _ _ _ us hl => match us, hl with | [_], _ => rfl
  have F_Lis_due := fun_mk (st := s_Lis_due) l_Lis_due c_Lis_due k_Lis_due
  have b_Lis_due := F_Lis_due.binds (ps := ["_law_found", "_law_due"]) fun _ _ _ _ _ _ us hl => match us, hl with | [_, _], _ => rfl
  have F_Lcopied := fun_mk (st := s_Lcopied) l_Lcopied c_Lcopied k_Lcopied
  have b_Lcopied := F_Lcopied.binds (ps := ["_law_found"]) fun _ _ _ _ _ _ us hl => match us, hl with | [_], _ => rfl
  have F_law := fun_mk (st := s_law) l_law c_law k_law
  have b_law := F_law.binds (ps := ["_law_script"]) fun _ _ _ _ _ _ us hl => match us, hl with | [_], _ => rfl
  refine ⟨PySem.W.fnOf "law" "law" (defArgs s_law) (defBody s_law) (defScope s_law) .none kV_law dc_law pm_law an_law cd_law ct_law, fun s v => .of_eq rfl, fun base => ?_⟩
  letI : KC := ⟨K⟩
  let m : Mo := ⟨l.prog, w, K, mg, base⟩
  have h_FAN_tables : m.mg "FAN_tables" = some (.int 16 t_FAN_tables) := PySem.W.mg_of X G g_FAN_tables
  have h_FAN_places : m.mg "FAN_places" = some (.int 16 t_FAN_places) := PySem.W.mg_of X G g_FAN_places
  have oc_Table : ObjC m C_Table ["uppers"] := ⟨cl_Table, by simp only [List.mem_cons, List.not_mem_nil, or_false]; rintro f (rfl) <;> first | exact na_Table_uppers⟩
  have h_upper_of : FnIs m "upper_of" 1 K_upper_of := ⟨⟨_, _, _, ok_upper_of (m := m) rfl bl F_upper_of h_FAN_places, PySem.W.mg_of X G a_upper_of, k_upper_of, b_upper_of⟩⟩
  have h_lower_of : FnIs m "lower_of" 1 K_lower_of := ⟨⟨_, _, _, ok_lower_of (m := m) rfl bl F_lower_of h_FAN_places, PySem.W.mg_of X G a_lower_of, k_lower_of, b_lower_of⟩⟩
  have mk_Table : MkIs m "Table" C_Table 1 (K_Table___init__ C_Table) := ⟨⟨_, _, _, ok_Table___init__ (m := m) rfl bl F_Table___init__ h_FAN_tables oc_Table, ⟨mkf_Table, a_Table___init__, i_Table___init__, kc_Table⟩, PySem.W.mg_of X G aC_Table, b_Table___init__⟩⟩
  have h_Table_lay : MtIs m C_Table "lay" 2 (K_Table_lay C_Table) := ⟨⟨_, _, _, ok_Table_lay (m := m) rfl bl F_Table_lay h_FAN_tables oc_Table h_upper_of h_lower_of, ⟨a_Table_lay, i_Table_lay, k_Table_lay⟩, b_Table_lay⟩⟩
  have h_Table_strike : MtIs m C_Table "strike" 2 (K_Table_strike C_Table) := ⟨⟨_, _, _, ok_Table_strike (m := m) rfl bl F_Table_strike h_FAN_tables oc_Table h_upper_of h_lower_of, ⟨a_Table_strike, i_Table_strike, k_Table_strike⟩, b_Table_strike⟩⟩
  have h_Table_leaves : MtIs m C_Table "leaves" 1 (K_Table_leaves C_Table) := ⟨⟨_, _, _, ok_Table_leaves (m := m) rfl bl F_Table_leaves h_FAN_tables oc_Table, ⟨a_Table_leaves, i_Table_leaves, k_Table_leaves⟩, b_Table_leaves⟩⟩
  have h_leaves2 : MtIs m C_Table "leaves" 1 (K_Table_leaves2 C_Table) := ⟨⟨_, _, _, ok_Table_leaves2 (m := m) rfl bl F_Table_leaves h_FAN_tables oc_Table, ⟨a_Table_leaves, i_Table_leaves, k_Table_leaves⟩, b_Table_leaves⟩⟩
  have h_Lwhole : FnIs m "_law_whole" 1 K_Lwhole := ⟨⟨_, _, _, ok_Lwhole (m := m) rfl bl F_Lwhole, PySem.W.mg_of X G a_Lwhole, k_Lwhole, b_Lwhole⟩⟩
  have h_Ldue_of : FnIs m "_law_due_of" 1 K_Ldue_of := ⟨⟨_, _, _, ok_Ldue_of (m := m) rfl bl F_Ldue_of, PySem.W.mg_of X G a_Ldue_of, k_Ldue_of, b_Ldue_of⟩⟩
  have h_Lis_due : FnIs m "_law_is_due" 2 K_Lis_due := ⟨⟨_, _, _, ok_Lis_due (m := m) rfl bl F_Lis_due h_Lwhole, PySem.W.mg_of X G a_Lis_due, k_Lis_due, b_Lis_due⟩⟩
  have h_Lcopied : FnIs m "_law_copied" 1 K_Lcopied := ⟨⟨_, _, _, ok_Lcopied (m := m) rfl bl F_Lcopied, PySem.W.mg_of X G a_Lcopied, k_Lcopied, b_Lcopied⟩⟩
  exact ok_law (m := m) rfl bl F_law oc_Table mk_Table h_Table_lay h_Table_strike h_leaves2 h_Table_leaves h_Ldue_of h_Lis_due h_Lcopied
end My
open PySem PySem.W PyProof.Rows
set_option maxRecDepth 100000 in
set_option maxHeartbeats 0 in
theorem PySem.Challenge.cw_paneworks_k07_leaves_holds : PySem.Challenge.rw_paneworks_k07_leaves.Holds := by
  w_on; o_law; k_head; (case hw => w_witness2)
  k_fill
  refine PW.law_walk (l := PySem.Challenge.rw_paneworks_k07_leaves) (k := 3) (x := "_law_script") rfl rfl ⟨rfl, by decide, by decide⟩ (fun w h Y => PySem.W.kIn_of Y) ?F
  case F =>
    intro w mg fa h KX G hmg
    refine' My.all_mk KX G hmg ?aC_Table ?pg_Table ?hd_Table ?po_Table ?sa_Table ?mkf_Table ?kc_Table ?na_Table_uppers ?a_upper_of ?l_upper_of ?c_upper_of ?k_upper_of ?a_lower_of ?l_lower_of ?c_lower_of ?k_lower_of ?a_Table___init__ ?i_Table___init__ ?l_Table___init__ ?c_Table___init__ ?k_Table___init__ ?a_Table_lay ?i_Table_lay ?l_Table_lay ?c_Table_lay ?k_Table_lay ?a_Table_strike ?i_Table_strike ?l_Table_strike ?c_Table_strike ?k_Table_strike ?a_Table_leaves ?i_Table_leaves ?l_Table_leaves ?c_Table_leaves ?k_Table_leaves ?a_Lwhole ?l_Lwhole ?c_Lwhole ?k_Lwhole ?a_Ldue_of ?l_Ldue_of ?c_Ldue_of ?k_Ldue_of ?a_Lis_due ?l_Lis_due ?c_Lis_due ?k_Lis_due ?a_Lcopied ?l_Lcopied ?c_Lcopied ?k_Lcopied ?a_law ?l_law ?c_law ?k_law ?z_len ?z_range ?z_isinstance ?z_list ?z_int ?z_bool ?z_str ?z_tuple ?z_dict ?z_set ?z_sorted ?z_min ?z_max ?z_reversed ?z_ValueError ?g_FAN_tables ?g_FAN_places
    (case aC_Table => k_is)
    (case pg_Table => k_is)
    (case hd_Table => k_is)
    (case po_Table => k_is)
    (case sa_Table => k_is)
    (case mkf_Table => k_is)
    (case kc_Table => k_is)
    (case na_Table_uppers => k_is)
    (case a_upper_of => k_is)
    (case l_upper_of => k_is)
    (case c_upper_of => k_is)
    (case k_upper_of => k_is)
    (case a_lower_of => k_is)
    (case l_lower_of => k_is)
    (case c_lower_of => k_is)
    (case k_lower_of => k_is)
    (case a_Table___init__ => k_is)
    (case i_Table___init__ => k_is)
    (case l_Table___init__ => k_is)
    (case c_Table___init__ => k_is)
    (case k_Table___init__ => k_is)
    (case a_Table_lay => k_is)
    (case i_Table_lay => k_is)
    (case l_Table_lay => k_is)
    (case c_Table_lay => k_is)
    (case k_Table_lay => k_is)
    (case a_Table_strike => k_is)
    (case i_Table_strike => k_is)
    (case l_Table_strike => k_is)
    (case c_Table_strike => k_is)
    (case k_Table_strike => k_is)
    (case a_Table_leaves => k_is)
    (case i_Table_leaves => k_is)
    (case l_Table_leaves => k_is)
    (case c_Table_leaves => k_is)
    (case k_Table_leaves => k_is)
    (case a_Lwhole => k_is)
    (case l_Lwhole => k_is)
    (case c_Lwhole => k_is)
    (case k_Lwhole => k_is)
    (case a_Ldue_of => k_is)
    (case l_Ldue_of => k_is)
    (case c_Ldue_of => k_is)
    (case k_Ldue_of => k_is)
    (case a_Lis_due => k_is)
    (case l_Lis_due => k_is)
    (case c_Lis_due => k_is)
    (case k_Lis_due => k_is)
    (case a_Lcopied => k_is)
    (case l_Lcopied => k_is)
    (case c_Lcopied => k_is)
    (case k_Lcopied => k_is)
    (case a_law => k_is)
    (case l_law => k_is)
    (case c_law => k_is)
    (case k_law => k_is)
    (case z_len => k_is)
    (case z_range => k_is)
    (case z_isinstance => k_is)
    (case z_list => k_is)
    (case z_int => k_is)
    (case z_bool => k_is)
    (case z_str => k_is)
    (case z_tuple => k_is)
    (case z_dict => k_is)
    (case z_set => k_is)
    (case z_sorted => k_is)
    (case z_min => k_is)
    (case z_max => k_is)
    (case z_reversed => k_is)
    (case z_ValueError => k_is)
    (case g_FAN_tables => k_is)
    (case g_FAN_places => k_is)
