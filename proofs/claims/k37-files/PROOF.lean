import PyProof.Rows.All
import Wide.All
import OpenK.AllK
import Wide.FinOn
import HandS.ForMost
import HandS.ForExc
import HandS.IsInst
import HandS.ExcIs
import HandS.TryMany
import HandS.CallSlots
import HandS.Flow
import HandS.Wide
import HandS.StrMore
import KE.KExcIs
import HandS.Deep
import HandS.TryOnly
import PyProof.ListStr
import HandS.Conv
import PyProof.Rows.StrDigitsNeg
import HandS.Replace
import HandS.Dict
import HandS.Small
import HandS.More
import HandS.EndBits
import KE.IntBitsLaws
import HandS.WordsDict
import HandS.SortKw
import HandS.TupSets
import PyProof.Rows.SortShellAny
import PySem.Challenge.RW_paneworks_k37_files_through_deeds
set_option Elab.async false
set_option linter.all false
set_option maxRecDepth 100000
set_option maxHeartbeats 1000000
/-! A layer of our own over HandS: values as plain data, state as a list of slots and a list of owned things. -/
namespace PW
open PySem L2

abbrev Fp := Addr → Prop
/-- the written part, fixed through a law -/
class KC where
  K : PySem.W.Frag
variable [KC]
/-- a list of the written part -/
def KLst (K : PySem.W.Frag) (a : Addr) (xs : List V) : Prop := ∃ (o : Obj) (its : Array Value) (n : Nat), K.lookup a = some o ∧ o.cls = .type "list" ∧ o.dict = none ∧ o.data = .seq its n ∧ its.size ≤ sizeLine ∧ Vals xs its.toList
/-- a list that nobody writes any more -/
def LsAt (G : Fp) (H : Hp) (a : Addr) (xs : List V) : Prop := (Rd H a (.lst xs) ∧ ¬ G a) ∨ KLst KC.K a xs
theorem LsAt.sq {G : Fp} {H : Hp} {a : Addr} {xs : List V} (h : LsAt G H a xs) : SqL KC.K H a xs := h.imp And.left id

/-! ### data that nobody writes any more -/
mutual
inductive Is (G : Fp) (H : Hp) : V → PyData → Prop
  | non : Is G H .non .none
  | bl (b : Bool) : Is G H (.bl b) (.bool b)
  | int (i : Int) : Is G H (.int i) (.int i)
  | str (x : Str) : Is G H (.str x) (.str x)
  | lst {a : Addr} {xs : List V} {ds : List PyData} : LsAt G H a xs → IsAll G H xs ds → Is G H (.ref a) (.list ds)
  | tup {a : Addr} {xs : List V} {ds : List PyData} : Rd H a (.tup xs) → ¬ G a → IsAll G H xs ds → Is G H (.ref a) (.tuple ds)
inductive IsAll (G : Fp) (H : Hp) : List V → List PyData → Prop
  | nil : IsAll G H [] []
  | cons {v : V} {vs : List V} {d : PyData} {ds : List PyData} : Is G H v d → IsAll G H vs ds → IsAll G H (v :: vs) (d :: ds)
end

/-- from (G, H) to (G', H'): G's own things may have changed, all else that was tracked stands, what is owned new is fresh -/
structure Stp (G G' : Fp) (H H' : Hp) : Prop where
  keep : ∀ a o, H a = some o → ¬ G a → H' a = some o
  sub : ∀ a, G' a → G a ∨ H a = none
  old : ∀ a o, H a = some o → ∃ o', H' a = some o'
theorem Stp.refl (G : Fp) (H : Hp) : Stp G G H H := ⟨fun _ _ h _ => h, fun _ h => .inl h, fun _ o h => ⟨o, h⟩⟩
theorem Stp.fresh {G G' : Fp} {H H' : Hp} (s : Stp G G' H H') {a : Addr} (h : H' a = none) : H a = none := by
  cases e : H a with
  | none => rfl
  | some o => obtain ⟨o', q⟩ := s.old a o e; rw [h] at q; cases q
theorem Stp.trans {G G1 G2 : Fp} {H H1 H2 : Hp} (s : Stp G G1 H H1) (t : Stp G1 G2 H1 H2) : Stp G G2 H H2 where
  keep := fun a o h n => t.keep a o (s.keep a o h n) fun g => by
    rcases s.sub a g with q | q
    · exact n q
    · rw [h] at q; cases q
  sub := fun a g => by
    rcases t.sub a g with q | q
    · exact s.sub a q
    · exact .inr (s.fresh q)
  old := fun a o h => by
    obtain ⟨o1, q⟩ := s.old a o h
    exact t.old a o1 q
theorem Stp.same {G : Fp} {H H' : Hp} (h : Same H H') : Stp G G H H' := ⟨fun a o q _ => h a o q, fun _ g => .inl g, fun a o q => ⟨o, h a o q⟩⟩
theorem Stp.less {G G' : Fp} {H : Hp} (h : ∀ a, G' a → G a) : Stp G G' H H := ⟨fun _ _ q _ => q, fun a g => .inl (h a g), fun _ o q => ⟨o, q⟩⟩

section
variable {G G' : Fp} {H H' : Hp}
theorem rd_stp {a : Addr} {u : HO} (k : ∀ a o, H a = some o → ¬ G a → H' a = some o) (n : ¬ G a) (h : Rd H a u) : Rd H' a u := by
  rcases h with h | ⟨o, h⟩
  · exact .inl (k _ _ h n)
  · exact .inr ⟨o, k _ _ h n⟩
theorem rd_some {a : Addr} {u : HO} (h : Rd H a u) : ∃ o, H a = some o := by
  rcases h with h | ⟨o, h⟩
  · exact ⟨_, h⟩
  · exact ⟨_, h⟩
theorem ls_stp0 {a : Addr} {xs : List V} (k : ∀ a o, H a = some o → ¬ G a → H' a = some o) (s : ∀ a, G' a → G a ∨ H a = none) (h : LsAt G H a xs) : LsAt G' H' a xs := by
  rcases h with ⟨r, n⟩ | h
  · refine .inl ⟨rd_stp k n r, fun g => ?_⟩
    obtain ⟨o, q⟩ := rd_some r
    rcases s _ g with z | z
    · exact n z
    · rw [q] at z; cases z
  · exact .inr h
mutual
theorem Is.stp0 (k : ∀ a o, H a = some o → ¬ G a → H' a = some o) (s : ∀ a, G' a → G a ∨ H a = none) : ∀ {v : V} {d : PyData}, Is G H v d → Is G' H' v d
  | _, _, .non => .non
  | _, _, .bl b => .bl b
  | _, _, .int i => .int i
  | _, _, .str x => .str x
  | _, _, .lst r t => .lst (ls_stp0 k s r) (IsAll.stp0 k s t)
  | _, _, .tup r n t => .tup (rd_stp k n r) (fun g => by
      obtain ⟨o, q⟩ := rd_some r
      rcases s _ g with z | z
      · exact n z
      · rw [q] at z; cases z) (IsAll.stp0 k s t)
theorem IsAll.stp0 (k : ∀ a o, H a = some o → ¬ G a → H' a = some o) (s : ∀ a, G' a → G a ∨ H a = none) : ∀ {vs : List V} {ds : List PyData}, IsAll G H vs ds → IsAll G' H' vs ds
  | _, _, .nil => .nil
  | _, _, .cons h t => .cons (Is.stp0 k s h) (IsAll.stp0 k s t)
end
theorem Is.stp {v : V} {d : PyData} (s : Stp G G' H H') (h : Is G H v d) : Is G' H' v d := h.stp0 s.keep s.sub
theorem IsAll.stp {vs : List V} {ds : List PyData} (s : Stp G G' H H') (h : IsAll G H vs ds) : IsAll G' H' vs ds := h.stp0 s.keep s.sub
theorem IsAll.length : ∀ {vs : List V} {ds : List PyData}, IsAll G H vs ds → vs.length = ds.length
  | _, _, .nil => rfl
  | _, _, .cons _ t => congrArg (· + 1) (IsAll.length t)
theorem IsAll.get : ∀ {vs : List V} {ds : List PyData} {i : Nat} {d : PyData}, IsAll G H vs ds → ds[i]? = some d → ∃ v, vs[i]? = some v ∧ Is G H v d
  | _, _, _, _, .nil, e => by simp at e
  | _, _, 0, _, .cons h _, e => by simp at e; subst e; exact ⟨_, rfl, h⟩
  | _, _, i + 1, d, .cons _ t, e => by
    obtain ⟨v, h1, h2⟩ := IsAll.get (i := i) (d := d) t (by simpa using e)
    exact ⟨v, by simpa using h1, h2⟩
theorem IsAll.getV : ∀ {vs : List V} {ds : List PyData} {i : Nat} {v : V}, IsAll G H vs ds → vs[i]? = some v → ∃ d, ds[i]? = some d ∧ Is G H v d
  | _, _, _, _, .nil, e => by simp at e
  | _, _, 0, _, .cons h _, e => by simp at e; subst e; exact ⟨_, rfl, h⟩
  | _, _, i + 1, d, .cons _ t, e => by
    obtain ⟨v, h1, h2⟩ := IsAll.getV (i := i) (v := d) t (by simpa using e)
    exact ⟨v, by simpa using h1, h2⟩
theorem IsAll.append : ∀ {vs ws : List V} {ds es : List PyData}, IsAll G H vs ds → IsAll G H ws es → IsAll G H (vs ++ ws) (ds ++ es)
  | _, _, _, _, .nil, h => h
  | _, _, _, _, .cons a t, h => .cons a (t.append h)
theorem IsAll.take : ∀ {vs : List V} {ds : List PyData} (n : Nat), IsAll G H vs ds → IsAll G H (vs.take n) (ds.take n)
  | _, _, 0, _ => .nil
  | _, _, _ + 1, .nil => .nil
  | _, _, n + 1, .cons a t => .cons a (t.take n)
theorem IsAll.drop : ∀ {vs : List V} {ds : List PyData} (n : Nat), IsAll G H vs ds → IsAll G H (vs.drop n) (ds.drop n)
  | _, _, 0, h => h
  | _, _, _ + 1, .nil => .nil
  | _, _, n + 1, .cons _ t => t.drop n
theorem IsAll.set {v : V} {d : PyData} (h : Is G H v d) : ∀ {vs : List V} {ds : List PyData} (i : Nat), IsAll G H vs ds → IsAll G H (vs.set i v) (ds.set i d)
  | _, _, _, .nil => .nil
  | _, _, 0, .cons _ t => .cons h t
  | _, _, i + 1, .cons q t => .cons q (IsAll.set h i t)
/-- as HandS says it -/
theorem rd_sqL {K : PySem.W.Frag} {a : Addr} {xs : List V} (h : Rd H a (.lst xs)) : SqL K H a xs := .inl h
theorem rd_sqT {K : PySem.W.Frag} {a : Addr} {xs : List V} (h : Rd H a (.tup xs)) : SqT K H a xs := .inl h
mutual
theorem Is.dp : ∀ {v : V} {d : PyData}, Is G H v d → Dp KC.K H v d
  | _, _, .non => .non
  | _, _, .bl b => .bl b
  | _, _, .int i => .int i
  | _, _, .str x => .str x
  | _, _, .lst r t => .lst r.sq (IsAll.dp t)
  | _, _, .tup r _ t => .tup (rd_sqT r) (IsAll.dp t)
theorem IsAll.dp : ∀ {vs : List V} {ds : List PyData}, IsAll G H vs ds → DpAll KC.K H vs ds
  | _, _, .nil => .nil
  | _, _, .cons h t => .cons (Is.dp h) (IsAll.dp t)
end
end

/-! ### slots -/
inductive Sl where
  | un | d (x : PyData) | r (v : V) | n (ds : List PyData)
/-- a new list, once it is given a name, is plain data -/
def Sl.plain : Sl → Sl
  | .n ds => .d (.list ds)
  | s => s
def SlOk (G : Fp) (H : Hp) (v : V) : Sl → Prop
  | .un => True
  | .d x => Is G H v x
  | .r u => v = u
  | .n ds => Is G H v (.list ds)
/-- a result: behind a start in H0 -/
def Rs (G : Fp) (H0 H : Hp) (v : V) : Sl → Prop
  | .n ds => ∃ p vs, v = .ref p ∧ H0 p = none ∧ ¬ G p ∧ H p = some (.lst vs) ∧ IsAll G H vs ds
  | s => SlOk G H v s
section
variable {G G' : Fp} {H H' H0 : Hp} {v : V} {s : Sl}
theorem SlOk.stp (t : Stp G G' H H') (h : SlOk G H v s) : SlOk G' H' v s := by
  cases s with
  | un => trivial
  | d x => exact Is.stp t h
  | r u => exact h
  | n ds => exact Is.stp t h
theorem Rs.ok (h : Rs G H0 H v s) : SlOk G H v s := by
  cases s with
  | un => trivial
  | d x => exact h
  | r u => exact h
  | n ds => obtain ⟨p, vs, rfl, _, ng, hp, t⟩ := h; exact .lst (.inl ⟨.inl hp, ng⟩) t
theorem SlOk.plain (h : SlOk G H v s) : SlOk G H v s.plain := by
  cases s <;> exact h
theorem Rs.back {G0 G1 : Fp} {H1 : Hp} (t : Stp G0 G1 H1 H0) (h : Rs G H0 H v s) : Rs G H1 H v s := by
  cases s with
  | un => trivial
  | d x => exact h
  | r u => exact h
  | n ds => obtain ⟨p, vs, e, z, ng, hp, q⟩ := h; exact ⟨p, vs, e, t.fresh z, ng, hp, q⟩
theorem Rs.of_ok (h : SlOk G H v s) (hn : ∀ ds, s ≠ .n ds) : Rs G H0 H v s := by
  cases s with
  | n ds => exact absurd rfl (hn ds)
  | un => trivial
  | d x => exact h
  | r u => exact h
end
/-- the slots of a frame -/
def EnvOk (G : Fp) (H : Hp) : St → List Sl → Prop
  | [], [] => True
  | o :: σ, s :: ρ => (match s with
      | .un => True
      | s => ∃ v, o = some v ∧ SlOk G H v s) ∧ EnvOk G H σ ρ
  | _, _ => False
def SlAll (G : Fp) (H : Hp) : List V → List Sl → Prop
  | [], [] => True
  | v :: vs, s :: ss => SlOk G H v s ∧ SlAll G H vs ss
  | _, _ => False
section
variable {G G' : Fp} {H H' : Hp}
theorem EnvOk.stp (t : Stp G G' H H') : ∀ {σ : St} {ρ : List Sl}, EnvOk G H σ ρ → EnvOk G' H' σ ρ
  | [], [], _ => trivial
  | o :: σ, s :: ρ, ⟨h, q⟩ => by
    refine ⟨?_, q.stp t⟩
    cases s with
    | un => trivial
    | d x => obtain ⟨v, e, z⟩ := h; exact ⟨v, e, SlOk.stp t z⟩
    | r x => obtain ⟨v, e, z⟩ := h; exact ⟨v, e, SlOk.stp t z⟩
    | n x => obtain ⟨v, e, z⟩ := h; exact ⟨v, e, SlOk.stp t z⟩
  | [], _ :: _, h => h.elim
  | _ :: _, [], h => h.elim
theorem SlAll.stp (t : Stp G G' H H') : ∀ {vs : List V} {ss : List Sl}, SlAll G H vs ss → SlAll G' H' vs ss
  | [], [], _ => trivial
  | _ :: _, _ :: _, ⟨h, q⟩ => ⟨SlOk.stp t h, q.stp t⟩
  | [], _ :: _, h => h.elim
  | _ :: _, [], h => h.elim
theorem SlAll.length : ∀ {vs : List V} {ss : List Sl}, SlAll G H vs ss → vs.length = ss.length
  | [], [], _ => rfl
  | _ :: _, _ :: _, ⟨_, q⟩ => congrArg (· + 1) (SlAll.length q)
  | [], _ :: _, h => h.elim
  | _ :: _, [], h => h.elim
theorem SlAll.append : ∀ {vs ws : List V} {ss ts : List Sl}, SlAll G H vs ss → SlAll G H ws ts → SlAll G H (vs ++ ws) (ss ++ ts)
  | [], _, [], _, _, h => h
  | _ :: _, _, _ :: _, _, ⟨a, q⟩, h => ⟨a, q.append h⟩
  | [], _, _ :: _, _, h, _ => h.elim
  | _ :: _, _, [], _, h, _ => h.elim
theorem SlAll.get : ∀ {vs : List V} {ss : List Sl} {i : Nat} {s : Sl}, SlAll G H vs ss → ss[i]? = some s → ∃ v, vs[i]? = some v ∧ SlOk G H v s
  | [], [], _, _, _, e => by simp at e
  | _ :: _, _ :: _, 0, _, ⟨h, _⟩, e => by simp at e; subst e; exact ⟨_, rfl, h⟩
  | _ :: vs, _ :: ss, i + 1, s, ⟨_, q⟩, e => by
    obtain ⟨v, h1, h2⟩ := SlAll.get (i := i) (s := s) q (by simpa using e)
    exact ⟨v, by simpa using h1, h2⟩
  | [], _ :: _, _, _, h, _ => h.elim
  | _ :: _, [], _, _, h, _ => h.elim
theorem SlAll.set {v : V} {s : Sl} (h : SlOk G H v s) : ∀ {vs : List V} {ss : List Sl} (i : Nat), SlAll G H vs ss → SlAll G H (vs.set i v) (ss.set i s)
  | [], [], _, _ => trivial
  | _ :: _, _ :: _, 0, ⟨_, q⟩ => ⟨h, q⟩
  | _ :: _, _ :: _, i + 1, ⟨a, q⟩ => ⟨a, SlAll.set h i q⟩
  | [], _ :: _, _, h => h.elim
  | _ :: _, [], _, h => h.elim
theorem SlAll.of_is : ∀ {vs : List V} {ds : List PyData}, IsAll G H vs ds → SlAll G H vs (ds.map .d)
  | _, _, .nil => trivial
  | _, _, .cons h t => ⟨h, SlAll.of_is t⟩
theorem SlAll.is : ∀ {vs : List V} {ds : List PyData}, SlAll G H vs (ds.map .d) → IsAll G H vs ds
  | [], [], _ => .nil
  | _ :: _, _ :: _, ⟨h, q⟩ => .cons h (SlAll.is q)
  | [], _ :: _, h => h.elim
  | _ :: _, [], h => h.elim
theorem EnvOk.length : ∀ {σ : St} {ρ : List Sl}, EnvOk G H σ ρ → σ.length = ρ.length
  | [], [], _ => rfl
  | _ :: _, _ :: _, ⟨_, q⟩ => congrArg (· + 1) (EnvOk.length q)
  | [], _ :: _, h => h.elim
  | _ :: _, [], h => h.elim
end
/-- the slot of a name; ρ' is ρ with s there -/
inductive Slot : List Str → List Sl → Str → Nat → Sl → Prop
  | zero {x N s ρ} : Slot (x :: N) (s :: ρ) x 0 s
  | succ {x y N s t ρ i} : Slot N ρ x i s → Slot (y :: N) (t :: ρ) x (i + 1) s
inductive SetS : List Str → List Sl → Str → Nat → Sl → List Sl → Prop
  | zero {x N s t ρ} : SetS (x :: N) (t :: ρ) x 0 s (s :: ρ)
  | succ {x y N s t ρ ρ' i} : SetS N ρ x i s ρ' → SetS (y :: N) (t :: ρ) x (i + 1) s (t :: ρ')
theorem Slot.name : ∀ {N ρ x i s}, Slot N ρ x i s → N[i]? = some x
  | _, _, _, _, _, .zero => rfl
  | _, _, _, _, _, .succ h => by simpa using h.name
theorem SetS.name : ∀ {N ρ x i s ρ'}, SetS N ρ x i s ρ' → N[i]? = some x
  | _, _, _, _, _, _, .zero => rfl
  | _, _, _, _, _, _, .succ h => by simpa using h.name
theorem Slot.env {G : Fp} {H : Hp} : ∀ {N ρ x i s} {σ : St}, Slot N ρ x i s → s ≠ .un → EnvOk G H σ ρ → ∃ v, σ[i]? = some (some v) ∧ SlOk G H v s
  | _, _, _, _, s, o :: σ, .zero, hn, ⟨h, _⟩ => by
    cases s with
    | un => exact absurd rfl hn
    | d x => obtain ⟨v, rfl, z⟩ := h; exact ⟨v, rfl, z⟩
    | r x => obtain ⟨v, rfl, z⟩ := h; exact ⟨v, rfl, z⟩
    | n x => obtain ⟨v, rfl, z⟩ := h; exact ⟨v, rfl, z⟩
  | _, _, _, _, _, o :: σ, .succ t, hn, ⟨_, q⟩ => by
    obtain ⟨v, e, z⟩ := Slot.env (σ := σ) t hn q
    exact ⟨v, by simpa using e, z⟩
  | _, _, _, _, _, [], .zero, _, h => h.elim
  | _, _, _, _, _, [], .succ _, _, h => h.elim
theorem SetS.env {G : Fp} {H : Hp} {v : V} : ∀ {N ρ x i s ρ'} {σ : St}, SetS N ρ x i s ρ' → SlOk G H v s → EnvOk G H σ ρ → EnvOk G H (σ.set i (some v)) ρ'
  | _, _, _, _, s, _, o :: σ, .zero, hs, ⟨_, q⟩ => by
    refine ⟨?_, q⟩
    cases s with
    | un => trivial
    | d x => exact ⟨v, rfl, hs⟩
    | r x => exact ⟨v, rfl, hs⟩
    | n x => exact ⟨v, rfl, hs⟩
  | _, _, _, _, _, _, o :: σ, .succ t, hs, ⟨h, q⟩ => ⟨h, SetS.env (σ := σ) t hs q⟩
  | _, _, _, _, _, _, [], .zero, _, h => h.elim
  | _, _, _, _, _, _, [], .succ _, _, h => h.elim
/-- ρ' tells no more than ρ -/
inductive Le : List Sl → List Sl → Prop
  | nil : Le [] []
  | un {s ρ ρ'} : Le ρ ρ' → Le (s :: ρ) (.un :: ρ')
  | eq {s ρ ρ'} : Le ρ ρ' → Le (s :: ρ) (s :: ρ')
theorem Le.env {G : Fp} {H : Hp} : ∀ {ρ ρ' : List Sl} {σ : St}, Le ρ ρ' → EnvOk G H σ ρ → EnvOk G H σ ρ'
  | _, _, [], .nil, _ => trivial
  | _, _, _ :: _, .un t, ⟨_, q⟩ => ⟨trivial, t.env q⟩
  | _, _, _ :: _, .eq t, ⟨h, q⟩ => ⟨h, t.env q⟩
  | _, _, [], .un _, h => h.elim
  | _, _, [], .eq _, h => h.elim
  | _, _, _ :: _, .nil, h => h.elim
theorem Le.refl : ∀ ρ, Le ρ ρ
  | [] => .nil
  | _ :: ρ => .eq (Le.refl ρ)

/-! ### owned things -/
structure Mem where
  ok : Fp → Fp → Hp → Prop
  dom : ∀ {F G H}, ok F G H → ∀ a, F a → ∃ o, H a = some o
  step : ∀ {F G G' H H'}, ok F G H → (∀ a o, H a = some o → (F a ∨ ¬ G a) → H' a = some o) → (∀ a, G' a → G a ∨ H a = none) → ok F G' H'
def sepL : List Mem → Fp → Fp → Hp → Prop
  | [], F, _, _ => ∀ a, ¬ F a
  | A :: rs, F, G, H => ∃ F1 F2 : Fp, A.ok F1 G H ∧ sepL rs F2 G H ∧ (∀ a, F1 a → F2 a → False) ∧ (∀ a, F a ↔ F1 a ∨ F2 a)
theorem sepL.dom {H : Hp} {G : Fp} : ∀ {rs : List Mem} {F : Fp}, sepL rs F G H → ∀ a, F a → ∃ o, H a = some o
  | [], F, h, a, q => absurd q (h a)
  | A :: rs, F, ⟨F1, F2, h1, h2, _, e⟩, a, q => by
    rcases (e a).mp q with z | z
    · exact A.dom h1 a z
    · exact sepL.dom h2 a z
theorem sepL.step {H H' : Hp} {G G' : Fp} (s : ∀ a, G' a → G a ∨ H a = none) : ∀ {rs : List Mem} {F : Fp}, sepL rs F G H → (∀ a o, H a = some o → (F a ∨ ¬ G a) → H' a = some o) → sepL rs F G' H'
  | [], F, h, _ => h
  | A :: rs, F, ⟨F1, F2, h1, h2, d, e⟩, k =>
    ⟨F1, F2, A.step h1 (fun a o q z => k a o q (z.imp (fun z => (e a).mpr (.inl z)) id)) s, sepL.step s h2 (fun a o q z => k a o q (z.imp (fun z => (e a).mpr (.inr z)) id)), d, e⟩
def sepM (rs : List Mem) : Mem := ⟨sepL rs, fun h => sepL.dom h, fun h k s => sepL.step s h k⟩
theorem sepL.ext {H : Hp} {G F F' : Fp} {rs : List Mem} (e : ∀ a, F a ↔ F' a) (h : sepL rs F G H) : sepL rs F' G H := by
  have : F = F' := funext fun a => propext (e a)
  rw [← this]; exact h
/-- xs is taken out of rs: f puts something back -/
inductive Pick : List Mem → Mem → (List Mem → List Mem) → Prop
  | zero {A rs} : Pick (A :: rs) A (fun xs => xs ++ rs)
  | succ {A B rs f} : Pick rs A f → Pick (B :: rs) A (fun xs => B :: f xs)
theorem sepL.app {H : Hp} {G : Fp} : ∀ {xs ys : List Mem} {F : Fp}, sepL (xs ++ ys) F G H ↔ ∃ F1 F2 : Fp, sepL xs F1 G H ∧ sepL ys F2 G H ∧ (∀ a, F1 a → F2 a → False) ∧ (∀ a, F a ↔ F1 a ∨ F2 a)
  | [], ys, F => by
    constructor
    · intro h
      exact ⟨fun _ => False, F, fun _ z => z, h, fun _ z => z.elim, fun a => ⟨fun z => .inr z, fun z => z.elim False.elim id⟩⟩
    · rintro ⟨F1, F2, h1, h2, d, e⟩
      refine sepL.ext (F := F2) (fun a => ?_) h2
      rw [e a]
      exact ⟨.inr, fun z => z.elim (fun z => absurd z (h1 a)) id⟩
  | A :: xs, ys, F => by
    constructor
    · rintro ⟨F1, F2, h1, h2, d, e⟩
      obtain ⟨F3, F4, h3, h4, d2, e2⟩ := (sepL.app (xs := xs) (ys := ys)).mp h2
      refine ⟨fun a => F1 a ∨ F3 a, F4, ⟨F1, F3, h1, h3, fun a z y => d a z ((e2 a).mpr (.inl y)), fun a => Iff.rfl⟩, h4, fun a z y => ?_, fun a => ?_⟩
      · rcases z with z | z
        · exact d a z ((e2 a).mpr (.inr y))
        · exact d2 a z y
      · rw [e a, e2 a, or_assoc]
    · rintro ⟨F1, F2, ⟨F3, F4, h3, h4, d2, e2⟩, h2, d, e⟩
      refine ⟨F3, fun a => F4 a ∨ F2 a, h3, (sepL.app (xs := xs) (ys := ys)).mpr ⟨F4, F2, h4, h2, fun a z y => d a ((e2 a).mpr (.inr z)) y, fun a => Iff.rfl⟩, fun a z y => ?_, fun a => ?_⟩
      · rcases y with y | y
        · exact d2 a z y
        · exact d a ((e2 a).mpr (.inl z)) y
      · rw [e a, e2 a, or_assoc]
theorem Pick.split {H : Hp} {G : Fp} : ∀ {rs : List Mem} {A : Mem} {f : List Mem → List Mem}, Pick rs A f → (∀ {F : Fp}, sepL rs F G H ↔ sepL (A :: f []) F G H) := by
  intro rs A f h
  induction h with
  | zero => intro F; exact Iff.rfl
  | @succ A B rs f p ih =>
    intro F
    constructor
    · rintro ⟨F1, F2, h1, h2, d, e⟩
      obtain ⟨F3, F4, h3, h4, d2, e2⟩ := ih.mp h2
      refine ⟨F3, fun a => F1 a ∨ F4 a, h3, ⟨F1, F4, h1, h4, fun a z y => d a z ((e2 a).mpr (.inr y)), fun a => Iff.rfl⟩, fun a z y => ?_, fun a => ?_⟩
      · rcases y with y | y
        · exact d a y ((e2 a).mpr (.inl z))
        · exact d2 a z y
      · rw [e a, e2 a, or_left_comm]
    · rintro ⟨F1, F2, h1, ⟨F3, F4, h3, h4, d2, e2⟩, d, e⟩
      refine ⟨F3, fun a => F1 a ∨ F4 a, h3, ih.mpr ⟨F1, F4, h1, h4, fun a z y => d a z ((e2 a).mpr (.inr y)), fun a => Iff.rfl⟩, fun a z y => ?_, fun a => ?_⟩
      · rcases y with y | y
        · exact d a y ((e2 a).mpr (.inl z))
        · exact d2 a z y
      · rw [e a, e2 a, or_left_comm]
theorem Pick.put {H : Hp} {G : Fp} : ∀ {rs : List Mem} {A : Mem} {f : List Mem → List Mem}, Pick rs A f → ∀ {xs : List Mem} {F : Fp}, sepL (f xs) F G H ↔ sepL (xs ++ f []) F G H := by
  intro rs A f h
  induction h with
  | zero => intro xs F; exact Iff.rfl
  | @succ A B rs f p ih =>
    intro xs F
    constructor
    · rintro ⟨F1, F2, h1, h2, d, e⟩
      obtain ⟨F3, F4, h3, h4, d2, e2⟩ := sepL.app.mp (ih.mp h2)
      refine sepL.app.mpr ⟨F3, fun a => F1 a ∨ F4 a, h3, ⟨F1, F4, h1, h4, fun a z y => d a z ((e2 a).mpr (.inr y)), fun a => Iff.rfl⟩, fun a z y => ?_, fun a => ?_⟩
      · rcases y with y | y
        · exact d a y ((e2 a).mpr (.inl z))
        · exact d2 a z y
      · rw [e a, e2 a, or_left_comm]
    · intro h
      obtain ⟨F1, F2, h1, ⟨F3, F4, h3, h4, d2, e2⟩, d, e⟩ := sepL.app.mp h
      refine ⟨F3, fun a => F1 a ∨ F4 a, h3, ih.mpr (sepL.app.mpr ⟨F1, F4, h1, h4, fun a z y => d a z ((e2 a).mpr (.inr y)), fun a => Iff.rfl⟩), fun a z y => ?_, fun a => ?_⟩
      · rcases y with y | y
        · exact d a y ((e2 a).mpr (.inl z))
        · exact d2 a z y
      · rw [e a, e2 a, or_left_comm]
/-- one owned thing is let go: from now on it is plain -/
theorem sepL.drop {H : Hp} {rs : List Mem} {A : Mem} {f : List Mem → List Mem} {G : Fp} (p : Pick rs A f) (h : sepL rs G G H) : ∃ F1 G', A.ok F1 G H ∧ (∀ a, F1 a → G' a → False) ∧ Stp G G' H H ∧ sepL (f []) G' G' H := by
  obtain ⟨F1, F2, h1, h2, d, e⟩ := p.split.mp h
  have s : Stp G F2 H H := Stp.less fun a z => (e a).mpr (.inr z)
  exact ⟨F1, F2, h1, d, s, sepL.step s.sub h2 fun a o q _ => q⟩
/-- a new address joins -/
theorem sepL.join {H H' : Hp} {rs : List Mem} {A : Mem} {G : Fp} {p : Addr} (h : sepL rs G G H) (hs : Same H H') (hp : H p = none) (hA : A.ok (fun a => a = p) (fun a => a = p ∨ G a) H') :
    Stp G (fun a => a = p ∨ G a) H H' ∧ sepL (A :: rs) (fun a => a = p ∨ G a) (fun a => a = p ∨ G a) H' := by
  have s : Stp G (fun a => a = p ∨ G a) H H' := ⟨fun a o q _ => hs a o q, fun a g => by
    rcases g with rfl | g
    · exact .inr hp
    · exact .inl g, fun a o q => ⟨o, hs a o q⟩⟩
  refine ⟨s, fun a => a = p, G, hA, sepL.step s.sub h fun a o q _ => hs a o q, fun a e g => ?_, fun a => Iff.rfl⟩
  subst e
  obtain ⟨o, q⟩ := h.dom a g
  rw [hp] at q; cases q
/-- one owned thing is changed in place (its own footprint stays) -/
theorem sepL.change {H H' : Hp} {rs : List Mem} {A B : Mem} {f : List Mem → List Mem} {G : Fp} (p : Pick rs A f) (h : sepL rs G G H)
    (hB : ∀ F1, A.ok F1 G H → (∀ a, F1 a → G a) → (∀ a o, H a = some o → ¬ F1 a → H' a = some o) ∧ (∀ a o, H a = some o → ∃ o', H' a = some o') ∧ B.ok F1 G H') :
    Stp G G H H' ∧ sepL (f [B]) G G H' := by
  obtain ⟨F1, F2, h1, h2, d, e⟩ := p.split.mp h
  obtain ⟨k, o, hb⟩ := hB F1 h1 fun a z => (e a).mpr (.inl z)
  refine ⟨⟨fun a u q n => k a u q fun z => n ((e a).mpr (.inl z)), fun a g => .inl g, o⟩, p.put.mpr ⟨F1, F2, hb, sepL.step (fun a g => .inl g) h2 fun a u q z => k a u q fun y => ?_, d, e⟩⟩
  rcases z with z | z
  · exact d a y z
  · exact z ((e a).mpr (.inl y))
end PW

set_option maxHeartbeats 1000000
/-! The judgements over slots and owned things. -/
namespace PW
open PySem L2
variable [KC]

/-! ### the meaning of a piece, as a reading -/
def tE (X : Cx) (e : Expr) : TE := fun σ H Q => ∀ pins s, Inv X pins σ H s → wpAny (model X.prog X.w) X.A (eval e X.env) (EP X pins σ Q) X.xe s
def tT (X : Cx) (e : Expr) : TT := fun σ H Q => ∀ pins s, Inv X pins σ H s → wpAny (model X.prog X.w) X.A (isTrue e X.env (eval e X.env)) (TP X pins σ Q) X.xe s
def tW (X : Cx) (e : Expr) : TT := fun σ H Q => ∀ whole pins s, Inv X pins σ H s → wpAny (model X.prog X.w) X.A (isTrue e X.env whole) (TP X pins σ Q) X.xe s
def tA (X : Cx) (es : List Expr) : TA := fun σ H Q => ∀ pos pins s, Inv X pins σ H s → wpAny (model X.prog X.w) X.A (spliced (backTo pos (starEach es X.env))) (AP X pins σ Q) X.xe s
def tS (X : Cx) (st : Stmt) : TS := fun D σ H => ∀ pins s, Inv X pins σ H s → wpAny (model X.prog X.w) X.A (exec st X.env) (SP X pins D) X.xe s
def tSs (X : Cx) (st : List Stmt) : TS := fun D σ H => ∀ pins s, Inv X pins σ H s → wpAny (model X.prog X.w) X.A (execs st X.env) (SP X pins D) X.xe s
section
variable {X : Cx} {e : Expr} {es : List Expr} {st : Stmt} {sts : List Stmt} {σ : L2.St} {H : Hp}
theorem pe_t : PE X e (tE X e) := ⟨fun pins s _ _ _ I h => h pins s I⟩
theorem pt_t : PT X e (tT X e) := ⟨fun pins s _ _ _ I h => h pins s I⟩
theorem pw_t : L2.PW X e (tW X e) := ⟨fun whole pins s _ _ _ I h => h whole pins s I⟩
theorem pa_t : PA X es (tA X es) := ⟨fun pos pins s _ _ _ I h => h pos pins s I⟩
theorem ps_t : PS X st (tS X st) := ⟨fun pins s _ _ _ I h => h pins s I⟩
theorem pss_t : PSs X sts (tSs X sts) := ⟨fun pins s _ _ _ I h => h pins s I⟩
theorem tE_of {t : TE} {Q : VK} (h : PE X e t) (q : t σ H Q) : tE X e σ H Q := fun pins s I => h.run pins s σ H Q I q
theorem tT_of {t : TT} {Q} (h : PT X e t) (q : t σ H Q) : tT X e σ H Q := fun pins s I => h.run pins s σ H Q I q
theorem tW_of {t : TT} {Q} (h : L2.PW X e t) (q : t σ H Q) : tW X e σ H Q := fun whole pins s I => h.run whole pins s σ H Q I q
theorem tA_of {t : TA} {Q} (h : PA X es t) (q : t σ H Q) : tA X es σ H Q := fun pos pins s I => h.run pos pins s σ H Q I q
theorem tS_of {t : TS} {D} (h : PS X st t) (q : t D σ H) : tS X st D σ H := fun pins s I => h.run pins s σ H D I q
theorem tSs_of {t : TS} {D} (h : PSs X sts t) (q : t D σ H) : tSs X sts D σ H := fun pins s I => h.run pins s σ H D I q
end

/-! ### the context -/
/-- what is fixed through a law -/
structure Mo where
  P : Program
  w : World
  K : PySem.W.Frag
  mg : Str → Option Value
  base : Heap
structure Mo.Of (m : Mo) (X : Cx) : Prop where
  P : X.prog = m.P
  w : X.w = m.w
  K : X.K = m.K
  mg : X.mg = m.mg
  base : X.base = m.base
/-- the built-in names are nobody's own -/
structure Bl (mg : Str → Option Value) : Prop where
  len : mg "len" = none
  range : mg "range" = none
  isinstance : mg "isinstance" = none
  list : mg "list" = none
  int : mg "int" = none
  bool : mg "bool" = none
  str : mg "str" = none
  tuple : mg "tuple" = none
  dict : mg "dict" = none
  set : mg "set" = none
  sorted : mg "sorted" = none
  min : mg "min" = none
  max : mg "max" = none
  reversed : mg "reversed" = none
  ValueError : mg "ValueError" = none
/-! ### names of a scope, found by their look -/
inductive KdIn : List (Str × NameKind) → Str → NameKind → Prop
  | zero {x k l} : KdIn ((x, k) :: l) x k
  | succ {x k l p} : KdIn l x k → KdIn (p :: l) x k
/-- no name twice, none of the odd ones -/
def okB : List (Str × NameKind) → Bool
  | [] => true
  | (x, _) :: l => (l.all fun p => !(x == p.1)) && !(x == ("__debug__" : Str)) && !(x == ("__classdict__" : Str)) && !(x == ("__name__" : Str)) && okB l
def ScOk (sc : Scope) : Prop := okB sc.names = true
instance {sc : Scope} : Decidable (ScOk sc) := inferInstanceAs (Decidable (_ = true))
theorem KdIn.mem {l : List (Str × NameKind)} {x : Str} {k : NameKind} (h : KdIn l x k) : (x, k) ∈ l := by
  induction h with
  | zero => exact List.mem_cons_self
  | succ _ ih => exact List.mem_cons_of_mem _ ih
theorem KdIn.look {l : List (Str × NameKind)} {x : Str} {k : NameKind} (h : KdIn l x k) : okB l = true → l.lookup x = some k ∧ (x == ("__debug__" : Str)) = false ∧ (x == ("__classdict__" : Str)) = false ∧ (x == ("__name__" : Str)) = false := by
  induction h with
  | @zero x k l =>
    intro o
    simp only [okB, Bool.and_eq_true, Bool.not_eq_true'] at o
    exact ⟨by simp [List.lookup], o.1.1.1.2, o.1.1.2, o.1.2⟩
  | @succ x k l p h ih =>
    intro o
    obtain ⟨y, j⟩ := p
    simp only [okB, Bool.and_eq_true, Bool.not_eq_true', List.all_eq_true] at o
    have q := o.1.1.1.1 _ h.mem
    have ne : (x == y) = false := by
      cases e : (x == y) with
      | false => rfl
      | true =>
        have e := eq_of_beq e
        subst e
        simp at q
    have r := ih o.2
    exact ⟨by rw [List.lookup_cons, ne]; exact r.1, r.2⟩
theorem kd_of {x : Str} {k : NameKind} : ∀ {l : List (Str × NameKind)}, l.lookup x = some k → KdIn l x k
  | [], h => by simp at h
  | (y, j) :: l, h => by
    rw [List.lookup_cons] at h
    cases e : (x == y) with
    | true =>
      rw [e] at h
      have e := eq_of_beq e
      subst e
      cases h
      exact .zero
    | false =>
      rw [e] at h
      exact .succ (kd_of h)
def visK : NameKind → Bool
  | .local => true | .cell => true | .free => true
  | _ => false
/-- a name that is read here -/
def NmIn (l : List (Str × NameKind)) (x : Str) : Prop := ∃ k, KdIn l x k ∧ visK k = true
theorem nm_of {l : List (Str × NameKind)} {x : Str} {k : NameKind} (h : KdIn l x k) (hk : visK k = true) : NmIn l x := ⟨k, h, hk⟩
theorem nm_vis {sc : Scope} {x : Str} (h : Vis sc x) : NmIn sc.names x := by
  rcases h with h | h | h
  · exact ⟨_, kd_of h, rfl⟩
  · exact ⟨_, kd_of h, rfl⟩
  · exact ⟨_, kd_of h, rfl⟩
structure Ctx (m₀ : Mo) (N₀ : List Str) (sc₀ : Scope) (lv₀ : Nat) (xp₀ : Addr → List Sl → List Mem → Prop) (fF₀ cm₀ : Bool) where
  X : Cx
  W : WX
  hm : m₀.Of X
  hK : m₀.K = KC.K
  bl : Bl m₀.mg
  hN : X.N = N₀
  nd : N₀.Nodup
  hsc : X.env.scope = sc₀
  sok : ScOk sc₀
  calm : cm₀ = true → X.calm = true
  room : cm₀ = true → Room lv₀ X.A
  un : X.A.units + 200 < cLine
  fs : fF₀ = true → X.stack = X.env :: X.outer ∧ X.env.frame = some X.env.locals
  tk : Takes X W
  fn : fF₀ = true → ∀ x, X.fn x = true
  po : PassesOwn (model X.prog X.w) X.A X.env X.xe
section
variable {m₀ : Mo} {N₀ : List Str} {sc₀ : Scope} {lv₀ : Nat} {xp₀ : Addr → List Sl → List Mem → Prop} {fF₀ cm₀ : Bool}
theorem Ctx.look (c : Ctx m₀ N₀ sc₀ lv₀ xp₀ fF₀ cm₀) {x : Str} {k : NameKind} (h : KdIn sc₀.names x k) : sc₀.names.lookup x = some k := (h.look c.sok).1
theorem Ctx.nd1 (c : Ctx m₀ N₀ sc₀ lv₀ xp₀ fF₀ cm₀) {x : Str} {k : NameKind} (h : KdIn sc₀.names x k) : (x == ("__debug__" : Str)) = false := (h.look c.sok).2.1
theorem Ctx.nd2 (c : Ctx m₀ N₀ sc₀ lv₀ xp₀ fF₀ cm₀) {x : Str} {k : NameKind} (h : KdIn sc₀.names x k) : (x == ("__classdict__" : Str)) = false := (h.look c.sok).2.2.1
theorem Ctx.nd3 (c : Ctx m₀ N₀ sc₀ lv₀ xp₀ fF₀ cm₀) {x : Str} {k : NameKind} (h : KdIn sc₀.names x k) : x ≠ ("__name__" : Str) := fun e => by
  have q := (h.look c.sok).2.2.2
  subst e
  simp at q
theorem Ctx.vis (c : Ctx m₀ N₀ sc₀ lv₀ xp₀ fF₀ cm₀) {x : Str} (h : NmIn sc₀.names x) : Vis sc₀ x := by
  obtain ⟨k, h, hk⟩ := h
  have q := c.look h
  cases k with
  | «local» => exact .inl q
  | cell => exact .inr (.inl q)
  | free => exact .inr (.inr q)
  | _ => cases hk
theorem Ctx.ck (c : Ctx m₀ N₀ sc₀ lv₀ xp₀ fF₀ cm₀) : c.X.K = KC.K := c.hm.K.trans c.hK
def XOk (c : Ctx m₀ N₀ sc₀ lv₀ xp₀ fF₀ cm₀) (G : Fp) (H : Hp) : Prop := ∀ C σ' H' G' ρ' rs', Stp G G' H H' → EnvOk G' H' σ' ρ' → sepL rs' G' G' H' → xp₀ C ρ' rs' → c.W (.ref C) none σ' H'
theorem XOk.stp {c : Ctx m₀ N₀ sc₀ lv₀ xp₀ fF₀ cm₀} {G G' : Fp} {H H' : Hp} (t : Stp G G' H H') (h : XOk c G H) : XOk c G' H' := fun C σ' H2 G2 ρ' rs' s => h C σ' H2 G2 ρ' rs' (t.trans s)

/-! ### the judgements -/
def DX (c : Ctx m₀ N₀ sc₀ lv₀ xp₀ fF₀ cm₀) (e : Expr) (ρ : List Sl) (rs : List Mem) (K : Sl → List Mem → Prop) : Prop := ∀ (σ : L2.St) (H : Hp) (G : Fp) (Q : VK), EnvOk G H σ ρ → sepL rs G G H → XOk c G H →
  (∀ v H' G' sl rs', Stp G G' H H' → Rs G' H H' v sl → sepL rs' G' G' H' → K sl rs' → Q v H') → tE c.X e σ H Q
def DT (c : Ctx m₀ N₀ sc₀ lv₀ xp₀ fF₀ cm₀) (e : Expr) (ρ : List Sl) (rs : List Mem) (K : Bool → List Mem → Prop) : Prop := ∀ (σ : L2.St) (H : Hp) (G : Fp) (Q : Bool → Hp → Prop), EnvOk G H σ ρ → sepL rs G G H → XOk c G H →
  (∀ b H' G' rs', Stp G G' H H' → sepL rs' G' G' H' → K b rs' → Q b H') → tT c.X e σ H Q
def DW (c : Ctx m₀ N₀ sc₀ lv₀ xp₀ fF₀ cm₀) (e : Expr) (ρ : List Sl) (rs : List Mem) (K : Bool → List Mem → Prop) : Prop := ∀ (σ : L2.St) (H : Hp) (G : Fp) (Q : Bool → Hp → Prop), EnvOk G H σ ρ → sepL rs G G H → XOk c G H →
  (∀ b H' G' rs', Stp G G' H H' → sepL rs' G' G' H' → K b rs' → Q b H') → tW c.X e σ H Q
def DA (c : Ctx m₀ N₀ sc₀ lv₀ xp₀ fF₀ cm₀) (es : List Expr) (ρ : List Sl) (rs : List Mem) (K : List Sl → List Mem → Prop) : Prop := ∀ (σ : L2.St) (H : Hp) (G : Fp) (Q : List V → Hp → Prop), EnvOk G H σ ρ → sepL rs G G H → XOk c G H →
  (∀ vs H' G' ss rs', Stp G G' H H' → SlAll G' H' vs ss → sepL rs' G' G' H' → K ss rs' → Q vs H') → tA c.X es σ H Q
structure Post where
  nx : List Sl → List Mem → Prop
  rt : Sl → List Mem → Prop
  bk : List Sl → List Mem → Prop := fun _ _ => False
  ct : List Sl → List Mem → Prop := fun _ _ => False
structure DEnd (P : Post) (D : Ends) (G : Fp) (H : Hp) : Prop where
  nx : ∀ σ' H' G' ρ' rs', Stp G G' H H' → EnvOk G' H' σ' ρ' → sepL rs' G' G' H' → P.nx ρ' rs' → D.nx σ' H'
  rt : ∀ v H' G' sl rs', Stp G G' H H' → Rs G' H H' v sl → sepL rs' G' G' H' → P.rt sl rs' → D.rt v H'
  bk : ∀ σ' H' G' ρ' rs', Stp G G' H H' → EnvOk G' H' σ' ρ' → sepL rs' G' G' H' → P.bk ρ' rs' → D.bk σ' H'
  ct : ∀ σ' H' G' ρ' rs', Stp G G' H H' → EnvOk G' H' σ' ρ' → sepL rs' G' G' H' → P.ct ρ' rs' → D.ct σ' H'
theorem DEnd.stp {P : Post} {D : Ends} {G G' : Fp} {H H' : Hp} (t : Stp G G' H H') (d : DEnd P D G H) : DEnd P D G' H' where
  nx := fun σ' H2 G2 ρ' rs' s => d.nx σ' H2 G2 ρ' rs' (t.trans s)
  rt := fun v H2 G2 sl rs' s r => d.rt v H2 G2 sl rs' (t.trans s) (r.back t)
  bk := fun σ' H2 G2 ρ' rs' s => d.bk σ' H2 G2 ρ' rs' (t.trans s)
  ct := fun σ' H2 G2 ρ' rs' s => d.ct σ' H2 G2 ρ' rs' (t.trans s)
def DS (c : Ctx m₀ N₀ sc₀ lv₀ xp₀ fF₀ cm₀) (st : Stmt) (ρ : List Sl) (rs : List Mem) (P : Post) : Prop := ∀ (σ : L2.St) (H : Hp) (G : Fp) (D : Ends), EnvOk G H σ ρ → sepL rs G G H → XOk c G H → DEnd P D G H → tS c.X st D σ H
def DSs (c : Ctx m₀ N₀ sc₀ lv₀ xp₀ fF₀ cm₀) (sts : List Stmt) (ρ : List Sl) (rs : List Mem) (P : Post) : Prop := ∀ (σ : L2.St) (H : Hp) (G : Fp) (D : Ends), EnvOk G H σ ρ → sepL rs G G H → XOk c G H → DEnd P D G H → tSs c.X sts D σ H

/-! ### operations on values -/
def OpD (r : R2) (s1 s2 : Sl) (rs : List Mem) (K : Sl → List Mem → Prop) : Prop := ∀ (G : Fp) (H : Hp) (x y : V) (Q : VK), SlOk G H x s1 → SlOk G H y s2 → sepL rs G G H →
  (∀ v H' G' sl rs', Stp G G' H H' → Rs G' H H' v sl → sepL rs' G' G' H' → K sl rs' → Q v H') → r x y H Q
def CaD (r : List V → Hp → VK → Prop) (ss : List Sl) (rs : List Mem) (K : Sl → List Mem → Prop) : Prop := ∀ (G : Fp) (H : Hp) (vs : List V) (Q : VK), SlAll G H vs ss → sepL rs G G H →
  (∀ v H' G' sl rs', Stp G G' H H' → Rs G' H H' v sl → sepL rs' G' G' H' → K sl rs' → Q v H') → r vs H Q

section
variable {c : Ctx m₀ N₀ sc₀ lv₀ xp₀ fF₀ cm₀} {e a b : Expr} {es : List Expr} {ρ ρ' : List Sl} {rs : List Mem} {K : Sl → List Mem → Prop} {KB : Bool → List Mem → Prop} {KA : List Sl → List Mem → Prop} {P : Post} {x : Str} {pos pos' : Pos} {i : Nat} {s : Sl}

/-! ### names and constants -/
theorem dx_name (h : Slot N₀ ρ x i s) (hn : s ≠ .un) (k : K s rs) (hv : NmIn sc₀.names x := by first | exact nm_of (by with_reducible (repeat (first | exact KdIn.zero | apply KdIn.succ))) rfl | exact nm_vis (by first | exact Or.inl rfl | exact Or.inr (Or.inl rfl) | exact Or.inr (Or.inr rfl))) (hnn : (match s with | .n _ => False | _ => True) := by trivial) : DX c (.Name x pos) ρ rs K := by
  intro σ H G Q he hs hx hq
  obtain ⟨v, e, z⟩ := h.env hn he
  refine tE_of (pe_var (i := i) (by rw [c.hN]; exact h.name) (by rw [c.hsc]; exact c.vis hv) (c.nd1 hv.choose_spec.1) (c.nd2 hv.choose_spec.1)) ⟨v, e, ?_⟩
  exact hq v H G s rs (Stp.refl _ _) (Rs.of_ok z (fun ds q => by subst q; exact hnn)) hs k
theorem dx_const {t : TE} {v : V} {d : PyData} (h : PE c.X e (tC v)) (hv : ∀ G H, Is G H v d) (k : K (.d d) rs) : DX c e ρ rs K := by
  intro σ H G Q he hs hx hq
  exact tE_of h (hq v H G (.d d) rs (Stp.refl _ _) (hv G H) hs k)
theorem dx_int {n : Int} {j} (k : K (.d (.int n)) rs) : DX c (.Constant (.int n) j pos) ρ rs K := dx_const (t := tC (.int n)) pe_int (fun _ _ => .int n) k
theorem dx_bl {n : Bool} {j} (k : K (.d (.bool n)) rs) : DX c (.Constant (.bool n) j pos) ρ rs K := dx_const (t := tC (.bl n)) pe_bl (fun _ _ => .bl n) k
theorem dx_non {j} (k : K (.d .none) rs) : DX c (.Constant .none j pos) ρ rs K := dx_const (t := tC .non) pe_non (fun _ _ => .non) k
theorem dx_str {z : Str} {j} (k : K (.d (.str z)) rs) : DX c (.Constant (.str z) j pos) ρ rs K := dx_const (t := tC (.str z)) pe_str (fun _ _ => .str z) k
/-- a name of the module that has an int, a text -/
theorem dx_gint {n : Int} {t : Tok} (hm : m₀.mg x = some (.int n t)) (k : K (.d (.int n)) rs) (hg : KdIn sc₀.names x .globalImplicit := by first | ((with_reducible (repeat (first | exact KdIn.zero | apply KdIn.succ))); (first | (all_goals fail) | fail)) | exact kd_of rfl) : DX c (.Name x pos) ρ rs K :=
  dx_const (t := tC (.int n)) (pe_glob (v := .int n) (show c.X.env.kindOf x = _ by unfold Env.kindOf; rw [c.hsc]; exact c.look hg) (by rw [c.hm.mg]; exact hm) ⟨t, rfl⟩ (c.nd1 hg)) (fun _ _ => .int n) k
theorem dx_gstr {n : Str} {t : Tok} (hm : m₀.mg x = some (.str n t)) (k : K (.d (.str n)) rs) (hg : KdIn sc₀.names x .globalImplicit := by first | ((with_reducible (repeat (first | exact KdIn.zero | apply KdIn.succ))); (first | (all_goals fail) | fail)) | exact kd_of rfl) : DX c (.Name x pos) ρ rs K :=
  dx_const (t := tC (.str n)) (pe_glob (v := .str n) (show c.X.env.kindOf x = _ by unfold Env.kindOf; rw [c.hsc]; exact c.look hg) (by rw [c.hm.mg]; exact hm) ⟨t, rfl⟩ (c.nd1 hg)) (fun _ _ => .str n) k

/-! ### operators -/
theorem dx_bin {op : Operator} {r : R2} (ho : OpR c.X (binaryOp op) r) (h : DX c a ρ rs fun s1 r1 => DX c b ρ r1 fun s2 r2 => OpD r s1 s2 r2 K) : DX c (.BinOp a op b pos) ρ rs K := by
  intro σ H G Q he hs hx hq
  refine tE_of (pe_op ho pe_t pe_t) ?_
  refine h σ H G _ he hs hx fun v1 H1 G1 s1 r1 t1 h1 o1 k1 => ?_
  refine k1 σ H1 G1 _ (he.stp t1) o1 (hx.stp t1) fun v2 H2 G2 s2 r2 t2 h2 o2 k2 => ?_
  exact k2 G2 H2 v1 v2 Q (h1.ok.stp t2) h2.ok o2 fun v H' G' sl rs' t3 h3 o3 k3 => hq v H' G' sl rs' ((t1.trans t2).trans t3) (h3.back (t1.trans t2)) o3 k3
theorem dx_cmp {op : CmpOp} {r : R2} (ho : OpR c.X (compareOp op) r) (hm : behindInMarks op b = false) (h : DX c a ρ rs fun s1 r1 => DX c b ρ r1 fun s2 r2 => OpD r s1 s2 r2 K) : DX c (.Compare a [op] [b] pos) ρ rs K := by
  intro σ H G Q he hs hx hq
  refine tE_of (pe_cmpR ho pe_t pe_t hm) ?_
  refine h σ H G _ he hs hx fun v1 H1 G1 s1 r1 t1 h1 o1 k1 => ?_
  refine k1 σ H1 G1 _ (he.stp t1) o1 (hx.stp t1) fun v2 H2 G2 s2 r2 t2 h2 o2 k2 => ?_
  exact k2 G2 H2 v1 v2 Q (h1.ok.stp t2) h2.ok o2 fun v H' G' sl rs' t3 h3 o3 k3 => hq v H' G' sl rs' ((t1.trans t2).trans t3) (h3.back (t1.trans t2)) o3 k3
/-- the wish of a truth -/
def KT (KB : Bool → List Mem → Prop) : Sl → List Mem → Prop := fun s rs => ∃ b, s = .d (.bool b) ∧ KB b rs
theorem kt {v : Bool} (h : KB v rs) : KT KB (.d (.bool v)) rs := ⟨v, rfl, h⟩
theorem rs_bool {G : Fp} {H0 H : Hp} {v : V} {b : Bool} (h : Rs G H0 H v (.d (.bool b))) : v = .bl b := by
  have h : Is G H v (.bool b) := h
  cases h; rfl
theorem dt_cmp {op : CmpOp} {r : R2} (ho : OpR c.X (compareOp op) r) (hm : behindInMarks op b = false) (h : DX c a ρ rs fun s1 r1 => DX c b ρ r1 fun s2 r2 => OpD r s1 s2 r2 (KT KB)) : DT c (.Compare a [op] [b] pos) ρ rs KB := by
  intro σ H G Q he hs hx hq
  refine tT_of (pt_cmpR ho pe_t pe_t hm) ?_
  refine h σ H G _ he hs hx fun v1 H1 G1 s1 r1 t1 h1 o1 k1 => ?_
  refine k1 σ H1 G1 _ (he.stp t1) o1 (hx.stp t1) fun v2 H2 G2 s2 r2 t2 h2 o2 k2 => ?_
  refine k2 G2 H2 v1 v2 _ (h1.ok.stp t2) h2.ok o2 fun v H' G' sl rs' t3 h3 o3 k3 => ?_
  obtain ⟨bb, rfl, k3⟩ := k3
  exact ⟨bb, rs_bool h3, hq bb H' G' rs' ((t1.trans t2).trans t3) o3 k3⟩
/-- a <= b < c -/
theorem dx_chain {op op' : CmpOp} {r r' : R2} {d : Expr} (ho : OpR c.X (compareOp op) r) (ho' : OpR c.X (compareOp op') r')
    (h : DX c a ρ rs fun s1 r1 => DX c b ρ r1 fun s2 r2 => OpD r s1 s2 r2 (KT fun k r3 => if k = true then DX c d ρ r3 fun s3 r4 => OpD r' s2.plain s3 r4 K else K (.d (.bool false)) r3))
    (hm : lastMarks [op, op'] [b, d] = false := by rfl) : DX c (.Compare a [op, op'] [b, d] pos) ρ rs K := by
  intro σ H G Q he hs hx hq
  refine tE_of (pe_chain ho ho' pe_t pe_t pe_t (hm := hm)) ?_
  refine h σ H G _ he hs hx fun v1 H1 G1 s1 r1 t1 h1 o1 k1 => ?_
  refine k1 σ H1 G1 _ (he.stp t1) o1 (hx.stp t1) fun v2 H2 G2 s2 r2 t2 h2 o2 k2 => ?_
  refine k2 G2 H2 v1 v2 _ (h1.ok.stp t2) h2.ok o2 fun v H' G' sl rs' t3 h3 o3 k3 => ?_
  obtain ⟨bb, rfl, k3⟩ := k3
  refine ⟨bb, rs_bool h3, ?_⟩
  have t123 := (t1.trans t2).trans t3
  cases bb with
  | true =>
    refine k3 σ H' G' _ (he.stp t123) o3 (hx.stp t123) fun v4 H4 G4 s4 r4 t4 h4 o4 k4 => ?_
    refine k4 G4 H4 v2 v4 Q ((h2.ok.plain.stp t3).stp t4) h4.ok o4 fun v H' G' sl rs' t5 h5 o5 k5 => hq v H' G' sl rs' ((t123.trans t4).trans t5) (h5.back (t123.trans t4)) o5 k5
  | false => exact hq _ H' G' (.d (.bool false)) rs' t123 (.bl false) o3 k3
theorem dt_chain {op op' : CmpOp} {r r' : R2} {d : Expr} (ho : OpR c.X (compareOp op) r) (ho' : OpR c.X (compareOp op') r')
    (h : DX c a ρ rs fun s1 r1 => DX c b ρ r1 fun s2 r2 => OpD r s1 s2 r2 (KT fun k r3 => if k = true then DX c d ρ r3 fun s3 r4 => OpD r' s2.plain s3 r4 (KT KB) else KB false r3))
    (hm : lastMarks [op, op'] [b, d] = false := by rfl) : DT c (.Compare a [op, op'] [b, d] pos) ρ rs KB := by
  intro σ H G Q he hs hx hq
  refine tT_of (pt_chain ho ho' pe_t pe_t pe_t (hm := hm)) ?_
  refine h σ H G _ he hs hx fun v1 H1 G1 s1 r1 t1 h1 o1 k1 => ?_
  refine k1 σ H1 G1 _ (he.stp t1) o1 (hx.stp t1) fun v2 H2 G2 s2 r2 t2 h2 o2 k2 => ?_
  refine k2 G2 H2 v1 v2 _ (h1.ok.stp t2) h2.ok o2 fun v H' G' sl rs' t3 h3 o3 k3 => ?_
  obtain ⟨bb, rfl, k3⟩ := k3
  refine ⟨bb, rs_bool h3, ?_⟩
  have t123 := (t1.trans t2).trans t3
  cases bb with
  | true =>
    refine k3 σ H' G' _ (he.stp t123) o3 (hx.stp t123) fun v4 H4 G4 s4 r4 t4 h4 o4 k4 => ?_
    refine k4 G4 H4 v2 v4 _ ((h2.ok.plain.stp t3).stp t4) h4.ok o4 fun v H' G' sl rs' t5 h5 o5 k5 => ?_
    obtain ⟨b2, rfl, k5⟩ := k5
    exact ⟨b2, rs_bool h5, hq b2 H' G' rs' ((t123.trans t4).trans t5) o5 k5⟩
  | false => exact ⟨false, rfl, hq false H' G' rs' t123 o3 k3⟩

/-! ### tests -/
/-- an expression that gives a truth -/
theorem dt_val (h : DX c e ρ rs (KT KB)) (he : ∀ whole, isTrue e c.X.env whole = (do let v ← whole; standAt e.pos; holding [v] (truthy v)) := by intro _; rfl) : DT c e ρ rs KB := by
  intro σ H G Q hE hs hx hq
  refine tT_of (pt_val pe_t he) ?_
  refine h σ H G _ hE hs hx fun v1 H1 G1 s1 r1 t1 h1 o1 k1 => ?_
  obtain ⟨b, rfl, k1⟩ := k1
  exact ⟨b, rs_bool h1, hq b H1 G1 r1 t1 o1 k1⟩
/-- truth of any value -/
def TrD (s : Sl) (rs : List Mem) (KB : Bool → List Mem → Prop) : Prop := ∀ (G : Fp) (H : Hp) (x : V), SlOk G H x s → sepL rs G G H → ∃ b, TruV KC.K x H b ∧ KB b rs
theorem dt_tru (h : DX c e ρ rs fun s r => TrD s r KB) (he : ∀ whole, isTrue e c.X.env whole = (do let v ← whole; standAt e.pos; holding [v] (truthy v)) := by intro _; rfl) : DT c e ρ rs KB := by
  intro σ H G Q hE hs hx hq
  refine tT_of (pt_truth pe_t he) ?_
  refine h σ H G _ hE hs hx fun v1 H1 G1 s1 r1 t1 h1 o1 k1 => ?_
  obtain ⟨b, hb, kb⟩ := k1 G1 H1 v1 h1.ok o1
  exact ⟨b, c.ck ▸ hb, hq b H1 G1 r1 t1 o1 kb⟩
theorem tr_bool {b : Bool} (h : KB b rs) : TrD (.d (.bool b)) rs KB := fun G H x hx _ => by
  have hx : Is G H x (.bool b) := hx
  cases hx; exact ⟨b, rfl, h⟩
theorem tr_none (h : KB false rs) : TrD (.d .none) rs KB := fun G H x hx _ => by
  have hx : Is G H x .none := hx
  cases hx; exact ⟨false, rfl, h⟩
theorem tr_int {n : Int} (h : KB (decide (n ≠ 0)) rs) : TrD (.d (.int n)) rs KB := fun G H x hx _ => by
  have hx : Is G H x (.int n) := hx
  cases hx; refine ⟨_, ?_, h⟩; show _ = (n != 0); by_cases z : n = 0 <;> simp [z, bne, BEq.beq]
theorem isEmpty_is {G : Fp} {H : Hp} {vs : List V} {ds : List PyData} (h : IsAll G H vs ds) : (!vs.isEmpty) = !ds.isEmpty := by
  cases h <;> rfl
theorem tr_list {ds : List PyData} (h : KB (!ds.isEmpty) rs) : TrD (.d (.list ds)) rs KB := fun G H x hx _ => by
  have hx : Is G H x (.list ds) := hx
  cases hx with
  | lst r t => exact ⟨_, .inl ⟨_, r.sq, (isEmpty_is t).symm⟩, h⟩
theorem tr_tuple {ds : List PyData} (h : KB (!ds.isEmpty) rs) : TrD (.d (.tuple ds)) rs KB := fun G H x hx _ => by
  have hx : Is G H x (.tuple ds) := hx
  cases hx with
  | tup r n t => exact ⟨_, .inr (.inl ⟨_, .inl r, (isEmpty_is t).symm⟩), h⟩
theorem dt_not (h : DT c e ρ rs fun k r => KB (!k) r) : DT c (.UnaryOp .Not e pos) ρ rs KB := by
  intro σ H G Q hE hs hx hq
  refine tT_of (pt_not pt_t) ?_
  exact h σ H G _ hE hs hx fun k H1 G1 r1 t1 o1 k1 => hq _ H1 G1 r1 t1 o1 k1
theorem dw_and1 (h : DT c a ρ rs KB) : DW c (.BoolOp .And [a] pos) ρ rs KB := fun σ H G Q hE hs hx hq => tW_of (pw_and1 pt_t) (h σ H G _ hE hs hx hq)
theorem dw_or1 (h : DT c a ρ rs KB) : DW c (.BoolOp .Or [a] pos) ρ rs KB := fun σ H G Q hE hs hx hq => tW_of (pw_or1 pt_t) (h σ H G _ hE hs hx hq)
theorem dw_and (h : DT c a ρ rs fun k r => if k = true then DW c (.BoolOp .And (b :: es) pos) ρ r KB else KB false r) : DW c (.BoolOp .And (a :: b :: es) pos) ρ rs KB := by
  intro σ H G Q hE hs hx hq
  refine tW_of (pw_and pt_t pw_t) ?_
  refine h σ H G _ hE hs hx fun k H1 G1 r1 t1 o1 k1 => ?_
  cases k with
  | true => exact k1 σ H1 G1 Q (hE.stp t1) o1 (hx.stp t1) fun k H2 G2 r2 t2 => hq k H2 G2 r2 (t1.trans t2)
  | false => exact hq false H1 G1 r1 t1 o1 k1
theorem dw_or (h : DT c a ρ rs fun k r => if k = true then KB true r else DW c (.BoolOp .Or (b :: es) pos) ρ r KB) : DW c (.BoolOp .Or (a :: b :: es) pos) ρ rs KB := by
  intro σ H G Q hE hs hx hq
  refine tW_of (pw_or pt_t pw_t) ?_
  refine h σ H G _ hE hs hx fun k H1 G1 r1 t1 o1 k1 => ?_
  cases k with
  | true => exact hq true H1 G1 r1 t1 o1 k1
  | false => exact k1 σ H1 G1 Q (hE.stp t1) o1 (hx.stp t1) fun k H2 G2 r2 t2 => hq k H2 G2 r2 (t1.trans t2)
theorem dt_bool {op : BoolOp} (h : DW c (.BoolOp op es pos) ρ rs KB) : DT c (.BoolOp op es pos) ρ rs KB := fun σ H G Q hE hs hx hq => tT_of (L2.PW.pt pw_t) (h σ H G Q hE hs hx hq)
/-- as values -/
theorem dx_one {op : BoolOp} (h : DX c a ρ rs K) : DX c (.BoolOp op [a] pos) ρ rs K := fun σ H G Q hE hs hx hq => tE_of (pe_one pe_t) (h σ H G Q hE hs hx hq)
theorem dx_and (h : DX c a ρ rs (KT fun k r => if k = true then DX c (.BoolOp .And (b :: es) pos) ρ r K else K (.d (.bool false)) r)) : DX c (.BoolOp .And (a :: b :: es) pos) ρ rs K := by
  intro σ H G Q hE hs hx hq
  refine tE_of (pe_and pe_t pe_t) ?_
  refine h σ H G _ hE hs hx fun v H1 G1 s1 r1 t1 h1 o1 k1 => ?_
  obtain ⟨k, rfl, k1⟩ := k1
  refine ⟨k, rs_bool h1, ?_⟩
  cases k with
  | true => exact k1 σ H1 G1 Q (hE.stp t1) o1 (hx.stp t1) fun v H2 G2 s2 r2 t2 h2 => hq v H2 G2 s2 r2 (t1.trans t2) (h2.back t1)
  | false => exact hq _ H1 G1 (.d (.bool false)) r1 t1 (.bl false) o1 k1
theorem dx_or (h : DX c a ρ rs (KT fun k r => if k = true then K (.d (.bool true)) r else DX c (.BoolOp .Or (b :: es) pos) ρ r K)) : DX c (.BoolOp .Or (a :: b :: es) pos) ρ rs K := by
  intro σ H G Q hE hs hx hq
  refine tE_of (pe_or pe_t pe_t) ?_
  refine h σ H G _ hE hs hx fun v H1 G1 s1 r1 t1 h1 o1 k1 => ?_
  obtain ⟨k, rfl, k1⟩ := k1
  refine ⟨k, rs_bool h1, ?_⟩
  cases k with
  | true => exact hq _ H1 G1 (.d (.bool true)) r1 t1 (.bl true) o1 k1
  | false => exact k1 σ H1 G1 Q (hE.stp t1) o1 (hx.stp t1) fun v H2 G2 s2 r2 t2 h2 => hq v H2 G2 s2 r2 (t1.trans t2) (h2.back t1)
theorem dx_not (h : DX c a ρ rs (KT fun k r => K (.d (.bool (!k))) r)) : DX c (.UnaryOp .Not a pos) ρ rs K := by
  intro σ H G Q hE hs hx hq
  refine tE_of (pe_not pe_t) ?_
  refine h σ H G _ hE hs hx fun v H1 G1 s1 r1 t1 h1 o1 k1 => ?_
  obtain ⟨k, rfl, k1⟩ := k1
  exact ⟨k, rs_bool h1, hq _ H1 G1 (.d (.bool (!k))) r1 t1 (.bl _) o1 k1⟩
theorem dx_neg (h : DX c a ρ rs fun s r => ∃ n, s = .d (.int n) ∧ K (.d (.int (-n))) r) : DX c (.UnaryOp .USub a pos) ρ rs K := by
  intro σ H G Q hE hs hx hq
  refine tE_of (pe_un un_neg pe_t) ?_
  refine h σ H G _ hE hs hx fun v H1 G1 s1 r1 t1 h1 o1 k1 => ?_
  obtain ⟨n, rfl, k1⟩ := k1
  have h1 : Is G1 H1 v (.int n) := h1
  cases h1
  exact ⟨n, rfl, hq _ H1 G1 (.d (.int (-n))) r1 t1 (.int _) o1 k1⟩
theorem dx_ifExp {t : Expr} (h : DT c t ρ rs fun k r => if k = true then DX c a ρ r K else DX c b ρ r K) : DX c (.IfExp t a b pos) ρ rs K := by
  intro σ H G Q hE hs hx hq
  refine tE_of (pe_ifExp pt_t pe_t pe_t) ?_
  refine h σ H G _ hE hs hx fun k H1 G1 r1 t1 o1 k1 => ?_
  cases k with
  | true => exact k1 σ H1 G1 Q (hE.stp t1) o1 (hx.stp t1) fun v H2 G2 s2 r2 t2 h2 => hq v H2 G2 s2 r2 (t1.trans t2) (h2.back t1)
  | false => exact k1 σ H1 G1 Q (hE.stp t1) o1 (hx.stp t1) fun v H2 G2 s2 r2 t2 h2 => hq v H2 G2 s2 r2 (t1.trans t2) (h2.back t1)

/-! ### argument lists, displays -/
theorem da_nil (k : KA [] rs) : DA c [] ρ rs KA := fun σ H G Q hE hs hx hq => tA_of pa_nil (hq [] H G [] rs (Stp.refl _ _) trivial hs k)
theorem da_cons (h : DX c e ρ rs fun s r1 => DA c es ρ r1 fun ss r2 => KA (s.plain :: ss) r2) (hst : starEach (e :: es) c.X.env = (false, eval e c.X.env) :: starEach es c.X.env := by rfl) : DA c (e :: es) ρ rs KA := by
  intro σ H G Q hE hs hx hq
  refine tA_of (pa_cons pe_t pa_t hst) ?_
  refine h σ H G _ hE hs hx fun v H1 G1 s1 r1 t1 h1 o1 k1 => ?_
  exact k1 σ H1 G1 _ (hE.stp t1) o1 (hx.stp t1) fun vs H2 G2 ss r2 t2 h2 o2 k2 => hq (v :: vs) H2 G2 (s1.plain :: ss) r2 (t1.trans t2) ⟨h1.ok.plain.stp t2, h2⟩ o2 k2
/-- all of the slots are data -/
def Datas : List Sl → List PyData → Prop
  | [], [] => True
  | s :: ss, d :: ds => s = .d d ∧ Datas ss ds
  | _, _ => False
theorem Datas.is {G : Fp} {H : Hp} : ∀ {ss : List Sl} {ds : List PyData} {vs : List V}, Datas ss ds → SlAll G H vs ss → IsAll G H vs ds
  | [], [], [], _, _ => .nil
  | s :: ss, d :: ds, v :: vs, ⟨e, q⟩, ⟨h, t⟩ => by subst e; exact .cons h (q.is t)
  | [], [], _ :: _, _, h => h.elim
  | _ :: _, _ :: _, [], _, h => h.elim
  | [], _ :: _, _, h, _ => h.elim
  | _ :: _, [], _, h, _ => h.elim
theorem Datas.length : ∀ {ss : List Sl} {ds : List PyData}, Datas ss ds → ss.length = ds.length
  | [], [], _ => rfl
  | _ :: _, _ :: _, ⟨_, q⟩ => congrArg (· + 1) q.length
  | [], _ :: _, h => h.elim
  | _ :: _, [], h => h.elim
theorem Datas.of : ∀ (ds : List PyData), Datas (ds.map .d) ds
  | [] => trivial
  | _ :: ds => ⟨rfl, Datas.of ds⟩
theorem sepL.fresh {G : Fp} {H : Hp} {p : Addr} (hs : sepL rs G G H) (hp : H p = none) : ¬ G p := fun g => by
  obtain ⟨o, q⟩ := hs.dom p g
  rw [hp] at q; cases q
theorem same_new {H : Hp} {p : Addr} {o : HO} (h : H p = none) : Same H (upd H p o) := fun a u e => by rw [upd_ne (ne_of_none e h)]; exact e
theorem stp_new {G : Fp} {H : Hp} {p : Addr} {o : HO} (h : H p = none) : Stp G G H (upd H p o) := Stp.same (same_new h)
theorem dx_tup {x1} (h : DA c es ρ rs fun ss r => ∃ ds, Datas ss ds ∧ ss.length ≤ 100000 ∧ K (.d (.tuple ds)) r) : DX c (.Tuple es x1 pos) ρ rs K := by
  intro σ H G Q hE hs hx hq
  refine tE_of (pe_tup pa_t) ?_
  refine h σ H G _ hE hs hx fun vs H1 G1 ss r1 t1 h1 o1 k1 => ?_
  obtain ⟨ds, hd, hl, k1⟩ := k1
  refine ⟨Nat.le_trans (Nat.le_trans (Nat.le_of_eq h1.length) hl) (by decide), fun p hp => ?_⟩
  have t2 : Stp G1 G1 H1 (upd H1 p (.tup vs)) := stp_new hp
  exact hq _ _ G1 (.d (.tuple ds)) r1 (t1.trans t2) (.tup (.inl upd_same) (o1.fresh hp) ((hd.is h1).stp t2)) (sepL.step t2.sub o1 fun a o q _ => same_new hp a o q) k1
theorem dx_lst (h : DA c es ρ rs fun ss r => ∃ ds, Datas ss ds ∧ ss.length ≤ 100000 ∧ K (.n ds) r) : DX c (.List es pos) ρ rs K := by
  intro σ H G Q hE hs hx hq
  refine tE_of (pe_lst pa_t) ?_
  refine h σ H G _ hE hs hx fun vs H1 G1 ss r1 t1 h1 o1 k1 => ?_
  obtain ⟨ds, hd, hl, k1⟩ := k1
  refine ⟨Nat.le_trans (Nat.le_trans (Nat.le_of_eq h1.length) hl) (by decide), fun p hp => ?_⟩
  have t2 : Stp G1 G1 H1 (upd H1 p (.lst vs)) := stp_new hp
  exact hq _ _ G1 (.n ds) r1 (t1.trans t2) ⟨p, vs, rfl, t1.fresh hp, o1.fresh hp, upd_same, (hd.is h1).stp t2⟩ (sepL.step t2.sub o1 fun a o q _ => same_new hp a o q) k1

/-! ### statements -/
variable {st : Stmt} {sts : List Stmt}
theorem dss_nil (k : P.nx ρ rs) : DSs c [] ρ rs P := fun σ H G D hE hs hx hd => tSs_of pss_nil (hd.nx σ H G ρ rs (Stp.refl _ _) hE hs k)
theorem dss_cons (h : DS c st ρ rs { P with nx := fun ρ' r' => DSs c sts ρ' r' P }) : DSs c (st :: sts) ρ rs P := by
  intro σ H G D hE hs hx hd
  refine tSs_of (pss_cons ps_t pss_t) ?_
  exact h σ H G { D with nx := tSs c.X sts D } hE hs hx ⟨fun σ' H' G' ρ' r' t e o k => k σ' H' G' D e o (hx.stp t) (hd.stp t), hd.rt, hd.bk, hd.ct⟩
theorem dss_one (h : DS c st ρ rs P) : DSs c [st] ρ rs P := fun σ H G D hE hs hx hd => tSs_of (pss_one ps_t) (h σ H G D hE hs hx hd)
theorem ds_expr (h : DX c e ρ rs fun _ r => P.nx ρ r) (hw : swapsWith e none pos.line c.X.env = pure false := by rfl) : DS c (.Expr e pos) ρ rs P := by
  intro σ H G D hE hs hx hd
  refine tS_of (ps_expr pe_t hw) ?_
  exact h σ H G _ hE hs hx fun v H1 G1 s1 r1 t1 h1 o1 k1 => hd.nx σ H1 G1 ρ r1 t1 (hE.stp t1) o1 k1
theorem ds_ret (h : DX c e ρ rs P.rt) : DS c (.Return (some e) pos) ρ rs P := fun σ H G D hE hs hx hd => tS_of (ps_ret pe_t) (h σ H G _ hE hs hx hd.rt)
theorem ds_retN (h : P.rt (.d .none) rs) : DS c (.Return none pos) ρ rs P := fun σ H G D hE hs hx hd => tS_of ps_retN (hd.rt .non H G (.d .none) rs (Stp.refl _ _) .non hs h)
theorem ds_pass (h : P.nx ρ rs) : DS c (.Pass pos) ρ rs P := fun σ H G D hE hs hx hd => tS_of ps_pass (hd.nx σ H G ρ rs (Stp.refl _ _) hE hs h)
theorem ds_break (h : P.bk ρ rs) : DS c (.Break pos) ρ rs P := fun σ H G D hE hs hx hd => tS_of ps_break (hd.bk σ H G ρ rs (Stp.refl _ _) hE hs h)
theorem ds_continue (h : P.ct ρ rs) : DS c (.Continue pos) ρ rs P := fun σ H G D hE hs hx hd => tS_of ps_continue (hd.ct σ H G ρ rs (Stp.refl _ _) hE hs h)
theorem ds_if {A B : List Stmt} (h : DT c e ρ rs fun k r => if k = true then DSs c A ρ r P else DSs c B ρ r P) : DS c (.If e A B pos) ρ rs P := by
  intro σ H G D hE hs hx hd
  refine tS_of (ps_if pt_t pss_t pss_t) ?_
  refine h σ H G _ hE hs hx fun k H1 G1 r1 t1 o1 k1 => ?_
  cases k with
  | true => exact k1 σ H1 G1 D (hE.stp t1) o1 (hx.stp t1) (hd.stp t1)
  | false => exact k1 σ H1 G1 D (hE.stp t1) o1 (hx.stp t1) (hd.stp t1)
/-- a name that is stored -/
def LocF (c : Ctx m₀ N₀ sc₀ lv₀ xp₀ fF₀ cm₀) (x : Str) : Prop := sc₀.names.lookup x = some .local ∨ (sc₀.names.lookup x = some .cell ∧ fF₀ = true)
def locK (f : Bool) : NameKind → Bool
  | .local => true | .cell => f
  | _ => false
theorem locF_of {k : NameKind} (h : KdIn sc₀.names x k) (hk : locK fF₀ k = true) : LocF c x := by
  have q := c.look h
  cases k with
  | «local» => exact .inl q
  | cell => exact .inr ⟨q, hk⟩
  | _ => cases hk
theorem LocF.loc (hx : LocF c x) : Loc c.X.env.scope x := by
  rw [c.hsc]
  exact hx.imp id And.left
theorem c_hf (hx : LocF c x) : c.X.fn x = true ∨ c.X.env.scope.names.lookup x = some .local := by
  rcases hx with z | z
  · exact .inr (by rw [c.hsc]; exact z)
  · exact .inl (c.fn z.2 x)
/-- x = e -/
theorem ds_set (h : DX c e ρ rs fun s r => ∃ i ρ', SetS N₀ ρ x i s.plain ρ' ∧ P.nx ρ' r) (hl : LocF c x := by first | exact locF_of (by with_reducible (repeat (first | exact KdIn.zero | apply KdIn.succ))) rfl | exact Or.inl rfl | exact Or.inr ⟨rfl, rfl⟩) (hw : swapsWith e (some (.Name x pos')) pos.line c.X.env = pure false := by rfl) : DS c (.Assign [.Name x pos'] e pos) ρ rs P := by
  intro σ H G D hE hs hx hd
  have key : ∀ (i : Nat), c.X.N[i]? = some x → (tE c.X e σ H fun v H1 => D.nx (σ.set i (some v)) H1) → tS c.X (.Assign [.Name x pos'] e pos) D σ H := fun i hi q =>
    tS_of (ps_set (by rw [c.hN]; exact c.nd) hi hl.loc pe_t hw (c_hf hl)) q
  have hix : ∃ i : Nat, c.X.N[i]? = some x ∨ ∀ v H' G' sl rs', Stp G G' H H' → Rs G' H H' v sl → sepL rs' G' G' H' → (∃ i ρ', SetS N₀ ρ x i sl.plain ρ' ∧ P.nx ρ' rs') → False := by
    by_cases q : ∃ i : Nat, c.X.N[i]? = some x
    · obtain ⟨i, q⟩ := q
      exact ⟨i, .inl q⟩
    · exact ⟨0, .inr fun v H' G' sl rs' _ _ _ ⟨i, ρ', z, _⟩ => q ⟨i, by rw [c.hN]; exact z.name⟩⟩
  obtain ⟨i, hi | hno⟩ := hix
  · refine key i hi ?_
    refine h σ H G _ hE hs hx fun v H1 G1 s1 r1 t1 h1 o1 k1 => ?_
    obtain ⟨j, ρ', z, k1⟩ := k1
    have hj : c.X.N[j]? = some x := by rw [c.hN]; exact z.name
    have nd : c.X.N.Nodup := by rw [c.hN]; exact c.nd
    have ej : j = i := nd_ix nd hj hi
    subst ej
    exact hd.nx _ H1 G1 ρ' r1 t1 (z.env h1.ok.plain (hE.stp t1)) o1 k1
  · -- the name has no slot: the value's wish can never be met
    intro pins s I
    have : tE c.X e σ H fun v H1 => False := h σ H G _ hE hs hx fun v H1 G1 s1 r1 t1 h1 o1 k1 => hno v H1 G1 s1 r1 t1 h1 o1 k1
    have q : tS c.X (.Assign [.Name x pos'] e pos) D σ H := tS_of (ps_asg (g := fun _ _ _ _ => False) pe_t ⟨fun pins s σ H v u Q I r z => z.elim⟩ hw rfl) this
    exact q pins s I
end
end
end PW

set_option maxHeartbeats 1000000
/-! Operators, subscripts, slices, built-ins. -/
namespace PW
open PySem L2
variable [KC]
variable {m₀ : Mo} {N₀ : List Str} {sc₀ : Scope} {lv₀ : Nat} {xp₀ : Addr → List Sl → List Mem → Prop} {fF₀ cm₀ : Bool}

def Sl.asList : Sl → Option (List PyData)
  | .d (.list ds) => some ds
  | .n ds => some ds
  | _ => none
section
variable {G G' : Fp} {H H' : Hp} {v : V} {s : Sl} {ds : List PyData}
theorem SlOk.list (h : SlOk G H v s) (e : s.asList = some ds) : ∃ p vs, v = .ref p ∧ LsAt G H p vs ∧ IsAll G H vs ds := by
  have h : Is G H v (.list ds) := by
    cases s with
    | un => cases e
    | r u => cases e
    | n xs => cases e; exact h
    | d x =>
      cases x with
      | list xs => cases e; exact h
      | _ => cases e
  cases h with
  | lst r t => exact ⟨_, _, rfl, r, t⟩
theorem SlOk.int {i : Int} (h : SlOk G H v (.d (.int i))) : v = .int i := by
  have h : Is G H v (.int i) := h
  cases h; rfl
theorem SlOk.str {i : Str} (h : SlOk G H v (.d (.str i))) : v = .str i := by
  have h : Is G H v (.str i) := h
  cases h; rfl
theorem SlOk.bl {i : Bool} (h : SlOk G H v (.d (.bool i))) : v = .bl i := by
  have h : Is G H v (.bool i) := h
  cases h; rfl
theorem SlOk.non (h : SlOk G H v (.d .none)) : v = .non := by
  have h : Is G H v .none := h
  cases h; rfl
theorem SlOk.tuple (h : SlOk G H v (.d (.tuple ds))) : ∃ p vs, v = .ref p ∧ Rd H p (.tup vs) ∧ ¬ G p ∧ IsAll G H vs ds := by
  have h : Is G H v (.tuple ds) := h
  cases h with
  | tup r n t => exact ⟨_, _, rfl, r, n, t⟩
end

/-! ### one or the other -/
def rOr (r r' : R2) : R2 := fun x y H Q => r x y H Q ∨ r' x y H Q
theorem op_or {X : Cx} {f : Value → Value → Sem Value} {r r' : R2} (h : OpR X f r) (h' : OpR X f r') : OpR X f (rOr r r') := by
  intro pins s σ H x y v u Q I rx ry q
  rcases q with q | q
  · exact h pins s σ H x y v u Q I rx ry q
  · exact h' pins s σ H x y v u Q I rx ry q
def cOr (r r' : List V → Hp → VK → Prop) : List V → Hp → VK → Prop := fun vs H Q => r vs H Q ∨ r' vs H Q
theorem call_or {X : Cx} {f : Value} {r r' : List V → Hp → VK → Prop} (h : CallR X f r) (h' : CallR X f r') : CallR X f (cOr r r') := by
  intro pins s σ H xs us Q I rx q
  rcases q with q | q
  · exact h pins s σ H xs us Q I rx q
  · exact h' pins s σ H xs us Q I rx q
section
variable {rs : List Mem} {K : Sl → List Mem → Prop} {s1 s2 : Sl} {r r' : R2}
theorem od_l (h : OpD r s1 s2 rs K) : OpD (rOr r r') s1 s2 rs K := fun G H x y Q a b c d => .inl (h G H x y Q a b c d)
theorem od_r (h : OpD r' s1 s2 rs K) : OpD (rOr r r') s1 s2 rs K := fun G H x y Q a b c d => .inr (h G H x y Q a b c d)
variable {q q' : List V → Hp → VK → Prop} {ss : List Sl}
theorem cd_l (h : CaD q ss rs K) : CaD (cOr q q') ss rs K := fun G H vs Q a b c => .inl (h G H vs Q a b c)
theorem cd_r (h : CaD q' ss rs K) : CaD (cOr q q') ss rs K := fun G H vs Q a b c => .inr (h G H vs Q a b c)
/-- a result that is new data, the heap grown -/
theorem give {G : Fp} {H H' : Hp} {Q : VK} (hs : sepL rs G G H) (hq : ∀ v H' G' sl rs', Stp G G' H H' → Rs G' H H' v sl → sepL rs' G' G' H' → K sl rs' → Q v H') {v : V} {sl : Sl} (hh : Same H H') (hr : Rs G H H' v sl) (k : K sl rs) : Q v H' :=
  hq v H' G sl rs (Stp.same hh) hr (sepL.step (Stp.same hh).sub hs fun a o q _ => hh a o q) k
theorem give0 {G : Fp} {H : Hp} {Q : VK} (hs : sepL rs G G H) (hq : ∀ v H' G' sl rs', Stp G G' H H' → Rs G' H H' v sl → sepL rs' G' G' H' → K sl rs' → Q v H') {v : V} {sl : Sl} (hr : Rs G H H v sl) (k : K sl rs) : Q v H :=
  hq v H G sl rs (Stp.refl _ _) hr hs k
/-! ### arithmetic -/
theorem od_I0 {g : Int → Int → V} {gd : Int → Int → PyData} {i j : Int} (hg : ∀ i j G H, Is G H (g i j) (gd i j)) (k : K (.d (gd i j)) rs) : OpD (rI0 g) (.d (.int i)) (.d (.int j)) rs K := fun G H x y Q hx hy hs hq =>
  ⟨i, j, hx.int, hy.int, give0 hs hq (sl := .d (gd i j)) (hg i j G H) k⟩
theorem od_I {C : Int → Int → Prop} {g : Int → Int → V} {gd : Int → Int → PyData} {i j : Int} (hg : ∀ i j G H, Is G H (g i j) (gd i j)) (hc : C i j) (k : K (.d (gd i j)) rs) : OpD (rI C g) (.d (.int i)) (.d (.int j)) rs K := fun G H x y Q hx hy hs hq =>
  ⟨i, j, hx.int, hy.int, hc, give0 hs hq (sl := .d (gd i j)) (hg i j G H) k⟩
end
/-- list + list; read ones too -/
def rCatR (K : PySem.W.Frag) : R2 := fun x y H Q => ∃ l b xs zs, x = .ref l ∧ y = .ref b ∧ SqL K H l xs ∧ SqL K H b zs ∧ xs.length + zs.length ≤ sizeLine ∧ ∀ p, H p = none → Q (.ref p) (upd H p (.lst (xs ++ zs)))
theorem op_catR {X : Cx} : OpR X (binaryOp .Add) (rCatR X.K) := by
  intro pins s σ H x y v u Q I rx ry h
  obtain ⟨l, b, xs, zs, rfl, rfl, hH, hB, hz, q⟩ := h
  cases rx
  cases ry
  obtain ⟨its, r, ⟨⟨c1, d1, a1, sl1⟩, n, e, hc1, hd1, ha1⟩, z⟩ := I.list hH
  obtain ⟨its2, r2, ⟨⟨c2, d2, a2, sl2⟩, n2, e2, hc2, hd2, ha2⟩, z2⟩ := I.list hB
  simp only at hc1 hd1 ha1 hc2 hd2 ha2
  subst hc1 hd1 ha1 hc2 hd2 ha2
  have hl := r.length
  have hl2 := r2.length
  have hsz : its.toArray.size + its2.toArray.size ≤ sizeLine := by rw [List.size_toArray, List.size_toArray]; omega
  refine concat_meets ⟨_, e, rfl⟩ ⟨_, e2, rfl⟩ noFill_list_add seq_list_add F.slot_list_add F.entry_list_add (F.args_list_add_2 _ _)
    (PyProof.Rows.list_addW l b its.toArray its2.toArray n n2 none none sl1 sl2 hsz) ⟨e, e2, ?_⟩
  have ea : its.toArray ++ its2.toArray = (its ++ its2).toArray := by simp
  rw [ea]
  exact ⟨.ref _, _, I.lnew (t' := s.toks) (r.append r2) (by rw [List.length_append]; omega), rfl, q _ I.fresh⟩
def uAdd (K : PySem.W.Frag) : R2 := rOr (rI0 fun i j => .int (i + j)) (rOr (fun x y H Q => ∃ i j, x = .str i ∧ y = .str j ∧ i.length + j.length ≤ sizeLine ∧ Q (.str (i ++ j)) H) (rOr (rCatR K) (rCatT K)))
theorem op_uAdd {X : Cx} : OpR X (binaryOp .Add) (uAdd X.K) := op_or op_add (op_or op_add_str (op_or op_catR op_catT))
def uMul : R2 := rOr (rI IntMulOk fun i j => .int (i * j)) rRep
theorem op_uMul {X : Cx} : OpR X (binaryOp .Mult) uMul := op_or (opI fun _ _ _ _ _ _ _ hc q => PyProof.Rows.mul_int q hc) op_rep
section
variable {rs : List Mem} {K : Sl → List Mem → Prop} {s1 s2 : Sl} {i j : Int}
theorem od_add (k : K (.d (.int (i + j))) rs) : OpD (uAdd KC.K) (.d (.int i)) (.d (.int j)) rs K := od_l (od_I0 (gd := fun i j => .int (i + j)) (fun _ _ _ _ => .int _) k)
theorem od_adds {x y : Str} (hz : x.length + y.length ≤ 100000) (k : K (.d (.str (x ++ y))) rs) : OpD (uAdd KC.K) (.d (.str x)) (.d (.str y)) rs K := od_r (od_l fun G H a b Q hx hy hs hq =>
  ⟨x, y, hx.str, hy.str, Nat.le_trans hz (by decide), give0 hs hq (sl := .d (.str (x ++ y))) (Is.str _) k⟩)
theorem od_addl {xs ys : List PyData} (h1 : s1.asList = some xs) (h2 : s2.asList = some ys) (hz : xs.length + ys.length ≤ 100000) (k : K (.n (xs ++ ys)) rs) : OpD (uAdd KC.K) s1 s2 rs K := od_r (od_r (od_l fun G H a b Q hx hy hs hq => by
  obtain ⟨p, vs, rfl, r1, t1⟩ := hx.list h1
  obtain ⟨q, ws, rfl, r2, t2⟩ := hy.list h2
  refine ⟨p, q, vs, ws, rfl, rfl, r1.sq, r2.sq, by rw [t1.length, t2.length]; exact Nat.le_trans hz (by decide), fun z hp => ?_⟩
  exact give hs hq (sl := .n (xs ++ ys)) (same_new hp) ⟨z, vs ++ ws, rfl, hp, hs.fresh hp, upd_same, (t1.append t2).stp (stp_new hp)⟩ k))
theorem od_addt {xs ys : List PyData} (hn : xs ≠ []) (hz : xs.length + ys.length ≤ 100000) (k : K (.d (.tuple (xs ++ ys))) rs) : OpD (uAdd KC.K) (.d (.tuple xs)) (.d (.tuple ys)) rs K := od_r (od_r (od_r fun G H a b Q hx hy hs hq => by
  obtain ⟨p, vs, rfl, r1, n1, t1⟩ := hx.tuple
  obtain ⟨q, ws, rfl, r2, n2, t2⟩ := hy.tuple
  refine ⟨p, q, vs, ws, rfl, rfl, .inl r1, .inl r2, fun z => ?_, by rw [t1.length, t2.length]; exact Nat.le_trans hz (by decide), fun z => ?_, fun z l hp => ?_⟩
  · subst z; cases t1; exact hn rfl
  · subst z; cases t2
    rw [List.append_nil] at k
    exact give0 hs hq (sl := .d (.tuple xs)) (Is.tup r1 n1 t1) k
  · exact give hs hq (sl := .d (.tuple (xs ++ ys))) (same_new hp) (Is.tup (.inl upd_same) (hs.fresh hp) ((t1.append t2).stp (stp_new hp))) k))
theorem od_sub (k : K (.d (.int (i - j))) rs) : OpD (rI0 fun i j => .int (i - j)) (.d (.int i)) (.d (.int j)) rs K := od_I0 (gd := fun i j => .int (i - j)) (fun _ _ _ _ => .int _) k
theorem mul_ok (hi : -(2 ^ 300) < i ∧ i < 2 ^ 300) (hj : -(2 ^ 300) < j ∧ j < 2 ^ 300) : IntMulOk i j := CMulW.ok (wide_mul (a := 300) (b := 300) (by omega) (by omega) (by decide) (by decide) (by decide))
theorem mul_r (hj : -(2 ^ 64) < j ∧ j < 2 ^ 64) : IntMulOk i j := .of_right (intBits_le_64 hj.1 hj.2)
theorem mul_l (hi : -(2 ^ 64) < i ∧ i < 2 ^ 64) : IntMulOk i j := .of_left (intBits_le_64 hi.1 hi.2)
theorem od_mul (hc : IntMulOk i j) (k : K (.d (.int (i * j))) rs) : OpD uMul (.d (.int i)) (.d (.int j)) rs K := od_l (od_I (gd := fun i j => .int (i * j)) (fun _ _ _ _ => .int _) hc k)
theorem od_div (hc : 0 < j ∧ j < 2 ^ 300) (k : K (.d (.int (i / j))) rs) : OpD (rI CDivW fun i j => .int (i / j)) (.d (.int i)) (.d (.int j)) rs K := od_I (gd := fun i j => .int (i / j)) (fun _ _ _ _ => .int _) (by
  refine ⟨hc.1, ?_⟩
  have := PySem.Flt.log2_lt_of (n := j.natAbs) (k := 300) (by decide) (by omega)
  omega) k
theorem od_mod (hc : 0 < j) (k : K (.d (.int (i % j))) rs) : OpD (rI (fun _ j => 0 < j) fun i j => .int (i % j)) (.d (.int i)) (.d (.int j)) rs K := od_I (gd := fun i j => .int (i % j)) (fun _ _ _ _ => .int _) hc k
theorem od_pow (hc : CPow i j) (k : K (.d (.int (i ^ j.toNat))) rs) : OpD (rI CPow fun i j => .int (i ^ j.toNat)) (.d (.int i)) (.d (.int j)) rs K := od_I (gd := fun i j => .int (i ^ j.toNat)) (fun _ _ _ _ => .int _) hc k
theorem od_lt (k : K (.d (.bool (decide (i < j)))) rs) : OpD (rI0 fun i j => .bl (decide (i < j))) (.d (.int i)) (.d (.int j)) rs K := od_I0 (gd := fun i j => .bool (decide (i < j))) (fun _ _ _ _ => .bl _) k
theorem od_le (k : K (.d (.bool (decide (i ≤ j)))) rs) : OpD (rI0 fun i j => .bl (decide (i ≤ j))) (.d (.int i)) (.d (.int j)) rs K := od_I0 (gd := fun i j => .bool (decide (i ≤ j))) (fun _ _ _ _ => .bl _) k
theorem od_gt (k : K (.d (.bool (decide (j < i)))) rs) : OpD (rI0 fun i j => .bl (decide (j < i))) (.d (.int i)) (.d (.int j)) rs K := od_I0 (gd := fun i j => .bool (decide (j < i))) (fun _ _ _ _ => .bl _) k
theorem od_ge (k : K (.d (.bool (decide (j ≤ i)))) rs) : OpD (rI0 fun i j => .bl (decide (j ≤ i))) (.d (.int i)) (.d (.int j)) rs K := od_I0 (gd := fun i j => .bool (decide (j ≤ i))) (fun _ _ _ _ => .bl _) k
end
/-! ### == != is in -/
def uEq (K : PySem.W.Frag) : R2 := rOr rEq (rEqD K)
def uNe (K : PySem.W.Frag) : R2 := rOr rNe (rNeD K)
theorem op_uEq {X : Cx} (hu : X.A.units + 64 < cLine) : OpR X (compareOp .Eq) (uEq X.K) := op_or op_eq (op_eqD hu)
theorem op_uNe {X : Cx} (hu : X.A.units + 64 < cLine) : OpR X (compareOp .NotEq) (uNe X.K) := op_or op_ne (op_neD hu)
/-- what is == as plain Lean has it -/
inductive EqB : PyData → PyData → Bool → Prop
  | int (i j : Int) : EqB (.int i) (.int j) (decide (i = j))
  | str (x y : Str) : EqB (.str x) (.str y) (decide (x = y))
  | bl (x y : Bool) : EqB (.bool x) (.bool y) (decide (x = y))
  | nn : EqB .none .none true
  | ni (i : Int) : EqB .none (.int i) false
  | in_ (i : Int) : EqB (.int i) .none false
  | ns (x : Str) : EqB .none (.str x) false
  | sn (x : Str) : EqB (.str x) .none false
  | dat {d e : PyData} : SeqAt.shaped d = true → SeqAt.shaped e = true → EqB d e (PyData.eqv d e)
section
variable {rs : List Mem} {K : Sl → List Mem → Prop} {s1 s2 : Sl} {d e : PyData} {b : Bool}
theorem plain_d {s : Sl} (h : s.plain = .d d) {G : Fp} {H : Hp} {v : V} (q : SlOk G H v s) : Is G H v d := by
  cases s with
  | un => cases h
  | r u => cases h
  | d x => cases h; exact q
  | n xs => cases h; exact q
theorem od_eq (h1 : s1.plain = .d d) (h2 : s2.plain = .d e) (h : EqB d e b) (k : K (.d (.bool b)) rs) : OpD (uEq KC.K) s1 s2 rs K := fun G H x y Q hx hy hs hq => by
  have q1 := plain_d h1 hx
  have q2 := plain_d h2 hy
  have fin : Q (.bl b) H := give0 hs hq (sl := .d (.bool b)) (Is.bl b) k
  cases h with
  | int i j => cases q1; cases q2; exact .inl ⟨rfl, by have e : decide (V.int i = V.int j) = decide (i = j) := by simp
                                                       rw [e]; exact fin⟩
  | str i j => cases q1; cases q2; exact .inl ⟨rfl, by have e : decide (V.str i = V.str j) = decide (i = j) := by simp
                                                       rw [e]; exact fin⟩
  | bl i j => cases q1; cases q2; exact .inl ⟨rfl, by have e : decide (V.bl i = V.bl j) = decide (i = j) := by simp
                                                      rw [e]; exact fin⟩
  | nn => cases q1; cases q2; exact .inl ⟨rfl, fin⟩
  | ni i => cases q1; cases q2; exact .inl ⟨rfl, fin⟩
  | in_ i => cases q1; cases q2; exact .inl ⟨rfl, fin⟩
  | ns i => cases q1; cases q2; exact .inl ⟨rfl, fin⟩
  | sn i => cases q1; cases q2; exact .inl ⟨rfl, fin⟩
  | dat a b => exact .inr ⟨_, _, q1.dp, q2.dp, a, b, fin⟩
theorem od_ne (h1 : s1.plain = .d d) (h2 : s2.plain = .d e) (h : EqB d e b) (k : K (.d (.bool (!b))) rs) : OpD (uNe KC.K) s1 s2 rs K := fun G H x y Q hx hy hs hq => by
  have q1 := plain_d h1 hx
  have q2 := plain_d h2 hy
  have fin : Q (.bl (!b)) H := give0 hs hq (sl := .d (.bool (!b))) (Is.bl _) k
  cases h with
  | int i j => cases q1; cases q2; exact .inl ⟨rfl, by have e : decide (V.int i = V.int j) = decide (i = j) := by simp
                                                       rw [e]; exact fin⟩
  | str i j => cases q1; cases q2; exact .inl ⟨rfl, by have e : decide (V.str i = V.str j) = decide (i = j) := by simp
                                                       rw [e]; exact fin⟩
  | bl i j => cases q1; cases q2; exact .inl ⟨rfl, by have e : decide (V.bl i = V.bl j) = decide (i = j) := by simp
                                                      rw [e]; exact fin⟩
  | nn => cases q1; cases q2; exact .inl ⟨rfl, fin⟩
  | ni i => cases q1; cases q2; exact .inl ⟨rfl, fin⟩
  | in_ i => cases q1; cases q2; exact .inl ⟨rfl, fin⟩
  | ns i => cases q1; cases q2; exact .inl ⟨rfl, fin⟩
  | sn i => cases q1; cases q2; exact .inl ⟨rfl, fin⟩
  | dat a b => exact .inr ⟨_, _, q1.dp, q2.dp, a, b, fin⟩
/-- is None, is not None -/
def uIs : R2 := fun x y H Q => y = .non ∧ Q (.bl (decide (x = .non))) H
def uIsn : R2 := fun x y H Q => y = .non ∧ Q (.bl (!decide (x = .non))) H
theorem op_uIs {X : Cx} : OpR X (compareOp .Is) uIs := op_isN
theorem op_uIsn {X : Cx} : OpR X (compareOp .IsNot) uIsn := op_notN
def Sl.isNone : Sl → Option Bool
  | .d .none => some true
  | .r .non => some true
  | .un => none
  | _ => some false
theorem isNone_ok {G : Fp} {H : Hp} {x : V} {s : Sl} {b : Bool} (h : s.isNone = some b) (q : SlOk G H x s) : decide (x = .non) = b := by
  cases s with
  | un => cases h
  | r u =>
    have q : x = u := q
    subst q
    cases x <;> cases h <;> rfl
  | n xs =>
    have q : Is G H x (.list xs) := q
    cases h; cases q; rfl
  | d y =>
    have q : Is G H x y := q
    cases q <;> cases h <;> rfl
theorem od_is (h : s1.isNone = some b) (k : K (.d (.bool b)) rs) : OpD uIs s1 (.d .none) rs K := fun G H x y Q hx hy hs hq =>
  ⟨hy.non, by rw [isNone_ok h hx]; exact give0 hs hq (sl := .d (.bool b)) (Is.bl b) k⟩
theorem od_isn (h : s1.isNone = some b) (k : K (.d (.bool (!b))) rs) : OpD uIsn s1 (.d .none) rs K := fun G H x y Q hx hy hs hq =>
  ⟨hy.non, by rw [isNone_ok h hx]; exact give0 hs hq (sl := .d (.bool (!b))) (Is.bl _) k⟩
end
/-- x in s (one sign in a text), x in xs (flat) -/
def uIn (K : PySem.W.Frag) : R2 := rOr (fun x y H Q => ∃ (c : Nat) (z : Str), x = .str ⟨#[c]⟩ ∧ y = .str z ∧ Q (.bl (decide (c ∈ z.cps.toList))) H) (rIn K false)
def uNin (K : PySem.W.Frag) : R2 := rOr (fun x y H Q => ∃ (c : Nat) (z : Str), x = .str ⟨#[c]⟩ ∧ y = .str z ∧ Q (.bl (!decide (c ∈ z.cps.toList))) H) (rIn K true)
theorem op_uIn {X : Cx} : OpR X (compareOp .In) (uIn X.K) := op_or op_in_sign op_in_seq
theorem op_uNin {X : Cx} : OpR X (compareOp .NotIn) (uNin X.K) := op_or op_notIn_sign op_notIn_seq
def flatD : PyData → Bool
  | .none => true | .bool _ => true | .int _ => true | .str _ => true
  | _ => false
def eqF : PyData → PyData → Bool
  | .none, .none => true
  | .bool a, .bool b => a == b
  | .bool a, .int b => (if a then 1 else 0) == b
  | .int a, .bool b => a == (if b then 1 else 0)
  | .int a, .int b => a == b
  | .str a, .str b => a == b
  | _, _ => false
def Sl.asSeq : Sl → Option (List PyData)
  | .d (.list ds) => some ds
  | .d (.tuple ds) => some ds
  | .n ds => some ds
  | _ => none
section
variable {rs : List Mem} {K : Sl → List Mem → Prop} {s1 s2 : Sl} {d e : PyData} {b : Bool} {G : Fp} {H : Hp} {ds : List PyData}
theorem flat_is {v : V} (h : Is G H v d) (f : flatD d = true) : flatV v = true := by cases h <;> first | rfl | cases f
theorem eq_is {v u : V} (h : Is G H v d) (q : Is G H u e) (f : flatD d = true) (g : flatD e = true) : eqV v u = eqF d e := by
  cases h <;> cases q <;> first | rfl | cases f | cases g
theorem flat_all : ∀ {vs : List V} {ds : List PyData}, IsAll G H vs ds → ds.all flatD = true → vs.all flatV = true
  | _, _, .nil, _ => rfl
  | _, _, .cons h t, f => by
    rw [List.all_cons, Bool.and_eq_true] at f ⊢
    exact ⟨flat_is h f.1, flat_all t f.2⟩
theorem in_all {x : V} (hx : Is G H x d) (fx : flatD d = true) : ∀ {vs : List V} {ds : List PyData}, IsAll G H vs ds → ds.all flatD = true → inV x vs = ds.any fun y => eqF y d
  | _, _, .nil, _ => rfl
  | _, _, .cons h t, f => by
    rw [List.all_cons, Bool.and_eq_true] at f
    have ih := in_all hx fx t f.2
    unfold inV at ih ⊢
    rw [List.any_cons, List.any_cons, ih, eq_is h hx f.1 fx]
theorem SlOk.seq {v : V} {s : Sl} (h : SlOk G H v s) (e : s.asSeq = some ds) : ∃ p vs, v = .ref p ∧ (LsAt G H p vs ∨ Rd H p (.tup vs)) ∧ IsAll G H vs ds := by
  cases s with
  | un => cases e
  | r u => cases e
  | n xs =>
    cases e
    obtain ⟨p, vs, a, b, t⟩ := SlOk.list (s := .n _) h rfl
    exact ⟨p, vs, a, .inl b, t⟩
  | d x =>
    cases x with
    | list xs =>
      cases e
      obtain ⟨p, vs, a, b, t⟩ := SlOk.list (s := .d (.list _)) h rfl
      exact ⟨p, vs, a, .inl b, t⟩
    | tuple xs =>
      cases e
      obtain ⟨p, vs, a, b, _, t⟩ := SlOk.tuple h
      exact ⟨p, vs, a, .inr b, t⟩
    | _ => cases e
theorem od_ins {n : Nat} {z : Str} (k : K (.d (.bool (decide (n ∈ z.cps.toList)))) rs) : OpD (uIn KC.K) (.d (.str ⟨#[n]⟩)) (.d (.str z)) rs K := od_l fun G H x y Q hx hy hs hq =>
  ⟨n, z, hx.str, hy.str, give0 hs hq (sl := .d (.bool _)) (Is.bl _) k⟩
theorem od_nins {n : Nat} {z : Str} (k : K (.d (.bool (!decide (n ∈ z.cps.toList)))) rs) : OpD (uNin KC.K) (.d (.str ⟨#[n]⟩)) (.d (.str z)) rs K := od_l fun G H x y Q hx hy hs hq =>
  ⟨n, z, hx.str, hy.str, give0 hs hq (sl := .d (.bool _)) (Is.bl _) k⟩
theorem od_inl (h : s2.asSeq = some ds) (fd : flatD d = true) (fs : ds.all flatD = true) (k : K (.d (.bool (ds.any fun y => eqF y d))) rs) : OpD (uIn KC.K) (.d d) s2 rs K := od_r fun G H x y Q hx hy hs hq => by
  obtain ⟨p, vs, rfl, r, t⟩ := hy.seq h
  refine ⟨p, vs, rfl, r.imp LsAt.sq .inl, flat_is hx fd, flat_all t fs, ?_⟩
  show Q (.bl (inV x vs)) H
  rw [in_all hx fd t fs]
  exact give0 hs hq (sl := .d (.bool _)) (Is.bl _) k
theorem od_ninl (h : s2.asSeq = some ds) (fd : flatD d = true) (fs : ds.all flatD = true) (k : K (.d (.bool (!ds.any fun y => eqF y d))) rs) : OpD (uNin KC.K) (.d d) s2 rs K := od_r fun G H x y Q hx hy hs hq => by
  obtain ⟨p, vs, rfl, r, t⟩ := hy.seq h
  refine ⟨p, vs, rfl, r.imp LsAt.sq .inl, flat_is hx fd, flat_all t fs, ?_⟩
  show Q (.bl (!inV x vs)) H
  rw [in_all hx fd t fs]
  exact give0 hs hq (sl := .d (.bool _)) (Is.bl _) k
/-! ### xs[i] -/
theorem od_ixs {i : Int} (h : s1.asSeq = some ds) (hi : atI ds i = some d) (k : K (.d d) rs) : OpD (rIx KC.K) s1 (.d (.int i)) rs K := fun G H x y Q hx hy hs hq => by
  obtain ⟨p, vs, rfl, r, t⟩ := hx.seq h
  have ey := hy.int
  have hv : ∃ v, atI vs i = some v ∧ Is G H v d := by
    unfold atI at hi ⊢
    rw [t.length]
    cases e : ixN ds.length i with
    | none => rw [e] at hi; cases hi
    | some j => rw [e] at hi; exact t.get hi
  obtain ⟨v, hv, hd⟩ := hv
  have fin := give0 hs hq (sl := .d d) (v := v) hd k
  rcases r with r | r
  · exact .inl ⟨p, vs, i, v, rfl, ey, r.sq, hv, fin⟩
  · exact .inr (.inl ⟨p, vs, i, v, rfl, ey, .inl r, hv, fin⟩)
theorem od_ixt {i : Int} {z : Str} {n : Nat} (hz : z.length ≤ 100000) (hi : atI z.cps.toList i = some n) (k : K (.d (.str ⟨#[n]⟩)) rs) : OpD (rIx KC.K) (.d (.str z)) (.d (.int i)) rs K := fun G H x y Q hx hy hs hq =>
  .inr (.inr ⟨z, i, n, hx.str, hy.int, Nat.le_trans hz (by decide), hi, give0 hs hq (sl := .d (.str ⟨#[n]⟩)) (Is.str _) k⟩)
end
section
variable {c : Ctx m₀ N₀ sc₀ lv₀ xp₀ fF₀ cm₀} {e a b : Expr} {es : List Expr} {ρ ρ' : List Sl} {rs : List Mem} {K : Sl → List Mem → Prop} {KB : Bool → List Mem → Prop} {x : Str} {pos pos' p2 : Pos}
theorem dx_ix {r : R2} (hr : IxR c.X r) (h : DX c a ρ rs fun s1 r1 => DX c b ρ r1 fun s2 r2 => OpD r s1 s2 r2 K) (hp : PlainIx b := by exact fun _ _ => rfl) : DX c (.Subscript a b pos) ρ rs K := by
  intro σ H G Q he hs hx hq
  refine tE_of (pe_ix hr pe_t pe_t hp) ?_
  refine h σ H G _ he hs hx fun v1 H1 G1 s1 r1 t1 h1 o1 k1 => ?_
  refine k1 σ H1 G1 _ (he.stp t1) o1 (hx.stp t1) fun v2 H2 G2 s2 r2 t2 h2 o2 k2 => ?_
  exact k2 G2 H2 v1 v2 Q (h1.ok.stp t2) h2.ok o2 fun v H' G' sl rs' t3 h3 o3 k3 => hq v H' G' sl rs' ((t1.trans t2).trans t3) (h3.back (t1.trans t2)) o3 k3
/-! ### xs[lo:hi] -/
def DO (c : Ctx m₀ N₀ sc₀ lv₀ xp₀ fF₀ cm₀) (e : Option Expr) (ρ : List Sl) (rs : List Mem) (K : Option Int → List Mem → Prop) : Prop := match e with
  | none => K none rs
  | some e => DX c e ρ rs fun s r => ∃ i, s = .d (.int i) ∧ K (some i) r
def tO (X : Cx) : Option Expr → TO
  | none => tNoPart
  | some e => tPart (tE X e)
theorem po_t {X : Cx} : ∀ {e : Option Expr}, PO X e (tO X e)
  | none => po_none
  | some _ => po_some pe_t
theorem DO.run {e : Option Expr} {KO : Option Int → List Mem → Prop} (h : DO c e ρ rs KO) {σ : L2.St} {H : Hp} {G : Fp} {Q : Option Int → Hp → Prop} (he : EnvOk G H σ ρ) (hs : sepL rs G G H) (hx : XOk c G H)
    (hq : ∀ o H' G' rs', Stp G G' H H' → sepL rs' G' G' H' → KO o rs' → Q o H') : tO c.X e σ H Q := by
  cases e with
  | none => exact hq none H G rs (Stp.refl _ _) hs h
  | some e =>
    refine h σ H G _ he hs hx fun v H1 G1 s1 r1 t1 h1 o1 k1 => ?_
    obtain ⟨i, rfl, k1⟩ := k1
    exact ⟨i, SlOk.int h1, hq _ H1 G1 r1 t1 o1 k1⟩
def SlD (r : V → Option Int → Option Int → Hp → VK → Prop) (s : Sl) (lo hi : Option Int) (rs : List Mem) (K : Sl → List Mem → Prop) : Prop := ∀ (G : Fp) (H : Hp) (x : V) (Q : VK), SlOk G H x s → sepL rs G G H →
  (∀ v H' G' sl rs', Stp G G' H H' → Rs G' H H' v sl → sepL rs' G' G' H' → K sl rs' → Q v H') → r x lo hi H Q
def uSl (K : PySem.W.Frag) : V → Option Int → Option Int → Hp → VK → Prop := fun x lo hi H Q => rSlL K x lo hi H Q ∨ (rSlT K x lo hi H Q ∨ rSlS x lo hi H Q)
theorem sl_u {X : Cx} : SlR X (uSl X.K) := sl_list.or (sl_tup.or sl_str)
theorem dx_slice {lo hi : Option Expr} (h : DX c a ρ rs fun s r1 => DO c lo ρ r1 fun i r2 => DO c hi ρ r2 fun j r3 => SlD (uSl KC.K) s.plain i j r3 K) : DX c (.Subscript a (.Slice lo hi none p2) pos) ρ rs K := by
  intro σ H G Q he hs hx hq
  refine tE_of (pe_slice (c.ck ▸ sl_u) pe_t po_t po_t) ?_
  refine h σ H G _ he hs hx fun v1 H1 G1 s1 r1 t1 h1 o1 k1 => ?_
  refine k1.run (he.stp t1) o1 (hx.stp t1) fun i H2 G2 r2 t2 o2 k2 => ?_
  refine k2.run (he.stp (t1.trans t2)) o2 (hx.stp (t1.trans t2)) fun j H3 G3 r3 t3 o3 k3 => ?_
  exact k3 G3 H3 v1 Q ((h1.ok.plain.stp t2).stp t3) o3 fun v H' G' sl rs' t4 h4 o4 k4 => hq v H' G' sl rs' (((t1.trans t2).trans t3).trans t4) (h4.back ((t1.trans t2).trans t3)) o4 k4
def cutL {α : Type} (xs : List α) (lo hi : Option Int) : List α := (xs.drop (HT.sIx xs.length 0 lo)).take (HT.sIx xs.length xs.length hi - HT.sIx xs.length 0 lo)
theorem IsAll.cut {G : Fp} {H : Hp} {vs : List V} {ds : List PyData} (h : IsAll G H vs ds) (lo hi : Option Int) : IsAll G H (cutV vs lo hi) (cutL ds lo hi) := by
  unfold cutV cutL
  rw [h.length]
  exact (h.drop _).take _
theorem sd_list {ds : List PyData} {lo hi : Option Int} (k : K (.n (cutL ds lo hi)) rs) : SlD (uSl KC.K) (.d (.list ds)) lo hi rs K := fun G H x Q hx hs hq => by
  obtain ⟨p, vs, rfl, r, t⟩ := SlOk.list (s := .d (.list ds)) hx rfl
  refine .inl ⟨p, vs, rfl, r.sq, fun z hz => ?_⟩
  exact give hs hq (sl := .n (cutL ds lo hi)) (same_new hz) ⟨z, _, rfl, hz, hs.fresh hz, upd_same, (t.cut lo hi).stp (stp_new hz)⟩ k
theorem sd_tup {ds : List PyData} {lo hi : Option Int} (hw : ¬ (HT.sIx ds.length 0 lo = 0 ∧ HT.sIx ds.length ds.length hi = ds.length)) (k : K (.d (.tuple (cutL ds lo hi))) rs) : SlD (uSl KC.K) (.d (.tuple ds)) lo hi rs K := fun G H x Q hx hs hq => by
  obtain ⟨p, vs, rfl, r, n, t⟩ := SlOk.tuple hx
  refine .inr (.inl ⟨p, vs, rfl, .inl r, by rw [t.length]; exact hw, fun z hz => ?_⟩)
  exact give hs hq (sl := .d (.tuple (cutL ds lo hi))) (same_new hz) (Is.tup (.inl upd_same) (hs.fresh hz) ((t.cut lo hi).stp (stp_new hz))) k
theorem sd_str {z : Str} {lo hi : Option Int} (hz : z.length ≤ 100000) (k : K (.d (.str (cutS z lo hi))) rs) : SlD (uSl KC.K) (.d (.str z)) lo hi rs K := fun G H x Q hx hs hq =>
  .inr (.inr ⟨z, hx.str, Nat.le_trans hz (by decide), give0 hs hq (sl := .d (.str (cutS z lo hi))) (Is.str _) k⟩)
theorem cAdd : OpR c.X (binaryOp .Add) (uAdd KC.K) := c.ck ▸ op_uAdd
theorem cEq : OpR c.X (compareOp .Eq) (uEq KC.K) := c.ck ▸ op_uEq (by have := c.un; omega)
theorem cNe : OpR c.X (compareOp .NotEq) (uNe KC.K) := c.ck ▸ op_uNe (by have := c.un; omega)
theorem cIn : OpR c.X (compareOp .In) (uIn KC.K) := c.ck ▸ op_uIn
theorem cNin : OpR c.X (compareOp .NotIn) (uNin KC.K) := c.ck ▸ op_uNin
theorem cIx : IxR c.X (rIx KC.K) := c.ck ▸ ix_seq
end
end PW

set_option maxHeartbeats 1000000
/-! Loops and comprehensions. -/
namespace PW
open PySem L2
variable [KC]
variable {m₀ : Mo} {N₀ : List Str} {sc₀ : Scope} {lv₀ : Nat} {xp₀ : Addr → List Sl → List Mem → Prop} {fF₀ cm₀ : Bool}

/-- the place of a name -/
inductive IxOf : List Str → Str → Nat → Prop
  | zero {x N} : IxOf (x :: N) x 0
  | succ {x y N i} : IxOf N x i → IxOf (y :: N) x (i + 1)
theorem IxOf.get : ∀ {N x i}, IxOf N x i → N[i]? = some x
  | _, _, _, .zero => rfl
  | _, _, _, .succ h => by simpa using h.get

/-! ### what is walked -/
def tI (X : Cx) (tg it : Expr) : TI := fun σ H R => ∀ pins s, Inv X pins σ H s → wpAny (model X.prog X.w) X.A (eval it X.env) (fun v s1 => wpAny (model X.prog X.w) X.A (pyIter v) (PIE X pins σ tg R) X.xe s1) X.xe s
theorem pi_t {X : Cx} {tg it : Expr} : PI X tg it (tI X tg it) := ⟨fun pins s _ _ _ I h => h pins s I⟩
theorem tI_of {X : Cx} {tg it : Expr} {t : TI} {σ : L2.St} {H : Hp} {R : It → Hp → Prop} (h : PI X tg it t) (q : t σ H R) : tI X tg it σ H R := fun pins s I => h.run pins s σ H R I q
/-- J gives the items, as long as keep holds -/
def JOk (J : It) (items : List Sl) (keep : List Mem → Prop) (G : Fp) (H : Hp) : Prop := ∀ (G1 : Fp) (H1 : Hp) (r1 : List Mem), Stp G G1 H H1 → sepL r1 G1 G1 H1 → keep r1 →
  ∀ i, (i < items.length → J.go i H1 ∧ ∀ x H2, J.yld i H1 x H2 → H2 = H1 ∧ ∃ sl, items[i]? = some sl ∧ SlOk G1 H1 x sl) ∧ (items.length ≤ i → J.stop i H1)
def DI (c : Ctx m₀ N₀ sc₀ lv₀ xp₀ fF₀ cm₀) (tg it : Expr) (ρ : List Sl) (rs : List Mem) (K : List Sl → (List Mem → Prop) → List Mem → Prop) : Prop := ∀ (σ : L2.St) (H : Hp) (G : Fp) (R : It → Hp → Prop), EnvOk G H σ ρ → sepL rs G G H → XOk c G H →
  (∀ J H' G' items keep rs', Stp G G' H H' → sepL rs' G' G' H' → JOk J items keep G' H' → K items keep rs' → R J H') → tI c.X tg it σ H R
section
variable {c : Ctx m₀ N₀ sc₀ lv₀ xp₀ fF₀ cm₀} {e a b tg it : Expr} {es : List Expr} {ρ ρ' : List Sl} {rs : List Mem} {KI : List Sl → (List Mem → Prop) → List Mem → Prop} {x : Str} {pos pos' p2 : Pos}
theorem di_list (h : DX c it ρ rs fun s r => ∃ ds, s.asList = some ds ∧ KI (ds.map .d) (fun _ => True) r) : DI c tg it ρ rs KI := by
  intro σ H G R he hs hx hr
  refine tI_of (c.ck ▸ pi_list pe_t) ?_
  refine h σ H G _ he hs hx fun v H1 G1 s1 r1 t1 h1 o1 k1 => ?_
  obtain ⟨ds, e1, k1⟩ := k1
  obtain ⟨p, vs, rfl, rd, al⟩ := h1.ok.list e1
  refine ⟨p, rfl, ⟨vs, rd.sq⟩, hr _ H1 G1 _ _ r1 t1 o1 (fun G2 H2 r2 t2 o2 _ i => ?_) k1⟩
  have rd2 : SqL KC.K H2 p vs := (ls_stp0 t2.keep t2.sub rd).sq
  have al2 := al.stp t2
  constructor
  · intro hi
    have hi' : i < vs.length := by rw [al.length]; simpa using hi
    refine ⟨⟨vs, vs[i], rd2, by simp [hi']⟩, fun x H3 y => ?_⟩
    obtain ⟨e3, y⟩ := y
    obtain ⟨d, hd, hI⟩ := al2.getV (i := i) (v := x) (y vs (rd2))
    exact ⟨e3, .d d, by rw [List.getElem?_map, hd]; rfl, hI⟩
  · intro hi
    exact ⟨vs, rd2, by rw [al.length]; simpa using hi⟩
theorem di_tup (h : DX c it ρ rs fun s r => ∃ ds, s = .d (.tuple ds) ∧ KI (ds.map .d) (fun _ => True) r) : DI c tg it ρ rs KI := by
  intro σ H G R he hs hx hr
  refine tI_of (c.ck ▸ pi_tup pe_t) ?_
  refine h σ H G _ he hs hx fun v H1 G1 s1 r1 t1 h1 o1 k1 => ?_
  obtain ⟨ds, rfl, k1⟩ := k1
  obtain ⟨p, vs, rfl, rd, np, al⟩ := SlOk.tuple h1.ok
  refine ⟨p, rfl, ⟨vs, .inl rd⟩, hr _ H1 G1 _ _ r1 t1 o1 (fun G2 H2 r2 t2 o2 _ i => ?_) k1⟩
  have rd2 : Rd H2 p (.tup vs) := rd_stp t2.keep np rd
  have al2 := al.stp t2
  constructor
  · intro hi
    have hi' : i < vs.length := by rw [al.length]; simpa using hi
    refine ⟨⟨vs, vs[i], .inl rd2, by simp [hi']⟩, fun x H3 y => ?_⟩
    obtain ⟨e3, y⟩ := y
    obtain ⟨d, hd, hI⟩ := al2.getV (i := i) (v := x) (y vs (.inl rd2))
    exact ⟨e3, .d d, by rw [List.getElem?_map, hd]; rfl, hI⟩
  · intro hi
    exact ⟨vs, .inl rd2, by rw [al.length]; simpa using hi⟩
/-- the signs of a text -/
def signs (z : Str) : List Sl := z.cps.toList.map fun n => .d (.str ⟨#[n]⟩)
theorem di_str (h : DX c it ρ rs fun s r => ∃ z, s = .d (.str z) ∧ KI (signs z) (fun _ => True) r) : DI c tg it ρ rs KI := by
  intro σ H G R he hs hx hr
  refine tI_of (pi_str pe_t) ?_
  refine h σ H G _ he hs hx fun v H1 G1 s1 r1 t1 h1 o1 k1 => ?_
  obtain ⟨z, rfl, k1⟩ := k1
  refine ⟨z, h1.ok.str, hr _ H1 G1 _ _ r1 t1 o1 (fun G2 H2 r2 t2 o2 _ i => ?_) k1⟩
  constructor
  · intro hi
    have hi' : i < z.cps.size := by simpa [signs] using hi
    refine ⟨hi', fun x H3 y => ?_⟩
    obtain ⟨e3, n, hn, rfl⟩ := y
    refine ⟨e3, .d (.str ⟨#[n]⟩), ?_, Is.str _⟩
    have : z.cps.toList[i]? = some n := by simpa using hn
    unfold signs
    rw [List.getElem?_map, this]; rfl
  · intro hi
    show z.cps.size ≤ i
    simpa [signs] using hi
def rngS (lo : Int) (n : Nat) : List Sl := (List.range n).map fun k => .d (.int (lo + (k : Nat)))
theorem jok_rng {lo : Int} {n : Nat} {keep : List Mem → Prop} {G : Fp} {H : Hp} : JOk (Itr lo n) (rngS lo n) keep G H := fun G2 H2 r2 t2 o2 _ i => by
  constructor
  · intro hi
    have hi' : i < n := by simpa [rngS] using hi
    refine ⟨hi', fun x H3 y => ?_⟩
    obtain ⟨e3, rfl⟩ := y
    refine ⟨e3, .d (.int (lo + i)), ?_, Is.int _⟩
    unfold rngS
    rw [List.getElem?_map, List.getElem?_range hi']; rfl
  · intro hi
    show n ≤ i
    simpa [rngS] using hi
theorem di_range1 (h : DA c [a] ρ rs fun ss r => ∃ n : Int, ss = [.d (.int n)] ∧ (-(2 ^ 62) ≤ n ∧ n < 2 ^ 62) ∧ KI (rngS 0 n.toNat) (fun _ => True) r) (hg : KdIn sc₀.names ("range" : Str) .globalImplicit := by first | ((with_reducible (repeat (first | exact KdIn.zero | apply KdIn.succ))); (first | (all_goals fail) | fail)) | exact kd_of rfl)
    (hs : starEach [a] c.X.env = [(false, eval a c.X.env)] := by rfl) : DI c tg (.Call (.Name "range" pos') [a] [] pos) ρ rs KI := by
  intro σ H G R he hS hx hr
  refine tI_of (pi_range1 (show c.X.env.kindOf "range" = _ by unfold Env.kindOf; rw [c.hsc]; exact c.look hg) (by rw [c.hm.mg]; exact c.bl.range) pa_t hs) ?_
  refine h σ H G _ he hS hx fun vs H1 G1 ss r1 t1 h1 o1 k1 => ?_
  obtain ⟨n, rfl, hb, k1⟩ := k1
  match vs, h1 with
  | [v], h1 =>
    refine ⟨n, by rw [SlOk.int h1.1], hb.1, hb.2, hr _ H1 G1 _ _ r1 t1 o1 jok_rng k1⟩
theorem di_range2 (h : DA c [a, b] ρ rs fun ss r => ∃ n m : Int, ss = [.d (.int n), .d (.int m)] ∧ (-(2 ^ 62) ≤ n ∧ n < 2 ^ 62 ∧ -(2 ^ 62) ≤ m ∧ m < 2 ^ 62) ∧ KI (rngS n (m - n).toNat) (fun _ => True) r) (hg : KdIn sc₀.names ("range" : Str) .globalImplicit := by first | ((with_reducible (repeat (first | exact KdIn.zero | apply KdIn.succ))); (first | (all_goals fail) | fail)) | exact kd_of rfl)
    (hs : starEach [a, b] c.X.env = [(false, eval a c.X.env), (false, eval b c.X.env)] := by rfl) (hs2 : starEach [b] c.X.env = [(false, eval b c.X.env)] := by rfl) : DI c tg (.Call (.Name "range" pos') [a, b] [] pos) ρ rs KI := by
  intro σ H G R he hS hx hr
  refine tI_of (pi_range2 (show c.X.env.kindOf "range" = _ by unfold Env.kindOf; rw [c.hsc]; exact c.look hg) (by rw [c.hm.mg]; exact c.bl.range) pa_t hs hs2) ?_
  refine h σ H G _ he hS hx fun vs H1 G1 ss r1 t1 h1 o1 k1 => ?_
  obtain ⟨n, m, rfl, hb, k1⟩ := k1
  match vs, h1 with
  | [v, w], h1 =>
    refine ⟨n, m, by rw [SlOk.int h1.1, SlOk.int h1.2.1], hb, hr _ H1 G1 _ _ r1 t1 o1 jok_rng k1⟩
/-! ### weaker slots -/
theorem DSs.le {sts : List Stmt} {P : Post} (l : Le ρ ρ') (h : DSs c sts ρ' rs P) : DSs c sts ρ rs P := fun σ H G D he hs hx hd => h σ H G D (l.env he) hs hx hd
theorem ds_weak {st : Stmt} {P : Post} (h : DS c st ρ rs P) {P' : Post} (hn : ∀ ρ' r', P.nx ρ' r' → P'.nx ρ' r') (hr : ∀ s r', P.rt s r' → P'.rt s r') (hb : ∀ ρ' r', P.bk ρ' r' → P'.bk ρ' r') (hc : ∀ ρ' r', P.ct ρ' r' → P'.ct ρ' r') : DS c st ρ rs P' :=
  fun σ H G D he hs hx hd => h σ H G D he hs hx ⟨fun σ' H' G' ρ' r' t e o k => hd.nx σ' H' G' ρ' r' t e o (hn _ _ k), fun v H' G' s r' t q o k => hd.rt v H' G' s r' t q o (hr _ _ k), fun σ' H' G' ρ' r' t e o k => hd.bk σ' H' G' ρ' r' t e o (hb _ _ k), fun σ' H' G' ρ' r' t e o k => hd.ct σ' H' G' ρ' r' t e o (hc _ _ k)⟩
theorem dss_weak {sts : List Stmt} {P : Post} (h : DSs c sts ρ rs P) {P' : Post} (hn : ∀ ρ' r', P.nx ρ' r' → P'.nx ρ' r') (hr : ∀ s r', P.rt s r' → P'.rt s r') (hb : ∀ ρ' r', P.bk ρ' r' → P'.bk ρ' r') (hc : ∀ ρ' r', P.ct ρ' r' → P'.ct ρ' r') : DSs c sts ρ rs P' :=
  fun σ H G D he hs hx hd => h σ H G D he hs hx ⟨fun σ' H' G' ρ' r' t e o k => hd.nx σ' H' G' ρ' r' t e o (hn _ _ k), fun v H' G' s r' t q o k => hd.rt v H' G' s r' t q o (hr _ _ k), fun σ' H' G' ρ' r' t e o k => hd.bk σ' H' G' ρ' r' t e o (hb _ _ k), fun σ' H' G' ρ' r' t e o k => hd.ct σ' H' G' ρ' r' t e o (hc _ _ k)⟩

/-! ### for -/
/-- a loop over xs (as enc tells them): what holds behind pre is inv pre s, with the slots ρf s and the things rf s -/
def ForD (c : Ctx m₀ N₀ sc₀ lv₀ xp₀ fF₀ cm₀) (x : Str) (j : Nat) (body : List Stmt) {α : Type} (xs : List α) (enc : α → Sl) (keep : List Mem → Prop) (ρ : List Sl) (rs : List Mem) (P : Post) : Prop :=
  ∃ (S : Type) (ρf : S → List Sl) (rf : S → List Mem) (inv : List α → S → Prop), (∃ s, inv [] s ∧ Le ρ (ρf s) ∧ rs = rf s) ∧ (∀ pre s, inv pre s → keep (rf s)) ∧
    (∀ pre y post s, xs = pre ++ y :: post → inv pre s → ∃ ρ2, SetS N₀ (ρf s) x j (enc y) ρ2 ∧
      DSs c body ρ2 (rf s) ⟨fun ρ' r' => ∃ s', inv (pre ++ [y]) s' ∧ Le ρ' (ρf s') ∧ r' = rf s', P.rt, P.nx, fun ρ' r' => ∃ s', inv (pre ++ [y]) s' ∧ Le ρ' (ρf s') ∧ r' = rf s'⟩) ∧
    (∀ s, inv xs s → P.nx (ρf s) (rf s))
theorem ds_for {body : List Stmt} {P : Post} {j : Nat} (hj : IxOf N₀ x j) (h : DI c (.Name x p2) it ρ rs fun items keep r => ∃ (α : Type) (xs : List α) (enc : α → Sl), items = xs.map enc ∧ ForD c x j body xs enc keep ρ r P)
    (hcm : cm₀ = true := by rfl) (hl : LocF c x := by first | exact locF_of (by with_reducible (repeat (first | exact KdIn.zero | apply KdIn.succ))) rfl | exact Or.inl rfl | exact Or.inr ⟨rfl, rfl⟩) (hf : ∀ y, foldedSetIterable it c.X.env y = pure y := by intro _; rfl) : DS c (.For (.Name x p2) it body [] pos) ρ rs P := by
  intro σ H G D he hs hx hd
  have nd : c.X.N.Nodup := by rw [c.hN]; exact c.nd
  have hi : c.X.N[j]? = some x := by rw [c.hN]; exact hj.get
  refine tS_of (ps_for (tb := tSs c.X body) c.po (c.calm hcm) pi_t (pg_name nd hi hl.loc (c_hf hl)) pss_t hf) ?_
  refine h σ H G _ he hs hx fun J H1 G1 items keep r1 t1 o1 jok k1 => ?_
  obtain ⟨α, xs, enc, rfl, S, ρf, rf, inv, ⟨s0, i0, l0, rfl⟩, hk, ht, hend⟩ := k1
  refine ⟨fun i m σ' H' => m = xs.length - i ∧ i ≤ xs.length ∧ ∃ G' s, Stp G1 G' H1 H' ∧ EnvOk G' H' σ' (ρf s) ∧ sepL (rf s) G' G' H' ∧ inv (xs.take i) s,
    ⟨_, rfl, Nat.zero_le _, G1, s0, Stp.refl _ _, l0.env (he.stp t1), o1, i0⟩, ?_⟩
  rintro i m σ' H' ⟨rfl, hle, G', s, t2, e2, o2, iv⟩
  have jk := jok G' H' (rf s) t2 o2 (hk _ s iv) i
  by_cases hlt : i < xs.length
  · refine .inr ⟨(jk.1 (by simpa using hlt)).1, fun σ2 H2 => xs.length - (i + 1) < xs.length - i ∧ i + 1 ≤ xs.length ∧ ∃ G2 s, Stp G1 G2 H1 H2 ∧ EnvOk G2 H2 σ2 (ρf s) ∧ sepL (rf s) G2 G2 H2 ∧ inv (xs.take (i + 1)) s,
      fun σ2 H2 ⟨l, l2, r⟩ => ⟨_, l, rfl, l2, r⟩, fun y H2 yl => ?_⟩
    obtain ⟨rfl, sl, hsl, hy⟩ := (jk.1 (by simpa using hlt)).2 y H2 yl
    have hsl' : sl = enc xs[i] := by
      rw [List.getElem?_map, List.getElem?_eq_getElem hlt] at hsl
      exact (Option.some.inj hsl).symm
    subst hsl'
    have split : xs = xs.take i ++ xs[i] :: xs.drop (i + 1) := by simp
    obtain ⟨ρ2, hset, hb⟩ := ht (xs.take i) xs[i] (xs.drop (i + 1)) s split iv
    have tk : xs.take i ++ [xs[i]] = xs.take (i + 1) := by simp
    rw [tk] at hb
    refine hb _ H2 G' _ (hset.env hy e2) o2 (hx.stp (t1.trans t2)) ⟨fun σ3 H3 G3 ρ3 r3 t3 e3 o3 k3 => ?_, fun v H3 G3 sl r3 t3 => hd.rt v H3 G3 sl r3 ((t1.trans t2).trans t3) ∘ fun q => q.back (t1.trans t2), fun σ3 H3 G3 ρ3 r3 t3 => hd.nx σ3 H3 G3 ρ3 r3 ((t1.trans t2).trans t3), fun σ3 H3 G3 ρ3 r3 t3 e3 o3 k3 => ?_⟩
    · obtain ⟨s', i', l', rfl⟩ := k3
      exact ⟨by omega, by omega, G3, s', t2.trans t3, l'.env e3, o3, i'⟩
    · obtain ⟨s', i', l', rfl⟩ := k3
      exact ⟨by omega, by omega, G3, s', t2.trans t3, l'.env e3, o3, i'⟩
  · have hi : i = xs.length := by omega
    subst hi
    rw [List.take_length] at iv
    exact .inl ⟨jk.2 (by simp), hd.nx σ' H' G' (ρf s) (rf s) (t1.trans t2) e2 o2 (hend s iv)⟩

/-! ### while -/
theorem ds_while {t : Expr} {body : List Stmt} {P : Post} (S : Type) (ρf : S → List Sl) (rf : S → List Mem) (inv : S → Prop) (μ : S → Nat) (h0 : ∃ s, inv s ∧ Le ρ (ρf s) ∧ rs = rf s)
    (ht : ∀ s, inv s → DT c t (ρf s) (rf s) fun k r => if k = true then DSs c body (ρf s) r ⟨fun ρ' r' => ∃ s', inv s' ∧ μ s' < μ s ∧ Le ρ' (ρf s') ∧ r' = rf s', P.rt, P.nx, fun ρ' r' => ∃ s', inv s' ∧ μ s' < μ s ∧ Le ρ' (ρf s') ∧ r' = rf s'⟩ else P.nx (ρf s) r) :
    DS c (.While t body [] pos) ρ rs P := by
  intro σ H G D he hs hx hd
  refine tS_of (ps_while c.po pt_t pss_t) ?_
  obtain ⟨s0, i0, l0, rfl⟩ := h0
  refine ⟨fun m σ' H' => ∃ G' s, m = μ s ∧ Stp G G' H H' ∧ EnvOk G' H' σ' (ρf s) ∧ sepL (rf s) G' G' H' ∧ inv s, ⟨_, G, s0, rfl, Stp.refl _ _, l0.env he, hs, i0⟩, ?_⟩
  rintro m σ' H' ⟨G', s, rfl, t1, e1, o1, iv⟩
  refine ht s iv σ' H' G' _ e1 o1 (hx.stp t1) fun k H2 G2 r2 t2 o2 k2 => ?_
  cases k with
  | true =>
    refine ⟨fun σ3 H3 => ∃ G3 s', μ s' < μ s ∧ Stp G G3 H H3 ∧ EnvOk G3 H3 σ3 (ρf s') ∧ sepL (rf s') G3 G3 H3 ∧ inv s', fun σ3 H3 ⟨G3, s', lt, t3, e3, o3, i3⟩ => ⟨_, lt, G3, s', rfl, t3, e3, o3, i3⟩, ?_⟩
    refine k2 σ' H2 G2 _ (e1.stp t2) o2 (hx.stp (t1.trans t2)) ⟨fun σ3 H3 G3 ρ3 r3 t3 e3 o3 k3 => ?_, fun v H3 G3 sl r3 t3 => hd.rt v H3 G3 sl r3 ((t1.trans t2).trans t3) ∘ fun q => q.back (t1.trans t2), fun σ3 H3 G3 ρ3 r3 t3 => hd.nx σ3 H3 G3 ρ3 r3 ((t1.trans t2).trans t3), fun σ3 H3 G3 ρ3 r3 t3 e3 o3 k3 => ?_⟩
    · obtain ⟨s', i', lt, l', rfl⟩ := k3
      exact ⟨G3, s', lt, (t1.trans t2).trans t3, l'.env e3, o3, i'⟩
    · obtain ⟨s', i', lt, l', rfl⟩ := k3
      exact ⟨G3, s', lt, (t1.trans t2).trans t3, l'.env e3, o3, i'⟩
  | false => exact hd.nx σ' H2 G2 (ρf s) r2 (t1.trans t2) (e1.stp t2) o2 k2

/-! ### a list of one's own -/
theorem SlOk.stp0 {G G' : Fp} {H H' : Hp} {v : V} {s : Sl} (k : ∀ a o, H a = some o → ¬ G a → H' a = some o) (t : ∀ a, G' a → G a ∨ H a = none) (h : SlOk G H v s) : SlOk G' H' v s := by
  cases s with
  | un => trivial
  | d x => exact Is.stp0 k t h
  | r u => exact h
  | n ds => exact Is.stp0 k t h
theorem SlAll.stp0 {G G' : Fp} {H H' : Hp} (k : ∀ a o, H a = some o → ¬ G a → H' a = some o) (t : ∀ a, G' a → G a ∨ H a = none) : ∀ {vs : List V} {ss : List Sl}, SlAll G H vs ss → SlAll G' H' vs ss
  | [], [], _ => trivial
  | _ :: _, _ :: _, ⟨h, q⟩ => ⟨SlOk.stp0 k t h, q.stp0 k t⟩
  | [], _ :: _, h => h.elim
  | _ :: _, [], h => h.elim
def lstM (p : Addr) (ss : List Sl) : Mem where
  ok F G H := (∀ a, F a ↔ a = p) ∧ ∃ vs, H p = some (.lst vs) ∧ SlAll G H vs ss
  dom := fun ⟨e, vs, h, _⟩ a q => by
    have e2 := (e a).mp q
    subst e2
    exact ⟨_, h⟩
  step := fun ⟨e, vs, h, al⟩ k s => ⟨e, vs, k _ _ h (.inl ((e p).mpr rfl)), al.stp0 (fun a o q n => k a o q (.inr n)) s⟩
/-! ### comprehensions -/
def Ctx.blk (c : Ctx m₀ N₀ sc₀ lv₀ xp₀ fF₀ cm₀) (scope : Scope) (s : Shared) (H : Hp) (C : Addr) (cl : List (Str × Addr)) (fp : List Addr) (hso : ScOk (relS scope sc₀)) : Ctx m₀ N₀ (relS scope sc₀) lv₀ (fun _ _ _ => False) false cm₀ where
  X := c.X.blk s H scope (compEnvC scope cl C c.X.env) fp
  W := fun _ _ _ _ => False
  hm := ⟨c.hm.P, c.hm.w, c.hm.K, c.hm.mg, c.hm.base⟩
  hK := c.hK
  bl := c.bl
  hN := c.hN
  nd := c.nd
  hsc := by
    show relS scope c.X.env.scope = _
    rw [c.hsc]
  sok := hso
  calm := c.calm
  room := c.room
  un := c.un
  fs := fun z => absurd z Bool.false_ne_true
  tk := takes0
  fn := fun z => absurd z Bool.false_ne_true
  po := PassesOwn.never
/-- the block's readings, whatever the block's frame is -/
def tBE (X : Cx) (scope : Scope) (e : Expr) : TE := fun σ H Q => ∀ s H0 C cl fp, tE (X.blk s H0 scope (compEnvC scope cl C X.env) fp) e σ H Q
def tBT (X : Cx) (scope : Scope) (e : Expr) : TT := fun σ H Q => ∀ s H0 C cl fp, tT (X.blk s H0 scope (compEnvC scope cl C X.env) fp) e σ H Q
theorem pe_b {X : Cx} {scope : Scope} {e : Expr} (s H C cl fp) : PE (X.blk s H scope (compEnvC scope cl C X.env) fp) e (tBE X scope e) := ⟨fun pins s1 _ _ _ I h => h s H C cl fp pins s1 I⟩
theorem pt_b {X : Cx} {scope : Scope} {e : Expr} (s H C cl fp) : PT (X.blk s H scope (compEnvC scope cl C X.env) fp) e (tBT X scope e) := ⟨fun pins s1 _ _ _ I h => h s H C cl fp pins s1 I⟩
theorem xok_blk {scope : Scope} {s : Shared} {H0 : Hp} {C : Addr} {cl : List (Str × Addr)} {fp : List Addr} {hso : ScOk (relS scope sc₀)} {G : Fp} {H : Hp} : XOk (c.blk scope s H0 C cl fp hso) G H := fun _ _ _ _ _ _ _ _ _ z => z.elim
theorem set_un {G : Fp} {H : Hp} : ∀ {N ρ x i ρ'} {σ : L2.St}, SetS N ρ x i .un ρ' → EnvOk G H σ ρ → EnvOk G H (σ.set i none) ρ'
  | _, _, _, _, _, o :: σ, .zero, ⟨_, q⟩ => ⟨trivial, q⟩
  | _, _, _, _, _, o :: σ, .succ t, ⟨h, q⟩ => ⟨h, set_un (σ := σ) t q⟩
  | _, _, _, _, _, [], .zero, h => h.elim
  | _, _, _, _, _, [], .succ _, h => h.elim
theorem set_ix : ∀ {N ρ x i s ρ'} {j : Nat}, SetS N ρ x i s ρ' → IxOf N x j → N.Nodup → i = j
  | N, _, x, i, _, _, j, h, q, nd => nd_ix nd h.name q.get
/-- an element of a comprehension -/
def ElD (c : Ctx m₀ N₀ sc₀ lv₀ xp₀ fF₀ cm₀) (scope : Scope) (elt : Expr) (ρ2 : List Sl) (rs : List Mem) (d : PyData) : Prop := ∀ (A : Mem) s0 H0 C0 cl0 fp0 hso, DX (c.blk scope s0 H0 C0 cl0 fp0 hso) elt ρ2 (A :: rs) fun s r => s.plain = .d d ∧ r = A :: rs
def TsD (c : Ctx m₀ N₀ sc₀ lv₀ xp₀ fF₀ cm₀) (scope : Scope) (t : Expr) (ρ2 : List Sl) (rs : List Mem) (b : Bool) : Prop := ∀ (A : Mem) s0 H0 C0 cl0 fp0 hso, DT (c.blk scope s0 H0 C0 cl0 fp0 hso) t ρ2 (A :: rs) fun k r => k = b ∧ r = A :: rs
theorem lc_run {elt : Expr} {tt : TT} {scope : Scope} {j : Nat} {K : Sl → List Mem → Prop} (hso : ScOk (relS scope sc₀)) (hj : IxOf N₀ x j)
    (h : DI c (.Name x p2) it ρ rs fun items keep r => ∃ (α : Type) (xs : List α) (enc : α → Sl) (p : α → Bool) (h : α → PyData), items = xs.map enc ∧ (∀ A : Mem, keep (A :: r)) ∧ xs.length ≤ 100000 ∧
      (∃ ρw, SetS N₀ ρ x j .un ρw ∧ ∀ y ∈ xs, ∃ ρ2, SetS N₀ ρw x j (enc y) ρ2 ∧ (p y = true → ElD c scope elt ρ2 r (h y)) ∧
        ∀ (A : Mem) (σ : L2.St) (H : Hp) (G : Fp) (Q : Bool → Hp → Prop), EnvOk G H σ ρ2 → sepL (A :: r) G G H → (∀ H' G', Stp G G' H H' → sepL (A :: r) G' G' H' → Q (p y) H') → tt σ H Q) ∧
      K (.n ((xs.filter p).map h)) r)
    {σ : L2.St} {H : Hp} {G : Fp} {Q : VK} (he : EnvOk G H σ ρ) (hs : sepL rs G G H) (hx : XOk c G H) (hq : ∀ v H' G' sl rs', Stp G G' H H' → Rs G' H H' v sl → sepL rs' G' G' H' → K sl rs' → Q v H') :
    tLc (tI c.X (.Name x p2) it) (gName j) tt (tBE c.X scope elt) [j] σ H Q := by
  refine h σ H G _ he hs hx fun J H1 G1 items keep r1 t1 o1 jok k1 => ?_
  obtain ⟨α, xs, enc, p, hh, rfl, hk, hlen, ⟨ρw, hw, ht⟩, kend⟩ := k1
  intro D hD
  -- the new list at D is a thing of one's own meanwhile
  have key : ∀ (acc : List V) (G' : Fp) (H' : Hp) (ds : List PyData), H' D = some (.lst acc) → IsAll G' H' acc ds → G' D → sepL (lstM D (ds.map .d) :: r1) G' G' H' → True := fun _ _ _ _ _ _ _ _ => trivial
  have nG1 : ¬ G1 D := o1.fresh hD
  obtain ⟨tj, oj⟩ := sepL.join (A := lstM D []) (H' := upd H1 D (.lst [])) o1 (same_new hD) hD ⟨fun a => Iff.rfl, [], upd_same, trivial⟩
  refine ⟨fun i m H' => m = xs.length - i ∧ i ≤ xs.length ∧ ∃ G', Stp G1 G' H1 H' ∧ sepL (lstM D (((xs.take i).filter p).map (fun y => .d (hh y))) :: r1) G' G' H', ⟨_, rfl, Nat.zero_le _, _, tj, oj⟩, ?_⟩
  rintro i m H' ⟨rfl, hle, G', t2, o2⟩
  have jk := jok G' H' _ t2 o2 (hk _) i
  by_cases hlt : i < xs.length
  · have hgo := jk.1 (by simpa using hlt)
    refine .inr ⟨hgo.1, fun H2 => ∃ G2, Stp G1 G2 H1 H2 ∧ sepL (lstM D (((xs.take (i + 1)).filter p).map (fun y => .d (hh y))) :: r1) G2 G2 H2, fun H2 ⟨G2, a, b⟩ => ⟨_, by omega, rfl, by omega, G2, a, b⟩, fun v H2 yl => ?_⟩
    obtain ⟨rfl, sl, hsl, hy⟩ := hgo.2 v H2 yl
    have hsl' : sl = enc xs[i] := by
      rw [List.getElem?_map, List.getElem?_eq_getElem hlt] at hsl
      exact (Option.some.inj hsl).symm
    subst hsl'
    obtain ⟨ρ2, hset, hel, htt⟩ := ht xs[i] (List.getElem_mem hlt)
    have tk : xs.take (i + 1) = xs.take i ++ [xs[i]] := by simp
    have eEnv : EnvOk G' H2 ((wipe σ [j]).set j (some v)) ρ2 := hset.env hy (set_un hw ((he.stp t1).stp t2))
    refine ⟨?_, ?_⟩
    · show ((σ.set j none).set j (some v)).set j none = σ.set j none
      rw [List.set_set, List.set_set]
    refine htt _ _ H2 G' _ eEnv o2 fun H3 G3 t3 o3 => ?_
    cases hp : p xs[i] with
    | false =>
      show ∃ G2, _
      refine ⟨G3, t2.trans t3, ?_⟩
      rw [tk, List.filter_append, List.filter_cons, if_neg (by rw [hp]; exact Bool.false_ne_true)]
      simpa using o3
    | true =>
      show tBE c.X scope elt _ H3 _
      intro s0 H0 C0 cl0 fp0
      refine hel hp _ s0 H0 C0 cl0 fp0 hso _ H3 G3 _ (eEnv.stp t3) o3 xok_blk fun w H4 G4 s4 r4 t4 h4 o4 k4 => ?_
      obtain ⟨e4, rfl⟩ := k4
      have hw4 : Is G4 H4 w (hh xs[i]) := plain_d e4 h4.ok
      obtain ⟨F1, F2, ⟨eF, acc, hD4, al⟩, oR, dj, eG⟩ := id o4
      have hle4 : acc.length ≤ xs.length := by
        have := al.length
        rw [List.length_map] at this
        have l2 : ((xs.take i).filter p).length ≤ (xs.take i).length := List.length_filter_le _ _
        rw [List.length_take] at l2
        omega
      refine ⟨acc, hD4, Nat.lt_of_le_of_lt (Nat.le_trans hle4 hlen) (by decide), G4, ?_, ?_⟩
      · have t14 := (t2.trans t3).trans t4
        refine ⟨fun a o q n => ?_, t14.sub, fun a o q => ?_⟩
        · rw [upd_ne (ne_of_none q hD)]
          exact t14.keep a o q n
        · by_cases ea : a = D
          · subst ea; exact ⟨_, upd_same⟩
          · rw [upd_ne ea]; exact t14.old a o q
      · have kp : ∀ a o, H4 a = some o → ¬ F1 a → upd H4 D (.lst (acc ++ [w])) a = some o := fun a o q n => by
          rw [upd_ne fun z => n ((eF a).mpr z)]
          exact q
        have gD : G4 D := (eG D).mpr (.inl ((eF D).mpr rfl))
        have kG : ∀ a o, H4 a = some o → ¬ G4 a → upd H4 D (.lst (acc ++ [w])) a = some o := fun a o q n => kp a o q fun z => n ((eG a).mpr (.inl z))
        refine ⟨F1, F2, ⟨eF, acc ++ [w], upd_same, ?_⟩, sepL.step (fun a g => .inl g) oR (fun a o q z => kp a o q fun y => ?_), dj, eG⟩
        · rw [tk, List.filter_append, List.filter_cons, if_pos hp, List.filter_nil, List.map_append]
          exact (al.stp0 kG fun a g => .inl g).append ⟨hw4.stp0 kG fun a g => .inl g, trivial⟩
        · rcases z with z | z
          · exact dj a y z
          · exact z ((eG a).mpr (.inl y))
  · have hi : i = xs.length := by omega
    subst hi
    rw [List.take_length] at o2
    refine .inl ⟨jk.2 (by simp), ?_⟩
    obtain ⟨F1, G2, ⟨eF, acc, hD2, al⟩, dj, t3, o3⟩ := sepL.drop (Pick.zero) o2
    have al2 : SlAll G2 H' acc (((xs.filter p).map hh).map .d) := by
      rw [List.map_map]
      exact al.stp t3
    refine hq _ H' G2 (.n ((xs.filter p).map hh)) r1 ((t1.trans t2).trans t3) ⟨D, acc, rfl, t1.fresh hD, fun g => dj D ((eF D).mpr rfl) g, hD2, al2.is⟩ o3 kend
theorem dx_lc0 {elt : Expr} {scope : Scope} {j : Nat} {K : Sl → List Mem → Prop} (hj : IxOf N₀ x j) (hok : BlkOk N₀ sc₀ scope [(x, j)])
    (h : DI c (.Name x p2) it ρ rs fun items keep r => ∃ (α : Type) (xs : List α) (enc : α → Sl) (h : α → PyData), items = xs.map enc ∧ (∀ A : Mem, keep (A :: r)) ∧ xs.length ≤ 100000 ∧
      (∃ ρw, SetS N₀ ρ x j .un ρw ∧ ∀ y ∈ xs, ∃ ρ2, SetS N₀ ρw x j (enc y) ρ2 ∧ ElD c scope elt ρ2 r (h y)) ∧ K (.n (xs.map h)) r)
    (hso : ScOk (relS scope sc₀) := by decide +kernel) (hcm : cm₀ = true := by rfl) (hl : scope.names.lookup x = some .local := by rfl) (hr : (relS scope sc₀).names.lookup x = some .local := by rfl) (hf : ∀ y, foldedSetIterable it c.X.env y = pure y := by intro _; rfl) : DX c (.ListComp elt [⟨.Name x p2, it, [], 0⟩] scope pos) ρ rs K := by
  intro σ H G Q he hs hx hq
  have nd : c.X.N.Nodup := by rw [c.hN]; exact c.nd
  have hi : c.X.N[j]? = some x := by rw [c.hN]; exact hj.get
  refine tE_of (pe_lc (own := [(x, j)]) (g := gName j) (tt := tYes) (te := tBE c.X scope elt) (c.calm hcm) nd pi_t (by rw [c.hN, c.hsc]; exact hok) (fun s H C cl fp => pg_name nd hi (.inl (by show (relS scope c.X.env.scope).names.lookup x = _; rw [c.hsc]; exact hr)) (.inr (by show (relS scope c.X.env.scope).names.lookup x = _; rw [c.hsc]; exact hr))) (fun _ _ _ _ _ => pts_nil) (fun s H C cl fp => pe_b s H C cl fp) hf) ?_
  refine lc_run (K := K) hso hj ?_ he hs hx hq
  refine fun σ H G R a b d k => h σ H G R a b d fun J H' G' items keep rs' t o jo q => k J H' G' items keep rs' t o jo ?_
  obtain ⟨α, xs, enc, hh, e1, e2, e3, ⟨ρw, w1, w2⟩, e5⟩ := q
  refine ⟨α, xs, enc, fun _ => true, hh, e1, e2, e3, ⟨ρw, w1, fun y hy => ?_⟩, by
    have z : xs.filter (fun _ => true) = xs := List.filter_eq_self.mpr fun _ _ => rfl
    rw [z]; exact e5⟩
  obtain ⟨ρ2, s1, s2⟩ := w2 y hy
  exact ⟨ρ2, s1, fun _ => s2, fun A σ H G Q _ o2 hq => hq H G (Stp.refl _ _) o2⟩
theorem dx_lc1 {elt t : Expr} {scope : Scope} {j : Nat} {K : Sl → List Mem → Prop} (hj : IxOf N₀ x j) (hok : BlkOk N₀ sc₀ scope [(x, j)])
    (h : DI c (.Name x p2) it ρ rs fun items keep r => ∃ (α : Type) (xs : List α) (enc : α → Sl) (p : α → Bool) (h : α → PyData), items = xs.map enc ∧ (∀ A : Mem, keep (A :: r)) ∧ xs.length ≤ 100000 ∧
      (∃ ρw, SetS N₀ ρ x j .un ρw ∧ ∀ y ∈ xs, ∃ ρ2, SetS N₀ ρw x j (enc y) ρ2 ∧ TsD c scope t ρ2 r (p y) ∧ (p y = true → ElD c scope elt ρ2 r (h y))) ∧ K (.n ((xs.filter p).map h)) r)
    (hso : ScOk (relS scope sc₀) := by decide +kernel) (hcm : cm₀ = true := by rfl) (hl : scope.names.lookup x = some .local := by rfl) (hr : (relS scope sc₀).names.lookup x = some .local := by rfl) (hf : ∀ y, foldedSetIterable it c.X.env y = pure y := by intro _; rfl) : DX c (.ListComp elt [⟨.Name x p2, it, [t], 0⟩] scope pos) ρ rs K := by
  intro σ H G Q he hs hx hq
  have nd : c.X.N.Nodup := by rw [c.hN]; exact c.nd
  have hi : c.X.N[j]? = some x := by rw [c.hN]; exact hj.get
  refine tE_of (pe_lc (own := [(x, j)]) (g := gName j) (tt := tBT c.X scope t) (te := tBE c.X scope elt) (c.calm hcm) nd pi_t (by rw [c.hN, c.hsc]; exact hok) (fun s H C cl fp => pg_name nd hi (.inl (by show (relS scope c.X.env.scope).names.lookup x = _; rw [c.hsc]; exact hr)) (.inr (by show (relS scope c.X.env.scope).names.lookup x = _; rw [c.hsc]; exact hr))) (fun s H C cl fp => pts_one (pt_b s H C cl fp)) (fun s H C cl fp => pe_b s H C cl fp) hf) ?_
  refine lc_run (K := K) hso hj ?_ he hs hx hq
  refine fun σ H G R a b d k => h σ H G R a b d fun J H' G' items keep rs' t o jo q => k J H' G' items keep rs' t o jo ?_
  obtain ⟨α, xs, enc, p, hh, e1, e2, e3, ⟨ρw, w1, w2⟩, e5⟩ := q
  refine ⟨α, xs, enc, p, hh, e1, e2, e3, ⟨ρw, w1, fun y hy => ?_⟩, e5⟩
  obtain ⟨ρ2, s1, s2, s3⟩ := w2 y hy
  refine ⟨ρ2, s1, s3, fun A σ H G Q ee o2 hq => ?_⟩
  intro s0 H0 C0 cl0 fp0
  refine s2 A s0 H0 C0 cl0 fp0 hso σ H G _ ee o2 xok_blk fun k H1 G1 r1 t1 o1 k1 => ?_
  obtain ⟨rfl, rfl⟩ := k1
  exact hq H1 G1 t1 o1
/-- y = [..] -/
theorem ds_lc0 {P : Post} {y : Str} {py : Pos} {i : Nat} {elt : Expr} {scope : Scope} {j : Nat} (hiy : IxOf N₀ y i) (hj : IxOf N₀ x j) (hok : BlkOk N₀ sc₀ scope [(x, j)])
    (h : DI c (.Name x p2) it ρ rs fun items keep r => ∃ (α : Type) (xs : List α) (enc : α → Sl) (h : α → PyData), items = xs.map enc ∧ (∀ A : Mem, keep (A :: r)) ∧ xs.length ≤ 100000 ∧
      (∃ ρw, SetS N₀ ρ x j .un ρw ∧ ∀ y ∈ xs, ∃ ρ2, SetS N₀ ρw x j (enc y) ρ2 ∧ ElD c scope elt ρ2 r (h y)) ∧ ∃ ρ', SetS N₀ ρ y i (.d (.list (xs.map h))) ρ' ∧ P.nx ρ' r)
    (hso : ScOk (relS scope sc₀) := by decide +kernel) (hcm : cm₀ = true := by rfl) (hl : scope.names.lookup x = some .local := by rfl) (hr : (relS scope sc₀).names.lookup x = some .local := by rfl) (hyl : sc₀.names.lookup y = some .local := by rfl) (hkd : sc₀.kind = .function := by rfl) (hln : (py.line == pos.line) = true := by rfl) (hny : (scope.names.any fun (n, k) => n == y && (k == .local || k == .cell)) = false := by first | rfl | decide +kernel)
    (hf : ∀ y, foldedSetIterable it c.X.env y = pure y := by intro _; rfl) : DS c (.Assign [.Name y py] (.ListComp elt [⟨.Name x p2, it, [], 0⟩] scope pos) pos') ρ rs P := by
  intro σ H G D he hs hx hd
  have nd : c.X.N.Nodup := by rw [c.hN]; exact c.nd
  have hi : c.X.N[j]? = some x := by rw [c.hN]; exact hj.get
  have hyi : c.X.N[i]? = some y := by rw [c.hN]; exact hiy.get
  refine tS_of (ps_setLc (own := [(x, j)]) (g := gName j) (tt := tYes) (te := tBE c.X scope elt) (c.calm hcm) nd hyi (by rw [c.hsc]; exact hyl) (sw_true (by rw [c.hsc]; exact hkd) (by rw [c.hsc]; exact hyl) hln hny) pi_t (by rw [c.hN, c.hsc]; exact hok) (fun s H C cl fp => pg_name nd hi (.inl (by show (relS scope c.X.env.scope).names.lookup x = _; rw [c.hsc]; exact hr)) (.inr (by show (relS scope c.X.env.scope).names.lookup x = _; rw [c.hsc]; exact hr))) (fun _ _ _ _ _ => pts_nil) (fun s H C cl fp => pe_b s H C cl fp) hf) ?_
  refine lc_run (K := fun s r => ∃ ρ', SetS N₀ ρ y i s.plain ρ' ∧ P.nx ρ' r) (Q := fun v H' => D.nx (σ.set i (some v)) H') hso hj ?_ he hs hx fun v H' G' sl r' t q o ⟨ρ', z, k⟩ => hd.nx _ H' G' ρ' r' t (z.env q.ok.plain (he.stp t)) o k
  refine fun σ H G R a b d k => h σ H G R a b d fun J H' G' items keep rs' t o jo q => k J H' G' items keep rs' t o jo ?_
  obtain ⟨α, xs, enc, hh, e1, e2, e3, ⟨ρw, w1, w2⟩, e5⟩ := q
  refine ⟨α, xs, enc, fun _ => true, hh, e1, e2, e3, ⟨ρw, w1, fun y hy => ?_⟩, by
    have z : xs.filter (fun _ => true) = xs := List.filter_eq_self.mpr fun _ _ => rfl
    rw [z]; exact e5⟩
  obtain ⟨ρ2, s1, s2⟩ := w2 y hy
  exact ⟨ρ2, s1, fun _ => s2, fun A σ H G Q _ o2 hq => hq H G (Stp.refl _ _) o2⟩
/-- y = [..] -/
theorem ds_lc1 {P : Post} {y : Str} {py : Pos} {i : Nat} {elt t : Expr} {scope : Scope} {j : Nat} (hiy : IxOf N₀ y i) (hj : IxOf N₀ x j) (hok : BlkOk N₀ sc₀ scope [(x, j)])
    (h : DI c (.Name x p2) it ρ rs fun items keep r => ∃ (α : Type) (xs : List α) (enc : α → Sl) (p : α → Bool) (h : α → PyData), items = xs.map enc ∧ (∀ A : Mem, keep (A :: r)) ∧ xs.length ≤ 100000 ∧
      (∃ ρw, SetS N₀ ρ x j .un ρw ∧ ∀ y ∈ xs, ∃ ρ2, SetS N₀ ρw x j (enc y) ρ2 ∧ TsD c scope t ρ2 r (p y) ∧ (p y = true → ElD c scope elt ρ2 r (h y))) ∧ ∃ ρ', SetS N₀ ρ y i (.d (.list ((xs.filter p).map h))) ρ' ∧ P.nx ρ' r)
    (hso : ScOk (relS scope sc₀) := by decide +kernel) (hcm : cm₀ = true := by rfl) (hl : scope.names.lookup x = some .local := by rfl) (hr : (relS scope sc₀).names.lookup x = some .local := by rfl) (hyl : sc₀.names.lookup y = some .local := by rfl) (hkd : sc₀.kind = .function := by rfl) (hln : (py.line == pos.line) = true := by rfl) (hny : (scope.names.any fun (n, k) => n == y && (k == .local || k == .cell)) = false := by first | rfl | decide +kernel)
    (hf : ∀ y, foldedSetIterable it c.X.env y = pure y := by intro _; rfl) : DS c (.Assign [.Name y py] (.ListComp elt [⟨.Name x p2, it, [t], 0⟩] scope pos) pos') ρ rs P := by
  intro σ H G D he hs hx hd
  have nd : c.X.N.Nodup := by rw [c.hN]; exact c.nd
  have hi : c.X.N[j]? = some x := by rw [c.hN]; exact hj.get
  have hyi : c.X.N[i]? = some y := by rw [c.hN]; exact hiy.get
  refine tS_of (ps_setLc (own := [(x, j)]) (g := gName j) (tt := tBT c.X scope t) (te := tBE c.X scope elt) (c.calm hcm) nd hyi (by rw [c.hsc]; exact hyl) (sw_true (by rw [c.hsc]; exact hkd) (by rw [c.hsc]; exact hyl) hln hny) pi_t (by rw [c.hN, c.hsc]; exact hok) (fun s H C cl fp => pg_name nd hi (.inl (by show (relS scope c.X.env.scope).names.lookup x = _; rw [c.hsc]; exact hr)) (.inr (by show (relS scope c.X.env.scope).names.lookup x = _; rw [c.hsc]; exact hr))) (fun s H C cl fp => pts_one (pt_b s H C cl fp)) (fun s H C cl fp => pe_b s H C cl fp) hf) ?_
  refine lc_run (K := fun s r => ∃ ρ', SetS N₀ ρ y i s.plain ρ' ∧ P.nx ρ' r) (Q := fun v H' => D.nx (σ.set i (some v)) H') hso hj ?_ he hs hx fun v H' G' sl r' t q o ⟨ρ', z, k⟩ => hd.nx _ H' G' ρ' r' t (z.env q.ok.plain (he.stp t)) o k
  refine fun σ H G R a b d k => h σ H G R a b d fun J H' G' items keep rs' t o jo q => k J H' G' items keep rs' t o jo ?_
  obtain ⟨α, xs, enc, p, hh, e1, e2, e3, ⟨ρw, w1, w2⟩, e5⟩ := q
  refine ⟨α, xs, enc, p, hh, e1, e2, e3, ⟨ρw, w1, fun y hy => ?_⟩, e5⟩
  obtain ⟨ρ2, s1, s2, s3⟩ := w2 y hy
  refine ⟨ρ2, s1, s3, fun A σ H G Q ee o2 hq => ?_⟩
  intro s0 H0 C0 cl0 fp0
  refine s2 A s0 H0 C0 cl0 fp0 hso σ H G _ ee o2 xok_blk fun k H1 G1 r1 t1 o1 k1 => ?_
  obtain ⟨rfl, rfl⟩ := k1
  exact hq H1 G1 t1 o1
end
end PW

set_option maxHeartbeats 1000000
/-! Calls: built-ins, defs by their contracts. -/
namespace PW
open PySem L2
variable [KC]
variable {m₀ : Mo} {N₀ : List Str} {sc₀ : Scope} {lv₀ : Nat} {xp₀ : Addr → List Sl → List Mem → Prop} {fF₀ cm₀ : Bool}

section
variable {c : Ctx m₀ N₀ sc₀ lv₀ xp₀ fF₀ cm₀} {e a b : Expr} {es : List Expr} {ρ ρ' : List Sl} {rs : List Mem} {K : Sl → List Mem → Prop} {x : Str} {pos pos' p2 : Pos} {s : Sl} {ds : List PyData} {d : PyData}
theorem c_gl (hg : KdIn sc₀.names x .globalImplicit) : Gl c.X x := by
  show c.X.env.kindOf x = _
  unfold Env.kindOf
  rw [c.hsc]; exact c.look hg
theorem dx_callB {id : String} {r : List V → Hp → VK → Prop} (hc : CallR c.X (.builtin id) r) (hm : m₀.mg x = none) (hv : bootBuiltins x = some (.builtin id)) (h : DA c (e :: es) ρ rs fun ss r1 => CaD r ss r1 K) (hg : KdIn sc₀.names x .globalImplicit := by first | ((with_reducible (repeat (first | exact KdIn.zero | apply KdIn.succ))); (first | (all_goals fail) | fail)) | exact kd_of rfl)
     (he : starEach (e :: es) c.X.env = (false, eval e c.X.env) :: starEach es c.X.env := by rfl) (hpl : (backTo pos (starEach es c.X.env)).any (·.1) = false := by rfl) :
    DX c (.Call (.Name x p2) (e :: es) [] pos) ρ rs K := by
  intro σ H G Q hE hs hx hq
  refine tE_of (pe_callB hc (c_gl hg) (by rw [c.hm.mg]; exact hm) hv pa_t (c.nd3 hg) (c.nd1 hg) he hpl) ?_
  refine h σ H G _ hE hs hx fun vs H1 G1 ss r1 t1 h1 o1 k1 => ?_
  exact k1 G1 H1 vs Q h1 o1 fun v H' G' sl rs' t2 h2 o2 k2 => hq v H' G' sl rs' (t1.trans t2) (h2.back t1) o2 k2
theorem dx_callTy {T : String} {r : List V → Hp → VK → Prop} (hc : CallR c.X (.type T) r) (hm : m₀.mg x = none) (hv : bootBuiltins x = some (.type T)) (h : DA c (e :: es) ρ rs fun ss r1 => CaD r ss r1 K) (hg : KdIn sc₀.names x .globalImplicit := by first | ((with_reducible (repeat (first | exact KdIn.zero | apply KdIn.succ))); (first | (all_goals fail) | fail)) | exact kd_of rfl)
     (he : starEach (e :: es) c.X.env = (false, eval e c.X.env) :: starEach es c.X.env := by rfl) (hpl : (backTo pos (starEach es c.X.env)).any (·.1) = false := by rfl) :
    DX c (.Call (.Name x p2) (e :: es) [] pos) ρ rs K := by
  intro σ H G Q hE hs hx hq
  refine tE_of (pe_callTy hc (c_gl hg) (by rw [c.hm.mg]; exact hm) hv pa_t (c.nd3 hg) (c.nd1 hg) he hpl) ?_
  refine h σ H G _ hE hs hx fun vs H1 G1 ss r1 t1 h1 o1 k1 => ?_
  exact k1 G1 H1 vs Q h1 o1 fun v H' G' sl rs' t2 h2 o2 k2 => hq v H' G' sl rs' (t1.trans t2) (h2.back t1) o2 k2
/-- a built-in class by its name, not called -/
theorem dx_ty {T : String} (hm : m₀.mg x = none) (hv : bootBuiltins x = some (.type T)) (k : K (.r (.ty T)) rs) (hg : KdIn sc₀.names x .globalImplicit := by first | ((with_reducible (repeat (first | exact KdIn.zero | apply KdIn.succ))); (first | (all_goals fail) | fail)) | exact kd_of rfl)  : DX c (.Name x pos) ρ rs K := by
  intro σ H G Q hE hs hx hq
  refine tE_of (pe_bltn (v := .ty T) (c_gl hg) (by rw [c.hm.mg]; exact hm) hv rfl (c.nd3 hg) (c.nd1 hg)) ?_
  exact hq (.ty T) H G (.r (.ty T)) rs (Stp.refl _ _) rfl hs k
theorem b_len : bootBuiltins ("len" : Str) = some (.builtin "len") := by decide +kernel
theorem b_isi : bootBuiltins ("isinstance" : Str) = some (.builtin "isinstance") := by decide +kernel
theorem b_min : bootBuiltins ("min" : Str) = some (.builtin "min") := by decide +kernel
theorem b_max : bootBuiltins ("max" : Str) = some (.builtin "max") := by decide +kernel
theorem b_sorted : bootBuiltins ("sorted" : Str) = some (.builtin "sorted") := by decide +kernel
theorem b_int : bootBuiltins ("int" : Str) = some (.type "int") := by decide +kernel
theorem b_bool : bootBuiltins ("bool" : Str) = some (.type "bool") := by decide +kernel
theorem b_str : bootBuiltins ("str" : Str) = some (.type "str") := by decide +kernel
theorem b_list : bootBuiltins ("list" : Str) = some (.type "list") := by decide +kernel
theorem b_tuple : bootBuiltins ("tuple" : Str) = some (.type "tuple") := by decide +kernel
theorem b_dict : bootBuiltins ("dict" : Str) = some (.type "dict") := by decide +kernel
theorem b_VE : bootBuiltins ("ValueError" : Str) = some (.type "ValueError") := by decide +kernel
theorem dx_tint (k : K (.r (.ty "int")) rs) (hg : KdIn sc₀.names ("int" : Str) .globalImplicit := by first | ((with_reducible (repeat (first | exact KdIn.zero | apply KdIn.succ))); (first | (all_goals fail) | fail)) | exact kd_of rfl) : DX c (.Name "int" pos) ρ rs K := dx_ty c.bl.int b_int k hg
theorem dx_tbool (k : K (.r (.ty "bool")) rs) (hg : KdIn sc₀.names ("bool" : Str) .globalImplicit := by first | ((with_reducible (repeat (first | exact KdIn.zero | apply KdIn.succ))); (first | (all_goals fail) | fail)) | exact kd_of rfl) : DX c (.Name "bool" pos) ρ rs K := dx_ty c.bl.bool b_bool k hg
theorem dx_tstr (k : K (.r (.ty "str")) rs) (hg : KdIn sc₀.names ("str" : Str) .globalImplicit := by first | ((with_reducible (repeat (first | exact KdIn.zero | apply KdIn.succ))); (first | (all_goals fail) | fail)) | exact kd_of rfl) : DX c (.Name "str" pos) ρ rs K := dx_ty c.bl.str b_str k hg
theorem dx_tlist (k : K (.r (.ty "list")) rs) (hg : KdIn sc₀.names ("list" : Str) .globalImplicit := by first | ((with_reducible (repeat (first | exact KdIn.zero | apply KdIn.succ))); (first | (all_goals fail) | fail)) | exact kd_of rfl) : DX c (.Name "list" pos) ρ rs K := dx_ty c.bl.list b_list k hg
theorem dx_ttuple (k : K (.r (.ty "tuple")) rs) (hg : KdIn sc₀.names ("tuple" : Str) .globalImplicit := by first | ((with_reducible (repeat (first | exact KdIn.zero | apply KdIn.succ))); (first | (all_goals fail) | fail)) | exact kd_of rfl) : DX c (.Name "tuple" pos) ρ rs K := dx_ty c.bl.tuple b_tuple k hg
/-! ### len -/
def LenD (s : Sl) (rs : List Mem) (K : Sl → List Mem → Prop) : Prop := CaD (fun xs H Q => ∃ x n, xs = [x] ∧ LenV KC.K x H n ∧ Q (.int n) H) [s] rs K
theorem ld_seq (h : s.asSeq = some ds) (k : K (.d (.int ds.length)) rs) : LenD s rs K := fun G H vs Q hv hs hq => by
  match vs, hv with
  | [v], hv =>
    obtain ⟨p, ws, rfl, r, al⟩ := hv.1.seq h
    refine ⟨.ref p, ds.length, rfl, ?_, give0 hs hq (sl := .d (.int ds.length)) (Is.int _) k⟩
    rcases r with r | r
    · exact .inl ⟨ws, r.sq, al.length.symm⟩
    · exact .inr ⟨ws, .inl r, al.length.symm⟩
theorem ld_str {z : Str} (hz : z.length ≤ 100000) (k : K (.d (.int z.length)) rs) : LenD (.d (.str z)) rs K := fun G H vs Q hv hs hq => by
  match vs, hv with
  | [v], hv =>
    refine ⟨v, z.length, rfl, ?_, give0 hs hq (sl := .d (.int z.length)) (Is.int _) k⟩
    rw [hv.1.str]
    exact ⟨Nat.le_trans hz (by decide), rfl⟩
theorem dx_len (h : DX c a ρ rs fun s r1 => LenD s.plain r1 K) (hg : KdIn sc₀.names ("len" : Str) .globalImplicit := by first | ((with_reducible (repeat (first | exact KdIn.zero | apply KdIn.succ))); (first | (all_goals fail) | fail)) | exact kd_of rfl) (he : starEach [a] c.X.env = (false, eval a c.X.env) :: starEach [] c.X.env := by rfl) : DX c (.Call (.Name "len" p2) [a] [] pos) ρ rs K :=
  dx_callB (c.ck ▸ call_len) c.bl.len b_len (da_cons (fun σ H G Q a1 a2 a3 a4 => h σ H G Q a1 a2 a3 fun v H' G' sl rs' t r o k => a4 v H' G' sl rs' t r o (da_nil k)) he) hg (he := he) (hpl := rfl)
/-! ### isinstance -/
def tyD : PyData → String
  | .none => "NoneType" | .bool _ => "bool" | .int _ => "int" | .str _ => "str" | .list _ => "list" | .tuple _ => "tuple" | .dict _ => "dict"
def isD (T : String) : PyData → Bool
  | .none => false
  | .bool _ => T == "bool" || T == "int"
  | .int _ => T == "int"
  | .str _ => T == "str"
  | .list _ => T == "list"
  | .tuple _ => T == "tuple"
  | .dict _ => T == "dict"
theorem tyx {G : Fp} {H : Hp} {v : V} (h : Is G H v d) : TyX KC.K H v (.type (tyD d)) := by
  cases h with
  | non => exact .base .non
  | bl b => exact .base (.bl b)
  | int b => exact .base (.int b)
  | str b => exact .base (.str b)
  | lst r _ =>
    rcases r with ⟨r | ⟨o, r⟩, _⟩ | ⟨o, its, n, h1, h2, _⟩
    · exact .base (.lst r)
    · exact .base (.frz r)
    · exact .kList h1 h2
  | tup r _ _ =>
    rcases r with r | ⟨o, r⟩
    · exact .base (.tup r)
    · exact .fTuple r
theorem kits : ∀ T ∈ ["int", "bool", "str", "list", "tuple"], ∀ a ∈ ["NoneType", "bool", "int", "str", "list", "tuple"], kitB a T = some ((a == "bool" && (T == "bool" || T == "int")) || (a != "bool" && a == T)) := by decide +kernel
theorem kit_d {T : String} (hT : T ∈ ["int", "bool", "str", "list", "tuple"]) (hd : ∀ kvs, d ≠ .dict kvs) : kitB (tyD d) T = some (isD T d) := by
  have q := kits T hT (tyD d) (by cases d with
    | dict kvs => exact absurd rfl (hd kvs)
    | _ => simp [tyD])
  rw [q]
  simp only [List.mem_cons, List.not_mem_nil, or_false] at hT
  cases d with
  | dict kvs => exact absurd rfl (hd kvs)
  | _ => rcases hT with rfl | rfl | rfl | rfl | rfl <;> rfl
theorem is_nodict {G : Fp} {H : Hp} {v : V} (h : Is G H v d) : ∀ kvs, d ≠ .dict kvs := by
  intro kvs e; subst e; cases h
theorem cd_isi {T : String} (hT : T ∈ ["int", "bool", "str", "list", "tuple"]) (h : s.plain = .d d) (k : K (.d (.bool (isD T d))) rs) : CaD (rIsi KC.K) [s, .r (.ty T)] rs K := fun G H vs Q hv hs hq => by
  match vs, hv with
  | [v, w], hv =>
    have hI := plain_d h hv.1
    have hw : w = .ty T := hv.2.1
    subst hw
    exact ⟨v, .ty T, .type (tyD d), .type T, _, rfl, .ty T, tyx hI, kit_ty (kit_d hT (is_nodict hI)), give0 hs hq (sl := .d (.bool (isD T d))) (Is.bl _) k⟩
theorem dx_isi (h : DA c [a, b] ρ rs fun ss r1 => CaD (rIsi KC.K) ss r1 K) (hg : KdIn sc₀.names ("isinstance" : Str) .globalImplicit := by first | ((with_reducible (repeat (first | exact KdIn.zero | apply KdIn.succ))); (first | (all_goals fail) | fail)) | exact kd_of rfl) (he : starEach (a :: [b]) c.X.env = (false, eval a c.X.env) :: starEach [b] c.X.env := by rfl)
    (hpl : (backTo pos (starEach [b] c.X.env)).any (·.1) = false := by rfl) : DX c (.Call (.Name "isinstance" p2) [a, b] [] pos) ρ rs K := dx_callB (c.ck ▸ call_isi) c.bl.isinstance b_isi h hg (he := he) (hpl := hpl)
/-! ### list(xs), min, max -/
theorem cd_list (h : s.asSeq = some ds) (k : K (.n ds) rs) : CaD (fun xs H Q => ∃ p ys, xs = [.ref p] ∧ (SqL KC.K H p ys ∨ SqT KC.K H p ys) ∧ ∀ l, H l = none → Q (.ref l) (upd H l (.lst ys))) [s] rs K := fun G H vs Q hv hs hq => by
  match vs, hv with
  | [v], hv =>
    obtain ⟨p, ws, rfl, r, al⟩ := hv.1.seq h
    refine ⟨p, ws, rfl, r.imp LsAt.sq .inl, fun l hl => ?_⟩
    exact give hs hq (sl := .n ds) (same_new hl) ⟨l, ws, rfl, hl, hs.fresh hl, upd_same, al.stp (stp_new hl)⟩ k
theorem dx_list (h : DX c a ρ rs fun s r1 => ∃ ds, s.plain.asSeq = some ds ∧ K (.n ds) r1) (hg : KdIn sc₀.names ("list" : Str) .globalImplicit := by first | ((with_reducible (repeat (first | exact KdIn.zero | apply KdIn.succ))); (first | (all_goals fail) | fail)) | exact kd_of rfl) (he : starEach [a] c.X.env = (false, eval a c.X.env) :: starEach [] c.X.env := by rfl) :
    DX c (.Call (.Name "list" p2) [a] [] pos) ρ rs K :=
  dx_callTy (c.ck ▸ call_list_of) c.bl.list b_list (da_cons (fun σ H G Q a1 a2 a3 a4 => h σ H G Q a1 a2 a3 fun v H' G' sl rs' t r o ⟨ds, e, k⟩ => a4 v H' G' sl rs' t r o (da_nil (cd_list e k))) he) hg (he := he) (hpl := rfl)
theorem cd_min {i j : Int} (k : K (.d (.int (if j < i then j else i))) rs) : CaD (fun xs H Q => ∃ i j, xs = [.int i, .int j] ∧ Q (.int (if j < i then j else i)) H) [.d (.int i), .d (.int j)] rs K := fun G H vs Q hv hs hq => by
  match vs, hv with
  | [v, w], hv => exact ⟨i, j, by rw [hv.1.int, hv.2.1.int], give0 hs hq (sl := .d (.int _)) (Is.int _) k⟩
theorem cd_max {i j : Int} (k : K (.d (.int (if j > i then j else i))) rs) : CaD (fun xs H Q => ∃ i j, xs = [.int i, .int j] ∧ Q (.int (if j > i then j else i)) H) [.d (.int i), .d (.int j)] rs K := fun G H vs Q hv hs hq => by
  match vs, hv with
  | [v, w], hv => exact ⟨i, j, by rw [hv.1.int, hv.2.1.int], give0 hs hq (sl := .d (.int _)) (Is.int _) k⟩
theorem dx_min (h : DA c [a, b] ρ rs fun ss r1 => CaD (fun xs H Q => ∃ i j, xs = [.int i, .int j] ∧ Q (.int (if j < i then j else i)) H) ss r1 K) (hg : KdIn sc₀.names ("min" : Str) .globalImplicit := by first | ((with_reducible (repeat (first | exact KdIn.zero | apply KdIn.succ))); (first | (all_goals fail) | fail)) | exact kd_of rfl)
    (hcm : cm₀ = true := by rfl) (he : starEach (a :: [b]) c.X.env = (false, eval a c.X.env) :: starEach [b] c.X.env := by rfl) (hpl : (backTo pos (starEach [b] c.X.env)).any (·.1) = false := by rfl) : DX c (.Call (.Name "min" p2) [a, b] [] pos) ρ rs K := dx_callB (call_min2 (c.calm hcm)) c.bl.min b_min h hg (he := he) (hpl := hpl)
theorem dx_max (h : DA c [a, b] ρ rs fun ss r1 => CaD (fun xs H Q => ∃ i j, xs = [.int i, .int j] ∧ Q (.int (if j > i then j else i)) H) ss r1 K) (hg : KdIn sc₀.names ("max" : Str) .globalImplicit := by first | ((with_reducible (repeat (first | exact KdIn.zero | apply KdIn.succ))); (first | (all_goals fail) | fail)) | exact kd_of rfl)
    (hcm : cm₀ = true := by rfl) (he : starEach (a :: [b]) c.X.env = (false, eval a c.X.env) :: starEach [b] c.X.env := by rfl) (hpl : (backTo pos (starEach [b] c.X.env)).any (·.1) = false := by rfl) : DX c (.Call (.Name "max" p2) [a, b] [] pos) ρ rs K := dx_callB (call_max2 (c.calm hcm)) c.bl.max b_max h hg (he := he) (hpl := hpl)
end

/-! ### contracts -/
/-- from the arguments and the things handed over: what comes back with what things, or which class is raised with what things -/
abbrev Cn := List Sl → List Mem → (Sl → List Mem → Prop) → (Addr → List Mem → Prop) → Prop
def spC (C : Cn) : Sp := fun vs H Q E => ∃ (ss : List Sl) (fr : Mem) (rin : List Mem) (G : Fp) (res : Sl → List Mem → Prop) (exc : Addr → List Mem → Prop), SlAll G H vs ss ∧ sepL (rin ++ [fr]) G G H ∧ C ss rin res exc ∧
  (∀ v H' G' sl rs', Stp G G' H H' → Rs G' H H' v sl → sepL (rs' ++ [fr]) G' G' H' → res sl rs' → Q v H') ∧ (∀ D H' G' rs', Stp G G' H H' → sepL (rs' ++ [fr]) G' G' H' → exc D rs' → E (.ref D) none H')
/-- the def named x of the module keeps C, with room k -/
structure FnIs (m : Mo) (x : Str) (k : Nat) (C : Cn) : Prop where
  ex : ∃ f fd ps, FnOk m.P m.w m.K m.mg m.base (L2.CX m.P m.w) k f fd ps (spC C) ∧ m.mg x = some (.ref f) ∧ PySem.W.keepIn m.K (.ref f) = true ∧ Binds m.K fd ps []
/-- the method x of the class at D -/
structure MtIs (m : Mo) (D : Addr) (x : Str) (k : Nat) (C : Cn) : Prop where
  ex : ∃ f fd ps, FnOk m.P m.w m.K m.mg m.base (L2.CX m.P m.w) k f fd ps (spC C) ∧ Meth m.K D x f ∧ Binds m.K fd ps []
theorem sepM_app {H : Hp} {G F : Fp} {xs ys : List Mem} : sepL (xs ++ [sepM ys]) F G H ↔ sepL (xs ++ ys) F G H := by
  constructor
  · intro h
    obtain ⟨F1, F2, h1, ⟨F3, F4, h3, h4, d4, e4⟩, d, e⟩ := sepL.app.mp h
    refine sepL.app.mpr ⟨F1, F3, h1, h3, fun a z y => d a z ((e4 a).mpr (.inl y)), fun a => ?_⟩
    rw [e a, e4 a]
    exact ⟨fun z => z.imp id fun z => z.elim id fun z => absurd z (h4 a), fun z => z.imp id .inl⟩
  · intro h
    obtain ⟨F1, F2, h1, h2, d, e⟩ := sepL.app.mp h
    exact sepL.app.mpr ⟨F1, F2, h1, ⟨F2, fun _ => False, h2, fun _ z => z, fun _ _ z => z, fun a => ⟨.inl, fun z => z.elim id False.elim⟩⟩, d, e⟩
section
variable {c : Ctx m₀ N₀ sc₀ lv₀ xp₀ fF₀ cm₀} {e a b : Expr} {es : List Expr} {ρ ρ' : List Sl} {rs : List Mem} {K : Sl → List Mem → Prop} {x : Str} {pos pos' p2 apos : Pos} {k : Nat} {C : Cn}
theorem fn_at {m : Mo} {X : Cx} (h : m.Of X) {f : Addr} {fd : FuncData} {ps : List Str} {sp : Sp} (F : FnOk m.P m.w m.K m.mg m.base (L2.CX m.P m.w) k f fd ps sp) : FnOk X.prog X.w X.K X.mg X.base (L2.CX X.prog X.w) k f fd ps sp := by
  obtain ⟨P, w, K, mg, base⟩ := m
  obtain ⟨h1, h2, h3, h4, h5⟩ := h
  dsimp only at h1 h2 h3 h4 h5 F
  subst h1 h2 h3 h4 h5
  exact F
/-- how a call ends, by the contract -/
def CallEnd (c : Ctx m₀ N₀ sc₀ lv₀ xp₀ fF₀ cm₀) (C : Cn) (ss : List Sl) (ρ : List Sl) (r1 : List Mem) (K : Sl → List Mem → Prop) : Prop :=
  ∀ (σ : L2.St) (H : Hp) (G : Fp) (vs : List V) (Q : VK), EnvOk G H σ ρ → sepL r1 G G H → XOk c G H → SlAll G H vs ss →
    (∀ v H' G' sl rs', Stp G G' H H' → Rs G' H H' v sl → sepL rs' G' G' H' → K sl rs' → Q v H') → spC C vs H Q (WE c.W σ)
theorem CallEnd.run {ss : List Sl} {r1 : List Mem} (h : CallEnd c C ss ρ r1 K) {σ : L2.St} {H : Hp} {G : Fp} {vs : List V} {Q : VK} (he : EnvOk G H σ ρ) (hs : sepL r1 G G H) (hx : XOk c G H) (hv : SlAll G H vs ss)
    (hq : ∀ v H' G' sl rs', Stp G G' H H' → Rs G' H H' v sl → sepL rs' G' G' H' → K sl rs' → Q v H') : spC C vs H Q (WE c.W σ) := h σ H G vs Q he hs hx hv hq
theorem dx_call (F : FnIs m₀ x k C) (h : DA c (e :: es) ρ rs fun ss r1 => CallEnd c C ss ρ r1 K) (hcm : cm₀ = true := by rfl) (hk : k ≤ lv₀ := by decide) (hg : KdIn sc₀.names x .globalImplicit := by first | ((with_reducible (repeat (first | exact KdIn.zero | apply KdIn.succ))); (first | (all_goals fail) | fail)) | exact kd_of rfl)
    (he : starEach (e :: es) c.X.env = (false, eval e c.X.env) :: starEach es c.X.env := by rfl) (hpl : (backTo pos (starEach es c.X.env)).any (·.1) = false := by rfl) : DX c (.Call (.Name x p2) (e :: es) [] pos) ρ rs K := by
  intro σ H G Q hE hs hx hq
  obtain ⟨f, fd, ps, F, h1, h2, h3⟩ := F.ex
  refine tE_of (pe_callS (fn_at c.hm F) ((c.room hcm).mono hk) (c_gl hg) (by rw [c.hm.mg]; exact h1) (by rw [c.hm.K]; exact h2) (by rw [c.hm.K]; exact h3) (fun σ => passAt c.tk σ) pa_t (c.nd1 hg) he hpl) ?_
  refine h σ H G _ hE hs hx fun vs H1 G1 ss r1 t1 q1 o1 k1 => ?_
  exact k1.run (hE.stp t1) o1 (hx.stp t1) q1 fun v H' G' sl rs' t2 h2 o2 k2 => hq v H' G' sl rs' (t1.trans t2) (h2.back t1) o2 k2
/-- without arguments: nothing is raised -/
theorem dx_call0 (F : FnIs m₀ x k C) (h : C [] [] (fun s r2 => K s (r2 ++ rs)) (fun _ _ => False)) (hcm : cm₀ = true := by rfl) (hk : k ≤ lv₀ := by decide) (hg : KdIn sc₀.names x .globalImplicit := by first | ((with_reducible (repeat (first | exact KdIn.zero | apply KdIn.succ))); (first | (all_goals fail) | fail)) | exact kd_of rfl) : DX c (.Call (.Name x p2) [] [] pos) ρ rs K := by
  intro σ H G Q hE hs hx hq
  obtain ⟨f, fd, ps, F, h1, h2, h3⟩ := F.ex
  refine tE_of (pe_call0 (fn_at c.hm F) ((c.room hcm).mono hk) (c_gl hg) (by rw [c.hm.mg]; exact h1) (by rw [c.hm.K]; exact h2) (by rw [c.hm.K]; exact h3) .nil passL (c.nd1 hg)) ?_
  refine ⟨[], sepM rs, [], G, _, _, trivial, sepM_app.mpr hs, h, fun v H' G' sl rs' t r o k => hq v H' G' sl _ t r (sepM_app.mp o) k, fun D H' G' rs' t o k => k⟩
end
/-! ### a def of the text keeps its contract -/
theorem env_start {G : Fp} {H : Hp} : ∀ {vs : List V} {ss : List Sl} (n : Nat), SlAll G H vs ss → EnvOk G H (vs.map some ++ List.replicate n none) (ss ++ List.replicate n .un)
  | [], [], 0, _ => trivial
  | [], [], n + 1, _ => ⟨trivial, env_start (vs := []) (ss := []) n trivial⟩
  | v :: vs, s :: ss, n, ⟨h, q⟩ => by
    refine ⟨?_, env_start n q⟩
    cases s with
    | un => trivial
    | d x => exact ⟨v, rfl, h⟩
    | r x => exact ⟨v, rfl, h⟩
    | n x => exact ⟨v, rfl, h⟩
  | [], _ :: _, _, h => h.elim
  | _ :: _, [], _, h => h.elim
/-- rs gives rs2; something may be let go -/
def Ent (rs rs2 : List Mem) : Prop := ∀ (G : Fp) (H : Hp), sepL rs G G H → ∃ G' : Fp, (∀ a, G' a → G a) ∧ sepL rs2 G' G' H
theorem ent_refl {rs : List Mem} : Ent rs rs := fun G H h => ⟨G, fun _ z => z, h⟩
theorem ent_of_eq {rs rs2 : List Mem} (e : rs = rs2) : Ent rs rs2 := e ▸ ent_refl
theorem ent_trans {a b d : List Mem} (h : Ent a b) (h2 : Ent b d) : Ent a d := fun G H q => by
  obtain ⟨G1, s1, q1⟩ := h G H q
  obtain ⟨G2, s2, q2⟩ := h2 G1 H q1
  exact ⟨G2, fun x z => s1 x (s2 x z), q2⟩
theorem ent_drop {rs : List Mem} {A : Mem} {f : List Mem → List Mem} (pk : Pick rs A f) : Ent rs (f []) := fun G H h => by
  obtain ⟨F1, F2, h1, h2, d, e⟩ := pk.split.mp h
  have s : Stp G F2 H H := Stp.less fun a z => (e a).mpr (.inr z)
  exact ⟨F2, fun a z => (e a).mpr (.inr z), sepL.step s.sub h2 fun a o q _ => q⟩
theorem ent_take {xs ys : List Mem} : Ent (xs ++ ys) xs := fun G H h => by
  obtain ⟨F1, F2, h1, h2, d, e⟩ := sepL.app.mp h
  exact ⟨F1, fun a z => (e a).mpr (.inl z), sepL.step (fun a z => .inl ((e a).mpr (.inl z))) h1 fun a o q _ => q⟩
/-- the things Bs are in rs; rest is what is left -/
inductive Grab : List Mem → List Mem → List Mem → Prop
  | nil {rs} : Grab rs [] rs
  | cons {rs A f Bs rest} : Pick rs A f → Grab (f []) Bs rest → Grab rs (A :: Bs) rest
theorem Grab.sep {G : Fp} {H : Hp} {rs Bs rest : List Mem} (g : Grab rs Bs rest) : ∀ {F : Fp}, sepL rs F G H → sepL (Bs ++ rest) F G H := by
  induction g with
  | nil => intro F h; exact h
  | cons pk _ ih =>
    intro F h
    obtain ⟨F1, F2, h1, h2, d, e⟩ := pk.split.mp h
    exact ⟨F1, F2, h1, ih h2, d, e⟩
theorem ent_grab {rs Bs rest : List Mem} (g : Grab rs Bs rest) : Ent rs Bs := ent_trans (fun G H h => ⟨G, fun _ z => z, g.sep h⟩) ent_take
/-- things behind a door -/
def exM {α : Type} (fam : α → List Mem) : Mem where
  ok F G H := ∃ q, sepL (fam q) F G H
  dom := fun ⟨q, h⟩ => h.dom
  step := fun ⟨q, h⟩ k s => ⟨q, sepL.step s h k⟩
theorem ent_box {α : Type} {fam : α → List Mem} {q : α} (xs tl : List Mem) : Ent (xs ++ (fam q ++ tl)) (xs ++ exM fam :: tl) := fun G H h => by
  obtain ⟨F1, F2, h1, h2, d, e⟩ := sepL.app.mp h
  obtain ⟨F3, F4, h3, h4, d2, e2⟩ := sepL.app.mp h2
  exact ⟨G, fun _ z => z, sepL.app.mpr ⟨F1, F2, h1, ⟨F3, F4, ⟨q, h3⟩, h4, d2, e2⟩, d, e⟩⟩
theorem sep_open {α : Type} {fam : α → List Mem} {xs tl : List Mem} {G : Fp} {H : Hp} (h : sepL (xs ++ exM fam :: tl) G G H) : ∃ q, sepL (xs ++ (fam q ++ tl)) G G H := by
  obtain ⟨F1, F2, h1, ⟨F3, F4, ⟨q, h3⟩, h4, d2, e2⟩, d, e⟩ := sepL.app.mp h
  exact ⟨q, sepL.app.mpr ⟨F1, F2, h1, sepL.app.mpr ⟨F3, F4, h3, h4, d2, e2⟩, d, e⟩⟩
theorem Rs.less {G G' : Fp} {H0 H : Hp} {v : V} {s : Sl} (l : ∀ a, G' a → G a) (h : Rs G H0 H v s) : Rs G' H0 H v s := by
  have t : Stp G G' H H := Stp.less l
  cases s with
  | un => trivial
  | d x => exact Is.stp t h
  | r u => exact h
  | n ds => obtain ⟨p, vs, e, z, ng, hp, q⟩ := h; exact ⟨p, vs, e, z, fun g => ng (l p g), hp, q.stp t⟩
section
variable {c : Ctx m₀ N₀ sc₀ lv₀ xp₀ fF₀ cm₀} {e : Expr} {sts : List Stmt} {ρ : List Sl} {rs rs2 : List Mem} {P : Post} {K : Sl → List Mem → Prop}
theorem dss_ent (h : Ent rs rs2) (k : DSs c sts ρ rs2 P) : DSs c sts ρ rs P := by
  intro σ H G D he hs hx hd
  obtain ⟨G', l, o⟩ := h G H hs
  have t : Stp G G' H H := Stp.less l
  exact k σ H G' D (he.stp t) o (hx.stp t) (hd.stp t)
theorem dss_open {α : Type} {fam : α → List Mem} (xs : List Mem) {tl : List Mem} (k : ∀ q, DSs c sts ρ (xs ++ (fam q ++ tl)) P) : DSs c sts ρ (xs ++ exM fam :: tl) P := by
  intro σ H G D he hs hx hd
  obtain ⟨q, o⟩ := sep_open hs
  exact k q σ H G D he o hx hd
/-- at a block's end -/
theorem dss_post (h : DSs c sts ρ rs { P with nx := fun ρ' r' => ∃ r2, Ent r' r2 ∧ P.nx ρ' r2 }) : DSs c sts ρ rs P := by
  intro σ H G D he hs hx hd
  refine h σ H G D he hs hx ⟨fun σ' H' G' ρ' r' t e o ⟨r2, l, k⟩ => ?_, hd.rt, hd.bk, hd.ct⟩
  obtain ⟨G2, l, o2⟩ := l G' H' o
  have t2 : Stp G' G2 H' H' := Stp.less l
  exact hd.nx σ' H' G2 ρ' r2 (t.trans t2) (e.stp t2) o2 k
theorem dx_ent (h : DX c e ρ rs fun s r => ∃ r2, Ent r r2 ∧ K s r2) : DX c e ρ rs K := by
  intro σ H G Q he hs hx hq
  refine h σ H G Q he hs hx fun v H' G' sl r' t r o ⟨r2, l, k⟩ => ?_
  obtain ⟨G2, l, o2⟩ := l G' H' o
  exact hq v H' G2 sl r2 (t.trans (Stp.less l)) (r.less l) o2 k
end
/-- a result and its things, as another says it -/
def EntS (s : Sl) (rs : List Mem) (s2 : Sl) (rs2 : List Mem) : Prop := ∀ (G : Fp) (H0 H : Hp) (v : V), sepL rs G G H → Rs G H0 H v s → ∃ G' : Fp, (∀ a, G' a → G a) ∧ sepL rs2 G' G' H ∧ Rs G' H0 H v s2
theorem ents_of {s : Sl} {rs rs2 : List Mem} (h : Ent rs rs2) : EntS s rs s rs2 := fun G H0 H v o r => by
  obtain ⟨G', l, o2⟩ := h G H o
  exact ⟨G', l, o2, r.less l⟩
theorem ents_frz {q : Addr} {ds : List PyData} {rs rs2 : List Mem} {f : List Mem → List Mem} (pk : Pick rs (lstM q (ds.map .d)) f) (h : Ent (f []) rs2) : EntS (.r (.ref q)) rs (.d (.list ds)) rs2 := fun G H0 H v o r => by
  obtain ⟨F1, F2, ⟨eF, vs, hp, al⟩, h2, d, e⟩ := pk.split.mp o
  have l : ∀ a, F2 a → G a := fun a z => (e a).mpr (.inr z)
  have o2 : sepL (f []) F2 F2 H := sepL.step (fun a z => .inl (l a z)) h2 fun a o q _ => q
  obtain ⟨G', l2, o3⟩ := h F2 H o2
  have ev : v = .ref q := r
  subst ev
  have t : Stp G G' H H := Stp.less fun a z => l a (l2 a z)
  exact ⟨G', fun a z => l a (l2 a z), o3, show Is G' H (.ref q) (.list ds) from .lst (.inl ⟨.inl hp, fun g => d q ((eF q).mpr rfl) (l2 q g)⟩) (al.stp t).is⟩
/-- the wishes of a def's body -/
def bodyPost (fr : Mem) (res : Sl → List Mem → Prop) : Post := ⟨fun _ rs => ∃ rs', Ent rs (rs' ++ [fr]) ∧ res (.d .none) rs', fun s rs => ∃ s2 rs', EntS s rs s2 (rs' ++ [fr]) ∧ res s2 rs', fun _ _ => False, fun _ _ => False⟩
theorem fn_ok {m : Mo} {C : Cn} {x qual : Str} {st : Stmt} {f : Addr} {fd : FuncData} {N ps : List Str} {sc : Scope} {k : Nat} (F : Fun m.K x qual st f fd) (S : FnScope N ps (defScope st)) (hsc : defScope st = sc) (bl : Bl m.mg) (hK : m.K = KC.K)
    (len : ∀ ss rin res exc, C ss rin res exc → ss.length = ps.length) (n : Nat) (hn : N.length - ps.length = n)
    (body : ∀ (ss : List Sl) (rin : List Mem) (fr : Mem) (res : Sl → List Mem → Prop) (exc : Addr → List Mem → Prop) (c : Ctx m N sc k (fun D _ rs => ∃ rs', Ent rs (rs' ++ [fr]) ∧ exc D rs') true true), C ss rin res exc →
      DSs c (defBody st) (ss ++ List.replicate n .un) (rin ++ [fr]) (bodyPost fr res)) (hok : ScOk sc := by decide +kernel) : FnOk m.P m.w m.K m.mg m.base (L2.CX m.P m.w) (k + 1) f fd ps (spC C) := by
  refine F.okX S (fun vs H Q E h => ?_) (fun cdv A outer s H vs Q E hr h => ⟨tSs (cxOf (L2.CX m.P m.w) m.P m.w m.K m.mg m.base N qual (defScope st) f cdv A outer s H E) (defBody st), pss_t, ?_⟩)
  · obtain ⟨ss, fr, rin, G, res, exc, hv, _, hC, _⟩ := h
    rw [hv.length]; exact len _ _ _ _ hC
  · obtain ⟨ss, fr, rin, G, res, exc, hv, hs, hC, hres, hexc⟩ := h
    have hl : vs.length = ps.length := by rw [hv.length]; exact len _ _ _ _ hC
    subst hsc
    have B := body ss rin fr res exc ⟨cxOf (L2.CX m.P m.w) m.P m.w m.K m.mg m.base N qual (defScope st) f cdv A outer s H E, fun cls d _ H => E cls d H, ⟨rfl, rfl, rfl, rfl, rfl⟩, hK, bl, rfl, S.nd, rfl, hok, fun _ => rfl, fun _ => hr, (by have hu := hr.un; exact Nat.lt_of_le_of_lt (Nat.add_le_add_right (Nat.le_add_right _ _) _) hu), fun _ => ⟨rfl, rfl⟩, takes_of rfl rfl rfl rfl, fun _ _ => rfl, passes_of rfl⟩ hC
    have e0 : L2.start N vs = vs.map some ++ List.replicate n none := by unfold L2.start; rw [hl, hn]
    rw [e0]
    refine B _ H G _ (env_start n hv) hs (fun D σ' H' G' ρ' rs' t e o kx => ?_) ⟨fun σ' H' G' ρ' rs' t e o kx => ?_, fun v H' G' sl rs' t q o kx => ?_, fun _ _ _ _ _ _ _ _ z => z.elim, fun _ _ _ _ _ _ _ _ z => z.elim⟩
    · obtain ⟨r2, l, kx⟩ := kx
      obtain ⟨G2, l, o2⟩ := l G' H' o
      exact hexc D H' G2 r2 (t.trans (Stp.less l)) o2 kx
    · obtain ⟨r2, l, kx⟩ := kx
      obtain ⟨G2, l, o2⟩ := l G' H' o
      exact hres .non H' G2 (.d .none) r2 (t.trans (Stp.less l)) Is.non o2 kx
    · obtain ⟨s2, r2, l, kx⟩ := kx
      obtain ⟨G2, l, o2, q2⟩ := l G' H H' v o q
      exact hres v H' G2 s2 r2 (t.trans (Stp.less l)) q2 o2 kx
theorem fin {fr : Mem} {res : Sl → List Mem → Prop} {s : Sl} {rs : List Mem} (rs' : List Mem) (h : Ent rs (rs' ++ [fr])) (hr : res s rs') : (bodyPost fr res).rt s rs := ⟨s, rs', ents_of h, hr⟩
theorem fin_frz {fr : Mem} {res : Sl → List Mem → Prop} {q : Addr} {ds : List PyData} {rs : List Mem} {f : List Mem → List Mem} (rs' : List Mem) (pk : Pick rs (lstM q (ds.map .d)) f) (h : Ent (f []) (rs' ++ [fr])) (hr : res (.d (.list ds)) rs') : (bodyPost fr res).rt (.r (.ref q)) rs := ⟨_, rs', ents_frz pk h, hr⟩
end PW

set_option maxHeartbeats 1000000
/-! The ends of a law. -/
namespace PW
open PySem L2
section
variable [KC]
/-- a law's own contract: a list of at most 63 ints comes in, True comes out -/
def lawC : Cn := fun ss rin res _ => ∃ ns : List Int, ss = [.d (.list (ns.map .int))] ∧ rin = [] ∧ ns.length ≤ 63 ∧ res (.d (.bool true)) []
theorem is_ints {G : Fp} {H : Hp} : ∀ ns : List Int, IsAll G H (ns.map V.int) (ns.map PyData.int)
  | [] => .nil
  | n :: ns => .cons (.int n) (is_ints ns)
theorem law_in {H : Hp} {a : Addr} {ns : List Int} (hl : ns.length ≤ 63) (h : SqL KC.K H a (ns.map V.int)) : spC lawC [.ref a] H (fun v _ => v = .bl true) (fun _ _ _ => False) := by
  refine ⟨[.d (.list (ns.map .int))], sepM [], [], fun _ => False, fun s _ => s = .d (.bool true), fun _ _ => False, ⟨?_, trivial⟩, ?_, ⟨ns, rfl, rfl, hl, rfl⟩, fun v H' G' sl rs' t r o k => ?_, fun _ _ _ _ _ _ z => z⟩
  · refine Is.lst ?_ (is_ints ns)
    rcases h with h | h
    · exact .inl ⟨h, id⟩
    · exact .inr h
  · exact ⟨fun _ => False, fun _ => False, fun _ z => z, fun _ z => z, fun _ z => z.elim, fun _ => ⟨False.elim, fun z => z.elim id id⟩⟩
  · subst k
    exact rs_bool r
end
theorem cx_no {P : Program} {w : World} {outer : List Env} {H : Hp} {s : Shared} {e : Value} {s' : Shared} (h : L2.CX P w outer H s (fun _ _ _ => False) e s') : False := by
  obtain ⟨_, _, _, _, _, _, _, _, _, _, _, _, z⟩ := h
  exact z
/-- the end of a law row: what is left is the law's def -/
theorem law_walk {l : PySem.W.OpenLaw} {k : Nat} {q : Program} {loose : List Str} {XP : (Str → Option Value) → Heap → Prop} {YP : World → Heap → Prop} {d : DefRec} {K : Params → PySem.W.Frag} {x : Str}
    (hn : l.most = some 63) (hdf : d.params.defaults = []) (hr : Room k callerA) (hY : ∀ (w : World) (h : Heap), YP w h → (K w.params).In h)
    (F : ∀ (w : World) (mg : Str → Option Value) (fa : Addr) (h : Heap), (K w.params).In h → h.Ns mainGlobals mg → mg d.name = some (.ref fa) →
      ∃ fd : FuncData, (∀ (s : Shared) (u : Value), BindsTo s fd ⟨[u], []⟩ [(x, u)]) ∧
        ∀ base : Heap, FnOk l.prog w (K w.params) mg base (L2.CX l.prog w) k fa fd [x] (@spC ⟨K w.params⟩ lawC)) :
    PySem.W.WalkO q loose XP YP l.row.toRowW d [] (fun f vs => PySem.call f vs) := by
  refine L2.walk_of (K := K) (n := 63) (k := k) (x := x) (CX := fun w => L2.CX l.prog w) (sp := fun w => @spC ⟨K w.params⟩ lawC) hn (by decide) hdf hr hY ?_ ?_ (fun w H s e s' => cx_no)
  · intro w mg fa h KX G hmg
    obtain ⟨fd, h1, h2⟩ := F w mg fa h KX G hmg
    exact ⟨fd, h1, fun base _ _ => h2 base⟩
  · intro w H a ns hl _ hS
    exact @law_in ⟨K w.params⟩ H a ns hl hS
end PW

set_option maxHeartbeats 1000000
/-! Glue. -/
namespace PW
open PySem L2
variable [KC]
variable {m₀ : Mo} {N₀ : List Str} {sc₀ : Scope} {lv₀ : Nat} {xp₀ : Addr → List Sl → List Mem → Prop} {fF₀ cm₀ : Bool}
section
variable {c : Ctx m₀ N₀ sc₀ lv₀ xp₀ fF₀ cm₀} {e a b : Expr} {es : List Expr} {ρ ρ' : List Sl} {rs : List Mem} {K : Sl → List Mem → Prop} {KB : Bool → List Mem → Prop} {KA : List Sl → List Mem → Prop} {P : Post} {x : Str} {pos pos' p2 : Pos} {st : Stmt} {sts : List Stmt}
theorem do_none {K : Option Int → List Mem → Prop} (h : K none rs) : DO c none ρ rs K := h
theorem do_some {K : Option Int → List Mem → Prop} (h : DX c e ρ rs fun s r => ∃ i, s = .d (.int i) ∧ K (some i) r) : DO c (some e) ρ rs K := h
theorem ex_int {i : Int} {K : Int → Prop} (h : K i) : ∃ j, Sl.d (.int i) = .d (.int j) ∧ K j := ⟨i, rfl, h⟩
theorem ex_str {i : Str} {K : Str → Prop} (h : K i) : ∃ j, Sl.d (.str i) = .d (.str j) ∧ K j := ⟨i, rfl, h⟩
theorem ex_list {s : Sl} {ds : List PyData} {K : List PyData → Prop} (e : s.asList = some ds) (h : K ds) : ∃ ds, s.asList = some ds ∧ K ds := ⟨ds, e, h⟩
theorem datas_nil : Datas [] [] := trivial
theorem datas_cons {d : PyData} {ss : List Sl} {ds : List PyData} (h : Datas ss ds) : Datas (.d d :: ss) (d :: ds) := ⟨rfl, h⟩
theorem ex_datas {ss : List Sl} {ds : List PyData} {B : Prop} {K : List PyData → Prop} (h : Datas ss ds) (hb : B) (k : K ds) : ∃ ds, Datas ss ds ∧ B ∧ K ds := ⟨ds, h, hb, k⟩
theorem ite_tt {A B : Prop} (h : A) : if true = true then A else B := h
theorem ite_ff {A B : Prop} (h : B) : if false = true then A else B := h
theorem ite_nt {A B : Prop} (h : B) : if (!true) = true then A else B := h
theorem ite_nf {A B : Prop} (h : A) : if (!false) = true then A else B := h
theorem ite_t {k : Bool} {A B : Prop} (e : k = true) (h : A) : if k = true then A else B := by rw [if_pos e]; exact h
theorem ite_f {k : Bool} {A B : Prop} (e : k = false) (h : B) : if k = true then A else B := by rw [if_neg (by rw [e]; exact Bool.false_ne_true)]; exact h
theorem ite_d {p : Prop} [Decidable p] {A B : Prop} (h1 : p → A) (h2 : ¬ p → B) : if decide p = true then A else B := by
  by_cases h : p
  · rw [if_pos (decide_eq_true h)]; exact h1 h
  · rw [if_neg (fun z => h (of_decide_eq_true z))]; exact h2 h
theorem ite_nd {p : Prop} [Decidable p] {A B : Prop} (h1 : ¬ p → A) (h2 : p → B) : if (!decide p) = true then A else B := by
  by_cases h : p
  · rw [decide_eq_true h]; exact h2 h
  · rw [decide_eq_false h]; exact h1 h
theorem ite_b {k : Bool} {A B : Prop} (h1 : k = true → A) (h2 : k = false → B) : if k = true then A else B := by
  cases k with
  | true => exact h1 rfl
  | false => exact h2 rfl
theorem dx_weak {K' : Sl → List Mem → Prop} (h : DX c e ρ rs K) (hk : ∀ s r, K s r → K' s r) : DX c e ρ rs K' := fun σ H G Q a1 a2 a3 a4 => h σ H G Q a1 a2 a3 fun v H' G' sl rs' t r o k => a4 v H' G' sl rs' t r o (hk _ _ k)
theorem dt_weak {K' : Bool → List Mem → Prop} (h : DT c e ρ rs KB) (hk : ∀ s r, KB s r → K' s r) : DT c e ρ rs K' := fun σ H G Q a1 a2 a3 a4 => h σ H G Q a1 a2 a3 fun b H' G' rs' t o k => a4 b H' G' rs' t o (hk _ _ k)
theorem dss_cut {I : List Sl → List Mem → Prop} (h : DS c st ρ rs { P with nx := I }) (h2 : ∀ ρ' r', I ρ' r' → DSs c sts ρ' r' P) : DSs c (st :: sts) ρ rs P :=
  dss_cons (ds_weak h (fun ρ' r' k => h2 ρ' r' k) (fun _ _ k => k) (fun _ _ k => k) (fun _ _ k => k))
theorem ite_dt {p : Prop} [Decidable p] {A B : Prop} (h : p) (a : A) : if decide p = true then A else B := ite_t (decide_eq_true h) a
theorem ite_df {p : Prop} [Decidable p] {A B : Prop} (h : ¬ p) (a : B) : if decide p = true then A else B := ite_f (decide_eq_false h) a
theorem ite_ndt {p : Prop} [Decidable p] {A B : Prop} (h : ¬ p) (a : A) : if (!decide p) = true then A else B := ite_t (by rw [decide_eq_false h]; rfl) a
theorem ite_ndf {p : Prop} [Decidable p] {A B : Prop} (h : p) (a : B) : if (!decide p) = true then A else B := ite_f (by rw [decide_eq_true h]; rfl) a
theorem ite_nn {k : Bool} {A B : Prop} (h : if k = true then A else B) : if (!!k) = true then A else B := by rw [Bool.not_not]; exact h
theorem ce_inl {C : Cn} {ss : List Sl} {r1 : List Mem} (h : C ss [] (fun s r2 => K s (r2 ++ r1)) (fun D r2 => xp₀ D ρ (r2 ++ r1))) : CallEnd c C ss ρ r1 K := fun σ H G vs Q he hs hx hv hq =>
  ⟨ss, sepM r1, [], G, _, _, hv, sepM_app.mpr hs, h, fun v H' G' sl rs' t r o k => hq v H' G' sl _ t r (sepM_app.mp o) k, fun D H' G' rs' t o k => hx D σ H' G' ρ _ t (he.stp t) (sepM_app.mp o) k⟩
theorem ce_inr {C : Cn} {ss : List Sl} {r1 : List Mem} {A : Mem} {f : List Mem → List Mem} (p : Pick r1 A f) (h : C ss [A] (fun s r2 => K s (f r2)) (fun D r2 => xp₀ D ρ (f r2))) : CallEnd c C ss ρ r1 K := fun σ H G vs Q he hs hx hv hq =>
  ⟨ss, sepM (f []), [A], G, _, _, hv, sepM_app.mpr (p.split.mp hs), h, fun v H' G' sl rs' t r o k => hq v H' G' sl _ t r (p.put.mpr (sepM_app.mp o)) k, fun D H' G' rs' t o k => hx D σ H' G' ρ _ t (he.stp t) (p.put.mpr (sepM_app.mp o)) k⟩
theorem end_rt {fr : Mem} {res : Sl → List Mem → Prop} {s : Sl} (h : res s []) : (bodyPost fr res).rt s [fr] := fin [] ent_refl h
theorem end_rtT {fr : Mem} {res : Sl → List Mem → Prop} {b : Bool} (hb : b = true) (h : res (.d (.bool true)) []) : (bodyPost fr res).rt (.d (.bool b)) [fr] := fin [] ent_refl (by rw [hb]; exact h)
theorem cd_isiT {T : String} {s : Sl} {d : PyData} (hT : T ∈ ["int", "bool", "str", "list", "tuple"]) (h : s.plain = .d d) (hb : isD T d = true) (k : K (.d (.bool true)) rs) : CaD (rIsi KC.K) [s, .r (.ty T)] rs K := cd_isi hT h (by rw [hb]; exact k)
theorem cd_isiF {T : String} {s : Sl} {d : PyData} (hT : T ∈ ["int", "bool", "str", "list", "tuple"]) (h : s.plain = .d d) (hb : isD T d = false) (k : K (.d (.bool false)) rs) : CaD (rIsi KC.K) [s, .r (.ty T)] rs K := cd_isi hT h (by rw [hb]; exact k)
theorem end_nx {fr : Mem} {res : Sl → List Mem → Prop} (h : res (.d .none) []) : (bodyPost fr res).nx ρ [fr] := ⟨[], ent_refl, h⟩
theorem end_rt1 {fr A : Mem} {res : Sl → List Mem → Prop} {s : Sl} (h : res s [A]) : (bodyPost fr res).rt s [A, fr] := fin [A] ent_refl h
theorem end_nx1 {fr A : Mem} {res : Sl → List Mem → Prop} (h : res (.d .none) [A]) : (bodyPost fr res).nx ρ [A, fr] := ⟨[A], ent_refl, h⟩
/-- a thing that is needed no more -/
theorem dss_drop {A : Mem} {f : List Mem → List Mem} (pk : Pick rs A f) (h : DSs c sts ρ (f []) P) : DSs c sts ρ rs P := by
  intro σ H G D he hs hx hd
  obtain ⟨F1, G2, _, _, t, o⟩ := sepL.drop pk hs
  exact h σ H G2 D (he.stp t) o (hx.stp t) (hd.stp t)
theorem dx_drop (h : DX c e ρ rs fun s r => ∃ A f, Pick r A f ∧ (∀ ds, s ≠ .n ds) ∧ K s (f [])) : DX c e ρ rs K := by
  intro σ H G Q he hs hx hq
  refine h σ H G _ he hs hx fun v H1 G1 s1 r1 t1 h1 o1 ⟨A, f, pk, hn, k1⟩ => ?_
  obtain ⟨F1, G2, _, _, t, o⟩ := sepL.drop pk o1
  exact hq v H1 G2 s1 _ (t1.trans t) (Rs.of_ok (h1.ok.stp t) hn) o k1
/-- a name forgotten -/
theorem dss_le {ρ' : List Sl} (l : Le ρ ρ') (h : DSs c sts ρ' rs P) : DSs c sts ρ rs P := DSs.le l h
/-- a loop that leaves nothing behind -/
theorem for_un {x : Str} {j : Nat} {body : List Stmt} {α : Type} {xs : List α} {enc : α → Sl} {keep : List Mem → Prop} {ρ0 : List Sl} (h0 : Le ρ ρ0) (hk : keep rs) (hend : P.nx ρ0 rs)
    (turn : ∀ y ∈ xs, ∃ ρ2, SetS N₀ ρ0 x j (enc y) ρ2 ∧ DSs c body ρ2 rs ⟨fun ρ' r' => Le ρ' ρ0 ∧ r' = rs, P.rt, P.nx, fun ρ' r' => Le ρ' ρ0 ∧ r' = rs⟩) : ForD c x j body xs enc keep ρ rs P := by
  refine ⟨Unit, fun _ => ρ0, fun _ => rs, fun _ _ => True, ⟨(), trivial, h0, rfl⟩, fun _ _ _ => hk, fun pre y post _ e _ => ?_, fun _ _ => hend⟩
  obtain ⟨ρ2, hset, hb⟩ := turn y (by rw [e]; simp)
  exact ⟨ρ2, hset, dss_weak hb (fun _ _ k => ⟨(), trivial, k.1, k.2⟩) (fun _ _ k => k) (fun _ _ k => k) fun _ _ k => ⟨(), trivial, k.1, k.2⟩⟩
end
/-! ### lists cut -/
theorem cutL_map {α β : Type} (f : α → β) (xs : List α) (lo hi : Option Int) : cutL (xs.map f) lo hi = (cutL xs lo hi).map f := by
  unfold cutL
  rw [List.length_map, ← List.map_drop, ← List.map_take]
theorem cutL_len {α : Type} (xs : List α) (lo hi : Option Int) : (cutL xs lo hi).length ≤ xs.length := by
  unfold cutL
  rw [List.length_take, List.length_drop]
  omega
/-- [numbers] + xs[..] as what is walked -/
theorem walk_ints (ys ns : List Int) (lo hi : Option Int) : (ys.map PyData.int ++ cutL (ns.map PyData.int) lo hi).map Sl.d = (ys ++ cutL ns lo hi).map fun n => .d (.int n) := by
  rw [cutL_map, ← List.map_append, List.map_map]; rfl
theorem walk_eq (ys ns : List Int) (zs : List PyData) (h : zs = ys.map PyData.int) (lo hi : Option Int) : (zs ++ cutL (ns.map PyData.int) lo hi).map Sl.d = (ys ++ cutL ns lo hi).map fun n => .d (.int n) := by
  subst h; exact walk_ints ys ns lo hi
end PW

set_option maxHeartbeats 1000000
/-! Lists of one's own. -/
namespace PW
open PySem L2
variable [KC]
variable {m₀ : Mo} {N₀ : List Str} {sc₀ : Scope} {lv₀ : Nat} {xp₀ : Addr → List Sl → List Mem → Prop} {fF₀ cm₀ : Bool}
theorem own_new {G : Fp} {H : Hp} {rs : List Mem} {p : Addr} {vs : List V} {ss : List Sl} (hs : sepL rs G G H) (hp : H p = none) (al : SlAll G H vs ss) :
    Stp G (fun a => a = p ∨ G a) H (upd H p (.lst vs)) ∧ sepL (lstM p ss :: rs) (fun a => a = p ∨ G a) (fun a => a = p ∨ G a) (upd H p (.lst vs)) :=
  sepL.join hs (same_new hp) hp ⟨fun a => Iff.rfl, vs, upd_same, al.stp0 (fun a o q _ => same_new hp a o q) fun a g => g.elim (fun e => .inr (e ▸ hp)) .inl⟩
/-- what a list of one's own holds, and how it is changed -/
theorem lst_at {G : Fp} {H : Hp} {rs : List Mem} {p : Addr} {ss : List Sl} {f : List Mem → List Mem} (pk : Pick rs (lstM p ss) f) (hs : sepL rs G G H) :
    ∃ vs, H p = some (.lst vs) ∧ SlAll G H vs ss ∧ G p ∧ ∀ ws ss', SlAll G H ws ss' → Stp G G H (upd H p (.lst ws)) ∧ sepL (f [lstM p ss']) G G (upd H p (.lst ws)) := by
  obtain ⟨F1, F2, ⟨eF, vs, hp, al⟩, _, dj, eG⟩ := pk.split.mp hs
  have gp : G p := (eG p).mpr (.inl ((eF p).mpr rfl))
  refine ⟨vs, hp, al, gp, fun ws ss' aw => ?_⟩
  refine sepL.change (B := lstM p ss') pk hs fun F1 hA sub => ⟨fun a o q n => ?_, fun a o q => ?_, ?_⟩
  · obtain ⟨e1, _⟩ := hA
    rw [upd_ne fun z => n ((e1 a).mpr z)]; exact q
  · by_cases ea : a = p
    · subst ea; exact ⟨_, upd_same⟩
    · rw [upd_ne ea]; exact ⟨o, q⟩
  · obtain ⟨e1, _⟩ := hA
    refine ⟨e1, ws, upd_same, aw.stp0 (fun a o q n => ?_) fun a g => .inl g⟩
    rw [upd_ne (fun z => n (by rw [z]; exact gp))]; exact q
section
variable {c : Ctx m₀ N₀ sc₀ lv₀ xp₀ fF₀ cm₀} {e a b o : Expr} {es : List Expr} {ρ ρ' : List Sl} {rs : List Mem} {K : Sl → List Mem → Prop} {KB : Bool → List Mem → Prop} {KA : List Sl → List Mem → Prop} {P : Post} {x : Str} {pos pos' p2 apos cpos : Pos} {st : Stmt} {sts : List Stmt} {s1 s2 : Sl}
/-- [..], owned -/
theorem dx_lstO (h : DA c es ρ rs fun ss r => ss.length ≤ 100000 ∧ ∀ p, K (.r (.ref p)) (lstM p ss :: r)) : DX c (.List es pos) ρ rs K := by
  intro σ H G Q he hs hx hq
  refine tE_of (pe_lst pa_t) ?_
  refine h σ H G _ he hs hx fun vs H1 G1 ss r1 t1 h1 o1 k1 => ?_
  refine ⟨Nat.le_trans (Nat.le_trans (Nat.le_of_eq h1.length) k1.1) (by decide), fun p hp => ?_⟩
  obtain ⟨t2, o2⟩ := own_new o1 hp h1
  exact hq _ _ _ (.r (.ref p)) _ (t1.trans t2) rfl o2 (k1.2 p)
/-- what is owned is let go -/
theorem dx_frz (h : DX c e ρ rs fun s r => ∃ p ds f, s = .r (.ref p) ∧ Pick r (lstM p (ds.map .d)) f ∧ K (.d (.list ds)) (f [])) : DX c e ρ rs K := by
  intro σ H G Q he hs hx hq
  refine h σ H G _ he hs hx fun v H1 G1 s1 r1 t1 h1 o1 k1 => ?_
  obtain ⟨p, ds, f, rfl, pk, k1⟩ := k1
  have ev : v = .ref p := h1
  subst ev
  obtain ⟨F1, G2, ⟨eF, vs, hp, al⟩, dj, t2, o2⟩ := sepL.drop pk o1
  exact hq _ H1 G2 (.d (.list ds)) _ (t1.trans t2) (.lst (.inl ⟨.inl hp, fun g => dj p ((eF p).mpr rfl) g⟩) (al.stp t2).is) o2 k1
theorem od_ixo {i : Int} {p : Addr} {ss : List Sl} {f : List Mem → List Mem} {s : Sl} (pk : Pick rs (lstM p ss) f) (hi : atI ss i = some s) (hn : ∀ ds, s ≠ .n ds) (k : K s rs) : OpD (rIx KC.K) (.r (.ref p)) (.d (.int i)) rs K := fun G H x y Q hx hy hs hq => by
  have ex : x = .ref p := hx
  subst ex
  have ey := hy.int
  obtain ⟨vs, hp, al, _, _⟩ := lst_at pk hs
  have hv : ∃ v, atI vs i = some v ∧ SlOk G H v s := by
    unfold atI at hi ⊢
    rw [al.length]
    cases e : ixN ss.length i with
    | none => rw [e] at hi; cases hi
    | some j => rw [e] at hi; exact al.get hi
  obtain ⟨v, hv, hd⟩ := hv
  exact .inl ⟨p, vs, i, v, rfl, ey, .inl (.inl hp), hv, give0 hs hq (Rs.of_ok hd hn) k⟩
theorem ld_own {p : Addr} {ss : List Sl} {f : List Mem → List Mem} (pk : Pick rs (lstM p ss) f) (k : K (.d (.int ss.length)) rs) : LenD (.r (.ref p)) rs K := fun G H vs Q hv hs hq => by
  match vs, hv with
  | [v], hv =>
    have ev : v = .ref p := hv.1
    subst ev
    obtain ⟨ws, hp, al, _, _⟩ := lst_at pk hs
    exact ⟨.ref p, ss.length, rfl, .inl ⟨ws, .inl (.inl hp), al.length.symm⟩, give0 hs hq (sl := .d (.int ss.length)) (Is.int _) k⟩
theorem di_own {tg it : Expr} {KI : List Sl → (List Mem → Prop) → List Mem → Prop} (h : DX c it ρ rs fun s r => ∃ p ss f, s = .r (.ref p) ∧ Pick r (lstM p ss) f ∧ KI ss (fun r' => ∃ f', Pick r' (lstM p ss) f') r) : DI c tg it ρ rs KI := by
  intro σ H G R he hs hx hr
  refine tI_of (c.ck ▸ pi_list pe_t) ?_
  refine h σ H G _ he hs hx fun v H1 G1 s1 r1 t1 h1 o1 k1 => ?_
  obtain ⟨p, ss, f, rfl, pk, k1⟩ := k1
  have ev : v = .ref p := h1
  subst ev
  obtain ⟨vs, hp, al, _, _⟩ := lst_at pk o1
  refine ⟨p, rfl, ⟨vs, .inl (.inl hp)⟩, hr _ H1 G1 _ _ r1 t1 o1 (fun G2 H2 r2 t2 o2 kp i => ?_) k1⟩
  obtain ⟨f', pk'⟩ := kp
  obtain ⟨vs, hp, al, _, _⟩ := lst_at pk' o2
  have rd2 : SqL KC.K H2 p vs := .inl (.inl hp)
  constructor
  · intro hi
    have hi' : i < vs.length := by rw [al.length]; exact hi
    refine ⟨⟨vs, vs[i], rd2, by simp [hi']⟩, fun x H3 y => ?_⟩
    obtain ⟨e3, y⟩ := y
    have hxi := y vs rd2
    obtain ⟨s, hs⟩ : ∃ s, ss[i]? = some s := ⟨ss[i], by simp [hi]⟩
    obtain ⟨w, hw, hk⟩ := al.get hs
    rw [hxi] at hw
    cases hw
    exact ⟨e3, s, hs, hk⟩
  · intro hi
    exact ⟨vs, rd2, by rw [al.length]; exact hi⟩
/-- as data, looked at -/
def View (rs : List Mem) (s : Sl) (d : PyData) : Prop := ∀ (G : Fp) (H : Hp) (v : V), SlOk G H v s → sepL rs G G H → Dp KC.K H v d
theorem view_d {d : PyData} {s : Sl} (h : s.plain = .d d) : View rs s d := fun G H v q _ => (plain_d h q).dp
theorem view_own {p : Addr} {ds : List PyData} {f : List Mem → List Mem} (pk : Pick rs (lstM p (ds.map .d)) f) : View rs (.r (.ref p)) (.list ds) := fun G H v q hs => by
  have ev : v = .ref p := q
  subst ev
  obtain ⟨vs, hp, al, _, _⟩ := lst_at pk hs
  exact .lst (.inl (.inl hp)) (IsAll.dp al.is)
theorem od_eqv {d e : PyData} (h1 : View rs s1 d) (h2 : View rs s2 e) (a : SeqAt.shaped d = true) (b : SeqAt.shaped e = true) (k : K (.d (.bool (PyData.eqv d e))) rs) : OpD (uEq KC.K) s1 s2 rs K := fun G H x y Q hx hy hs hq =>
  .inr ⟨_, _, h1 G H x hx hs, h2 G H y hy hs, a, b, give0 hs hq (sl := .d (.bool (PyData.eqv d e))) (Is.bl _) k⟩
theorem od_nev {d e : PyData} (h1 : View rs s1 d) (h2 : View rs s2 e) (a : SeqAt.shaped d = true) (b : SeqAt.shaped e = true) (k : K (.d (.bool (!PyData.eqv d e))) rs) : OpD (uNe KC.K) s1 s2 rs K := fun G H x y Q hx hy hs hq =>
  .inr ⟨_, _, h1 G H x hx hs, h2 G H y hy hs, a, b, give0 hs hq (sl := .d (.bool (!PyData.eqv d e))) (Is.bl _) k⟩
theorem tr_own {p : Addr} {ss : List Sl} {f : List Mem → List Mem} (pk : Pick rs (lstM p ss) f) (h : KB (!ss.isEmpty) rs) : TrD (.r (.ref p)) rs KB := fun G H x hx hs => by
  have ev : x = .ref p := hx
  subst ev
  obtain ⟨vs, hp, al, _, _⟩ := lst_at pk hs
  refine ⟨_, .inl ⟨_, .inl (.inl hp), ?_⟩, h⟩
  have := al.length
  cases vs <;> cases ss <;> first | rfl | simp at this
/-- a method's call as the text has it -/
structure MeOk (X : Cx) (o : Expr) (m : Str) (e : Expr) (es : List Expr) (apos cpos : Pos) : Prop where
  hs : starEach (e :: es) X.env = (false, eval e X.env) :: starEach es X.env
  hb : attributeBase o m X.env (eval o X.env) = eval o X.env
  hl : (apos.endLine == cpos.line) = true
  hf : ((((backTo cpos (starEach (e :: es) X.env)).all fun x => !x.fst) && (backToKw cpos (keywordEach [] X.env)).all fun x => x.fst.isSome) && decide (((e :: es).length + ([] : List Keyword).length + if ([] : List Keyword).isEmpty = true then 0 else 1) < 30)) = true
/-- x.append(e) -/
theorem dx_append (h : DX c o ρ rs fun s r => ∃ p ss f, s = .r (.ref p) ∧ Pick r (lstM p ss) f ∧ DA c [a] ρ r fun ts r2 => ∃ t ss2 f2, ts = [t] ∧ Pick r2 (lstM p ss2) f2 ∧ ss2.length < 100000 ∧ K (.d .none) (f2 [lstM p (ss2 ++ [t])]))
    (hm : MeOk c.X o "append" a [] apos cpos := by exact ⟨rfl, rfl, rfl, rfl⟩) : DX c (.Call (.Attribute o "append" apos) [a] [] cpos) ρ rs K := by
  intro σ H G Q he hs hx hq
  refine tE_of (pe_bm PySem.F.plainAttrs_list PySem.F.slot_list_append PySem.F.type_list_append mt_append pe_t pa_t (hs := hm.hs) (hbase := hm.hb) (hline := hm.hl) (hfew := hm.hf)) ?_
  refine h σ H G _ he hs hx fun v H1 G1 s1 r1 t1 h1 o1 k1 => ?_
  obtain ⟨p, ss, f, rfl, pk, k1⟩ := k1
  have ev : v = .ref p := h1
  subst ev
  obtain ⟨vs, hp, al, _, _⟩ := lst_at pk o1
  refine ⟨?_, ?_⟩
  · exact .inl ⟨rfl, vs, .inl (.inl hp)⟩
  refine k1 σ H1 G1 _ (he.stp t1) o1 (hx.stp t1) fun us H2 G2 ts r2 t2 h2 o2 k2 => ?_
  obtain ⟨t, ss2, f2, rfl, pk2, hl, k2⟩ := k2
  match us, h2 with
  | [y], h2 =>
    obtain ⟨vs2, hp2, al2, _, ch⟩ := lst_at pk2 o2
    obtain ⟨t3, o3⟩ := ch (vs2 ++ [y]) (ss2 ++ [t]) (al2.append h2)
    exact ⟨p, vs2, y, rfl, rfl, hp2, by rw [al2.length]; exact Nat.lt_of_lt_of_le hl (by decide), hq .non _ G2 (.d .none) _ ((t1.trans t2).trans t3) Is.non o3 k2⟩
/-- x[i] = e -/
theorem ds_seti {i : Expr} (h : DX c e ρ rs fun s r => DX c o ρ r fun s1 r1 => DX c i ρ r1 fun s2 r2 => ∃ p ss f k j, s1 = .r (.ref p) ∧ s2 = .d (.int k) ∧ Pick r2 (lstM p ss) f ∧ ixN ss.length k = some j ∧ P.nx ρ (f [lstM p (ss.set j s.plain)])) (hw : swapsWith e (some (.Subscript o i pos')) pos.line c.X.env = pure false := by rfl)
    (ha : ∀ v, assign (.Subscript o i pos') c.X.env v = (do let ov ← holding [v] (eval o c.X.env); let iv ← holding [v, ov] (eval i c.X.env); standAt pos'; holding [v, ov, iv] (setItem ov iv v); release [v, ov, iv] []) := by intro _; rfl) :
    DS c (.Assign [.Subscript o i pos'] e pos) ρ rs P := by
  intro σ H G D he hs hx hd
  refine tS_of (ps_asg pe_t (pg_sub pe_t pe_t set_list ha) hw rfl) ?_
  refine h σ H G _ he hs hx fun v H1 G1 s r1 t1 h1 o1 k1 => ?_
  refine k1 σ H1 G1 _ (he.stp t1) o1 (hx.stp t1) fun v2 H2 G2 s1 r2 t2 h2 o2 k2 => ?_
  refine k2 σ H2 G2 _ ((he.stp t1).stp t2) o2 ((hx.stp t1).stp t2) fun v3 H3 G3 s2 r3 t3 h3 o3 k3 => ?_
  obtain ⟨p, ss, f, k, j, rfl, rfl, pk, hj, k3⟩ := k3
  have e2 : v2 = .ref p := h2
  obtain ⟨vs, hp, al, _, ch⟩ := lst_at pk o3
  obtain ⟨t4, o4⟩ := ch (vs.set j v) (ss.set j s.plain) (al.set ((h1.ok.plain.stp t2).stp t3) j)
  exact ⟨p, vs, k, j, e2, h3.ok.int, hp, by rw [al.length]; exact hj, hd.nx σ _ G3 ρ _ (((t1.trans t2).trans t3).trans t4) ((((he.stp t1).stp t2).stp t3).stp t4) o4 k3⟩
theorem ex_own {p : Addr} {ss : List Sl} {f : List Mem → List Mem} {K : Addr → List Sl → (List Mem → List Mem) → Prop} (pk : Pick rs (lstM p ss) f) (k : K p ss f) : ∃ p' ss' f', Sl.r (.ref p) = .r (.ref p') ∧ Pick rs (lstM p' ss') f' ∧ K p' ss' f' := ⟨p, ss, f, rfl, pk, k⟩
theorem ex_app {p : Addr} {s : Sl} {ss : List Sl} {f : List Mem → List Mem} {B : List Sl → Prop} {K : Sl → List Sl → (List Mem → List Mem) → Prop} (pk : Pick rs (lstM p ss) f) (hb : B ss) (k : K s ss f) : ∃ t ss' f', [s] = [t] ∧ Pick rs (lstM p ss') f' ∧ B ss' ∧ K t ss' f' := ⟨s, ss, f, rfl, pk, hb, k⟩
theorem ex_frz {p : Addr} {ds : List PyData} {f : List Mem → List Mem} {K : List PyData → (List Mem → List Mem) → Prop} (pk : Pick rs (lstM p (ds.map .d)) f) (k : K ds f) : ∃ p' ds' f', Sl.r (.ref p) = .r (.ref p') ∧ Pick rs (lstM p' (ds'.map .d)) f' ∧ K ds' f' := ⟨p, ds, f, rfl, pk, k⟩
end
theorem atI_map {α β : Type} (g : α → β) (xs : List α) (i : Int) : atI (xs.map g) i = (atI xs i).map g := by
  unfold atI
  rw [List.length_map]
  cases ixN xs.length i with
  | none => rfl
  | some j => simp
theorem atI_in {α : Type} {xs : List α} {i : Int} (h : 0 ≤ i ∧ i < xs.length) : ∃ v, atI xs i = some v ∧ xs[i.toNat]? = some v := by
  have hj : i.toNat < xs.length := by omega
  refine ⟨xs[i.toNat], ?_, by simp [hj]⟩
  unfold atI ixN
  rw [if_pos h.1, if_pos h.2]
  simp [hj]
theorem atI_ints {xs : List Int} {i : Int} (h : 0 ≤ i ∧ i < xs.length) : ∃ v, atI (xs.map PyData.int) i = some (.int v) ∧ xs[i.toNat]? = some v := by
  obtain ⟨v, h1, h2⟩ := atI_in h
  exact ⟨v, by rw [atI_map, h1]; rfl, h2⟩
end PW

set_option maxHeartbeats 1000000
/-! Refusals: own errors raised, caught, asked for their class. -/
namespace PW
open PySem L2 PySem.W
/-- isinstance of a caught error and a tuple of classes -/
def rIsET (K : Frag) (D a : Addr) : List V → Hp → VK → Prop := fun xs H Q => ∃ (tp : Addr) (Cs : List Addr) (b : Bool), xs = [.ref a, .ref tp] ∧ H tp = some (.tup (Cs.map V.ref)) ∧ kitAny K (.ref D) (Cs.map Value.ref) = some b ∧ Q (.bl b) H
theorem vals_refs : ∀ {Cs : List Addr} {its : List Value}, Vals (Cs.map V.ref) its → its = Cs.map Value.ref := by
  intro Cs
  induction Cs with
  | nil => intro its h; cases h; rfl
  | cons C Cs ih =>
    intro its h
    cases h with
    | cons r t =>
      rw [ih t]
      have r : _ = Value.ref C := r
      rw [r]; rfl
theorem call_isET {X : Cx} {a D : Addr} {oe : Obj} {pn : List (Addr × Obj)} (C : ExcC X.K D) (hc : (clsIn X.K D).isSome = true) (hz : Zc (.ref D) none oe) (hf : ∃ vs, oe.data = .fields vs) : CallR (X.suite a ((a, oe) :: pn)) (.builtin "isinstance") (rIsET X.K D a) := by
  intro pins s σ H xs us Q I rx h
  obtain ⟨tp, Cs, b, rfl, hH, hk, q⟩ := h
  obtain ⟨its, hv, ht, _⟩ := I.tuple (a := tp) (.inl (.inl hH))
  have e := vals_refs hv
  subst e
  cases rx with
  | cons r1 t1 =>
    cases t1 with
    | cons r2 t2 =>
      cases t2
      have r1 : _ = Value.ref a := r1
      have r2 : _ = Value.ref tp := r2
      subst r1 r2
      have hp := (I.pin (a, oe) (by simp)).1
      have kx : KitX X.K (.ref a) (.ref D) fun h => InstAt h a oe D none := kitx_exc hc C.hg C.hk C.hs C.ha C.hn C.ht C.hm
      obtain ⟨⟨cls, dd, da, sl⟩, ho, hcls, n, hd⟩ := ht
      dsimp only at hcls hd
      subst hcls hd
      have ia : InstAt s.heap a oe D none := by
        obtain ⟨vs, hvs⟩ := hf
        refine ⟨hp, hz.1, ?_, ?_⟩
        · unfold notCls; rw [hvs]
        · rw [hz.2]; trivial
      exact kia_tup kx I.kIn ia ho hk (fun z => nomatch z) fun tk => ⟨.bl b, H, I.tok tk, rfl, q⟩
/-! ### the classes of a text -/
structure Xc (m : Mo) (x : Str) (D : Addr) : Prop where
  q : excIn m.K D [.type "ValueError", .type "Exception", .type "BaseException", .type "object"] "ValueError.__new__" = true
  kp : keepIn m.K (.ref D) = true
  ty : typeIn m.K (.ref D) = some (.type "type")
  cl : (clsIn m.K D).isSome = true
  ec : ExcC m.K D
/-- rs: the classes that are raised; ts: those that are asked for -/
structure Errs (m : Mo) (E : Str → Addr) (rs ts : List Str) : Prop where
  xc : ∀ x ∈ rs, Xc m x (E x)
  nm : ∀ y ∈ ts, m.mg y = some (.ref (E y))
  kit : ∀ x ∈ rs, ∀ y ∈ ts, kitOne m.K (.ref (E x)) (.ref (E y)) = some (decide (x = y) || decide (y = ("PaneError" : Str)))
  kitV : ∀ x ∈ rs, kitOne m.K (.ref (E x)) (.type "ValueError") = some true
  ex : ∀ x ∈ rs, exmOne m.K (.ref (E x)) (.ref (E "PaneError")) = some true
variable [KC]
variable {m₀ : Mo} {N₀ : List Str} {sc₀ : Scope} {lv₀ : Nat} {xp₀ : Addr → List Sl → List Mem → Prop} {fF₀ cm₀ : Bool}
/-- a suite's context: the error at a, of the class at D -/
structure ExcAt (c : Ctx m₀ N₀ sc₀ lv₀ xp₀ fF₀ cm₀) (a D : Addr) : Prop where
  one : CallR c.X (.builtin "isinstance") (rIsE m₀.K D a)
  many : CallR c.X (.builtin "isinstance") (rIsET m₀.K D a)
section
variable {c : Ctx m₀ N₀ sc₀ lv₀ xp₀ fF₀ cm₀} {e a b o : Expr} {es : List Expr} {ρ ρ' : List Sl} {rs : List Mem} {K : Sl → List Mem → Prop} {P : Post} {x y : Str} {pos pos' p2 p3 np : Pos} {E : Str → Addr} {ra ts : List Str} {D q : Addr}
theorem ds_raise {z : Str} {j : Nat} (er : Errs m₀ E ra ts) (hx : x ∈ ra) (ht : x ∈ ts) (k : xp₀ (E x) ρ rs) (hg : KdIn sc₀.names x .globalImplicit := by first | ((with_reducible (repeat (first | exact KdIn.zero | apply KdIn.succ))); (first | (all_goals fail) | fail)) | exact kd_of rfl) (hcm : cm₀ = true := by rfl) :
    DS c (.Raise (some (.Call (.Name x p2) [.Constant (.str z) j p3] [] pos)) none pos') ρ rs P := by
  intro σ H G D he hs hX hd'
  have xc := er.xc x hx
  have eK := c.hm.K
  refine tS_of (ps_raise (c.calm hcm) c.tk (pmk_own PySem.F.excBase_ValueError (by rw [eK]; exact xc.q) (by rw [c.hm.mg]; exact er.nm x ht) (by rw [eK]; exact xc.kp) (raises_own (by rw [eK]; exact xc.ec.hs) (by rw [eK]; exact xc.ty)) (c_gl hg) (c.nd1 hg))) ?_
  exact hX (E x) σ H G ρ rs (Stp.refl _ _) he hs k
/-- the name of a class, not called -/
theorem dx_gcls (er : Errs m₀ E ra ts) (hy : y ∈ ts) (k : K (.r (.ref (E y))) rs) (hg : KdIn sc₀.names y .globalImplicit := by first | ((with_reducible (repeat (first | exact KdIn.zero | apply KdIn.succ))); (first | (all_goals fail) | fail)) | exact kd_of rfl) : DX c (.Name y pos) ρ rs K := by
  intro σ H G Q hE hs hx hq
  refine tE_of (pe_glob (v := .ref (E y)) (c_gl hg) (by rw [c.hm.mg]; exact er.nm y hy) rfl (c.nd1 hg)) ?_
  exact hq (.ref (E y)) H G (.r (.ref (E y))) rs (Stp.refl _ _) rfl hs k
theorem dx_tVE (hm : m₀.mg "ValueError" = none) (k : K (.r (.ty "ValueError")) rs) (hg : KdIn sc₀.names ("ValueError" : Str) .globalImplicit := by first | ((with_reducible (repeat (first | exact KdIn.zero | apply KdIn.succ))); (first | (all_goals fail) | fail)) | exact kd_of rfl) : DX c (.Name "ValueError" pos) ρ rs K := dx_ty hm b_VE k hg
theorem dx_isE (A : ExcAt c q D) (h : DA c [a, b] ρ rs fun ss r1 => CaD (rIsE m₀.K D q) ss r1 K) (hg : KdIn sc₀.names ("isinstance" : Str) .globalImplicit := by first | ((with_reducible (repeat (first | exact KdIn.zero | apply KdIn.succ))); (first | (all_goals fail) | fail)) | exact kd_of rfl) (he : starEach (a :: [b]) c.X.env = (false, eval a c.X.env) :: starEach [b] c.X.env := by rfl)
    (hpl : (backTo pos (starEach [b] c.X.env)).any (·.1) = false := by rfl) : DX c (.Call (.Name "isinstance" p2) [a, b] [] pos) ρ rs K := dx_callB A.one c.bl.isinstance b_isi h hg (he := he) (hpl := hpl)
theorem cd_isE1 {r : Bool} (er : Errs m₀ E ra ts) (hx : x ∈ ra) (hy : y ∈ ts) (hb : (decide (x = y) || decide (y = ("PaneError" : Str))) = r) (k : K (.d (.bool r)) rs) : CaD (rIsE m₀.K (E x) q) [.r (.ref q), .r (.ref (E y))] rs K := fun G H vs Q hv hs hq => by
  match vs, hv with
  | [v, w], hv =>
    have ev : v = .ref q := hv.1
    have ew : w = .ref (E y) := hv.2.1
    subst ev ew
    exact ⟨.ref (E y), .ref (E y), r, rfl, fun u z => z, by rw [← hb]; exact er.kit x hx y hy, give0 hs hq (sl := .d (.bool r)) (Is.bl r) k⟩
theorem cd_isEV (er : Errs m₀ E ra ts) (hx : x ∈ ra) (k : K (.d (.bool true)) rs) : CaD (rIsE m₀.K (E x) q) [.r (.ref q), .r (.ty "ValueError")] rs K := fun G H vs Q hv hs hq => by
  match vs, hv with
  | [v, w], hv =>
    have ev : v = .ref q := hv.1
    have ew : w = .ty "ValueError" := hv.2.1
    subst ev ew
    exact ⟨.ty "ValueError", .type "ValueError", true, rfl, fun u z => z, er.kitV x hx, give0 hs hq (sl := .d (.bool true)) (Is.bl true) k⟩
inductive RefsE (E : Str → Addr) : List Sl → List Str → Prop
  | nil : RefsE E [] []
  | cons {y ss ys} : RefsE E ss ys → RefsE E (.r (.ref (E y)) :: ss) (y :: ys)
theorem RefsE.vs {G : Fp} {H : Hp} : ∀ {ss : List Sl} {ys : List Str} {vs : List V}, RefsE E ss ys → SlAll G H vs ss → vs = (ys.map E).map V.ref
  | _, _, [], .nil, _ => rfl
  | _, _, v :: vs, .cons t, ⟨h, q⟩ => by
    have h : v = _ := h
    rw [h, t.vs q]; rfl
  | _, _, _ :: _, .nil, h => h.elim
  | _, _, [], .cons _, h => h.elim
theorem kitAny_er (er : Errs m₀ E ra ts) (hx : x ∈ ra) : ∀ {ys : List Str}, (∀ y ∈ ys, y ∈ ts) → kitAny m₀.K (.ref (E x)) ((ys.map E).map Value.ref) = some (ys.any fun y => decide (x = y) || decide (y = ("PaneError" : Str)))
  | [], _ => rfl
  | y :: ys, h => by
    have ih := kitAny_er er hx (ys := ys) fun z hz => h z (List.mem_cons_of_mem _ hz)
    have k := er.kit x hx y (h y List.mem_cons_self)
    rw [List.map_cons, List.map_cons]
    show (match kitOne m₀.K (.ref (E x)) (.ref (E y)) with | some true => some true | some false => kitAny m₀.K (.ref (E x)) ((ys.map E).map Value.ref) | none => none) = _
    rw [k, List.any_cons]
    cases (decide (x = y) || decide (y = ("PaneError" : Str))) with
    | true => rfl
    | false => rw [ih]; rfl
theorem dx_isET {kk} (er : Errs m₀ E ra ts) (A : ExcAt c q (E x)) (hx : x ∈ ra) (h : DX c a ρ rs fun s r => s = .r (.ref q) ∧ DA c es ρ r fun ss r2 => ∃ ys, RefsE E ss ys ∧ ∃ w, ((ys.all fun y => decide (y ∈ ts)) && decide (ys.length ≤ 100) && ((ys.any fun y => decide (x = y) || decide (y = ("PaneError" : Str))) == w)) = true ∧ K (.d (.bool w)) r2)
    (hg : KdIn sc₀.names ("isinstance" : Str) .globalImplicit := by first | ((with_reducible (repeat (first | exact KdIn.zero | apply KdIn.succ))); (first | (all_goals fail) | fail)) | exact kd_of rfl) (he : starEach (a :: [.Tuple es kk p3]) c.X.env = (false, eval a c.X.env) :: starEach [.Tuple es kk p3] c.X.env := by rfl) (he2 : starEach (.Tuple es kk p3 :: []) c.X.env = (false, eval (.Tuple es kk p3) c.X.env) :: starEach [] c.X.env := by rfl)
    (hpl : (backTo pos (starEach [.Tuple es kk p3] c.X.env)).any (·.1) = false := by rfl) : DX c (.Call (.Name "isinstance" p2) [a, .Tuple es kk p3] [] pos) ρ rs K := by
  intro σ H G Q hE hs hX hq
  refine tE_of (pe_callB A.many (c_gl hg) (by rw [c.hm.mg]; exact c.bl.isinstance) b_isi (pa_cons pe_t (pa_cons (pe_tup pa_t) pa_nil he2) he) (c.nd3 hg) (c.nd1 hg) he hpl) ?_
  refine h σ H G _ hE hs hX fun v H1 G1 s1 r1 t1 h1 o1 k1 => ?_
  obtain ⟨rfl, k1⟩ := k1
  have ev : v = .ref q := h1
  subst ev
  refine k1 σ H1 G1 _ (hE.stp t1) o1 (hX.stp t1) fun vs H2 G2 ss r2 t2 h2 o2 k2 => ?_
  obtain ⟨ys, hr, w, hw, k2⟩ := k2
  simp only [Bool.and_eq_true, List.all_eq_true, decide_eq_true_eq, beq_iff_eq] at hw
  have evs := hr.vs h2
  subst evs
  refine ⟨Nat.le_trans (by rw [List.length_map, List.length_map]; exact hw.1.2) (by decide), fun p hp => ?_⟩
  have t3 : Stp G2 G2 H2 (upd H2 p (.tup ((ys.map E).map V.ref))) := stp_new hp
  refine ⟨p, ys.map E, w, rfl, upd_same, ?_, ?_⟩
  · rw [← hw.2]; exact kitAny_er er hx hw.1.1
  · exact hq (.bl w) _ G2 (.d (.bool w)) r2 ((t1.trans t2).trans t3) (Is.bl w) (sepL.step t3.sub o2 fun a o q _ => same_new hp a o q) k2
/-! ### try -/
def Ctx.tr (c : Ctx m₀ N₀ sc₀ lv₀ xp₀ fF₀ cm₀) (pn : List (Addr × Obj)) (xe : Value → Shared → Prop) (W : WX) (xp : Addr → List Sl → List Mem → Prop) (tk : Takes (c.X.tr pn xe) W) (po : PassesOwn (model c.X.prog c.X.w) c.X.A c.X.env xe) : Ctx m₀ N₀ sc₀ lv₀ xp fF₀ cm₀ where
  X := c.X.tr pn xe
  W := W
  hm := ⟨c.hm.P, c.hm.w, c.hm.K, c.hm.mg, c.hm.base⟩
  hK := c.hK
  bl := c.bl
  hN := c.hN
  nd := c.nd
  hsc := c.hsc
  sok := c.sok
  calm := c.calm
  room := c.room
  un := c.un
  fs := c.fs
  tk := tk
  fn := c.fn
  po := po
def Ctx.suite (c : Ctx m₀ N₀ sc₀ lv₀ xp₀ fF₀ cm₀) (a : Addr) (pn : List (Addr × Obj)) : Ctx m₀ N₀ sc₀ lv₀ (fun _ _ _ => False) fF₀ false where
  X := c.X.suite a pn
  W := fun _ _ _ _ => False
  hm := ⟨c.hm.P, c.hm.w, c.hm.K, c.hm.mg, c.hm.base⟩
  hK := c.hK
  bl := c.bl
  hN := c.hN
  nd := c.nd
  hsc := c.hsc
  sok := c.sok
  calm := fun z => absurd z Bool.false_ne_true
  room := fun z => absurd z Bool.false_ne_true
  un := c.un
  fs := c.fs
  tk := takes0
  fn := c.fn
  po := PassesOwn.never
/-- what a caught error asks: D, the slots, the things as they stand -/
def CatchD (m₀ : Mo) (N₀ : List Str) (sc₀ : Scope) (lv₀ : Nat) (fF₀ : Bool) (E : Str → Addr) (ra : List Str) (n : Str) (suite : List Stmt) (P : Post) (D : Addr) (ρ : List Sl) (rs : List Mem) : Prop :=
  ∃ x ∈ ra, D = E x ∧ ∀ (a : Addr) (c' : Ctx m₀ N₀ sc₀ lv₀ (fun _ _ _ => False) fF₀ false), ExcAt c' a (E x) → ∃ i ρ2, SetS N₀ ρ n i (.r (.ref a)) ρ2 ∧
    DSs c' suite ρ2 rs ⟨fun ρ3 r3 => ∃ ρ4, SetS N₀ ρ3 n i .un ρ4 ∧ P.nx ρ4 r3, P.rt, fun ρ3 r3 => ∃ ρ4, SetS N₀ ρ3 n i .un ρ4 ∧ P.bk ρ4 r3, fun ρ3 r3 => ∃ ρ4, SetS N₀ ρ3 n i .un ρ4 ∧ P.ct ρ4 r3⟩
theorem xok0 {c : Ctx m₀ N₀ sc₀ lv₀ (fun _ _ _ => False) fF₀ cm₀} {G : Fp} {H : Hp} : XOk c G H := fun _ _ _ _ _ _ _ _ _ z => z.elim
theorem ds_try {body suite : List Stmt} {b₀ : Stmt} {n : Str} {i : Nat} (er : Errs m₀ E ra ts) (hp : ("PaneError" : Str) ∈ ts) (hi : IxOf N₀ n i)
    (body_ : ∀ c' : Ctx m₀ N₀ sc₀ lv₀ (CatchD m₀ N₀ sc₀ lv₀ fF₀ E ra n (b₀ :: suite) P) fF₀ cm₀, DSs c' body ρ rs P)
    (hF : fF₀ = true := by rfl) (hg : KdIn sc₀.names ("PaneError" : Str) .globalImplicit := by first | ((with_reducible (repeat (first | exact KdIn.zero | apply KdIn.succ))); (first | (all_goals fail) | fail)) | exact kd_of rfl) (hn : sc₀.names.lookup n = some .local := by rfl) :
    DS c (.Try body [.ExceptHandler (some (.Name "PaneError" np)) (some n) (b₀ :: suite) pos'] [] [] pos) ρ rs P := by
  intro σ H G D he hs hX hd
  have eK := c.hm.K
  have hcz : ∀ (x : Str), x ∈ ra → ∀ (a : Addr) (oe : Obj) (pn : List (Addr × Obj)), Zc (.ref (E x)) none oe → (∃ vs, oe.data = .fields vs) → ExcAt (c.suite a ((a, oe) :: pn)) a (E x) := fun x hx a oe pn hz hf =>
    ⟨eK ▸ call_isE (X := c.X) (eK.symm ▸ (er.xc x hx).ec) hz hf, eK ▸ call_isET (X := c.X) (eK.symm ▸ (er.xc x hx).ec) (eK.symm ▸ (er.xc x hx).cl) hz hf⟩
  refine tS_of (ps_try_as (i := i) (c := .ref (E "PaneError")) (tb := fun W D σ H => ∀ pn xe, Takes (c.X.tr pn xe) W → PassesOwn (model c.X.prog c.X.w) c.X.A c.X.env xe → tSs (c.X.tr pn xe) body D σ H)
    (ts := fun a cls d D σ H => ∀ oe pn, Zc cls d oe → (∃ vs, oe.data = .fields vs) → tSs (c.X.suite a ((a, oe) :: pn)) (b₀ :: suite) D σ H) (Wout := fun _ _ _ _ => False)
    (c.fs hF).1 (c.fs hF).2 (by rw [c.hN]; exact c.nd) (by rw [c.hN]; exact hi.get) (by show c.X.env.kindOf n = _; unfold Env.kindOf; rw [c.hsc]; exact hn) ⟨c_gl hg, c.nd1 hg, .inl (by rw [c.hm.mg]; exact er.nm _ hp)⟩ takes0
    (fun W pn xe tk po => ⟨fun pins s _ _ _ I h => h pn xe tk po pins s I⟩) (fun a oe cls d pn hz hf => ⟨fun pins s _ _ _ I h => h oe pn hz hf pins s I⟩)) ?_
  intro pn xe tk po
  refine body_ (c.tr pn xe _ _ tk po) σ H G D he hs (fun C σ' H' G' ρ' rs' t e o k => ?_) hd
  obtain ⟨x, hx, rfl, k⟩ := k
  refine ⟨true, eK ▸ er.ex x hx, fun _ a ha => ?_, fun z => Bool.noConfusion z⟩
  intro oe pn' hz hf
  obtain ⟨j, ρ2, hset, k⟩ := k a (c.suite a ((a, oe) :: pn')) (hcz x hx a oe pn' hz hf)
  have ej : j = i := set_ix hset hi c.nd
  subst ej
  have hd2 := hd.stp t
  refine k _ H' G' _ (hset.env (show SlOk G' H' (.ref a) (.r (.ref a)) from rfl) e) o xok0 ⟨fun σ3 H3 G3 ρ3 r3 t3 e3 o3 ⟨ρ4, hu, k3⟩ => hd2.nx _ H3 G3 ρ4 r3 t3 (set_un hu e3) o3 k3, hd2.rt, fun σ3 H3 G3 ρ3 r3 t3 e3 o3 ⟨ρ4, hu, k3⟩ => hd2.bk _ H3 G3 ρ4 r3 t3 (set_un hu e3) o3 k3, fun σ3 H3 G3 ρ3 r3 t3 e3 o3 ⟨ρ4, hu, k3⟩ => hd2.ct _ H3 G3 ρ4 r3 t3 (set_un hu e3) o3 k3⟩
end
end PW

set_option maxHeartbeats 1000000
/-! More glue: refusals, powers, texts. -/
namespace PW
open PySem L2
variable [KC]
variable {m₀ : Mo} {N₀ : List Str} {sc₀ : Scope} {lv₀ : Nat} {xp₀ : Addr → List Sl → List Mem → Prop} {fF₀ cm₀ : Bool}
section
variable {c : Ctx m₀ N₀ sc₀ lv₀ xp₀ fF₀ cm₀} {e a b o : Expr} {es : List Expr} {ρ ρ' : List Sl} {rs : List Mem} {K : Sl → List Mem → Prop} {KB : Bool → List Mem → Prop} {P : Post} {x y : Str} {pos pos' p2 p3 np apos cpos : Pos} {E : Str → Addr} {ra ts : List Str} {D q : Addr} {st : Stmt} {sts : List Stmt}
theorem end_ex {fr : Mem} {exc : Addr → List Mem → Prop} (h : exc D []) : ∃ rs', Ent [fr] (rs' ++ [fr]) ∧ exc D rs' := ⟨[], ent_refl, h⟩
theorem end_ex1 {fr A : Mem} {exc : Addr → List Mem → Prop} (h : exc D [A]) : ∃ rs', Ent [A, fr] (rs' ++ [fr]) ∧ exc D rs' := ⟨[A], ent_refl, h⟩
theorem catch_of {n : Str} {suite : List Stmt} (hx : x ∈ ra) (h : ∀ (a : Addr) (c' : Ctx m₀ N₀ sc₀ lv₀ (fun _ _ _ => False) fF₀ false), ExcAt c' a (E x) → ∃ i ρ2, SetS N₀ ρ n i (.r (.ref a)) ρ2 ∧
    DSs c' suite ρ2 rs ⟨fun ρ3 r3 => ∃ ρ4, SetS N₀ ρ3 n i .un ρ4 ∧ P.nx ρ4 r3, P.rt, fun ρ3 r3 => ∃ ρ4, SetS N₀ ρ3 n i .un ρ4 ∧ P.bk ρ4 r3, fun ρ3 r3 => ∃ ρ4, SetS N₀ ρ3 n i .un ρ4 ∧ P.ct ρ4 r3⟩) : CatchD m₀ N₀ sc₀ lv₀ fF₀ E ra n suite P (E x) ρ rs := ⟨x, hx, rfl, h⟩
theorem ex_refs {ss : List Sl} {ys : List Str} {w : Bool} {B : List Str → Bool → Prop} {K : Bool → Prop} (h : RefsE E ss ys) (hb : B ys w) (k : K w) : ∃ ys, RefsE E ss ys ∧ ∃ w, B ys w ∧ K w := ⟨ys, h, w, hb, k⟩
theorem ex_eqr {u : V} {B : Prop} (h : B) : Sl.r u = .r u ∧ B := ⟨rfl, h⟩
/-- any item -/
theorem od_ixA {s1 : Sl} {ds : List PyData} {i : Int} (h : s1.asSeq = some ds) (hi : 0 ≤ i ∧ i < ds.length) (k : ∀ d, d ∈ ds → K (.d d) rs) : OpD (rIx KC.K) s1 (.d (.int i)) rs K := by
  obtain ⟨d, h1, h2⟩ := atI_in hi
  exact od_ixs h h1 (k d (List.mem_of_getElem? h2))
theorem ds_doc {z : Str} {j : Nat} (h : P.nx ρ rs) : DS c (.Expr (.Constant (.str z) j pos) pos') ρ rs P := fun σ H G D hE hs hx hd => tS_of ps_doc (hd.nx σ H G ρ rs (Stp.refl _ _) hE hs h)
theorem cpow10 {n : Int} (h : 0 ≤ n ∧ n ≤ 1000 := by decide) : CPow 10 n := ⟨h.1, by omega, by decide⟩
theorem od_p3 (k : K (.d (.int 1000)) rs) : OpD (rI CPow fun i j => .int (i ^ j.toNat)) (.d (.int 10)) (.d (.int 3)) rs K := od_pow cpow10 (by rw [show (10 : Int) ^ (3 : Int).toNat = 1000 from by decide +kernel]; exact k)
theorem od_p6 (k : K (.d (.int 1000000)) rs) : OpD (rI CPow fun i j => .int (i ^ j.toNat)) (.d (.int 10)) (.d (.int 6)) rs K := od_pow cpow10 (by rw [show (10 : Int) ^ (6 : Int).toNat = 1000000 from by decide +kernel]; exact k)
theorem od_p9 (k : K (.d (.int 1000000000)) rs) : OpD (rI CPow fun i j => .int (i ^ j.toNat)) (.d (.int 10)) (.d (.int 9)) rs K := od_pow cpow10 (by rw [show (10 : Int) ^ (9 : Int).toNat = 1000000000 from by decide +kernel]; exact k)
theorem od_p20 (k : K (.d (.int 100000000000000000000)) rs) : OpD (rI CPow fun i j => .int (i ^ j.toNat)) (.d (.int 10)) (.d (.int 20)) rs K := od_pow cpow10 (by rw [show (10 : Int) ^ (20 : Int).toNat = 100000000000000000000 from by decide +kernel]; exact k)
theorem od_p30 (k : K (.d (.int 1000000000000000000000000000000)) rs) : OpD (rI CPow fun i j => .int (i ^ j.toNat)) (.d (.int 10)) (.d (.int 30)) rs K := od_pow cpow10 (by rw [show (10 : Int) ^ (30 : Int).toNat = 1000000000000000000000000000000 from by decide +kernel]; exact k)
theorem od_p40 (k : K (.d (.int 10000000000000000000000000000000000000000)) rs) : OpD (rI CPow fun i j => .int (i ^ j.toNat)) (.d (.int 10)) (.d (.int 40)) rs K := od_pow cpow10 (by rw [show (10 : Int) ^ (40 : Int).toNat = 10000000000000000000000000000000000000000 from by decide +kernel]; exact k)
theorem od_p50 (k : K (.d (.int 100000000000000000000000000000000000000000000000000)) rs) : OpD (rI CPow fun i j => .int (i ^ j.toNat)) (.d (.int 10)) (.d (.int 50)) rs K := od_pow cpow10 (by rw [show (10 : Int) ^ (50 : Int).toNat = 100000000000000000000000000000000000000000000000000 from by decide +kernel]; exact k)
theorem od_p58 (k : K (.d (.int 10000000000000000000000000000000000000000000000000000000000)) rs) : OpD (rI CPow fun i j => .int (i ^ j.toNat)) (.d (.int 10)) (.d (.int 58)) rs K := od_pow cpow10 (by rw [show (10 : Int) ^ (58 : Int).toNat = 10000000000000000000000000000000000000000000000000000000000 from by decide +kernel]; exact k)
theorem od_p59 (k : K (.d (.int 100000000000000000000000000000000000000000000000000000000000)) rs) : OpD (rI CPow fun i j => .int (i ^ j.toNat)) (.d (.int 10)) (.d (.int 59)) rs K := od_pow cpow10 (by rw [show (10 : Int) ^ (59 : Int).toNat = 100000000000000000000000000000000000000000000000000000000000 from by decide +kernel]; exact k)
theorem od_p60 (k : K (.d (.int 1000000000000000000000000000000000000000000000000000000000000)) rs) : OpD (rI CPow fun i j => .int (i ^ j.toNat)) (.d (.int 10)) (.d (.int 60)) rs K := od_pow cpow10 (by rw [show (10 : Int) ^ (60 : Int).toNat = 1000000000000000000000000000000000000000000000000000000000000 from by decide +kernel]; exact k)
/-! ### str(n), int(s) -/
def showI (n : Int) : Str := Str.ofString (toString n)
theorem cd_str {n : Int} (hn : n.natAbs.log2 < 1920) (k : K (.d (.str (showI n))) rs) : CaD (fun xs H Q => ∃ i : Int, xs = [.int i] ∧ i.natAbs.log2 < 1920 ∧ Q (.str (Str.ofString (toString i))) H) [.d (.int n)] rs K := fun G H vs Q hv hs hq => by
  match vs, hv with
  | [v], hv => exact ⟨n, by rw [hv.1.int], hn, give0 hs hq (sl := .d (.str (showI n))) (Is.str _) k⟩
theorem dx_cstr (h : DX c a ρ rs fun s r1 => ∃ n : Int, s = .d (.int n) ∧ n.natAbs.log2 < 1920 ∧ K (.d (.str (showI n))) r1) (hg : KdIn sc₀.names ("str" : Str) .globalImplicit := by first | ((with_reducible (repeat (first | exact KdIn.zero | apply KdIn.succ))); (first | (all_goals fail) | fail)) | exact kd_of rfl) (he : starEach [a] c.X.env = (false, eval a c.X.env) :: starEach [] c.X.env := by rfl) :
    DX c (.Call (.Name "str" p2) [a] [] pos) ρ rs K :=
  dx_callTy call_str_int c.bl.str b_str (da_cons (fun σ H G Q a1 a2 a3 a4 => h σ H G Q a1 a2 a3 fun v H' G' sl rs' t r o ⟨n, e, hn, k⟩ => a4 v H' G' sl rs' t r o (da_nil (by subst e; exact cd_str hn k))) he) hg (he := he) (hpl := rfl)
theorem cd_int {z : Str} {n : Int} (hz : PySem.intText? z = some n) (hl : z.length ≤ 640) (k : K (.d (.int n)) rs) : CaD (fun xs H Q => ∃ (a : Str) (n : Int), xs = [.str a] ∧ PySem.intText? a = some n ∧ a.length ≤ 640 ∧ Q (.int n) H) [.d (.str z)] rs K := fun G H vs Q hv hs hq => by
  match vs, hv with
  | [v], hv => exact ⟨z, n, by rw [hv.1.str], hz, hl, give0 hs hq (sl := .d (.int n)) (Is.int _) k⟩
theorem dx_cint (h : DX c a ρ rs fun s r1 => ∃ z : Str, s = .d (.str z) ∧ ∃ n, PySem.intText? z = some n ∧ z.length ≤ 640 ∧ K (.d (.int n)) r1) (hg : KdIn sc₀.names ("int" : Str) .globalImplicit := by first | ((with_reducible (repeat (first | exact KdIn.zero | apply KdIn.succ))); (first | (all_goals fail) | fail)) | exact kd_of rfl) (he : starEach [a] c.X.env = (false, eval a c.X.env) :: starEach [] c.X.env := by rfl) :
    DX c (.Call (.Name "int" p2) [a] [] pos) ρ rs K :=
  dx_callTy call_int_str c.bl.int b_int (da_cons (fun σ H G Q a1 a2 a3 a4 => h σ H G Q a1 a2 a3 fun v H' G' sl rs' t r o ⟨z, e, n, h1, h2, k⟩ => a4 v H' G' sl rs' t r o (da_nil (by subst e; exact cd_int h1 h2 k))) he) hg (he := he) (hpl := rfl)
theorem log2_ok {n : Int} (h : -(10 ^ 70) < n ∧ n < 10 ^ 70) : n.natAbs.log2 < 1920 := by
  have := PySem.Flt.log2_lt_of (n := n.natAbs) (k := 300) (by decide) (by omega)
  omega
/-! ### a thing is itself -/
mutual
theorem eqv_refl : ∀ d : PyData, d.canLay0 = true → PyData.eqv d d = true
  | .none, _ => rfl
  | .bool b, _ => by show (b == b) = true; simp
  | .int i, _ => by show (i == i) = true; simp
  | .str z, _ => by show (z == z) = true; simp
  | .list xs, h => eqvAll_refl xs h
  | .tuple xs, h => eqvAll_refl xs h
  | .dict kvs, h => nomatch h
theorem eqvAll_refl : ∀ xs : List PyData, PyData.canLayAll0 xs = true → PyData.eqvAll xs xs = true
  | [], _ => rfl
  | x :: xs, h => by
    have h : (x.canLay0 && PyData.canLayAll0 xs) = true := h
    rw [Bool.and_eq_true] at h
    show (PyData.eqv x x && PyData.eqvAll xs xs) = true
    rw [eqv_refl x h.1, eqvAll_refl xs h.2]; rfl
end
theorem eqv_shaped {d : PyData} (h : SeqAt.shaped d = true) : PyData.eqv d d = true := by
  unfold SeqAt.shaped at h
  rw [Bool.and_eq_true] at h
  exact eqv_refl d h.1
theorem od_eqS {s1 s2 : Sl} {d : PyData} (h1 : s1.plain = .d d) (h2 : s2.plain = .d d) (h : SeqAt.shaped d = true) (k : K (.d (.bool true)) rs) : OpD (uEq KC.K) s1 s2 rs K := od_eq h1 h2 (.dat h h) (by rw [eqv_shaped h]; exact k)
theorem od_neS {s1 s2 : Sl} {d : PyData} (h1 : s1.plain = .d d) (h2 : s2.plain = .d d) (h : SeqAt.shaped d = true) (k : K (.d (.bool false)) rs) : OpD (uNe KC.K) s1 s2 rs K := od_ne h1 h2 (.dat h h) (by rw [eqv_shaped h]; exact k)
/-! ### what kind of error -/
section
open PySem.W
theorem kit_yes {K : Frag} {D C : Addr} (hc : isClsIn K C = true) (ht : typeIn K (.ref C) = some (.type "type")) (hs : subIn K (.ref D) (.ref C) = some true) : kitOne K (.ref D) (.ref C) = some true := by
  unfold kitOne
  split
  · rfl
  · unfold kitCls
    dsimp only
    rw [if_pos]
    · exact hs
    · rw [ht]
      have hc : (clsIn K C).isSome = true := hc
      rw [hc]; rfl
theorem kit_no {K : Frag} {D C : Addr} (hc : isClsIn K C = true) (ht : typeIn K (.ref C) = some (.type "type")) (hr : subIn K (.ref D) (.ref D) = some true) (hs : subIn K (.ref D) (.ref C) = some false) : kitOne K (.ref D) (.ref C) = some false := by
  unfold kitOne
  split
  · rename_i e
    have e := eq_of_beq e
    cases e
    rw [hr] at hs; cases hs
  · unfold kitCls
    dsimp only
    rw [if_pos]
    · exact hs
    · rw [ht]
      have hc : (clsIn K C).isSome = true := hc
      rw [hc]; rfl
theorem kit_ve {K : Frag} {D : Addr} (hs : subIn K (.ref D) (.type "ValueError") = some true) : kitOne K (.ref D) (.type "ValueError") = some true := by
  unfold kitOne
  rw [if_neg (by intro z; cases eq_of_beq z)]
  unfold kitCls
  dsimp only
  rw [if_pos (by decide +kernel)]; exact hs
theorem exm_pe {K : Frag} {D C : Addr} (hb : subIn K (.ref C) (.type "BaseException") = some true) (hc : isClsIn K C = true) (ht : typeIn K (.ref C) = some (.type "type")) (hs : subIn K (.ref D) (.ref C) = some true) : exmOne K (.ref D) (.ref C) = some true := by
  unfold exmOne
  rw [hb, if_pos (by rfl)]
  unfold kitCls
  dsimp only
  rw [if_pos]
  · exact hs
  · rw [ht]
    have hc : (clsIn K C).isSome = true := hc
    rw [hc]; rfl
end
/-! ### whole -/
def wholeD (d : PyData) : Bool := isD "int" d && !isD "bool" d
theorem wholeD_int {d : PyData} (h : wholeD d = true) : ∃ n, d = .int n := by
  cases d with
  | int n => exact ⟨n, rfl⟩
  | _ => exact absurd h (by intro z; cases z)
end
end PW

set_option maxHeartbeats 1000000
/-! Objects of the text's classes. -/
namespace PW
open PySem L2
variable [KC]
variable {m₀ : Mo} {N₀ : List Str} {sc₀ : Scope} {lv₀ : Nat} {xp₀ : Addr → List Sl → List Mem → Prop} {fF₀ cm₀ : Bool}
/-- fields of an object -/
def FldAll (G : Fp) (H : Hp) : List (Str × V) → List (Str × Sl) → Prop
  | [], [] => True
  | (f, v) :: vs, (g, s) :: ss => f = g ∧ SlOk G H v s ∧ FldAll G H vs ss
  | _, _ => False
theorem FldAll.stp0 {G G' : Fp} {H H' : Hp} (k : ∀ a o, H a = some o → ¬ G a → H' a = some o) (t : ∀ a, G' a → G a ∨ H a = none) : ∀ {vs : List (Str × V)} {ss : List (Str × Sl)}, FldAll G H vs ss → FldAll G' H' vs ss
  | [], [], _ => trivial
  | (_, _) :: _, (_, _) :: _, ⟨e, h, q⟩ => ⟨e, SlOk.stp0 k t h, q.stp0 k t⟩
  | [], _ :: _, h => h.elim
  | _ :: _, [], h => h.elim
theorem FldAll.length {G : Fp} {H : Hp} : ∀ {vs : List (Str × V)} {ss : List (Str × Sl)}, FldAll G H vs ss → vs.length = ss.length
  | [], [], _ => rfl
  | (_, _) :: _, (_, _) :: _, ⟨_, _, q⟩ => congrArg (· + 1) q.length
  | [], _ :: _, h => h.elim
  | _ :: _, [], h => h.elim
/-- a field's place, found by its look -/
inductive FldAt : List (Str × Sl) → Str → Sl → Prop
  | zero {f s l} : FldAt ((f, s) :: l) f s
  | succ {f s l p} : FldAt l f s → FldAt (p :: l) f s
inductive FldSet : List (Str × Sl) → Str → Sl → List (Str × Sl) → Prop
  | zero {f s t l} : FldSet ((f, t) :: l) f s ((f, s) :: l)
  | succ {f s l l' p} : FldSet l f s l' → FldSet (p :: l) f s (p :: l')
theorem FldAt.mem {l : List (Str × Sl)} {f : Str} {s : Sl} (h : FldAt l f s) : f ∈ l.map (·.1) := by
  induction h with
  | zero => simp
  | succ _ ih => simp only [List.map_cons, List.mem_cons]; exact .inr ih
theorem FldSet.mem {l l' : List (Str × Sl)} {f : Str} {s : Sl} (h : FldSet l f s l') : f ∈ l.map (·.1) := by
  induction h with
  | zero => simp
  | succ _ ih => simp only [List.map_cons, List.mem_cons]; exact .inr ih
theorem FldSet.names {l l' : List (Str × Sl)} {f : Str} {s : Sl} (h : FldSet l f s l') : l'.map (·.1) = l.map (·.1) := by
  induction h with
  | zero => rfl
  | succ _ ih => simp only [List.map_cons, ih]
theorem FldAt.get {G : Fp} {H : Hp} {f : Str} {s : Sl} {l : List (Str × Sl)} (h : FldAt l f s) : ∀ {vs : List (Str × V)}, (l.map (·.1)).Nodup → FldAll G H vs l → ∃ v, vs.lookup f = some v ∧ SlOk G H v s := by
  induction h with
  | @zero f s l =>
    intro vs nd q
    match vs, q with
    | (g, v) :: vs, ⟨e, h, q⟩ => subst e; exact ⟨v, by simp [List.lookup], h⟩
  | @succ f s l p h ih =>
    intro vs nd q
    obtain ⟨g2, s2⟩ := p
    match vs, q with
    | (g, v) :: vs', ⟨e, h2, q'⟩ =>
      subst e
      rw [List.map_cons, List.nodup_cons] at nd
      have ne : (f == g) = false := by
        cases z : (f == g) with
        | false => rfl
        | true => have z := eq_of_beq z; subst z; exact absurd h.mem nd.1
      obtain ⟨w, h3, h4⟩ := ih nd.2 q'
      exact ⟨w, by rw [List.lookup_cons, ne]; exact h3, h4⟩
theorem FldSet.put {G : Fp} {H : Hp} {f : Str} {s : Sl} {v : V} {l l' : List (Str × Sl)} (h : FldSet l f s l') : ∀ {vs : List (Str × V)}, (l.map (·.1)).Nodup → SlOk G H v s → FldAll G H vs l → FldAll G H (putF f v vs) l' := by
  induction h with
  | @zero f s t l =>
    intro vs nd hv q
    match vs, q with
    | (g, w) :: vs', ⟨e, h, q'⟩ =>
      subst e
      show FldAll G H (if g = g then (g, v) :: vs' else (g, w) :: putF g v vs') _
      rw [if_pos rfl]; exact ⟨rfl, hv, q'⟩
  | @succ f s l l' p h ih =>
    intro vs nd hv q
    obtain ⟨g2, s2⟩ := p
    match vs, q with
    | (g, w) :: vs', ⟨e, h2, q'⟩ =>
      subst e
      rw [List.map_cons, List.nodup_cons] at nd
      have ne : ¬ g = f := fun z => by subst z; exact nd.1 h.mem
      show FldAll G H (if g = f then (g, v) :: vs' else (g, w) :: putF f v vs') _
      rw [if_neg ne]; exact ⟨rfl, h2, ih nd.2 hv q'⟩
theorem fld_new {G : Fp} {H : Hp} {f : Str} {s : Sl} {v : V} : ∀ {vs : List (Str × V)} {l : List (Str × Sl)}, f ∉ l.map (·.1) → SlOk G H v s → FldAll G H vs l → FldAll G H (putF f v vs) (l ++ [(f, s)])
  | [], [], _, hv, _ => ⟨rfl, hv, trivial⟩
  | (g, w) :: vs, (g2, s2) :: l, nd, hv, ⟨e, h2, q⟩ => by
    subst e
    rw [List.map_cons, List.mem_cons, not_or] at nd
    show FldAll G H (if g = f then (g, v) :: vs else (g, w) :: putF f v vs) _
    rw [if_neg fun z => nd.1 z.symm]; exact ⟨rfl, h2, fld_new nd.2 hv q⟩
  | [], _ :: _, _, _, h => h.elim
  | _ :: _, [], _, _, h => h.elim
theorem fld_none {G : Fp} {H : Hp} {f : Str} : ∀ {vs : List (Str × V)} {l : List (Str × Sl)}, f ∉ l.map (·.1) → FldAll G H vs l → vs.lookup f = none
  | [], [], _, _ => rfl
  | (g, w) :: vs, (g2, s2) :: l, nd, ⟨e, h2, q⟩ => by
    subst e
    rw [List.map_cons, List.mem_cons, not_or] at nd
    have ne : (f == g) = false := by
      cases z : (f == g) with
      | false => rfl
      | true => exact absurd (eq_of_beq z) nd.1
    rw [List.lookup_cons, ne]; exact fld_none nd.2 q
  | [], _ :: _, _, h => h.elim
  | _ :: _, [], _, h => h.elim
/-- an object at p, of the class at C -/
def insM (C p : Addr) (fs : List (Str × Sl)) : Mem where
  ok F G H := ∃ dx vs, (∀ a, F a ↔ a = p ∨ a = dx) ∧ dx ≠ p ∧ H p = some (.ins C dx vs) ∧ H dx = some (.own p) ∧ FldAll G H vs fs
  dom := fun ⟨dx, vs, e, _, h1, h2, _⟩ a q => by
    rcases (e a).mp q with z | z
    · subst z; exact ⟨_, h1⟩
    · subst z; exact ⟨_, h2⟩
  step := fun ⟨dx, vs, e, n, h1, h2, al⟩ k s => ⟨dx, vs, e, n, k _ _ h1 (.inl ((e p).mpr (.inl rfl))), k _ _ h2 (.inl ((e dx).mpr (.inr rfl))), al.stp0 (fun a o q n => k a o q (.inr n)) s⟩
/-- what an object's fields are, and how they are changed -/
theorem ins_at {G : Fp} {H : Hp} {rs : List Mem} {C p : Addr} {fs : List (Str × Sl)} {f : List Mem → List Mem} (pk : Pick rs (insM C p fs) f) (hs : sepL rs G G H) :
    ∃ dx vs, H p = some (.ins C dx vs) ∧ FldAll G H vs fs ∧ G p ∧ ∀ ws fs', FldAll G H ws fs' → Stp G G H (upd H p (.ins C dx ws)) ∧ sepL (f [insM C p fs']) G G (upd H p (.ins C dx ws)) := by
  obtain ⟨F1, F2, ⟨dx, vs, eF, n, h1, h2, al⟩, _, dj, eG⟩ := pk.split.mp hs
  have gp : G p := (eG p).mpr (.inl ((eF p).mpr (.inl rfl)))
  refine ⟨dx, vs, h1, al, gp, fun ws fs' aw => ?_⟩
  refine sepL.change (B := insM C p fs') pk hs fun F1 hA sub => ?_
  obtain ⟨dx', vs', e1, n', h1', h2', al'⟩ := hA
  have edx : dx' = dx := by rw [h1] at h1'; cases h1'; rfl
  subst edx
  have gdx : G dx' := sub _ ((e1 dx').mpr (.inr rfl))
  refine ⟨fun a o q n => ?_, fun a o q => ?_, dx', ws, e1, n', upd_same, ?_, aw.stp0 (fun a o q n => ?_) fun a g => .inl g⟩
  · rw [upd_ne fun z => n ((e1 a).mpr (.inl z))]; exact q
  · by_cases ea : a = p
    · subst ea; exact ⟨_, upd_same⟩
    · rw [upd_ne ea]; exact ⟨o, q⟩
  · rw [upd_ne n']; exact h2'
  · rw [upd_ne (fun z => n (by rw [z]; exact gp))]; exact q
/-- a class of plain objects, and the names that are none of its own -/
structure ObjC (m : Mo) (C : Addr) (fs : List Str) : Prop where
  cls : Cls m.K C
  na : ∀ f ∈ fs, NoAttr m.K C f
structure FldC (m : Mo) (C : Addr) (f : Str) : Prop where
  cls : Cls m.K C
  na : NoAttr m.K C f
theorem fldc {m : Mo} {C : Addr} {as : List Str} {f : Str} (oc : ObjC m C as) (hf : f ∈ as) : FldC m C f := ⟨oc.cls, oc.na f hf⟩
section
variable {c : Ctx m₀ N₀ sc₀ lv₀ xp₀ fF₀ cm₀} {e a b o : Expr} {es : List Expr} {ρ ρ' : List Sl} {rs : List Mem} {K : Sl → List Mem → Prop} {P : Post} {x f : Str} {pos pos' p2 apos cpos : Pos} {st : Stmt} {sts : List Stmt} {C : Addr} {as : List Str} {k : Nat} {Q0 : Cn}
/-- o.f -/
theorem dx_fld (h : DX c o ρ rs fun s r => ∃ C p fs g sl, s = .r (.ref p) ∧ Pick r (insM C p fs) g ∧ FldC m₀ C f ∧ FldAt fs f sl ∧ (fs.map (·.1)).Nodup ∧ (∀ ds, sl ≠ .n ds) ∧ K sl r)
    (hb : attributeBase o f c.X.env (eval o c.X.env) = eval o c.X.env := by rfl) : DX c (.Attribute o f pos) ρ rs K := by
  intro σ H G Q he hs hx hq
  refine tE_of (pe_fld pe_t hb) ?_
  refine h σ H G _ he hs hx fun v H1 G1 s1 r1 t1 h1 o1 k1 => ?_
  obtain ⟨C, p, fs, g, sl, rfl, pk, fc, ha, nd, hn, k1⟩ := k1
  have ev : v = .ref p := h1
  subst ev
  obtain ⟨dx, vs, hp, al, _, _⟩ := ins_at pk o1
  obtain ⟨w, hw, hk⟩ := ha.get nd al
  exact ⟨p, C, dx, vs, w, rfl, hp, c.hm.K ▸ fc.cls, c.hm.K ▸ fc.na, hw, hq w H1 G1 sl r1 t1 (Rs.of_ok hk hn) o1 k1⟩
/-- o.f = e -/
theorem ds_fld (h : DX c e ρ rs fun s r => DX c o ρ r fun s1 r1 => ∃ C p fs g fs', s1 = .r (.ref p) ∧ Pick r1 (insM C p fs) g ∧ FldC m₀ C f ∧ (FldSet fs f s.plain fs' ∨ (f ∉ fs.map (·.1) ∧ fs' = fs ++ [(f, s.plain)])) ∧ (fs.map (·.1)).Nodup ∧ fs.length < 100 ∧ P.nx ρ (g [insM C p fs']))
    (hw : swapsWith e (some (.Attribute o f pos')) pos.line c.X.env = pure false := by rfl) : DS c (.Assign [.Attribute o f pos'] e pos) ρ rs P := by
  intro σ H G D he hs hx hd
  refine tS_of (ps_fld pe_t pe_t hw) ?_
  refine h σ H G _ he hs hx fun v H1 G1 s r1 t1 h1 o1 k1 => ?_
  refine k1 σ H1 G1 _ (he.stp t1) o1 (hx.stp t1) fun v2 H2 G2 s1 r2 t2 h2 o2 k2 => ?_
  obtain ⟨C, p, fs, g, fs', rfl, pk, fc, hset, nd, hl, k2⟩ := k2
  have ev : v2 = .ref p := h2
  subst ev
  obtain ⟨dx, vs, hp, al, _, ch⟩ := ins_at pk o2
  have hv : SlOk G2 H2 v s.plain := h1.ok.plain.stp t2
  have hput : FldAll G2 H2 (putF f v vs) fs' := by
    rcases hset with z | ⟨z, rfl⟩
    · exact z.put nd hv al
    · exact fld_new z hv al
  obtain ⟨t3, o3⟩ := ch _ _ hput
  exact ⟨p, C, dx, vs, rfl, hp, c.hm.K ▸ fc.cls, c.hm.K ▸ fc.na, by rw [al.length]; exact Nat.lt_trans hl (by decide), hd.nx σ _ G2 ρ _ ((t1.trans t2).trans t3) (((he.stp t1).stp t2).stp t3) o3 k2⟩
theorem ex_fld {p : Addr} {fs : List (Str × Sl)} {g : List Mem → List Mem} {sl : Sl} {B : Sl → Prop} (pk : Pick rs (insM C p fs) g) (fc : FldC m₀ C f) (ha : FldAt fs f sl) (nd : (fs.map (·.1)).Nodup) (hn : ∀ ds, sl ≠ .n ds) (k : B sl) :
    ∃ C p' fs' g' sl', Sl.r (.ref p) = .r (.ref p') ∧ Pick rs (insM C p' fs') g' ∧ FldC m₀ C f ∧ FldAt fs' f sl' ∧ (fs'.map (·.1)).Nodup ∧ (∀ ds, sl' ≠ .n ds) ∧ B sl' := ⟨C, p, fs, g, sl, rfl, pk, fc, ha, nd, hn, k⟩
theorem ex_fset {p : Addr} {fs fs1 : List (Str × Sl)} {g : List Mem → List Mem} {s : Sl} {B : Addr → Addr → (List Mem → List Mem) → List (Str × Sl) → Prop} (pk : Pick rs (insM C p fs) g) (fc : FldC m₀ C f) (ha : FldSet fs f s fs1) (nd : (fs.map (·.1)).Nodup) (hl : fs.length < 100) (k : B C p g fs1) :
    ∃ C p' fs' g' fs2, Sl.r (.ref p) = .r (.ref p') ∧ Pick rs (insM C p' fs') g' ∧ FldC m₀ C f ∧ (FldSet fs' f s fs2 ∨ (f ∉ fs'.map (·.1) ∧ fs2 = fs' ++ [(f, s)])) ∧ (fs'.map (·.1)).Nodup ∧ fs'.length < 100 ∧ B C p' g' fs2 := ⟨C, p, fs, g, fs1, rfl, pk, fc, .inl ha, nd, hl, k⟩
theorem ex_fnew {p : Addr} {fs : List (Str × Sl)} {g : List Mem → List Mem} {s : Sl} {B : Addr → Addr → (List Mem → List Mem) → List (Str × Sl) → Prop} (pk : Pick rs (insM C p fs) g) (fc : FldC m₀ C f) (ha : f ∉ fs.map (·.1)) (nd : (fs.map (·.1)).Nodup) (hl : fs.length < 100) (k : B C p g (fs ++ [(f, s)])) :
    ∃ C p' fs' g' fs2, Sl.r (.ref p) = .r (.ref p') ∧ Pick rs (insM C p' fs') g' ∧ FldC m₀ C f ∧ (FldSet fs' f s fs2 ∨ (f ∉ fs'.map (·.1) ∧ fs2 = fs' ++ [(f, s)])) ∧ (fs'.map (·.1)).Nodup ∧ fs'.length < 100 ∧ B C p' g' fs2 := ⟨C, p, fs, g, _, rfl, pk, fc, .inr ⟨ha, rfl⟩, nd, hl, k⟩
/-! ### methods -/
/-- the thing A has an object of C at p, with no field x -/
def InsAt (A : Mem) (C p : Addr) (x : Str) : Prop := ∀ F G H, A.ok F G H → ∃ dx fs, H p = some (.ins C dx fs) ∧ fs.lookup x = none
theorem insAt_ins {p : Addr} {fs : List (Str × Sl)} (h : x ∉ fs.map (·.1)) : InsAt (insM C p fs) C p x := fun F G H ⟨dx, vs, _, _, h1, _, al⟩ => ⟨dx, vs, h1, fld_none h al⟩
theorem insAt_ex {α : Type} {fam : α → List Mem} {p : Addr} {fs : α → List (Str × Sl)} {tl : α → List Mem} (e : ∀ q, fam q = insM C p (fs q) :: tl q) (h : ∀ q, x ∉ (fs q).map (·.1)) : InsAt (exM fam) C p x := fun F G H ⟨q, z⟩ => by
  rw [e q] at z
  obtain ⟨F1, F2, h1, _⟩ := z
  exact insAt_ins (h q) F1 G H h1
theorem run_meth {X : Cx} {CX : CXT} {k : Nat} {g C : Addr} {fd : FuncData} {ps : List Str} {sp : Sp} {E : L2.St → XK} {m : Str} {pos apos : Pos} {e o : Expr} {es : List Expr} {ta : TE} {t : TA} {pl : Sem Bool} (he : PE X o ta) (ca : Cls X.K C) (hm : Meth X.K C m g)
    (F : FnOk X.prog X.w X.K X.mg X.base CX k g fd ps sp) (hr : Room k X.A) (hb : Binds X.K fd ps []) (hx : ∀ σ, PassesAt CX X σ (E σ)) (ha : PA X (e :: es) t)
    (h1 : starEach (e :: es) X.env = (false, eval e X.env) :: starEach es X.env) (h2 : (backTo pos (starEach es X.env)).any (·.1) = false)
    (ht : eval (.Call (.Attribute o m apos) (e :: es) [] pos) X.env = (do let ov ← eval o X.env; standAt apos.atName; let (f, first) ← holding [ov] (getMethod ov m pl); callWith pos f first (backTo pos (starEach (e :: es) X.env)) (backToKw pos (keywordEach [] X.env)))) :
    PE X (.Call (.Attribute o m apos) (e :: es) [] pos) (fun σ H Q => ta σ H fun x H1 => ∃ a dx fs, x = .ref a ∧ H1 a = some (.ins C dx fs) ∧ fs.lookup m = none ∧ t σ H1 fun vs H2 => sp (x :: vs) H2 Q (E σ)) := by
  constructor
  intro pins s σ H Q I h
  refine PySem.W.methodCall_KW (pl := pl) (he := ht) ?_
  refine thn (he.run pins s σ H _ I h) ?_
  rintro u s1 ⟨x, H1, I1, rx, a, dx, fs, rfl, ea, l, q⟩
  have eu : u = Value.ref a := rx
  rw [eu]
  apply getmeth_ok I1 ea ca hm l
  apply PySem.W.callWith_K (h₀ := X.base) I.ok.mod.kin hm.kp _ h1 h2
  refine thn (ha.run pos pins s1 σ H1 _ I1 q) ?_
  rintro us s2 ⟨vs, H2, I2, r, q2⟩
  refine ⟨I2.kIn, ?_⟩
  exact run_fnS (vs := .ref a :: vs) F hr hb (hx σ) I2 (.cons rfl r) q2
theorem sep_ins {A : Mem} {p : Addr} {g : List Mem → List Mem} (pk : Pick rs A g) (ia : InsAt A C p x) {G : Fp} {H : Hp} (hs : sepL rs G G H) : ∃ dx fs, H p = some (.ins C dx fs) ∧ fs.lookup x = none := by
  obtain ⟨F1, F2, h1, _⟩ := pk.split.mp hs
  exact ia _ _ _ h1
theorem dx_meth {pl : Sem Bool} (F : MtIs m₀ C x k Q0) (oc : ObjC m₀ C as) (h : DX c o ρ rs fun s r => ∃ p A g, s = .r (.ref p) ∧ Pick r A g ∧ InsAt A C p x ∧ DA c (e :: es) ρ r fun ss r1 => CallEnd c Q0 (.r (.ref p) :: ss) ρ r1 K)
    (hk : k ≤ lv₀ := by decide) (hcm : cm₀ = true := by rfl) (h1 : starEach (e :: es) c.X.env = (false, eval e c.X.env) :: starEach es c.X.env := by rfl) (h2 : (backTo pos (starEach es c.X.env)).any (·.1) = false := by rfl)
    (ht : eval (.Call (.Attribute o x apos) (e :: es) [] pos) c.X.env = (do let ov ← eval o c.X.env; standAt apos.atName; let (f, first) ← holding [ov] (getMethod ov x pl); callWith pos f first (backTo pos (starEach (e :: es) c.X.env)) (backToKw pos (keywordEach [] c.X.env))) := by rfl) :
    DX c (.Call (.Attribute o x apos) (e :: es) [] pos) ρ rs K := by
  intro σ H G Q hE hs hx hq
  obtain ⟨f, fd, ps, F, mt, hb⟩ := F.ex
  refine tE_of (run_meth (E := fun σ => WE c.W σ) pe_t (by rw [c.hm.K]; exact oc.cls) (by rw [c.hm.K]; exact mt) (fn_at c.hm F) ((c.room hcm).mono hk) (by rw [c.hm.K]; exact hb) (fun σ => passAt c.tk σ) pa_t h1 h2 ht) ?_
  refine h σ H G _ hE hs hx fun v H1 G1 s1 r1 t1 q1 o1 k1 => ?_
  obtain ⟨p, A, g, rfl, pk, ia, k1⟩ := k1
  have ev : v = .ref p := q1
  subst ev
  obtain ⟨dx, fs, hp, hl⟩ := sep_ins pk ia o1
  refine ⟨p, dx, fs, rfl, hp, hl, ?_⟩
  refine k1 σ H1 G1 _ (hE.stp t1) o1 (hx.stp t1) fun vs H2 G2 ss r2 t2 q2 o2 k2 => ?_
  exact k2.run ((hE.stp t1).stp t2) o2 ((hx.stp t1).stp t2) (show SlAll G2 H2 (.ref p :: vs) (.r (.ref p) :: ss) from ⟨rfl, q2⟩) fun v H' G' sl rs' t3 h3 o3 k3 => hq v H' G' sl rs' ((t1.trans t2).trans t3) (h3.back (t1.trans t2)) o3 k3
/-- without arguments: nothing is raised -/
def CallEnd0 (C : Cn) (ss : List Sl) (r1 : List Mem) (K : Sl → List Mem → Prop) : Prop :=
  (C ss [] (fun s r2 => K s (r2 ++ r1)) (fun _ _ => False)) ∨ ∃ A f, Pick r1 A f ∧ C ss [A] (fun s r2 => K s (f r2)) (fun _ _ => False)
theorem CallEnd0.run {C : Cn} {ss : List Sl} {r1 : List Mem} (h : CallEnd0 C ss r1 K) {H : Hp} {G : Fp} {vs : List V} {Q : VK} (hs : sepL r1 G G H) (hv : SlAll G H vs ss)
    (hq : ∀ v H' G' sl rs', Stp G G' H H' → Rs G' H H' v sl → sepL rs' G' G' H' → K sl rs' → Q v H') : spC C vs H Q (fun _ _ _ => False) := by
  rcases h with h | ⟨A, f, p, h⟩
  · refine ⟨ss, sepM r1, [], G, _, _, hv, sepM_app.mpr hs, h, fun v H' G' sl rs' t r o k => hq v H' G' sl _ t r (sepM_app.mp o) k, fun D H' G' rs' t o k => k⟩
  · refine ⟨ss, sepM (f []), [A], G, _, _, hv, sepM_app.mpr (p.split.mp hs), h, fun v H' G' sl rs' t r o k => hq v H' G' sl _ t r (p.put.mpr (sepM_app.mp o)) k, fun D H' G' rs' t o k => k⟩
theorem ce0_inr {C : Cn} {ss : List Sl} {r1 : List Mem} {A : Mem} {f : List Mem → List Mem} (p : Pick r1 A f) (h : C ss [A] (fun s r2 => K s (f r2)) (fun _ _ => False)) : CallEnd0 C ss r1 K := .inr ⟨A, f, p, h⟩
theorem dx_meth0 {pl : Sem Bool} (F : MtIs m₀ C x k Q0) (oc : ObjC m₀ C as) (h : DX c o ρ rs fun s r => ∃ p A g, s = .r (.ref p) ∧ Pick r A g ∧ InsAt A C p x ∧ CallEnd0 Q0 [.r (.ref p)] r K)
    (hk : k ≤ lv₀ := by decide) (hcm : cm₀ = true := by rfl)
    (ht : eval (.Call (.Attribute o x apos) [] [] pos) c.X.env = (do let ov ← eval o c.X.env; standAt apos.atName; let (f, first) ← holding [ov] (getMethod ov x pl); callWith pos f first (backTo pos (starEach [] c.X.env)) (backToKw pos (keywordEach [] c.X.env))) := by rfl) :
    DX c (.Call (.Attribute o x apos) [] [] pos) ρ rs K := by
  intro σ H G Q hE hs hx hq
  obtain ⟨f, fd, ps, F, mt, hb⟩ := F.ex
  refine tE_of (pe_meth0 pe_t (by rw [c.hm.K]; exact oc.cls) (by rw [c.hm.K]; exact mt) (fn_at c.hm F) ((c.room hcm).mono hk) (by rw [c.hm.K]; exact hb) .nil passL ht) ?_
  refine h σ H G _ hE hs hx fun v H1 G1 s1 r1 t1 q1 o1 k1 => ?_
  obtain ⟨p, A, g, rfl, pk, ia, k1⟩ := k1
  have ev : v = .ref p := q1
  subst ev
  obtain ⟨dx, fs, hp, hl⟩ := sep_ins pk ia o1
  refine ⟨p, dx, fs, rfl, hp, hl, ?_⟩
  exact k1.run o1 (show SlAll G1 H1 [.ref p] [.r (.ref p)] from ⟨rfl, trivial⟩) fun v H' G' sl rs' t3 h3 o3 k3 => hq v H' G' sl rs' (t1.trans t3) (h3.back t1) o3 k3
/-! ### an object made -/
/-- the class named x: its place, its __init__ -/
structure MkIs (m : Mo) (x : Str) (C : Addr) (k : Nat) (Q : Cn) : Prop where
  ex : ∃ f fd ps, FnOk m.P m.w m.K m.mg m.base (L2.CX m.P m.w) k f fd ps (spC Q) ∧ Mk m.K C f ∧ m.mg x = some (.ref C) ∧ Binds m.K fd ps []
theorem own_ins {G : Fp} {H : Hp} {rs : List Mem} {p dx : Addr} (hs : sepL rs G G H) (hp : H p = none) (hd : H dx = none) (ne : dx ≠ p) :
    ∃ G', Stp G G' H (upd (upd H dx (.own p)) p (.ins C dx [])) ∧ sepL (insM C p [] :: rs) G' G' (upd (upd H dx (.own p)) p (.ins C dx [])) := by
  have hsame : Same H (upd (upd H dx (.own p)) p (.ins C dx [])) := fun a u e => by rw [upd_ne (ne_of_none e hp), upd_ne (ne_of_none e hd)]; exact e
  have s : Stp G (fun a => (a = p ∨ a = dx) ∨ G a) H (upd (upd H dx (.own p)) p (.ins C dx [])) := ⟨fun a o q _ => hsame a o q, fun a g => by
    rcases g with (rfl | rfl) | g
    · exact .inr hp
    · exact .inr hd
    · exact .inl g, fun a o q => ⟨o, hsame a o q⟩⟩
  refine ⟨_, s, fun a => a = p ∨ a = dx, G, ⟨dx, [], fun a => Iff.rfl, ne, upd_same, by rw [upd_ne ne]; exact upd_same, trivial⟩, sepL.step s.sub hs fun a o q _ => hsame a o q, fun a e g => ?_, fun a => Iff.rfl⟩
  rcases e with rfl | rfl
  · exact hs.fresh hp g
  · exact hs.fresh hd g
theorem dx_make (M : MkIs m₀ x C k Q0) (h : DA c (e :: es) ρ rs fun ss r1 => ∀ p, Q0 (.r (.ref p) :: ss) [insM C p []] (fun s r2 => s = .d .none ∧ K (.r (.ref p)) (r2 ++ r1)) (fun _ _ => False))
    (hk : k + 1 ≤ lv₀ := by decide) (hcm : cm₀ = true := by rfl) (hg : KdIn sc₀.names x .globalImplicit := by first | ((with_reducible (repeat (first | exact KdIn.zero | apply KdIn.succ))); (first | (all_goals fail) | fail)) | exact kd_of rfl)
    (h1 : starEach (e :: es) c.X.env = (false, eval e c.X.env) :: starEach es c.X.env := by rfl) (h2 : (backTo pos (starEach es c.X.env)).any (·.1) = false := by rfl) : DX c (.Call (.Name x p2) (e :: es) [] pos) ρ rs K := by
  intro σ H G Q hE hs hx hq
  obtain ⟨f, fd, ps, F, mk, hmg, hb⟩ := M.ex
  refine tE_of (pe_make (by rw [c.hm.K]; exact mk) (fn_at c.hm F) ((c.room hcm).mono hk) (c_gl hg) (by rw [c.hm.mg]; exact hmg) (by rw [c.hm.K]; exact hb) .nil passL pa_t (c.nd1 hg) h1 h2) ?_
  refine h σ H G _ hE hs hx fun vs H1 G1 ss r1 t1 q1 o1 k1 => ?_
  intro p dx hp hd ne
  obtain ⟨G2, t2, o2⟩ := own_ins (C := C) o1 hp hd ne
  rw [List.append_nil]
  refine ⟨.r (.ref p) :: ss, sepM r1, [insM C p []], G2, _, _, (show SlAll G2 _ (.ref p :: vs) (.r (.ref p) :: ss) from ⟨rfl, q1.stp t2⟩), sepM_app.mpr o2, k1 p, fun v H' G' sl rs' t r o ⟨es, k⟩ => ?_, fun D H' G' rs' t o k => k⟩
  subst es
  have hv : Is G' H' v .none := r
  refine ⟨by cases hv; rfl, ?_⟩
  exact hq (.ref p) H' G' (.r (.ref p)) _ ((t1.trans t2).trans t) rfl (sepM_app.mp o) k
end
end PW

set_option maxHeartbeats 1000000
/-! New lists, owned from the start. -/
namespace PW
open PySem L2
variable [KC]
variable {m₀ : Mo} {N₀ : List Str} {sc₀ : Scope} {lv₀ : Nat} {xp₀ : Addr → List Sl → List Mem → Prop} {fF₀ cm₀ : Bool}
section
variable {c : Ctx m₀ N₀ sc₀ lv₀ xp₀ fF₀ cm₀} {e a b tg it : Expr} {es : List Expr} {ρ ρ' : List Sl} {rs : List Mem} {KI : List Sl → (List Mem → Prop) → List Mem → Prop} {x : Str} {pos pos' p2 : Pos}
theorem lc_runO {elt : Expr} {tt : TT} {scope : Scope} {j : Nat} {K : Sl → List Mem → Prop} (hso : ScOk (relS scope sc₀)) (hj : IxOf N₀ x j)
    (h : DI c (.Name x p2) it ρ rs fun items keep r => ∃ (α : Type) (xs : List α) (enc : α → Sl) (p : α → Bool) (h : α → PyData), items = xs.map enc ∧ (∀ A : Mem, keep (A :: r)) ∧ xs.length ≤ 100000 ∧
      (∃ ρw, SetS N₀ ρ x j .un ρw ∧ ∀ y ∈ xs, ∃ ρ2, SetS N₀ ρw x j (enc y) ρ2 ∧ (p y = true → ElD c scope elt ρ2 r (h y)) ∧
        ∀ (A : Mem) (σ : L2.St) (H : Hp) (G : Fp) (Q : Bool → Hp → Prop), EnvOk G H σ ρ2 → sepL (A :: r) G G H → (∀ H' G', Stp G G' H H' → sepL (A :: r) G' G' H' → Q (p y) H') → tt σ H Q) ∧
      ∀ D, K (.r (.ref D)) (lstM D (((xs.filter p).map h).map .d) :: r))
    {σ : L2.St} {H : Hp} {G : Fp} {Q : VK} (he : EnvOk G H σ ρ) (hs : sepL rs G G H) (hx : XOk c G H) (hq : ∀ v H' G' sl rs', Stp G G' H H' → Rs G' H H' v sl → sepL rs' G' G' H' → K sl rs' → Q v H') :
    tLc (tI c.X (.Name x p2) it) (gName j) tt (tBE c.X scope elt) [j] σ H Q := by
  refine h σ H G _ he hs hx fun J H1 G1 items keep r1 t1 o1 jok k1 => ?_
  obtain ⟨α, xs, enc, p, hh, rfl, hk, hlen, ⟨ρw, hw, ht⟩, kend⟩ := k1
  intro D hD
  -- the new list at D is a thing of one's own meanwhile
  have key : ∀ (acc : List V) (G' : Fp) (H' : Hp) (ds : List PyData), H' D = some (.lst acc) → IsAll G' H' acc ds → G' D → sepL (lstM D (ds.map .d) :: r1) G' G' H' → True := fun _ _ _ _ _ _ _ _ => trivial
  have nG1 : ¬ G1 D := o1.fresh hD
  obtain ⟨tj, oj⟩ := sepL.join (A := lstM D []) (H' := upd H1 D (.lst [])) o1 (same_new hD) hD ⟨fun a => Iff.rfl, [], upd_same, trivial⟩
  refine ⟨fun i m H' => m = xs.length - i ∧ i ≤ xs.length ∧ ∃ G', Stp G1 G' H1 H' ∧ sepL (lstM D (((xs.take i).filter p).map (fun y => .d (hh y))) :: r1) G' G' H', ⟨_, rfl, Nat.zero_le _, _, tj, oj⟩, ?_⟩
  rintro i m H' ⟨rfl, hle, G', t2, o2⟩
  have jk := jok G' H' _ t2 o2 (hk _) i
  by_cases hlt : i < xs.length
  · have hgo := jk.1 (by simpa using hlt)
    refine .inr ⟨hgo.1, fun H2 => ∃ G2, Stp G1 G2 H1 H2 ∧ sepL (lstM D (((xs.take (i + 1)).filter p).map (fun y => .d (hh y))) :: r1) G2 G2 H2, fun H2 ⟨G2, a, b⟩ => ⟨_, by omega, rfl, by omega, G2, a, b⟩, fun v H2 yl => ?_⟩
    obtain ⟨rfl, sl, hsl, hy⟩ := hgo.2 v H2 yl
    have hsl' : sl = enc xs[i] := by
      rw [List.getElem?_map, List.getElem?_eq_getElem hlt] at hsl
      exact (Option.some.inj hsl).symm
    subst hsl'
    obtain ⟨ρ2, hset, hel, htt⟩ := ht xs[i] (List.getElem_mem hlt)
    have tk : xs.take (i + 1) = xs.take i ++ [xs[i]] := by simp
    have eEnv : EnvOk G' H2 ((wipe σ [j]).set j (some v)) ρ2 := hset.env hy (set_un hw ((he.stp t1).stp t2))
    refine ⟨?_, ?_⟩
    · show ((σ.set j none).set j (some v)).set j none = σ.set j none
      rw [List.set_set, List.set_set]
    refine htt _ _ H2 G' _ eEnv o2 fun H3 G3 t3 o3 => ?_
    cases hp : p xs[i] with
    | false =>
      show ∃ G2, _
      refine ⟨G3, t2.trans t3, ?_⟩
      rw [tk, List.filter_append, List.filter_cons, if_neg (by rw [hp]; exact Bool.false_ne_true)]
      simpa using o3
    | true =>
      show tBE c.X scope elt _ H3 _
      intro s0 H0 C0 cl0 fp0
      refine hel hp _ s0 H0 C0 cl0 fp0 hso _ H3 G3 _ (eEnv.stp t3) o3 xok_blk fun w H4 G4 s4 r4 t4 h4 o4 k4 => ?_
      obtain ⟨e4, rfl⟩ := k4
      have hw4 : Is G4 H4 w (hh xs[i]) := plain_d e4 h4.ok
      obtain ⟨F1, F2, ⟨eF, acc, hD4, al⟩, oR, dj, eG⟩ := id o4
      have hle4 : acc.length ≤ xs.length := by
        have := al.length
        rw [List.length_map] at this
        have l2 : ((xs.take i).filter p).length ≤ (xs.take i).length := List.length_filter_le _ _
        rw [List.length_take] at l2
        omega
      refine ⟨acc, hD4, Nat.lt_of_le_of_lt (Nat.le_trans hle4 hlen) (by decide), G4, ?_, ?_⟩
      · have t14 := (t2.trans t3).trans t4
        refine ⟨fun a o q n => ?_, t14.sub, fun a o q => ?_⟩
        · rw [upd_ne (ne_of_none q hD)]
          exact t14.keep a o q n
        · by_cases ea : a = D
          · subst ea; exact ⟨_, upd_same⟩
          · rw [upd_ne ea]; exact t14.old a o q
      · have kp : ∀ a o, H4 a = some o → ¬ F1 a → upd H4 D (.lst (acc ++ [w])) a = some o := fun a o q n => by
          rw [upd_ne fun z => n ((eF a).mpr z)]
          exact q
        have gD : G4 D := (eG D).mpr (.inl ((eF D).mpr rfl))
        have kG : ∀ a o, H4 a = some o → ¬ G4 a → upd H4 D (.lst (acc ++ [w])) a = some o := fun a o q n => kp a o q fun z => n ((eG a).mpr (.inl z))
        refine ⟨F1, F2, ⟨eF, acc ++ [w], upd_same, ?_⟩, sepL.step (fun a g => .inl g) oR (fun a o q z => kp a o q fun y => ?_), dj, eG⟩
        · rw [tk, List.filter_append, List.filter_cons, if_pos hp, List.filter_nil, List.map_append]
          exact (al.stp0 kG fun a g => .inl g).append ⟨hw4.stp0 kG fun a g => .inl g, trivial⟩
        · rcases z with z | z
          · exact dj a y z
          · exact z ((eG a).mpr (.inl y))
  · have hi : i = xs.length := by omega
    subst hi
    rw [List.take_length] at o2
    refine .inl ⟨jk.2 (by simp), ?_⟩
    have e : ((xs.filter p).map hh).map Sl.d = (xs.filter p).map fun y => .d (hh y) := by rw [List.map_map]; rfl
    exact hq (.ref D) H' G' (.r (.ref D)) _ (t1.trans t2) rfl (by rw [e]; exact o2) (kend D)
theorem dx_lc0O {elt : Expr} {scope : Scope} {j : Nat} {K : Sl → List Mem → Prop} (hj : IxOf N₀ x j) (hok : BlkOk N₀ sc₀ scope [(x, j)])
    (h : DI c (.Name x p2) it ρ rs fun items keep r => ∃ (α : Type) (xs : List α) (enc : α → Sl) (h : α → PyData), items = xs.map enc ∧ (∀ A : Mem, keep (A :: r)) ∧ xs.length ≤ 100000 ∧
      (∃ ρw, SetS N₀ ρ x j .un ρw ∧ ∀ y ∈ xs, ∃ ρ2, SetS N₀ ρw x j (enc y) ρ2 ∧ ElD c scope elt ρ2 r (h y)) ∧ ∀ D, K (.r (.ref D)) (lstM D ((xs.map h).map .d) :: r))
    (hso : ScOk (relS scope sc₀) := by decide +kernel) (hcm : cm₀ = true := by rfl) (hl : scope.names.lookup x = some .local := by rfl) (hr : (relS scope sc₀).names.lookup x = some .local := by rfl) (hf : ∀ y, foldedSetIterable it c.X.env y = pure y := by intro _; rfl) : DX c (.ListComp elt [⟨.Name x p2, it, [], 0⟩] scope pos) ρ rs K := by
  intro σ H G Q he hs hx hq
  have nd : c.X.N.Nodup := by rw [c.hN]; exact c.nd
  have hi : c.X.N[j]? = some x := by rw [c.hN]; exact hj.get
  refine tE_of (pe_lc (own := [(x, j)]) (g := gName j) (tt := tYes) (te := tBE c.X scope elt) (c.calm hcm) nd pi_t (by rw [c.hN, c.hsc]; exact hok) (fun s H C cl fp => pg_name nd hi (.inl (by show (relS scope c.X.env.scope).names.lookup x = _; rw [c.hsc]; exact hr)) (.inr (by show (relS scope c.X.env.scope).names.lookup x = _; rw [c.hsc]; exact hr))) (fun _ _ _ _ _ => pts_nil) (fun s H C cl fp => pe_b s H C cl fp) hf) ?_
  refine lc_runO (K := K) hso hj ?_ he hs hx hq
  refine fun σ H G R a b d k => h σ H G R a b d fun J H' G' items keep rs' t o jo q => k J H' G' items keep rs' t o jo ?_
  obtain ⟨α, xs, enc, hh, e1, e2, e3, ⟨ρw, w1, w2⟩, e5⟩ := q
  refine ⟨α, xs, enc, fun _ => true, hh, e1, e2, e3, ⟨ρw, w1, fun y hy => ?_⟩, by
    have z : xs.filter (fun _ => true) = xs := List.filter_eq_self.mpr fun _ _ => rfl
    rw [z]; exact e5⟩
  obtain ⟨ρ2, s1, s2⟩ := w2 y hy
  exact ⟨ρ2, s1, fun _ => s2, fun A σ H G Q _ o2 hq => hq H G (Stp.refl _ _) o2⟩
theorem dx_lc1O {elt t : Expr} {scope : Scope} {j : Nat} {K : Sl → List Mem → Prop} (hj : IxOf N₀ x j) (hok : BlkOk N₀ sc₀ scope [(x, j)])
    (h : DI c (.Name x p2) it ρ rs fun items keep r => ∃ (α : Type) (xs : List α) (enc : α → Sl) (p : α → Bool) (h : α → PyData), items = xs.map enc ∧ (∀ A : Mem, keep (A :: r)) ∧ xs.length ≤ 100000 ∧
      (∃ ρw, SetS N₀ ρ x j .un ρw ∧ ∀ y ∈ xs, ∃ ρ2, SetS N₀ ρw x j (enc y) ρ2 ∧ TsD c scope t ρ2 r (p y) ∧ (p y = true → ElD c scope elt ρ2 r (h y))) ∧ ∀ D, K (.r (.ref D)) (lstM D (((xs.filter p).map h).map .d) :: r))
    (hso : ScOk (relS scope sc₀) := by decide +kernel) (hcm : cm₀ = true := by rfl) (hl : scope.names.lookup x = some .local := by rfl) (hr : (relS scope sc₀).names.lookup x = some .local := by rfl) (hf : ∀ y, foldedSetIterable it c.X.env y = pure y := by intro _; rfl) : DX c (.ListComp elt [⟨.Name x p2, it, [t], 0⟩] scope pos) ρ rs K := by
  intro σ H G Q he hs hx hq
  have nd : c.X.N.Nodup := by rw [c.hN]; exact c.nd
  have hi : c.X.N[j]? = some x := by rw [c.hN]; exact hj.get
  refine tE_of (pe_lc (own := [(x, j)]) (g := gName j) (tt := tBT c.X scope t) (te := tBE c.X scope elt) (c.calm hcm) nd pi_t (by rw [c.hN, c.hsc]; exact hok) (fun s H C cl fp => pg_name nd hi (.inl (by show (relS scope c.X.env.scope).names.lookup x = _; rw [c.hsc]; exact hr)) (.inr (by show (relS scope c.X.env.scope).names.lookup x = _; rw [c.hsc]; exact hr))) (fun s H C cl fp => pts_one (pt_b s H C cl fp)) (fun s H C cl fp => pe_b s H C cl fp) hf) ?_
  refine lc_runO (K := K) hso hj ?_ he hs hx hq
  refine fun σ H G R a b d k => h σ H G R a b d fun J H' G' items keep rs' t o jo q => k J H' G' items keep rs' t o jo ?_
  obtain ⟨α, xs, enc, p, hh, e1, e2, e3, ⟨ρw, w1, w2⟩, e5⟩ := q
  refine ⟨α, xs, enc, p, hh, e1, e2, e3, ⟨ρw, w1, fun y hy => ?_⟩, e5⟩
  obtain ⟨ρ2, s1, s2, s3⟩ := w2 y hy
  refine ⟨ρ2, s1, s3, fun A σ H G Q ee o2 hq => ?_⟩
  intro s0 H0 C0 cl0 fp0
  refine s2 A s0 H0 C0 cl0 fp0 hso σ H G _ ee o2 xok_blk fun k H1 G1 r1 t1 o1 k1 => ?_
  obtain ⟨rfl, rfl⟩ := k1
  exact hq H1 G1 t1 o1
theorem ds_lc0O {P : Post} {y : Str} {py : Pos} {i : Nat} {elt : Expr} {scope : Scope} {j : Nat} (hiy : IxOf N₀ y i) (hj : IxOf N₀ x j) (hok : BlkOk N₀ sc₀ scope [(x, j)])
    (h : DI c (.Name x p2) it ρ rs fun items keep r => ∃ (α : Type) (xs : List α) (enc : α → Sl) (h : α → PyData), items = xs.map enc ∧ (∀ A : Mem, keep (A :: r)) ∧ xs.length ≤ 100000 ∧
      (∃ ρw, SetS N₀ ρ x j .un ρw ∧ ∀ y ∈ xs, ∃ ρ2, SetS N₀ ρw x j (enc y) ρ2 ∧ ElD c scope elt ρ2 r (h y)) ∧ ∀ D, ∃ ρ', SetS N₀ ρ y i (.r (.ref D)) ρ' ∧ P.nx ρ' (lstM D ((xs.map h).map .d) :: r))
    (hso : ScOk (relS scope sc₀) := by decide +kernel) (hcm : cm₀ = true := by rfl) (hl : scope.names.lookup x = some .local := by rfl) (hr : (relS scope sc₀).names.lookup x = some .local := by rfl) (hyl : sc₀.names.lookup y = some .local := by rfl) (hkd : sc₀.kind = .function := by rfl) (hln : (py.line == pos.line) = true := by rfl) (hny : (scope.names.any fun (n, k) => n == y && (k == .local || k == .cell)) = false := by first | rfl | decide +kernel)
    (hf : ∀ y, foldedSetIterable it c.X.env y = pure y := by intro _; rfl) : DS c (.Assign [.Name y py] (.ListComp elt [⟨.Name x p2, it, [], 0⟩] scope pos) pos') ρ rs P := by
  intro σ H G D he hs hx hd
  have nd : c.X.N.Nodup := by rw [c.hN]; exact c.nd
  have hi : c.X.N[j]? = some x := by rw [c.hN]; exact hj.get
  have hyi : c.X.N[i]? = some y := by rw [c.hN]; exact hiy.get
  refine tS_of (ps_setLc (own := [(x, j)]) (g := gName j) (tt := tYes) (te := tBE c.X scope elt) (c.calm hcm) nd hyi (by rw [c.hsc]; exact hyl) (sw_true (by rw [c.hsc]; exact hkd) (by rw [c.hsc]; exact hyl) hln hny) pi_t (by rw [c.hN, c.hsc]; exact hok) (fun s H C cl fp => pg_name nd hi (.inl (by show (relS scope c.X.env.scope).names.lookup x = _; rw [c.hsc]; exact hr)) (.inr (by show (relS scope c.X.env.scope).names.lookup x = _; rw [c.hsc]; exact hr))) (fun _ _ _ _ _ => pts_nil) (fun s H C cl fp => pe_b s H C cl fp) hf) ?_
  refine lc_runO (K := fun s r => ∃ ρ', SetS N₀ ρ y i s.plain ρ' ∧ P.nx ρ' r) (Q := fun v H' => D.nx (σ.set i (some v)) H') hso hj ?_ he hs hx fun v H' G' sl r' t q o ⟨ρ', z, k⟩ => hd.nx _ H' G' ρ' r' t (z.env q.ok.plain (he.stp t)) o k
  refine fun σ H G R a b d k => h σ H G R a b d fun J H' G' items keep rs' t o jo q => k J H' G' items keep rs' t o jo ?_
  obtain ⟨α, xs, enc, hh, e1, e2, e3, ⟨ρw, w1, w2⟩, e5⟩ := q
  refine ⟨α, xs, enc, fun _ => true, hh, e1, e2, e3, ⟨ρw, w1, fun y hy => ?_⟩, by
    have z : xs.filter (fun _ => true) = xs := List.filter_eq_self.mpr fun _ _ => rfl
    rw [z]; exact e5⟩
  obtain ⟨ρ2, s1, s2⟩ := w2 y hy
  exact ⟨ρ2, s1, fun _ => s2, fun A σ H G Q _ o2 hq => hq H G (Stp.refl _ _) o2⟩
theorem ds_lc1O {P : Post} {y : Str} {py : Pos} {i : Nat} {elt t : Expr} {scope : Scope} {j : Nat} (hiy : IxOf N₀ y i) (hj : IxOf N₀ x j) (hok : BlkOk N₀ sc₀ scope [(x, j)])
    (h : DI c (.Name x p2) it ρ rs fun items keep r => ∃ (α : Type) (xs : List α) (enc : α → Sl) (p : α → Bool) (h : α → PyData), items = xs.map enc ∧ (∀ A : Mem, keep (A :: r)) ∧ xs.length ≤ 100000 ∧
      (∃ ρw, SetS N₀ ρ x j .un ρw ∧ ∀ y ∈ xs, ∃ ρ2, SetS N₀ ρw x j (enc y) ρ2 ∧ TsD c scope t ρ2 r (p y) ∧ (p y = true → ElD c scope elt ρ2 r (h y))) ∧ ∀ D, ∃ ρ', SetS N₀ ρ y i (.r (.ref D)) ρ' ∧ P.nx ρ' (lstM D (((xs.filter p).map h).map .d) :: r))
    (hso : ScOk (relS scope sc₀) := by decide +kernel) (hcm : cm₀ = true := by rfl) (hl : scope.names.lookup x = some .local := by rfl) (hr : (relS scope sc₀).names.lookup x = some .local := by rfl) (hyl : sc₀.names.lookup y = some .local := by rfl) (hkd : sc₀.kind = .function := by rfl) (hln : (py.line == pos.line) = true := by rfl) (hny : (scope.names.any fun (n, k) => n == y && (k == .local || k == .cell)) = false := by first | rfl | decide +kernel)
    (hf : ∀ y, foldedSetIterable it c.X.env y = pure y := by intro _; rfl) : DS c (.Assign [.Name y py] (.ListComp elt [⟨.Name x p2, it, [t], 0⟩] scope pos) pos') ρ rs P := by
  intro σ H G D he hs hx hd
  have nd : c.X.N.Nodup := by rw [c.hN]; exact c.nd
  have hi : c.X.N[j]? = some x := by rw [c.hN]; exact hj.get
  have hyi : c.X.N[i]? = some y := by rw [c.hN]; exact hiy.get
  refine tS_of (ps_setLc (own := [(x, j)]) (g := gName j) (tt := tBT c.X scope t) (te := tBE c.X scope elt) (c.calm hcm) nd hyi (by rw [c.hsc]; exact hyl) (sw_true (by rw [c.hsc]; exact hkd) (by rw [c.hsc]; exact hyl) hln hny) pi_t (by rw [c.hN, c.hsc]; exact hok) (fun s H C cl fp => pg_name nd hi (.inl (by show (relS scope c.X.env.scope).names.lookup x = _; rw [c.hsc]; exact hr)) (.inr (by show (relS scope c.X.env.scope).names.lookup x = _; rw [c.hsc]; exact hr))) (fun s H C cl fp => pts_one (pt_b s H C cl fp)) (fun s H C cl fp => pe_b s H C cl fp) hf) ?_
  refine lc_runO (K := fun s r => ∃ ρ', SetS N₀ ρ y i s.plain ρ' ∧ P.nx ρ' r) (Q := fun v H' => D.nx (σ.set i (some v)) H') hso hj ?_ he hs hx fun v H' G' sl r' t q o ⟨ρ', z, k⟩ => hd.nx _ H' G' ρ' r' t (z.env q.ok.plain (he.stp t)) o k
  refine fun σ H G R a b d k => h σ H G R a b d fun J H' G' items keep rs' t o jo q => k J H' G' items keep rs' t o jo ?_
  obtain ⟨α, xs, enc, p, hh, e1, e2, e3, ⟨ρw, w1, w2⟩, e5⟩ := q
  refine ⟨α, xs, enc, p, hh, e1, e2, e3, ⟨ρw, w1, fun y hy => ?_⟩, e5⟩
  obtain ⟨ρ2, s1, s2, s3⟩ := w2 y hy
  refine ⟨ρ2, s1, s3, fun A σ H G Q ee o2 hq => ?_⟩
  intro s0 H0 C0 cl0 fp0
  refine s2 A s0 H0 C0 cl0 fp0 hso σ H G _ ee o2 xok_blk fun k H1 G1 r1 t1 o1 k1 => ?_
  obtain ⟨rfl, rfl⟩ := k1
  exact hq H1 G1 t1 o1
end
section
variable {c : Ctx m₀ N₀ sc₀ lv₀ xp₀ fF₀ cm₀} {e a b o : Expr} {es : List Expr} {ρ ρ' : List Sl} {rs : List Mem} {K : Sl → List Mem → Prop} {P : Post} {x f : Str} {pos pos' p2 : Pos} {s1 s2 : Sl}
theorem cut_all {G : Fp} {H : Hp} {vs : List V} {ss : List Sl} (h : SlAll G H vs ss) (lo hi : Option Int) : SlAll G H (cutV vs lo hi) (cutL ss lo hi) := by
  have hd : ∀ (n : Nat) {vs : List V} {ss : List Sl}, SlAll G H vs ss → SlAll G H (vs.drop n) (ss.drop n) := by
    intro n
    induction n with
    | zero => intro vs ss h; exact h
    | succ n ih =>
      intro vs ss h
      match vs, ss, h with
      | [], [], _ => exact trivial
      | _ :: vs, _ :: ss, h => exact ih h.2
  have ht : ∀ (n : Nat) {vs : List V} {ss : List Sl}, SlAll G H vs ss → SlAll G H (vs.take n) (ss.take n) := by
    intro n
    induction n with
    | zero => intro vs ss h; cases vs <;> cases ss <;> exact trivial
    | succ n ih =>
      intro vs ss h
      match vs, ss, h with
      | [], [], _ => exact trivial
      | _ :: vs, _ :: ss, h => exact ⟨h.1, ih h.2⟩
  unfold cutV cutL
  rw [h.length]
  exact ht _ (hd _ h)
theorem ex_seq {s : Sl} {ds : List PyData} {K : List PyData → Prop} (e : s.asSeq = some ds) (h : K ds) : ∃ ds, s.asSeq = some ds ∧ K ds := ⟨ds, e, h⟩
def isI : PyData → Bool
  | .int _ => true
  | _ => false
/-- any item of a list of ints -/
theorem od_ixI {rs : List Mem} {K : Sl → List Mem → Prop} {s1 : Sl} {ds : List PyData} {i : Int} (h : s1.asSeq = some ds) (hi : 0 ≤ i ∧ i < ds.length) (ha : ds.all isI = true) (k : ∀ n : Int, K (.d (.int n)) rs) : OpD (rIx KC.K) s1 (.d (.int i)) rs K := od_ixA h hi fun d hd => by
  have := List.all_eq_true.mp ha d hd
  cases d with
  | int n => exact k n
  | _ => cases this
theorem layAll : ∀ {ds : List PyData}, (∀ d ∈ ds, d.canLay0 = true) → PyData.canLayAll0 ds = true
  | [], _ => rfl
  | d :: ds, h => by
    show (d.canLay0 && PyData.canLayAll0 ds) = true
    rw [h d List.mem_cons_self, layAll fun x hx => h x (List.mem_cons_of_mem _ hx)]; rfl
theorem depAll {n : Nat} : ∀ {ds : List PyData}, (∀ d ∈ ds, d.depth ≤ n) → PyData.depthAll ds ≤ n
  | [], _ => Nat.zero_le _
  | d :: ds, h => by
    show max d.depth (PyData.depthAll ds) ≤ n
    exact Nat.max_le.mpr ⟨h d List.mem_cons_self, depAll fun x hx => h x (List.mem_cons_of_mem _ hx)⟩
theorem shaped_list {ds : List PyData} (n : Nat) (hn : n + 1 ≤ 64) (h : ∀ d ∈ ds, d.canLay0 = true ∧ d.depth ≤ n) : SeqAt.shaped (.list ds) = true := by
  unfold SeqAt.shaped
  rw [Bool.and_eq_true]
  refine ⟨layAll fun d hd => (h d hd).1, decide_eq_true ?_⟩
  have := depAll (n := n) fun d hd => (h d hd).2
  show PyData.depthAll ds + 1 ≤ 64
  omega
theorem eqv_t2 (a b d e : Int) : PyData.eqv (.tuple [.int a, .int b]) (.tuple [.int d, .int e]) = (decide (a = d) && decide (b = e)) := by
  show ((a == d) && ((b == e) && true)) = _
  rw [Bool.and_true]
  by_cases h : a = d <;> by_cases h2 : b = e <;> simp [h, h2]
def Has (rs Bs : List Mem) : Prop := ∃ rest, Grab rs Bs rest
theorem has_nil {rs : List Mem} : Has rs [] := ⟨rs, .nil⟩
theorem has_cons {rs Bs : List Mem} {A : Mem} {f : List Mem → List Mem} (pk : Pick rs A f) (h : Has (f []) Bs) : Has rs (A :: Bs) := h.elim fun r g => ⟨r, .cons pk g⟩
theorem ent_has {rs Bs : List Mem} (h : Has rs Bs) : Ent rs Bs := h.elim fun _ g => ent_grab g
theorem cut_1 {α : Type} (xs : List α) : cutL xs (some 1) none = xs.drop 1 := by
  unfold cutL HT.sIx
  simp only [show ¬ ((1 : Int) < 0) by decide, if_false]
  rw [show (1 : Int).toNat = 1 from rfl]
  cases xs with
  | nil => rfl
  | cons a l =>
    rw [List.length_cons, Nat.min_eq_left (by omega), List.drop_succ_cons, List.drop_zero]
    exact List.take_of_length_le (by simp)
/-- xs[lo:hi] of an owned list, owned -/
theorem sd_own {p : Addr} {ss : List Sl} {f : List Mem → List Mem} {lo hi : Option Int} (pk : Pick rs (lstM p ss) f) (k : ∀ q, K (.r (.ref q)) (lstM q (cutL ss lo hi) :: rs)) : SlD (uSl KC.K) (.r (.ref p)) lo hi rs K := fun G H x Q hx hs hq => by
  have ex : x = .ref p := hx
  subst ex
  obtain ⟨vs, hp, al, _, _⟩ := lst_at pk hs
  refine .inl ⟨p, vs, rfl, .inl (.inl hp), fun z hz => ?_⟩
  obtain ⟨t, o⟩ := own_new hs hz (cut_all al lo hi)
  exact hq _ _ _ (.r (.ref z)) _ t rfl o (k z)
theorem sd_t42 {x1 x2 x3 x4 : PyData} (k : K (.d (.tuple [x1, x2])) rs) : SlD (uSl KC.K) (.d (.tuple [x1, x2, x3, x4])) none (some 2) rs K := sd_tup (by simp only [List.length_cons, List.length_nil]; decide) k
theorem sd_t4f2 {x1 x2 x3 x4 : PyData} (k : K (.d (.tuple [x3, x4])) rs) : SlD (uSl KC.K) (.d (.tuple [x1, x2, x3, x4])) (some 2) none rs K := sd_tup (by simp only [List.length_cons, List.length_nil]; decide) k
/-- list(xs) of an owned list, owned -/
theorem dx_listO (h : DX c a ρ rs fun s r1 => ∃ p ss f, s = .r (.ref p) ∧ Pick r1 (lstM p ss) f ∧ ∀ q, K (.r (.ref q)) (lstM q ss :: r1)) (hg : KdIn sc₀.names ("list" : Str) .globalImplicit := by first | ((with_reducible (repeat (first | exact KdIn.zero | apply KdIn.succ))); (first | (all_goals fail) | fail)) | exact kd_of rfl) (he : starEach [a] c.X.env = (false, eval a c.X.env) :: starEach [] c.X.env := by rfl) :
    DX c (.Call (.Name "list" p2) [a] [] pos) ρ rs K := by
  refine dx_callTy (c.ck ▸ call_list_of) c.bl.list b_list (da_cons (fun σ H G Q a1 a2 a3 a4 => h σ H G Q a1 a2 a3 fun v H' G' sl rs' t r o ⟨p, ss, f, e, pk, k⟩ => a4 v H' G' sl rs' t r o (da_nil ?_)) he) hg (he := he) (hpl := rfl)
  subst e
  intro G H vs Q hv hs hq
  match vs, hv with
  | [v], hv =>
    have ev : v = .ref p := hv.1
    subst ev
    obtain ⟨ws, hp, al, _, _⟩ := lst_at pk hs
    refine ⟨p, ws, rfl, .inl (.inl (.inl hp)), fun l hl => ?_⟩
    obtain ⟨t, o⟩ := own_new hs hl al
    exact hq _ _ _ (.r (.ref l)) _ t rfl o (k l)
/-- list(xs) of a plain one, owned -/
theorem dx_listD (h : DX c a ρ rs fun s r1 => ∃ ds, s.plain.asSeq = some ds ∧ ∀ q, K (.r (.ref q)) (lstM q (ds.map .d) :: r1)) (hg : KdIn sc₀.names ("list" : Str) .globalImplicit := by first | ((with_reducible (repeat (first | exact KdIn.zero | apply KdIn.succ))); (first | (all_goals fail) | fail)) | exact kd_of rfl) (he : starEach [a] c.X.env = (false, eval a c.X.env) :: starEach [] c.X.env := by rfl) :
    DX c (.Call (.Name "list" p2) [a] [] pos) ρ rs K := by
  refine dx_callTy (c.ck ▸ call_list_of) c.bl.list b_list (da_cons (fun σ H G Q a1 a2 a3 a4 => h σ H G Q a1 a2 a3 fun v H' G' sl rs' t r o ⟨ds, e, k⟩ => a4 v H' G' sl rs' t r o (da_nil ?_)) he) hg (he := he) (hpl := rfl)
  intro G H vs Q hv hs hq
  match vs, hv with
  | [v], hv =>
    obtain ⟨p, ws, rfl, r, al⟩ := hv.1.seq e
    refine ⟨p, ws, rfl, r.imp LsAt.sq .inl, fun l hl => ?_⟩
    obtain ⟨t, o⟩ := own_new hs hl (SlAll.of_is al)
    exact hq _ _ _ (.r (.ref l)) _ t rfl o (k l)
end
end PW

set_option maxHeartbeats 1000000
/-! Texts. -/
namespace PW
open PySem L2
variable [KC]
variable {m₀ : Mo} {N₀ : List Str} {sc₀ : Scope} {lv₀ : Nat} {xp₀ : Addr → List Sl → List Mem → Prop} {fF₀ cm₀ : Bool}
/-- a method of a text with one argument, as the text has it -/
structure M1ok (X : Cx) (o : Expr) (m : Str) (e : Expr) (apos pos : Pos) : Prop where
  hs : starEach [e] X.env = [(false, eval e X.env)]
  hb : attributeBase o m X.env (eval o X.env) = eval o X.env
  hl : (apos.endLine == pos.line) = true
section
variable {c : Ctx m₀ N₀ sc₀ lv₀ xp₀ fF₀ cm₀} {e a b o : Expr} {es : List Expr} {ρ ρ' : List Sl} {rs : List Mem} {K : Sl → List Mem → Prop} {P : Post} {x f : Str} {pos pos' p2 apos : Pos} {s1 s2 : Sl}
theorem dx_join (h : DX c o ρ rs fun s r => ∃ z, s = .d (.str z) ∧ DX c a ρ r fun s2 r2 => ∃ ys : List Str, s2.asList = some (ys.map .str) ∧ (ys.map (·.length)).sum + ys.length * z.length ≤ 16777216 ∧ K (.d (.str (Txt.join z ys))) r2)
    (hm : M1ok c.X o "join" a apos pos := by exact ⟨rfl, rfl, rfl⟩) : DX c (.Call (.Attribute o "join" apos) [a] [] pos) ρ rs K := by
  intro σ H G Q he hs hx hq
  refine tE_of (pe_join pe_t pe_t hm.hs hm.hb hm.hl) ?_
  refine h σ H G _ he hs hx fun v H1 G1 s1 r1 t1 h1 o1 k1 => ?_
  obtain ⟨z, rfl, k1⟩ := k1
  refine ⟨⟨z, h1.ok.str⟩, ?_⟩
  refine k1 σ H1 G1 _ (he.stp t1) o1 (hx.stp t1) fun w H2 G2 s2 r2 t2 h2 o2 k2 => ?_
  obtain ⟨ys, ey, hb, k2⟩ := k2
  obtain ⟨p, vs, rfl, rd, al⟩ := h2.ok.list ey
  have ev : vs = ys.map V.str := by
    clear ey hb k2 rd
    induction ys generalizing vs with
    | nil => cases al; rfl
    | cons y ys ih =>
      cases al with
      | cons q t => cases q; rw [ih _ t]; rfl
  subst ev
  exact ⟨z, p, ys, h1.ok.str, rfl, .inl (c.ck ▸ rd.sq), hb, hq _ H2 G2 (.d (.str _)) r2 (t1.trans t2) (Is.str _) o2 k2⟩
theorem dx_find (h : DX c o ρ rs fun s r => ∃ z, s = .d (.str z) ∧ DX c a ρ r fun s2 r2 => ∃ y, s2 = .d (.str y) ∧ K (.d (.int (Txt.find z y))) r2)
    (hm : M1ok c.X o "find" a apos pos := by exact ⟨rfl, rfl, rfl⟩) : DX c (.Call (.Attribute o "find" apos) [a] [] pos) ρ rs K := by
  intro σ H G Q he hs hx hq
  refine tE_of (pe_m1 PySem.F.slot_str_find PySem.F.type_str_find mt_find pe_t pe_t hm.hs hm.hb hm.hl) ?_
  refine h σ H G _ he hs hx fun v H1 G1 s1 r1 t1 h1 o1 k1 => ?_
  obtain ⟨z, rfl, k1⟩ := k1
  refine ⟨⟨z, h1.ok.str⟩, ?_⟩
  refine k1 σ H1 G1 _ (he.stp t1) o1 (hx.stp t1) fun w H2 G2 s2 r2 t2 h2 o2 k2 => ?_
  obtain ⟨y, rfl, k2⟩ := k2
  exact ⟨z, y, h1.ok.str, by rw [h2.ok.str], hq _ H2 G2 (.d (.int _)) r2 (t1.trans t2) (Is.int _) o2 k2⟩
end
def nm : Option Str → PyData
  | none => .none
  | some z => .str z
def okO : Option Str → Prop
  | none => True
  | some z => PyData.strOk z = true
theorem od_isnm {rs : List Mem} {K : Sl → List Mem → Prop} {n : Option Str} (k : K (.d (.bool n.isNone)) rs) : OpD uIs (.d (nm n)) (.d .none) rs K := by
  cases n with
  | none => exact od_is rfl k
  | some z => exact od_is rfl k
theorem od_isnnm {rs : List Mem} {K : Sl → List Mem → Prop} {n : Option Str} (k : K (.d (.bool (!n.isNone))) rs) : OpD uIsn (.d (nm n)) (.d .none) rs K := by
  cases n with
  | none => exact od_isn rfl k
  | some z => exact od_isn rfl k
theorem od_nenm {rs : List Mem} {K : Sl → List Mem → Prop} {n k : Option Str} (h : K (.d (.bool (!decide (n = k)))) rs) : OpD (uNe KC.K) (.d (nm n)) (.d (nm k)) rs K := by
  cases n with
  | none => cases k with
    | none => exact od_ne rfl rfl .nn h
    | some z => exact od_ne rfl rfl (.ns z) h
  | some y => cases k with
    | none => exact od_ne rfl rfl (.sn y) h
    | some z =>
      refine od_ne rfl rfl (.str y z) ?_
      have e : decide (y = z) = decide (some y = some z) := by by_cases q : y = z <;> simp [q]
      rw [e]; exact h
theorem atI_mem {α : Type} {xs : List α} {i : Int} (h : -(xs.length : Int) ≤ i ∧ i < xs.length) : ∃ v, atI xs i = some v ∧ v ∈ xs := by
  by_cases h0 : 0 ≤ i
  · obtain ⟨v, h1, h2⟩ := atI_in (xs := xs) (i := i) ⟨h0, h.2⟩
    exact ⟨v, h1, List.mem_of_getElem? h2⟩
  · have hj : (i + xs.length).toNat < xs.length := by omega
    refine ⟨xs[(i + xs.length).toNat], ?_, List.getElem_mem hj⟩
    unfold atI ixN
    rw [if_neg h0, if_pos h.1]
    simp [hj]
theorem ex_seti {rs : List Mem} {p : Addr} {ss : List Sl} {f : List Mem → List Mem} {k : Int} {j : Nat} {B : Addr → List Sl → (List Mem → List Mem) → Nat → Prop} (pk : Pick rs (lstM p ss) f) (hj : ixN ss.length k = some j) (h : B p ss f j) :
    ∃ p' ss' f' k' j', Sl.r (.ref p) = .r (.ref p') ∧ Sl.d (.int k) = .d (.int k') ∧ Pick rs (lstM p' ss') f' ∧ ixN ss'.length k' = some j' ∧ B p' ss' f' j' := ⟨p, ss, f, k, j, rfl, rfl, pk, hj, h⟩
theorem end_rtE {fr : Mem} {res : Sl → List Mem → Prop} {b b' : Bool} (e : b = b') (h : res (.d (.bool b)) []) : (bodyPost fr res).rt (.d (.bool b')) [fr] := fin [] ent_refl (e ▸ h)
theorem sd_t625 {rs : List Mem} {K : Sl → List Mem → Prop} {x1 x2 x3 x4 x5 x6 : PyData} (k : K (.d (.tuple [x3, x4, x5])) rs) : SlD (uSl KC.K) (.d (.tuple [x1, x2, x3, x4, x5, x6])) (some 2) (some 5) rs K := sd_tup (by simp only [List.length_cons, List.length_nil]; decide) k
section
variable {c : Ctx m₀ N₀ sc₀ lv₀ xp₀ fF₀ cm₀} {ρ : List Sl} {rs : List Mem} {P : Post} {A B : List Stmt}
/-- both ways meet again -/
theorem ite_cut {k : Bool} (I : List Sl → List Mem → Prop) (h1 : k = true → DSs c A ρ rs { P with nx := I }) (h2 : k = false → DSs c B ρ rs { P with nx := I }) (h3 : ∀ ρ' r', I ρ' r' → P.nx ρ' r') : if k = true then DSs c A ρ rs P else DSs c B ρ rs P := by
  cases k with
  | true => exact dss_weak (h1 rfl) h3 (fun _ _ z => z) (fun _ _ z => z) fun _ _ z => z
  | false => exact dss_weak (h2 rfl) h3 (fun _ _ z => z) (fun _ _ z => z) fun _ _ z => z
end
theorem fold_signs (g : Str) (hg : g.cps = #[]) : ∀ (ns : List Nat) (acc : Array Nat), (ns.map fun n => (⟨#[n]⟩ : Str)).foldl (fun acc p => acc ++ g.cps ++ p.cps) acc = acc ++ ns.toArray
  | [], acc => by simp
  | n :: ns, acc => by
    rw [List.map_cons, List.foldl_cons, fold_signs g hg ns, hg]
    apply Array.ext'
    simp
theorem join_signs (g : Str) (hg : g.cps = #[]) (ns : List Nat) : Txt.join g (ns.map fun n => (⟨#[n]⟩ : Str)) = ⟨ns.toArray⟩ := by
  unfold Txt.join Builtin.Str.glued
  cases ns with
  | nil => rfl
  | cons n ns =>
    rw [List.map_cons, List.headD_cons, List.drop_succ_cons, List.drop_zero, fold_signs g hg]
    congr 1
    apply Array.ext'
    simp
theorem sum_ones (ns : List Nat) : ((ns.map fun n => (⟨#[n]⟩ : Str)).map (·.length)).sum = ns.length := by
  induction ns with
  | nil => rfl
  | cons n ns ih => rw [List.map_cons, List.map_cons, List.sum_cons, ih, List.length_cons, Nat.add_comm]; rfl
/-! ### signs that are signs -/
theorem ok_mk {ns : List Nat} (h : ∀ n ∈ ns, n < 1114112) : PyData.strOk ⟨ns.toArray⟩ = true := by
  unfold PyData.strOk
  rw [Array.all_eq_true_iff_forall_mem]
  intro n hn
  exact decide_eq_true (h n (by simpa using hn))
theorem ok_mem {z : Str} (h : PyData.strOk z = true) : ∀ n ∈ z.cps.toList, n < 1114112 := by
  unfold PyData.strOk at h
  rw [Array.all_eq_true_iff_forall_mem] at h
  intro n hn
  exact of_decide_eq_true (h n (by simpa using hn))
theorem ok_cut {z : Str} (h : PyData.strOk z = true) (lo hi : Option Int) : PyData.strOk (cutS z lo hi) = true := by
  unfold cutS
  exact ok_mk fun n hn => ok_mem h n (List.mem_of_mem_drop (List.mem_of_mem_take hn))
theorem ok_app {x y : Str} (h : PyData.strOk x = true) (h2 : PyData.strOk y = true) : PyData.strOk (x ++ y) = true := by
  have e : (x ++ y : Str) = ⟨(x.cps.toList ++ y.cps.toList).toArray⟩ := by
    show (⟨x.cps ++ y.cps⟩ : Str) = _
    congr 1
    apply Array.ext'
    simp
  rw [e]
  exact ok_mk fun n hn => (List.mem_append.mp hn).elim (ok_mem h n) (ok_mem h2 n)
theorem cut_lenS (z : Str) (lo hi : Option Int) : (cutS z lo hi).length ≤ z.length := by
  unfold cutS
  show (List.toArray _).size ≤ z.cps.size
  rw [List.size_toArray, List.length_take, List.length_drop]
  have : z.cps.toList.length = z.cps.size := by simp
  omega
theorem app_lenS (x y : Str) : (x ++ y : Str).length = x.length + y.length := by
  show (x.cps ++ y.cps).size = _
  rw [Array.size_append]; rfl
end PW

set_option maxHeartbeats 1000000
/-! Backwards, in, times. -/
namespace PW
open PySem L2
variable [KC]
variable {m₀ : Mo} {N₀ : List Str} {sc₀ : Scope} {lv₀ : Nat} {xp₀ : Addr → List Sl → List Mem → Prop} {fF₀ cm₀ : Bool}
section
variable {c : Ctx m₀ N₀ sc₀ lv₀ xp₀ fF₀ cm₀} {e a b o tg : Expr} {es : List Expr} {ρ ρ' : List Sl} {rs : List Mem} {K : Sl → List Mem → Prop} {KI : List Sl → (List Mem → Prop) → List Mem → Prop} {P : Post} {x f : Str} {pos pos' p2 apos : Pos} {s1 s2 : Sl}
/-- for x in reversed(xs) -/
theorem di_rev (h : DA c [a] ρ rs fun ss r => ∃ s ds, ss = [s] ∧ s.asList = some ds ∧ KI (ds.map .d).reverse (fun _ => True) r) (hg : KdIn sc₀.names ("reversed" : Str) .globalImplicit := by first | ((with_reducible (repeat (first | exact KdIn.zero | apply KdIn.succ))); (first | (all_goals fail) | fail)) | exact kd_of rfl)
    (hs : starEach [a] c.X.env = [(false, eval a c.X.env)] := by rfl) : DI c tg (.Call (.Name "reversed" p2) [a] [] pos) ρ rs KI := by
  intro σ H G R he hS hx hr
  refine tI_of (c.ck ▸ pi_reversed (c_gl hg) (by rw [c.hm.mg]; exact c.bl.reversed) pa_t hs) ?_
  refine h σ H G _ he hS hx fun vs H1 G1 ss r1 t1 h1 o1 k1 => ?_
  obtain ⟨s, ds, rfl, e1, k1⟩ := k1
  match vs, h1 with
  | [v], h1 =>
    obtain ⟨p, xs, rfl, rd, al⟩ := h1.1.list e1
    refine ⟨p, xs, rfl, rd.sq, hr _ H1 G1 _ _ r1 t1 o1 (fun G2 H2 r2 t2 o2 _ i => ?_) k1⟩
    have rd2 : SqL KC.K H2 p xs := (ls_stp0 t2.keep t2.sub rd).sq
    have al2 := al.stp t2
    have hlen : ((ds.map Sl.d).reverse).length = xs.length := by rw [List.length_reverse, List.length_map, al.length]
    constructor
    · intro hi
      rw [hlen] at hi
      refine ⟨⟨hi, xs, xs[xs.length - 1 - i], rd2, by simp⟩, fun y H3 z => ?_⟩
      obtain ⟨e3, z⟩ := z
      obtain ⟨d, hd, hI⟩ := al2.getV (i := xs.length - 1 - i) (v := y) (z xs rd2)
      refine ⟨e3, .d d, ?_, hI⟩
      rw [List.getElem?_reverse (by rw [List.length_map, ← al.length]; exact hi), List.length_map, ← al.length, List.getElem?_map, hd]; rfl
    · intro hi
      rw [hlen] at hi
      exact hi
/-- d in [..], any data -/
theorem cInD : OpR c.X (compareOp .In) (rInD KC.K) := c.ck ▸ op_inD (by have := c.un; omega)
theorem cNinD : OpR c.X (compareOp .NotIn) (rNotInD KC.K) := c.ck ▸ op_notInD (by have := c.un; omega)
theorem od_inD {d : PyData} {ds : List PyData} (v1 : View rs s1 d) (v2 : View rs s2 (.list ds)) (h1 : SeqAt.shaped d = true) (h2 : SeqAt.shaped (.list ds) = true) (k : K (.d (.bool (ds.any fun z => PyData.eqv z d))) rs) : OpD (rInD KC.K) s1 s2 rs K := fun G H x y Q hx hy hs hq =>
  ⟨d, ds, v1 G H x hx hs, v2 G H y hy hs, h1, h2, give0 hs hq (sl := .d (.bool _)) (Is.bl _) k⟩
theorem od_ninD {d : PyData} {ds : List PyData} (v1 : View rs s1 d) (v2 : View rs s2 (.list ds)) (h1 : SeqAt.shaped d = true) (h2 : SeqAt.shaped (.list ds) = true) (k : K (.d (.bool (!ds.any fun z => PyData.eqv z d))) rs) : OpD (rNotInD KC.K) s1 s2 rs K := fun G H x y Q hx hy hs hq =>
  ⟨d, ds, v1 G H x hx hs, v2 G H y hy hs, h1, h2, give0 hs hq (sl := .d (.bool _)) (Is.bl _) k⟩
theorem all_rep {G : Fp} {H : Hp} {vs : List V} {ss : List Sl} (h : SlAll G H vs ss) : ∀ n : Nat, SlAll G H (List.replicate n vs).flatten (List.replicate n ss).flatten
  | 0 => trivial
  | n + 1 => by
    rw [List.replicate_succ, List.replicate_succ, List.flatten_cons, List.flatten_cons]
    exact h.append (all_rep h n)
/-- [..] * k, owned -/
theorem od_mulO {p : Addr} {ss : List Sl} {g : List Mem → List Mem} {k : Int} (pk : Pick rs (lstM p ss) g) (hk : -(2 ^ 60) ≤ k ∧ k < 2 ^ 60) (hl : ss.length * k.toNat ≤ 100000) (kk : ∀ q, K (.r (.ref q)) (lstM q (List.replicate k.toNat ss).flatten :: rs)) : OpD uMul (.r (.ref p)) (.d (.int k)) rs K := od_r fun G H x y Q hx hy hs hq => by
  have ex : x = .ref p := hx
  subst ex
  obtain ⟨vs, hp, al, _, _⟩ := lst_at pk hs
  refine ⟨p, k, vs, rfl, hy.int, hp, by omega, by omega, by rw [al.length]; exact Nat.le_trans hl (by decide), fun q hq0 => ?_⟩
  obtain ⟨t, o⟩ := own_new hs hq0 (all_rep al k.toNat)
  exact hq _ _ _ (.r (.ref q)) _ t rfl o (kk q)
end
end PW

set_option maxHeartbeats 1000000
/-! Lists of one's own, lent to a call as plain data. -/
namespace PW
open PySem L2
variable [KC]
variable {m₀ : Mo} {N₀ : List Str} {sc₀ : Scope} {lv₀ : Nat} {xp₀ : Addr → List Sl → List Mem → Prop} {fF₀ cm₀ : Bool}
/-! ### data without lists -/
mutual
def noL : PyData → Bool
  | .list _ => false
  | .dict _ => false
  | .tuple ds => noLA ds
  | _ => true
def noLA : List PyData → Bool
  | [] => true
  | d :: ds => noL d && noLA ds
end
/-- G' has, beyond G, only lists -/
def More (G G' : Fp) (H : Hp) : Prop := ∀ a, G' a → G a ∨ ∃ vs, H a = some (.lst vs)
section
variable {G G' : Fp} {H : Hp}
theorem noL_t (ds : List PyData) : noL (.tuple ds) = noLA ds := by simp only [noL]
theorem noL_l (ds : List PyData) : noL (.list ds) = false := by simp only [noL]
theorem noLA_c (d : PyData) (ds : List PyData) : noLA (d :: ds) = (noL d && noLA ds) := by simp only [noLA]
theorem tup_more (m : More G G' H) {a : Addr} {xs : List V} (r : Rd H a (.tup xs)) (n : ¬ G a) : ¬ G' a := fun g => by
  rcases m a g with z | ⟨vs, z⟩
  · exact n z
  · rcases r with r | ⟨o, r⟩
    · rw [z] at r; cases r
    · rw [z] at r; cases r
mutual
theorem Is.more (m : More G G' H) : ∀ {v : V} {d : PyData}, Is G H v d → noL d = true → Is G' H v d
  | _, _, .non, _ => .non
  | _, _, .bl b, _ => .bl b
  | _, _, .int i, _ => .int i
  | _, _, .str x, _ => .str x
  | _, _, .lst (ds := ds) _ _, h => by rw [noL_l ds] at h; cases h
  | _, _, .tup (ds := ds) r n t, h => .tup r (tup_more m r n) (IsAll.more m t ((noL_t ds).symm.trans h))
theorem IsAll.more (m : More G G' H) : ∀ {vs : List V} {ds : List PyData}, IsAll G H vs ds → noLA ds = true → IsAll G' H vs ds
  | _, _, .nil, _ => .nil
  | _, _, .cons (d := d) (ds := ds) a t, h => .cons (Is.more m a (Bool.and_eq_true_iff.mp ((noLA_c d ds).symm.trans h)).1) (IsAll.more m t (Bool.and_eq_true_iff.mp ((noLA_c d ds).symm.trans h)).2)
end
theorem noLA_map {α : Type} {f : α → PyData} (h : ∀ a, noL (f a) = true) : ∀ xs : List α, noLA (xs.map f) = true
  | [] => rfl
  | x :: xs => by
    rw [List.map_cons, noLA_c, h x, noLA_map h xs]; rfl
def noS : Sl → Bool
  | .d x => noL x
  | .n _ => false
  | _ => true
theorem SlOk.more (m : More G G' H) {v : V} {s : Sl} (hn : noS s = true) (h : SlOk G H v s) : SlOk G' H v s := by
  cases s with
  | un => trivial
  | d x => exact Is.more m h hn
  | r u => exact h
  | n ds => cases hn
def noSA (ss : List Sl) : Prop := ∀ s ∈ ss, noS s = true
theorem SlAll.more (m : More G G' H) : ∀ {vs : List V} {ss : List Sl}, noSA ss → SlAll G H vs ss → SlAll G' H vs ss
  | [], [], _, _ => trivial
  | _ :: _, _ :: _, hn, ⟨h, q⟩ => ⟨h.more m (hn _ List.mem_cons_self), SlAll.more m (fun s z => hn s (List.mem_cons_of_mem _ z)) q⟩
  | [], _ :: _, _, h => h.elim
  | _ :: _, [], _, h => h.elim
theorem FldAll.more (m : More G G' H) : ∀ {vs : List (Str × V)} {ss : List (Str × Sl)}, noSA (ss.map (·.2)) → FldAll G H vs ss → FldAll G' H vs ss
  | [], [], _, _ => trivial
  | (_, _) :: _, (_, _) :: _, hn, ⟨e, h, q⟩ => ⟨e, h.more m (hn _ List.mem_cons_self), FldAll.more m (fun s z => hn s (List.mem_cons_of_mem _ z)) q⟩
  | [], _ :: _, _, h => h.elim
  | _ :: _, [], _, h => h.elim
end
/-- a thing without lists in its data -/
def Lnd (A : Mem) : Prop := ∀ F G G' H, A.ok F G H → More G G' H → A.ok F G' H
def LndA (rs : List Mem) : Prop := ∀ A ∈ rs, Lnd A
theorem lnd_lst {p : Addr} {ss : List Sl} (h : noSA ss) : Lnd (lstM p ss) := fun F G G' H ⟨e, vs, hp, al⟩ m => ⟨e, vs, hp, al.more m h⟩
theorem lnd_map {α : Type} {p : Addr} {f : α → PyData} {xs : List α} (h : ∀ a, noL (f a) = true) : Lnd (lstM p ((xs.map f).map .d)) := lnd_lst fun s z => by
  obtain ⟨d, hd, rfl⟩ := List.mem_map.mp z
  obtain ⟨a, _, rfl⟩ := List.mem_map.mp hd
  exact h a
theorem lnd_ins {C p : Addr} {fs : List (Str × Sl)} (h : noSA (fs.map (·.2))) : Lnd (insM C p fs) := fun F G G' H ⟨dx, vs, e, n, h1, h2, al⟩ m => ⟨dx, vs, e, n, h1, h2, al.more m h⟩
theorem lnda_nil : LndA [] := fun _ z => nomatch z
theorem lnda_cons {A : Mem} {rs : List Mem} (h : Lnd A) (t : LndA rs) : LndA (A :: rs) := fun B z => by
  rcases List.mem_cons.mp z with rfl | z
  · exact h
  · exact t B z
theorem sepL.more {G G' : Fp} {H : Hp} (m : More G G' H) : ∀ {rs : List Mem} {F : Fp}, LndA rs → sepL rs F G H → sepL rs F G' H
  | [], F, _, h => h
  | A :: rs, F, hl, ⟨F1, F2, h1, h2, d, e⟩ => ⟨F1, F2, hl A List.mem_cons_self F1 G G' H h1 m, sepL.more m (fun B z => hl B (List.mem_cons_of_mem _ z)) h2, d, e⟩
theorem lnd_ex {α : Type} {fam : α → List Mem} (h : ∀ q, LndA (fam q)) : Lnd (exM fam) := fun F G G' H ⟨q, z⟩ m => ⟨q, sepL.more m (h q) z⟩
/-! ### lists lent -/
def lentM (L : List (Addr × List PyData)) : List Mem := L.map fun q => lstM q.1 (q.2.map .d)
theorem lent_nil : lentM [] = [] := rfl
theorem lent_cons (p : Addr) (ds : List PyData) (L : List (Addr × List PyData)) : lentM ((p, ds) :: L) = lstM p (ds.map .d) :: lentM L := rfl
inductive LentS (L : List (Addr × List PyData)) : List Sl → List Sl → Prop
  | nil : LentS L [] []
  | lend {p ds ss ss'} : (p, ds) ∈ L → LentS L ss ss' → LentS L (.r (.ref p) :: ss) (.d (.list ds) :: ss')
  | eq {s ss ss'} : LentS L ss ss' → LentS L (s :: ss) (s :: ss')
theorem lent_at {G : Fp} {H : Hp} : ∀ {L : List (Addr × List PyData)} {F : Fp}, sepL (lentM L) F G H →
    (∀ p ds, (p, ds) ∈ L → ∃ vs, H p = some (.lst vs) ∧ IsAll G H vs ds ∧ F p) ∧ ∀ a, F a → ∃ vs, H a = some (.lst vs)
  | [], F, h => ⟨fun _ _ z => (nomatch z), fun a z => (h a z).elim⟩
  | (p, ds) :: L, F, ⟨F1, F2, ⟨e1, vs, hp, al⟩, h2, _, e⟩ => by
    obtain ⟨i1, i2⟩ := lent_at h2
    refine ⟨fun q es z => ?_, fun a z => ?_⟩
    · rcases List.mem_cons.mp z with z | z
      · cases z
        exact ⟨vs, hp, al.is, (e p).mpr (.inl ((e1 p).mpr rfl))⟩
      · obtain ⟨ws, a, b, f⟩ := i1 q es z
        exact ⟨ws, a, b, (e q).mpr (.inr f)⟩
    · rcases (e a).mp z with z | z
      · have := (e1 a).mp z
        subst this
        exact ⟨vs, hp⟩
      · exact i2 a z
theorem lent_sl {G G' F : Fp} {H : Hp} {L : List (Addr × List PyData)} (hL : ∀ p ds, (p, ds) ∈ L → ∃ vs, H p = some (.lst vs) ∧ IsAll G H vs ds ∧ F p) (hs : ∀ a, G' a → G a) (hd : ∀ a, F a → ¬ G' a) {ss ss' : List Sl} (l : LentS L ss ss') : ∀ {vs : List V}, SlAll G H vs ss → SlAll G' H vs ss' := by
  induction l with
  | nil =>
    intro vs h
    cases vs with
    | nil => trivial
    | cons _ _ => exact h.elim
  | @lend p ds ss ss' hm _ ih =>
    intro vs h
    cases vs with
    | nil => exact h.elim
    | cons v vs =>
      obtain ⟨h1, h2⟩ := h
      have ev : v = .ref p := h1
      subst ev
      obtain ⟨ws, hp, al, f⟩ := hL p ds hm
      exact ⟨.lst (.inl ⟨.inl hp, hd p f⟩) (al.stp (Stp.less hs)), ih h2⟩
  | eq _ ih =>
    intro vs h
    cases vs with
    | nil => exact h.elim
    | cons v vs => exact ⟨h.1.stp (Stp.less hs), ih h.2⟩
/-- rest, just as it stands in H -/
def asM (FT : Fp) (H : Hp) (hd : ∀ a, FT a → ∃ o, H a = some o) : Mem where
  ok F _ H1 := (∀ a, F a ↔ FT a) ∧ ∀ a o, FT a → H a = some o → H1 a = some o
  dom := fun ⟨e, h⟩ a q => by
    obtain ⟨o, z⟩ := hd a ((e a).mp q)
    exact ⟨o, h a o ((e a).mp q) z⟩
  step := fun ⟨e, h⟩ k s => ⟨e, fun a o f z => k a o (h a o f z) (.inl ((e a).mpr f))⟩
theorem lend_back {G G2 FL FR FT : Fp} {H H' : Hp} {L : List (Addr × List PyData)} {rest r2 : List Mem} {hd : ∀ a, FT a → ∃ o, H a = some o}
    (hL : sepL (lentM L) FL G H) (hT : sepL rest FT G H) (hLR : ∀ a, FL a → FR a → False) (hLT : ∀ a, FL a → FT a → False) (hRT : ∀ a, FR a → FT a → False) (hG : ∀ a, G a ↔ (FL a ∨ FR a) ∨ FT a)
    (t : Stp (fun a => FR a ∨ FT a) G2 H H') (o : sepL (r2 ++ [asM FT H hd]) G2 G2 H') (hl : LndA r2) :
    ∃ G3 : Fp, Stp G G3 H H' ∧ sepL (r2 ++ (lentM L ++ rest)) G3 G3 H' ∧ More G2 G3 H' ∧ (∀ a, H a = none → G3 a → G2 a) := by
  have ll := (lent_at hL).2
  have nL : ∀ a, FL a → ¬ (FR a ∨ FT a) := fun a f z => z.elim (hLR a f) (hLT a f)
  have kL : ∀ a u, H a = some u → FL a → H' a = some u := fun a u q f => t.keep a u q (nL a f)
  obtain ⟨F1, F2, o1, ⟨F3, F4, ⟨e3, k3⟩, o4, _, e2⟩, d12, e12⟩ := sepL.app.mp o
  have e4 : ∀ a, F2 a ↔ FT a := fun a => by
    rw [e2 a, e3 a]
    exact ⟨fun z => z.elim id fun z => (o4 a z).elim, .inl⟩
  have nF1 : ∀ a, F1 a → FL a → False := fun a f g => by
    rcases t.sub a ((e12 a).mpr (.inl f)) with z | z
    · exact nL a g z
    · obtain ⟨vs, q⟩ := ll a g
      rw [z] at q; cases q
  have mo : More G2 (fun a => G2 a ∨ FL a) H' := fun a z => z.imp id fun z => by
    obtain ⟨vs, q⟩ := ll a z
    exact ⟨vs, kL a _ q z⟩
  have st : Stp G (fun a => G2 a ∨ FL a) H H' := ⟨fun a u q n => t.keep a u q fun z => n ((hG a).mpr (z.elim (fun z => .inl (.inr z)) .inr)), fun a z => by
    rcases z with z | z
    · exact (t.sub a z).imp (fun z => (hG a).mpr (z.elim (fun z => .inl (.inr z)) .inr)) id
    · exact .inl ((hG a).mpr (.inl (.inl z))), t.old⟩
  have kG : ∀ a u, H a = some u → ¬ G a → H' a = some u := fun a u q n => st.keep a u q n
  refine ⟨fun a => G2 a ∨ FL a, st, ?_, mo, fun a z g => g.elim id fun g => by
    obtain ⟨vs, q⟩ := ll a g
    rw [z] at q; cases q⟩
  refine sepL.app.mpr ⟨F1, fun a => FL a ∨ FT a, sepL.more mo hl o1, sepL.app.mpr ⟨FL, FT, sepL.step st.sub hL fun a u q z => z.elim (kL a u q) (kG a u q), sepL.step st.sub hT fun a u q z => z.elim (fun f => k3 a u f q) (kG a u q), hLT, fun a => Iff.rfl⟩, fun a f z => ?_, fun a => ?_⟩
  · rcases z with z | z
    · exact nF1 a f z
    · exact d12 a f ((e4 a).mpr z)
  · rw [e12 a, e4 a]
    constructor
    · rintro ((z | z) | z)
      · exact .inl z
      · exact .inr (.inr z)
      · exact .inr (.inl z)
    · rintro (z | z | z)
      · exact .inl (.inl z)
      · exact .inr z
      · exact .inl (.inr z)
/-- a result that holds no list, or is a new one without such -/
def noR : Sl → Bool
  | .n ds => noLA ds
  | s => noS s
theorem Rs.more {G G' : Fp} {H0 H : Hp} {v : V} {s : Sl} (m : More G G' H) (hf : ∀ a, H0 a = none → G' a → G a) (hn : noR s = true) (h : Rs G H0 H v s) : Rs G' H0 H v s := by
  cases s with
  | un => trivial
  | d x => exact Is.more m h hn
  | r u => exact h
  | n ds =>
    obtain ⟨p, vs, e, z, ng, hp, t⟩ := h
    exact ⟨p, vs, e, z, fun g => ng (hf p z g), hp, IsAll.more m t hn⟩
theorem grab1 {r1 : List Mem} {A : Mem} {f : List Mem → List Mem} (p : Pick r1 A f) : Grab r1 [A] (f []) := .cons p .nil
theorem grab2 {r1 : List Mem} {A B : Mem} {f g : List Mem → List Mem} (p : Pick r1 A f) (q : Pick (f []) B g) : Grab r1 [A, B] (g []) := .cons p (grab1 q)
theorem grab3 {r1 : List Mem} {A B C : Mem} {f g h : List Mem → List Mem} (p : Pick r1 A f) (q : Pick (f []) B g) (r : Pick (g []) C h) : Grab r1 [A, B, C] (h []) := .cons p (grab2 q r)
section
variable {c : Ctx m₀ N₀ sc₀ lv₀ xp₀ fF₀ cm₀} {e a b o : Expr} {es : List Expr} {ρ ρ' : List Sl} {r1 rs : List Mem} {K : Sl → List Mem → Prop} {P : Post} {x f : Str} {pos pos' p2 apos : Pos} {s1 s2 : Sl}
theorem ce_lend {C : Cn} (L : List (Addr × List PyData)) {rin rest : List Mem} {ss ss' : List Sl} (gr : Grab r1 (lentM L ++ rin) rest) (hl : LentS L ss ss')
    (h : C ss' rin (fun s r2 => noR s = true ∧ LndA r2 ∧ K s (r2 ++ (lentM L ++ rest))) (fun D r2 => LndA r2 ∧ xp₀ D ρ (r2 ++ (lentM L ++ rest)))) : CallEnd c C ss ρ r1 K := fun σ H G vs Q he hs hx hv hq => by
  obtain ⟨F0, FT, h0, hT, d0, e0⟩ := sepL.app.mp (gr.sep hs)
  obtain ⟨FL, FR, hL, hR, d1, e1⟩ := sepL.app.mp h0
  have hG : ∀ a, G a ↔ (FL a ∨ FR a) ∨ FT a := fun a => by rw [e0 a, e1 a]
  have hLT : ∀ a, FL a → FT a → False := fun a f g => d0 a ((e1 a).mpr (.inl f)) g
  have hRT : ∀ a, FR a → FT a → False := fun a f g => d0 a ((e1 a).mpr (.inr f)) g
  have hd : ∀ a, FT a → ∃ o, H a = some o := fun a z => hT.dom a z
  have sub : ∀ a, (FR a ∨ FT a) → G a := fun a z => (hG a).mpr (z.elim (fun z => .inl (.inr z)) .inr)
  refine ⟨ss', asM FT H hd, rin, fun a => FR a ∨ FT a, _, _, lent_sl (lent_at hL).1 sub (fun a f z => z.elim (d1 a f) (hLT a f)) hl hv, ?_, h, ?_, ?_⟩
  · exact sepL.app.mpr ⟨FR, FT, sepL.step (G := G) (fun a z => .inl (sub a z)) hR fun a u q _ => q, ⟨FT, fun _ => False, ⟨fun a => Iff.rfl, fun a u _ q => q⟩, fun _ z => z, fun _ _ z => z, fun a => ⟨.inl, fun z => z.elim id False.elim⟩⟩, hRT, fun a => Iff.rfl⟩
  · rintro v H' G2 sl r2 t r o ⟨hn, hA, k⟩
    obtain ⟨G3, st, sp, mo, hf⟩ := lend_back hL hT d1 hLT hRT hG t o hA
    exact hq v H' G3 sl _ st (r.more mo hf hn) sp k
  · rintro D H' G2 r2 t o ⟨hA, k⟩
    obtain ⟨G3, st, sp, mo, hf⟩ := lend_back hL hT d1 hLT hRT hG t o hA
    exact hx D σ H' G3 ρ _ st (he.stp st) sp k
/-- some things handed over -/
theorem ce_gr {C : Cn} {rin rest : List Mem} {ss : List Sl} (gr : Grab r1 rin rest) (h : C ss rin (fun s r2 => K s (r2 ++ rest)) (fun D r2 => xp₀ D ρ (r2 ++ rest))) : CallEnd c C ss ρ r1 K := fun σ H G vs Q he hs hx hv hq =>
  ⟨ss, sepM rest, rin, G, _, _, hv, sepM_app.mpr (gr.sep hs), h, fun v H' G' sl rs' t r o k => hq v H' G' sl _ t r (sepM_app.mp o) k, fun D H' G' rs' t o k => hx D σ H' G' ρ _ t (he.stp t) (sepM_app.mp o) k⟩
/-- list(xs), owned, whatever xs is -/
def LiD (s : Sl) (r : List Mem) (K : Sl → List Mem → Prop) : Prop := (∃ ds, s.plain.asSeq = some ds ∧ ∀ q, K (.r (.ref q)) (lstM q (ds.map .d) :: r)) ∨ (∃ p ss f, s = .r (.ref p) ∧ Pick r (lstM p ss) f ∧ ∀ q, K (.r (.ref q)) (lstM q ss :: r))
theorem li_d {s : Sl} {ds : List PyData} (e : s.plain.asSeq = some ds) (k : ∀ q, K (.r (.ref q)) (lstM q (ds.map .d) :: rs)) : LiD s rs K := .inl ⟨ds, e, k⟩
theorem li_o {p : Addr} {ss : List Sl} {g : List Mem → List Mem} (pk : Pick rs (lstM p ss) g) (k : ∀ q, K (.r (.ref q)) (lstM q ss :: rs)) : LiD (.r (.ref p)) rs K := .inr ⟨p, ss, g, rfl, pk, k⟩
theorem dx_listU (h : DX c a ρ rs fun s r1 => LiD s r1 K) (hg : KdIn sc₀.names ("list" : Str) .globalImplicit := by first | ((with_reducible (repeat (first | exact KdIn.zero | apply KdIn.succ))); (first | (all_goals fail) | fail)) | exact kd_of rfl) (he : starEach [a] c.X.env = (false, eval a c.X.env) :: starEach [] c.X.env := by rfl) : DX c (.Call (.Name "list" p2) [a] [] pos) ρ rs K := by
  refine dx_callTy (c.ck ▸ call_list_of) c.bl.list b_list (da_cons (fun σ H G Q a1 a2 a3 a4 => h σ H G Q a1 a2 a3 fun v H' G' sl rs' t r o k => a4 v H' G' sl rs' t r o (da_nil ?_)) he) hg (he := he) (hpl := rfl)
  intro G H vs Q hv hs hq
  match vs, hv with
  | [v], hv =>
    rcases k with ⟨ds, e, k⟩ | ⟨p, ss, f, e, pk, k⟩
    · obtain ⟨p, ws, rfl, r, al⟩ := hv.1.seq e
      refine ⟨p, ws, rfl, r.imp LsAt.sq .inl, fun l hl => ?_⟩
      obtain ⟨t, o⟩ := own_new hs hl (SlAll.of_is al)
      exact hq _ _ _ (.r (.ref l)) _ t rfl o (k l)
    · subst e
      have ev : v = .ref p := hv.1
      subst ev
      obtain ⟨ws, hp, al, _, _⟩ := lst_at pk hs
      refine ⟨p, ws, rfl, .inl (.inl (.inl hp)), fun l hl => ?_⟩
      obtain ⟨t, o⟩ := own_new hs hl al
      exact hq _ _ _ (.r (.ref l)) _ t rfl o (k l)
theorem dx_open {α : Type} {fam : α → List Mem} (xs : List Mem) {tl : List Mem} (k : ∀ q, DX c e ρ (xs ++ (fam q ++ tl)) K) : DX c e ρ (xs ++ exM fam :: tl) K := by
  intro σ H G Q he hs hx hq
  obtain ⟨q, o⟩ := sep_open hs
  exact k q σ H G Q he o hx hq
theorem dt_open {α : Type} {fam : α → List Mem} {KB : Bool → List Mem → Prop} (xs : List Mem) {tl : List Mem} (k : ∀ q, DT c e ρ (xs ++ (fam q ++ tl)) KB) : DT c e ρ (xs ++ exM fam :: tl) KB := by
  intro σ H G Q he hs hx hq
  obtain ⟨q, o⟩ := sep_open hs
  exact k q σ H G Q he o hx hq
theorem flat_rep {α : Type} (x : α) : ∀ n : Nat, (List.replicate n [x]).flatten = List.replicate n x
  | 0 => rfl
  | n + 1 => by rw [List.replicate_succ, List.flatten_cons, flat_rep x n]; rfl
/-- [x] * k, owned -/
theorem dx_rep (h : DX c a ρ rs fun s r => ∀ p, DX c b ρ (lstM p [s.plain] :: r) fun s2 r2 => ∃ (k : Int) (f : List Mem → List Mem), s2 = .d (.int k) ∧ (-(2 ^ 60) ≤ k ∧ k ≤ 100000) ∧ Pick r2 (lstM p [s.plain]) f ∧ ∀ q, K (.r (.ref q)) (lstM q (List.replicate k.toNat s.plain) :: f []))
    (hst : starEach [a] c.X.env = (false, eval a c.X.env) :: starEach [] c.X.env := by rfl) : DX c (.BinOp (.List [a] pos') .Mult b pos) ρ rs K := by
  refine dx_bin op_uMul (dx_lstO (da_cons (dx_weak h fun s r k => da_nil ?_) hst))
  refine ⟨by show 1 ≤ 100000; decide, fun p => dx_weak (k p) fun s2 r2 k2 => ?_⟩
  obtain ⟨k, f, rfl, hk, pk, kk⟩ := k2
  refine od_r fun G H x y Q hx hy hs hq => ?_
  have ex : x = .ref p := hx
  subst ex
  obtain ⟨vs, hp, al, _, _⟩ := lst_at pk hs
  refine ⟨p, k, vs, rfl, hy.int, hp, by omega, by omega, by rw [al.length]; show 1 * _ ≤ _; have e : sizeLine = 1000000000000 ∨ 100000 ≤ sizeLine := .inr (by decide); omega, fun q hq0 => ?_⟩
  obtain ⟨t, o⟩ := own_new hs hq0 (all_rep al k.toNat)
  rw [flat_rep] at o
  obtain ⟨F1, G2, _, _, t2, o2⟩ := sepL.drop (.succ pk) o
  exact hq _ _ _ (.r (.ref q)) _ (t.trans t2) rfl o2 (kk q)
/-- [x] * k, plain -/
theorem dx_repD (h : DX c a ρ rs fun s r => ∃ d, s.plain = .d d ∧ ∀ p, DX c b ρ (lstM p [.d d] :: r) fun s2 r2 => ∃ (k : Int) (f : List Mem → List Mem), s2 = .d (.int k) ∧ (-(2 ^ 60) ≤ k ∧ k ≤ 100000) ∧ Pick r2 (lstM p [.d d]) f ∧ K (.d (.list (List.replicate k.toNat d))) (f []))
    (hst : starEach [a] c.X.env = (false, eval a c.X.env) :: starEach [] c.X.env := by rfl) : DX c (.BinOp (.List [a] pos') .Mult b pos) ρ rs K := by
  refine dx_frz (dx_rep (dx_weak h fun s r k p => ?_) hst)
  obtain ⟨d, e, k⟩ := k
  rw [e]
  refine dx_weak (k p) fun s2 r2 k2 => ?_
  obtain ⟨k, f, rfl, hk, pk, kk⟩ := k2
  exact ⟨k, f, rfl, hk, pk, fun q => ⟨q, List.replicate k.toNat d, fun xs => xs ++ f [], rfl, by rw [List.map_replicate]; exact .zero, kk⟩⟩
theorem ex_rep {k : Int} {s : Sl} {p : Addr} {f : List Mem → List Mem} {B : Int → (List Mem → List Mem) → Prop} (pk : Pick rs (lstM p [s]) f) (hk : -(2 ^ 60) ≤ k ∧ k ≤ 100000) (h : B k f) :
    ∃ (k' : Int) (f' : List Mem → List Mem), Sl.d (.int k) = .d (.int k') ∧ (-(2 ^ 60) ≤ k' ∧ k' ≤ 100000) ∧ Pick rs (lstM p [s]) f' ∧ B k' f' := ⟨k, f, rfl, hk, pk, h⟩
theorem ex_dat {d : PyData} {B : PyData → Prop} (h : B d) : ∃ e, Sl.d d = .d e ∧ B e := ⟨d, rfl, h⟩
end
end PW
/-! ### rows of truths -/
namespace PW
open PySem L2
def bat (ms : List Bool) (i : Int) : Bool := ms.getD i.toNat false
theorem bat_get {ms : List Bool} {i : Int} (h : 0 ≤ i ∧ i < ms.length) : ms[i.toNat]? = some (bat ms i) := by
  unfold bat
  have : i.toNat < ms.length := by omega
  rw [List.getD_eq_getElem?_getD, List.getElem?_eq_getElem this]; rfl
theorem bat_set {ms : List Bool} {i j : Int} {b : Bool} (hi : 0 ≤ i ∧ i < ms.length) (hj : 0 ≤ j) : bat (ms.set i.toNat b) j = if j = i then b else bat ms j := by
  unfold bat
  rw [List.getD_eq_getElem?_getD, List.getD_eq_getElem?_getD, List.getElem?_set]
  by_cases e : j = i
  · subst e
    rw [if_pos rfl, if_pos rfl, if_pos (by omega)]; rfl
  · rw [if_neg (by omega), if_neg e]
theorem bat_ext {a b : List Bool} (hl : a.length = b.length) (h : ∀ i : Int, 0 ≤ i → i < a.length → bat a i = bat b i) : a = b := by
  refine List.ext_getElem hl fun i h1 h2 => ?_
  have := h i (by omega) (by omega)
  unfold bat at this
  simpa [List.getD_eq_getElem?_getD, h1, h2] using this
theorem mem_bat {ms : List Bool} (h : true ∈ ms) : ∃ i : Int, 0 ≤ i ∧ i < ms.length ∧ bat ms i = true := by
  obtain ⟨i, hi, e⟩ := List.getElem_of_mem h
  exact ⟨i, by omega, by omega, by unfold bat; simp [hi, e]⟩
theorem bat_mem {ms : List Bool} {i : Int} (h : 0 ≤ i ∧ i < ms.length) (e : bat ms i = true) : true ∈ ms := by
  have := bat_get h
  rw [e] at this
  exact List.mem_of_getElem? this
variable [KC]
theorem ixN_in {n : Nat} {i : Int} (h : 0 ≤ i ∧ i < n) : ixN n i = some i.toNat := by
  unfold ixN
  rw [if_pos h.1, if_pos (by omega)]
theorem atI_b {ms : List Bool} {i : Int} (h : 0 ≤ i ∧ i < ms.length) : atI (ms.map PyData.bool) i = some (.bool (bat ms i)) := by
  unfold atI
  rw [List.length_map, ixN_in h]
  show (ms.map PyData.bool)[i.toNat]? = _
  rw [List.getElem?_map, bat_get h]; rfl
theorem atI_bs {ms : List Bool} {i : Int} (h : 0 ≤ i ∧ i < ms.length) : atI ((ms.map PyData.bool).map Sl.d) i = some (.d (.bool (bat ms i))) := by
  rw [atI_map, atI_b h]; rfl
theorem ixN_bs {ms : List Bool} {i : Int} (h : 0 ≤ i ∧ i < ms.length) : ixN ((ms.map PyData.bool).map Sl.d).length i = some i.toNat := by
  rw [List.length_map, List.length_map]; exact ixN_in h
theorem set_bs {ms : List Bool} {j : Nat} {b : Bool} : ((ms.map PyData.bool).map Sl.d).set j (.d (.bool b)) = ((ms.set j b).map PyData.bool).map Sl.d := by
  rw [List.map_set, List.map_set]
theorem range_split {n y : Nat} {pre post : List Nat} (e : List.range n = pre ++ y :: post) : y = pre.length ∧ y < n := by
  have h1 : (List.range n)[pre.length]? = some y := by rw [e]; simp
  have hl := congrArg List.length e
  rw [List.length_range, List.length_append, List.length_cons] at hl
  have hlt : pre.length < n := by omega
  rw [List.getElem?_eq_getElem (by simpa using hlt)] at h1
  simp at h1
  omega
theorem any_b (ms : List Bool) : ((ms.map PyData.bool).any fun y => eqF y (.bool true)) = decide (true ∈ ms) := by
  induction ms with
  | nil => rfl
  | cons b ms ih =>
    rw [List.map_cons, List.any_cons, ih]
    cases b <;> simp [eqF]
theorem flat_b (ms : List Bool) : (ms.map PyData.bool).all flatD = true := by
  induction ms with
  | nil => rfl
  | cons b ms ih => rw [List.map_cons, List.all_cons, ih]; rfl
theorem shaped_b (ms : List Bool) : SeqAt.shaped (.list (ms.map PyData.bool)) = true := shaped_list 0 (by decide) fun d hd => by
  obtain ⟨b, _, rfl⟩ := List.mem_map.mp hd
  exact ⟨rfl, Nat.le_refl 0⟩
end PW

set_option maxHeartbeats 1000000
/-! clear, pop; two names in a for; except X without a name; a list of one's own made plain. -/
namespace PW
open PySem L2
variable [KC]
variable {m₀ : Mo} {N₀ : List Str} {sc₀ : Scope} {lv₀ : Nat} {xp₀ : Addr → List Sl → List Mem → Prop} {fF₀ cm₀ : Bool}
theorem SlAll.dropLast {G : Fp} {H : Hp} : ∀ {vs : List V} {ss : List Sl}, SlAll G H vs ss → SlAll G H vs.dropLast ss.dropLast
  | [], [], _ => trivial
  | [_], [_], _ => trivial
  | _ :: _ :: _, _ :: _ :: _, ⟨h, q⟩ => ⟨h, SlAll.dropLast q⟩
  | [], _ :: _, h => h.elim
  | _ :: _, [], h => h.elim
  | [_], _ :: _ :: _, h => h.2.elim
  | _ :: _ :: _, [_], h => h.2.elim
/-- the slots of the list at q, made plain -/
inductive FrzS (q : Addr) (ds : List PyData) : List Sl → List Sl → Prop
  | nil : FrzS q ds [] []
  | here {ρ ρ'} : FrzS q ds ρ ρ' → FrzS q ds (.r (.ref q) :: ρ) (.d (.list ds) :: ρ')
  | eq {s ρ ρ'} : FrzS q ds ρ ρ' → FrzS q ds (s :: ρ) (s :: ρ')
theorem FrzS.env {q : Addr} {ds : List PyData} {G : Fp} {H : Hp} (hq : Is G H (.ref q) (.list ds)) {ρ ρ' : List Sl} (h : FrzS q ds ρ ρ') : ∀ {σ : L2.St}, EnvOk G H σ ρ → EnvOk G H σ ρ' := by
  induction h with
  | nil => exact id
  | here _ ih =>
    intro σ e
    cases σ with
    | nil => exact e.elim
    | cons o σ =>
      obtain ⟨⟨v, e1, z⟩, q2⟩ := e
      have ev : v = .ref q := z
      subst ev
      exact ⟨⟨_, e1, hq⟩, ih q2⟩
  | eq _ ih =>
    intro σ e
    cases σ with
    | nil => exact e.elim
    | cons o σ => exact ⟨e.1, ih e.2⟩
section
variable {c : Ctx m₀ N₀ sc₀ lv₀ xp₀ fF₀ cm₀} {e a b o it : Expr} {es : List Expr} {ρ ρ' : List Sl} {r1 rs : List Mem} {K : Sl → List Mem → Prop} {P : Post} {x y f : Str} {pos pos' p2 p3 apos cpos : Pos} {s1 s2 : Sl} {sts : List Stmt}
theorem dss_frz {q : Addr} {ds : List PyData} {g : List Mem → List Mem} (pk : Pick rs (lstM q (ds.map .d)) g) (hf : FrzS q ds ρ ρ') (k : DSs c sts ρ' (g []) P) : DSs c sts ρ rs P := by
  intro σ H G D he hs hx hd
  obtain ⟨F1, G2, ⟨eF, vs, hp, al⟩, dj, t, o⟩ := sepL.drop pk hs
  exact k σ H G2 D (hf.env (.lst (.inl ⟨.inl hp, fun g => dj q ((eF q).mpr rfl) g⟩) (al.stp t).is) (he.stp t)) o (hx.stp t) (hd.stp t)
structure Me0Ok (X : Cx) (o : Expr) (m : Str) (apos cpos : Pos) : Prop where
  hb : attributeBase o m X.env (eval o X.env) = eval o X.env
  hl : (apos.endLine == cpos.line) = true
/-- x.clear() -/
theorem dx_clear (h : DX c o ρ rs fun s r => ∃ p ss f, s = .r (.ref p) ∧ Pick r (lstM p ss) f ∧ K (.d .none) (f [lstM p []]))
    (hm : Me0Ok c.X o "clear" apos cpos := by exact ⟨rfl, rfl⟩) : DX c (.Call (.Attribute o "clear" apos) [] [] cpos) ρ rs K := by
  intro σ H G Q he hs hx hq
  refine tE_of (pe_bm0 PySem.F.plainAttrs_list PySem.F.slot_list_clear PySem.F.type_list_clear mt_clear pe_t (hbase := hm.hb) (hline := hm.hl)) ?_
  refine h σ H G _ he hs hx fun v H1 G1 s1 r1 t1 h1 o1 k1 => ?_
  obtain ⟨p, ss, f, rfl, pk, k1⟩ := k1
  have ev : v = .ref p := h1
  subst ev
  obtain ⟨vs, hp, al, _, ch⟩ := lst_at pk o1
  refine ⟨.inl ⟨rfl, vs, .inl (.inl hp)⟩, p, vs, rfl, rfl, hp, ?_⟩
  obtain ⟨t2, o2⟩ := ch [] [] trivial
  exact hq .non _ G1 (.d .none) _ (t1.trans t2) Is.non o2 k1
/-- x.pop() -/
theorem dx_pop (h : DX c o ρ rs fun s r => ∃ p ss t f, s = .r (.ref p) ∧ Pick r (lstM p (ss ++ [t])) f ∧ (∀ ds, t ≠ .n ds) ∧ K t (f [lstM p ss]))
    (hm : Me0Ok c.X o "pop" apos cpos := by exact ⟨rfl, rfl⟩) : DX c (.Call (.Attribute o "pop" apos) [] [] cpos) ρ rs K := by
  intro σ H G Q he hs hx hq
  refine tE_of (pe_bm0 PySem.F.plainAttrs_list PySem.F.slot_list_pop PySem.F.type_list_pop mt_pop pe_t (hbase := hm.hb) (hline := hm.hl)) ?_
  refine h σ H G _ he hs hx fun v H1 G1 s1 r1 t1 h1 o1 k1 => ?_
  obtain ⟨p, ss, t, f, rfl, pk, hn, k1⟩ := k1
  have ev : v = .ref p := h1
  subst ev
  obtain ⟨vs, hp, al, _, ch⟩ := lst_at pk o1
  have hl := al.length
  rw [List.length_append, List.length_cons, List.length_nil] at hl
  obtain ⟨y, hy, hk⟩ := al.get (i := vs.length - 1) (s := t) (by rw [hl]; simp)
  refine ⟨.inl ⟨rfl, vs, .inl (.inl hp)⟩, p, vs, y, rfl, rfl, hp, hy, ?_⟩
  have al2 := al.dropLast
  rw [List.dropLast_concat] at al2
  obtain ⟨t2, o2⟩ := ch _ _ al2
  exact hq y _ G1 t _ (t1.trans t2) (Rs.of_ok (hk.stp t2) hn) o2 k1
/-- for x, y in it: body -/
def ForD2 (c : Ctx m₀ N₀ sc₀ lv₀ xp₀ fF₀ cm₀) (x : Str) (j : Nat) (y : Str) (j2 : Nat) (body : List Stmt) {α : Type} (xs : List α) (e1 e2 : α → PyData) (keep : List Mem → Prop) (ρ : List Sl) (rs : List Mem) (P : Post) : Prop :=
  ∃ (S : Type) (ρf : S → List Sl) (rf : S → List Mem) (inv : List α → S → Prop), (∃ s, inv [] s ∧ Le ρ (ρf s) ∧ rs = rf s) ∧ (∀ pre s, inv pre s → keep (rf s)) ∧
    (∀ pre z post s, xs = pre ++ z :: post → inv pre s → ∃ ρ1 ρ2, SetS N₀ (ρf s) x j (.d (e1 z)) ρ1 ∧ SetS N₀ ρ1 y j2 (.d (e2 z)) ρ2 ∧
      DSs c body ρ2 (rf s) ⟨fun ρ' r' => ∃ s', inv (pre ++ [z]) s' ∧ Le ρ' (ρf s') ∧ r' = rf s', P.rt, P.nx, fun ρ' r' => ∃ s', inv (pre ++ [z]) s' ∧ Le ρ' (ρf s') ∧ r' = rf s'⟩) ∧
    (∀ s, inv xs s → P.nx (ρf s) (rf s))
theorem is_two {G : Fp} {H : Hp} {vs : List V} {d1 d2 : PyData} (h : IsAll G H vs [d1, d2]) : ∃ v1 v2, vs = [v1, v2] ∧ Is G H v1 d1 ∧ Is G H v2 d2 := by
  cases h with
  | cons a t =>
    cases t with
    | cons b u =>
      cases u with
      | nil => exact ⟨_, _, rfl, a, b⟩
theorem ds_for2 {body : List Stmt} {kk : Nat} {j j2 : Nat} (hj : IxOf N₀ x j) (hj2 : IxOf N₀ y j2) (h : DI c (.Tuple [.Name x p2, .Name y p3] kk pos') it ρ rs fun items keep r => ∃ (α : Type) (xs : List α) (e1 e2 : α → PyData), items = xs.map (fun z => .d (.tuple [e1 z, e2 z])) ∧ ForD2 c x j y j2 body xs e1 e2 keep ρ r P)
    (hcm : cm₀ = true := by rfl) (hl : LocF c x := by first | exact locF_of (by with_reducible (repeat (first | exact KdIn.zero | apply KdIn.succ))) rfl | exact Or.inl rfl | exact Or.inr ⟨rfl, rfl⟩) (hl2 : LocF c y := by first | exact locF_of (by with_reducible (repeat (first | exact KdIn.zero | apply KdIn.succ))) rfl | exact Or.inl rfl | exact Or.inr ⟨rfl, rfl⟩) (hf : ∀ z, foldedSetIterable it c.X.env z = pure z := by intro _; rfl) : DS c (.For (.Tuple [.Name x p2, .Name y p3] kk pos') it body [] pos) ρ rs P := by
  intro σ H G D he hs hx hd
  have nd : c.X.N.Nodup := by rw [c.hN]; exact c.nd
  have hi : c.X.N[j]? = some x := by rw [c.hN]; exact hj.get
  have hi2 : c.X.N[j2]? = some y := by rw [c.hN]; exact hj2.get
  refine tS_of (ps_for (tb := tSs c.X body) c.po (c.calm hcm) pi_t (pg_tup (c.calm hcm) (pgs_cons (pg_name nd hi hl.loc (c_hf hl)) (pgs_cons (pg_name nd hi2 hl2.loc (c_hf hl2)) pgs_nil))) pss_t hf) ?_
  refine h σ H G _ he hs hx fun J H1 G1 items keep r1 t1 o1 jok k1 => ?_
  obtain ⟨α, xs, e1, e2, rfl, S, ρf, rf, inv, ⟨s0, i0, l0, rfl⟩, hk, ht, hend⟩ := k1
  refine ⟨fun i m σ' H' => m = xs.length - i ∧ i ≤ xs.length ∧ ∃ G' s, Stp G1 G' H1 H' ∧ EnvOk G' H' σ' (ρf s) ∧ sepL (rf s) G' G' H' ∧ inv (xs.take i) s,
    ⟨_, rfl, Nat.zero_le _, G1, s0, Stp.refl _ _, l0.env (he.stp t1), o1, i0⟩, ?_⟩
  rintro i m σ' H' ⟨rfl, hle, G', s, t2, en2, o2, iv⟩
  have jk := jok G' H' (rf s) t2 o2 (hk _ s iv) i
  by_cases hlt : i < xs.length
  · refine .inr ⟨(jk.1 (by simpa using hlt)).1, fun σ2 H2 => xs.length - (i + 1) < xs.length - i ∧ i + 1 ≤ xs.length ∧ ∃ G2 s, Stp G1 G2 H1 H2 ∧ EnvOk G2 H2 σ2 (ρf s) ∧ sepL (rf s) G2 G2 H2 ∧ inv (xs.take (i + 1)) s,
      fun σ2 H2 ⟨l, l2, r⟩ => ⟨_, l, rfl, l2, r⟩, fun w H2 yl => ?_⟩
    obtain ⟨rfl, sl, hsl, hy⟩ := (jk.1 (by simpa using hlt)).2 w H2 yl
    have hsl' : sl = .d (.tuple [e1 xs[i], e2 xs[i]]) := by
      rw [List.getElem?_map, List.getElem?_eq_getElem hlt] at hsl
      exact (Option.some.inj hsl).symm
    subst hsl'
    obtain ⟨p, vs, rfl, rd, _, al⟩ := hy.tuple
    obtain ⟨v1, v2, rfl, a1, a2⟩ := is_two al
    have split : xs = xs.take i ++ xs[i] :: xs.drop (i + 1) := by simp
    obtain ⟨ρ1, ρ2, hset, hset2, hb⟩ := ht (xs.take i) xs[i] (xs.drop (i + 1)) s split iv
    have tk : xs.take i ++ [xs[i]] = xs.take (i + 1) := by simp
    rw [tk] at hb
    refine ⟨p, [v1, v2], rfl, rd_sqT rd, rfl, v1, [v2], rfl, v2, [], rfl, rfl, ?_⟩
    refine hb _ H2 G' _ (hset2.env a2 (hset.env a1 en2)) o2 (hx.stp (t1.trans t2)) ⟨fun σ3 H3 G3 ρ3 r3 t3 e3 o3 k3 => ?_, fun v H3 G3 sl r3 t3 => hd.rt v H3 G3 sl r3 ((t1.trans t2).trans t3) ∘ fun q => q.back (t1.trans t2), fun σ3 H3 G3 ρ3 r3 t3 => hd.nx σ3 H3 G3 ρ3 r3 ((t1.trans t2).trans t3), fun σ3 H3 G3 ρ3 r3 t3 e3 o3 k3 => ?_⟩
    · obtain ⟨s', i', l', rfl⟩ := k3
      exact ⟨by omega, by omega, G3, s', t2.trans t3, l'.env e3, o3, i'⟩
    · obtain ⟨s', i', l', rfl⟩ := k3
      exact ⟨by omega, by omega, G3, s', t2.trans t3, l'.env e3, o3, i'⟩
  · have hi : i = xs.length := by omega
    subst hi
    rw [List.take_length] at iv
    exact .inl ⟨jk.2 (by simp), hd.nx σ' H' G' (ρf s) (rf s) (t1.trans t2) en2 o2 (hend s iv)⟩
/-- try: .. except y: without a name; only y is raised -/
def CatchX (m₀ : Mo) (N₀ : List Str) (sc₀ : Scope) (lv₀ : Nat) (fF₀ : Bool) (E : Str → Addr) (y : Str) (suite : List Stmt) (P : Post) (D : Addr) (ρ : List Sl) (rs : List Mem) : Prop :=
  D = E y ∧ ∀ (c' : Ctx m₀ N₀ sc₀ lv₀ (fun _ _ _ => False) fF₀ false), DSs c' suite ρ rs P
theorem ds_tryX {E : Str → Addr} {ra ts : List Str} {body suite : List Stmt} {b₀ : Stmt} {np : Pos} (er : Errs m₀ E ra ts) (hp : y ∈ ts) (hex : PySem.W.exmOne m₀.K (.ref (E y)) (.ref (E y)) = some true)
    (body_ : ∀ c' : Ctx m₀ N₀ sc₀ lv₀ (CatchX m₀ N₀ sc₀ lv₀ fF₀ E y (b₀ :: suite) P) fF₀ cm₀, DSs c' body ρ rs P)
    (hF : fF₀ = true := by rfl) (hg : KdIn sc₀.names y .globalImplicit := by first | ((with_reducible (repeat (first | exact KdIn.zero | apply KdIn.succ))); (first | (all_goals fail) | fail)) | exact kd_of rfl) :
    DS c (.Try body [.ExceptHandler (some (.Name y np)) none (b₀ :: suite) pos'] [] [] pos) ρ rs P := by
  intro σ H G D he hs hX hd
  have eK := c.hm.K
  refine tS_of (ps_try_only (c := .ref (E y)) (tb := fun W D σ H => ∀ pn xe, Takes (c.X.tr pn xe) W → PassesOwn (model c.X.prog c.X.w) c.X.A c.X.env xe → tSs (c.X.tr pn xe) body D σ H)
    (ts := fun a cls d D σ H => ∀ oe pn, Zc cls d oe → (∃ vs, oe.data = .fields vs) → tSs (c.X.suite a ((a, oe) :: pn)) (b₀ :: suite) D σ H) (Wout := fun _ _ _ _ => False)
    (c.fs hF).1 (c.fs hF).2 ⟨c_gl hg, c.nd1 hg, .inl (by rw [c.hm.mg]; exact er.nm _ hp)⟩ takes0
    (fun W pn xe tk po => ⟨fun pins s _ _ _ I h => h pn xe tk po pins s I⟩) (fun a oe cls d pn hz hf => ⟨fun pins s _ _ _ I h => h oe pn hz hf pins s I⟩)) ?_
  intro pn xe tk po
  refine body_ (c.tr pn xe _ _ tk po) σ H G D he hs (fun C σ' H' G' ρ' rs' t e o k => ?_) hd
  obtain ⟨rfl, k⟩ := k
  refine ⟨true, eK ▸ hex, fun _ a ha => ?_, fun z => Bool.noConfusion z⟩
  intro oe pn' hz hf
  have hd2 := hd.stp t
  exact k (c.suite a ((a, oe) :: pn')) _ H' G' _ e o xok0 ⟨hd2.nx, hd2.rt, hd2.bk, hd2.ct⟩
theorem catchX {E : Str → Addr} {suite : List Stmt} {st : Stmt} (h : ∀ (c' : Ctx m₀ N₀ sc₀ lv₀ (fun _ _ _ => False) fF₀ false), DSs c' (st :: suite) ρ rs P) : CatchX m₀ N₀ sc₀ lv₀ fF₀ E y (st :: suite) P (E y) ρ rs := ⟨rfl, h⟩
theorem ds_ent {st : Stmt} {rs2 : List Mem} (h : Ent rs rs2) (k : DS c st ρ rs2 P) : DS c st ρ rs P := by
  intro σ H G D he hs hx hd
  obtain ⟨G', l, o⟩ := h G H hs
  have t : Stp G G' H H := Stp.less l
  exact k σ H G' D (he.stp t) o (hx.stp t) (hd.stp t)
end
end PW

set_option maxHeartbeats 1000000
/-! list(a text). -/
namespace PW
open PySem L2
def signV (z : Str) : List V := z.cps.toList.map fun n => V.str ⟨#[n]⟩
theorem call_listS {X : Cx} (hc : X.calm = true) : CallR X (.type "list") (fun xs H Q => ∃ z, xs = [.str z] ∧ z.cps.size ≤ sizeLine ∧ ∀ l, H l = none → Q (.ref l) (upd H l (.lst (signV z)))) := by
  intro pins s σ H xs us Q I r h
  obtain ⟨z, e, hz, q⟩ := h
  subst e
  obtain ⟨u, eu, t, e2⟩ := vals1 r
  subst eu
  subst e2
  refine call_list_str (I.ok.hd hc) z t (hn := hz) fun h' tk acc' c' hkeep hS hacc => ?_
  have hlen : (signV z).length = z.cps.size := by unfold signV; rw [List.length_map]; simp
  refine ⟨.ref s.heap.objs.size, upd H s.heap.objs.size (.lst (signV z)), I.laid hkeep (Nat.le_refl _) (show ObjOk X.prog X.w _ _ _ (.lst (signV z)) from ⟨?_, acc'.toList, c', ?_, ?_⟩), rfl, q _ (I.hok.fresh (Nat.le_refl _))⟩
  · rw [hlen]; exact hz
  · have el : acc'.toList.length = acc'.size := by simp
    refine vals_of_at (by rw [hlen, el, hacc.1]) fun j x w h1 h2 => ?_
    obtain ⟨n, u, hn, hw⟩ := hacc.2 j w (by rw [← Array.getElem?_toList]; exact h2)
    subst hw
    have e1 : (signV z)[j]? = some (.str ⟨#[n]⟩) := by
      unfold signV
      rw [List.getElem?_map, Array.getElem?_toList, hn]; rfl
    rw [e1] at h1
    cases h1
    exact ⟨u, rfl⟩
  · simpa using hS
variable [KC]
variable {m₀ : Mo} {N₀ : List Str} {sc₀ : Scope} {lv₀ : Nat} {xp₀ : Addr → List Sl → List Mem → Prop} {fF₀ cm₀ : Bool}
def signD (z : Str) : List PyData := z.cps.toList.map fun n => PyData.str ⟨#[n]⟩
theorem is_signs {G : Fp} {H : Hp} (z : Str) : IsAll G H (signV z) (signD z) := by
  unfold signV signD
  induction z.cps.toList with
  | nil => exact .nil
  | cons n l ih => exact .cons (.str _) ih
section
variable {c : Ctx m₀ N₀ sc₀ lv₀ xp₀ fF₀ cm₀} {e a b o it : Expr} {es : List Expr} {ρ ρ' : List Sl} {r1 rs : List Mem} {K : Sl → List Mem → Prop} {P : Post} {x y f : Str} {pos pos' p2 p3 apos cpos : Pos} {s1 s2 : Sl} {sts : List Stmt}
def LsD (s : Sl) (r : List Mem) (K : Sl → List Mem → Prop) : Prop := (∃ ds, s.asSeq = some ds ∧ K (.n ds) r) ∨ (∃ z, s = .d (.str z) ∧ z.length ≤ 100000 ∧ K (.n (signD z)) r)
theorem ls_d {s : Sl} {ds : List PyData} (e : s.asSeq = some ds) (k : K (.n ds) rs) : LsD s rs K := .inl ⟨ds, e, k⟩
theorem ls_s {z : Str} (hz : z.length ≤ 100000) (k : K (.n (signD z)) rs) : LsD (.d (.str z)) rs K := .inr ⟨z, rfl, hz, k⟩
theorem dx_listA (h : DX c a ρ rs fun s r1 => LsD s.plain r1 K) (hg : KdIn sc₀.names ("list" : Str) .globalImplicit := by first | ((with_reducible (repeat (first | exact KdIn.zero | apply KdIn.succ))); (first | (all_goals fail) | fail)) | exact kd_of rfl) (he : starEach [a] c.X.env = (false, eval a c.X.env) :: starEach [] c.X.env := by rfl) (hcm : cm₀ = true := by rfl) : DX c (.Call (.Name "list" p2) [a] [] pos) ρ rs K := by
  refine dx_callTy (call_or (c.ck ▸ call_list_of) (call_listS (c.calm hcm))) c.bl.list b_list (da_cons (fun σ H G Q a1 a2 a3 a4 => h σ H G Q a1 a2 a3 fun v H' G' sl rs' t r o k => a4 v H' G' sl rs' t r o (da_nil ?_)) he) hg (he := he) (hpl := rfl)
  rcases k with ⟨ds, e, k⟩ | ⟨z, e, hz, k⟩
  · exact cd_l (cd_list e k)
  · refine cd_r fun G H vs Q hv hs hq => ?_
    match vs, hv with
    | [v], hv =>
      have hv1 := hv.1
      rw [e] at hv1
      have ev := hv1.str
      subst ev
      refine ⟨z, rfl, Nat.le_trans hz (by decide), fun l hl => ?_⟩
      have st : Stp G G H (upd H l (.lst (signV z))) := stp_new hl
      exact hq _ _ G (.n (signD z)) _ st ⟨l, _, rfl, hl, hs.fresh hl, upd_same, is_signs z⟩ (sepL.step st.sub hs fun a o q _ => same_new hl a o q) k
end
end PW

set_option maxHeartbeats 1000000
/-! text.index, text.split; parts of texts. -/
namespace PW
open PySem L2
theorem cut_front (z : Str) : (cutS z none (some 1)).cps.toList = z.cps.toList.take 1 := by
  unfold cutS
  have e : z.length = z.cps.toList.length := by show z.cps.size = _; simp
  rw [show HT.sIx z.length 0 none = 0 from rfl, show HT.sIx z.length z.length (some 1) = min 1 z.length from HT.sIx_nat _ _ 1]
  show (List.take _ (List.drop 0 _)) = _
  rw [List.drop_zero, Nat.sub_zero, e, ← List.take_take, List.take_length]
theorem cut_tail (z : Str) : (cutS z (some 1) none).cps.toList = z.cps.toList.drop 1 := by
  unfold cutS
  have e : z.length = z.cps.toList.length := by show z.cps.size = _; simp
  rw [show HT.sIx z.length z.length none = z.length from rfl, show HT.sIx z.length 0 (some 1) = min 1 z.length from HT.sIx_nat _ _ 1, e]
  show (List.take _ (List.drop _ _)) = _
  rw [List.take_of_length_le (by rw [List.length_drop]; exact Nat.le_refl _)]
  by_cases h : z.cps.toList.length = 0
  · rw [List.length_eq_zero_iff.mp h]; rfl
  · rw [Nat.min_eq_left (by omega)]
theorem str_ext {a b : Str} (h : a.cps.toList = b.cps.toList) : a = b := by
  cases a; cases b
  congr 1
  exact Array.ext' h
theorem str_len (z : Str) : z.length = z.cps.toList.length := by show z.cps.size = _; simp
variable [KC]
variable {m₀ : Mo} {N₀ : List Str} {sc₀ : Scope} {lv₀ : Nat} {xp₀ : Addr → List Sl → List Mem → Prop} {fF₀ cm₀ : Bool}
section
variable {c : Ctx m₀ N₀ sc₀ lv₀ xp₀ fF₀ cm₀} {e a b o it : Expr} {es : List Expr} {ρ ρ' : List Sl} {r1 rs : List Mem} {K : Sl → List Mem → Prop} {P : Post} {x y f : Str} {pos pos' p2 p3 apos cpos : Pos} {s1 s2 : Sl} {sts : List Stmt}
theorem dx_sindex (h : DX c o ρ rs fun s r => ∃ z, s = .d (.str z) ∧ DX c a ρ r fun s2 r2 => ∃ y i rest, s2 = .d (.str y) ∧ Builtin.Str.occurrences z y 0 z.length 1 = i :: rest ∧ K (.d (.int (i : Nat))) r2)
    (hm : M1ok c.X o "index" a apos pos := by exact ⟨rfl, rfl, rfl⟩) : DX c (.Call (.Attribute o "index" apos) [a] [] pos) ρ rs K := by
  intro σ H G Q he hs hx hq
  refine tE_of (pe_m1 PySem.F.slot_str_index PySem.F.type_str_index mt_sindex pe_t pe_t hm.hs hm.hb hm.hl) ?_
  refine h σ H G _ he hs hx fun v H1 G1 s1 r1 t1 h1 o1 k1 => ?_
  obtain ⟨z, rfl, k1⟩ := k1
  refine ⟨⟨z, h1.ok.str⟩, ?_⟩
  refine k1 σ H1 G1 _ (he.stp t1) o1 (hx.stp t1) fun w H2 G2 s2 r2 t2 h2 o2 k2 => ?_
  obtain ⟨y, i, rest, rfl, ho, k2⟩ := k2
  exact ⟨z, y, i, rest, h1.ok.str, by rw [h2.ok.str], ho, hq _ H2 G2 (.d (.int _)) r2 (t1.trans t2) (Is.int _) o2 k2⟩
theorem is_strs {G : Fp} {H : Hp} : ∀ ys : List Str, IsAll G H (ys.map V.str) (ys.map PyData.str)
  | [] => .nil
  | y :: ys => .cons (.str y) (is_strs ys)
theorem dx_split (h : DX c o ρ rs fun s r => ∃ z, s = .d (.str z) ∧ DX c a ρ r fun s2 r2 => ∃ y, s2 = .d (.str y) ∧ (y.length == 0) = false ∧ z.length ≤ 100000 ∧ K (.n ((Txt.split z y).map .str)) r2)
    (hm : M1ok c.X o "split" a apos pos := by exact ⟨rfl, rfl, rfl⟩) : DX c (.Call (.Attribute o "split" apos) [a] [] pos) ρ rs K := by
  intro σ H G Q he hs hx hq
  refine tE_of (pe_m1 PySem.F.slot_str_split PySem.F.type_str_split mt_split pe_t pe_t hm.hs hm.hb hm.hl) ?_
  refine h σ H G _ he hs hx fun v H1 G1 s1 r1 t1 h1 o1 k1 => ?_
  obtain ⟨z, rfl, k1⟩ := k1
  refine ⟨⟨z, h1.ok.str⟩, ?_⟩
  refine k1 σ H1 G1 _ (he.stp t1) o1 (hx.stp t1) fun w H2 G2 s2 r2 t2 h2 o2 k2 => ?_
  obtain ⟨y, rfl, hy, hz, k2⟩ := k2
  refine ⟨z, y, h1.ok.str, by rw [h2.ok.str], hy, Nat.le_trans (Nat.add_le_add_right hz 2) (by decide), fun p hp => ?_⟩
  have st : Stp G2 G2 H2 (upd H2 p (.lst ((Txt.split z y).map V.str))) := stp_new hp
  exact hq _ _ G2 (.n ((Txt.split z y).map .str)) r2 ((t1.trans t2).trans st) ⟨p, _, rfl, (t1.trans t2).fresh hp, o2.fresh hp, upd_same, is_strs _⟩ (sepL.step st.sub o2 fun a o q _ => same_new hp a o q) k2
end
end PW
namespace PW
open PySem L2
variable [KC]
variable {m₀ : Mo} {N₀ : List Str} {sc₀ : Scope} {lv₀ : Nat} {xp₀ : Addr → List Sl → List Mem → Prop} {fF₀ cm₀ : Bool}
/-- a display of texts, told by its texts alone -/
inductive StrC : List Expr → List Str → Prop
  | nil : StrC [] []
  | cons {z j pos es zs} : StrC es zs → StrC (.Constant (.str z) j pos :: es) (z :: zs)
section
variable {c : Ctx m₀ N₀ sc₀ lv₀ xp₀ fF₀ cm₀} {es : List Expr} {zs : List Str} {L b : Expr} {ρ : List Sl} {rs : List Mem} {K : Sl → List Mem → Prop} {pos pos' : Pos}
theorem da_weak {KA KA' : List Sl → List Mem → Prop} (h : DA c es ρ rs KA) (hk : ∀ s r, KA s r → KA' s r) : DA c es ρ rs KA' := fun σ H G Q a1 a2 a3 a4 => h σ H G Q a1 a2 a3 fun v H' G' sl rs' t r o k => a4 v H' G' sl rs' t r o (hk _ _ k)
theorem da_strs (h : StrC es zs) : DA c es ρ rs fun ss r => ss = (zs.map PyData.str).map .d ∧ r = rs := by
  induction h with
  | nil => exact da_nil ⟨rfl, rfl⟩
  | cons _ ih => exact da_cons (dx_str (da_weak ih fun s r k => ⟨by rw [k.1]; rfl, k.2⟩))
theorem dx_strs (h : StrC es zs) (hl : zs.length ≤ 100000) (k : K (.n (zs.map .str)) rs) : DX c (.List es pos) ρ rs K :=
  dx_lst (da_weak (da_strs h) fun ss r q => ⟨zs.map .str, by rw [q.1]; exact Datas.of _, by rw [q.1]; simpa using hl, by rw [q.2]; exact k⟩)
/-- [texts][i] -/
theorem dx_ixS (hL : L = .List es pos') (h : StrC es zs) (hl : zs.length ≤ 100000) (k : DX c b ρ rs fun s2 r2 => OpD (rIx KC.K) (.n (zs.map .str)) s2 r2 K) (hp : PlainIx b := by exact fun _ _ => rfl) : DX c (.Subscript L b pos) ρ rs K := by
  subst hL
  exact dx_ix cIx (dx_strs h hl k) hp
end
end PW

set_option maxHeartbeats 1000000
/-! Dicts of one's own, with ints or texts as keys. -/
namespace PW
open PySem L2
variable [KC]
variable {m₀ : Mo} {N₀ : List Str} {sc₀ : Scope} {lv₀ : Nat} {xp₀ : Addr → List Sl → List Mem → Prop} {fF₀ cm₀ : Bool}
abbrev DKv := List (Key × Sl)
def valS (kvs : DKv) (k : Key) : Option Sl := (kvs.find? fun kv => decide (kv.1 = k)).map (·.2)
def putS (kvs : DKv) (k : Key) (s : Sl) : DKv := if (kvs.any fun kv => decide (kv.1 = k)) = true then kvs.map (fun kv => if kv.1 = k then (kv.1, s) else kv) else kvs ++ [(k, s)]
def dropS (kvs : DKv) (k : Key) : DKv := kvs.filter fun kv => decide (kv.1 ≠ k)
/-- a key as a slot -/
def keyD : Key → PyData
  | .inl i => .int i
  | .inr z => .str z
def KvAll (G : Fp) (H : Hp) : List (Key × V) → DKv → Prop
  | [], [] => True
  | (k, v) :: vs, (j, s) :: ss => k = j ∧ SlOk G H v s ∧ KvAll G H vs ss
  | _, _ => False
theorem KvAll.stp0 {G G' : Fp} {H H' : Hp} (k : ∀ a o, H a = some o → ¬ G a → H' a = some o) (t : ∀ a, G' a → G a ∨ H a = none) : ∀ {vs : List (Key × V)} {ss : DKv}, KvAll G H vs ss → KvAll G' H' vs ss
  | [], [], _ => trivial
  | (_, _) :: _, (_, _) :: _, ⟨e, h, q⟩ => ⟨e, SlOk.stp0 k t h, KvAll.stp0 k t q⟩
  | [], _ :: _, h => h.elim
  | _ :: _, [], h => h.elim
section
variable {G : Fp} {H : Hp}
theorem KvAll.length : ∀ {vs : List (Key × V)} {ss : DKv}, KvAll G H vs ss → vs.length = ss.length
  | [], [], _ => rfl
  | (_, _) :: _, (_, _) :: _, ⟨_, _, q⟩ => congrArg (· + 1) (KvAll.length q)
  | [], _ :: _, h => h.elim
  | _ :: _, [], h => h.elim
theorem KvAll.keys : ∀ {vs : List (Key × V)} {ss : DKv}, KvAll G H vs ss → vs.map (·.1) = ss.map (·.1)
  | [], [], _ => rfl
  | (_, _) :: _, (_, _) :: _, ⟨e, _, q⟩ => by rw [List.map_cons, List.map_cons, q.keys]; dsimp only; rw [e]
  | [], _ :: _, h => h.elim
  | _ :: _, [], h => h.elim
theorem KvAll.val (k : Key) : ∀ {vs : List (Key × V)} {ss : DKv}, KvAll G H vs ss → (valS ss k = none ∧ valV vs k = none) ∨ ∃ s v, valS ss k = some s ∧ valV vs k = some v ∧ SlOk G H v s
  | [], [], _ => .inl ⟨rfl, rfl⟩
  | (j, v) :: vs, (j2, s) :: ss, ⟨e, h, q⟩ => by
    subst e
    by_cases ek : j = k
    · refine .inr ⟨s, v, ?_, ?_, h⟩
      · unfold valS; rw [List.find?_cons, decide_eq_true ek]; rfl
      · unfold valV; rw [List.find?_cons, decide_eq_true ek]; rfl
    · have e1 : valS ((j, s) :: ss) k = valS ss k := by unfold valS; rw [List.find?_cons, decide_eq_false ek]
      have e2 : valV ((j, v) :: vs) k = valV vs k := by unfold valV; rw [List.find?_cons, decide_eq_false ek]
      rw [e1, e2]
      exact q.val k
  | [], _ :: _, h => h.elim
  | _ :: _, [], h => h.elim
theorem KvAll.any (k : Key) : ∀ {vs : List (Key × V)} {ss : DKv}, KvAll G H vs ss → (vs.any fun kv => decide (kv.1 = k)) = ss.any fun kv => decide (kv.1 = k)
  | [], [], _ => rfl
  | (_, _) :: _, (_, _) :: _, ⟨e, _, q⟩ => by rw [List.any_cons, List.any_cons, q.any k]; dsimp only; rw [e]
  | [], _ :: _, h => h.elim
  | _ :: _, [], h => h.elim
theorem KvAll.map (k : Key) {v : V} {s : Sl} (hv : SlOk G H v s) : ∀ {vs : List (Key × V)} {ss : DKv}, KvAll G H vs ss → KvAll G H (vs.map fun kv => if kv.1 = k then (kv.1, v) else kv) (ss.map fun kv => if kv.1 = k then (kv.1, s) else kv)
  | [], [], _ => trivial
  | (j, _) :: _, (_, _) :: _, ⟨e, h, q⟩ => by
    subst e
    rw [List.map_cons, List.map_cons]
    dsimp only
    by_cases ek : j = k
    · rw [if_pos ek, if_pos ek]; exact ⟨rfl, hv, q.map k hv⟩
    · rw [if_neg ek, if_neg ek]; exact ⟨rfl, h, q.map k hv⟩
  | [], _ :: _, h => h.elim
  | _ :: _, [], h => h.elim
theorem KvAll.snoc (k : Key) {v : V} {s : Sl} (hv : SlOk G H v s) : ∀ {vs : List (Key × V)} {ss : DKv}, KvAll G H vs ss → KvAll G H (vs ++ [(k, v)]) (ss ++ [(k, s)])
  | [], [], _ => ⟨rfl, hv, trivial⟩
  | (_, _) :: _, (_, _) :: _, ⟨e, h, q⟩ => ⟨e, h, q.snoc k hv⟩
  | [], _ :: _, h => h.elim
  | _ :: _, [], h => h.elim
theorem KvAll.put (k : Key) {v : V} {s : Sl} (hv : SlOk G H v s) {vs : List (Key × V)} {ss : DKv} (h : KvAll G H vs ss) : KvAll G H (putK vs k v) (putS ss k s) := by
  unfold putK putS
  rw [h.any k]
  split
  · exact h.map k hv
  · exact h.snoc k hv
theorem KvAll.drop (k : Key) : ∀ {vs : List (Key × V)} {ss : DKv}, KvAll G H vs ss → KvAll G H (dropK vs k) (dropS ss k)
  | [], [], _ => trivial
  | (j, _) :: _, (_, _) :: _, ⟨e, h, q⟩ => by
    subst e
    unfold dropK dropS
    rw [List.filter_cons, List.filter_cons]
    dsimp only
    by_cases ek : j = k
    · rw [if_neg (by simp [ek]), if_neg (by simp [ek])]; exact q.drop k
    · rw [if_pos (by simp [ek]), if_pos (by simp [ek])]; exact ⟨rfl, h, q.drop k⟩
  | [], _ :: _, h => h.elim
  | _ :: _, [], h => h.elim
theorem key_is {k : Key} {v : V} (h : SlOk G H v (.d (keyD k))) : v = kV k := by
  cases k with
  | inl i => exact h.int
  | inr z => exact h.str
end
def dictM (p : Addr) (kvs : DKv) : Mem where
  ok F G H := (∀ a, F a ↔ a = p) ∧ ∃ vs, H p = some (.dK vs) ∧ KvAll G H vs kvs
  dom := fun ⟨e, vs, h, _⟩ a q => by
    have e2 := (e a).mp q
    subst e2
    exact ⟨_, h⟩
  step := fun ⟨e, vs, h, al⟩ k s => ⟨e, vs, k _ _ h (.inl ((e p).mpr rfl)), al.stp0 (fun a o q n => k a o q (.inr n)) s⟩
theorem KvAll.more {G G' : Fp} {H : Hp} (m : More G G' H) : ∀ {vs : List (Key × V)} {ss : DKv}, noSA (ss.map (·.2)) → KvAll G H vs ss → KvAll G' H vs ss
  | [], [], _, _ => trivial
  | (_, _) :: _, (_, _) :: _, hn, ⟨e, h, q⟩ => ⟨e, h.more m (hn _ List.mem_cons_self), KvAll.more m (fun s z => hn s (List.mem_cons_of_mem _ z)) q⟩
  | [], _ :: _, _, h => h.elim
  | _ :: _, [], _, h => h.elim
theorem lnd_dict {p : Addr} {kvs : DKv} (h : noSA (kvs.map (·.2))) : Lnd (dictM p kvs) := fun F G G' H ⟨e, vs, hp, al⟩ m => ⟨e, vs, hp, al.more m h⟩
theorem dict_at {G : Fp} {H : Hp} {rs : List Mem} {p : Addr} {kvs : DKv} {f : List Mem → List Mem} (pk : Pick rs (dictM p kvs) f) (hs : sepL rs G G H) :
    ∃ vs, H p = some (.dK vs) ∧ KvAll G H vs kvs ∧ G p ∧ ∀ ws kv2, KvAll G H ws kv2 → Stp G G H (upd H p (.dK ws)) ∧ sepL (f [dictM p kv2]) G G (upd H p (.dK ws)) := by
  obtain ⟨F1, F2, ⟨eF, vs, hp, al⟩, _, dj, eG⟩ := pk.split.mp hs
  have gp : G p := (eG p).mpr (.inl ((eF p).mpr rfl))
  refine ⟨vs, hp, al, gp, fun ws kv2 aw => ?_⟩
  refine sepL.change (B := dictM p kv2) pk hs fun F1 hA sub => ⟨fun a o q n => ?_, fun a o q => ?_, ?_⟩
  · obtain ⟨e1, _⟩ := hA
    rw [upd_ne fun z => n ((e1 a).mpr z)]; exact q
  · by_cases ea : a = p
    · subst ea; exact ⟨_, upd_same⟩
    · rw [upd_ne ea]; exact ⟨o, q⟩
  · obtain ⟨e1, _⟩ := hA
    refine ⟨e1, ws, upd_same, aw.stp0 (fun a o q n => ?_) fun a g => .inl g⟩
    rw [upd_ne (fun z => n (by rw [z]; exact gp))]; exact q
theorem own_dict {G : Fp} {H : Hp} {rs : List Mem} {p : Addr} {vs : List (Key × V)} {kvs : DKv} (hs : sepL rs G G H) (hp : H p = none) (al : KvAll G H vs kvs) :
    Stp G (fun a => a = p ∨ G a) H (upd H p (.dK vs)) ∧ sepL (dictM p kvs :: rs) (fun a => a = p ∨ G a) (fun a => a = p ∨ G a) (upd H p (.dK vs)) :=
  sepL.join hs (same_new hp) hp ⟨fun a => Iff.rfl, vs, upd_same, al.stp0 (fun a o q _ => same_new hp a o q) fun a g => g.elim (fun e => .inr (e ▸ hp)) .inl⟩
section
variable {c : Ctx m₀ N₀ sc₀ lv₀ xp₀ fF₀ cm₀} {e a b o i it : Expr} {es : List Expr} {ρ ρ' : List Sl} {r1 rs : List Mem} {K : Sl → List Mem → Prop} {P : Post} {x y f : Str} {pos pos' p2 p3 apos cpos : Pos} {s1 s2 : Sl} {sts : List Stmt}
/-- {} -/
theorem dx_dnew (k : ∀ p, K (.r (.ref p)) (dictM p [] :: rs)) : DX c (.Dict [] [] pos) ρ rs K := by
  intro σ H G Q he hs hx hq
  refine tE_of pe_dnewK fun p hp => ?_
  obtain ⟨t, o⟩ := own_dict (vs := []) (kvs := []) hs hp trivial
  exact hq _ _ _ (.r (.ref p)) _ t rfl o (k p)
/-- d[k], there -/
theorem dx_dget (h : DX c o ρ rs fun s1 r1 => DX c i ρ r1 fun s2 r2 => ∃ p kvs f k s, s1 = .r (.ref p) ∧ s2 = .d (keyD k) ∧ Pick r2 (dictM p kvs) f ∧ valS kvs k = some s ∧ (∀ ds, s ≠ .n ds) ∧ K s r2)
    (hp : NoSl i := by exact fun _ _ => rfl) : DX c (.Subscript o i pos) ρ rs K := by
  intro σ H G Q he hs hx hq
  refine tE_of (pe_dget (by have := c.un; omega) pe_t pe_t hp) ?_
  refine h σ H G _ he hs hx fun v1 H1 G1 t1 r1 st1 h1 o1 k1 => ?_
  refine k1 σ H1 G1 _ (he.stp st1) o1 (hx.stp st1) fun v2 H2 G2 t2 r2 st2 h2 o2 k2 => ?_
  obtain ⟨p, kvs, f, k, s, rfl, rfl, pk, hv, hn, k2⟩ := k2
  have e1 : v1 = .ref p := h1
  obtain ⟨vs, hp, al, _, _⟩ := dict_at pk o2
  rcases al.val k with ⟨z, _⟩ | ⟨s', v, z1, z2, z3⟩
  · rw [z] at hv; cases hv
  · rw [z1] at hv
    cases hv
    refine ⟨p, v, e1, ?_, hq v H2 G2 s r2 (st1.trans st2) (Rs.of_ok z3 hn) o2 k2⟩
    rw [key_is h2.ok, ← z2]
    exact DGet.k hp
/-- d.get(k): there or None -/
theorem dx_dget1 (h : DX c o ρ rs fun s1 r1 => ∃ p kvs f, s1 = .r (.ref p) ∧ Pick r1 (dictM p kvs) f ∧ DX c i ρ r1 fun s2 r2 => ∃ kv2 f2 k, s2 = .d (keyD k) ∧ Pick r2 (dictM p kv2) f2 ∧ (∀ s, valS kv2 k = some s → ∀ ds, s ≠ .n ds) ∧ K ((valS kv2 k).getD (.d .none)) r2)
    (m : M1 c.X o "get" apos i cpos := by exact ⟨rfl, rfl, rfl, rfl⟩) : DX c (.Call (.Attribute o "get" apos) [i] [] cpos) ρ rs K := by
  intro σ H G Q he hs hx hq
  refine tE_of (pe_dget1 (by have := c.un; omega) pe_t pe_t m) ?_
  refine h σ H G _ he hs hx fun v1 H1 G1 t1 r1 st1 h1 o1 k1 => ?_
  obtain ⟨p, kvs, f, rfl, pk, k1⟩ := k1
  have e1 : v1 = .ref p := h1
  obtain ⟨vs, hp, al, _, _⟩ := dict_at pk o1
  refine ⟨p, e1, .inl ⟨vs, .inl hp⟩, ?_⟩
  refine k1 σ H1 G1 _ (he.stp st1) o1 (hx.stp st1) fun v2 H2 G2 t2 r2 st2 h2 o2 k2 => ?_
  obtain ⟨kv2, f2, k, rfl, pk2, hn, k2⟩ := k2
  obtain ⟨vs2, hp2, al2, _, _⟩ := dict_at pk2 o2
  refine ⟨valV vs2 k, by rw [key_is h2.ok]; exact DGet.k hp2, ?_⟩
  rcases al2.val k with ⟨z1, z2⟩ | ⟨s, v, z1, z2, z3⟩
  · rw [z1] at k2
    rw [z2]
    exact hq .non H2 G2 (.d .none) r2 (st1.trans st2) Is.non o2 k2
  · rw [z1] at k2
    rw [z2]
    exact hq v H2 G2 s r2 (st1.trans st2) (Rs.of_ok z3 (hn s z1)) o2 k2
/-- d[k] = e -/
theorem ds_dput (h : DX c e ρ rs fun s r => DX c o ρ r fun s1 r1 => DX c i ρ r1 fun s2 r2 => ∃ p kvs f k, s1 = .r (.ref p) ∧ s2 = .d (keyD k) ∧ Pick r2 (dictM p kvs) f ∧ kvs.length ≤ 100000 ∧ P.nx ρ (f [dictM p (putS kvs k s.plain)])) (hw : swapsWith e (some (.Subscript o i pos')) pos.line c.X.env = pure false := by rfl)
    (ha : ∀ v, assign (.Subscript o i pos') c.X.env v = (do let ov ← holding [v] (eval o c.X.env); let iv ← holding [v, ov] (eval i c.X.env); standAt pos'; holding [v, ov, iv] (setItem ov iv v); release [v, ov, iv] []) := by intro _; rfl) :
    DS c (.Assign [.Subscript o i pos'] e pos) ρ rs P := by
  intro σ H G D he hs hx hd
  refine tS_of (ps_asg pe_t (pg_sub pe_t pe_t (set_dict (by have := c.un; omega)) ha) hw rfl) ?_
  refine h σ H G _ he hs hx fun v H1 G1 s r1 t1 h1 o1 k1 => ?_
  refine k1 σ H1 G1 _ (he.stp t1) o1 (hx.stp t1) fun v2 H2 G2 s1 r2 t2 h2 o2 k2 => ?_
  refine k2 σ H2 G2 _ ((he.stp t1).stp t2) o2 ((hx.stp t1).stp t2) fun v3 H3 G3 s2 r3 t3 h3 o3 k3 => ?_
  obtain ⟨p, kvs, f, k, rfl, rfl, pk, hl, k3⟩ := k3
  have e2 : v2 = .ref p := h2
  obtain ⟨vs, hp, al, _, ch⟩ := dict_at pk o3
  obtain ⟨t4, o4⟩ := ch (putK vs k v) (putS kvs k s.plain) (al.put k ((h1.ok.plain.stp t2).stp t3))
  refine ⟨p, _, e2, ?_, hd.nx σ _ G3 ρ _ (((t1.trans t2).trans t3).trans t4) ((((he.stp t1).stp t2).stp t3).stp t4) o4 k3⟩
  rw [key_is h3.ok]
  exact DPut.k hp (by rw [al.length]; exact Nat.lt_of_le_of_lt hl (by decide))
/-- d.pop(k), there -/
theorem dx_dpop1 (h : DX c o ρ rs fun s1 r1 => ∃ p kvs f, s1 = .r (.ref p) ∧ Pick r1 (dictM p kvs) f ∧ DX c i ρ r1 fun s2 r2 => ∃ kv2 f2 k s, s2 = .d (keyD k) ∧ Pick r2 (dictM p kv2) f2 ∧ valS kv2 k = some s ∧ (∀ ds, s ≠ .n ds) ∧ K s (f2 [dictM p (dropS kv2 k)]))
    (m : M1 c.X o "pop" apos i cpos := by exact ⟨rfl, rfl, rfl, rfl⟩) : DX c (.Call (.Attribute o "pop" apos) [i] [] cpos) ρ rs K := by
  intro σ H G Q he hs hx hq
  refine tE_of (pe_dpop1 pe_t pe_t m) ?_
  refine h σ H G _ he hs hx fun v1 H1 G1 t1 r1 st1 h1 o1 k1 => ?_
  obtain ⟨p, kvs, f, rfl, pk, k1⟩ := k1
  have e1 : v1 = .ref p := h1
  obtain ⟨vs, hp, al, _, _⟩ := dict_at pk o1
  refine ⟨p, e1, .inl ⟨vs, .inl hp⟩, ?_⟩
  refine k1 σ H1 G1 _ (he.stp st1) o1 (hx.stp st1) fun v2 H2 G2 t2 r2 st2 h2 o2 k2 => ?_
  obtain ⟨kv2, f2, k, s, rfl, pk2, hv, hn, k2⟩ := k2
  obtain ⟨vs2, hp2, al2, _, ch⟩ := dict_at pk2 o2
  rcases al2.val k with ⟨z, _⟩ | ⟨s', v, z1, z2, z3⟩
  · rw [z] at hv; cases hv
  · rw [z1] at hv
    cases hv
    obtain ⟨t3, o3⟩ := ch (dropK vs2 k) (dropS kv2 k) (al2.drop k)
    exact ⟨vs2, k, v, hp2, key_is h2.ok, z2, hq v _ G2 s _ ((st1.trans st2).trans t3) (Rs.of_ok (z3.stp t3) hn) o3 k2⟩
/-- d.pop(k, x) -/
theorem dx_dpop2 (h : DX c o ρ rs fun s1 r1 => ∃ p kvs f, s1 = .r (.ref p) ∧ Pick r1 (dictM p kvs) f ∧ DX c i ρ r1 fun s2 r2 => DX c b ρ r2 fun s3 r3 => ∃ kv2 f2 k, s2.plain = .d (keyD k) ∧ Pick r3 (dictM p kv2) f2 ∧ (∀ s, valS kv2 k = some s → (∀ ds, s ≠ .n ds) ∧ K s (f2 [dictM p (dropS kv2 k)])) ∧ (valS kv2 k = none → K s3 r3))
    (m : M2 c.X o "pop" apos i b cpos := by exact ⟨rfl, rfl, rfl, rfl⟩) : DX c (.Call (.Attribute o "pop" apos) [i, b] [] cpos) ρ rs K := by
  intro σ H G Q he hs hx hq
  refine tE_of (pe_dpop2 pe_t pe_t pe_t m) ?_
  refine h σ H G _ he hs hx fun v1 H1 G1 t1 r1 st1 h1 o1 k1 => ?_
  obtain ⟨p, kvs, f, rfl, pk, k1⟩ := k1
  have e1 : v1 = .ref p := h1
  obtain ⟨vs, hp, al, _, _⟩ := dict_at pk o1
  refine ⟨p, e1, .inl ⟨vs, .inl hp⟩, ?_⟩
  refine k1 σ H1 G1 _ (he.stp st1) o1 (hx.stp st1) fun v2 H2 G2 t2 r2 st2 h2 o2 k2 => ?_
  refine k2 σ H2 G2 _ ((he.stp st1).stp st2) o2 ((hx.stp st1).stp st2) fun v3 H3 G3 t3 r3 st3 h3 o3 k3 => ?_
  obtain ⟨kv2, f2, k, ek, pk2, hs1, hs2⟩ := k3
  have st := (st1.trans st2).trans st3
  have e2 : v2 = kV k := key_is (by rw [← ek]; exact h2.ok.plain)
  obtain ⟨vs2, hp2, al2, _, ch⟩ := dict_at pk2 o3
  obtain ⟨t4, o4⟩ := ch (dropK vs2 k) (dropS kv2 k) (al2.drop k)
  refine ⟨vs2, k, hp2, e2, fun v hv => ?_, fun hv => ?_⟩
  · rcases al2.val k with ⟨_, z⟩ | ⟨s, v', z1, z2, z3⟩
    · rw [z] at hv; cases hv
    · rw [z2] at hv
      cases hv
      obtain ⟨hn, kk⟩ := hs1 s z1
      exact hq v _ G3 s _ (st.trans t4) (Rs.of_ok (z3.stp t4) hn) o4 kk
  · rcases al2.val k with ⟨z, _⟩ | ⟨s, v', z1, z2, z3⟩
    · exact hq v3 H3 G3 t3 r3 st (h3.back (st1.trans st2)) o3 (hs2 z)
    · rw [z2] at hv; cases hv
/-- k in d -/
theorem dx_din (h : DX c i ρ rs fun s2 r1 => DX c o ρ r1 fun s1 r2 => ∃ p kvs f k, s1 = .r (.ref p) ∧ s2.plain = .d (keyD k) ∧ Pick r2 (dictM p kvs) f ∧ K (.d (.bool (valS kvs k).isSome)) r2) (hm : behindInMarks .In o = false := by rfl) : DX c (.Compare i [.In] [o] pos) ρ rs K := by
  intro σ H G Q he hs hx hq
  refine tE_of (pe_cmp (pc_din (by have := c.un; omega) pe_t pe_t) hm) ?_
  refine h σ H G _ he hs hx fun v1 H1 G1 t1 r1 st1 h1 o1 k1 => ?_
  refine k1 σ H1 G1 _ (he.stp st1) o1 (hx.stp st1) fun v2 H2 G2 t2 r2 st2 h2 o2 k2 => ?_
  obtain ⟨p, kvs, f, k, rfl, ek, pk, k2⟩ := k2
  have e1 : v2 = .ref p := h2
  have e2 : v1 = kV k := key_is (by rw [← ek]; exact h1.ok.plain.stp st2)
  obtain ⟨vs, hp, al, _, _⟩ := dict_at pk o2
  refine ⟨p, valV vs k, e1, by rw [e2]; exact DGet.k hp, ?_⟩
  have ei : (valV vs k).isSome = (valS kvs k).isSome := by
    rcases al.val k with ⟨z1, z2⟩ | ⟨s, v, z1, z2, _⟩ <;> rw [z1, z2] <;> rfl
  rw [ei]
  exact hq _ H2 G2 (.d (.bool _)) r2 (st1.trans st2) (Is.bl _) o2 k2
/-- sorted(d), the keys ints -/
theorem dx_sortedD (h : DX c a ρ rs fun s r => ∃ p kvs f ks, s = .r (.ref p) ∧ Pick r (dictM p kvs) f ∧ kvs.map (·.1) = ks.map Sum.inl ∧ ks.length < 64 ∧ ∀ ys : List Int, ys.Perm ks → ys.Pairwise (· ≤ ·) → K (.n (ys.map .int)) r)
    (hg : KdIn sc₀.names ("sorted" : Str) .globalImplicit := by first | ((with_reducible (repeat (first | exact KdIn.zero | apply KdIn.succ))); (first | (all_goals fail) | fail)) | exact kd_of rfl) (he : starEach [a] c.X.env = (false, eval a c.X.env) :: starEach [] c.X.env := by rfl) (hcm : cm₀ = true := by rfl) : DX c (.Call (.Name "sorted" p2) [a] [] pos) ρ rs K := by
  refine dx_callB (call_sortedDI (c.calm hcm)) c.bl.sorted b_sorted (da_cons (dx_weak h fun s r k => da_nil ?_) he) hg (he := he) (hpl := rfl)
  obtain ⟨p, kvs, f, ks, rfl, pk, ek, hl, k⟩ := k
  intro G H vs Q hv hs hq
  match vs, hv with
  | [v], hv =>
    have ev : v = .ref p := hv.1
    subst ev
    obtain ⟨ws, hp, al, _, _⟩ := dict_at pk hs
    refine ⟨p, ws, ks, rfl, .inl hp, by rw [al.keys, ek], hl, fun ys q hperm hpw hz => ?_⟩
    have st : Stp G G H (upd H q (.lst (ys.map V.int))) := stp_new hz
    exact hq _ _ G (.n (ys.map .int)) _ st ⟨q, _, rfl, hz, hs.fresh hz, upd_same, is_ints ys⟩ (sepL.step st.sub hs fun a o q _ => same_new hz a o q) (k ys hperm hpw)
/-- C(): an object made, without arguments -/
theorem dx_make0 {k : Nat} {C : Addr} {Q0 : Cn} (M : MkIs m₀ x C k Q0) (h : ∀ p, Q0 [.r (.ref p)] [insM C p []] (fun s r2 => s = .d .none ∧ K (.r (.ref p)) (r2 ++ rs)) (fun _ _ => False))
    (hk : k + 1 ≤ lv₀ := by decide) (hcm : cm₀ = true := by rfl) (hg : KdIn sc₀.names x .globalImplicit := by first | ((with_reducible (repeat (first | exact KdIn.zero | apply KdIn.succ))); (first | (all_goals fail) | fail)) | exact kd_of rfl) : DX c (.Call (.Name x p2) [] [] pos) ρ rs K := by
  intro σ H G Q hE hs hx hq
  obtain ⟨f, fd, ps, F, mk, hmg, hb⟩ := M.ex
  refine tE_of (pe_make0 (by rw [c.hm.K]; exact mk) (fn_at c.hm F) ((c.room hcm).mono hk) (c_gl hg) (by rw [c.hm.mg]; exact hmg) (by rw [c.hm.K]; exact hb) .nil passL (c.nd1 hg)) ?_
  intro p dx hp hd ne
  obtain ⟨G2, t2, o2⟩ := own_ins (C := C) hs hp hd ne
  refine ⟨[.r (.ref p)], sepM rs, [insM C p []], G2, _, _, (show SlAll G2 _ [.ref p] [.r (.ref p)] from ⟨rfl, trivial⟩), sepM_app.mpr o2, h p, fun v H' G' sl rs' t r o ⟨es, k⟩ => ?_, fun D H' G' rs' t o k => k⟩
  subst es
  have hv : Is G' H' v .none := r
  refine ⟨by cases hv; rfl, ?_⟩
  exact hq (.ref p) H' G' (.r (.ref p)) _ (t2.trans t) rfl (sepM_app.mp o) k
end
end PW

set_option maxHeartbeats 1000000
/-! The bits of a script's numbers; a law's end that tells them. -/
namespace PW
open PySem L2
/-- no number of a script lies beyond it -/
@[irreducible] def BM : Int := ((2 ^ 1048576 : Nat) : Int)
theorem bm_def : BM = ((2 ^ 1048576 : Nat) : Int) := by unfold BM; rfl
theorem bm_ge {n : Nat} (h : n ≤ 1048576) : ((2 ^ n : Nat) : Int) ≤ BM := by
  unfold BM
  exact Int.ofNat_le.mpr (Nat.pow_le_pow_right (by decide) h)
theorem bm_big : (1000000000000000000000000000000 : Int) ≤ BM := Int.le_trans (by decide) (bm_ge (n := 300) (by decide))
theorem bm_of {n : Int} (h : Builtin.Int.intBits n ≤ 1048576) : -BM ≤ n ∧ n ≤ BM := by
  have h1 := intBits_le_iff.mp h
  have h2 : (n.natAbs : Int) ≤ BM := by
    unfold BM
    exact Int.ofNat_le.mpr (Nat.le_of_lt h1)
  omega
theorem mul_bm {i j : Int} (hi : -(16 * BM) ≤ i ∧ i ≤ 16 * BM) (hj : -(2 ^ 300) < j ∧ j < 2 ^ 300) : IntMulOk i j := by
  have e := bm_def
  have hb : Builtin.Int.intBits i ≤ 1048581 := by
    refine intBits_le_iff.mpr ?_
    have h2 : (2 ^ 1048581 : Nat) = 2 ^ 1048576 * 32 := by rw [show (1048581 : Nat) = 1048576 + 5 from rfl, Nat.pow_add]
    rw [h2]
    have hp : 0 < 2 ^ 1048576 := Nat.two_pow_pos _
    generalize hP : (2 ^ 1048576 : Nat) = P at e hp ⊢
    rw [e] at hi
    omega
  have hj2 : Builtin.Int.intBits j ≤ 300 := by
    refine intBits_le_iff.mpr ?_
    have h2 : ((2 ^ 300 : Nat) : Int) = 2 ^ 300 := by decide +kernel
    omega
  exact IntMulOk.of_le hb hj2 (by decide)
section
variable [KC]
def lawCB : Cn := fun ss rin res _ => ∃ ns : List Int, ss = [.d (.list (ns.map .int))] ∧ rin = [] ∧ (ns.length ≤ 63 ∧ ∀ n ∈ ns, -BM ≤ n ∧ n ≤ BM) ∧ res (.d (.bool true)) []
theorem law_inB {H : Hp} {a : Addr} {ns : List Int} (hl : ns.length ≤ 63) (hb : ∀ n ∈ ns, Builtin.Int.intBits n ≤ 1048576) (h : SqL KC.K H a (ns.map V.int)) : spC lawCB [.ref a] H (fun v _ => v = .bl true) (fun _ _ _ => False) := by
  refine ⟨[.d (.list (ns.map .int))], sepM [], [], fun _ => False, fun s _ => s = .d (.bool true), fun _ _ => False, ⟨?_, trivial⟩, ?_, ⟨ns, rfl, rfl, ⟨hl, fun n hn => bm_of (hb n hn)⟩, rfl⟩, fun v H' G' sl rs' t r o k => ?_, fun _ _ _ _ _ _ z => z⟩
  · refine Is.lst ?_ (is_ints ns)
    rcases h with h | h
    · exact .inl ⟨h, id⟩
    · exact .inr h
  · exact ⟨fun _ => False, fun _ => False, fun _ z => z, fun _ z => z, fun _ z => z.elim, fun _ => ⟨False.elim, fun z => z.elim id id⟩⟩
  · subst k
    exact rs_bool r
end
theorem law_walkB {l : PySem.W.OpenLaw} {k : Nat} {q : Program} {loose : List Str} {XP : (Str → Option Value) → Heap → Prop} {YP : World → Heap → Prop} {d : DefRec} {K : Params → PySem.W.Frag} {x : Str}
    (hn : l.most = some 63) (hdf : d.params.defaults = []) (hr : Room k callerA) (hY : ∀ (w : World) (h : Heap), YP w h → (K w.params).In h)
    (F : ∀ (w : World) (mg : Str → Option Value) (fa : Addr) (h : Heap), (K w.params).In h → h.Ns mainGlobals mg → mg d.name = some (.ref fa) →
      ∃ fd : FuncData, (∀ (s : Shared) (u : Value), BindsTo s fd ⟨[u], []⟩ [(x, u)]) ∧
        ∀ base : Heap, FnOk l.prog w (K w.params) mg base (L2.CX l.prog w) k fa fd [x] (@spC ⟨K w.params⟩ lawCB)) :
    PySem.W.WalkO q loose XP YP l.row.toRowW d [] (fun f vs => PySem.call f vs) := by
  refine L2.walk_ofB (K := K) (n := 63) (k := k) (x := x) (CX := fun w => L2.CX l.prog w) (sp := fun w => @spC ⟨K w.params⟩ lawCB) hn (by decide) hdf hr hY ?_ ?_ (fun w H s e s' => cx_no)
  · intro w mg fa h KX G hmg
    obtain ⟨fd, h1, h2⟩ := F w mg fa h KX G hmg
    exact ⟨fd, h1, fun base _ _ => h2 base⟩
  · intro w H a ns hl hb _ hS
    exact @law_inB ⟨K w.params⟩ H a ns hl hb hS
/-- data that _law_alike goes through, so deep -/
inductive AlikeOk : Nat → PyData → Prop
  | non (n) : AlikeOk n .none
  | bl (n b) : AlikeOk n (.bool b)
  | int (n i) : AlikeOk n (.int i)
  | str (n) (s : Str) : AlikeOk n (.str s)
  | tup {n ds} : ds.length ≤ 40000 → (∀ d ∈ ds, AlikeOk n d) → AlikeOk (n + 1) (.tuple ds)
  | lst {n ds} : ds.length ≤ 40000 → (∀ d ∈ ds, AlikeOk n d) → AlikeOk (n + 1) (.list ds)
theorem AlikeOk.mono {n : Nat} {d : PyData} (h : AlikeOk n d) : AlikeOk (n + 1) d := by
  induction h with
  | non => exact .non _
  | bl => exact .bl _ _
  | int => exact .int _ _
  | str => exact .str _ _
  | tup h _ ih => exact .tup h ih
  | lst h _ ih => exact .lst h ih
section
variable [KC] {m₀ : Mo} {N₀ : List Str} {sc₀ : Scope} {lv₀ : Nat} {xp₀ : Addr → List Sl → List Mem → Prop} {fF₀ cm₀ : Bool} {c : Ctx m₀ N₀ sc₀ lv₀ xp₀ fF₀ cm₀} {a o : Expr} {ρ : List Sl} {rs : List Mem} {K : Sl → List Mem → Prop} {pos apos cpos : Pos}
/-- xs.index(y), xs plain -/
theorem dx_lindex (h : DX c o ρ rs fun s r => ∃ ds, s.plain = .d (.list ds) ∧ DA c [a] ρ r fun ts r2 => ∃ t d j z, ts = [t] ∧ t.plain = .d d ∧ SeqAt.shaped (.list ds) = true ∧ SeqAt.shaped d = true ∧ ds[j]? = some z ∧ PyData.eqv z d = true ∧ (∀ (m : Nat) (z' : PyData), m < j → ds[m]? = some z' → PyData.eqv z' d = false) ∧ K (.d (.int (j : Nat))) r2)
    (hm : MeOk c.X o "index" a [] apos cpos := by exact ⟨rfl, rfl, rfl, rfl⟩) : DX c (.Call (.Attribute o "index" apos) [a] [] cpos) ρ rs K := by
  intro σ H G Q he hs hx hq
  refine tE_of (pe_bm PySem.F.plainAttrs_list PySem.F.slot_list_index PySem.F.type_list_index (mt_indexD (by have := c.un; omega)) pe_t pa_t (hs := hm.hs) (hbase := hm.hb) (hline := hm.hl) (hfew := hm.hf)) ?_
  refine h σ H G _ he hs hx fun v H1 G1 s1 r1 t1 h1 o1 k1 => ?_
  obtain ⟨ds, e1, k1⟩ := k1
  have i1 : Is G1 H1 v (.list ds) := plain_d e1 h1.ok
  obtain ⟨p, vs, rfl, rd, al⟩ := (show SlOk G1 H1 v (.d (.list ds)) from i1).list rfl
  refine ⟨.inl ⟨rfl, vs, c.ck ▸ rd.sq⟩, ?_⟩
  refine k1 σ H1 G1 _ (he.stp t1) o1 (hx.stp t1) fun us H2 G2 ts r2 t2 h2 o2 k2 => ?_
  obtain ⟨t, d, j, z, rfl, e2, sl, sd, hz, hzj, hno, k2⟩ := k2
  match us, h2 with
  | [y], h2 =>
    refine ⟨p, y, d, ds, j, z, rfl, rfl, c.ck ▸ (i1.stp t2).dp, c.ck ▸ (plain_d e2 h2.1).dp, sl, sd, hz, hzj, hno, ?_⟩
    exact hq _ H2 G2 (.d (.int _)) r2 (t1.trans t2) (Is.int _) o2 k2
end
end PW

set_option maxHeartbeats 1000000
/-! Collections of things; dicts copied, listed, counted, asked for truth. -/
namespace PW
open PySem L2
variable [KC]
variable {m₀ : Mo} {N₀ : List Str} {sc₀ : Scope} {lv₀ : Nat} {xp₀ : Addr → List Sl → List Mem → Prop} {fF₀ cm₀ : Bool}
theorem pick_mid (A : Mem) (ys : List Mem) : ∀ xs : List Mem, ∃ f, Pick (xs ++ A :: ys) A f ∧ ∀ zs, f zs = xs ++ (zs ++ ys)
  | [] => ⟨_, .zero, fun _ => rfl⟩
  | B :: xs => by
    obtain ⟨f, p, e⟩ := pick_mid A ys xs
    exact ⟨_, .succ p, fun zs => by show B :: f zs = _; rw [e]; rfl⟩
theorem sep_mid {H : Hp} {G F : Fp} {A : Mem} {xs ys : List Mem} : sepL (xs ++ A :: ys) F G H ↔ sepL (A :: (xs ++ ys)) F G H := by
  obtain ⟨f, p, e⟩ := pick_mid A ys xs
  have := p.split (H := H) (G := G) (F := F)
  rw [e []] at this
  exact this
theorem sep_fold {H : Hp} {G F : Fp} {xs ys : List Mem} : sepL (sepM xs :: ys) F G H ↔ sepL (xs ++ ys) F G H := by
  constructor
  · rintro ⟨F1, F2, h1, h2, d, e⟩
    exact sepL.app.mpr ⟨F1, F2, h1, h2, d, e⟩
  · intro h
    obtain ⟨F1, F2, h1, h2, d, e⟩ := sepL.app.mp h
    exact ⟨F1, F2, h1, h2, d, e⟩
/-- as many things as a list tells -/
def famM {α : Type} (f : α → Mem) (l : List α) : Mem := sepM (l.map f)
theorem ent_iff {a b : List Mem} (h : ∀ {G F : Fp} {H : Hp}, sepL a F G H → sepL b F G H) : Ent a b := fun G H q => ⟨G, fun _ z => z, h q⟩
theorem take_mid {α : Type} {l : List α} {i : Nat} {x : α} (h : l[i]? = some x) : l = l.take i ++ x :: l.drop (i + 1) ∧ i < l.length := by
  obtain ⟨hi, rfl⟩ := List.getElem?_eq_some_iff.mp h
  exact ⟨by simp, hi⟩
section
variable {α : Type} {f : α → Mem} {l : List α} {i : Nat} {x y : α} {rs : List Mem}
theorem fam_out (h : l[i]? = some x) : Ent (famM f l :: rs) (f x :: famM f (l.take i ++ l.drop (i + 1)) :: rs) := ent_iff fun {G F H} q => by
  obtain ⟨e, hi⟩ := take_mid h
  have q := sep_fold.mp q
  rw [e, List.map_append, List.map_cons, List.append_assoc, List.cons_append] at q
  have q := sep_mid.mp q
  obtain ⟨F1, F2, h1, h2, d, e2⟩ := q
  refine ⟨F1, F2, h1, sep_fold.mpr ?_, d, e2⟩
  rw [List.map_append, List.append_assoc]; exact h2
theorem fam_in (h : i < l.length) : Ent (f y :: famM f (l.take i ++ l.drop (i + 1)) :: rs) (famM f (l.set i y) :: rs) := ent_iff fun {G F H} q => by
  refine sep_fold.mpr ?_
  have e : l.set i y = l.take i ++ y :: l.drop (i + 1) := by rw [List.set_eq_take_append_cons_drop, if_pos h]
  rw [e, List.map_append, List.map_cons, List.append_assoc, List.cons_append]
  refine sep_mid.mpr ?_
  obtain ⟨F1, F2, h1, h2, d, e2⟩ := q
  refine ⟨F1, F2, h1, ?_, d, e2⟩
  have h2 := sep_fold.mp h2
  rw [List.map_append, List.append_assoc] at h2; exact h2
theorem fam_add : Ent (f y :: famM f l :: rs) (famM f (l ++ [y]) :: rs) := ent_iff fun {G F H} q => by
  refine sep_fold.mpr ?_
  rw [List.map_append, List.append_assoc]
  refine sep_mid.mpr ?_
  obtain ⟨F1, F2, h1, h2, d, e2⟩ := q
  exact ⟨F1, F2, h1, sep_fold.mp h2, d, e2⟩
theorem fam_cons : Ent (f y :: famM f l :: rs) (famM f (y :: l) :: rs) := ent_iff fun {G F H} q => by
  refine sep_fold.mpr ?_
  obtain ⟨F1, F2, h1, h2, d, e2⟩ := q
  exact ⟨F1, F2, h1, sep_fold.mp h2, d, e2⟩
theorem fam_uncons : Ent (famM f (y :: l) :: rs) (f y :: famM f l :: rs) := ent_iff fun {G F H} q => by
  obtain ⟨F1, F2, h1, h2, d, e2⟩ := sep_fold.mp q
  exact ⟨F1, F2, h1, sep_fold.mpr h2, d, e2⟩
theorem fam_nil : Ent rs (famM f [] :: rs) := ent_iff fun {G F H} q => ⟨fun _ => False, F, fun _ z => z, q, fun _ z => z.elim, fun _ => ⟨.inr, fun z => z.elim False.elim id⟩⟩
theorem fam_back (h : l[i]? = some x) : Ent (f x :: famM f (l.take i ++ l.drop (i + 1)) :: rs) (famM f l :: rs) := by
  obtain ⟨hi, e⟩ := List.getElem?_eq_some_iff.mp h
  have := fam_in (f := f) (y := x) (rs := rs) hi
  have e2 : l.set i x = l := by rw [← e]; exact List.set_getElem_self hi
  rwa [e2] at this
/-- under what stands ahead -/
theorem ent_under {xs a b : List Mem} (h : Ent a b) (hh : ∀ {G F : Fp} {H : Hp}, sepL a F G H → sepL b F G H) : Ent (xs ++ a) (xs ++ b) := ent_iff fun {G F H} q => by
  obtain ⟨F1, F2, h1, h2, d, e⟩ := sepL.app.mp q
  exact sepL.app.mpr ⟨F1, F2, h1, hh h2, d, e⟩
end
/-- the same, wherever the rest is -/
def SE (a b : List Mem) : Prop := ∀ (G F : Fp) (H : Hp), sepL a F G H → sepL b F G H
theorem SE.ent {a b : List Mem} (h : SE a b) : Ent a b := ent_iff fun q => h _ _ _ q
theorem SE.refl {a : List Mem} : SE a a := fun _ _ _ h => h
theorem SE.trans {a b d : List Mem} (h : SE a b) (k : SE b d) : SE a d := fun _ _ _ q => k _ _ _ (h _ _ _ q)
theorem SE.cons {A : Mem} {a b : List Mem} (h : SE a b) : SE (A :: a) (A :: b) := fun _ _ _ ⟨F1, F2, h1, h2, d, e⟩ => ⟨F1, F2, h1, h _ _ _ h2, d, e⟩
theorem SE.swap {A B : Mem} {a : List Mem} : SE (A :: B :: a) (B :: A :: a) := fun G F H h => (Pick.split (.succ .zero)).mp h
section
variable {α : Type} {f g : α → Mem} {l : List α} {i : Nat} {x y : α} {rs : List Mem}
theorem se_out (h : l[i]? = some x) : SE (famM f l :: rs) (f x :: famM f (l.take i ++ l.drop (i + 1)) :: rs) := fun G F H q => by
  obtain ⟨e, hi⟩ := take_mid h
  have q := sep_fold.mp q
  rw [e, List.map_append, List.map_cons, List.append_assoc, List.cons_append] at q
  have q := sep_mid.mp q
  obtain ⟨F1, F2, h1, h2, d, e2⟩ := q
  refine ⟨F1, F2, h1, sep_fold.mpr ?_, d, e2⟩
  rw [List.map_append, List.append_assoc]; exact h2
theorem se_in (h : i < l.length) : SE (f y :: famM f (l.take i ++ l.drop (i + 1)) :: rs) (famM f (l.set i y) :: rs) := fun G F H q => by
  refine sep_fold.mpr ?_
  have e : l.set i y = l.take i ++ y :: l.drop (i + 1) := by rw [List.set_eq_take_append_cons_drop, if_pos h]
  rw [e, List.map_append, List.map_cons, List.append_assoc, List.cons_append]
  refine sep_mid.mpr ?_
  obtain ⟨F1, F2, h1, h2, d, e2⟩ := q
  refine ⟨F1, F2, h1, ?_, d, e2⟩
  have h2 := sep_fold.mp h2
  rw [List.map_append, List.append_assoc] at h2; exact h2
theorem se_add : SE (f y :: famM f l :: rs) (famM f (l ++ [y]) :: rs) := fun G F H q => by
  refine sep_fold.mpr ?_
  rw [List.map_append, List.append_assoc]
  refine sep_mid.mpr ?_
  obtain ⟨F1, F2, h1, h2, d, e2⟩ := q
  exact ⟨F1, F2, h1, sep_fold.mp h2, d, e2⟩
theorem se_nil : SE rs (famM f [] :: rs) := fun G F H q => ⟨fun _ => False, F, fun _ z => z, q, fun _ z => z.elim, fun _ => ⟨.inr, fun z => z.elim False.elim id⟩⟩
/-- two families side by side -/
theorem se_out2 (h : l[i]? = some x) : SE (famM f l :: famM g l :: rs) (f x :: g x :: famM f (l.take i ++ l.drop (i + 1)) :: famM g (l.take i ++ l.drop (i + 1)) :: rs) :=
  (se_out h).trans (.cons (SE.trans (.cons (se_out h)) .swap))
theorem se_in2 (h : i < l.length) : SE (f y :: g y :: famM f (l.take i ++ l.drop (i + 1)) :: famM g (l.take i ++ l.drop (i + 1)) :: rs) (famM f (l.set i y) :: famM g (l.set i y) :: rs) :=
  SE.trans (.cons .swap) ((se_in h).trans (.cons (se_in h)))
theorem se_add2 : SE (f y :: g y :: famM f l :: famM g l :: rs) (famM f (l ++ [y]) :: famM g (l ++ [y]) :: rs) :=
  SE.trans (.cons .swap) (se_add.trans (.cons se_add))
theorem set_self {l : List α} (h : l[i]? = some x) : l.set i x = l := by
  obtain ⟨hi, e⟩ := List.getElem?_eq_some_iff.mp h
  rw [← e]; exact List.set_getElem_self hi
theorem se_back2 (h : l[i]? = some x) : SE (f x :: g x :: famM f (l.take i ++ l.drop (i + 1)) :: famM g (l.take i ++ l.drop (i + 1)) :: rs) (famM f l :: famM g l :: rs) := by
  have := se_in2 (f := f) (g := g) (y := x) (rs := rs) (List.getElem?_eq_some_iff.mp h).choose
  rwa [set_self h] at this
theorem se_back (h : l[i]? = some x) : SE (f x :: famM f (l.take i ++ l.drop (i + 1)) :: rs) (famM f l :: rs) := by
  have := se_in (f := f) (y := x) (rs := rs) (List.getElem?_eq_some_iff.mp h).choose
  rwa [set_self h] at this
end
section
variable {c : Ctx m₀ N₀ sc₀ lv₀ xp₀ fF₀ cm₀} {e a b o i it : Expr} {es : List Expr} {ρ ρ' : List Sl} {r1 rs rs2 : List Mem} {K : Sl → List Mem → Prop} {KB : Bool → List Mem → Prop} {P : Post} {x y f : Str} {pos pos' p2 p3 apos cpos : Pos} {s1 s2 : Sl} {sts : List Stmt}
/-- other words for the things, ahead of an expression -/
theorem dx_ent0 (h : Ent rs rs2) (k : DX c e ρ rs2 K) : DX c e ρ rs K := by
  intro σ H G Q he hs hx hq
  obtain ⟨G', l, o⟩ := h G H hs
  have t : Stp G G' H H := Stp.less l
  exact k σ H G' Q (he.stp t) o (hx.stp t) fun v H2 G2 sl r t2 h2 o2 k2 => hq v H2 G2 sl r (t.trans t2) (h2.back t) o2 k2
theorem dt_ent0 (h : Ent rs rs2) (k : DT c e ρ rs2 KB) : DT c e ρ rs KB := by
  intro σ H G Q he hs hx hq
  obtain ⟨G', l, o⟩ := h G H hs
  have t : Stp G G' H H := Stp.less l
  exact k σ H G' Q (he.stp t) o (hx.stp t) fun v H2 G2 r t2 o2 k2 => hq v H2 G2 r (t.trans t2) o2 k2
theorem dt_ent (h : DT c e ρ rs fun b r => ∃ r2, Ent r r2 ∧ KB b r2) : DT c e ρ rs KB := by
  intro σ H G Q he hs hx hq
  refine h σ H G Q he hs hx fun b H2 G2 r t2 o2 ⟨r2, en, k2⟩ => ?_
  obtain ⟨G', l, o⟩ := en G2 H2 o2
  exact hq b H2 G' r2 (t2.trans (Stp.less l)) o k2
/-- the truth of a dict -/
theorem tr_dict {p : Addr} {kvs : DKv} {g : List Mem → List Mem} (pk : Pick rs (dictM p kvs) g) (h : KB (!kvs.isEmpty) rs) : TrD (.r (.ref p)) rs KB := fun G H x hx hs => by
  have ex : x = .ref p := hx
  subst ex
  obtain ⟨vs, hp, al, _, _⟩ := dict_at pk hs
  refine ⟨!kvs.isEmpty, .inr (.inr ⟨vs, hp, ?_⟩), h⟩
  have := al.length
  cases vs with
  | nil => cases kvs with
    | nil => rfl
    | cons _ _ => cases this
  | cons _ _ => cases kvs with
    | nil => cases this
    | cons _ _ => rfl
/-- len(d) -/
theorem dx_dlen (h : DX c a ρ rs fun s r => ∃ p kvs g, s = .r (.ref p) ∧ Pick r (dictM p kvs) g ∧ K (.d (.int kvs.length)) r)
    (hg : KdIn sc₀.names ("len" : Str) .globalImplicit := by first | ((with_reducible (repeat (first | exact KdIn.zero | apply KdIn.succ))); (first | (all_goals fail) | fail)) | exact kd_of rfl) (he : starEach [a] c.X.env = (false, eval a c.X.env) :: starEach [] c.X.env := by rfl) : DX c (.Call (.Name "len" p2) [a] [] pos) ρ rs K := by
  refine dx_callB call_lenD c.bl.len (by decide +kernel) (da_cons (dx_weak h fun s r k => da_nil ?_) he) hg (he := he) (hpl := rfl)
  obtain ⟨p, kvs, g, rfl, pk, k⟩ := k
  intro G H vs Q hv hs hq
  match vs, hv with
  | [v], hv =>
    have ev : v = .ref p := hv.1
    subst ev
    obtain ⟨ws, hp, al, _, _⟩ := dict_at pk hs
    refine ⟨p, ws, rfl, hp, ?_⟩
    rw [al.length]
    exact hq _ _ G (.d (.int kvs.length)) _ (Stp.refl _ _) (Is.int _) hs k
theorem kvall_keys {G : Fp} {H : Hp} : ∀ {vs : List (Key × V)} {ss : DKv}, KvAll G H vs ss → IsAll G H (vs.map fun kv => kV kv.1) (ss.map fun kv => keyD kv.1)
  | [], [], _ => .nil
  | (k, _) :: _, (k2, _) :: _, ⟨e, _, q⟩ => by
    have e : k = k2 := e
    subst e
    refine .cons ?_ (kvall_keys q)
    cases k with
    | inl i => exact .int i
    | inr z => exact .str z
  | [], _ :: _, h => h.elim
  | _ :: _, [], h => h.elim
/-- list(d) -/
theorem dx_dlist (h : DX c a ρ rs fun s r => ∃ p kvs g, s = .r (.ref p) ∧ Pick r (dictM p kvs) g ∧ K (.n (kvs.map fun kv => keyD kv.1)) r)
    (hg : KdIn sc₀.names ("list" : Str) .globalImplicit := by first | ((with_reducible (repeat (first | exact KdIn.zero | apply KdIn.succ))); (first | (all_goals fail) | fail)) | exact kd_of rfl) (he : starEach [a] c.X.env = (false, eval a c.X.env) :: starEach [] c.X.env := by rfl) (hcm : cm₀ = true := by rfl) : DX c (.Call (.Name "list" p2) [a] [] pos) ρ rs K := by
  refine dx_callTy (call_listD (c.calm hcm)) c.bl.list b_list (da_cons (dx_weak h fun s r k => da_nil ?_) he) hg (he := he) (hpl := rfl)
  obtain ⟨p, kvs, g, rfl, pk, k⟩ := k
  intro G H vs Q hv hs hq
  match vs, hv with
  | [v], hv =>
    have ev : v = .ref p := hv.1
    subst ev
    obtain ⟨ws, hp, al, _, _⟩ := dict_at pk hs
    refine ⟨p, ws, rfl, .inl hp, fun q hz => ?_⟩
    have st : Stp G G H (upd H q (.lst (ws.map fun kv => kV kv.1))) := stp_new hz
    exact hq _ _ G (.n _) _ st ⟨q, _, rfl, hz, hs.fresh hz, upd_same, (kvall_keys al).stp st⟩ (sepL.step st.sub hs fun a o q _ => same_new hz a o q) k
/-- dict(d), owned -/
theorem dx_dictO (h : DX c a ρ rs fun s r => ∃ p kvs g, s = .r (.ref p) ∧ Pick r (dictM p kvs) g ∧ ∀ q, K (.r (.ref q)) (dictM q kvs :: r))
    (hg : KdIn sc₀.names ("dict" : Str) .globalImplicit := by first | ((with_reducible (repeat (first | exact KdIn.zero | apply KdIn.succ))); (first | (all_goals fail) | fail)) | exact kd_of rfl) (he : starEach [a] c.X.env = (false, eval a c.X.env) :: starEach [] c.X.env := by rfl) : DX c (.Call (.Name "dict" p2) [a] [] pos) ρ rs K := by
  refine dx_callTy call_dictD c.bl.dict (by decide +kernel) (da_cons (dx_weak h fun s r k => da_nil ?_) he) hg (he := he) (hpl := rfl)
  obtain ⟨p, kvs, g, rfl, pk, k⟩ := k
  intro G H vs Q hv hs hq
  match vs, hv with
  | [v], hv =>
    have ev : v = .ref p := hv.1
    subst ev
    obtain ⟨ws, hp, al, _, _⟩ := dict_at pk hs
    refine ⟨p, ws, rfl, .inl hp, fun q hz => ?_⟩
    obtain ⟨t, o⟩ := own_dict hs hz al
    exact hq _ _ _ (.r (.ref q)) _ t rfl o (k q)
/-- d.get(k, x) -/
theorem dx_dget2 (h : DX c o ρ rs fun s1 r1 => ∃ p kvs f, s1 = .r (.ref p) ∧ Pick r1 (dictM p kvs) f ∧ DX c i ρ r1 fun s2 r2 => DX c b ρ r2 fun s3 r3 => ∃ kv2 f2 k d, s2.plain = .d (keyD k) ∧ s3 = .d d ∧ Pick r3 (dictM p kv2) f2 ∧ (∀ s, valS kv2 k = some s → ∀ ds, s ≠ .n ds) ∧ K ((valS kv2 k).getD (.d d)) r3)
    (m : M2 c.X o "get" apos i b cpos := by exact ⟨rfl, rfl, rfl, rfl⟩) : DX c (.Call (.Attribute o "get" apos) [i, b] [] cpos) ρ rs K := by
  intro σ H G Q he hs hx hq
  refine tE_of (pe_dget2 (by have := c.un; omega) pe_t pe_t pe_t m) ?_
  refine h σ H G _ he hs hx fun v1 H1 G1 t1 r1 st1 h1 o1 k1 => ?_
  obtain ⟨p, kvs, f, rfl, pk, k1⟩ := k1
  have e1 : v1 = .ref p := h1
  obtain ⟨vs, hp, al, _, _⟩ := dict_at pk o1
  refine ⟨p, e1, .inl ⟨vs, .inl hp⟩, ?_⟩
  refine k1 σ H1 G1 _ (he.stp st1) o1 (hx.stp st1) fun v2 H2 G2 t2 r2 st2 h2 o2 k2 => ?_
  refine k2 σ H2 G2 _ ((he.stp st1).stp st2) o2 ((hx.stp st1).stp st2) fun v3 H3 G3 t3 r3 st3 h3 o3 k3 => ?_
  obtain ⟨kv2, f2, k, d, ek, rfl, pk2, hn, k3⟩ := k3
  have st := (st1.trans st2).trans st3
  have e2 : v2 = kV k := key_is (by rw [← ek]; exact h2.ok.plain)
  obtain ⟨vs2, hp2, al2, _, _⟩ := dict_at pk2 o3
  refine ⟨valV vs2 k, by rw [e2]; exact DGet.k hp2, ?_⟩
  rcases al2.val k with ⟨z1, z2⟩ | ⟨s, v, z1, z2, z3⟩
  · rw [z1] at k3
    rw [z2]
    exact hq v3 H3 G3 (.d d) r3 st (h3.back (st1.trans st2)) o3 k3
  · rw [z1] at k3
    rw [z2]
    exact hq v H3 G3 s r3 st (Rs.of_ok z3 (hn s z1)) o3 k3
theorem isSome_eq {vs : List (Key × V)} {kvs : DKv} {G : Fp} {H : Hp} (al : KvAll G H vs kvs) (k : Key) : (valV vs k).isSome = (valS kvs k).isSome := by
  rcases al.val k with ⟨z1, z2⟩ | ⟨s, v, z1, z2, _⟩ <;> rw [z1, z2] <;> rfl
/-- k not in d -/
theorem dx_dnin (h : DX c i ρ rs fun s2 r1 => DX c o ρ r1 fun s1 r2 => ∃ p kvs f k, s1 = .r (.ref p) ∧ s2.plain = .d (keyD k) ∧ Pick r2 (dictM p kvs) f ∧ K (.d (.bool (!(valS kvs k).isSome))) r2) (hm : behindInMarks .NotIn o = false := by rfl) : DX c (.Compare i [.NotIn] [o] pos) ρ rs K := by
  intro σ H G Q he hs hx hq
  refine tE_of (pe_cmp (pc_dnotin (by have := c.un; omega) pe_t pe_t) hm) ?_
  refine h σ H G _ he hs hx fun v1 H1 G1 t1 r1 st1 h1 o1 k1 => ?_
  refine k1 σ H1 G1 _ (he.stp st1) o1 (hx.stp st1) fun v2 H2 G2 t2 r2 st2 h2 o2 k2 => ?_
  obtain ⟨p, kvs, f, k, rfl, ek, pk, k2⟩ := k2
  have e1 : v2 = .ref p := h2
  have e2 : v1 = kV k := key_is (by rw [← ek]; exact h1.ok.plain.stp st2)
  obtain ⟨vs, hp, al, _, _⟩ := dict_at pk o2
  refine ⟨p, valV vs k, e1, by rw [e2]; exact DGet.k hp, ?_⟩
  rw [isSome_eq al k]
  exact hq _ H2 G2 (.d (.bool _)) r2 (st1.trans st2) (Is.bl _) o2 k2
theorem dt_din (h : DX c i ρ rs fun s2 r1 => DX c o ρ r1 fun s1 r2 => ∃ p kvs f k, s1 = .r (.ref p) ∧ s2.plain = .d (keyD k) ∧ Pick r2 (dictM p kvs) f ∧ KB (valS kvs k).isSome r2) (hm : behindInMarks .In o = false := by rfl) : DT c (.Compare i [.In] [o] pos) ρ rs KB := by
  intro σ H G Q he hs hx hq
  refine tT_of (pt_cmp (pc_din (by have := c.un; omega) pe_t pe_t) hm) ?_
  refine h σ H G _ he hs hx fun v1 H1 G1 t1 r1 st1 h1 o1 k1 => ?_
  refine k1 σ H1 G1 _ (he.stp st1) o1 (hx.stp st1) fun v2 H2 G2 t2 r2 st2 h2 o2 k2 => ?_
  obtain ⟨p, kvs, f, k, rfl, ek, pk, k2⟩ := k2
  have e1 : v2 = .ref p := h2
  have e2 : v1 = kV k := key_is (by rw [← ek]; exact h1.ok.plain.stp st2)
  obtain ⟨vs, hp, al, _, _⟩ := dict_at pk o2
  refine ⟨p, valV vs k, e1, by rw [e2]; exact DGet.k hp, _, rfl, ?_⟩
  rw [isSome_eq al k]
  exact hq _ H2 G2 r2 (st1.trans st2) o2 k2
theorem dt_dnin (h : DX c i ρ rs fun s2 r1 => DX c o ρ r1 fun s1 r2 => ∃ p kvs f k, s1 = .r (.ref p) ∧ s2.plain = .d (keyD k) ∧ Pick r2 (dictM p kvs) f ∧ KB (!(valS kvs k).isSome) r2) (hm : behindInMarks .NotIn o = false := by rfl) : DT c (.Compare i [.NotIn] [o] pos) ρ rs KB := by
  intro σ H G Q he hs hx hq
  refine tT_of (pt_cmp (pc_dnotin (by have := c.un; omega) pe_t pe_t) hm) ?_
  refine h σ H G _ he hs hx fun v1 H1 G1 t1 r1 st1 h1 o1 k1 => ?_
  refine k1 σ H1 G1 _ (he.stp st1) o1 (hx.stp st1) fun v2 H2 G2 t2 r2 st2 h2 o2 k2 => ?_
  obtain ⟨p, kvs, f, k, rfl, ek, pk, k2⟩ := k2
  have e1 : v2 = .ref p := h2
  have e2 : v1 = kV k := key_is (by rw [← ek]; exact h1.ok.plain.stp st2)
  obtain ⟨vs, hp, al, _, _⟩ := dict_at pk o2
  refine ⟨p, valV vs k, e1, by rw [e2]; exact DGet.k hp, _, rfl, ?_⟩
  rw [isSome_eq al k]
  exact hq _ H2 G2 r2 (st1.trans st2) o2 k2
theorem ex_dic {p : Addr} {kvs : DKv} {g : List Mem → List Mem} {B : Addr → DKv → (List Mem → List Mem) → Prop} (pk : Pick rs (dictM p kvs) g) (k : B p kvs g) : ∃ p' kvs' g', Sl.r (.ref p) = .r (.ref p') ∧ Pick rs (dictM p' kvs') g' ∧ B p' kvs' g' := ⟨p, kvs, g, rfl, pk, k⟩
theorem ex_din1 {p : Addr} {kvs : DKv} {g : List Mem → List Mem} {n : Int} {B : Addr → DKv → (List Mem → List Mem) → Key → Prop} (pk : Pick rs (dictM p kvs) g) (k : B p kvs g (.inl n)) : ∃ p' kvs' g' k, Sl.r (.ref p) = .r (.ref p') ∧ (Sl.d (.int n)).plain = .d (keyD k) ∧ Pick rs (dictM p' kvs') g' ∧ B p' kvs' g' k := ⟨p, kvs, g, .inl n, rfl, rfl, pk, k⟩
theorem ex_din2 {p : Addr} {kvs : DKv} {g : List Mem → List Mem} {n : Str} {B : Addr → DKv → (List Mem → List Mem) → Key → Prop} (pk : Pick rs (dictM p kvs) g) (k : B p kvs g (.inr n)) : ∃ p' kvs' g' k, Sl.r (.ref p) = .r (.ref p') ∧ (Sl.d (.str n)).plain = .d (keyD k) ∧ Pick rs (dictM p' kvs') g' ∧ B p' kvs' g' k := ⟨p, kvs, g, .inr n, rfl, rfl, pk, k⟩
theorem ex_dlen {p : Addr} {kvs : DKv} {g : List Mem → List Mem} {B : Addr → DKv → (List Mem → List Mem) → Prop} (pk : Pick rs (dictM p kvs) g) (k : B p kvs g) : ∃ p' kvs' g', Sl.r (.ref p) = .r (.ref p') ∧ Pick rs (dictM p' kvs') g' ∧ B p' kvs' g' := ⟨p, kvs, g, rfl, pk, k⟩
theorem ex_dget {p : Addr} {kvs : DKv} {g : List Mem → List Mem} {n : Int} {s : Sl} {B : Addr → DKv → (List Mem → List Mem) → Key → Sl → Prop} (pk : Pick rs (dictM p kvs) g) (hv : valS kvs (.inl n) = some s) (hn : ∀ ds, s ≠ .n ds) (k : B p kvs g (.inl n) s) : ∃ p' kvs' g' k s', Sl.r (.ref p) = .r (.ref p') ∧ Sl.d (.int n) = .d (keyD k) ∧ Pick rs (dictM p' kvs') g' ∧ valS kvs' k = some s' ∧ (∀ ds, s' ≠ .n ds) ∧ B p' kvs' g' k s' := ⟨p, kvs, g, .inl n, s, rfl, rfl, pk, hv, hn, k⟩
theorem ex_dgetS {p : Addr} {kvs : DKv} {g : List Mem → List Mem} {n : Str} {s : Sl} {B : Addr → DKv → (List Mem → List Mem) → Key → Sl → Prop} (pk : Pick rs (dictM p kvs) g) (hv : valS kvs (.inr n) = some s) (hn : ∀ ds, s ≠ .n ds) (k : B p kvs g (.inr n) s) : ∃ p' kvs' g' k s', Sl.r (.ref p) = .r (.ref p') ∧ Sl.d (.str n) = .d (keyD k) ∧ Pick rs (dictM p' kvs') g' ∧ valS kvs' k = some s' ∧ (∀ ds, s' ≠ .n ds) ∧ B p' kvs' g' k s' := ⟨p, kvs, g, .inr n, s, rfl, rfl, pk, hv, hn, k⟩
end
end PW

set_option maxHeartbeats 1000000
/-! Dicts as lists of pairs; what a list has at a key. -/
namespace PW
open PySem L2
variable [KC]
theorem valS_cons (p : Key × Sl) (r : DKv) (k : Key) : valS (p :: r) k = if p.1 = k then some p.2 else valS r k := by
  unfold valS
  rw [List.find?_cons]
  by_cases e : p.1 = k
  · rw [decide_eq_true e, if_pos e]; rfl
  · rw [decide_eq_false e, if_neg e]
theorem valS_any (k : Key) : ∀ kvs : DKv, (kvs.any fun kv => decide (kv.1 = k)) = (valS kvs k).isSome
  | [] => rfl
  | p :: r => by
    rw [List.any_cons, valS_cons, valS_any k r]
    by_cases e : p.1 = k
    · rw [decide_eq_true e, if_pos e]; rfl
    · rw [decide_eq_false e, if_neg e]; rfl
theorem valS_map (k j : Key) (s : Sl) : ∀ kvs : DKv, valS (kvs.map fun kv => if kv.1 = k then (kv.1, s) else kv) j = (valS kvs j).map fun x => if j = k then s else x
  | [] => rfl
  | p :: r => by
    rw [List.map_cons, valS_cons, valS_cons, valS_map k j s r]
    by_cases e : p.1 = k
    · rw [if_pos e]
      by_cases ej : p.1 = j
      · rw [if_pos ej, if_pos ej, Option.map_some, if_pos (ej.symm.trans e)]
      · rw [if_neg ej, if_neg ej]
    · rw [if_neg e]
      by_cases ej : p.1 = j
      · rw [if_pos ej, if_pos ej, Option.map_some, if_neg fun z => e (ej.trans z)]
      · rw [if_neg ej, if_neg ej]
theorem valS_snoc (k j : Key) (s : Sl) : ∀ kvs : DKv, valS (kvs ++ [(k, s)]) j = (valS kvs j).or (if k = j then some s else none)
  | [] => by rw [List.nil_append, valS_cons]; rfl
  | p :: r => by
    rw [List.cons_append, valS_cons, valS_cons, valS_snoc k j s r]
    by_cases e : p.1 = j
    · rw [if_pos e, if_pos e]; rfl
    · rw [if_neg e, if_neg e]
theorem valS_put (kvs : DKv) (k j : Key) (s : Sl) : valS (putS kvs k s) j = if j = k then some s else valS kvs j := by
  unfold putS
  rw [valS_any]
  cases h : valS kvs k with
  | some x =>
    rw [Option.isSome_some, if_pos rfl, valS_map]
    by_cases e : j = k
    · rw [if_pos e, e, h, Option.map_some, if_pos rfl]
    · rw [if_neg e]
      cases valS kvs j with
      | none => rfl
      | some y => rw [Option.map_some, if_neg e]
  | none =>
    rw [Option.isSome_none, if_neg Bool.false_ne_true, valS_snoc]
    by_cases e : j = k
    · rw [if_pos e, e, h, if_pos rfl]; rfl
    · rw [if_neg e, if_neg fun z => e z.symm]
      cases valS kvs j <;> rfl
theorem valS_drop (k j : Key) : ∀ kvs : DKv, valS (dropS kvs k) j = if j = k then none else valS kvs j
  | [] => by unfold dropS; split <;> rfl
  | p :: r => by
    have ih := valS_drop k j r
    unfold dropS at ih ⊢
    rw [List.filter_cons, valS_cons]
    by_cases e : p.1 = k
    · rw [if_neg (by simp [e]), ih]
      by_cases ej : j = k
      · rw [if_pos ej, if_pos ej]
      · rw [if_neg ej, if_neg ej, if_neg fun z => ej (z.symm.trans e)]
    · rw [if_pos (by simp [e]), valS_cons, ih]
      by_cases ej : j = k
      · rw [if_pos ej, if_pos ej, if_neg fun z => e (z.trans ej)]
      · rw [if_neg ej, if_neg ej]
theorem keys_put (kvs : DKv) (k : Key) (s : Sl) : (putS kvs k s).map (·.1) = if (valS kvs k).isSome = true then kvs.map (·.1) else kvs.map (·.1) ++ [k] := by
  unfold putS
  rw [valS_any]
  split
  · rw [List.map_map]
    refine List.map_congr_left fun p _ => ?_
    show (if p.1 = k then (p.1, s) else p).1 = p.1
    split <;> rfl
  · rw [List.map_append]; rfl
theorem keys_drop (kvs : DKv) (k : Key) : (dropS kvs k).map (·.1) = (kvs.map (·.1)).filter fun j => decide (j ≠ k) := by
  unfold dropS
  rw [List.filter_map]; rfl
theorem valS_mem (k : Key) : ∀ kvs : DKv, (valS kvs k).isSome = true ↔ k ∈ kvs.map (·.1)
  | [] => by simp [valS]
  | p :: r => by
    rw [valS_cons, List.map_cons, List.mem_cons, ← valS_mem k r]
    by_cases e : p.1 = k
    · rw [if_pos e]; simp [e]
    · rw [if_neg e]
      constructor
      · exact .inr
      · rintro (q | q)
        · exact absurd q.symm e
        · exact q
theorem drop_no {kvs : DKv} {k : Key} (h : valS kvs k = none) : dropS kvs k = kvs := by
  unfold dropS
  refine List.filter_eq_self.mpr fun p hp => decide_eq_true fun e => ?_
  have : (valS kvs k).isSome = true := (valS_mem k kvs).mpr (by rw [← e]; exact List.mem_map_of_mem hp)
  rw [h] at this; cases this
theorem put_len (kvs : DKv) (k : Key) (s : Sl) : (putS kvs k s).length ≤ kvs.length + 1 := by
  unfold putS
  split
  · rw [List.length_map]; omega
  · rw [List.length_append]; exact Nat.le_refl _
theorem valS_at {k : Key} {s : Sl} : ∀ {kvs : DKv}, (kvs.map (·.1)).Nodup → (k, s) ∈ kvs → valS kvs k = some s
  | [], _, h => nomatch h
  | p :: r, hn, h => by
    rw [List.map_cons, List.nodup_cons] at hn
    rw [valS_cons]
    rcases List.mem_cons.mp h with h | h
    · rw [← h, if_pos rfl]
    · rw [if_neg fun e => hn.1 (by rw [e]; exact List.mem_map_of_mem (f := (·.1)) h)]
      exact valS_at hn.2 h
theorem drop_len (kvs : DKv) (k : Key) : (dropS kvs k).length ≤ kvs.length := by
  unfold dropS
  exact List.length_filter_le _ _
theorem put_new {kvs : DKv} {k : Key} {s : Sl} (h : valS kvs k = none) : putS kvs k s = kvs ++ [(k, s)] := by
  unfold putS
  rw [valS_any, h, Option.isSome_none, if_neg Bool.false_ne_true]
section
variable {α : Type} {f : α → Key × Sl} {l : List α} {i : Nat} {x y : α}
theorem nd_mid (h : l[i]? = some x) (nd : (l.map fun z => (f z).1).Nodup) : ∀ z ∈ l.take i ++ l.drop (i + 1), (f z).1 ≠ (f x).1 := fun z hz e => by
  obtain ⟨el, _⟩ := take_mid h
  rw [el, List.map_append, List.map_cons] at nd
  obtain ⟨n1, n2, n3⟩ := List.nodup_append.mp nd
  rw [List.nodup_cons] at n2
  rcases List.mem_append.mp hz with hz | hz
  · exact n3 _ (List.mem_map_of_mem (f := fun z => (f z).1) hz) _ List.mem_cons_self e
  · exact n2.1 (by rw [← e]; exact List.mem_map_of_mem (f := fun z => (f z).1) hz)
theorem dict_val (h : l[i]? = some x) (nd : (l.map fun z => (f z).1).Nodup) : valS (l.map f) (f x).1 = some (f x).2 :=
  valS_at (by rw [List.map_map]; exact nd) (List.mem_map_of_mem (List.mem_of_getElem? h))
theorem dict_no {k : Key} (h : k ∉ l.map fun z => (f z).1) : valS (l.map f) k = none := by
  cases e : valS (l.map f) k with
  | none => rfl
  | some s =>
    have := (valS_mem k (l.map f)).mp (by rw [e]; rfl)
    rw [List.map_map] at this
    exact absurd this h
theorem dict_drop (h : l[i]? = some x) (nd : (l.map fun z => (f z).1).Nodup) : dropS (l.map f) (f x).1 = (l.take i ++ l.drop (i + 1)).map f := by
  obtain ⟨el, _⟩ := take_mid h
  have key := nd_mid h nd
  unfold dropS
  conv => lhs; rw [el]
  rw [List.map_append, List.map_cons, List.filter_append, List.filter_cons, if_neg (by simp), ← List.filter_append, ← List.map_append]
  refine List.filter_eq_self.mpr fun p hp => ?_
  obtain ⟨z, hz, rfl⟩ := List.mem_map.mp hp
  exact decide_eq_true (key z hz)
theorem dict_put (h : l[i]? = some x) (nd : (l.map fun z => (f z).1).Nodup) (e : (f y).1 = (f x).1) : putS (l.map f) (f x).1 (f y).2 = (l.set i y).map f := by
  obtain ⟨el, hi⟩ := take_mid h
  have key := nd_mid h nd
  unfold putS
  rw [valS_any, dict_val h nd, Option.isSome_some, if_pos rfl]
  have e2 : l.set i y = l.take i ++ y :: l.drop (i + 1) := by rw [List.set_eq_take_append_cons_drop, if_pos hi]
  rw [e2]
  conv => lhs; rw [el]
  rw [List.map_append, List.map_append, List.map_cons, List.map_cons, List.map_append, List.map_cons, if_pos rfl]
  have same : ∀ m : List α, (∀ z ∈ m, (f z).1 ≠ (f x).1) → (m.map f).map (fun kv => if kv.1 = (f x).1 then (kv.1, (f y).2) else kv) = m.map f := fun m hm => by
    rw [List.map_map]
    exact List.map_congr_left fun z hz => if_neg (hm z hz)
  rw [same _ fun z hz => key z (List.mem_append_left _ hz), same _ fun z hz => key z (List.mem_append_right _ hz), ← e]
theorem at_key (k : Key) (h : k ∈ l.map fun z => (f z).1) : ∃ (i : Nat) (x : α), l[i]? = some x ∧ (f x).1 = k := by
  obtain ⟨x, hx, e⟩ := List.mem_map.mp h
  obtain ⟨i, hi⟩ := List.mem_iff_getElem?.mp hx
  exact ⟨i, x, hi, e⟩
end
section
variable {m₀ : Mo} {N₀ : List Str} {sc₀ : Scope} {lv₀ : Nat} {xp₀ : Addr → List Sl → List Mem → Prop} {fF₀ cm₀ : Bool} {c : Ctx m₀ N₀ sc₀ lv₀ xp₀ fF₀ cm₀} {a o : Expr} {ρ : List Sl} {rs : List Mem} {K : Sl → List Mem → Prop} {pos apos cpos : Pos}
/-- xs.index(y), xs owned -/
theorem dx_lindexO (h : DX c o ρ rs fun s r => ∃ p ds g, s = .r (.ref p) ∧ Pick r (lstM p (ds.map .d)) g ∧ DA c [a] ρ r fun ts r2 => ∃ t d j z g2, ts = [t] ∧ t.plain = .d d ∧ Pick r2 (lstM p (ds.map .d)) g2 ∧ SeqAt.shaped (.list ds) = true ∧ SeqAt.shaped d = true ∧ ds[j]? = some z ∧ PyData.eqv z d = true ∧ (∀ (m : Nat) (z' : PyData), m < j → ds[m]? = some z' → PyData.eqv z' d = false) ∧ K (.d (.int (j : Nat))) r2)
    (hm : MeOk c.X o "index" a [] apos cpos := by exact ⟨rfl, rfl, rfl, rfl⟩) : DX c (.Call (.Attribute o "index" apos) [a] [] cpos) ρ rs K := by
  intro σ H G Q he hs hx hq
  refine tE_of (pe_bm PySem.F.plainAttrs_list PySem.F.slot_list_index PySem.F.type_list_index (mt_indexD (by have := c.un; omega)) pe_t pa_t (hs := hm.hs) (hbase := hm.hb) (hline := hm.hl) (hfew := hm.hf)) ?_
  refine h σ H G _ he hs hx fun v H1 G1 s1 r1 t1 h1 o1 k1 => ?_
  obtain ⟨p, ds, g, rfl, pk, k1⟩ := k1
  have ev : v = .ref p := h1
  subst ev
  obtain ⟨vs, hp, al, _, _⟩ := lst_at pk o1
  refine ⟨.inl ⟨rfl, vs, .inl (.inl hp)⟩, ?_⟩
  refine k1 σ H1 G1 _ (he.stp t1) o1 (hx.stp t1) fun us H2 G2 ts r2 t2 h2 o2 k2 => ?_
  obtain ⟨t, d, j, z, g2, rfl, e2, pk2, sl, sd, hz, hzj, hno, k2⟩ := k2
  match us, h2 with
  | [y], h2 =>
    refine ⟨p, y, d, ds, j, z, rfl, rfl, c.ck ▸ view_own pk2 G2 H2 (.ref p) rfl o2, c.ck ▸ (plain_d e2 h2.1).dp, sl, sd, hz, hzj, hno, ?_⟩
    exact hq _ H2 G2 (.d (.int _)) r2 (t1.trans t2) (Is.int _) o2 k2
theorem ex_dputI {p : Addr} {kvs : DKv} {g : List Mem → List Mem} {n : Int} {B : Addr → DKv → (List Mem → List Mem) → Key → Prop} (pk : Pick rs (dictM p kvs) g) (hl : kvs.length ≤ 100000) (k : B p kvs g (.inl n)) : ∃ p' kvs' g' k, Sl.r (.ref p) = .r (.ref p') ∧ Sl.d (.int n) = .d (keyD k) ∧ Pick rs (dictM p' kvs') g' ∧ kvs'.length ≤ 100000 ∧ B p' kvs' g' k := ⟨p, kvs, g, .inl n, rfl, rfl, pk, hl, k⟩
theorem ex_dputS {p : Addr} {kvs : DKv} {g : List Mem → List Mem} {n : Str} {B : Addr → DKv → (List Mem → List Mem) → Key → Prop} (pk : Pick rs (dictM p kvs) g) (hl : kvs.length ≤ 100000) (k : B p kvs g (.inr n)) : ∃ p' kvs' g' k, Sl.r (.ref p) = .r (.ref p') ∧ Sl.d (.str n) = .d (keyD k) ∧ Pick rs (dictM p' kvs') g' ∧ kvs'.length ≤ 100000 ∧ B p' kvs' g' k := ⟨p, kvs, g, .inr n, rfl, rfl, pk, hl, k⟩
theorem ex_dpopI {p : Addr} {kvs : DKv} {g : List Mem → List Mem} {n : Int} {s : Sl} {B : DKv → (List Mem → List Mem) → Key → Sl → Prop} (pk : Pick rs (dictM p kvs) g) (hv : valS kvs (.inl n) = some s) (hn : ∀ ds, s ≠ .n ds) (k : B kvs g (.inl n) s) : ∃ kvs' g' k s', Sl.d (.int n) = .d (keyD k) ∧ Pick rs (dictM p kvs') g' ∧ valS kvs' k = some s' ∧ (∀ ds, s' ≠ .n ds) ∧ B kvs' g' k s' := ⟨kvs, g, .inl n, s, rfl, pk, hv, hn, k⟩
theorem ex_dpopS {p : Addr} {kvs : DKv} {g : List Mem → List Mem} {n : Str} {s : Sl} {B : DKv → (List Mem → List Mem) → Key → Sl → Prop} (pk : Pick rs (dictM p kvs) g) (hv : valS kvs (.inr n) = some s) (hn : ∀ ds, s ≠ .n ds) (k : B kvs g (.inr n) s) : ∃ kvs' g' k s', Sl.d (.str n) = .d (keyD k) ∧ Pick rs (dictM p kvs') g' ∧ valS kvs' k = some s' ∧ (∀ ds, s' ≠ .n ds) ∧ B kvs' g' k s' := ⟨kvs, g, .inr n, s, rfl, pk, hv, hn, k⟩
/-- d in xs, xs owned, all flat -/
theorem od_inO {p : Addr} {ds : List PyData} {d : PyData} {g : List Mem → List Mem} (pk : Pick rs (lstM p (ds.map .d)) g) (fd : flatD d = true) (fs : ds.all flatD = true) (k : K (.d (.bool (ds.any fun y => eqF y d))) rs) : OpD (uIn KC.K) (.d d) (.r (.ref p)) rs K := od_r fun G H x y Q hx hy hs hq => by
  have ey : y = .ref p := hy
  subst ey
  obtain ⟨vs, hp, al, _, _⟩ := lst_at pk hs
  have al := al.is
  refine ⟨p, vs, rfl, .inl (.inl (.inl hp)), flat_is hx fd, flat_all al fs, ?_⟩
  show Q (.bl (inV x vs)) H
  rw [in_all hx fd al fs]
  exact give0 hs hq (sl := .d (.bool _)) (Is.bl _) k
theorem od_ninO {p : Addr} {ds : List PyData} {d : PyData} {g : List Mem → List Mem} (pk : Pick rs (lstM p (ds.map .d)) g) (fd : flatD d = true) (fs : ds.all flatD = true) (k : K (.d (.bool (!ds.any fun y => eqF y d))) rs) : OpD (uNin KC.K) (.d d) (.r (.ref p)) rs K := od_r fun G H x y Q hx hy hs hq => by
  have ey : y = .ref p := hy
  subst ey
  obtain ⟨vs, hp, al, _, _⟩ := lst_at pk hs
  have al := al.is
  refine ⟨p, vs, rfl, .inl (.inl (.inl hp)), flat_is hx fd, flat_all al fs, ?_⟩
  show Q (.bl (!inV x vs)) H
  rw [in_all hx fd al fs]
  exact give0 hs hq (sl := .d (.bool _)) (Is.bl _) k
end
end PW

set_option maxHeartbeats 1000000
/-! Lists of lists of one's own: made by a comprehension, lent, let go. -/
namespace PW
open PySem L2
variable [KC]
variable {m₀ : Mo} {N₀ : List Str} {sc₀ : Scope} {lv₀ : Nat} {xp₀ : Addr → List Sl → List Mem → Prop} {fF₀ cm₀ : Bool}
/-- a list at D of things, one for each of xs -/
abbrev ColA {α : Type} (xs : List α) := {l : List (α × Addr) // l.map (·.1) = xs}
def colF {α : Type} (D : Addr) (M : α → Addr → Mem) (xs : List α) (l : ColA xs) : List Mem := [lstM D (l.1.map fun x => .r (.ref x.2)), famM (fun x => M x.1 x.2) l.1]
def colM {α : Type} (D : Addr) (M : α → Addr → Mem) (xs : List α) : Mem := exM (colF D M xs)
section
variable {c : Ctx m₀ N₀ sc₀ lv₀ xp₀ fF₀ cm₀} {e a b tg it : Expr} {es : List Expr} {ρ ρ' : List Sl} {rs : List Mem} {KI : List Sl → (List Mem → Prop) → List Mem → Prop} {x : Str} {pos pos' p2 : Pos}
def ElM (c : Ctx m₀ N₀ sc₀ lv₀ xp₀ fF₀ cm₀) (scope : Scope) (elt : Expr) (ρ2 : List Sl) (rs : List Mem) (M : Addr → Mem) : Prop := ∀ (A : Mem) s0 H0 C0 cl0 fp0 hso, DX (c.blk scope s0 H0 C0 cl0 fp0 hso) elt ρ2 (A :: rs) fun s r => ∃ q, s = .r (.ref q) ∧ Ent r (A :: M q :: rs)
theorem lc_runM {elt : Expr} {scope : Scope} {j : Nat} {K : Sl → List Mem → Prop} (hso : ScOk (relS scope sc₀)) (hj : IxOf N₀ x j)
    (h : DI c (.Name x p2) it ρ rs fun items keep r => ∃ (α : Type) (xs : List α) (enc : α → Sl) (M : α → Addr → Mem), items = xs.map enc ∧ (∀ A : Mem, ∀ B : Mem, keep (A :: B :: r)) ∧ xs.length ≤ 100000 ∧
      (∃ ρw, SetS N₀ ρ x j .un ρw ∧ ∀ y ∈ xs, ∃ ρ2, SetS N₀ ρw x j (enc y) ρ2 ∧ ElM c scope elt ρ2 r (M y)) ∧
      ∀ D, K (.r (.ref D)) (colM D M xs :: r))
    {σ : L2.St} {H : Hp} {G : Fp} {Q : VK} (he : EnvOk G H σ ρ) (hs : sepL rs G G H) (hx : XOk c G H) (hq : ∀ v H' G' sl rs', Stp G G' H H' → Rs G' H H' v sl → sepL rs' G' G' H' → K sl rs' → Q v H') :
    tLc (tI c.X (.Name x p2) it) (gName j) tYes (tBE c.X scope elt) [j] σ H Q := by
  refine h σ H G _ he hs hx fun J H1 G1 items keep r1 t1 o1 jok k1 => ?_
  obtain ⟨α, xs, enc, M, rfl, hk, hlen, ⟨ρw, hw, ht⟩, kend⟩ := k1
  intro D hD
  have nG1 : ¬ G1 D := o1.fresh hD
  obtain ⟨tj, oj⟩ := sepL.join (A := lstM D []) (H' := upd H1 D (.lst [])) o1 (same_new hD) hD ⟨fun a => Iff.rfl, [], upd_same, trivial⟩
  have oj := (SE.cons (A := lstM D []) (se_nil (f := fun x : α × Addr => M x.1 x.2))) _ _ _ oj
  refine ⟨fun i m H' => m = xs.length - i ∧ i ≤ xs.length ∧ ∃ (G' : Fp) (l : List (α × Addr)), l.map (·.1) = xs.take i ∧ Stp G1 G' H1 H' ∧ sepL (lstM D (l.map fun x : α × Addr => Sl.r (.ref x.2)) :: famM (fun x : α × Addr => M x.1 x.2) l :: r1) G' G' H', ⟨_, rfl, Nat.zero_le _, _, [], rfl, tj, oj⟩, ?_⟩
  rintro i m H' ⟨rfl, hle, G', l, hl, t2, o2⟩
  have jk := jok G' H' _ t2 o2 (hk _ _) i
  by_cases hlt : i < xs.length
  · have hgo := jk.1 (by simpa using hlt)
    refine .inr ⟨hgo.1, fun H2 => ∃ (G2 : Fp) (l : List (α × Addr)), l.map (·.1) = xs.take (i + 1) ∧ Stp G1 G2 H1 H2 ∧ sepL (lstM D (l.map fun x : α × Addr => Sl.r (.ref x.2)) :: famM (fun x : α × Addr => M x.1 x.2) l :: r1) G2 G2 H2, fun H2 ⟨G2, l, a, b, d⟩ => ⟨_, by omega, rfl, by omega, G2, l, a, b, d⟩, fun v H2 yl => ?_⟩
    obtain ⟨rfl, sl, hsl, hy⟩ := hgo.2 v H2 yl
    have hsl' : sl = enc xs[i] := by
      rw [List.getElem?_map, List.getElem?_eq_getElem hlt] at hsl
      exact (Option.some.inj hsl).symm
    subst hsl'
    obtain ⟨ρ2, hset, hel⟩ := ht xs[i] (List.getElem_mem hlt)
    have tk : xs.take (i + 1) = xs.take i ++ [xs[i]] := by simp
    have eEnv : EnvOk G' H2 ((wipe σ [j]).set j (some v)) ρ2 := hset.env hy (set_un hw ((he.stp t1).stp t2))
    refine ⟨?_, ?_⟩
    · show ((σ.set j none).set j (some v)).set j none = σ.set j none
      rw [List.set_set, List.set_set]
    show tBE c.X scope elt _ H2 _
    intro s0 H0 C0 cl0 fp0
    refine hel (sepM [lstM D (l.map fun x : α × Addr => Sl.r (.ref x.2)), famM (fun x : α × Addr => M x.1 x.2) l]) s0 H0 C0 cl0 fp0 hso _ H2 G' _ eEnv (sep_fold.mpr o2) xok_blk fun w H4 G4 s4 r4 t4 h4 o4 k4 => ?_
    obtain ⟨q, rfl, en⟩ := k4
    have ew : w = .ref q := h4
    subst ew
    obtain ⟨G5, l5, o5⟩ := en G4 H4 o4
    have o5 := sep_fold.mp o5
    obtain ⟨acc, hp, al, gp, ch⟩ := lst_at (.zero (A := lstM D (l.map fun x : α × Addr => Sl.r (.ref x.2)))) o5
    have hla : acc.length = l.length := by
      have := al.length
      rwa [List.length_map] at this
    have hll : l.length ≤ xs.length := by
      have := congrArg List.length hl
      rw [List.length_map, List.length_take] at this
      omega
    refine ⟨acc, hp, Nat.lt_of_le_of_lt (Nat.le_trans (by omega) hlen) (by decide), ?_⟩
    obtain ⟨t6, o6⟩ := ch (acc ++ [.ref q]) ((l.map fun x : α × Addr => Sl.r (.ref x.2)) ++ [Sl.r (.ref q)]) (al.append (ws := [.ref q]) (ts := [Sl.r (.ref q)]) ⟨rfl, trivial⟩)
    refine ⟨G5, l ++ [(xs[i], q)], by rw [List.map_append, hl, tk]; rfl, ((t2.trans t4).trans (Stp.less l5)).trans t6, ?_⟩
    rw [List.map_append]
    exact (SE.cons (SE.trans .swap (se_add (f := fun x : α × Addr => M x.1 x.2) (y := (xs[i], q))))) _ _ _ o6
  · have hi : i = xs.length := by omega
    subst hi
    rw [List.take_length] at hl
    refine .inl ⟨jk.2 (by simp), ?_⟩
    refine hq (.ref D) H' G' (.r (.ref D)) _ (t1.trans t2) rfl ?_ (kend D)
    obtain ⟨F1, F2, h1, ⟨F3, F4, h3, h4, d2, e2⟩, d, e⟩ := o2
    refine ⟨fun a => F1 a ∨ F3 a, F4, ⟨⟨l, hl⟩, F1, F3, h1, ⟨F3, fun _ => False, h3, fun _ z => z, fun _ _ z => z, fun _ => ⟨.inl, fun z => z.elim id False.elim⟩⟩, fun a f g => d a f ((e2 a).mpr (.inl g)), fun _ => Iff.rfl⟩, h4, fun a z y => ?_, fun a => ?_⟩
    · rcases z with z | z
      · exact d a z ((e2 a).mpr (.inr y))
      · exact d2 a z y
    · rw [e a, e2 a, or_assoc]
theorem dx_lc0M {elt : Expr} {scope : Scope} {j : Nat} {K : Sl → List Mem → Prop} (hj : IxOf N₀ x j) (hok : BlkOk N₀ sc₀ scope [(x, j)])
    (h : DI c (.Name x p2) it ρ rs fun items keep r => ∃ (α : Type) (xs : List α) (enc : α → Sl) (M : α → Addr → Mem), items = xs.map enc ∧ (∀ A : Mem, ∀ B : Mem, keep (A :: B :: r)) ∧ xs.length ≤ 100000 ∧
      (∃ ρw, SetS N₀ ρ x j .un ρw ∧ ∀ y ∈ xs, ∃ ρ2, SetS N₀ ρw x j (enc y) ρ2 ∧ ElM c scope elt ρ2 r (M y)) ∧ ∀ D, K (.r (.ref D)) (colM D M xs :: r))
    (hso : ScOk (relS scope sc₀) := by decide +kernel) (hcm : cm₀ = true := by rfl) (hl : scope.names.lookup x = some .local := by rfl) (hr : (relS scope sc₀).names.lookup x = some .local := by rfl) (hf : ∀ y, foldedSetIterable it c.X.env y = pure y := by intro _; rfl) : DX c (.ListComp elt [⟨.Name x p2, it, [], 0⟩] scope pos) ρ rs K := by
  intro σ H G Q he hs hx hq
  have nd : c.X.N.Nodup := by rw [c.hN]; exact c.nd
  have hi : c.X.N[j]? = some x := by rw [c.hN]; exact hj.get
  refine tE_of (pe_lc (own := [(x, j)]) (g := gName j) (tt := tYes) (te := tBE c.X scope elt) (c.calm hcm) nd pi_t (by rw [c.hN, c.hsc]; exact hok) (fun s H C cl fp => pg_name nd hi (.inl (by show (relS scope c.X.env.scope).names.lookup x = _; rw [c.hsc]; exact hr)) (.inr (by show (relS scope c.X.env.scope).names.lookup x = _; rw [c.hsc]; exact hr))) (fun _ _ _ _ _ => pts_nil) (fun s H C cl fp => pe_b s H C cl fp) hf) ?_
  exact lc_runM (K := K) hso hj h he hs hx hq
theorem ds_lc0M {P : Post} {y : Str} {py : Pos} {i : Nat} {elt : Expr} {scope : Scope} {j : Nat} (hiy : IxOf N₀ y i) (hj : IxOf N₀ x j) (hok : BlkOk N₀ sc₀ scope [(x, j)])
    (h : DI c (.Name x p2) it ρ rs fun items keep r => ∃ (α : Type) (xs : List α) (enc : α → Sl) (M : α → Addr → Mem), items = xs.map enc ∧ (∀ A : Mem, ∀ B : Mem, keep (A :: B :: r)) ∧ xs.length ≤ 100000 ∧
      (∃ ρw, SetS N₀ ρ x j .un ρw ∧ ∀ y ∈ xs, ∃ ρ2, SetS N₀ ρw x j (enc y) ρ2 ∧ ElM c scope elt ρ2 r (M y)) ∧ ∀ D, ∃ ρ', SetS N₀ ρ y i (.r (.ref D)) ρ' ∧ P.nx ρ' (colM D M xs :: r))
    (hso : ScOk (relS scope sc₀) := by decide +kernel) (hcm : cm₀ = true := by rfl) (hl : scope.names.lookup x = some .local := by rfl) (hr : (relS scope sc₀).names.lookup x = some .local := by rfl) (hyl : sc₀.names.lookup y = some .local := by rfl) (hkd : sc₀.kind = .function := by rfl) (hln : (py.line == pos.line) = true := by rfl) (hny : (scope.names.any fun (n, k) => n == y && (k == .local || k == .cell)) = false := by first | rfl | decide +kernel)
    (hf : ∀ y, foldedSetIterable it c.X.env y = pure y := by intro _; rfl) : DS c (.Assign [.Name y py] (.ListComp elt [⟨.Name x p2, it, [], 0⟩] scope pos) pos') ρ rs P := by
  intro σ H G D he hs hx hd
  have nd : c.X.N.Nodup := by rw [c.hN]; exact c.nd
  have hi : c.X.N[j]? = some x := by rw [c.hN]; exact hj.get
  have hyi : c.X.N[i]? = some y := by rw [c.hN]; exact hiy.get
  refine tS_of (ps_setLc (own := [(x, j)]) (g := gName j) (tt := tYes) (te := tBE c.X scope elt) (c.calm hcm) nd hyi (by rw [c.hsc]; exact hyl) (sw_true (by rw [c.hsc]; exact hkd) (by rw [c.hsc]; exact hyl) hln hny) pi_t (by rw [c.hN, c.hsc]; exact hok) (fun s H C cl fp => pg_name nd hi (.inl (by show (relS scope c.X.env.scope).names.lookup x = _; rw [c.hsc]; exact hr)) (.inr (by show (relS scope c.X.env.scope).names.lookup x = _; rw [c.hsc]; exact hr))) (fun _ _ _ _ _ => pts_nil) (fun s H C cl fp => pe_b s H C cl fp) hf) ?_
  exact lc_runM (K := fun s r => ∃ ρ', SetS N₀ ρ y i s.plain ρ' ∧ P.nx ρ' r) (Q := fun v H' => D.nx (σ.set i (some v)) H') hso hj h he hs hx fun v H' G' sl r' t q o ⟨ρ', z, k⟩ => hd.nx _ H' G' ρ' r' t (z.env q.ok.plain (he.stp t)) o k
end

/-! ### things of several lists, lent and let go -/
/-- let go, A is the data d at v; it owns lists alone -/
structure Fz (A : Mem) (v : V) (d : PyData) : Prop where
  run : ∀ (F G : Fp) (H : Hp), A.ok F G H → (∀ a, F a → G a) → Is (fun a => G a ∧ ¬ F a) H v d
  lst : ∀ (F G : Fp) (H : Hp), A.ok F G H → ∀ a, F a → ∃ vs, H a = some (.lst vs)
theorem fz_lst {p : Addr} {ds : List PyData} : Fz (lstM p (ds.map .d)) (.ref p) (.list ds) where
  run := fun F G H ⟨e, vs, hp, al⟩ s => .lst (.inl ⟨.inl hp, fun z => z.2 ((e p).mpr rfl)⟩) (al.is.stp (Stp.less fun a z => z.1))
  lst := fun F G H ⟨e, vs, hp, _⟩ a z => by
    have := (e a).mp z
    subst this
    exact ⟨vs, hp⟩
theorem fz_ok {α : Type} {M : α → Addr → Mem} {d : α → PyData} (hM : ∀ x q, Fz (M x q) (.ref q) (d x)) : ∀ (l : List (α × Addr)) (F G : Fp) (H : Hp), sepL (l.map fun x : α × Addr => M x.1 x.2) F G H → (∀ a, F a → G a) →
    IsAll (fun a => G a ∧ ¬ F a) H (l.map fun x : α × Addr => V.ref x.2) (l.map fun x : α × Addr => d x.1) ∧ ∀ a, F a → ∃ vs, H a = some (.lst vs)
  | [], F, G, H, h, _ => ⟨.nil, fun a z => (h a z).elim⟩
  | x :: l, F, G, H, ⟨F1, F2, h1, h2, dj, e⟩, s => by
    obtain ⟨i1, i2⟩ := fz_ok hM l F2 G H h2 fun a z => s a ((e a).mpr (.inr z))
    have j1 := (hM x.1 x.2).run F1 G H h1 fun a z => s a ((e a).mpr (.inl z))
    refine ⟨.cons (j1.stp (Stp.less fun a z => ⟨z.1, fun y => z.2 ((e a).mpr (.inl y))⟩)) (i1.stp (Stp.less fun a z => ⟨z.1, fun y => z.2 ((e a).mpr (.inr y))⟩)), fun a z => ?_⟩
    rcases (e a).mp z with z | z
    · exact (hM x.1 x.2).lst F1 G H h1 a z
    · exact i2 a z
theorem vals_ref {α : Type} {G : Fp} {H : Hp} : ∀ {l : List (α × Addr)} {vs : List V}, SlAll G H vs (l.map fun x : α × Addr => Sl.r (.ref x.2)) → vs = l.map fun x : α × Addr => V.ref x.2
  | [], [], _ => rfl
  | _ :: _, v :: vs, h => congr (congrArg List.cons h.1) (vals_ref h.2)
  | [], _ :: _, h => h.elim
  | _ :: _, [], h => h.elim
theorem fz_col {α : Type} {M : α → Addr → Mem} {d : α → PyData} (hM : ∀ x q, Fz (M x q) (.ref q) (d x)) {D : Addr} {xs : List α} : Fz (colM D M xs) (.ref D) (.list (xs.map d)) where
  run := fun F G H ⟨⟨l, hl⟩, F1, F2, ⟨e1, vs, hp, al⟩, h2, dj, e⟩ s => by
    obtain ⟨F3, F4, h3, h4, _, e3⟩ := h2
    have e2 : ∀ a, F2 a ↔ F3 a := fun a => by rw [e3 a]; exact ⟨fun z => z.elim id fun z => (h4 a z).elim, .inl⟩
    have sub : ∀ a, F3 a → F a := fun a z => (e a).mpr (.inr ((e2 a).mpr z))
    obtain ⟨i1, _⟩ := fz_ok hM l F3 G H h3 fun a z => s a (sub a z)
    have ev : vs = l.map fun x : α × Addr => V.ref x.2 := vals_ref al
    subst ev
    rw [← hl, List.map_map]
    exact .lst (.inl ⟨.inl hp, fun z => z.2 ((e D).mpr (.inl ((e1 D).mpr rfl)))⟩) (i1.stp (Stp.less fun a z => ⟨z.1, fun y => z.2 (sub a y)⟩))
  lst := fun F G H ⟨⟨l, hl⟩, F1, F2, ⟨e1, vs, hp, al⟩, h2, dj, e⟩ a z => by
    obtain ⟨F3, F4, h3, h4, _, e3⟩ := h2
    rcases (e a).mp z with z | z
    · have := (e1 a).mp z
      subst this
      exact ⟨vs, hp⟩
    · rcases (e3 a).mp z with z | z
      · have key : ∀ (l : List (α × Addr)) (F : Fp), sepL (l.map fun x : α × Addr => M x.1 x.2) F G H → ∀ a, F a → ∃ vs, H a = some (.lst vs) := fun l => by
          induction l with
          | nil => exact fun F h a z => (h a z).elim
          | cons x l ih =>
            rintro F ⟨F1, F2, h1, h2, _, e⟩ a z
            rcases (e a).mp z with z | z
            · exact (hM x.1 x.2).lst F1 G H h1 a z
            · exact ih F2 h2 a z
        exact key l F3 h3 a z
      · exact (h4 a z).elim
/-- rows of one's own -/
abbrev rowsM (D : Addr) (rows : List (List PyData)) : Mem := colM D (fun r q => lstM q (r.map .d)) rows
theorem fz_rows {D : Addr} {rows : List (List PyData)} : Fz (rowsM D rows) (.ref D) (.list (rows.map .list)) := fz_col (d := PyData.list) fun _ _ => fz_lst
abbrev LnF := List (Mem × Addr × PyData)
inductive LentF (L : LnF) : List Sl → List Sl → Prop
  | nil : LentF L [] []
  | lend {A p d ss ss'} : (A, p, d) ∈ L → LentF L ss ss' → LentF L (.r (.ref p) :: ss) (.d d :: ss')
  | eq {s ss ss'} : LentF L ss ss' → LentF L (s :: ss) (s :: ss')
theorem lf_at {G : Fp} {H : Hp} : ∀ {L : LnF} {F : Fp}, (∀ x ∈ L, Fz x.1 (.ref x.2.1) x.2.2) → sepL (L.map (·.1)) F G H → (∀ a, F a → G a) →
    (∀ x ∈ L, Is (fun a => G a ∧ ¬ F a) H (.ref x.2.1) x.2.2) ∧ ∀ a, F a → ∃ vs, H a = some (.lst vs)
  | [], F, _, h, _ => ⟨fun _ z => (nomatch z), fun a z => (h a z).elim⟩
  | y :: L, F, hF, ⟨F1, F2, h1, h2, _, e⟩, s => by
    obtain ⟨i1, i2⟩ := lf_at (fun x hx => hF x (List.mem_cons_of_mem _ hx)) h2 fun a z => s a ((e a).mpr (.inr z))
    refine ⟨fun x hx => ?_, fun a z => ?_⟩
    · rcases List.mem_cons.mp hx with rfl | hx
      · exact ((hF _ List.mem_cons_self).run F1 G H h1 fun a z => s a ((e a).mpr (.inl z))).stp (Stp.less fun a z => ⟨z.1, fun w => z.2 ((e a).mpr (.inl w))⟩)
      · exact (i1 x hx).stp (Stp.less fun a z => ⟨z.1, fun w => z.2 ((e a).mpr (.inr w))⟩)
    · rcases (e a).mp z with z | z
      · exact (hF _ List.mem_cons_self).lst F1 G H h1 a z
      · exact i2 a z
theorem lf_sl {G G' F : Fp} {H : Hp} {L : LnF} (hL : ∀ x ∈ L, Is (fun a => G a ∧ ¬ F a) H (.ref x.2.1) x.2.2) (hs : ∀ a, G' a → G a) (hd : ∀ a, F a → ¬ G' a) {ss ss' : List Sl} (l : LentF L ss ss') : ∀ {vs : List V}, SlAll G H vs ss → SlAll G' H vs ss' := by
  induction l with
  | nil =>
    intro vs h
    cases vs with
    | nil => trivial
    | cons _ _ => exact h.elim
  | @lend A p d ss ss' hm _ ih =>
    intro vs h
    cases vs with
    | nil => exact h.elim
    | cons v vs =>
      obtain ⟨h1, h2⟩ := h
      have ev : v = .ref p := h1
      subst ev
      exact ⟨(hL _ hm).stp (Stp.less fun a z => ⟨hs a z, fun w => hd a w z⟩), ih h2⟩
  | eq _ ih =>
    intro vs h
    cases vs with
    | nil => exact h.elim
    | cons v vs => exact ⟨h.1.stp (Stp.less hs), ih h.2⟩
theorem lf_back {G G2 FL FR FT : Fp} {H H' : Hp} {Ls rest r2 : List Mem} {hd : ∀ a, FT a → ∃ o, H a = some o} (ll : ∀ a, FL a → ∃ vs, H a = some (.lst vs))
    (hL : sepL Ls FL G H) (hT : sepL rest FT G H) (hLR : ∀ a, FL a → FR a → False) (hLT : ∀ a, FL a → FT a → False) (hRT : ∀ a, FR a → FT a → False) (hG : ∀ a, G a ↔ (FL a ∨ FR a) ∨ FT a)
    (t : Stp (fun a => FR a ∨ FT a) G2 H H') (o : sepL (r2 ++ [asM FT H hd]) G2 G2 H') (hl : LndA r2) :
    ∃ G3 : Fp, Stp G G3 H H' ∧ sepL (r2 ++ (Ls ++ rest)) G3 G3 H' ∧ More G2 G3 H' ∧ (∀ a, H a = none → G3 a → G2 a) := by
  have nL : ∀ a, FL a → ¬ (FR a ∨ FT a) := fun a f z => z.elim (hLR a f) (hLT a f)
  have kL : ∀ a u, H a = some u → FL a → H' a = some u := fun a u q f => t.keep a u q (nL a f)
  obtain ⟨F1, F2, o1, ⟨F3, F4, ⟨e3, k3⟩, o4, _, e2⟩, d12, e12⟩ := sepL.app.mp o
  have e4 : ∀ a, F2 a ↔ FT a := fun a => by
    rw [e2 a, e3 a]
    exact ⟨fun z => z.elim id fun z => (o4 a z).elim, .inl⟩
  have nF1 : ∀ a, F1 a → FL a → False := fun a f g => by
    rcases t.sub a ((e12 a).mpr (.inl f)) with z | z
    · exact nL a g z
    · obtain ⟨vs, q⟩ := ll a g
      rw [z] at q; cases q
  have mo : More G2 (fun a => G2 a ∨ FL a) H' := fun a z => z.imp id fun z => by
    obtain ⟨vs, q⟩ := ll a z
    exact ⟨vs, kL a _ q z⟩
  have st : Stp G (fun a => G2 a ∨ FL a) H H' := ⟨fun a u q n => t.keep a u q fun z => n ((hG a).mpr (z.elim (fun z => .inl (.inr z)) .inr)), fun a z => by
    rcases z with z | z
    · exact (t.sub a z).imp (fun z => (hG a).mpr (z.elim (fun z => .inl (.inr z)) .inr)) id
    · exact .inl ((hG a).mpr (.inl (.inl z))), t.old⟩
  have kG : ∀ a u, H a = some u → ¬ G a → H' a = some u := fun a u q n => st.keep a u q n
  refine ⟨fun a => G2 a ∨ FL a, st, ?_, mo, fun a z g => g.elim id fun g => by
    obtain ⟨vs, q⟩ := ll a g
    rw [z] at q; cases q⟩
  refine sepL.app.mpr ⟨F1, fun a => FL a ∨ FT a, sepL.more mo hl o1, sepL.app.mpr ⟨FL, FT, sepL.step st.sub hL fun a u q z => z.elim (kL a u q) (kG a u q), sepL.step st.sub hT fun a u q z => z.elim (fun f => k3 a u f q) (kG a u q), hLT, fun a => Iff.rfl⟩, fun a f z => ?_, fun a => ?_⟩
  · rcases z with z | z
    · exact nF1 a f z
    · exact d12 a f ((e4 a).mpr z)
  · rw [e12 a, e4 a]
    constructor
    · rintro ((z | z) | z)
      · exact .inl z
      · exact .inr (.inr z)
      · exact .inr (.inl z)
    · rintro (z | z | z)
      · exact .inl (.inl z)
      · exact .inr z
      · exact .inl (.inr z)
/-- the slots of the thing at q, made plain -/
inductive FrzV (q : Addr) (dd : PyData) : List Sl → List Sl → Prop
  | nil : FrzV q dd [] []
  | here {t t' : List Sl} : FrzV q dd t t' → FrzV q dd (.r (.ref q) :: t) (.d dd :: t')
  | eq {s : Sl} {t t' : List Sl} : FrzV q dd t t' → FrzV q dd (s :: t) (s :: t')
section
variable {c : Ctx m₀ N₀ sc₀ lv₀ xp₀ fF₀ cm₀} {ρ ρ' : List Sl} {r1 rs : List Mem} {K : Sl → List Mem → Prop} {P : Post} {sts : List Stmt}
theorem ce_lendF {C : Cn} (L : LnF) (hF : ∀ x ∈ L, Fz x.1 (.ref x.2.1) x.2.2) {rin rest : List Mem} {ss ss' : List Sl} (gr : Grab r1 (L.map (·.1) ++ rin) rest) (hl : LentF L ss ss')
    (h : C ss' rin (fun s r2 => noR s = true ∧ LndA r2 ∧ K s (r2 ++ (L.map (·.1) ++ rest))) (fun D r2 => LndA r2 ∧ xp₀ D ρ (r2 ++ (L.map (·.1) ++ rest)))) : CallEnd c C ss ρ r1 K := fun σ H G vs Q he hs hx hv hq => by
  obtain ⟨F0, FT, h0, hT, d0, e0⟩ := sepL.app.mp (gr.sep hs)
  obtain ⟨FL, FR, hL, hR, d1, e1⟩ := sepL.app.mp h0
  have hG : ∀ a, G a ↔ (FL a ∨ FR a) ∨ FT a := fun a => by rw [e0 a, e1 a]
  have hLT : ∀ a, FL a → FT a → False := fun a f g => d0 a ((e1 a).mpr (.inl f)) g
  have hRT : ∀ a, FR a → FT a → False := fun a f g => d0 a ((e1 a).mpr (.inr f)) g
  have hd : ∀ a, FT a → ∃ o, H a = some o := fun a z => hT.dom a z
  have sub : ∀ a, (FR a ∨ FT a) → G a := fun a z => (hG a).mpr (z.elim (fun z => .inl (.inr z)) .inr)
  obtain ⟨la, ll⟩ := lf_at hF hL fun a z => (hG a).mpr (.inl (.inl z))
  refine ⟨ss', asM FT H hd, rin, fun a => FR a ∨ FT a, _, _, lf_sl la sub (fun a f z => z.elim (d1 a f) (hLT a f)) hl hv, ?_, h, ?_, ?_⟩
  · exact sepL.app.mpr ⟨FR, FT, sepL.step (G := G) (fun a z => .inl (sub a z)) hR fun a u q _ => q, ⟨FT, fun _ => False, ⟨fun a => Iff.rfl, fun a u _ q => q⟩, fun _ z => z, fun _ _ z => z, fun a => ⟨.inl, fun z => z.elim id False.elim⟩⟩, hRT, fun a => Iff.rfl⟩
  · rintro v H' G2 sl r2 t r o ⟨hn, hA, k⟩
    obtain ⟨G3, st, sp, mo, hf⟩ := lf_back ll hL hT d1 hLT hRT hG t o hA
    exact hq v H' G3 sl _ st (r.more mo hf hn) sp k
  · rintro D H' G2 r2 t o ⟨hA, k⟩
    obtain ⟨G3, st, sp, mo, hf⟩ := lf_back ll hL hT d1 hLT hRT hG t o hA
    exact hx D σ H' G3 ρ _ st (he.stp st) sp k
theorem FrzV.env {q : Addr} {d : PyData} {G : Fp} {H : Hp} (hq : Is G H (.ref q) d) {ρ ρ' : List Sl} (h : FrzV q d ρ ρ') : ∀ {σ : L2.St}, EnvOk G H σ ρ → EnvOk G H σ ρ' := by
  induction h with
  | nil => intro σ e; exact e
  | here _ ih =>
    intro σ e
    cases σ with
    | nil => exact e.elim
    | cons o σ =>
      obtain ⟨⟨v, rfl, hv⟩, t⟩ := e
      have ev : v = .ref q := hv
      subst ev
      exact ⟨⟨_, rfl, hq⟩, ih t⟩
  | eq _ ih =>
    intro σ e
    cases σ with
    | nil => exact e.elim
    | cons o σ => exact ⟨e.1, ih e.2⟩
theorem dss_frzF {A : Mem} {q : Addr} {d : PyData} {g : List Mem → List Mem} (pk : Pick rs A g) (hA : Fz A (.ref q) d) (hf : FrzV q d ρ ρ') (k : DSs c sts ρ' (g []) P) : DSs c sts ρ rs P := by
  intro σ H G D he hs hx hd
  obtain ⟨F1, F2, h1, h2, dj, e⟩ := pk.split.mp hs
  have s : Stp G F2 H H := Stp.less fun a z => (e a).mpr (.inr z)
  have hi : Is F2 H (.ref q) d := (hA.run F1 G H h1 fun a z => (e a).mpr (.inl z)).stp (Stp.less fun a z => ⟨(e a).mpr (.inr z), fun y => dj a y z⟩)
  exact k σ H F2 D (hf.env hi (he.stp s)) (sepL.step s.sub h2 fun a o q _ => q) (hx.stp s) (hd.stp s)
end
end PW

set_option maxHeartbeats 1000000
/-! Tuples of one's own; things with tuples lent to what only looks. -/
namespace PW
open PySem L2
variable [KC]
variable {m₀ : Mo} {N₀ : List Str} {sc₀ : Scope} {lv₀ : Nat} {xp₀ : Addr → List Sl → List Mem → Prop} {fF₀ cm₀ : Bool}
def tupM (p : Addr) (ss : List Sl) : Mem where
  ok F G H := (∀ a, F a ↔ a = p) ∧ ∃ vs, H p = some (.tup vs) ∧ SlAll G H vs ss
  dom := fun ⟨e, vs, h, _⟩ a q => by
    have e2 := (e a).mp q
    subst e2
    exact ⟨_, h⟩
  step := fun ⟨e, vs, h, al⟩ k s => ⟨e, vs, k _ _ h (.inl ((e p).mpr rfl)), al.stp0 (fun a o q n => k a o q (.inr n)) s⟩
theorem own_tup {G : Fp} {H : Hp} {rs : List Mem} {p : Addr} {vs : List V} {ss : List Sl} (hs : sepL rs G G H) (hp : H p = none) (al : SlAll G H vs ss) :
    Stp G (fun a => a = p ∨ G a) H (upd H p (.tup vs)) ∧ sepL (tupM p ss :: rs) (fun a => a = p ∨ G a) (fun a => a = p ∨ G a) (upd H p (.tup vs)) :=
  sepL.join hs (same_new hp) hp ⟨fun a => Iff.rfl, vs, upd_same, al.stp0 (fun a o q _ => same_new hp a o q) fun a g => g.elim (fun e => .inr (e ▸ hp)) .inl⟩
theorem tup_at {G : Fp} {H : Hp} {rs : List Mem} {p : Addr} {ss : List Sl} {f : List Mem → List Mem} (pk : Pick rs (tupM p ss) f) (hs : sepL rs G G H) : ∃ vs, H p = some (.tup vs) ∧ SlAll G H vs ss := by
  obtain ⟨F1, F2, ⟨eF, vs, hp, al⟩, _, dj, eG⟩ := pk.split.mp hs
  exact ⟨vs, hp, al⟩
/-- let go, A is the data d at v -/
def FzR (A : Mem) (v : V) (d : PyData) : Prop := ∀ (F G : Fp) (H : Hp), A.ok F G H → (∀ a, F a → G a) → Is (fun a => G a ∧ ¬ F a) H v d
theorem Fz.r {A : Mem} {v : V} {d : PyData} (h : Fz A v d) : FzR A v d := h.run
theorem fzr_ok {α : Type} {M : α → Addr → Mem} {d : α → PyData} (hM : ∀ x q, FzR (M x q) (.ref q) (d x)) : ∀ (l : List (α × Addr)) (F G : Fp) (H : Hp), sepL (l.map fun x : α × Addr => M x.1 x.2) F G H → (∀ a, F a → G a) →
    IsAll (fun a => G a ∧ ¬ F a) H (l.map fun x : α × Addr => V.ref x.2) (l.map fun x : α × Addr => d x.1)
  | [], F, G, H, h, _ => .nil
  | x :: l, F, G, H, ⟨F1, F2, h1, h2, dj, e⟩, s => by
    have i1 := fzr_ok hM l F2 G H h2 fun a z => s a ((e a).mpr (.inr z))
    have j1 := hM x.1 x.2 F1 G H h1 fun a z => s a ((e a).mpr (.inl z))
    exact .cons (j1.stp (Stp.less fun a z => ⟨z.1, fun y => z.2 ((e a).mpr (.inl y))⟩)) (i1.stp (Stp.less fun a z => ⟨z.1, fun y => z.2 ((e a).mpr (.inr y))⟩))
theorem fzr_own {α : Type} {M : α → Addr → Mem} {d : α → PyData} (hM : ∀ x q, FzR (M x q) (.ref q) (d x)) {D : Addr} (l : List (α × Addr)) {F G : Fp} {H : Hp} (h : sepL [lstM D (l.map fun x : α × Addr => .r (.ref x.2)), famM (fun x : α × Addr => M x.1 x.2) l] F G H) (s : ∀ a, F a → G a) :
    Is (fun a => G a ∧ ¬ F a) H (.ref D) (.list (l.map fun x : α × Addr => d x.1)) := by
  obtain ⟨F1, F2, ⟨e1, vs, hp, al⟩, h2, dj, e⟩ := h
  obtain ⟨F3, F4, h3, h4, _, e3⟩ := h2
  have e2 : ∀ a, F2 a ↔ F3 a := fun a => by rw [e3 a]; exact ⟨fun z => z.elim id fun z => (h4 a z).elim, .inl⟩
  have sub : ∀ a, F3 a → F a := fun a z => (e a).mpr (.inr ((e2 a).mpr z))
  have i1 := fzr_ok hM l F3 G H h3 fun a z => s a (sub a z)
  have ev : vs = l.map fun x : α × Addr => V.ref x.2 := vals_ref al
  subst ev
  exact .lst (.inl ⟨.inl hp, fun z => z.2 ((e D).mpr (.inl ((e1 D).mpr rfl)))⟩) (i1.stp (Stp.less fun a z => ⟨z.1, fun y => z.2 (sub a y)⟩))
theorem fzr_col {α : Type} {M : α → Addr → Mem} {d : α → PyData} (hM : ∀ x q, FzR (M x q) (.ref q) (d x)) {D : Addr} {xs : List α} : FzR (colM D M xs) (.ref D) (.list (xs.map d)) := fun F G H ⟨⟨l, hl⟩, h⟩ s => by
  have := fzr_own hM l h s
  rw [← hl, List.map_map]
  exact this
inductive LentR (L : LnF) : List Sl → List Sl → Prop
  | nil : LentR L [] []
  | lend {A p d ss ss'} : (A, p, d) ∈ L → LentR L ss ss' → LentR L (.r (.ref p) :: ss) (.d d :: ss')
  | eq {s ss ss'} : LentR L ss ss' → LentR L (s :: ss) (s :: ss')
theorem lr_at {G : Fp} {H : Hp} : ∀ {L : LnF} {F : Fp}, (∀ x ∈ L, FzR x.1 (.ref x.2.1) x.2.2) → sepL (L.map (·.1)) F G H → (∀ a, F a → G a) → ∀ x ∈ L, Is (fun a => G a ∧ ¬ F a) H (.ref x.2.1) x.2.2
  | [], F, _, h, _ => fun _ z => (nomatch z)
  | y :: L, F, hF, ⟨F1, F2, h1, h2, _, e⟩, s => fun x hx => by
    rcases List.mem_cons.mp hx with rfl | hx
    · exact (hF _ List.mem_cons_self F1 G H h1 fun a z => s a ((e a).mpr (.inl z))).stp (Stp.less fun a z => ⟨z.1, fun w => z.2 ((e a).mpr (.inl w))⟩)
    · exact (lr_at (fun x hx => hF x (List.mem_cons_of_mem _ hx)) h2 (fun a z => s a ((e a).mpr (.inr z))) x hx).stp (Stp.less fun a z => ⟨z.1, fun w => z.2 ((e a).mpr (.inr w))⟩)
theorem lr_sl {G G' F : Fp} {H : Hp} {L : LnF} (hL : ∀ x ∈ L, Is (fun a => G a ∧ ¬ F a) H (.ref x.2.1) x.2.2) (hs : ∀ a, G' a → G a) (hd : ∀ a, F a → ¬ G' a) {ss ss' : List Sl} (l : LentR L ss ss') : ∀ {vs : List V}, SlAll G H vs ss → SlAll G' H vs ss' := by
  induction l with
  | nil =>
    intro vs h
    cases vs with
    | nil => trivial
    | cons _ _ => exact h.elim
  | @lend A p d ss ss' hm _ ih =>
    intro vs h
    cases vs with
    | nil => exact h.elim
    | cons v vs =>
      obtain ⟨h1, h2⟩ := h
      have ev : v = .ref p := h1
      subst ev
      exact ⟨(hL _ hm).stp (Stp.less fun a z => ⟨hs a z, fun w => hd a w z⟩), ih h2⟩
  | eq _ ih =>
    intro vs h
    cases vs with
    | nil => exact h.elim
    | cons v vs => exact ⟨h.1.stp (Stp.less hs), ih h.2⟩
/-- without references -/
def flatS : Sl → Bool
  | .d .none => true
  | .d (.bool _) => true
  | .d (.int _) => true
  | .d (.str _) => true
  | _ => false
theorem flat_rs {G G' : Fp} {H H0 : Hp} {v : V} {s : Sl} (hf : flatS s = true) (h : Rs G H0 H v s) : Rs G' H0 H v s := by
  cases s with
  | d x =>
    have h : Is G H v x := h
    show Is G' H v x
    cases h with
    | non => exact .non
    | bl b => exact .bl b
    | int i => exact .int i
    | str x => exact .str x
    | lst _ _ => cases hf
    | tup _ _ _ => cases hf
  | un => cases hf
  | r _ => cases hf
  | n _ => cases hf
section
variable {c : Ctx m₀ N₀ sc₀ lv₀ xp₀ fF₀ cm₀} {e a b o : Expr} {es : List Expr} {ρ ρ' : List Sl} {r1 rs : List Mem} {K : Sl → List Mem → Prop} {P : Post} {x f : Str} {pos pos' p2 apos : Pos} {s1 s2 : Sl} {sts : List Stmt}
/-- (.., ..), owned -/
theorem dx_tupO {x1} (h : DA c es ρ rs fun ss r => ss.length ≤ 100000 ∧ ∀ p, K (.r (.ref p)) (tupM p ss :: r)) : DX c (.Tuple es x1 pos) ρ rs K := by
  intro σ H G Q he hs hx hq
  refine tE_of (pe_tup pa_t) ?_
  refine h σ H G _ he hs hx fun vs H1 G1 ss r1 t1 h1 o1 k1 => ?_
  refine ⟨Nat.le_trans (Nat.le_trans (Nat.le_of_eq h1.length) k1.1) (by decide), fun p hp => ?_⟩
  obtain ⟨t2, o2⟩ := own_tup o1 hp h1
  exact hq _ _ _ (.r (.ref p)) _ (t1.trans t2) rfl o2 (k1.2 p)
theorem od_ixt2 {i : Int} {p : Addr} {ss : List Sl} {f : List Mem → List Mem} {s : Sl} (pk : Pick rs (tupM p ss) f) (hi : atI ss i = some s) (hn : ∀ ds, s ≠ .n ds) (k : K s rs) : OpD (rIx KC.K) (.r (.ref p)) (.d (.int i)) rs K := fun G H x y Q hx hy hs hq => by
  have ex : x = .ref p := hx
  subst ex
  have ey := hy.int
  obtain ⟨vs, hp, al⟩ := tup_at pk hs
  have hv : ∃ v, atI vs i = some v ∧ SlOk G H v s := by
    unfold atI at hi ⊢
    rw [al.length]
    cases e : ixN ss.length i with
    | none => rw [e] at hi; cases hi
    | some j => rw [e] at hi; exact al.get hi
  obtain ⟨v, hv, hd⟩ := hv
  exact .inr (.inl ⟨p, vs, i, v, rfl, ey, .inl (.inl hp), hv, give0 hs hq (Rs.of_ok hd hn) k⟩)
/-- to a def that only looks, and tells what is flat -/
theorem ce_lendP {C : Cn} (L : LnF) (hF : ∀ x ∈ L, FzR x.1 (.ref x.2.1) x.2.2) {rest : List Mem} {ss ss' : List Sl} (gr : Grab r1 (L.map (·.1)) rest) (hl : LentR L ss ss')
    (h : C ss' [] (fun s r2 => flatS s = true ∧ r2 = [] ∧ K s (L.map (·.1) ++ rest)) (fun _ _ => False)) : CallEnd c C ss ρ r1 K := fun σ H G vs Q he hs hx hv hq => by
  obtain ⟨FL, FT, hL, hT, d0, e0⟩ := sepL.app.mp (gr.sep hs)
  have hd : ∀ a, FT a → ∃ o, H a = some o := fun a z => hT.dom a z
  have sub : ∀ a, FT a → G a := fun a z => (e0 a).mpr (.inr z)
  have la := lr_at hF hL fun a z => (e0 a).mpr (.inl z)
  refine ⟨ss', asM FT H hd, [], FT, _, _, lr_sl la sub (fun a f z => d0 a f z) hl hv, ?_, h, ?_, ?_⟩
  · exact ⟨FT, fun _ => False, ⟨fun a => Iff.rfl, fun a u _ q => q⟩, fun _ z => z, fun _ _ z => z, fun a => ⟨.inl, fun z => z.elim id False.elim⟩⟩
  · rintro v H' G2 sl r2 t r o ⟨hfl, rfl, k⟩
    obtain ⟨F3, F4, ⟨e3, k3⟩, o4, _, e2⟩ := o
    have e4 : ∀ a, G2 a ↔ FT a := fun a => by
      rw [e2 a, e3 a]
      exact ⟨fun z => z.elim id fun z => (o4 a z).elim, .inl⟩
    have kG : ∀ a u, H a = some u → ¬ FT a → H' a = some u := fun a u q n => t.keep a u q n
    have st : Stp G G H H' := ⟨fun a u q n => kG a u q fun z => n (sub a z), fun a z => .inl z, t.old⟩
    refine hq v H' G sl _ st (flat_rs hfl r) ?_ k
    exact sepL.app.mpr ⟨FL, FT, sepL.step (G := G) (fun a z => .inl z) hL (fun a u q z => z.elim (fun f => kG a u q (d0 a f)) fun n => kG a u q fun z => n (sub a z)), sepL.step (G := G) (fun a z => .inl z) hT (fun a u q z => z.elim (fun f => k3 a u f q) fun n => kG a u q fun z => n (sub a z)), d0, e0⟩
  · rintro D H' G2 r2 t o z
    exact z.elim
theorem dss_frzR {A : Mem} {q : Addr} {d : PyData} {g : List Mem → List Mem} (pk : Pick rs A g) (hA : FzR A (.ref q) d) (hf : FrzV q d ρ ρ') (k : DSs c sts ρ' (g []) P) : DSs c sts ρ rs P := by
  intro σ H G D he hs hx hd
  obtain ⟨F1, F2, h1, h2, dj, e⟩ := pk.split.mp hs
  have s : Stp G F2 H H := Stp.less fun a z => (e a).mpr (.inr z)
  have hi : Is F2 H (.ref q) d := (hA F1 G H h1 fun a z => (e a).mpr (.inl z)).stp (Stp.less fun a z => ⟨(e a).mpr (.inr z), fun y => dj a y z⟩)
  exact k σ H F2 D (hf.env hi (he.stp s)) (sepL.step s.sub h2 fun a o q _ => q) (hx.stp s) (hd.stp s)
theorem dx_frzR (h : DX c e ρ rs fun s r => ∃ p A d g, s = .r (.ref p) ∧ Pick r A g ∧ FzR A (.ref p) d ∧ K (.d d) (g [])) : DX c e ρ rs K := by
  intro σ H G Q he hs hx hq
  refine h σ H G _ he hs hx fun v H1 G1 s1 r1 t1 h1 o1 k1 => ?_
  obtain ⟨p, A, d, g, rfl, pk, hA, k1⟩ := k1
  have ev : v = .ref p := h1
  subst ev
  obtain ⟨F1, F2, h1, h2, dj, e⟩ := pk.split.mp o1
  have s : Stp G1 F2 H1 H1 := Stp.less fun a z => (e a).mpr (.inr z)
  have hi : Is F2 H1 (.ref p) d := (hA F1 G1 H1 h1 fun a z => (e a).mpr (.inl z)).stp (Stp.less fun a z => ⟨(e a).mpr (.inr z), fun y => dj a y z⟩)
  exact hq _ H1 F2 (.d d) _ (t1.trans s) hi (sepL.step s.sub h2 fun a o q _ => q) k1
end

section
variable {c : Ctx m₀ N₀ sc₀ lv₀ xp₀ fF₀ cm₀} {e a b tg it : Expr} {es : List Expr} {ρ ρ' : List Sl} {rs : List Mem} {KI : List Sl → (List Mem → Prop) → List Mem → Prop} {x : Str} {pos pos' p2 : Pos}
theorem lc_runM1 {elt : Expr} {tt : TT} {scope : Scope} {j : Nat} {K : Sl → List Mem → Prop} (hso : ScOk (relS scope sc₀)) (hj : IxOf N₀ x j)
    (h : DI c (.Name x p2) it ρ rs fun items keep r => ∃ (α : Type) (xs : List α) (enc : α → Sl) (p : α → Bool) (M : α → Addr → Mem), items = xs.map enc ∧ (∀ A : Mem, ∀ B : Mem, keep (A :: B :: r)) ∧ xs.length ≤ 100000 ∧
      (∃ ρw, SetS N₀ ρ x j .un ρw ∧ ∀ y ∈ xs, ∃ ρ2, SetS N₀ ρw x j (enc y) ρ2 ∧ (p y = true → ElM c scope elt ρ2 r (M y)) ∧
        ∀ (A B : Mem) (σ : L2.St) (H : Hp) (G : Fp) (Q : Bool → Hp → Prop), EnvOk G H σ ρ2 → sepL (A :: B :: r) G G H → (∀ H' G', Stp G G' H H' → sepL (A :: B :: r) G' G' H' → Q (p y) H') → tt σ H Q) ∧
      ∀ D, K (.r (.ref D)) (colM D M (xs.filter p) :: r))
    {σ : L2.St} {H : Hp} {G : Fp} {Q : VK} (he : EnvOk G H σ ρ) (hs : sepL rs G G H) (hx : XOk c G H) (hq : ∀ v H' G' sl rs', Stp G G' H H' → Rs G' H H' v sl → sepL rs' G' G' H' → K sl rs' → Q v H') :
    tLc (tI c.X (.Name x p2) it) (gName j) tt (tBE c.X scope elt) [j] σ H Q := by
  refine h σ H G _ he hs hx fun J H1 G1 items keep r1 t1 o1 jok k1 => ?_
  obtain ⟨α, xs, enc, p, M, rfl, hk, hlen, ⟨ρw, hw, ht⟩, kend⟩ := k1
  intro D hD
  have nG1 : ¬ G1 D := o1.fresh hD
  obtain ⟨tj, oj⟩ := sepL.join (A := lstM D []) (H' := upd H1 D (.lst [])) o1 (same_new hD) hD ⟨fun a => Iff.rfl, [], upd_same, trivial⟩
  have oj := (SE.cons (A := lstM D []) (se_nil (f := fun x : α × Addr => M x.1 x.2))) _ _ _ oj
  refine ⟨fun i m H' => m = xs.length - i ∧ i ≤ xs.length ∧ ∃ (G' : Fp) (l : List (α × Addr)), l.map (·.1) = (xs.take i).filter p ∧ Stp G1 G' H1 H' ∧ sepL (lstM D (l.map fun x : α × Addr => Sl.r (.ref x.2)) :: famM (fun x : α × Addr => M x.1 x.2) l :: r1) G' G' H', ⟨_, rfl, Nat.zero_le _, _, [], rfl, tj, oj⟩, ?_⟩
  rintro i m H' ⟨rfl, hle, G', l, hl, t2, o2⟩
  have jk := jok G' H' _ t2 o2 (hk _ _) i
  by_cases hlt : i < xs.length
  · have hgo := jk.1 (by simpa using hlt)
    refine .inr ⟨hgo.1, fun H2 => ∃ (G2 : Fp) (l : List (α × Addr)), l.map (·.1) = (xs.take (i + 1)).filter p ∧ Stp G1 G2 H1 H2 ∧ sepL (lstM D (l.map fun x : α × Addr => Sl.r (.ref x.2)) :: famM (fun x : α × Addr => M x.1 x.2) l :: r1) G2 G2 H2, fun H2 ⟨G2, l, a, b, d⟩ => ⟨_, by omega, rfl, by omega, G2, l, a, b, d⟩, fun v H2 yl => ?_⟩
    obtain ⟨rfl, sl, hsl, hy⟩ := hgo.2 v H2 yl
    have hsl' : sl = enc xs[i] := by
      rw [List.getElem?_map, List.getElem?_eq_getElem hlt] at hsl
      exact (Option.some.inj hsl).symm
    subst hsl'
    obtain ⟨ρ2, hset, hel, htt⟩ := ht xs[i] (List.getElem_mem hlt)
    have tk : xs.take (i + 1) = xs.take i ++ [xs[i]] := by simp
    have eEnv : EnvOk G' H2 ((wipe σ [j]).set j (some v)) ρ2 := hset.env hy (set_un hw ((he.stp t1).stp t2))
    refine ⟨?_, ?_⟩
    · show ((σ.set j none).set j (some v)).set j none = σ.set j none
      rw [List.set_set, List.set_set]
    refine htt _ _ _ H2 G' _ eEnv o2 fun H3 G3 t3 o3 => ?_
    cases hp : p xs[i] with
    | false =>
      show ∃ G2, _
      refine ⟨G3, l, ?_, t2.trans t3, o3⟩
      rw [tk, List.filter_append, List.filter_cons, if_neg (by rw [hp]; exact Bool.false_ne_true)]
      simpa using hl
    | true =>
      show tBE c.X scope elt _ H3 _
      intro s0 H0 C0 cl0 fp0
      refine hel hp (sepM [lstM D (l.map fun x : α × Addr => Sl.r (.ref x.2)), famM (fun x : α × Addr => M x.1 x.2) l]) s0 H0 C0 cl0 fp0 hso _ H3 G3 _ (eEnv.stp t3) (sep_fold.mpr o3) xok_blk fun w H4 G4 s4 r4 t4 h4 o4 k4 => ?_
      obtain ⟨q, rfl, en⟩ := k4
      have ew : w = .ref q := h4
      subst ew
      obtain ⟨G5, l5, o5⟩ := en G4 H4 o4
      have o5 := sep_fold.mp o5
      obtain ⟨acc, hpD, al, gp, ch⟩ := lst_at (.zero (A := lstM D (l.map fun x : α × Addr => Sl.r (.ref x.2)))) o5
      have hla : acc.length = l.length := by
        have := al.length
        rwa [List.length_map] at this
      have hll : l.length ≤ xs.length := by
        have := congrArg List.length hl
        rw [List.length_map] at this
        have l2 : ((xs.take i).filter p).length ≤ (xs.take i).length := List.length_filter_le _ _
        rw [List.length_take] at l2
        omega
      refine ⟨acc, hpD, Nat.lt_of_le_of_lt (Nat.le_trans (by omega) hlen) (by decide), ?_⟩
      obtain ⟨t6, o6⟩ := ch (acc ++ [.ref q]) ((l.map fun x : α × Addr => Sl.r (.ref x.2)) ++ [Sl.r (.ref q)]) (al.append (ws := [.ref q]) (ts := [Sl.r (.ref q)]) ⟨rfl, trivial⟩)
      refine ⟨G5, l ++ [(xs[i], q)], by rw [List.map_append, hl, tk, List.filter_append, List.filter_cons, if_pos hp]; rfl, (((t2.trans t3).trans t4).trans (Stp.less l5)).trans t6, ?_⟩
      rw [List.map_append]
      exact (SE.cons (SE.trans .swap (se_add (f := fun x : α × Addr => M x.1 x.2) (y := (xs[i], q))))) _ _ _ o6
  · have hi : i = xs.length := by omega
    subst hi
    rw [List.take_length] at hl
    refine .inl ⟨jk.2 (by simp), ?_⟩
    refine hq (.ref D) H' G' (.r (.ref D)) _ (t1.trans t2) rfl ?_ (kend D)
    obtain ⟨F1, F2, h1, ⟨F3, F4, h3, h4, d2, e2⟩, d, e⟩ := o2
    refine ⟨fun a => F1 a ∨ F3 a, F4, ⟨⟨l, hl⟩, F1, F3, h1, ⟨F3, fun _ => False, h3, fun _ z => z, fun _ _ z => z, fun _ => ⟨.inl, fun z => z.elim id False.elim⟩⟩, fun a f g => d a f ((e2 a).mpr (.inl g)), fun _ => Iff.rfl⟩, h4, fun a z y => ?_, fun a => ?_⟩
    · rcases z with z | z
      · exact d a z ((e2 a).mpr (.inr y))
      · exact d2 a z y
    · rw [e a, e2 a, or_assoc]
theorem dx_lc1M {elt t : Expr} {scope : Scope} {j : Nat} {K : Sl → List Mem → Prop} (hj : IxOf N₀ x j) (hok : BlkOk N₀ sc₀ scope [(x, j)])
    (h : DI c (.Name x p2) it ρ rs fun items keep r => ∃ (α : Type) (xs : List α) (enc : α → Sl) (p : α → Bool) (M : α → Addr → Mem), items = xs.map enc ∧ (∀ A : Mem, ∀ B : Mem, keep (A :: B :: r)) ∧ xs.length ≤ 100000 ∧
      (∃ ρw, SetS N₀ ρ x j .un ρw ∧ ∀ y ∈ xs, ∃ ρ2, SetS N₀ ρw x j (enc y) ρ2 ∧ TsD c scope t ρ2 r (p y) ∧ (p y = true → ElM c scope elt ρ2 r (M y))) ∧ ∀ D, K (.r (.ref D)) (colM D M (xs.filter p) :: r))
    (hso : ScOk (relS scope sc₀) := by decide +kernel) (hcm : cm₀ = true := by rfl) (hl : scope.names.lookup x = some .local := by rfl) (hr : (relS scope sc₀).names.lookup x = some .local := by rfl) (hf : ∀ y, foldedSetIterable it c.X.env y = pure y := by intro _; rfl) : DX c (.ListComp elt [⟨.Name x p2, it, [t], 0⟩] scope pos) ρ rs K := by
  intro σ H G Q he hs hx hq
  have nd : c.X.N.Nodup := by rw [c.hN]; exact c.nd
  have hi : c.X.N[j]? = some x := by rw [c.hN]; exact hj.get
  refine tE_of (pe_lc (own := [(x, j)]) (g := gName j) (tt := tBT c.X scope t) (te := tBE c.X scope elt) (c.calm hcm) nd pi_t (by rw [c.hN, c.hsc]; exact hok) (fun s H C cl fp => pg_name nd hi (.inl (by show (relS scope c.X.env.scope).names.lookup x = _; rw [c.hsc]; exact hr)) (.inr (by show (relS scope c.X.env.scope).names.lookup x = _; rw [c.hsc]; exact hr))) (fun s H C cl fp => pts_one (pt_b s H C cl fp)) (fun s H C cl fp => pe_b s H C cl fp) hf) ?_
  refine lc_runM1 (K := K) hso hj ?_ he hs hx hq
  refine fun σ H G R a b d k => h σ H G R a b d fun J H' G' items keep rs' t o jo q => k J H' G' items keep rs' t o jo ?_
  obtain ⟨α, xs, enc, p, M, e1, e2, e3, ⟨ρw, w1, w2⟩, e5⟩ := q
  refine ⟨α, xs, enc, p, M, e1, e2, e3, ⟨ρw, w1, fun y hy => ?_⟩, e5⟩
  obtain ⟨ρ2, s1, s2, s3⟩ := w2 y hy
  refine ⟨ρ2, s1, s3, fun A B σ H G Q ee o2 hq => ?_⟩
  intro s0 H0 C0 cl0 fp0
  refine s2 (sepM [A, B]) s0 H0 C0 cl0 fp0 hso σ H G _ ee (sep_fold.mpr o2) xok_blk fun k H1 G1 r1 t1 o1 k1 => ?_
  obtain ⟨rfl, rfl⟩ := k1
  exact hq H1 G1 t1 (sep_fold.mp o1)
end
end PW

set_option maxHeartbeats 1000000
/-! A comprehension whose element may let an error out. -/
namespace L2
open PySem PySem.Spec PyProof.Rows
/-- what is asked behind the block; an error goes on at the frame fr -/
def compPostX (M : Model) (A : Around) (E : Value → Shared → Prop) (use : Option (Value → Sem Unit)) (Q : Value → Shared → Prop) (acc : Value) (C : Addr) (fr : Option Addr) (r : Result) (s' : Shared) : Prop :=
  match r with
  | .ok _ => compPost M A E use Q acc C r s'
  | .error x => ∃ m, s'.heap.Ns C m ∧ ∀ h', Heap.SameBut C s'.heap h' → ∀ cenv : Env, cenv.frame = fr → wpAny M A (passOn "comprehension.variables-let-go" x cenv : Sem Value) (fun _ _ => False) E { s' with heap := h' }

section
variable {M : Model} {A : Around} {E : Value → Shared → Prop} {s : Shared} {env : Env}
theorem comp_freeX {e : Expr} {scope : Scope} {pos : Pos} {newAcc first : Sem Value} {g : Comprehension} {gs : List Comprehension} {cl : List (Str × Addr)} {use : Option (Value → Sem Unit)}
    {Q : Value → Shared → Prop}
    (hcl : clausesOf e = g :: gs) (hs : ∀ x, foldedSetIterable g.iter env x = pure x) (hclos : closureFor scope env = pure cl)
    (hkind : scope.kind = .function) (hnames : ∀ x ∈ scope.names, x.2 = .local → scope.names.lookup x.1 = some .local)
    (h : wpAny M A first (fun x s₁ => wpAny M A (pyIter x) (fun it s₂ => wpAny M A newAcc (fun acc s₃ =>
      wpAny M A (newFunctionEnv scope env.globals cl [] env.qual none .none (some env)) (fun cenv s₄ =>
        codeAny M A (.compStart e 0 it acc { cenv with scope := relabel scope env }) (compPostX M A E use Q acc cenv.locals cenv.frame) s₄) E s₃) E s₂) E s₁) E s) :
    wpAny M A (comprehension e scope env pos newAcc false first use) Q E s := by
  unfold comprehension
  rw [hclos, hcl]
  refine wpAny_bind (wpAny_mono h (fun x s₁ h₁ => wpAny_bind (wpAny_standAt (wpAny_bind (wpAny_of_eq (hs x) (wpAny_bind (wpAny_holding (wpAny_mono h₁ (fun it s₂ h₂ =>
    wpAny_standIf (wpAny_bind (wpAny_mono h₂ (fun acc s₃ h₃ => wpAny_bind (wpAny_pure (wpAny_bind (wpAny_mono h₃ (fun cenv s₄ h₄ => ?_) fun _ _ h' => h')))) fun _ _ h' => h')))
      fun _ _ h' => h'))))))) fun _ _ h' => h')
  dsimp only
  have hv : ∀ x ∈ (scope.names.filter fun x => (x.2 == .local || x.2 == .cell) && x.1 != (".0" : Str)).reverse, x.2 = .local →
      Env.kindOf { cenv with scope := relabel scope env } x.1 = some .local := fun x hx hl => lookup_relabel_local (hnames x (List.mem_filter.mp (List.mem_reverse.mp hx)).1 hl)
  have hv' : ∀ x ∈ (scope.names.filter fun x => (x.2 == .local || x.2 == .cell) && x.1 != (".0" : Str)).reverse.drop 1 ++ (scope.names.filter fun x => (x.2 == .local || x.2 == .cell) && x.1 != (".0" : Str)).reverse.take 1,
      x.2 = .local → Env.kindOf { cenv with scope := relabel scope env } x.1 = some .local := fun x hx hl => by
    rcases List.mem_append.mp hx with h1 | h1
    · exact hv x (List.mem_of_mem_drop h1) hl
    · exact hv x (List.mem_of_mem_take h1) hl
  refine wpAny_holding (wpAny_bind (wpAny_attempt (wpAny_holding (wpAny_run (codeAny_mono h₄ fun r s' hr => ?_)))))
  cases r with
  | ok f =>
    cases use with
    | none =>
      obtain ⟨m, hn, hr⟩ := hr
      exact wpAny_bind (wpAny_holding (wpAny_comp_letGo (cenv := { cenv with scope := relabel scope env }) hkind _ s' m hv hn fun h' m' _ hs' => wpAny_pure (hr h' hs')))
    | some u =>
      refine wpAny_bind (wpAny_rule (wpAny_bind (wpAny_holding (wpAny_mono hr (fun _ s'' hr' => ?_) fun _ _ h' => h'))))
      obtain ⟨m, hn, hr'⟩ := hr'
      exact wpAny_bind (wpAny_comp_letGo (cenv := { cenv with scope := relabel scope env }) hkind _ s'' m hv' hn fun h' m' _ hs' => wpAny_pure (hr' h' hs'))
  | error x =>
    obtain ⟨m, hn, hr⟩ := hr
    exact wpAny_bind (wpAny_holding (wpAny_comp_letGo (cenv := { cenv with scope := relabel scope env }) hkind _ s' m hv hn fun h' m' _ hs' => wpAny_mono (hr h' hs' _ rfl) (fun _ _ f => f.elim) fun _ _ y => y))
theorem note_env {env' : Env} {u : Value} (h : env'.frame = env.frame) : noteFrame u env' = noteFrame u env := by
  unfold noteFrame PySem.frameOf
  rw [h]
/-- noted by a frame, whatever it was ahead -/
theorem Sky.note {outer : List Env} {B : Heap} {a L L1 : Addr} {Z : Obj → Prop} {Q : Unit → Shared → Prop} (hZ : HandSPX.Steady Z) (hfr : A.frames = some (env :: outer)) (hf : env.frame = some L) (hne : L1 ≠ L)
    (x : Sky B (env :: outer) a Z L1 s.heap) (hQ : ∀ h', HandSPX.HeldZ B (env :: outer) a Z L h' → s.heap.UpToSlots h' → Q () { s with heap := h' }) : wpAny M A (noteFrame (.ref a) env) Q E s := by
  rcases x with ⟨hB, hn, hl, oe, vs, he, hz, hd, h1⟩ | fl | hh
  · exact HandSPX.look_newZ hZ hfr hl hf he hB hn hd h1 hz hQ
  · exact HandSPX.looks_onZ hZ hfr hf fl hQ
  · obtain ⟨hkb, hen, hl, oe, vs, T, oT, ts, he, hz, hd, h1, hnT, hTe, hT, hdT, h3⟩ := hh
    unfold noteFrame
    simp only [hf]
    refine wpAny_bind (wpAny_field he hd h1 ?_)
    rw [if_pos (show (Value.ref T != Value.none) = true from by simp)]
    refine wpAny_bind (wpAny_field hT hdT h3 ?_)
    rw [if_neg (show ¬ ((rawInt L1 == rawInt L) = true) from by simp [rawInt]; exact fun q => hne (Int.ofNat.inj q))]
    refine wpAny_bind (wpAny_setField hT hdT (Array.getElem?_eq_some_iff.mp h3).1 ?_)
    have other : ∀ b, b ≠ T → (s.heap.update T (Obj.mapFields (·.setIfInBounds 3 Value.none))).get? b = s.heap.get? b := fun b hb => Heap.get?_update_other _ _ (Ne.symm hb)
    have noRecord : ∀ b o, s.heap.get? b = some o → (∀ vs, o.data ≠ .fields vs) → b ≠ T := fun b o hb hnf q => by
      rw [q, hT] at hb; injection hb with hb; subst hb; exact hnf ts hdT
    refine HandSPX.wpAny_entryZ hZ hfr (hl.of_keeps fun b o hb hnf => ⟨o, (other b (noRecord b o hb hnf)).trans hb, rfl⟩) hf ((other a (Ne.symm hTe)).trans he)
      (fun b o hbo => (other b fun q => by rw [q, hnT] at hbo; cases hbo).trans (hkb b o hbo)) hen hd (Array.getElem?_eq_some_iff.mp h1).1 hz fun h' hN => ?_
    obtain ⟨x1, x2, x3, x4⟩ := hN
    exact hQ h' ⟨x1, hen, x2, x3⟩ fun b o hb hnf => x4 b o ((other b (noRecord b o hb hnf)).trans hb) hnf
end
/-- the held exception, C aside -/
theorem held_but {B h h' : Heap} {l : List Env} {a C L : Addr} {Z : Obj → Prop} (x : HandSPX.HeldZ B l a Z L h) (hC : ∃ o, h.get? C = some o ∧ ∀ vs, o.data ≠ .fields vs) (hl : ∀ env ∈ l, env.frame ≠ some C) (sb : Heap.SameBut C h h') : HandSPX.HeldZ (PySem.W.hideAll B [C]) l a Z L h' := by
  obtain ⟨hkb, hen, hf, oe, vs, T, oT, ts, he, hz, hd, h1, hnT, hTe, hT, hdT, h3⟩ := x
  obtain ⟨oC, eC, nC⟩ := hC
  have na : a ≠ C := fun q => by rw [q, eC] at he; cases he; exact nC vs hd
  have nT : T ≠ C := fun q => by rw [q, eC] at hT; cases hT; exact nC ts hdT
  have hid : ∀ {b : Addr}, B.get? b = none → (PySem.W.hideAll B [C]).get? b = none := fun {b} e => by
    cases q : (PySem.W.hideAll B [C]).get? b with
    | none => rfl
    | some o =>
      have z := PySem.W.of_hideAll _ q
      rw [e] at z; cases z
  refine ⟨fun b o e => ?_, hid hen, ?_, oe, vs, T, oT, ts, (sb.2 a na).trans he, hz, hd, h1, hid hnT, hTe, (sb.2 T nT).trans hT, hdT, h3⟩
  · have nb : b ≠ C := fun q => by rw [q, PySem.W.hideAll_none _ (by simp)] at e; cases e
    exact (sb.2 b nb).trans (hkb b o (PySem.W.of_hideAll _ e))
  · clear hkb hen he hT
    induction l with
    | nil => trivial
    | cons env rest ih =>
      obtain ⟨hk, ⟨L', o, hf', hn, ho, hd'⟩, hr⟩ := hf
      refine ⟨hk, ⟨L', o, hf', hid hn, (sb.2 L' fun q => hl env List.mem_cons_self (q ▸ hf')).trans ho, hd'⟩, ih (fun env' h' => hl env' (List.mem_cons_of_mem _ h')) hr⟩
section
variable {X : Cx}
abbrev Cx.blkX (X : Cx) (s : Shared) (H : Hp) (scope : Scope) (cenv : Env) (fp : List Addr) (xe : Value → Shared → Prop) : Cx := (X.blk s H scope cenv fp).wish xe
theorem lc_coreX {Wx : WX} {pins : List (Addr × Obj)} {s : Shared} {σ : St} {H : Hp} {Q : VK} {elt tg iter : Expr} {ifs : List Expr} {scope : Scope} {own : List (Str × Nat)} {pos pos' : Pos} {wi : TI} {g : TG} {tt : TT} {te : TE} {use : Option (Value → Sem Unit)} {Qf : Value → Shared → Prop}
    (hst : X.stack = X.env :: X.outer) (hfm : X.env.frame = some X.env.locals) (tk : Takes X Wx) (hc : X.calm = true) (hN : X.N.Nodup) (I : Inv X pins σ H s) (hi : PI X tg iter wi) (ok : BlkOk X.N X.env.scope scope own)
    (hg : ∀ (s : Shared) (H : Hp) (C : Addr) (cl : List (Str × Addr)) (fp : List Addr), PG (X.blk s H scope (compEnvC scope cl C X.env) fp) tg g) (ht : ∀ (s : Shared) (H : Hp) (C : Addr) (cl : List (Str × Addr)) (fp : List Addr), PTs (X.blk s H scope (compEnvC scope cl C X.env) fp) ifs tt)
    (he : ∀ (s : Shared) (H : Hp) (C : Addr) (cl : List (Str × Addr)) (fp : List Addr) (xe : Value → Shared → Prop), Takes (X.blkX s H scope (compEnvC scope cl C X.env) fp xe) (fun cls d _ H' => Wx cls d σ H') → PassesOwn (model X.prog X.w) X.A (compEnvC scope cl C X.env) xe → PE (X.blkX s H scope (compEnvC scope cl C X.env) fp xe) elt te) (hs : ∀ x, foldedSetIterable iter X.env x = pure x)
    (h : tLc wi g tt te (own.map (·.2)) σ H Q)
    (hRR : ∀ D C s' m H', Inv X pins σ H' s' → Q (.ref D) H' → s'.heap.Ns C m → FpOk X pins H' C → compPost (model X.prog X.w) X.A X.xe use Qf (.ref D) C (.ok .next) s') :
    wpAny (model X.prog X.w) X.A (comprehension (.ListComp elt [⟨tg, iter, ifs, 0⟩] scope pos) scope X.env pos' (newList []) false (eval iter X.env) use) Qf X.xe s := by
  have hfree : ∀ y ∈ scope.names, y.2 = .free → ∃ c, X.env.cells.lookup y.1 = some c := fun y hy e => by
    rcases ok.free y hy e with k | k
    · exact I.ok.has _ (.inl k)
    · exact I.ok.has _ (.inr k)
  refine comp_freeX (use := use) rfl hs (closure_ok hfree) ok.kind (fun y hy e => by rw [ok.uniq y hy, e])
    (thn (hi.run pins s σ H _ I h) fun xv s1 hx => thn hx fun itv s2 h2 => ?_)
  obtain ⟨it, fp, tn, J, H2, e, I2, T, st2, f2, q⟩ := h2
  subst e
  refine wpAny_newObj_type (newEnv_comp ?_) (by show 0 ≤ sizeLine; decide)
  generalize hD : s2.heap.objs.size = D
  have hDn : H2 D = none := I2.hok.fresh (Nat.le_of_eq hD)
  obtain ⟨W, ⟨m0, w0⟩, turn⟩ := q D hDn
  -- the new list
  generalize hs3 : ({ s2 with heap := s2.heap.push { cls := .type "list", data := .seq ([] : List Value).toArray } } : Shared) = s3
  have I3 : Inv X pins σ (upd H2 D (.lst [])) s3 := by
    rw [← hs3]
    refine I2.laid (t' := s2.toks) (fun b o e => Heap.get?_push_of_some _ e) (Nat.le_of_eq hD) ⟨Nat.zero_le _, [], 0, .nil, ?_⟩
    rw [← hD]
    exact Heap.get?_push_size _ rfl
  have h3 : s3.heap = s2.heap.push { cls := .type "list", data := .seq ([] : List Value).toArray } := by rw [← hs3]
  have sz : ∀ b ∈ fp, b < s2.heap.objs.size := fun b hb => by
    obtain ⟨o, e, _⟩ := T.obj _ _ st2 b hb
    exact Heap.lt_size e
  have f3 : ∀ b ∈ fp, FpOk X pins (upd H2 D (.lst [])) b ∧ b < s3.heap.objs.size := fun b hb => by
    have hlt := sz b hb
    refine ⟨⟨?_, (f2 b hb).2⟩, by rw [h3, Heap.size_push]; exact Nat.lt_succ_of_lt hlt⟩
    rw [upd_ne (by rw [← hD]; exact Nat.ne_of_lt hlt)]
    exact (f2 b hb).1
  have st3 : tn 0 s3.heap := T.keep _ _ _ st2 fun b _ o e => by rw [h3]; exact Heap.get?_push_of_some _ e
  have I4 := block_start I3 ok hN f3
  have pg := hg s3 (upd H2 D (.lst [])) s3.heap.objs.size (cellsFrom (s3.heap.objs.size + 1) scope.names (cloFrom X.env.cells scope.names [])) fp
  have pt := ht s3 (upd H2 D (.lst [])) s3.heap.objs.size (cellsFrom (s3.heap.objs.size + 1) scope.names (cloFrom X.env.cells scope.names [])) fp
  have pe := he s3 (upd H2 D (.lst [])) s3.heap.objs.size (cellsFrom (s3.heap.objs.size + 1) scope.names (cloFrom X.env.cells scope.names [])) fp
  have cF : (compEnvC scope (cellsFrom (s3.heap.objs.size + 1) scope.names (cloFrom X.env.cells scope.names [])) s3.heap.objs.size X.env).frame = X.env.frame := rfl
  show codeAny _ _ (.compStart (.ListComp elt [⟨tg, iter, ifs, 0⟩] scope pos) 0 (.ref it) (.ref D) (compEnvC scope (cellsFrom (s3.heap.objs.size + 1) scope.names (cloFrom X.env.cells scope.names [])) s3.heap.objs.size X.env)) (compPostX (model X.prog X.w) X.A X.xe use Qf (.ref D) s3.heap.objs.size X.env.frame) { s3 with heap := pushCells (s3.heap.push { cls := .type "dict", data := .dict #[] }) scope.names }
  have nfp : ∀ b ∈ fp, (upd H2 D (.lst [])) b = none := fun b hb => (f3 b hb).1.1
  generalize hce : compEnvC scope (cellsFrom (s3.heap.objs.size + 1) scope.names (cloFrom X.env.cells scope.names [])) s3.heap.objs.size X.env = ce at I4 pg pt pe cF ⊢
  have cL : ce.locals = s3.heap.objs.size := by subst hce; rfl
  generalize hH3 : upd H2 D (.lst []) = H3 at I3 I4 pg pt pe w0 nfp f3
  generalize hs4 : ({ s3 with heap := pushCells (s3.heap.push { cls := .type "dict", data := .dict #[] }) scope.names } : Shared) = s4 at I4 ⊢
  have st4 : tn 0 s4.heap := T.keep _ _ _ st3 fun b _ o e => by rw [← hs4]; exact pushCells_keeps _ _ _ _ (Heap.get?_push_of_some _ e)
  have stat : ∀ {σ' : St} {H' : Hp} {s' : Shared}, Inv (X.blk s3 H3 scope ce fp) [] σ' H' s' → (∀ b ∈ fp, H' b = none) → ∀ b ∈ fp, FpOk (X.blk s3 H3 scope ce fp) [] H' b := fun {σ' H' s'} I' hn b hb =>
    ⟨hn b hb, (I'.ok.exf b hb).1, I'.ok.exfs b hb, .inl hb, fun x c e => (I'.ok.exf b hb).2 x c e, fun p hp => absurd (show p ∈ ([] : List (Addr × Obj)) ++ [] from hp) (by simp)⟩
  have tkB : Takes (X.blkX s3 H3 scope ce fp (notedBy (model X.prog X.w) X.A ce fun e s' => compPostX (model X.prog X.w) X.A X.xe use Qf (.ref D) s3.heap.objs.size X.env.frame (.error e) s')) (fun cls d _ H' => Wx cls d σ H') := by
    rintro u s' ⟨a, B, sI, pins', σ', H', cls, d, rfl, IB, nb, up, sky, na, os, ag, w⟩
    show wpAny _ X.A (noteFrame (.ref a) ce) _ _ s'
    rw [note_env cF]
    have ok' := IB.unwish
    have hfr : X.A.frames = some (X.env :: X.outer) := by rw [I.ok.frames, hst]
    have nC : H' s3.heap.objs.size = none := by
      have z : H' ce.locals = none := IB.free
      rw [cL] at z
      exact z
    have I7 : Inv X pins σ H' sI := I3.call' (ch := fp) IB.os IB.base IB.hok IB.bare fun b hb => ⟨(f3 b hb).1.2.2.2.1, (f3 b hb).1.2.1, (f3 b hb).1.2.2.2.2.1, (f3 b hb).1.2.2.2.2.2⟩
    have fC : FpOk X pins H' s3.heap.objs.size := I3.fpOk (Nat.le_refl _) nC
    obtain ⟨g0, g1, g2, g3, g4, g5⟩ := fC
    have nl : ce.locals ≠ X.env.locals := by rw [cL]; exact g1
    have sky : Sky B X.stack a (Zc cls d) ce.locals s'.heap := sky
    rw [hst] at sky
    refine Sky.note Zc.steady hfr hfm nl sky fun h1 hh up1 => ?_
    obtain ⟨m, hn, _⟩ := IB.loc
    have hn : sI.heap.Ns ce.locals m := hn
    rw [cL] at hn
    have upC : ∃ o, h1.get? s3.heap.objs.size = some o ∧ (∀ vs, o.data ≠ .fields vs) ∧ h1.Ns s3.heap.objs.size m := by
      obtain ⟨o, es, ep, ho, ed, q⟩ := id hn
      have nf : ∀ vs, o.data ≠ .fields vs := fun vs z => by rw [ed] at z; cases z
      obtain ⟨sl, e1⟩ := up _ o ho nf
      obtain ⟨sl2, e2⟩ := up1 _ _ e1 nf
      exact ⟨_, e2, nf, _, es, ep, e2, ed, q⟩
    obtain ⟨oC, eC, nfC, nsC⟩ := upC
    refine ⟨m, nsC, fun h2 sb cenv ef => ?_⟩
    have hfs : ∀ env' ∈ X.env :: X.outer, env'.frame ≠ some s3.heap.objs.size := fun env' h' q => by
      have hm : s3.heap.objs.size ∈ frs (X.env :: X.outer) := List.mem_filterMap.mpr ⟨env', h', q⟩
      rw [← hst] at hm
      rcases List.mem_cons.mp (I.stkSub _ hm) with z | z
      · exact g1 z
      · exact g2 z
    have hh2 := held_but hh ⟨oC, eC, nfC⟩ hfs sb
    obtain ⟨k1, k2, k3, oe, vs, T, oT, ts', he', hz, hd, h1', hr⟩ := id hh2
    unfold PySem.passOn
    refine wpAny_bind (wpAny_field he' hd h1' ?_)
    rw [if_neg (show ¬ ((Value.ref T == Value.none) = true) from by simp)]
    have J := I7.turned (h' := PySem.W.hideAll sI.heap [s3.heap.objs.size]) (t' := sI.toks) (it := s3.heap.objs.size) (fun b o hb e => PySem.W.hideAll_get _ e (by simpa using hb)) g0 g1 g3 g4 g5
    have fin : wpAny (model X.prog X.w) X.A (setFlight (.ref a) cenv.frame) (fun _ s4 => wpAny (model X.prog X.w) X.A (throw (.ref a) : Sem Value) (fun _ _ => False) X.xe s4) X.xe { s' with heap := h2 } := by
      rw [ef, hfm]
      refine HandSPX.setFlight_onZ hh2 fun h4 hh4 up4 => wpAny_throw (tk _ _ ?_)
      refine ⟨a, PySem.W.hideAll B [s3.heap.objs.size], _, pins, σ, H', cls, d, rfl, J, fun b o e hb => ?_, fun b o e hnf => ?_, .inr (.inr (by rw [hst]; exact hh4)), na, os, ag, w⟩
      · have nb' : b ≠ s3.heap.objs.size := fun q => by rw [q, PySem.W.hideAll_none _ (by simp)] at e; cases e
        exact PySem.W.hideAll_get _ (nb b o (PySem.W.of_hideAll _ e) hb) (by simpa using nb')
      · have nb' : b ≠ s3.heap.objs.size := fun q => by rw [q, PySem.W.hideAll_none _ (by simp)] at e; cases e
        obtain ⟨sl1, e1⟩ := up b o (PySem.W.of_hideAll _ e) hnf
        obtain ⟨sl2, e2⟩ := up1 b _ e1 hnf
        have e3 := (sb.2 b nb').trans e2
        obtain ⟨sl4, e4⟩ := up4 b _ e3 hnf
        exact ⟨sl4, e4⟩
    first
      | exact wpAny_bind (wpAny_pure (wpAny_bind fin))
      | exact wpAny_bind fin
  have pe := pe _ tkB PassesOwn.looking
  have loop : codeAny (model X.prog X.w) X.A (.compLoop (.ListComp elt [⟨tg, iter, ifs, 0⟩] scope pos) 0 (.ref it) (.ref D) ce) (compPostX (model X.prog X.w) X.A X.xe use Qf (.ref D) s3.heap.objs.size X.env.frame) s4 := by
    refine compLoop_any (fun n s' => ∃ i H', Inv (X.blk s3 H3 scope ce fp) [] (wipe σ (own.map (·.2))) H' s' ∧ tn i s'.heap ∧ (∀ b ∈ fp, H' b = none) ∧ W i n H') ?_ m0 ⟨0, H3, I4, st4, nfp, w0⟩
    rintro n s5 ⟨i, H5, I5, st5, n5, w5⟩
    rcases turn i n H5 w5 with ⟨stop, qq⟩ | ⟨go, Nx, hNx, step⟩
    · have td := T.done (X.blk s3 H3 scope ce fp) rfl rfl rfl hc i [] s5 _ H5 (fun _ _ => False) I5 (stat I5 n5) st5 stop
      refine thnF td fun r s6 ⟨hr, I6⟩ => ?_
      subst hr
      -- back in the def's context
      have I7 : Inv X pins σ H5 s6 := I3.call' (ch := fp) I6.os I6.base I6.hok I6.bare fun b hb => ⟨(f3 b hb).1.2.2.2.1, (f3 b hb).1.2.1, (f3 b hb).1.2.2.2.2.1, (f3 b hb).1.2.2.2.2.2⟩
      have nC : H5 s3.heap.objs.size = none := by
        have z : H5 ce.locals = none := I6.free
        rw [cL] at z
        exact z
      obtain ⟨m, hn, _⟩ := I6.loc
      have hn : s6.heap.Ns ce.locals m := hn
      rw [cL] at hn
      exact hRR D s3.heap.objs.size s6 m H5 I7 qq hn (I3.fpOk (Nat.le_refl _) nC)
    · have ti := T.item (X.blk s3 H3 scope ce fp) rfl rfl rfl hc i [] s5 _ H5 (fun _ _ => False) I5 (stat I5 n5) st5 go
      refine thnF ti fun r s6 ⟨u, hr, h6⟩ => ?_
      subst hr
      refine thnF h6 fun _ s7 ⟨x, H7, I7, r7, y7, st7, n7⟩ => ?_
      have I7' := I7.pinned (stat I7 n7) (T.obj _ _ st7)
      refine thnF (pg.run _ s7 _ H7 x u _ I7' r7 (step x H7 y7)) fun _ s8 ⟨σ8, H8, I8, hw8, q8⟩ => ?_
      refine thnF (pt.run _ s8 σ8 H8 _ I8 q8) fun b s9 ⟨H9, I9, q9⟩ => ?_
      -- the turn's end
      have fin : ∀ {s' : Shared} {H' : Hp}, Inv (X.blk s3 H3 scope ce fp) ([] ++ pinsAt fp s7.heap) σ8 H' s' → Nx H' → ∃ m, m < n ∧ ∃ i H', Inv (X.blk s3 H3 scope ce fp) [] (wipe σ (own.map (·.2))) H' s' ∧ tn i s'.heap ∧ (∀ b ∈ fp, H' b = none) ∧ W i m H' := fun {s' H'} I' nx => by
        obtain ⟨m', hm, w'⟩ := hNx H' nx
        have pin' : ∀ b ∈ fp, ∀ o, s7.heap.get? b = some o → s'.heap.get? b = some o ∧ H' b = none := fun b hb o e =>
          let z := I'.pin (b, o) (List.mem_append_right _ (List.mem_append_right _ (mem_pinsAt hb e)))
          ⟨z.1, z.2.1⟩
        have hl : (wipe σ (own.map (·.2))).length = σ8.length := by rw [← hw8, wipe_length]
        refine ⟨m', hm, i + 1, H', (I'.unpinned (pins := [])).weak hl (fun j v e => ?_), T.keep _ _ _ st7 fun b hb o e => (pin' b hb o e).1, fun b hb => ?_, w'⟩
        · rw [← hw8] at e
          exact (wipe_some e).1
        · obtain ⟨o, e, _⟩ := T.obj _ _ st7 b hb
          exact (pin' b hb o e).2
      cases b with
      | false =>
        simp only [Bool.false_eq_true, if_false] at q9 ⊢
        exact fin I9 q9
      | true =>
        simp only [if_true] at q9 ⊢
        refine wpAny_mono (pe.run _ s9 σ8 H9 _ (I9.wish _) q9) (fun z s10 ⟨yv, H10, I10, r10, acc, hD10, hz10, nx⟩ => ?_) fun _ _ z => z
        exact app_ok (X := X.blk s3 H3 scope ce fp) I10.unwish hD10 hz10 r10 fun s11 I11 => fin I11 nx
  exact codeAny_compStart_list loop (T.self X.A 0 _ _ _ st4 loop)

/-- as a value -/
theorem pe_lcX {W : WX} {elt tg iter : Expr} {ifs : List Expr} {scope : Scope} {own : List (Str × Nat)} {pos : Pos} {wi : TI} {g : TG} {tt : TT} {te : L2.St → TE} (hst : X.stack = X.env :: X.outer) (hfm : X.env.frame = some X.env.locals) (tk : Takes X W) (hc : X.calm = true) (hN : X.N.Nodup) (hi : PI X tg iter wi) (ok : BlkOk X.N X.env.scope scope own)
    (hg : ∀ (s : Shared) (H : Hp) (C : Addr) (cl : List (Str × Addr)) (fp : List Addr), PG (X.blk s H scope (compEnvC scope cl C X.env) fp) tg g) (ht : ∀ (s : Shared) (H : Hp) (C : Addr) (cl : List (Str × Addr)) (fp : List Addr), PTs (X.blk s H scope (compEnvC scope cl C X.env) fp) ifs tt)
    (he : ∀ (σ : L2.St) (s : Shared) (H : Hp) (C : Addr) (cl : List (Str × Addr)) (fp : List Addr) (xe : Value → Shared → Prop), Takes (X.blkX s H scope (compEnvC scope cl C X.env) fp xe) (fun cls d _ H' => W cls d σ H') → PassesOwn (model X.prog X.w) X.A (compEnvC scope cl C X.env) xe → PE (X.blkX s H scope (compEnvC scope cl C X.env) fp xe) elt (te σ)) (hs : ∀ x, foldedSetIterable iter X.env x = pure x := by intro _; rfl) :
    PE X (.ListComp elt [⟨tg, iter, ifs, 0⟩] scope pos) (fun σ H Q => tLc wi g tt (te σ) (own.map (·.2)) σ H Q) := by
  refine ⟨fun pins s σ H Q I h => ?_⟩
  rw [eval_ListComp]
  refine lc_coreX hst hfm tk hc hN I hi ok hg ht (he σ) hs h fun D C s' m H' I' q hn f => ⟨m, hn, fun h'' sb => ?_⟩
  obtain ⟨f0, f1, f2, f3, f4, f5⟩ := f
  exact ⟨.ref D, H', I'.turned (t' := s'.toks) (fun b o hb e => (sb.2 b hb).trans e) f0 f1 f3 f4 f5, rfl, q⟩
end
end L2
namespace PW
open PySem L2
variable [KC]
variable {m₀ : Mo} {N₀ : List Str} {sc₀ : Scope} {lv₀ : Nat} {xp₀ : Addr → List Sl → List Mem → Prop} {fF₀ cm₀ : Bool}
def Ctx.blkX (c : Ctx m₀ N₀ sc₀ lv₀ xp₀ fF₀ cm₀) (scope : Scope) (s : Shared) (H : Hp) (C : Addr) (cl : List (Str × Addr)) (fp : List Addr) (hso : ScOk (relS scope sc₀)) (xe : Value → Shared → Prop) (W : WX) (xp : Addr → List Sl → List Mem → Prop)
    (tk : Takes (c.X.blkX s H scope (compEnvC scope cl C c.X.env) fp xe) W) (po : PassesOwn (model c.X.prog c.X.w) c.X.A (compEnvC scope cl C c.X.env) xe) : Ctx m₀ N₀ (relS scope sc₀) lv₀ xp false cm₀ where
  X := c.X.blkX s H scope (compEnvC scope cl C c.X.env) fp xe
  W := W
  hm := ⟨c.hm.P, c.hm.w, c.hm.K, c.hm.mg, c.hm.base⟩
  hK := c.hK
  bl := c.bl
  hN := c.hN
  nd := c.nd
  hsc := by
    show relS scope c.X.env.scope = _
    rw [c.hsc]
  sok := hso
  calm := c.calm
  room := c.room
  un := c.un
  fs := fun z => absurd z Bool.false_ne_true
  tk := tk
  fn := fun z => absurd z Bool.false_ne_true
  po := po
def tBEX (X : Cx) (scope : Scope) (e : Expr) (W : WX) : TE := fun σ H Q => ∀ s H0 C cl fp xe, Takes (X.blkX s H0 scope (compEnvC scope cl C X.env) fp xe) W → PassesOwn (model X.prog X.w) X.A (compEnvC scope cl C X.env) xe → tE (X.blkX s H0 scope (compEnvC scope cl C X.env) fp xe) e σ H Q
theorem pe_bX {X : Cx} {scope : Scope} {e : Expr} {W : WX} {s H C cl fp xe} (tk : Takes (X.blkX s H scope (compEnvC scope cl C X.env) fp xe) W) (po : PassesOwn (model X.prog X.w) X.A (compEnvC scope cl C X.env) xe) : PE (X.blkX s H scope (compEnvC scope cl C X.env) fp xe) e (tBEX X scope e W) := ⟨fun pins s1 _ _ _ I h => h s H C cl fp xe tk po pins s1 I⟩
/-- what an element that may raise asks: at its error the new list A' is let go, the slots are those ahead -/
def xpB (xp₀ : Addr → List Sl → List Mem → Prop) (ρ : List Sl) : Addr → List Sl → List Mem → Prop := fun D _ rs' => ∃ A' r', rs' = A' :: r' ∧ xp₀ D ρ r'
def ElDX (m₀ : Mo) (N₀ : List Str) (sc₀ : Scope) (lv₀ : Nat) (xp₀ : Addr → List Sl → List Mem → Prop) (cm₀ : Bool) (scope : Scope) (elt : Expr) (ρ ρ2 : List Sl) (rs : List Mem) (d : PyData) (good : Prop) : Prop :=
  ∀ (A : Mem) (c' : Ctx m₀ N₀ (relS scope sc₀) lv₀ (xpB xp₀ ρ) false cm₀), DX c' elt ρ2 (A :: rs) fun s r => s.plain = .d d ∧ r = A :: rs ∧ good
section
variable {c : Ctx m₀ N₀ sc₀ lv₀ xp₀ fF₀ cm₀} {ρ : List Sl} {rs : List Mem} {x : Str} {it : Expr} {p2 pos : Pos}
theorem lc_runX {elt : Expr} {scope : Scope} {j : Nat} {K : Sl → List Mem → Prop} (hso : ScOk (relS scope sc₀)) (hj : IxOf N₀ x j)
    (h : DI c (.Name x p2) it ρ rs fun items keep r => ∃ (α : Type) (xs : List α) (enc : α → Sl) (h : α → PyData) (good : α → Prop), items = xs.map enc ∧ (∀ A : Mem, keep (A :: r)) ∧ xs.length ≤ 100000 ∧
      (∃ ρw, SetS N₀ ρ x j .un ρw ∧ ∀ y ∈ xs, ∃ ρ2, SetS N₀ ρw x j (enc y) ρ2 ∧ ElDX m₀ N₀ sc₀ lv₀ xp₀ cm₀ scope elt ρ ρ2 r (h y) (good y)) ∧
      ((∀ y ∈ xs, good y) → K (.n (xs.map h)) r))
    {σ : L2.St} {H : Hp} {G : Fp} {Q : VK} (he : EnvOk G H σ ρ) (hs : sepL rs G G H) (hx : XOk c G H) (hq : ∀ v H' G' sl rs', Stp G G' H H' → Rs G' H H' v sl → sepL rs' G' G' H' → K sl rs' → Q v H') :
    tLc (tI c.X (.Name x p2) it) (gName j) tYes (tBEX c.X scope elt fun cls d _ H' => c.W cls d σ H') [j] σ H Q := by
  refine h σ H G _ he hs hx fun J H1 G1 items keep r1 t1 o1 jok k1 => ?_
  obtain ⟨α, xs, enc, hh, good, rfl, hk, hlen, ⟨ρw, hw, ht⟩, kend⟩ := k1
  intro D hD
  obtain ⟨tj, oj⟩ := sepL.join (A := lstM D []) (H' := upd H1 D (.lst [])) o1 (same_new hD) hD ⟨fun a => Iff.rfl, [], upd_same, trivial⟩
  refine ⟨fun i m H' => m = xs.length - i ∧ i ≤ xs.length ∧ (∀ y ∈ xs.take i, good y) ∧ ∃ G', Stp G1 G' H1 H' ∧ sepL (lstM D ((xs.take i).map (fun y => .d (hh y))) :: r1) G' G' H', ⟨_, rfl, Nat.zero_le _, (fun y hy => by cases hy), _, tj, oj⟩, ?_⟩
  rintro i m H' ⟨rfl, hle, hgd, G', t2, o2⟩
  have jk := jok G' H' _ t2 o2 (hk _) i
  by_cases hlt : i < xs.length
  · have hgo := jk.1 (by simpa using hlt)
    refine .inr ⟨hgo.1, fun H2 => (∀ y ∈ xs.take (i + 1), good y) ∧ ∃ G2, Stp G1 G2 H1 H2 ∧ sepL (lstM D ((xs.take (i + 1)).map (fun y => .d (hh y))) :: r1) G2 G2 H2, fun H2 ⟨g, G2, a, b⟩ => ⟨_, by omega, rfl, by omega, g, G2, a, b⟩, fun v H2 yl => ?_⟩
    obtain ⟨rfl, sl, hsl, hy⟩ := hgo.2 v H2 yl
    have hsl' : sl = enc xs[i] := by
      rw [List.getElem?_map, List.getElem?_eq_getElem hlt] at hsl
      exact (Option.some.inj hsl).symm
    subst hsl'
    obtain ⟨ρ2, hset, hel⟩ := ht xs[i] (List.getElem_mem hlt)
    have tk : xs.take (i + 1) = xs.take i ++ [xs[i]] := by simp
    have eEnv : EnvOk G' H2 ((wipe σ [j]).set j (some v)) ρ2 := hset.env hy (set_un hw ((he.stp t1).stp t2))
    refine ⟨?_, ?_⟩
    · show ((σ.set j none).set j (some v)).set j none = σ.set j none
      rw [List.set_set, List.set_set]
    show tBEX c.X scope elt _ _ H2 _
    intro s0 H0 C0 cl0 fp0 xe tkB poB
    refine hel (lstM D ((xs.take i).map (fun y => .d (hh y)))) (c.blkX scope s0 H0 C0 cl0 fp0 hso xe _ (xpB xp₀ ρ) tkB poB) _ H2 G' _ eEnv o2 (fun Dc σ3 H3 G3 ρ3 rs3 t3 e3 o3 k3 => ?_) fun w H4 G4 s4 r4 t4 h4 o4 k4 => ?_
    · obtain ⟨A', r', rfl, kx⟩ := k3
      obtain ⟨F1, G5, f1, dj, t5, o5⟩ := sepL.drop (Pick.zero) o3
      exact hx Dc σ H3 G5 ρ r' (((t1.trans t2).trans t3).trans t5) ((((he.stp t1).stp t2).stp t3).stp t5) o5 kx
    obtain ⟨e4, rfl, hg4⟩ := k4
    have hw4 : Is G4 H4 w (hh xs[i]) := plain_d e4 h4.ok
    obtain ⟨F1, F2, ⟨eF, acc, hD4, al⟩, oR, dj, eG⟩ := id o4
    have hle4 : acc.length ≤ xs.length := by
      have := al.length
      rw [List.length_map, List.length_take] at this
      omega
    refine ⟨acc, hD4, Nat.lt_of_le_of_lt (Nat.le_trans hle4 hlen) (by decide), fun y hy => ?_, G4, ?_, ?_⟩
    · rw [tk] at hy
      rcases List.mem_append.mp hy with q | q
      · exact hgd y q
      · rw [List.mem_singleton.mp q]; exact hg4
    · have t14 := t2.trans t4
      refine ⟨fun a o q n => ?_, t14.sub, fun a o q => ?_⟩
      · rw [upd_ne (ne_of_none q hD)]
        exact t14.keep a o q n
      · by_cases ea : a = D
        · subst ea; exact ⟨_, upd_same⟩
        · rw [upd_ne ea]; exact t14.old a o q
    · have kp : ∀ a o, H4 a = some o → ¬ F1 a → upd H4 D (.lst (acc ++ [w])) a = some o := fun a o q n => by
        rw [upd_ne fun z => n ((eF a).mpr z)]
        exact q
      have gD : G4 D := (eG D).mpr (.inl ((eF D).mpr rfl))
      have kG : ∀ a o, H4 a = some o → ¬ G4 a → upd H4 D (.lst (acc ++ [w])) a = some o := fun a o q n => kp a o q fun z => n ((eG a).mpr (.inl z))
      refine ⟨F1, F2, ⟨eF, acc ++ [w], upd_same, ?_⟩, sepL.step (fun a g => .inl g) oR (fun a o q z => kp a o q fun y => ?_), dj, eG⟩
      · rw [tk, List.map_append]
        exact (al.stp0 kG fun a g => .inl g).append ⟨hw4.stp0 kG fun a g => .inl g, trivial⟩
      · rcases z with z | z
        · exact dj a y z
        · exact z ((eG a).mpr (.inl y))
  · have hi : i = xs.length := by omega
    subst hi
    rw [List.take_length] at o2 hgd
    refine .inl ⟨jk.2 (by simp), ?_⟩
    obtain ⟨F1, G2, ⟨eF, acc, hD2, al⟩, dj, t3, o3⟩ := sepL.drop (Pick.zero) o2
    have al2 : SlAll G2 H' acc ((xs.map hh).map .d) := by
      rw [List.map_map]
      exact al.stp t3
    refine hq _ H' G2 (.n (xs.map hh)) r1 ((t1.trans t2).trans t3) ⟨D, acc, rfl, t1.fresh hD, fun g => dj D ((eF D).mpr rfl) g, hD2, al2.is⟩ o3 (kend hgd)
theorem dx_lcX {elt : Expr} {scope : Scope} {j : Nat} {K : Sl → List Mem → Prop} (hj : IxOf N₀ x j) (hok : BlkOk N₀ sc₀ scope [(x, j)])
    (h : DI c (.Name x p2) it ρ rs fun items keep r => ∃ (α : Type) (xs : List α) (enc : α → Sl) (h : α → PyData) (good : α → Prop), items = xs.map enc ∧ (∀ A : Mem, keep (A :: r)) ∧ xs.length ≤ 100000 ∧
      (∃ ρw, SetS N₀ ρ x j .un ρw ∧ ∀ y ∈ xs, ∃ ρ2, SetS N₀ ρw x j (enc y) ρ2 ∧ ElDX m₀ N₀ sc₀ lv₀ xp₀ cm₀ scope elt ρ ρ2 r (h y) (good y)) ∧ ((∀ y ∈ xs, good y) → K (.n (xs.map h)) r))
    (hF : fF₀ = true := by rfl) (hso : ScOk (relS scope sc₀) := by decide +kernel) (hcm : cm₀ = true := by rfl) (hl : scope.names.lookup x = some .local := by rfl) (hr : (relS scope sc₀).names.lookup x = some .local := by rfl) (hf : ∀ y, foldedSetIterable it c.X.env y = pure y := by intro _; rfl) : DX c (.ListComp elt [⟨.Name x p2, it, [], 0⟩] scope pos) ρ rs K := by
  intro σ H G Q he hs hx hq
  have nd : c.X.N.Nodup := by rw [c.hN]; exact c.nd
  have hi : c.X.N[j]? = some x := by rw [c.hN]; exact hj.get
  refine tE_of (pe_lcX (W := c.W) (own := [(x, j)]) (g := gName j) (tt := tYes) (te := fun σ => tBEX c.X scope elt fun cls d _ H' => c.W cls d σ H') (c.fs hF).1 (c.fs hF).2 c.tk (c.calm hcm) nd pi_t (by rw [c.hN, c.hsc]; exact hok) (fun s H C cl fp => pg_name nd hi (.inl (by show (relS scope c.X.env.scope).names.lookup x = _; rw [c.hsc]; exact hr)) (.inr (by show (relS scope c.X.env.scope).names.lookup x = _; rw [c.hsc]; exact hr))) (fun _ _ _ _ _ => pts_nil) (fun σ s H C cl fp xe tk po => pe_bX tk po) hf) ?_
  exact lc_runX (K := K) hso hj h he hs hx hq
theorem lc_runXO {elt : Expr} {scope : Scope} {j : Nat} {K : Sl → List Mem → Prop} (hso : ScOk (relS scope sc₀)) (hj : IxOf N₀ x j)
    (h : DI c (.Name x p2) it ρ rs fun items keep r => ∃ (α : Type) (xs : List α) (enc : α → Sl) (h : α → PyData) (good : α → Prop), items = xs.map enc ∧ (∀ A : Mem, keep (A :: r)) ∧ xs.length ≤ 100000 ∧
      (∃ ρw, SetS N₀ ρ x j .un ρw ∧ ∀ y ∈ xs, ∃ ρ2, SetS N₀ ρw x j (enc y) ρ2 ∧ ElDX m₀ N₀ sc₀ lv₀ xp₀ cm₀ scope elt ρ ρ2 r (h y) (good y)) ∧
      ((∀ y ∈ xs, good y) → ∀ q, K (.r (.ref q)) (lstM q (xs.map fun y => .d (h y)) :: r)))
    {σ : L2.St} {H : Hp} {G : Fp} {Q : VK} (he : EnvOk G H σ ρ) (hs : sepL rs G G H) (hx : XOk c G H) (hq : ∀ v H' G' sl rs', Stp G G' H H' → Rs G' H H' v sl → sepL rs' G' G' H' → K sl rs' → Q v H') :
    tLc (tI c.X (.Name x p2) it) (gName j) tYes (tBEX c.X scope elt fun cls d _ H' => c.W cls d σ H') [j] σ H Q := by
  refine h σ H G _ he hs hx fun J H1 G1 items keep r1 t1 o1 jok k1 => ?_
  obtain ⟨α, xs, enc, hh, good, rfl, hk, hlen, ⟨ρw, hw, ht⟩, kend⟩ := k1
  intro D hD
  obtain ⟨tj, oj⟩ := sepL.join (A := lstM D []) (H' := upd H1 D (.lst [])) o1 (same_new hD) hD ⟨fun a => Iff.rfl, [], upd_same, trivial⟩
  refine ⟨fun i m H' => m = xs.length - i ∧ i ≤ xs.length ∧ (∀ y ∈ xs.take i, good y) ∧ ∃ G', Stp G1 G' H1 H' ∧ sepL (lstM D ((xs.take i).map (fun y => .d (hh y))) :: r1) G' G' H', ⟨_, rfl, Nat.zero_le _, (fun y hy => by cases hy), _, tj, oj⟩, ?_⟩
  rintro i m H' ⟨rfl, hle, hgd, G', t2, o2⟩
  have jk := jok G' H' _ t2 o2 (hk _) i
  by_cases hlt : i < xs.length
  · have hgo := jk.1 (by simpa using hlt)
    refine .inr ⟨hgo.1, fun H2 => (∀ y ∈ xs.take (i + 1), good y) ∧ ∃ G2, Stp G1 G2 H1 H2 ∧ sepL (lstM D ((xs.take (i + 1)).map (fun y => .d (hh y))) :: r1) G2 G2 H2, fun H2 ⟨g, G2, a, b⟩ => ⟨_, by omega, rfl, by omega, g, G2, a, b⟩, fun v H2 yl => ?_⟩
    obtain ⟨rfl, sl, hsl, hy⟩ := hgo.2 v H2 yl
    have hsl' : sl = enc xs[i] := by
      rw [List.getElem?_map, List.getElem?_eq_getElem hlt] at hsl
      exact (Option.some.inj hsl).symm
    subst hsl'
    obtain ⟨ρ2, hset, hel⟩ := ht xs[i] (List.getElem_mem hlt)
    have tk : xs.take (i + 1) = xs.take i ++ [xs[i]] := by simp
    have eEnv : EnvOk G' H2 ((wipe σ [j]).set j (some v)) ρ2 := hset.env hy (set_un hw ((he.stp t1).stp t2))
    refine ⟨?_, ?_⟩
    · show ((σ.set j none).set j (some v)).set j none = σ.set j none
      rw [List.set_set, List.set_set]
    show tBEX c.X scope elt _ _ H2 _
    intro s0 H0 C0 cl0 fp0 xe tkB poB
    refine hel (lstM D ((xs.take i).map (fun y => .d (hh y)))) (c.blkX scope s0 H0 C0 cl0 fp0 hso xe _ (xpB xp₀ ρ) tkB poB) _ H2 G' _ eEnv o2 (fun Dc σ3 H3 G3 ρ3 rs3 t3 e3 o3 k3 => ?_) fun w H4 G4 s4 r4 t4 h4 o4 k4 => ?_
    · obtain ⟨A', r', rfl, kx⟩ := k3
      obtain ⟨F1, G5, f1, dj, t5, o5⟩ := sepL.drop (Pick.zero) o3
      exact hx Dc σ H3 G5 ρ r' (((t1.trans t2).trans t3).trans t5) ((((he.stp t1).stp t2).stp t3).stp t5) o5 kx
    obtain ⟨e4, rfl, hg4⟩ := k4
    have hw4 : Is G4 H4 w (hh xs[i]) := plain_d e4 h4.ok
    obtain ⟨F1, F2, ⟨eF, acc, hD4, al⟩, oR, dj, eG⟩ := id o4
    have hle4 : acc.length ≤ xs.length := by
      have := al.length
      rw [List.length_map, List.length_take] at this
      omega
    refine ⟨acc, hD4, Nat.lt_of_le_of_lt (Nat.le_trans hle4 hlen) (by decide), fun y hy => ?_, G4, ?_, ?_⟩
    · rw [tk] at hy
      rcases List.mem_append.mp hy with q | q
      · exact hgd y q
      · rw [List.mem_singleton.mp q]; exact hg4
    · have t14 := t2.trans t4
      refine ⟨fun a o q n => ?_, t14.sub, fun a o q => ?_⟩
      · rw [upd_ne (ne_of_none q hD)]
        exact t14.keep a o q n
      · by_cases ea : a = D
        · subst ea; exact ⟨_, upd_same⟩
        · rw [upd_ne ea]; exact t14.old a o q
    · have kp : ∀ a o, H4 a = some o → ¬ F1 a → upd H4 D (.lst (acc ++ [w])) a = some o := fun a o q n => by
        rw [upd_ne fun z => n ((eF a).mpr z)]
        exact q
      have gD : G4 D := (eG D).mpr (.inl ((eF D).mpr rfl))
      have kG : ∀ a o, H4 a = some o → ¬ G4 a → upd H4 D (.lst (acc ++ [w])) a = some o := fun a o q n => kp a o q fun z => n ((eG a).mpr (.inl z))
      refine ⟨F1, F2, ⟨eF, acc ++ [w], upd_same, ?_⟩, sepL.step (fun a g => .inl g) oR (fun a o q z => kp a o q fun y => ?_), dj, eG⟩
      · rw [tk, List.map_append]
        exact (al.stp0 kG fun a g => .inl g).append ⟨hw4.stp0 kG fun a g => .inl g, trivial⟩
      · rcases z with z | z
        · exact dj a y z
        · exact z ((eG a).mpr (.inl y))
  · have hi : i = xs.length := by omega
    subst hi
    rw [List.take_length] at o2 hgd
    refine .inl ⟨jk.2 (by simp), ?_⟩
    exact hq _ H' G' (.r (.ref D)) _ (t1.trans t2) rfl o2 (kend hgd D)
theorem dx_lcXO {elt : Expr} {scope : Scope} {j : Nat} {K : Sl → List Mem → Prop} (hj : IxOf N₀ x j) (hok : BlkOk N₀ sc₀ scope [(x, j)])
    (h : DI c (.Name x p2) it ρ rs fun items keep r => ∃ (α : Type) (xs : List α) (enc : α → Sl) (h : α → PyData) (good : α → Prop), items = xs.map enc ∧ (∀ A : Mem, keep (A :: r)) ∧ xs.length ≤ 100000 ∧
      (∃ ρw, SetS N₀ ρ x j .un ρw ∧ ∀ y ∈ xs, ∃ ρ2, SetS N₀ ρw x j (enc y) ρ2 ∧ ElDX m₀ N₀ sc₀ lv₀ xp₀ cm₀ scope elt ρ ρ2 r (h y) (good y)) ∧ ((∀ y ∈ xs, good y) → ∀ q, K (.r (.ref q)) (lstM q (xs.map fun y => .d (h y)) :: r)))
    (hF : fF₀ = true := by rfl) (hso : ScOk (relS scope sc₀) := by decide +kernel) (hcm : cm₀ = true := by rfl) (hl : scope.names.lookup x = some .local := by rfl) (hr : (relS scope sc₀).names.lookup x = some .local := by rfl) (hf : ∀ y, foldedSetIterable it c.X.env y = pure y := by intro _; rfl) : DX c (.ListComp elt [⟨.Name x p2, it, [], 0⟩] scope pos) ρ rs K := by
  intro σ H G Q he hs hx hq
  have nd : c.X.N.Nodup := by rw [c.hN]; exact c.nd
  have hi : c.X.N[j]? = some x := by rw [c.hN]; exact hj.get
  refine tE_of (pe_lcX (W := c.W) (own := [(x, j)]) (g := gName j) (tt := tYes) (te := fun σ => tBEX c.X scope elt fun cls d _ H' => c.W cls d σ H') (c.fs hF).1 (c.fs hF).2 c.tk (c.calm hcm) nd pi_t (by rw [c.hN, c.hsc]; exact hok) (fun s H C cl fp => pg_name nd hi (.inl (by show (relS scope c.X.env.scope).names.lookup x = _; rw [c.hsc]; exact hr)) (.inr (by show (relS scope c.X.env.scope).names.lookup x = _; rw [c.hsc]; exact hr))) (fun _ _ _ _ _ => pts_nil) (fun σ s H C cl fp xe tk po => pe_bX tk po) hf) ?_
  exact lc_runXO (K := K) hso hj h he hs hx hq
end
end PW

set_option maxHeartbeats 1000000
/-! tuple(list) and more. -/
namespace PW
open PySem L2
variable [KC]
variable {m₀ : Mo} {N₀ : List Str} {sc₀ : Scope} {lv₀ : Nat} {xp₀ : Addr → List Sl → List Mem → Prop} {fF₀ cm₀ : Bool}
section
variable {c : Ctx m₀ N₀ sc₀ lv₀ xp₀ fF₀ cm₀} {e a b : Expr} {es : List Expr} {ρ ρ' : List Sl} {rs : List Mem} {K : Sl → List Mem → Prop} {x : Str} {pos pos' p2 : Pos}
/-- what is left over at the end may be dropped -/
theorem dss_end {sts : List Stmt} {P : Post} (h : DSs c sts ρ rs { P with nx := fun ρ' r' => ∃ r2, Ent r' r2 ∧ P.nx ρ' r2 }) : DSs c sts ρ rs P := fun σ H G D he hs hx hd => h σ H G D he hs hx ⟨fun σ' H' G' ρ' r' t e o k => by
  obtain ⟨r2, en, k⟩ := k
  obtain ⟨G2, l, o2⟩ := en G' H' o
  have t2 : Stp G' G2 H' H' := Stp.less l
  exact hd.nx σ' H' G2 ρ' r2 (t.trans t2) (e.stp t2) o2 k, hd.rt, hd.bk, hd.ct⟩
/-- as dx_ix, to be taken with reducible unfolding (a display of n constants costs 2^n otherwise) -/
theorem dx_ixK (h : DX c a ρ rs fun s1 r1 => DX c b ρ r1 fun s2 r2 => OpD (rIx KC.K) s1 s2 r2 K) (hp : PlainIx b) : DX c (.Subscript a b pos) ρ rs K := dx_ix cIx h hp
/-- tuple(xs) of a list, told or one's own -/
def TuD (s : Sl) (r : List Mem) (K : Sl → List Mem → Prop) : Prop := (∃ ds, s.plain.asList = some ds ∧ K (.d (.tuple ds)) r) ∨ (∃ p ds f, s = .r (.ref p) ∧ Pick r (lstM p (ds.map .d)) f ∧ K (.d (.tuple ds)) r)
theorem tu_d {s : Sl} {ds : List PyData} (e : s.plain.asList = some ds) (k : K (.d (.tuple ds)) rs) : TuD s rs K := .inl ⟨ds, e, k⟩
theorem tu_o {p : Addr} {ds : List PyData} {g : List Mem → List Mem} (pk : Pick rs (lstM p (ds.map .d)) g) (k : K (.d (.tuple ds)) rs) : TuD (.r (.ref p)) rs K := .inr ⟨p, ds, g, rfl, pk, k⟩
theorem dx_tupleU (h : DX c a ρ rs fun s r1 => TuD s r1 K) (hg : KdIn sc₀.names ("tuple" : Str) .globalImplicit := by first | ((with_reducible (repeat (first | exact KdIn.zero | apply KdIn.succ))); (first | (all_goals fail) | fail)) | exact kd_of rfl) (he : starEach [a] c.X.env = (false, eval a c.X.env) :: starEach [] c.X.env := by rfl) : DX c (.Call (.Name "tuple" p2) [a] [] pos) ρ rs K := by
  refine dx_callTy (c.ck ▸ call_tuple_of) c.bl.tuple b_tuple (da_cons (fun σ H G Q a1 a2 a3 a4 => h σ H G Q a1 a2 a3 fun v H' G' sl rs' t r o k => a4 v H' G' sl rs' t r o (da_nil ?_)) he) hg (he := he) (hpl := rfl)
  intro G H vs Q hv hs hq
  match vs, hv with
  | [v], hv =>
    have fin : ∀ p ws ds, SqL KC.K H p ws → IsAll G H ws ds → v = .ref p → K (.d (.tuple ds)) rs' → ∃ p ys, [v] = [V.ref p] ∧ ((SqL KC.K H p ys ∧ ∀ l, H l = none → Q (.ref l) (upd H l (.tup ys))) ∨ (SqT KC.K H p ys ∧ Q (.ref p) H)) := by
      rintro p ws ds sq al rfl k
      refine ⟨p, ws, rfl, .inl ⟨sq, fun l hl => ?_⟩⟩
      have st : Stp G G H (upd H l (.tup ws)) := stp_new hl
      exact hq _ _ G (.d (.tuple ds)) _ st (Is.tup (.inl upd_same) (hs.fresh hl) (al.stp st)) (sepL.step st.sub hs fun a o q _ => same_new hl a o q) k
    rcases k with ⟨ds, e, k⟩ | ⟨p, ds, f, rfl, pk, k⟩
    · obtain ⟨p, ws, e1, r1, al⟩ := SlOk.list hv.1 e
      exact fin p ws ds r1.sq al e1 k
    · obtain ⟨ws, hp, al, _⟩ := lst_at pk hs
      exact fin p ws ds (rd_sqL (.inl hp)) al.is hv.1 k
/-- list(xs) of a text, a list, a tuple, or a list of one's own: new plain data -/
def LwD (s : Sl) (r : List Mem) (K : Sl → List Mem → Prop) : Prop := LsD s.plain r K ∨ (∃ p ds f, s = .r (.ref p) ∧ Pick r (lstM p (ds.map .d)) f ∧ K (.n ds) r)
theorem lw_d {s : Sl} {ds : List PyData} (e : s.plain.asSeq = some ds) (k : K (.n ds) rs) : LwD s rs K := .inl (.inl ⟨ds, e, k⟩)
theorem lw_s {z : Str} (hz : z.length ≤ 100000) (k : K (.n (signD z)) rs) : LwD (.d (.str z)) rs K := .inl (.inr ⟨z, rfl, hz, k⟩)
theorem lw_o {p : Addr} {ds : List PyData} {g : List Mem → List Mem} (pk : Pick rs (lstM p (ds.map .d)) g) (k : K (.n ds) rs) : LwD (.r (.ref p)) rs K := .inr ⟨p, ds, g, rfl, pk, k⟩
theorem dx_listW (h : DX c a ρ rs fun s r1 => LwD s r1 K) (hg : KdIn sc₀.names ("list" : Str) .globalImplicit := by first | ((with_reducible (repeat (first | exact KdIn.zero | apply KdIn.succ))); (first | (all_goals fail) | fail)) | exact kd_of rfl) (he : starEach [a] c.X.env = (false, eval a c.X.env) :: starEach [] c.X.env := by rfl) (hcm : cm₀ = true := by rfl) : DX c (.Call (.Name "list" p2) [a] [] pos) ρ rs K := by
  refine dx_callTy (call_or (c.ck ▸ call_list_of) (call_listS (c.calm hcm))) c.bl.list b_list (da_cons (fun σ H G Q a1 a2 a3 a4 => h σ H G Q a1 a2 a3 fun v H' G' sl rs' t r o k => a4 v H' G' sl rs' t r o (da_nil ?_)) he) hg (he := he) (hpl := rfl)
  rcases k with (⟨ds, e, k⟩ | ⟨z, e, hz, k⟩) | ⟨p, ds, f, rfl, pk, k⟩
  · exact cd_l (cd_list e k)
  · refine cd_r fun G H vs Q hv hs hq => ?_
    match vs, hv with
    | [v], hv =>
      have hv1 := hv.1
      rw [e] at hv1
      have ev := hv1.str
      subst ev
      refine ⟨z, rfl, Nat.le_trans hz (by decide), fun l hl => ?_⟩
      have st : Stp G G H (upd H l (.lst (signV z))) := stp_new hl
      exact hq _ _ G (.n (signD z)) _ st ⟨l, _, rfl, hl, hs.fresh hl, upd_same, is_signs z⟩ (sepL.step st.sub hs fun a o q _ => same_new hl a o q) k
  · refine cd_l fun G H vs Q hv hs hq => ?_
    match vs, hv with
    | [v], hv =>
      obtain ⟨ws, hp, al, _⟩ := lst_at pk hs
      refine ⟨p, ws, by rw [show v = .ref p from hv.1], .inl (rd_sqL (.inl hp)), fun l hl => ?_⟩
      exact give hs hq (sl := .n ds) (same_new hl) ⟨l, ws, rfl, hl, hs.fresh hl, upd_same, (SlAll.is al).stp (stp_new hl)⟩ k
/-- xs + ys: a new list of one's own -/
theorem od_addlO {s1 s2 : Sl} {xs ys : List PyData} (h1 : s1.asList = some xs) (h2 : s2.asList = some ys) (hz : xs.length + ys.length ≤ 100000) (k : ∀ q, K (.r (.ref q)) (lstM q ((xs ++ ys).map .d) :: rs)) : OpD (uAdd KC.K) s1 s2 rs K := od_r (od_r (od_l fun G H a b Q hx hy hs hq => by
  obtain ⟨p, vs, rfl, r1, t1⟩ := hx.list h1
  obtain ⟨q, ws, rfl, r2, t2⟩ := hy.list h2
  refine ⟨p, q, vs, ws, rfl, rfl, r1.sq, r2.sq, by rw [t1.length, t2.length]; exact Nat.le_trans hz (by decide), fun z hp => ?_⟩
  obtain ⟨t, o⟩ := own_new hs hp (SlAll.of_is (t1.append t2))
  exact hq _ _ _ (.r (.ref z)) _ t rfl o (k z)))
theorem lnd_tup {p : Addr} {ss : List Sl} (h : noSA ss) : Lnd (tupM p ss) := fun F G G' H ⟨e, vs, hp, al⟩ m => ⟨e, vs, hp, al.more m h⟩
theorem noSA_cons {s : Sl} {ss : List Sl} (h : noS s = true) (t : noSA ss) : noSA (s :: ss) := fun x hx => by
  rcases List.mem_cons.mp hx with e | q
  · rw [e]; exact h
  · exact t x q
theorem noSA_nil : noSA [] := fun _ h => nomatch h
/-- x.extend(e), e a new list -/
theorem dx_extend {o : Expr} {apos cpos : Pos} (h : DX c o ρ rs fun s r => ∃ p ss f, s = .r (.ref p) ∧ Pick r (lstM p ss) f ∧ DX c a ρ r fun s2 r2 => ∃ ds ss2 f2, s2 = .n ds ∧ Pick r2 (lstM p ss2) f2 ∧ ss2.length + ds.length ≤ 100000 ∧ K (.d .none) (f2 [lstM p (ss2 ++ ds.map .d)]))
    (hm : MeOk c.X o "extend" a [] apos cpos := by exact ⟨rfl, rfl, rfl, rfl⟩) : DX c (.Call (.Attribute o "extend" apos) [a] [] cpos) ρ rs K := by
  intro σ H G Q he hs hx hq
  refine tE_of (pe_bm PySem.F.plainAttrs_list PySem.F.slot_list_extend PySem.F.type_list_extend mt_extend pe_t (pa_cons pe_t pa_nil hm.hs) (hs := hm.hs) (hbase := hm.hb) (hline := hm.hl) (hfew := hm.hf)) ?_
  refine h σ H G _ he hs hx fun v H1 G1 s1 r1 t1 h1 o1 k1 => ?_
  obtain ⟨p, ss, f, rfl, pk, k1⟩ := k1
  have ev : v = .ref p := h1
  subst ev
  obtain ⟨vs, hp, al, _, _⟩ := lst_at pk o1
  refine ⟨.inl ⟨rfl, vs, .inl (.inl hp)⟩, ?_⟩
  refine k1 σ H1 G1 _ (he.stp t1) o1 (hx.stp t1) fun u H2 G2 s2 r2 t2 h2 o2 k2 => ?_
  obtain ⟨ds, ss2, f2, rfl, pk2, hl, k2⟩ := k2
  obtain ⟨b, zs, rfl, hb0, ngb, hb, alz⟩ := h2
  obtain ⟨vs2, hp2, al2, _, ch⟩ := lst_at pk2 o2
  obtain ⟨t3, o3⟩ := ch (vs2 ++ zs) (ss2 ++ ds.map .d) (al2.append (SlAll.of_is alz))
  exact ⟨p, b, vs2, zs, rfl, rfl, hp2, hb, by rw [al2.length, alz.length]; exact Nat.le_trans hl (by decide), hq .non _ G2 (.d .none) _ ((t1.trans t2).trans t3) Is.non o3 k2⟩
theorem ex_ext {p : Addr} {ds : List PyData} {ss : List Sl} {f : List Mem → List Mem} {B : List PyData → List Sl → Prop} {K : List PyData → List Sl → (List Mem → List Mem) → Prop} (pk : Pick rs (lstM p ss) f) (hb : B ds ss) (k : K ds ss f) : ∃ ds' ss' f', Sl.n ds = .n ds' ∧ Pick rs (lstM p ss') f' ∧ B ds' ss' ∧ K ds' ss' f' := ⟨ds, ss, f, rfl, pk, hb, k⟩
section
variable {x1 x2 x3 x4 x5 x6 : PyData}
theorem sd_t603 (k : K (.d (.tuple [x1, x2, x3])) rs) : SlD (uSl KC.K) (.d (.tuple [x1, x2, x3, x4, x5, x6])) none (some 3) rs K := sd_tup (by simp only [List.length_cons, List.length_nil]; decide) k
theorem sd_t64 (k : K (.d (.tuple [x5, x6])) rs) : SlD (uSl KC.K) (.d (.tuple [x1, x2, x3, x4, x5, x6])) (some 4) none rs K := sd_tup (by simp only [List.length_cons, List.length_nil]; decide) k
theorem sd_t62 (k : K (.d (.tuple [x3, x4, x5, x6])) rs) : SlD (uSl KC.K) (.d (.tuple [x1, x2, x3, x4, x5, x6])) (some 2) none rs K := sd_tup (by simp only [List.length_cons, List.length_nil]; decide) k
theorem sd_t43 (k : K (.d (.tuple [x1, x2, x3])) rs) : SlD (uSl KC.K) (.d (.tuple [x1, x2, x3, x4])) none (some 3) rs K := sd_tup (by simp only [List.length_cons, List.length_nil]; decide) k
end
end
end PW

set_option maxHeartbeats 1000000
/-! Stretches, plans and the pages' states: the plain laws. -/
namespace PW
open PySem L2
variable [KC]
structure Sx where
  first : Int
  many : Int
  kind : Str
  rights : Int
  name : Option Str
  start : Int
def Sx.d (s : Sx) : PyData := .tuple [.int s.first, .int s.many, .str s.kind, .int s.rights, nm s.name, .int s.start]
structure Sx.Ok (s : Sx) : Prop where
  many : 1 ≤ s.many
  kind : PyData.strOk s.kind = true
  name : okO s.name
theorem nm_lay {n : Option Str} (h : okO n) : (nm n).canLay0 = true := by
  cases n with
  | none => rfl
  | some z => exact h
theorem shaped3 {k : Str} {r : Int} {n : Option Str} (hk : PyData.strOk k = true) (hn : okO n) : SeqAt.shaped (.tuple [.str k, .int r, nm n]) = true := by
  unfold SeqAt.shaped
  rw [Bool.and_eq_true]
  refine ⟨?_, decide_eq_true ?_⟩
  · show (PyData.strOk k && (true && ((nm n).canLay0 && true))) = true
    rw [hk, nm_lay hn]; rfl
  · cases n <;> exact Nat.le_of_ble_eq_true rfl
def e3 (a b : Sx) : Bool := PyData.eqv (.tuple [.str a.kind, .int a.rights, nm a.name]) (.tuple [.str b.kind, .int b.rights, nm b.name])
def joinB (a b : Sx) : Bool := decide (a.first + a.many = b.first) && e3 a b && ((match a.name with | none => true | some _ => false) || decide (a.start + a.many = b.start))
theorem e3_eq (a b : Sx) : e3 a b = (decide (a.kind = b.kind) && decide (a.rights = b.rights) && decide (a.name = b.name)) := by
  obtain ⟨_, _, k1, r1, n1, _⟩ := a
  obtain ⟨_, _, k2, r2, n2, _⟩ := b
  show ((k1 == k2) && ((r1 == r2) && (PyData.eqv (nm n1) (nm n2) && true))) = _
  have hn : PyData.eqv (nm n1) (nm n2) = decide (n1 = n2) := by
    cases n1 with
    | none => cases n2 <;> rfl
    | some z => cases n2 with
      | none => rfl
      | some y => show (z == y) = _; by_cases h : z = y <;> simp [h]
  rw [hn, Bool.and_true]
  by_cases h1 : k1 = k2 <;> by_cases h2 : r1 = r2 <;> simp [h1, h2]
theorem joinB_iff {a b : Sx} : joinB a b = true ↔ a.first + a.many = b.first ∧ a.kind = b.kind ∧ a.rights = b.rights ∧ a.name = b.name ∧ (a.name = none ∨ a.start + a.many = b.start) := by
  unfold joinB
  rw [e3_eq]
  cases h : a.name with
  | none => simp [and_assoc]
  | some z => simp [and_assoc]
theorem joinB_no {a b : Sx} (h : a.first + a.many ≠ b.first) : joinB a b = false := by
  cases e : joinB a b with
  | false => rfl
  | true => exact absurd (joinB_iff.mp e).1 h
theorem shaped_sx {l : List Sx} (h : ∀ x ∈ l, x.Ok) : SeqAt.shaped (.list (l.map Sx.d)) = true := shaped_list 1 (by decide) fun d hd => by
  obtain ⟨x, hx, rfl⟩ := List.mem_map.mp hd
  have ox := h x hx
  refine ⟨?_, ?_⟩
  · show (true && (true && (PyData.strOk x.kind && (true && ((nm x.name).canLay0 && (true && true)))))) = true
    rw [ox.kind, nm_lay ox.name]; rfl
  · obtain ⟨_, _, _, _, n, _⟩ := x
    cases n <;> exact Nat.le_refl 1
theorem noL_sx (x : Sx) : noL x.d = true := by
  obtain ⟨_, _, _, _, n, _⟩ := x
  cases n <;> rfl

/-! ### pages -/
structure Pg where
  kind : Str
  rights : Int
  name : Option Str
  page : Int
def Pg.d (s : Pg) : PyData := .tuple [.str s.kind, .int s.rights, nm s.name, .int s.page]
def pgD : Option Pg → PyData
  | none => .none
  | some s => s.d
structure Pg.Ok (s : Pg) : Prop where
  kind : PyData.strOk s.kind = true
  name : okO s.name
def covs (x : Sx) (p : Int) : Bool := decide (x.first ≤ p ∧ p < x.first + x.many)
theorem covs_iff {x : Sx} {p : Int} : covs x p = true ↔ x.first ≤ p ∧ p < x.first + x.many := by unfold covs; exact decide_eq_true_iff
theorem covs_no {x : Sx} {p : Int} : covs x p = false ↔ ¬ (x.first ≤ p ∧ p < x.first + x.many) := by unfold covs; exact decide_eq_false_iff_not
def offs (n : Option Str) (i : Int) : Int := match n with | none => 0 | some _ => i
def pgOf (x : Sx) (p : Int) : Pg := ⟨x.kind, x.rights, x.name, offs x.name (x.start + p - x.first)⟩
def stAt (l : List Sx) (p : Int) : Option Pg := (l.find? (covs · p)).map (pgOf · p)
structure Good (x : Sx) : Prop where
  ok : x.Ok
  lo : 0 ≤ x.first
  hi : x.first + x.many ≤ 256
  st : x.name = none → x.start = 0
structure Rise (l : List Sx) : Prop where
  pw : l.Pairwise fun a b => a.first + a.many ≤ b.first
  good : ∀ x ∈ l, Good x
def PlanL (l : List Sx) : Prop := Rise l ∧ ∀ a ∈ l, ∀ b ∈ l, joinB a b = false
theorem rise_nil : Rise [] := ⟨List.Pairwise.nil, fun _ h => nomatch h⟩
theorem plan_nil : PlanL [] := ⟨rise_nil, fun _ h => nomatch h⟩
theorem pw_tri {α : Type} {R : α → α → Prop} : ∀ {l : List α}, l.Pairwise R → ∀ {x y}, x ∈ l → y ∈ l → x = y ∨ R x y ∨ R y x
  | [], _, _, _, h, _ => nomatch h
  | a :: l, h, x, y, hx, hy => by
    obtain ⟨h1, h2⟩ := List.pairwise_cons.mp h
    rcases List.mem_cons.mp hx with e | hx1
    · rcases List.mem_cons.mp hy with e2 | hy1
      · exact .inl (e.trans e2.symm)
      · rw [e]; exact .inr (.inl (h1 y hy1))
    · rcases List.mem_cons.mp hy with e2 | hy1
      · rw [e2]; exact .inr (.inr (h1 x hx1))
      · exact pw_tri h2 hx1 hy1
theorem Rise.uniq {l : List Sx} (h : Rise l) {x y : Sx} {p : Int} (hx : x ∈ l) (hy : y ∈ l) (cx : covs x p = true) (cy : covs y p = true) : x = y := by
  have cx := covs_iff.mp cx
  have cy := covs_iff.mp cy
  rcases pw_tri h.pw hx hy with e | e | e
  · exact e
  · omega
  · omega
def stE (l : List Sx) (p : Int) (s : Pg) : Prop := ∃ x ∈ l, covs x p = true ∧ pgOf x p = s
theorem st_iff {l : List Sx} (h : Rise l) {p : Int} {s : Pg} : stAt l p = some s ↔ stE l p s := by
  unfold stAt stE
  constructor
  · intro e
    cases f : l.find? (covs · p) with
    | none => rw [f] at e; cases e
    | some x =>
      rw [f] at e
      cases e
      exact ⟨x, List.mem_of_find?_eq_some f, List.find?_some (p := (covs · p)) f, rfl⟩
  · rintro ⟨x, hx, cx, rfl⟩
    cases f : l.find? (covs · p) with
    | none =>
      have := List.find?_eq_none.mp f x hx
      exact absurd cx this
    | some y =>
      rw [h.uniq hx (List.mem_of_find?_eq_some f) cx (List.find?_some (p := (covs · p)) f)]
      rfl
theorem st_none {l : List Sx} {p : Int} : stAt l p = none ↔ ∀ x ∈ l, covs x p = false := by
  unfold stAt
  rw [Option.map_eq_none_iff, List.find?_eq_none]
  constructor
  · exact fun h x hx => by simpa using h x hx
  · exact fun h x hx => by rw [h x hx]; exact Bool.false_ne_true
theorem st_eq {l r : List Sx} (hl : Rise l) (hr : Rise r) {p : Int} (h : ∀ s, stE l p s ↔ stE r p s) : stAt l p = stAt r p :=
  Option.ext fun s => (st_iff hl).trans ((h s).trans (st_iff hr).symm)

/-! ### a plan read off its pages -/
def sxOf (p : Int) (s : Pg) : Sx := ⟨p, 1, s.kind, s.rights, s.name, s.page⟩
def goesB (last : Option Sx) (p : Int) (s : Pg) : Bool := match last with | none => false | some y => joinB y (sxOf p s)
abbrev Acc := List Sx × Option Sx
def Acc.l (a : Acc) : List Sx := a.1 ++ a.2.toList
def scanS (f : Int → Option Pg) (a : Acc) (p : Nat) : Acc := match f p with
  | none => a
  | some s => match a.2 with
    | none => (a.1, some (sxOf p s))
    | some y => if joinB y (sxOf p s) then (a.1, some { y with many := y.many + 1 }) else (a.1 ++ [y], some (sxOf p s))
def scanTo (f : Int → Option Pg) (n : Nat) : Acc := (List.range n).foldl (scanS f) ([], none)
def listOf (f : Int → Option Pg) : List Sx := (scanTo f 256).l
theorem scanTo_succ (f : Int → Option Pg) (n : Nat) : scanTo f (n + 1) = scanS f (scanTo f n) n := by
  unfold scanTo
  rw [List.range_succ, List.foldl_append]; rfl
def accOf (pre : List Sx) : Acc := (pre.dropLast, pre.getLast?)
theorem accOf_nil : accOf [] = ([], none) := rfl
theorem accOf_snoc (q : List Sx) (y : Sx) : accOf (q ++ [y]) = (q, some y) := by unfold accOf; simp
theorem nil_or_snoc {α : Type} (l : List α) : l = [] ∨ ∃ q y, l = q ++ [y] := by
  rcases List.eq_nil_or_concat l with h | ⟨q, y, h⟩
  · exact .inl h
  · exact .inr ⟨q, y, by rw [h, List.concat_eq_append]⟩
theorem accOf_l (pre : List Sx) : (accOf pre).l = pre := by
  rcases nil_or_snoc pre with rfl | ⟨q, y, rfl⟩
  · rfl
  · rw [accOf_snoc]; rfl
theorem scanS_none {f : Int → Option Pg} {a : Acc} {p : Nat} (h : f p = none) : scanS f a p = a := by unfold scanS; rw [h]
theorem scanS_new {f : Int → Option Pg} {pre : List Sx} {p : Nat} {s : Pg} (h : f p = some s) (hj : ∀ y ∈ pre, joinB y (sxOf p s) = false) : scanS f (accOf pre) p = accOf (pre ++ [sxOf p s]) := by
  unfold scanS
  rw [h, accOf_snoc]
  rcases nil_or_snoc pre with rfl | ⟨q, y, rfl⟩
  · rfl
  · rw [accOf_snoc]
    dsimp only
    rw [if_neg (by rw [hj y (by simp)]; exact Bool.false_ne_true)]
theorem scanS_more {f : Int → Option Pg} {q : List Sx} {y : Sx} {p : Nat} {s : Pg} (h : f p = some s) (hj : joinB y (sxOf p s) = true) : scanS f (accOf (q ++ [y])) p = accOf (q ++ [{ y with many := y.many + 1 }]) := by
  unfold scanS
  rw [h, accOf_snoc, accOf_snoc]
  dsimp only
  rw [if_pos hj]
def cutX (x : Sx) (m : Int) : Sx := { x with many := m }
inductive Scanned (n : Nat) (l : List Sx) (a : Acc) : Prop
  | out (pre post : List Sx) : l = pre ++ post → (∀ x ∈ pre, x.first + x.many ≤ n) → (∀ x ∈ post, (n : Int) ≤ x.first) → a = accOf pre → Scanned n l a
  | ins (pre : List Sx) (x : Sx) (post : List Sx) : l = pre ++ x :: post → x.first < n → n < x.first + x.many → a = accOf (pre ++ [cutX x (n - x.first)]) → Scanned n l a
theorem sx_cut {x : Sx} {m : Int} (h : m = x.many) : cutX x m = x := by subst h; rfl
theorem sxOf_pg {x : Sx} {p : Int} (h : Good x) (hp : x.first = p) : sxOf p (pgOf x p) = cutX x 1 := by
  subst hp
  unfold sxOf pgOf cutX
  have : offs x.name (x.start + x.first - x.first) = x.start := by
    cases e : x.name with
    | none => exact (h.st e).symm
    | some z => show x.start + x.first - x.first = x.start; omega
  rw [this]
theorem join_r {y : Sx} {x : Sx} {m : Int} : joinB y (cutX x m) = joinB y x := rfl
theorem join_ext {x : Sx} {p : Int} (h : x.first < p) (hg : Good x) : joinB (cutX x (p - x.first)) (sxOf p (pgOf x p)) = true := by
  refine joinB_iff.mpr ⟨by show x.first + (p - x.first) = p; omega, rfl, rfl, rfl, ?_⟩
  show x.name = none ∨ x.start + (p - x.first) = offs x.name (x.start + p - x.first)
  cases e : x.name with
  | none => exact .inl rfl
  | some z => exact .inr (by show _ = x.start + p - x.first; omega)
theorem scan_step {l : List Sx} (hl : PlanL l) {f : Int → Option Pg} {n : Nat} (hn : n < 256) (hf : f n = stAt l n) {a : Acc} (h : Scanned n l a) : Scanned (n + 1) l (scanS f a n) := by
  obtain ⟨hr, hj⟩ := hl
  -- behind a page of x
  have fin : ∀ (pre : List Sx) (x : Sx) (post : List Sx) (a' : Acc), l = pre ++ x :: post → x.first < ((n + 1 : Nat) : Int) → ((n + 1 : Nat) : Int) ≤ x.first + x.many → (∀ y ∈ pre, y.first + y.many ≤ x.first) → a' = accOf (pre ++ [cutX x (((n + 1 : Nat) : Int) - x.first)]) → Scanned (n + 1) l a' := by
    rintro pre x post a' rfl h1 h2 h3 rfl
    by_cases he : ((n + 1 : Nat) : Int) = x.first + x.many
    · refine .out (pre ++ [x]) post (by simp) (fun y hy => ?_) (fun y hy => ?_) (by rw [sx_cut (show ((n + 1 : Nat) : Int) - x.first = x.many by omega)])
      · rcases List.mem_append.mp hy with hy | hy
        · have := h3 y hy; omega
        · rw [List.mem_singleton.mp hy]; omega
      · obtain ⟨_, h4, _⟩ := List.pairwise_append.mp hr.pw
        have := (List.pairwise_cons.mp h4).1 y hy
        omega
    · exact .ins pre x post rfl h1 (by omega) rfl
  cases h with
  | out pre post e h1 h2 ea =>
    subst ea
    have e0 := e
    cases post with
    | nil =>
      rw [scanS_none (hf.trans (st_none.mpr fun x hx => covs_no.mpr fun c => ?_))]
      · exact .out pre [] e (fun x hx => by have := h1 x hx; omega) (fun _ h => nomatch h) rfl
      · rw [e, List.append_nil] at hx
        have := h1 x hx
        omega
    | cons x post =>
      have hx : x ∈ l := by rw [e]; simp
      have gx := hr.good x hx
      have hp := List.pairwise_append.mp (e ▸ hr.pw)
      by_cases hfst : x.first = n
      · have hst : f n = some (pgOf x n) := hf.trans ((st_iff hr).mpr ⟨x, hx, covs_iff.mpr ⟨by omega, by have := gx.ok.many; omega⟩, rfl⟩)
        have hno : ∀ y ∈ pre, joinB y (sxOf n (pgOf x n)) = false := fun y hy => by
          rw [sxOf_pg gx hfst, join_r]
          exact hj y (by rw [e]; exact List.mem_append_left _ hy) x hx
        rw [scanS_new hst hno, sxOf_pg gx hfst]
        refine fin pre x post _ e (by omega) (by have := gx.ok.many; omega) (fun y hy => hp.2.2 y hy x List.mem_cons_self) ?_
        rw [show ((n + 1 : Nat) : Int) - x.first = 1 by omega]
      · have hlt : (n : Int) < x.first := by have := h2 x List.mem_cons_self; omega
        have hall : ∀ y ∈ x :: post, (n : Int) < y.first := fun y hy => by
          rcases List.mem_cons.mp hy with rfl | hy
          · exact hlt
          · have := (List.pairwise_cons.mp hp.2.1).1 y hy
            have := gx.ok.many
            omega
        rw [scanS_none (hf.trans (st_none.mpr fun y hy => covs_no.mpr fun c => ?_))]
        · exact .out pre (x :: post) e (fun y hy => by have := h1 y hy; omega) (fun y hy => by have := hall y hy; omega) rfl
        · rw [e] at hy
          rcases List.mem_append.mp hy with hy | hy
          · have := h1 y hy; omega
          · have := hall y hy; omega
  | ins pre x post e h1 h2 ea =>
    subst ea
    have hx : x ∈ l := by rw [e]; simp
    have gx := hr.good x hx
    have hp := List.pairwise_append.mp (e ▸ hr.pw)
    have hst : f n = some (pgOf x n) := hf.trans ((st_iff hr).mpr ⟨x, hx, covs_iff.mpr ⟨by omega, by omega⟩, rfl⟩)
    rw [scanS_more hst (join_ext h1 gx)]
    refine fin pre x post _ e (by omega) (by omega) (fun y hy => hp.2.2 y hy x List.mem_cons_self) ?_
    show accOf (pre ++ [cutX x (n - x.first + 1)]) = _
    rw [show (n : Int) - x.first + 1 = ((n + 1 : Nat) : Int) - x.first by omega]
theorem scan_all {l : List Sx} (hl : PlanL l) {f : Int → Option Pg} (hf : ∀ p : Nat, p < 256 → f p = stAt l p) : ∀ n : Nat, n ≤ 256 → Scanned n l (scanTo f n)
  | 0, _ => .out [] l rfl (fun _ h => nomatch h) (fun x hx => (hl.1.good x hx).lo) rfl
  | n + 1, h => by
    rw [scanTo_succ]
    exact scan_step hl (by omega) (hf n (by omega)) (scan_all hl hf n (by omega))
theorem listOf_plan {l : List Sx} (hl : PlanL l) {f : Int → Option Pg} (hf : ∀ p : Nat, p < 256 → f p = stAt l p) : listOf f = l := by
  unfold listOf
  cases scan_all hl hf 256 (Nat.le_refl _) with
  | out pre post e h1 h2 ea =>
    rw [ea, accOf_l, e]
    cases post with
    | nil => rw [List.append_nil]
    | cons x post =>
      have gx := hl.1.good x (by rw [e]; simp)
      have := h2 x List.mem_cons_self
      have := gx.hi
      have := gx.ok.many
      omega
  | ins pre x post e h1 h2 ea =>
    have gx := hl.1.good x (by rw [e]; simp)
    have := gx.hi
    omega

/-! ### neighbours put together -/
def putX (acc : List Sx) (x : Sx) : List Sx := match acc.getLast? with
  | none => acc ++ [x]
  | some y => if joinB y x then acc.dropLast ++ [{ y with many := y.many + x.many }] else acc ++ [x]
def putT (l : List Sx) : List Sx := l.foldl putX []
theorem stE_snoc {l : List Sx} {x : Sx} {p : Int} {s : Pg} : stE (l ++ [x]) p s ↔ stE l p s ∨ (covs x p = true ∧ pgOf x p = s) := by
  unfold stE
  constructor
  · rintro ⟨y, hy, c, e⟩
    rcases List.mem_append.mp hy with hy | hy
    · exact .inl ⟨y, hy, c, e⟩
    · rw [List.mem_singleton.mp hy] at c e; exact .inr ⟨c, e⟩
  · rintro (⟨y, hy, c, e⟩ | ⟨c, e⟩)
    · exact ⟨y, List.mem_append_left _ hy, c, e⟩
    · exact ⟨x, by simp, c, e⟩
structure PutOk (pre acc : List Sx) : Prop where
  plan : PlanL acc
  st : ∀ p s, stE acc p s ↔ stE pre p s
  bound : ∀ a ∈ acc, ∃ b ∈ pre, a.first + a.many ≤ b.first + b.many
  len : acc.length ≤ pre.length
theorem put_step {pre acc : List Sx} {x : Sx} (hr : Rise (pre ++ [x])) (h : PutOk pre acc) : PutOk (pre ++ [x]) (putX acc x) := by
  obtain ⟨⟨ra, ja⟩, hst, hb, hlen⟩ := h
  have gx := hr.good x (by simp)
  have hm := gx.ok.many
  have hend : ∀ a ∈ acc, a.first + a.many ≤ x.first := fun a ha => by
    obtain ⟨b, hbm, hbe⟩ := hb a ha
    have := (List.pairwise_append.mp hr.pw).2.2 b hbm x List.mem_cons_self
    omega
  have plain : (∀ y ∈ acc.getLast?, joinB y x = false) → PutOk (pre ++ [x]) (acc ++ [x]) := fun hno => by
    refine ⟨⟨⟨List.pairwise_append.mpr ⟨ra.pw, List.pairwise_singleton _ _, fun a ha b hb => ?_⟩, fun y hy => ?_⟩, fun a ha b hb => ?_⟩, fun p s => ?_, fun a ha => ?_, by rw [List.length_append, List.length_append]; exact Nat.add_le_add_right hlen _⟩
    · rw [List.mem_singleton.mp hb]; exact hend a ha
    · rcases List.mem_append.mp hy with hy | hy
      · exact ra.good y hy
      · rw [List.mem_singleton.mp hy]; exact gx
    · rcases List.mem_append.mp ha with ha | ha
      · rcases List.mem_append.mp hb with hb | hb
        · exact ja a ha b hb
        · rw [List.mem_singleton.mp hb]
          rcases nil_or_snoc acc with e | ⟨q, y, e⟩
          · rw [e] at ha; cases ha
          · subst e
            rcases List.mem_append.mp ha with ha | ha
            · refine joinB_no ?_
              have h1 := (List.pairwise_append.mp ra.pw).2.2 a ha y List.mem_cons_self
              have h2 := hend y (by simp)
              have := (ra.good y (by simp)).ok.many
              omega
            · rw [List.mem_singleton.mp ha]
              exact hno y (by simp)
      · rw [List.mem_singleton.mp ha]
        refine joinB_no ?_
        rcases List.mem_append.mp hb with hb | hb
        · have := hend b hb
          have := (ra.good b hb).ok.many
          omega
        · rw [List.mem_singleton.mp hb]; omega
    · rw [stE_snoc, stE_snoc, hst]
    · rcases List.mem_append.mp ha with ha | ha
      · obtain ⟨b, hbm, hbe⟩ := hb a ha
        exact ⟨b, List.mem_append_left _ hbm, hbe⟩
      · exact ⟨x, by simp, by rw [List.mem_singleton.mp ha]; exact Int.le_refl _⟩
  unfold putX
  cases e : acc.getLast? with
  | none => exact plain fun y hy => by rw [e] at hy; cases hy
  | some y =>
    dsimp only
    by_cases hj : joinB y x = true
    · rw [if_pos hj]
      obtain ⟨j1, j2, j3, j4, j5⟩ := joinB_iff.mp hj
      obtain ⟨q, rfl⟩ : ∃ q, acc = q ++ [y] := by
        rcases nil_or_snoc acc with e2 | ⟨q, z, e2⟩
        · rw [e2] at e; cases e
        · subst e2
          have : z = y := by simpa using e
          subst this
          exact ⟨q, by simp⟩
      rw [List.dropLast_concat]
      have gy := ra.good y (by simp)
      have hmy := gy.ok.many
      have hq := List.pairwise_append.mp ra.pw
      have gz : Good { y with many := y.many + x.many } := ⟨⟨by show 1 ≤ y.many + x.many; omega, gy.ok.kind, gy.ok.name⟩, gy.lo, by show y.first + (y.many + x.many) ≤ 256; have := gx.hi; omega, gy.st⟩
      refine ⟨⟨⟨List.pairwise_append.mpr ⟨hq.1, List.pairwise_singleton _ _, fun a ha b hb => ?_⟩, fun z hz => ?_⟩, fun a ha b hb => ?_⟩, fun p s => ?_, fun a ha => ?_, ?_⟩
      · rw [List.mem_singleton.mp hb]; exact hq.2.2 a ha y List.mem_cons_self
      · rcases List.mem_append.mp hz with hz | hz
        · exact ra.good z (List.mem_append_left _ hz)
        · rw [List.mem_singleton.mp hz]; exact gz
      · rcases List.mem_append.mp ha with ha | ha
        · rcases List.mem_append.mp hb with hb | hb
          · exact ja a (List.mem_append_left _ ha) b (List.mem_append_left _ hb)
          · rw [List.mem_singleton.mp hb]
            exact ja a (List.mem_append_left _ ha) y (by simp)
        · rw [List.mem_singleton.mp ha]
          refine joinB_no ?_
          show y.first + (y.many + x.many) ≠ b.first
          rcases List.mem_append.mp hb with hb | hb
          · have := hq.2.2 b hb y List.mem_cons_self
            have := (ra.good b (List.mem_append_left _ hb)).ok.many
            omega
          · rw [List.mem_singleton.mp hb]
            show y.first + (y.many + x.many) ≠ y.first
            omega
      · have h2 := hst p s
        rw [stE_snoc] at h2
        rw [stE_snoc, stE_snoc, ← h2]
        have px : pgOf { y with many := y.many + x.many } p = pgOf y p := rfl
        have py : covs x p = true → pgOf y p = pgOf x p := fun _ => by
          unfold pgOf
          rw [j2, j3, j4]
          congr 1
          cases e3 : x.name with
          | none => rfl
          | some z =>
            show y.start + p - y.first = x.start + p - x.first
            rcases j5 with j5 | j5
            · rw [j4, e3] at j5; cases j5
            · omega
        rw [px]
        have hc : covs { y with many := y.many + x.many } p = true ↔ covs y p = true ∨ covs x p = true := by
          rw [covs_iff, covs_iff, covs_iff]
          show y.first ≤ p ∧ p < y.first + (y.many + x.many) ↔ _
          omega
        rw [hc]
        constructor
        · rintro (h | ⟨h | h, e4⟩)
          · exact .inl (.inl h)
          · exact .inl (.inr ⟨h, e4⟩)
          · exact .inr ⟨h, (py h).symm.trans e4⟩
        · rintro ((h | ⟨h, e4⟩) | ⟨h, e4⟩)
          · exact .inl h
          · exact .inr ⟨.inl h, e4⟩
          · exact .inr ⟨.inr h, (py h).trans e4⟩
      · refine ⟨x, by simp, ?_⟩
        rcases List.mem_append.mp ha with ha | ha
        · have := hend a (List.mem_append_left _ ha); omega
        · rw [List.mem_singleton.mp ha]
          show y.first + (y.many + x.many) ≤ _
          omega
      · rw [List.length_append, List.length_append] at *
        simp only [List.length_cons, List.length_nil] at *
        omega
    · rw [if_neg hj]
      exact plain fun z hz => by
        rw [e] at hz
        cases hz
        simpa using hj
theorem put_all : ∀ (post pre acc : List Sx), Rise (pre ++ post) → PutOk pre acc → PutOk (pre ++ post) (post.foldl putX acc)
  | [], pre, acc, _, h => by rw [List.append_nil]; exact h
  | x :: post, pre, acc, hr, h => by
    have e : pre ++ x :: post = (pre ++ [x]) ++ post := by simp
    rw [e] at hr ⊢
    refine put_all post (pre ++ [x]) (putX acc x) hr (put_step ⟨?_, fun y hy => hr.good y (List.mem_append_left _ hy)⟩ h)
    exact (List.pairwise_append.mp hr.pw).1
theorem put_ok {l : List Sx} (h : Rise l) : PutOk l (putT l) := by
  have := put_all l [] [] (by simpa using h) ⟨plan_nil, fun p s => Iff.rfl, fun _ h => (nomatch h), Nat.le_refl _⟩
  rw [List.nil_append] at this
  exact this
theorem put_st {l : List Sx} (h : Rise l) (p : Int) : stAt (putT l) p = stAt l p := st_eq (put_ok h).plan.1 h fun s => (put_ok h).st p s
end PW

set_option maxHeartbeats 1000000
/-! Pieces of stretches; pages covered, taken away, other rights; a stretch more. -/
namespace PW
open PySem L2
variable [KC]
def mx (i j : Int) : Int := if j > i then j else i
def mn (i j : Int) : Int := if j < i then j else i
theorem mx_spec (i j : Int) : (mx i j = i ∧ j ≤ i) ∨ (mx i j = j ∧ i ≤ j) := by unfold mx; split <;> omega
theorem mn_spec (i j : Int) : (mn i j = i ∧ i ≤ j) ∨ (mn i j = j ∧ j ≤ i) := by unfold mn; split <;> omega
def pieceX (x : Sx) (lo hi : Int) : Sx := ⟨mx x.first lo, mn (x.first + x.many) hi - mx x.first lo, x.kind, x.rights, x.name, offs x.name (x.start + mx x.first lo - x.first)⟩
def pieceL (x : Sx) (lo hi : Int) : List Sx := if mx x.first lo ≥ mn (x.first + x.many) hi then [] else [pieceX x lo hi]
theorem piece_mem {x y : Sx} {lo hi : Int} : y ∈ pieceL x lo hi ↔ mx x.first lo < mn (x.first + x.many) hi ∧ y = pieceX x lo hi := by
  unfold pieceL
  split
  · simp; omega
  · simp; omega
structure SubX (x y : Sx) (lo hi : Int) : Prop where
  f1 : x.first ≤ y.first
  f2 : lo ≤ y.first
  e1 : y.first + y.many ≤ x.first + x.many
  e2 : y.first + y.many ≤ hi
  many : 1 ≤ y.many
  kind : y.kind = x.kind
  name : y.name = x.name
  start : y.start = offs x.name (x.start + y.first - x.first)
theorem piece_sub {x y : Sx} {lo hi : Int} (h : y ∈ pieceL x lo hi) : SubX x y lo hi ∧ y.rights = x.rights := by
  obtain ⟨h1, rfl⟩ := piece_mem.mp h
  have a := mx_spec x.first lo
  have b := mn_spec (x.first + x.many) hi
  exact ⟨⟨by show x.first ≤ mx x.first lo; omega, by show lo ≤ mx x.first lo; omega, by show mx x.first lo + (mn (x.first + x.many) hi - mx x.first lo) ≤ _; omega, by show mx x.first lo + (mn (x.first + x.many) hi - mx x.first lo) ≤ _; omega, by show 1 ≤ mn (x.first + x.many) hi - mx x.first lo; omega, rfl, rfl, rfl⟩, rfl⟩
theorem piece_cov {x : Sx} {lo hi p : Int} : (∃ y ∈ pieceL x lo hi, covs y p = true) ↔ covs x p = true ∧ lo ≤ p ∧ p < hi := by
  have a := mx_spec x.first lo
  have b := mn_spec (x.first + x.many) hi
  rw [covs_iff]
  constructor
  · rintro ⟨y, hy, c⟩
    obtain ⟨h1, rfl⟩ := piece_mem.mp hy
    have c := covs_iff.mp c
    have c : mx x.first lo ≤ p ∧ p < mx x.first lo + (mn (x.first + x.many) hi - mx x.first lo) := c
    omega
  · intro c
    refine ⟨pieceX x lo hi, piece_mem.mpr ⟨by omega, rfl⟩, covs_iff.mpr ?_⟩
    show mx x.first lo ≤ p ∧ p < mx x.first lo + (mn (x.first + x.many) hi - mx x.first lo)
    omega
theorem SubX.pg {x y : Sx} {lo hi : Int} (h : SubX x y lo hi) (p : Int) : pgOf y p = { pgOf x p with rights := y.rights } := by
  unfold pgOf
  rw [h.kind, h.name]
  congr 1
  have hs := h.start
  cases e : x.name with
  | none => rfl
  | some z =>
    rw [e] at hs
    have hs : y.start = x.start + y.first - x.first := hs
    show y.start + p - y.first = x.start + p - x.first
    omega
theorem SubX.good {x y : Sx} {lo hi : Int} (h : SubX x y lo hi) (g : Good x) : Good y where
  ok := ⟨h.many, by rw [h.kind]; exact g.ok.kind, by rw [h.name]; exact g.ok.name⟩
  lo := by have := g.lo; have := h.f1; omega
  hi := by have := g.hi; have := h.e1; omega
  st := fun e => by
    rw [h.start, ← h.name, e]; rfl
/-- parts of each stretch, in their order -/
theorem rise_flat {l : List Sx} {g : Sx → List Sx} (h : Rise l) (hg : ∀ x ∈ l, (g x).Pairwise (fun a b => a.first + a.many ≤ b.first) ∧ ∀ y ∈ g x, ∃ lo hi, SubX x y lo hi) : Rise (l.flatMap g) where
  pw := by
    rw [List.pairwise_flatMap]
    refine ⟨fun x hx => (hg x hx).1, h.pw.imp_of_mem fun {a b} ha hb hab x hx y hy => ?_⟩
    obtain ⟨_, _, s1⟩ := (hg a ha).2 x hx
    obtain ⟨_, _, s2⟩ := (hg b hb).2 y hy
    have := s1.e1
    have := s2.f1
    omega
  good := fun y hy => by
    obtain ⟨x, hx, hy⟩ := List.mem_flatMap.mp hy
    obtain ⟨_, _, s⟩ := (hg x hx).2 y hy
    exact s.good (h.good x hx)
theorem piece_pw (x : Sx) (lo hi : Int) : (pieceL x lo hi).Pairwise (fun a b => a.first + a.many ≤ b.first) := by
  unfold pieceL
  split
  · exact List.Pairwise.nil
  · exact List.pairwise_singleton _ _
/-! ### pages taken away -/
def outX (f m : Int) (x : Sx) : List Sx := pieceL x 0 f ++ pieceL x (f + m) 256
def withoutL (l : List Sx) (f m : Int) : List Sx := l.flatMap (outX f m)
theorem out_pw {f m : Int} (hm : 1 ≤ m) (x : Sx) : (outX f m x).Pairwise (fun a b => a.first + a.many ≤ b.first) :=
  List.pairwise_append.mpr ⟨piece_pw _ _ _, piece_pw _ _ _, fun a ha b hb => by
    have h1 := (piece_sub ha).1.e2
    have h2 := (piece_sub hb).1.f2
    omega⟩
theorem out_sub {f m : Int} {x y : Sx} (h : y ∈ outX f m x) : (∃ lo hi, SubX x y lo hi) ∧ y.rights = x.rights ∧ (y.first + y.many ≤ f ∨ f + m ≤ y.first) := by
  rcases List.mem_append.mp h with h | h
  · have := piece_sub h
    exact ⟨⟨_, _, this.1⟩, this.2, .inl this.1.e2⟩
  · have := piece_sub h
    exact ⟨⟨_, _, this.1⟩, this.2, .inr this.1.f2⟩
theorem without_rise {l : List Sx} {f m : Int} (h : Rise l) (hm : 1 ≤ m) : Rise (withoutL l f m) := rise_flat h fun x _ => ⟨out_pw hm x, fun _ hy => (out_sub hy).1⟩
theorem sub_join {x y a b : Sx} {lo hi lo2 hi2 : Int} (sa : SubX x a lo hi) (sb : SubX y b lo2 hi2) (ra : a.rights = x.rights) (rb : b.rights = y.rights) (hxy : x.first + x.many ≤ y.first) (j : joinB a b = true) : joinB x y = true := by
  obtain ⟨j1, j2, j3, j4, j5⟩ := joinB_iff.mp j
  have h1 := sa.e1
  have h2 := sb.f1
  have e1 : x.first + x.many = y.first := by omega
  have e2 : b.first = y.first := by omega
  have s1 := sa.start
  have s2 := sb.start
  refine joinB_iff.mpr ⟨e1, by rw [← sa.kind, j2, sb.kind], by rw [← ra, j3, rb], by rw [← sa.name, j4, sb.name], ?_⟩
  rcases j5 with j5 | j5
  · exact .inl (by rw [← sa.name]; exact j5)
  · cases ex : x.name with
    | none => exact .inl rfl
    | some z =>
      have ey : y.name = some z := by rw [← sb.name, ← j4, sa.name, ex]
      rw [ex] at s1
      rw [ey] at s2
      have s1 : a.start = x.start + a.first - x.first := s1
      have s2 : b.start = y.start + b.first - y.first := s2
      exact .inr (by omega)
theorem without_plan {l : List Sx} {f m : Int} (h : PlanL l) (hm : 1 ≤ m) : PlanL (withoutL l f m) := by
  refine ⟨without_rise h.1 hm, fun a ha b hb => ?_⟩
  cases j : joinB a b with
  | false => rfl
  | true =>
    exfalso
    obtain ⟨x, hx, ha⟩ := List.mem_flatMap.mp ha
    obtain ⟨y, hy, hb⟩ := List.mem_flatMap.mp hb
    obtain ⟨⟨lo, hi, sa⟩, ra, oa⟩ := out_sub ha
    obtain ⟨⟨lo2, hi2, sb⟩, rb, ob⟩ := out_sub hb
    have j1 := (joinB_iff.mp j).1
    have h1 := sa.many
    have h2 := sb.many
    rcases pw_tri h.1.pw hx hy with e | e | e
    · subst e
      rcases List.mem_append.mp ha with ha | ha <;> rcases List.mem_append.mp hb with hb | hb
      · rw [(piece_mem.mp ha).2, ← (piece_mem.mp hb).2] at j1
        omega
      · have := (piece_sub ha).1.e2
        have := (piece_sub hb).1.f2
        omega
      · have := (piece_sub ha).1.f2
        have := (piece_sub hb).1.e2
        omega
      · rw [(piece_mem.mp ha).2, ← (piece_mem.mp hb).2] at j1
        omega
    · have := sub_join sa sb ra rb e j
      rw [h.2 x hx y hy] at this
      cases this
    · have := sb.e1
      have := sa.f1
      omega
theorem without_st {l : List Sx} {f m p : Int} (h : Rise l) (hm : 1 ≤ m) (hp : 0 ≤ p ∧ p < 256) : stAt (withoutL l f m) p = if f ≤ p ∧ p < f + m then none else stAt l p := by
  have hw := without_rise (f := f) (m := m) h hm
  have key : ∀ s, stE (withoutL l f m) p s ↔ stE l p s ∧ ¬ (f ≤ p ∧ p < f + m) := fun s => by
    constructor
    · rintro ⟨y, hy, c, rfl⟩
      obtain ⟨x, hx, hy⟩ := List.mem_flatMap.mp hy
      obtain ⟨⟨lo, hi, sy⟩, ry, oy⟩ := out_sub hy
      have c2 := covs_iff.mp c
      have := sy.f1
      have := sy.e1
      exact ⟨⟨x, hx, covs_iff.mpr (by omega), by rw [sy.pg, ry]; rfl⟩, by omega⟩
    · rintro ⟨⟨x, hx, c, rfl⟩, hn⟩
      have : ∃ y ∈ outX f m x, covs y p = true := by
        by_cases hf : p < f
        · obtain ⟨y, hy, cy⟩ := piece_cov.mpr ⟨c, hp.1, hf⟩
          exact ⟨y, List.mem_append_left _ hy, cy⟩
        · obtain ⟨y, hy, cy⟩ := piece_cov.mpr ⟨c, show f + m ≤ p by omega, hp.2⟩
          exact ⟨y, List.mem_append_right _ hy, cy⟩
      obtain ⟨y, hy, cy⟩ := this
      obtain ⟨⟨lo, hi, sy⟩, ry, _⟩ := out_sub hy
      exact ⟨y, List.mem_flatMap.mpr ⟨x, hx, hy⟩, cy, by rw [sy.pg, ry]; rfl⟩
  refine Option.ext fun s => ?_
  rw [st_iff hw, key]
  split
  · rename_i hc
    exact ⟨fun ⟨_, n⟩ => absurd hc n, fun e => by cases e⟩
  · rename_i hc
    rw [st_iff h]
    exact ⟨fun ⟨a, _⟩ => a, fun a => ⟨a, hc⟩⟩
/-! ### other rights -/
def newR (r : Int) (y : Sx) : Sx := { y with rights := r }
def inX (f m r : Int) (x : Sx) : List Sx := pieceL x 0 f ++ (pieceL x f (f + m)).map (newR r) ++ pieceL x (f + m) 256
def rightsRaw (l : List Sx) (f m r : Int) : List Sx := l.flatMap (inX f m r)
def rightsL (l : List Sx) (f m r : Int) : List Sx := putT (rightsRaw l f m r)
theorem in_mem {f m r : Int} {x y : Sx} : y ∈ inX f m r x ↔ y ∈ pieceL x 0 f ∨ (∃ z ∈ pieceL x f (f + m), newR r z = y) ∨ y ∈ pieceL x (f + m) 256 := by
  unfold inX
  simp [or_assoc]
theorem SubX.newR {x y : Sx} {lo hi r : Int} (h : SubX x y lo hi) : SubX x (newR r y) lo hi := ⟨h.f1, h.f2, h.e1, h.e2, h.many, h.kind, h.name, h.start⟩
theorem in_pw {f m r : Int} (hm : 1 ≤ m) (x : Sx) : (inX f m r x).Pairwise (fun a b => a.first + a.many ≤ b.first) := by
  refine List.pairwise_append.mpr ⟨List.pairwise_append.mpr ⟨piece_pw _ _ _, ?_, fun a ha b hb => ?_⟩, piece_pw _ _ _, fun a ha b hb => ?_⟩
  · rw [List.pairwise_map]; exact piece_pw _ _ _
  · obtain ⟨z, hz, rfl⟩ := List.mem_map.mp hb
    have h1 := (piece_sub ha).1.e2
    have h2 : f ≤ z.first := (piece_sub hz).1.f2
    show _ ≤ z.first
    omega
  · have h2 := (piece_sub hb).1.f2
    rcases List.mem_append.mp ha with ha | ha
    · have h1 := (piece_sub ha).1.e2
      omega
    · obtain ⟨z, hz, rfl⟩ := List.mem_map.mp ha
      have h1 := (piece_sub hz).1.e2
      show z.first + z.many ≤ _
      omega
theorem in_sub {f m r : Int} {x y : Sx} (h : y ∈ inX f m r x) : (∃ lo hi, SubX x y lo hi) ∧ ((y.rights = x.rights ∧ (y.first + y.many ≤ f ∨ f + m ≤ y.first)) ∨ (y.rights = r ∧ f ≤ y.first ∧ y.first + y.many ≤ f + m)) := by
  rcases in_mem.mp h with h | ⟨z, hz, rfl⟩ | h
  · have := piece_sub h
    exact ⟨⟨_, _, this.1⟩, .inl ⟨this.2, .inl this.1.e2⟩⟩
  · have := piece_sub hz
    exact ⟨⟨_, _, this.1.newR⟩, .inr ⟨rfl, this.1.f2, this.1.e2⟩⟩
  · have := piece_sub h
    exact ⟨⟨_, _, this.1⟩, .inl ⟨this.2, .inr this.1.f2⟩⟩
theorem rights_rise {l : List Sx} {f m r : Int} (h : Rise l) (hm : 1 ≤ m) : Rise (rightsRaw l f m r) := rise_flat h fun x _ => ⟨in_pw hm x, fun _ hy => (in_sub hy).1⟩
theorem rights_plan {l : List Sx} {f m r : Int} (h : Rise l) (hm : 1 ≤ m) : PlanL (rightsL l f m r) := (put_ok (rights_rise h hm)).plan
theorem rights_st {l : List Sx} {f m r p : Int} (h : Rise l) (hm : 1 ≤ m) (hp : 0 ≤ p ∧ p < 256) : stAt (rightsL l f m r) p = if f ≤ p ∧ p < f + m then (stAt l p).map (fun s => { s with rights := r }) else stAt l p := by
  have hw := rights_rise (f := f) (m := m) (r := r) h hm
  have key : ∀ s, stE (rightsRaw l f m r) p s ↔ ∃ t, stE l p t ∧ s = if f ≤ p ∧ p < f + m then { t with rights := r } else t := fun s => by
    constructor
    · rintro ⟨y, hy, c, rfl⟩
      obtain ⟨x, hx, hy⟩ := List.mem_flatMap.mp hy
      obtain ⟨⟨lo, hi, sy⟩, ry⟩ := in_sub hy
      have c2 := covs_iff.mp c
      have := sy.f1
      have := sy.e1
      refine ⟨pgOf x p, ⟨x, hx, covs_iff.mpr (by omega), rfl⟩, ?_⟩
      rw [sy.pg]
      rcases ry with ⟨ry, o⟩ | ⟨ry, o⟩
      · rw [if_neg (by omega), ry]; rfl
      · rw [if_pos (by omega), ry]
    · rintro ⟨t, ⟨x, hx, c, rfl⟩, rfl⟩
      by_cases hc : f ≤ p ∧ p < f + m
      · obtain ⟨y, hy, cy⟩ := piece_cov.mpr ⟨c, hc.1, hc.2⟩
        have hi : newR r y ∈ inX f m r x := in_mem.mpr (.inr (.inl ⟨y, hy, rfl⟩))
        refine ⟨newR r y, List.mem_flatMap.mpr ⟨x, hx, hi⟩, cy, ?_⟩
        rw [if_pos hc, (piece_sub hy).1.newR.pg]; rfl
      · have : ∃ y ∈ inX f m r x, covs y p = true ∧ ∃ lo hi, SubX x y lo hi ∧ y.rights = x.rights := by
          by_cases hf : p < f
          · obtain ⟨y, hy, cy⟩ := piece_cov.mpr ⟨c, hp.1, hf⟩
            exact ⟨y, in_mem.mpr (.inl hy), cy, _, _, piece_sub hy⟩
          · obtain ⟨y, hy, cy⟩ := piece_cov.mpr ⟨c, show f + m ≤ p by omega, hp.2⟩
            exact ⟨y, in_mem.mpr (.inr (.inr hy)), cy, _, _, piece_sub hy⟩
        obtain ⟨y, hy, cy, lo, hi, sy, ry⟩ := this
        exact ⟨y, List.mem_flatMap.mpr ⟨x, hx, hy⟩, cy, by rw [if_neg hc, sy.pg, ry]; rfl⟩
  unfold rightsL
  rw [put_st hw]
  refine Option.ext fun s => ?_
  rw [st_iff hw, key]
  split
  · rename_i hc
    rw [Option.map_eq_some_iff]
    constructor
    · rintro ⟨t, ht, e⟩
      exact ⟨t, (st_iff h).mpr ht, e.symm⟩
    · rintro ⟨t, ht, e⟩
      exact ⟨t, (st_iff h).mp ht, e.symm⟩
  · rename_i hc
    rw [st_iff h]
    constructor
    · rintro ⟨t, ht, e⟩
      rw [e]; exact ht
    · exact fun ht => ⟨s, ht, rfl⟩
/-! ### pages covered -/
def reach1 (r : Int) (x : Sx) : Int := if x.first ≤ r ∧ r < x.first + x.many then x.first + x.many else r
def reach (l : List Sx) (f : Int) : Int := l.foldl reach1 f
theorem reach_ge : ∀ (l : List Sx) (f : Int), f ≤ reach l f
  | [], _ => Int.le_refl _
  | x :: l, f => by
    have h := reach_ge l (reach1 f x)
    have : f ≤ reach1 f x := by unfold reach1; split <;> omega
    show f ≤ reach l (reach1 f x)
    omega
theorem reach_far : ∀ (l : List Sx) (f : Int), (∀ x ∈ l, f < x.first) → reach l f = f
  | [], _, _ => rfl
  | x :: l, f, h => by
    have e : reach1 f x = f := by
      unfold reach1
      rw [if_neg (by have := h x List.mem_cons_self; omega)]
    show reach l (reach1 f x) = f
    rw [e]
    exact reach_far l f fun y hy => h y (List.mem_cons_of_mem _ hy)
theorem reach_in : ∀ (l : List Sx) (f p : Int), f ≤ p → p < reach l f → ∃ x ∈ l, covs x p = true
  | [], f, p, h1, h2 => by have h2 : p < f := h2; omega
  | x :: l, f, p, h1, h2 => by
    have h2 : p < reach l (reach1 f x) := h2
    by_cases c : reach1 f x ≤ p
    · obtain ⟨y, hy, cy⟩ := reach_in l (reach1 f x) p c h2
      exact ⟨y, List.mem_cons_of_mem _ hy, cy⟩
    · refine ⟨x, List.mem_cons_self, covs_iff.mpr ?_⟩
      unfold reach1 at c
      split at c <;> omega
theorem reach_out : ∀ (l : List Sx) (f : Int), Rise l → ∀ x ∈ l, covs x (reach l f) = false
  | [], _, _, _, h => nomatch h
  | x :: l, f, hr, y, hy => by
    obtain ⟨h1, h2⟩ := List.pairwise_cons.mp hr.pw
    have hl : Rise l := ⟨h2, fun z hz => hr.good z (List.mem_cons_of_mem _ hz)⟩
    have hm := (hr.good x List.mem_cons_self).ok.many
    rw [covs_no]
    show ¬ (y.first ≤ reach l (reach1 f x) ∧ _)
    rcases List.mem_cons.mp hy with e | hy
    · subst e
      have hge := reach_ge l (reach1 f y)
      by_cases c : y.first ≤ f ∧ f < y.first + y.many
      · have : reach1 f y = y.first + y.many := by unfold reach1; rw [if_pos c]
        show ¬ (_ ∧ reach l (reach1 f y) < _)
        omega
      · have e1 : reach1 f y = f := by unfold reach1; rw [if_neg c]
        show ¬ (_ ∧ reach l (reach1 f y) < _)
        rw [e1] at hge ⊢
        by_cases c2 : f < y.first
        · rw [reach_far l f fun z hz => by have := h1 z hz; omega]
          omega
        · omega
    · exact covs_no.mp (reach_out l (reach1 f x) hl y hy)
def covB (l : List Sx) (f m : Int) : Bool := decide (f + m ≤ reach l f)
theorem covB_iff {l : List Sx} (h : Rise l) {f m : Int} (hm : 1 ≤ m) : covB l f m = true ↔ ∀ p, f ≤ p → p < f + m → stAt l p ≠ none := by
  unfold covB
  rw [decide_eq_true_iff]
  constructor
  · intro hr p h1 h2 e
    obtain ⟨x, hx, c⟩ := reach_in l f p h1 (by omega)
    rw [st_none.mp e x hx] at c
    cases c
  · intro ha
    by_cases hc : f + m ≤ reach l f
    · exact hc
    · exact absurd (st_none.mpr (reach_out l f h)) (ha _ (reach_ge l f) (by omega))
end PW

set_option maxHeartbeats 4000000
/-! sorted(xs, key=f) of any length, f a def of one's own that gives ints: with a statement Kp kept through it. -/
namespace SK
open PySem PyProof.Rows Srt SrtO
/-- what is kept: own are the sort's own things -/
structure Keep (Kp : List Addr → Shared → Prop) : Prop where
  push : ∀ {own : List Addr} {s : Shared} (o : Obj), o.isFreed = false → Kp own s → Kp (s.heap.objs.size :: own) { s with heap := s.heap.push o }
  but : ∀ {own : List Addr} {s : Shared} {h' : Heap} {a : Addr}, Kp own s → a ∈ own → (∃ o, h'.get? a = some o) → Heap.SameBut a s.heap h' → Kp own { s with heap := h' }
  less : ∀ {own own' : List Addr} {s : Shared}, Kp own s → (∀ a ∈ own', a ∈ own) → Kp own' s
def KeyOut (ks : List Int) (vs out : List Value) : Prop := ∃ ps : List (Int × Value), ps.Perm (ks.zip vs) ∧ out = ps.map (·.2) ∧ ps.Pairwise fun p q => p.1 ≤ q.1
section
variable {prog : Program} {w : World} {A : Around} {E : Value → Shared → Prop} {Kp : List Addr → Shared → Prop} {own : List Addr} {s : Shared} {a kS : Addr} {vs : List Value} {ks : List Int} {keys : Array Value} {e e1 : Nat} {P : PySem.Fin → Shared → Prop}
theorem key_pairs {arr : List Keyed} (hk : IntsAre keys.toList ks) (hp : arr.Perm (keys.toList.zip vs)) (hs : Srtd (lt2 ltIv) arr) : KeyOut ks vs (arr.map (·.2)) := by
  refine ⟨arr.map fun p : Keyed => (iv p.1, p.2), ?_, by rw [List.map_map]; rfl, ?_⟩
  · have h := hp.map fun p : Keyed => (iv p.1, p.2)
    rw [show ((keys.toList.zip vs).map fun p : Value × Value => (iv p.1, p.2)) = ks.zip vs by
      rw [← iv_ints hk, List.zip_map_left]; rfl] at h
    exact h
  · rw [List.pairwise_map]
    exact hs.imp fun {x y} h => Int.not_lt.mp (of_decide_eq_false (p := iv y.1 < iv x.1) h)
theorem tail_ {st : SortSt} (K : Keep Kp) (hK : Kp own s) (mk : kS ∈ own) (ma : a ∈ own) (hka : kS ≠ a) (gk : s.heap.get? kS = some (seqObj "list" keys e)) (ga : s.heap.get? a = some (seqObj "list" #[] e1))
    (z1 : keys.size ≤ sizeLine) (z2 : ((arrOf st).map (·.2)).size ≤ sizeLine + 1) (hf : failedOf st = none)
    (h : ∀ s' c, Kp own s' → s'.heap.get? a = some (seqObj "list" ((arrOf st).map (·.2)) c) → P (.done (.ret .none)) s') : wpAny (model prog w) A (ksk_tail a false e1 (.ref kS) st) P E s := by
  have u1 := Heap.SameBut.update s.heap kS (Obj.mapSeq fun _ => (#[] : Array Value)); have K1 := K.but hK mk ⟨_, get?_update_seq gk _⟩ u1
  have ga1 := (u1.2 a hka.symm).trans ga
  have u2 := Heap.SameBut.update (s.heap.update kS (Obj.mapSeq fun _ => (#[] : Array Value))) a (Obj.mapSeq fun _ => (arrOf st).map (·.2)); have K2 := K.but K1 ma ⟨_, get?_update_seq ga1 _⟩ u2
  have ga2 := get?_update_seq ga1 fun _ => (arrOf st).map (·.2)
  unfold ksk_tail; dsimp only
  refine wpAny_bind (listUpdate_at gk rfl ?_ z1 (Nat.zero_le _)); refine wpAny_bind (wpAny_letGo ?_)
  refine wpAny_bind (seqEpoch_at ga1 rfl ?_); refine wpAny_bind (listUpdate_at ga1 rfl ?_ (Nat.zero_le _) (by simpa using z2))
  rw [hf]; simp only [bne_self_eq_false, Bool.false_eq_true, if_false]
  exact wpAny_pure (h _ _ K2 ga2)
theorem end_ (K : Keep Kp) (hK : Kp own s) (mk : kS ∈ own) (ma : a ∈ own) (hka : kS ≠ a) (gk : s.heap.get? kS = some (seqObj "list" keys e)) (ga : s.heap.get? a = some (seqObj "list" #[] e1))
    (hk : IntsAre keys.toList ks) (hl : ks.length = vs.length) (hz : vs.length ≤ sizeLine)
    (h : ∀ s' (out : List Value) c, Kp own s' → s'.heap.get? a = some (seqObj "list" out.toArray c) → KeyOut ks vs out → P (.done (.ret .none)) s') : wpAny (model prog w) A (ksk_end a false vs.toArray e1 (.ref kS) keys) P E s := by
  have n1 : keys.size = vs.length := by have := hk.length; rw [Array.length_toList] at this; omega
  have n2 : (keys.zip vs.toArray).size = vs.length := by rw [Array.size_zip, n1, List.size_toArray, Nat.min_self]
  have n3 : (keys.zip vs.toArray).toList = keys.toList.zip vs := ksk_zip _ _
  have done : ∀ st : SortSt, (arrOf st).toList.Perm (keys.toList.zip vs) → Srtd (lt2 ltIv) (arrOf st).toList → failedOf st = none → wpAny (model prog w) A (ksk_tail a false e1 (.ref kS) st) P E s := fun st hp hs hf => by
    have n4 : (arrOf st).size = vs.length := by
      have := hp.length_eq
      rw [Array.length_toList, ← n3, Array.length_toList] at this; omega
    refine tail_ K hK mk ma hka gk ga (by omega) (by rw [Array.size_map]; omega) hf fun s' c k g => h s' ((arrOf st).map (·.2)).toList c k (by rw [Array.toArray_toList]; exact g) ?_
    rw [Array.toList_map]; exact key_pairs hk hp hs
  unfold ksk_end; dsimp only
  simp only [Bool.false_eq_true, if_false]
  by_cases h2 : vs.toArray.size < 2
  · rw [if_pos h2, if_pos h2]
    refine wpAny_bind (wpAny_pure ?_); rw [StateT.run_pure]; refine wpAny_bind (wpAny_pure ?_); dsimp only
    refine done (SortSt.mk' general' (keys.zip vs.toArray) #[] 7 none) (by show (keys.zip vs.toArray).toList.Perm _; rw [n3]) ?_ rfl
    show Srtd (lt2 ltIv) (keys.zip vs.toArray).toList
    have : (keys.zip vs.toArray).toList.length < 2 := by rw [Array.length_toList, n2]; rw [List.size_toArray] at h2; exact h2
    match (keys.zip vs.toArray).toList, this with
    | [], _ => exact List.Pairwise.nil
    | [x], _ => exact List.pairwise_singleton _ _
    | _ :: _ :: _, h => exact absurd h (by simp)
  · rw [if_neg h2, if_neg h2]
    rw [List.size_toArray] at h2
    rw [ksk_kind hk (by omega)]
    refine wpAny_bind (wpAny_pure ?_)
    refine wpAny_bind (wpAny_mono (wpS_sortO (st0 := SortSt.mk' oneType' (keys.zip vs.toArray) #[] 7 none) (Q := fun _ st' => Srtd (lt2 ltIv) (arrOf st').toList ∧ Stb (lt2 ltIv) (arrOf st').toList (keys.zip vs.toArray).toList ∧ failedOf st' = none)
      (swo2 swo_int) (int_cmp hk) rfl (fun p hp => ?_) rfl rfl fun st' x y z => ⟨x, y, z⟩) ?_ fun _ _ q => q)
    · have hp : p ∈ (keys.zip vs.toArray).toList := hp
      rw [n3] at hp
      obtain ⟨p1, p2⟩ := p
      exact (List.of_mem_zip hp).1
    · rintro ⟨⟨⟩, st'⟩ s' ⟨rfl, x, y, z⟩
      dsimp only
      exact done st' (by rw [← n3]; exact y.perm) x z
theorem rest_ {f : Value} (K : Keep Kp) (hK : Kp own s) (mk : kS ∈ own) (ma : a ∈ own) (hka : kS ≠ a) (gk : s.heap.get? kS = some (seqObj "list" #[] 0)) (ga : s.heap.get? a = some (seqObj "list" #[] e1)) (hl : ks.length = vs.length) (hz : vs.length ≤ sizeLine)
    (turn : ∀ (i : Nat) (v : Value) (k : Int), vs[i]? = some v → ks[i]? = some k → ∀ (s1 : Shared) (os : List (Addr × Obj)), Kp own s1 → (∀ p ∈ os, p.1 ∈ own ∧ s1.heap.get? p.1 = some p.2) →
      wpAny (model prog w) A (call f [v]) (fun u s2 => (∃ t, u = .int k t) ∧ Kp own s2 ∧ ∀ p ∈ os, s2.heap.get? p.1 = some p.2) (fun _ _ => False) s1)
    (h : ∀ s' (out : List Value) c, Kp own s' → s'.heap.get? a = some (seqObj "list" out.toArray c) → KeyOut ks vs out → P (.done (.ret .none)) s') : wpAny (model prog w) A (ksk_rest a f false vs.toArray e1 (.ref kS)) P E s := by
  unfold ksk_rest
  refine wpAny_bind (wpAny_rule ?_); rw [← Array.forIn_toList]; simp only [List.toList_toArray]
  refine wpAny_bind (ksk_fold (fun i s' => ∃ (kA : Array Value) (e : Nat), Kp own s' ∧ s'.heap.get? kS = some (seqObj "list" kA e) ∧ s'.heap.get? a = some (seqObj "list" #[] e1) ∧ IntsAre kA.toList (ks.take i)) vs 0 s ⟨#[], 0, hK, gk, ga, by simpa using IntsAre.nil⟩ ?_ ?_)
  · rintro j x s' hx ⟨kA, e, hK', gk', ga', hk⟩
    rw [Nat.zero_add] at hk ⊢
    have hj := (List.getElem?_eq_some_iff.mp hx).1
    obtain ⟨k, hkj⟩ : ∃ k, ks[j]? = some k := ⟨_, List.getElem?_eq_getElem (by omega)⟩
    have hkz : kA.size ≤ vs.length := by have := hk.length; rw [Array.length_toList, List.length_take] at this; omega
    refine wpAny_bind (wpAny_attempt (wpAny_mono (turn j x k hx hkj s' [(kS, seqObj "list" kA e), (a, seqObj "list" #[] e1)] hK' fun p hp => ?_) (fun v s2 he => ?_) fun _ _ z => z.elim))
    · simp only [List.mem_cons, List.not_mem_nil, or_false] at hp
      rcases hp with rfl | rfl
      · exact ⟨mk, gk'⟩
      · exact ⟨ma, ga'⟩
    · obtain ⟨⟨t, rfl⟩, K2, ho⟩ := he
      have gk2 := ho _ List.mem_cons_self
      have ga2 := ho _ (List.mem_cons_of_mem _ List.mem_cons_self)
      have u1 := Heap.SameBut.update s2.heap kS (Obj.mapSeq (·.push (Value.int k t)))
      dsimp only at gk2 ga2 ⊢
      refine wpAny_bind (listUpdate_at gk2 rfl ?_ (by omega) (by rw [Array.size_push]; omega))
      refine wpAny_pure ⟨rfl, kA.push (Value.int k t), _, K.but K2 mk ⟨_, get?_update_seq gk2 _⟩ u1, get?_update_seq gk2 _, (u1.2 a hka.symm).trans ga2, ?_⟩
      rw [Array.toList_push, List.take_add_one, hkj]; exact ksk_snoc hk
  · rintro s' ⟨kA, e, hK', gk', ga', hk⟩
    rw [List.take_of_length_le (by omega)] at hk
    refine wpAny_bind (listItems_at gk' rfl ?_)
    exact end_ K hK' mk ma hka gk' ga' hk hl hz h
/-- sorted(xs, key=f) -/
theorem sorted_key {l fa : Addr} {Q : Value → Shared → Prop} (K : Keep Kp) (hK : Kp [] s) (hls : s.heap.IsList l vs.toArray) (hl : ks.length = vs.length) (hz : vs.length ≤ sizeLine)
    (turn : ∀ (own : List Addr) (i : Nat) (v : Value) (k : Int), vs[i]? = some v → ks[i]? = some k → ∀ (s1 : Shared) (os : List (Addr × Obj)), Kp own s1 → (∀ p ∈ os, p.1 ∈ own ∧ s1.heap.get? p.1 = some p.2) →
      wpAny (model prog w) A.in1.in1 (call (.ref fa) [v]) (fun u s2 => (∃ t, u = .int k t) ∧ Kp own s2 ∧ ∀ p ∈ os, s2.heap.get? p.1 = some p.2) (fun _ _ => False) s1)
    (h : ∀ s' D (out : List Value) c, Kp [D] s' → s.heap.objs.size ≤ D → s'.heap.get? D = some (seqObj "list" out.toArray c) → KeyOut ks vs out → Q (.ref D) s') :
    wpAny (model prog w) A (call (.builtin "sorted") [.ref l] [(Str.ofString "key", .ref fa)]) Q E s := by
  have t0 : (seqObj "list" (#[] : Array Value) 0 : Obj) = { cls := .type "list", data := .seq ([] : List Value).toArray } := rfl
  have K1 := K.push (seqObj "list" #[] 0) rfl hK
  have u2 := Heap.SameBut.update (s.heap.push (seqObj "list" #[] 0)) s.heap.objs.size (Obj.mapSeq (· ++ vs.toArray)); have K2 := K.but K1 List.mem_cons_self ⟨_, get?_update_seq (Heap.get?_push_size _ rfl) _⟩ u2
  have K3 := K.push (seqObj "list" vs.toArray 0) rfl K2
  have hsz : ((s.heap.push (seqObj "list" #[] 0)).update s.heap.objs.size (Obj.mapSeq (· ++ vs.toArray))).objs.size = s.heap.objs.size + 1 := by rw [Heap.size_update, size_push']
  dsimp only at K2 K3
  rw [hsz] at K3
  refine call_function_entry_kw kind_sorted plain_sorted entry_sorted (ksk_s1 _ _) ?_
  unfold Builtin.«sorted»; refine wpAny_bind (m := checkCount "sorted" 1 1 _) (wpAny_pure ?_); refine wpAny_bind (collect_list hls ?_ hz); refine wpAny_bind (wpAny_newList ?_ hz)
  show wpAny _ _ _ _ _ { s with heap := ((s.heap.push (seqObj "list" #[] 0)).update s.heap.objs.size (Obj.mapSeq (· ++ vs.toArray))).push (seqObj "list" vs.toArray 0) }
  have hoL : (((s.heap.push (seqObj "list" #[] 0)).update s.heap.objs.size (Obj.mapSeq (· ++ vs.toArray))).push (seqObj "list" vs.toArray 0)).get? (s.heap.objs.size + 1) = some (seqObj "list" vs.toArray 0) := by rw [← hsz]; exact Heap.get?_push_size _ rfl
  rw [hsz]
  generalize hhp : ((s.heap.push (seqObj "list" #[] 0)).update s.heap.objs.size (Obj.mapSeq (· ++ vs.toArray))).push (seqObj "list" vs.toArray 0) = hp at K3 hoL
  have hpz : hp.objs.size = s.heap.objs.size + 2 := by rw [← hhp, size_push', hsz]
  refine wpAny_bind (wpAny_holding (wpAny_call_entry_kw slot_list_sort ⟨_, hoL, rfl⟩ entry_list_sort ?_ (ksk_l1 _ _)))
  show wpAny (model prog w) A.in1.in1 (Builtin.«list.sort» ⟨[.ref (s.heap.objs.size + 1)], _⟩) _ _ _
  rw [ksk_t1]
  unfold ksk_tree
  have u4 := Heap.SameBut.update hp (s.heap.objs.size + 1) (Obj.mapSeq fun _ => (#[] : Array Value)); have K4 := K.but K3 List.mem_cons_self ⟨_, get?_update_seq hoL _⟩ u4
  have g4 := get?_update_seq hoL fun _ => (#[] : Array Value)
  have K5 := K.push (seqObj "tuple" vs.toArray 0) rfl K4
  have K6 := K.push (seqObj "list" #[] 0) rfl K5
  have z5 : ((hp.update (s.heap.objs.size + 1) (Obj.mapSeq fun _ => (#[] : Array Value))).push (seqObj "tuple" vs.toArray 0)).objs.size = s.heap.objs.size + 3 := by rw [size_push', Heap.size_update, hpz]
  dsimp only at K5 K6
  rw [z5, Heap.size_update, hpz] at K6
  refine wpAny_bind (listItems_at hoL rfl ?_); refine wpAny_bind (listUpdate_at hoL rfl ?_ (by rw [List.size_toArray]; exact hz) (Nat.zero_le _)); refine wpAny_bind (seqEpoch_at g4 rfl ?_)
  refine wpAny_bind (wpAny_newTuple ?_ (by show vs.length ≤ _; exact hz)); refine wpAny_bind (wpAny_newList ?_ (Nat.zero_le _)); refine wpAny_holding ?_
  show wpAny (model prog w) A.in1.in1 (ksk_rest (s.heap.objs.size + 1) (.ref fa) false vs.toArray _ (.ref ((hp.update (s.heap.objs.size + 1) (Obj.mapSeq fun _ => (#[] : Array Value))).push (seqObj "tuple" vs.toArray 0)).objs.size)) _ _
    { s with heap := ((hp.update (s.heap.objs.size + 1) (Obj.mapSeq fun _ => (#[] : Array Value))).push (seqObj "tuple" vs.toArray 0)).push (seqObj "list" #[] 0) }
  rw [z5]
  refine rest_ (kS := s.heap.objs.size + 3) (a := s.heap.objs.size + 1) K K6 List.mem_cons_self (by simp) (fun q => by have q : s.heap.objs.size + 3 = s.heap.objs.size + 1 := q; omega) (by rw [← z5]; exact Heap.get?_push_size _ rfl) (Heap.get?_push_of_some _ (Heap.get?_push_of_some _ g4)) hl hz (turn _) fun s' out c k' g' ko => ⟨_, rfl, ?_⟩
  exact wpAny_pure ⟨_, rfl, h s' _ out c (K.less k' fun x hx => by rw [List.mem_singleton.mp hx]; simp) (Nat.le_succ _) g' ko⟩
end
end SK

set_option maxHeartbeats 4000000
/-! sorted(xs, key=f) over the layer. -/
namespace SK
open PySem L2 PySem.Spec PyProof.Rows
theorem perm_pull {α β : Type} {R : α → β → Prop} : ∀ {ps l2 : List β}, ps.Perm l2 → ∀ {l1 : List α}, Paired R l1 l2 → ∃ ys : List α, ys.Perm l1 ∧ Paired R ys ps := by
  intro ps l2 h
  induction h with
  | nil => intro l1 r; cases r; exact ⟨[], .nil, .nil⟩
  | cons x _ ih =>
    intro l1 r
    cases r with
    | cons a t =>
      obtain ⟨ys, p, q⟩ := ih t
      exact ⟨_ :: ys, p.cons _, .cons a q⟩
  | swap x y l =>
    intro l1 r
    cases r with
    | cons a t =>
      cases t with
      | cons b t => exact ⟨_, List.Perm.swap _ _ _, .cons b (.cons a t)⟩
  | trans _ _ ih1 ih2 =>
    intro l1 r
    obtain ⟨ys, p, q⟩ := ih2 r
    obtain ⟨zs, p2, q2⟩ := ih1 q
    exact ⟨zs, p2.trans p, q2⟩
theorem zip_pair {α β : Type} {R : α → β → Prop} : ∀ (ks : List Int) {l1 : List α} {l2 : List β}, Paired R l1 l2 → Paired (fun (y : Int × α) (p : Int × β) => y.1 = p.1 ∧ R y.2 p.2) (ks.zip l1) (ks.zip l2)
  | [], _, _, _ => .nil
  | _ :: _, _, _, .nil => .nil
  | k :: ks, _, _, .cons a t => .cons ⟨rfl, a⟩ (zip_pair ks t)
theorem pair_snd {α β : Type} {R : α → β → Prop} : ∀ {ys : List (Int × α)} {ps : List (Int × β)}, Paired (fun (y : Int × α) (p : Int × β) => y.1 = p.1 ∧ R y.2 p.2) ys ps → Paired R (ys.map (·.2)) (ps.map (·.2)) ∧ ys.map (·.1) = ps.map (·.1)
  | _, _, .nil => ⟨.nil, rfl⟩
  | _, _, .cons a t => ⟨.cons a.2 (pair_snd t).1, by rw [List.map_cons, List.map_cons, a.1, (pair_snd t).2]⟩
theorem pw_fst {α : Type} {l : List (Int × α)} : (l.Pairwise fun p q => p.1 ≤ q.1) ↔ (l.map (·.1)).Pairwise (· ≤ ·) := by rw [List.pairwise_map]
variable {X : Cx}
/-- what is known between the calls of f -/
def KpL (X : Cx) (R : Hp → Prop) (H : Hp) (s : Shared) (own : List Addr) (s1 : Shared) : Prop :=
  ∃ H1, R H1 ∧ s1.os = s.os ∧ AllBare s1.gens ∧ Un (frs X.stack) [] H H1 s.heap s1.heap ∧ HOk X.prog X.w H1 s1.heap ∧ ∀ a ∈ own, s.heap.get? a = none ∧ H1 a = none ∧ (∃ o, s1.heap.get? a = some o) ∧ a ∉ frs X.stack
theorem un_no {fs : List Addr} {H H1 : Hp} {h h1 : Heap} (u : Un fs [] H H1 h h1) {a : Addr} (n : h1.get? a = none) : h.get? a = none := by
  cases e : h.get? a with
  | none => rfl
  | some o =>
    obtain ⟨o', q⟩ := u.there a o e (by simp)
    rw [n] at q; cases q
theorem keepL {pins : List (Addr × Obj)} {σ : L2.St} {R : Hp → Prop} {H : Hp} {s : Shared} (I : Inv X pins σ H s) : Keep (KpL X R H s) where
  push := fun {own s1} o hfr ⟨H1, r, os, br, un, ok, ow⟩ => by
    have k : ∀ b u, s1.heap.get? b = some u → (s1.heap.push o).get? b = some u := fun b u e => Heap.get?_push_of_some _ e
    refine ⟨H1, r, os, br, un.trans (Un.kept k), ok.kept k, fun a ha => ?_⟩
    rcases List.mem_cons.mp ha with e | ha
    · subst e
      have n1 := Heap.get?_none_of_le (h := s1.heap) (Nat.le_refl s1.heap.objs.size)
      refine ⟨un_no un n1, ok.fresh (Nat.le_refl _), ⟨_, Heap.get?_push_size _ hfr⟩, fun z => ?_⟩
      have I1 := I.call' (s' := s1) (ch := []) os un ok br fun b z => absurd z (by simp)
      obtain ⟨_, o2, h2, _⟩ := I1.stack.mem z
      rw [n1] at h2; cases h2
    · obtain ⟨x1, x2, ⟨u, x3⟩, x4⟩ := ow a ha
      exact ⟨x1, x2, ⟨u, k _ _ x3⟩, x4⟩
  but := fun {own s1 h' a} ⟨H1, r, os, br, un, ok, ow⟩ ha he sb => by
    obtain ⟨x1, x2, _, x4⟩ := ow a ha
    have k : ∀ b u, b ≠ a → s1.heap.get? b = some u → h'.get? b = some u := fun b u n e => (sb.2 b n).trans e
    have ne : ∀ b o, s.heap.get? b = some o → b ≠ a := fun b o e z => by subst z; rw [x1] at e; cases e
    refine ⟨H1, r, os, br, ⟨fun b o e n f x => k b o (ne b o e) (un.keep b o e n f x), fun b o e n f x => ?_, un.free, fun b o e x => ?_, un.tups, un.frzs, un.tbls⟩, fun c u q => ?_, fun b hb => ?_⟩
    · obtain ⟨sl, q⟩ := un.slot b o e n f x
      exact ⟨sl, k b _ (ne b o e) q⟩
    · obtain ⟨o', q⟩ := un.there b o e x
      exact ⟨o', k b _ (ne b o e) q⟩
    · refine (ok c u q).stay (fun b v hb e => k b v (fun z => ?_) e) (fun _ q => q) fun _ _ q => q
      subst z
      rcases hb with rfl | hb
      · rw [x2] at q; cases q
      · rw [x2] at hb; cases hb
    · obtain ⟨y1, y2, ⟨u, y3⟩, y4⟩ := ow b hb
      refine ⟨y1, y2, ?_, y4⟩
      by_cases z : b = a
      · subst z; exact he
      · exact ⟨u, k b u z y3⟩
  less := fun ⟨H1, r, os, br, un, ok, ow⟩ h => ⟨H1, r, os, br, un, ok, fun a ha => ow a (h a ha)⟩
/-- sorted(l, key=f) -/
def rSortK (X : Cx) : List V → List V → Hp → VK → Prop := fun xs zs H Q => ∃ (l fa : Addr) (vs : List V) (ks : List Int) (R : Hp → Prop) (fd : FuncData) (ps : List Str) (k : Nat) (sp : Sp),
  xs = [.ref l] ∧ zs = [.ref fa] ∧ SqL X.K H l vs ∧ R H ∧ ks.length = vs.length ∧ FnOk X.prog X.w X.K X.mg X.base (L2.CX X.prog X.w) k fa fd ps sp ∧ Room (k + 2) X.A ∧ Binds X.K fd ps [] ∧
  (∀ (i : Nat) v n, vs[i]? = some v → ks[i]? = some n → ∀ H1, R H1 → sp [v] H1 (fun u H2 => u = .int n ∧ R H2) (fun _ _ _ => False)) ∧
  (∀ (ys : List (Int × V)) H1 D, ys.Perm (ks.zip vs) → (ys.Pairwise fun p q => p.1 ≤ q.1) → R H1 → H1 D = none → Q (.ref D) (upd H1 D (.lst (ys.map (·.2)))))
theorem cr_sortK : CallRK X (.builtin "sorted") [Str.ofString "key"] (rSortK X) := by
  intro pins s σ H xs zs us ws Q I r rz h
  obtain ⟨l, fa, vs, ks, R, fd, ps, k, sp, rfl, rfl, hs, hR, hl, F, hroom, hb, turn, q⟩ := h
  obtain rfl := Vals.ref1 r
  obtain rfl := Vals.ref1 rz
  obtain ⟨its, rv, hli, hz⟩ := I.list hs
  have K := keepL (R := R) I
  have hz2 : its.length ≤ sizeLine := by rw [← rv.length]; exact hz
  refine sorted_key (vs := its) (ks := ks) K ⟨H, hR, rfl, I.bare, Un.refl, I.hok, fun a h => absurd h (by simp)⟩ hli.isList (by rw [hl, rv.length]) hz2 (fun own i v n hv hn s1 os ⟨H1, r1, o1, b1, u1, k1, w1⟩ ho => ?_) fun s' D out c ⟨H1, r1, o1, b1, u1, k1, w1⟩ hD hg ko => ?_
  · have I1 := I.call' (s' := s1) (ch := []) o1 u1 k1 b1 fun b z => absurd z (by simp)
    obtain ⟨x, hx⟩ : ∃ x, vs[i]? = some x := ⟨vs[i]'(by rw [← hl]; exact (List.getElem?_eq_some_iff.mp hn).1), List.getElem?_eq_getElem _⟩
    obtain ⟨u, hu, ru⟩ := rv.get hx
    rw [hv] at hu
    cases hu
    have hsp := turn i x n hx hn H1 r1
    have hlen := F.len _ _ _ _ hsp
    refine wpAny_call (codeAny_mono (F.run X.A.in1.in1 X.stack s1 H1 ⟨[v], []⟩ [v] [x] _ _ hroom.in1.in1 I1.env0.in1.in1 (by have := hb s1 [v] I1.kIn (by rw [List.append_nil]; exact hlen); rwa [List.append_nil] at this) (.cons ru .nil) hsp) fun res s2 hq => ?_)
    cases res with
    | error e => obtain ⟨_, _, _, _, _, _, _, _, _, _, _, _, z⟩ := hq; exact z
    | ok fl =>
      cases fl with
      | ret u =>
        obtain ⟨y, H2, os2, bare2, un2, hok2, ry, rfl, r2⟩ := hq
        refine ⟨ry, ⟨H2, r2, os2.trans o1, bare2, u1.trans un2, hok2, fun a ha => ?_⟩, fun p hp => ?_⟩
        · obtain ⟨x1, x2, ⟨ob, x3⟩, x4⟩ := w1 a ha
          exact ⟨x1, un2.free a ob x3 x2 (by simp), ⟨ob, un2.keep a ob x3 x2 x4 (by simp)⟩, x4⟩
        · obtain ⟨hm, hg⟩ := ho p hp
          obtain ⟨x1, x2, _, x4⟩ := w1 p.1 hm
          exact un2.keep p.1 p.2 hg x2 x4 (by simp)
      | next => exact hq.elim
      | brk => exact hq.elim
      | cont => exact hq.elim
  · obtain ⟨x1, x2, _, x4⟩ := w1 D List.mem_cons_self
    obtain ⟨pz, p1, p2, p3⟩ := ko
    obtain ⟨ys, y1, y2⟩ := perm_pull p1 (zip_pair ks rv)
    obtain ⟨y3, y4⟩ := pair_snd y2
    have hyl : (ys.map (·.2)).length ≤ sizeLine := by
      rw [List.length_map, y1.length_eq, List.length_zip, hl, Nat.min_self]; exact hz
    have ok2 : HOk X.prog X.w (upd H1 D (.lst (ys.map (·.2)))) s'.heap := fun b u e => by
      by_cases hb : b = D
      · subst hb; rw [upd_same] at e; cases e
        exact ⟨hyl, out, c, by rw [p2]; exact y3, hg⟩
      · rw [upd_ne hb] at e
        exact (k1 b u e).stay (fun c v _ q => q) (fun c q => by rw [upd_ne (ne_of_none q x2)]; exact q) fun c xs q => by rw [upd_ne (ne_of_none q x2)]; exact q
    refine I.after ⟨.ref D, upd H1 D (.lst (ys.map (·.2))), o1, b1, ?_, ok2, rfl, q ys H1 D y1 ?_ r1 x2⟩
    · refine ⟨u1.keep, u1.slot, fun b o e n x => ?_, u1.there, fun b xs e => ?_, fun b o u e => ?_, fun b ps e => ?_⟩
      · rw [upd_ne (fun z => by subst z; rw [x1] at e; cases e)]; exact u1.free b o e n x
      · have := u1.tups b xs e; rw [upd_ne (ne_of_none this x2)]; exact this
      · have := u1.frzs b o u e; rw [upd_ne (ne_of_none this x2)]; exact this
      · obtain ⟨m, this⟩ := u1.tbls b ps e
        exact ⟨m, by rw [upd_ne (ne_of_none this x2)]; exact this⟩
    · rw [pw_fst, y4, ← pw_fst]; exact p3
end SK
namespace PW
open PySem L2
variable [KC]
variable {m₀ : Mo} {N₀ : List Str} {sc₀ : Scope} {lv₀ : Nat} {xp₀ : Addr → List Sl → List Mem → Prop} {fF₀ cm₀ : Bool}
variable {c : Ctx m₀ N₀ sc₀ lv₀ xp₀ fF₀ cm₀} {a : Expr} {ρ : List Sl} {rs : List Mem} {K : Sl → List Mem → Prop} {pos p2 p3 kp : Pos} {fx : Str} {kk : Nat} {Cf : Cn}
theorem is_pair {G : Fp} {H : Hp} : ∀ {vs : List V} {ds : List PyData}, IsAll G H vs ds → Paired (fun d v => Is G H v d) ds vs
  | _, _, .nil => .nil
  | _, _, .cons h t => .cons h (is_pair t)
theorem pair_is {G : Fp} {H : Hp} : ∀ {ds : List PyData} {vs : List V}, Paired (fun d v => Is G H v d) ds vs → IsAll G H vs ds
  | _, _, .nil => .nil
  | _, _, .cons h t => .cons h (pair_is t)
/-- sorted(xs, key=f), f a def of the module -/
theorem dx_sortK (F : FnIs m₀ fx kk Cf) (h : DX c a ρ rs fun s r => ∃ (ds : List PyData) (ks : List Int), s.plain.asList = some ds ∧ ks.length = ds.length ∧ (∀ (i : Nat) d n, ds[i]? = some d → ks[i]? = some n → ∀ (res : Sl → List Mem → Prop) exc, res (.d (.int n)) [] → Cf [.d d] [] res exc) ∧
      ∀ ps : List (Int × PyData), ps.Perm (ks.zip ds) → (ps.Pairwise fun p q => p.1 ≤ q.1) → K (.n (ps.map (·.2))) r)
    (hcm : cm₀ = true := by rfl) (hk : kk + 2 ≤ lv₀ := by decide) (hg : KdIn sc₀.names ("sorted" : Str) .globalImplicit := by first | ((with_reducible (repeat (first | exact KdIn.zero | apply KdIn.succ))); (first | (all_goals fail) | fail)) | exact kd_of rfl)
    (hf : KdIn sc₀.names fx .globalImplicit := by first | ((with_reducible (repeat (first | exact KdIn.zero | apply KdIn.succ))); (first | (all_goals fail) | fail)) | exact kd_of rfl)
    (he : starEach [a] c.X.env = (false, eval a c.X.env) :: starEach [] c.X.env := by rfl) (he2 : backTo pos (starEach [a] c.X.env) = (false, eval a c.X.env) :: backTo pos (starEach [] c.X.env) := by rfl)
    (hpl : (backTo pos (starEach [a] c.X.env)).any (·.1) = false := by rfl) : DX c (.Call (.Name "sorted" p2) [a] [⟨some "key", .Name fx p3, kp⟩] pos) ρ rs K := by
  intro σ H G Q hE hs hx hq
  obtain ⟨f, fd, ps, F, h1, h2, h3⟩ := F.ex
  have pf : PE c.X (.Name fx p3) (tC (.ref f)) := pe_glob (v := .ref f) (show c.X.env.kindOf fx = _ by unfold Env.kindOf; rw [c.hsc]; exact c.look hf) (by rw [c.hm.mg]; exact h1) rfl (c.nd1 hf)
  refine tE_of (pe_callBK SK.cr_sortK (c_gl hg) (by rw [c.hm.mg]; exact c.bl.sorted) b_sorted (pa_cons pe_t pa_nil he) (pk_cons pf pk_nil) (he := he2) (hpl := hpl)) ?_
  refine h σ H G _ hE hs hx fun v H1 G1 s1 r1 t1 q1 o1 k1 => ?_
  obtain ⟨ds, ks, e, hl, hc, k⟩ := k1
  obtain ⟨p, ws, rfl, r, al⟩ := SlOk.list q1.ok.plain e
  refine ⟨p, f, ws, ks, fun H2 => ∃ G2, Stp G1 G2 H1 H2 ∧ sepL r1 G2 G2 H2 ∧ IsAll G2 H2 ws ds, fd, ps, kk, spC Cf, rfl, rfl, c.ck ▸ r.sq, ⟨G1, Stp.refl _ _, o1, al⟩, by rw [hl, al.length], fn_at c.hm F, (c.room hcm).mono hk, by rw [c.hm.K]; exact h3, ?_, ?_⟩
  · rintro i x n hx hn H2 ⟨G2, t2, o2, al2⟩
    obtain ⟨d, hd, hi⟩ := al2.getV hx
    refine ⟨[.d d], sepM r1, [], G2, fun sl rs' => sl = .d (.int n) ∧ rs' = [], fun _ _ => False, ⟨hi, trivial⟩, sepM_app.mpr o2, hc i d n hd hn _ _ ⟨rfl, rfl⟩, fun u H3 G3 sl rs' t3 q3 o3 ⟨e1, e2⟩ => ?_, fun _ _ _ _ _ _ z => z⟩
    subst e1 e2
    have q3 : Is G3 H3 u (.int n) := q3
    cases q3
    exact ⟨rfl, G3, t2.trans t3, sepM_app.mp o3, al2.stp t3⟩
  · rintro ys H2 D hp hw ⟨G2, t2, o2, al2⟩ hD
    obtain ⟨zs, z1, z2⟩ := SK.perm_pull hp (SK.zip_pair ks (is_pair al2))
    obtain ⟨z3, z4⟩ := SK.pair_snd (R := fun (d : PyData) (v : V) => Is G2 H2 v d) z2
    have st : Stp G2 G2 H2 (upd H2 D (.lst (ys.map (·.2)))) := stp_new hD
    refine hq _ _ G2 (.n (zs.map (·.2))) r1 ((t1.trans t2).trans st) ⟨D, _, rfl, (t1.trans t2).fresh hD, o2.fresh hD, upd_same, (pair_is z3).stp st⟩ (sepL.step st.sub o2 fun a o q _ => same_new hD a o q) (k zs z1 ?_)
    rw [SK.pw_fst, z4, ← SK.pw_fst]; exact hw
end PW

set_option maxHeartbeats 4000000
/-! Sets of one kind of key, with a table that can be walked: for sorted(set(texts)). -/
namespace SG
open PySem PyProof.Rows L2
section
variable {prog : Program} {w : World} {K : Type} [DecidableEq K] {knd : KeyKind prog w K} {A : Around} {E : Value → Shared → Prop} {s : Shared} {a : Addr}
/-- no two entries with one key -/
def Apart (knd : KeyKind prog w K) (l : List (Int × Value)) : Prop := l.Pairwise fun e f => ∀ k, knd.is k e.2 = true → ¬ knd.is k f.2 = true
/-- the table can be walked -/
def Good (w : World) (t : SetTable) : Prop := Ris t.place.toList ∧ (w.params.followText "set-order" = true ∨ t.led = true)
/-- SetOf with its entries apart and its table good -/
def SetG (knd : KeyKind prog w K) (h : Heap) (a : Addr) (S : K → Bool) (n : Nat) : Prop :=
  ∃ o es ep t, h.get? a = some o ∧ o.ExactSet ∧ o.data = .set es ep t ∧ ElemsOf knd es.toList ∧ (∀ k, S k = true ↔ ∃ e ∈ es.toList, knd.is k e.2 = true)
    ∧ es.size < scanBound ∧ t.fits es.size = true ∧ es.size = n ∧ Apart knd es.toList ∧ Good w t
theorem SetG.setOf {h : Heap} {S : K → Bool} {n : Nat} (R : SetG knd h a S n) : h.SetOf knd a S n := by
  obtain ⟨o, es, ep, t, h1, h2, h3, h4, h5, h6, h7, h8, _⟩ := R
  exact ⟨o, es, ep, t, h1, h2, h3, h4, h5, h6, h7, h8⟩
theorem SetG.at {h h' : Heap} {S : K → Bool} {n : Nat} (R : SetG knd h a S n) (k : ∀ o, h.get? a = some o → h'.get? a = some o) : SetG knd h' a S n := by
  obtain ⟨o, es, ep, t, ho, r⟩ := R
  exact ⟨o, es, ep, t, k o ho, r⟩
theorem Apart.perm {l l' : List (Int × Value)} (h : Apart knd l) (p : l'.Perm l) : Apart knd l' :=
  p.symm.pairwise h fun h k a b => h k b a
theorem Good.lay {t : SetTable} {es : Array (Int × Value)} {h : Int} {x : Value} (g : Good w t) : Good w (layNew t es h x).2.1 :=
  ⟨layNew_ris t es h x g.1, g.2.imp id fun z => by rw [layNew_led]; exact z⟩
theorem Good.relay {t : SetTable} {es : Array (Int × Value)} {n : Nat} (g : Good w t) : Good w (relayAll t es n).2.1 :=
  ⟨relayAll_ris t es n, g.2.imp id fun z => by rw [relayAll_led]; exact z⟩
theorem Good.off {t : SetTable} (g : Good w t) : Good w { t with plain := false } := g
/-- what stands behind a key that is not in: the store, and the table laid anew -/
theorem tail_ {g : Bool → Sem Unit} (hg : ∀ (b : Bool) (s₁ : Shared) (Q' : Unit → Shared → Prop), Q' () s₁ → wpAny (model prog w) A (g b) Q' E s₁)
    {o : Obj} {es : Array (Int × Value)} {ep : Nat} {t : SetTable} (ho : s.heap.get? a = some o) (hex : o.ExactSet) (hd : o.data = .set es ep t)
    {es1 : Array (Int × Value)} {t2 : SetTable} {S' : K → Bool} (hel : ElemsOf knd es1.toList) (hm : ∀ k', S' k' = true ↔ ∃ e ∈ es1.toList, knd.is k' e.2 = true)
    (hb : es1.size < scanBound) (hf : t2.fits es1.size = true) (ap : Apart knd es1.toList) (gd : Good w t2) {wasDummy : Bool} {R : Option Bool → Shared → Prop}
    (h : ∀ h', Heap.SameBut a s.heap h' → SetG knd h' a S' es1.size → R (some true) { s with heap := h' }) :
    wpAny (model prog w) A (do
        storeSet a es1 t2
        if (!wasDummy && t2.tooFull) = true then do
            g (relayAll t2 es1 (SetTable.grown es1.size)).2.2
            storeSet a (relayAll t2 es1 (SetTable.grown es1.size)).1 (relayAll t2 es1 (SetTable.grown es1.size)).2.1
            pure (some true)
          else pure (some true)) R E s := by
  refine wpAny_bind (wpAny_storeSet_of ho hd ?_ (fits_of_scanBound hb))
  have ho1 := store_at (es' := es1) (t' := t2) ho hd
  have sb := Heap.SameBut.update s.heap a (Obj.putSet es1 t2)
  split
  · have pm := relayAll_perm t2 es1 (SetTable.grown es1.size)
    have hf3 := relayAll_fits t2 es1 (SetTable.grown es1.size)
    have g3 := gd.relay (es := es1) (n := SetTable.grown es1.size)
    generalize relayAll t2 es1 (SetTable.grown es1.size) = Z at pm hf3 g3 ⊢
    obtain ⟨es2, t3, gave⟩ := Z
    dsimp only at pm hf3 g3 ⊢
    have hsz : es2.size = es1.size := by rw [← Array.length_toList, pm.length_eq, Array.length_toList]
    refine wpAny_bind (hg _ _ _ ?_)
    refine wpAny_bind (wpAny_storeSet_of ho1 rfl ?_ (fits_of_scanBound (by rw [hsz]; exact hb)))
    have ho2 := store_at (es' := es2) (t' := t3) ho1 rfl
    refine wpAny_pure (h _ (sb.trans (Heap.SameBut.update _ a _)) ⟨_, es2, _, t3, ho2, hex, rfl, hel.perm pm, fun k => (hm k).trans ?_, by rw [hsz]; exact hb, hf3, hsz, ap.perm pm, g3⟩)
    exact ⟨fun ⟨e, he, q⟩ => ⟨e, pm.mem_iff.mpr he, q⟩, fun ⟨e, he, q⟩ => ⟨e, pm.mem_iff.mp he, q⟩⟩
  · exact wpAny_pure (h _ sb ⟨_, es1, _, t2, ho1, hex, rfl, hel, hm, hb, hf, rfl, ap, gd⟩)
/-- a key is put in -/
theorem add_ {S : K → Bool} {n : Nat} {k : K} {x : Value} {Q : Bool → Shared → Prop} (hkey : knd.is k x = true) (hsc : x.scannable = true) (R : SetG knd s.heap a S n) (room : n + 1 < scanBound)
    (h : ∀ h', Heap.SameBut a s.heap h' → SetG knd h' a (fun k' => S k' || decide (k' = k)) (if S k = true then n else n + 1) → Q (!S k) { s with heap := h' }) :
    wpAny (model prog w) A (setAddHashed a x (knd.hash k)) Q E s := by
  obtain ⟨o, es, ep, t, ho, hex, hd, hel, hm, hb, hf, hn, ap, gd⟩ := R
  unfold setAddHashed setAddHashedIn
  refine wpAny_holding (wpAny_bind (wpAny_setState_of ho hd hf ?_))
  dsimp only
  rw [byScan_of hsc hb hel]
  simp only [↓reduceIte]
  unfold setAddByScan
  refine wpAny_bind (wpAny_bind (wpAny_rule (wpAny_bind (wpAny_setScan_of hkey ho hd hf hel ?_))))
  have hgw : ∀ (b : Bool) (s₁ : Shared) (Q' : Unit → Shared → Prop), Q' () s₁ → wpAny (model prog w) A (match b with | true => rule "set.scan.the-table-gave-way" | false => pure ()) Q' E s₁ :=
    fun b s₁ Q' q => by cases b <;> first | exact wpAny_pure q | exact wpAny_rule q
  cases hfi : List.findIdx? (fun e => knd.is k e.2) es.toList with
  | some j =>
    dsimp only
    obtain ⟨hj, pj, _⟩ := List.findIdx?_eq_some_iff_getElem.mp hfi
    have hSk : S k = true := (hm k).2 ⟨es.toList[j], List.getElem_mem hj, pj⟩
    have q := h s.heap (Heap.SameBut.refl a s.heap) ⟨o, es, ep, t, ho, hex, hd, hel, fun i => by
      rw [Bool.or_eq_true, decide_eq_true_eq, ← hm i]
      exact ⟨fun z => z.elim id (fun e => e ▸ hSk), .inl⟩, hb, hf, by rw [if_pos hSk]; exact hn, ap, gd⟩
    rw [hSk] at q
    exact wpAny_pure (wpAny_pure q)
  | none =>
    dsimp only
    have hno : ∀ e ∈ es.toList, ¬ knd.is k e.2 = true := fun e he q => by
      have c := List.findIdx?_eq_none_iff.mp hfi e he
      rw [q] at c
      cases c
    have hSk : S k = false := Bool.eq_false_iff.mpr fun q => by
      obtain ⟨e, he, z⟩ := (hm k).1 q
      exact hno e he z
    have pm := layNew_perm t es (knd.hash k) x
    have hf1 := layNew_fits t es (knd.hash k) x
    have g1 := gd.lay (es := es) (h := knd.hash k) (x := x)
    generalize layNew t es (knd.hash k) x = Z at pm hf1 g1 ⊢
    obtain ⟨es1, t1, wasDummy, gave⟩ := Z
    dsimp only at pm hf1 g1 ⊢
    rw [Array.toList_push] at pm
    have hel1 := (hel.push hkey hsc).perm pm
    have hm1 := mem_push_iff hkey hm pm
    have ap1 : Apart knd es1.toList := by
      refine Apart.perm ?_ (pm.trans (List.perm_append_singleton _ _))
      refine List.pairwise_cons.mpr ⟨fun e he k' c d => ?_, ap⟩
      rw [knd.inj x k' k c hkey] at d
      exact hno e he d
    have hsz : es1.size = n + 1 := by rw [← Array.length_toList, pm.length_eq, List.length_append, Array.length_toList, hn]; rfl
    have hb1 : es1.size < scanBound := by rw [hsz]; exact room
    have fin : ∀ h', Heap.SameBut a s.heap h' → SetG knd h' a (fun j => S j || decide (j = k)) es1.size → Q true { s with heap := h' } := fun h' sb r => by
      have q := h h' sb
      rw [hSk] at q
      rw [hsz] at r
      exact q r
    refine wpAny_bind (hgw _ _ _ ?_)
    split
    · refine wpAny_bind ?_
      rw [hashByValue_scannable 8 hsc]
      refine wpAny_pure ?_
      refine tail_ hgw ho hex hd hel1 hm1 hb1 ?_ ap1 ?_ fun h' sb r => wpAny_pure (fin h' sb r)
      · split <;> first | exact hf1 | exact SetTable.fits_plain_off hf1
      · split <;> first | exact g1 | exact g1.off
    · refine wpAny_bind (wpAny_pure ?_)
      simp only [↓reduceIte]
      exact tail_ hgw ho hex hd hel1 hm1 hb1 hf1 ap1 g1 fun h' sb r => wpAny_pure (fin h' sb r)
/-- the set made of the first i of xs -/
def Has (xs : List K) (i : Nat) : K → Bool := fun k => decide (k ∈ xs.take i)
theorem has_succ {xs : List K} {i : Nat} {x : K} (h : xs[i]? = some x) (k : K) : (Has xs i k || decide (k = x)) = Has xs (i + 1) k := by
  unfold Has
  rw [List.take_succ, h]
  simp only [Option.toList, List.mem_append, List.mem_singleton, Bool.decide_or]
theorem SetG.congr {h : Heap} {S S' : K → Bool} {n : Nat} (R : SetG knd h a S n) (e : ∀ k, S k = S' k) : SetG knd h a S' n := by
  rw [← (funext e : S = S')]; exact R
/-- the loop of set.update -/
theorem loop_ {I : Addr} {fp wr : List Addr} {G : Array GenState → Array GenState → Prop} {n : Nat} {Pv : Nat → Value → Prop} {St : Nat → Shared → Prop} {R : Result → Shared → Prop}
    (W : WalksS prog w A.in1 I fp wr G n Pv St) (S : Addr) (hSf : S ∉ fp) (xs : List K) (hn : n = xs.length) (room : n < scanBound)
    (hval : ∀ i v, Pv i v → ∃ x, xs[i]? = some x ∧ knd.is x v = true ∧ v.scannable = true) :
    ∀ (k i : Nat) (s : Shared), n - i = k → i ≤ n → St i s → (∃ m, m ≤ i ∧ SetG knd s.heap S (Has xs i) m) →
      (∀ s' m, Moved (S :: wr) G s s' → m ≤ n → SetG knd s'.heap S (Has xs n) m → R (.ok (.ret .none)) s') →
      codeAny (model prog w) A (.builtin "set.update.loop" ⟨[.ref S, .ref I], []⟩) R s := by
  have hSw : S ∉ wr := fun h => hSf (W.sub _ h)
  have hsub : ∀ b ∈ wr, b ∈ S :: wr := fun b hb => List.mem_cons_of_mem _ hb
  intro k
  induction k with
  | zero =>
    intro i s hk hi hst ⟨m, hm, hS⟩ hR
    have hin : i = n := by omega
    subst hin
    refine codeAny_builtin F.entry_set_update_loop ?_
    rw [Around.under_plainId F.plain_set_update_loop _]
    show wpAny _ A.in1 (pyNext (.ref I) >>= _) _ _ s
    refine wpAny_bind (W.done s _ _ hst fun s' mv => ?_)
    show wpAny _ A.in1 (ret Value.none) _ _ s'
    exact wpAny_pure (hR s' m (mv.mono hsub) hm (hS.at fun o e => mv.heap S o hSw e))
  | succ k ih =>
    intro i s hk hi hst ⟨m, hm, hS⟩ hR
    have hlt : i < n := by omega
    refine codeAny_builtin F.entry_set_update_loop ?_
    rw [Around.under_plainId F.plain_set_update_loop _]
    show wpAny _ A.in1 (pyNext (.ref I) >>= _) _ _ s
    refine wpAny_bind (W.item i s _ _ hlt hst fun v s' hP hst' mv => ?_)
    obtain ⟨x, hx, hkey, hsc⟩ := hval i v hP
    have hS' := hS.at (h' := s'.heap) fun o e => mv.heap S o hSw e
    show wpAny _ A.in1 (holding [v] (setAdd S v) >>= _) _ _ s'
    refine wpAny_bind (wpAny_holding ?_)
    unfold setAdd
    refine wpAny_holding ?_
    refine wpAny_bind (knd.pyHash hkey ?_)
    refine add_ (s := { s' with toks := s'.toks + 1 }) hkey hsc hS' (by omega) fun h' hsb hS2 => ?_
    refine wpAny_pure ⟨plainId_quiet F.plain_set_update_loop _, ih (i + 1) _ (by omega) hlt (W.frame _ s' _ _ hst' (Nat.le_succ _) fun b hb o e => ?_) ⟨_, ?_, hS2.congr (has_succ hx)⟩ fun s'' m' mv' hm' hS'' => ?_⟩
    · rw [hsb.2 b (fun h : b = S => hSf (by rw [← h]; exact hb))]; exact e
    · split <;> omega
    · refine hR s'' m' (Moved.trans W.gtrans ((mv.mono hsub).then_heap (Nat.le_succ _) fun b o hb e => ?_) mv') hm' hS''
      rw [hsb.2 b (fun h : b = S => hb (by rw [h]; exact List.mem_cons_self))]; exact e
/-- a set fresh made -/
def fresh (w : World) : Obj := { cls := .type "set", dict := none, data := .set #[] 0 (.fresh 0 0 (!w.params.followText "set-order")) }
theorem SetG.new {h : Heap} (ho : h.get? a = some (fresh w)) : SetG knd h a (fun _ => false) 0 :=
  ⟨_, #[], 0, _, ho, ⟨rfl, rfl, rfl⟩, rfl, (fun e he => by simp at he), (fun k => by simp), (by decide), (by rfl), rfl, List.Pairwise.nil, List.Pairwise.nil, by
    show _ ∨ (!w.params.followText "set-order") = true
    cases w.params.followText "set-order"
    · exact .inr rfl
    · exact .inl rfl⟩
theorem none_at {h : Heap} {b : Addr} (hb : h.objs.size ≤ b) : h.get? b = none := by
  cases q : h.get? b with
  | none => rfl
  | some o => exact absurd (Nat.lt_of_lt_of_le (Heap.lt_size q) hb) (Nat.lt_irrefl _)
/-- what set(xs) leaves -/
def Made (knd : KeyKind prog w K) (xs : List K) (s s' : Shared) : Prop :=
  s'.gens = s.gens ∧ s'.drawn = s.drawn ∧ s'.os = s.os ∧ (∃ m, m ≤ xs.length ∧ SetG knd s'.heap s.heap.objs.size (Has xs xs.length) m) ∧ ∀ b o, s.heap.get? b = some o → s'.heap.get? b = some o
/-- set(xs) over a list -/
theorem call_ {l : Addr} {items : Array Value} {xs : List K} {Q : Value → Shared → Prop} (hh : A.handled = none) (hl : s.heap.IsList l items) (hsz : items.size = xs.length) (room : xs.length < scanBound)
    (hval : ∀ (i : Nat) (v : Value), items[i]? = some v → ∃ x, xs[i]? = some x ∧ knd.is x v = true ∧ v.scannable = true)
    (h : ∀ s', Made knd xs s s' → Q (.ref s.heap.objs.size) s') :
    wpAny (model prog w) A (call (.type "set") [.ref l]) Q E s := by
  obtain ⟨c, tl, hmro⟩ := F.called_set.mro
  have hmade := F.called_set.made
  have hsub := F.called_set.sub
  refine wpAny_call (codeAny_of_tree ?_)
  show wpAny _ _ (callAny (.type "set") _) _ _ _
  refine wpAny_pure ⟨Code.quiet_builtin _ (by decide +kernel), codeAny_builtin F.entry_type_call ?_⟩
  rw [Around.under_plain (weight_type_call_type "set" [.ref l] []) rfl]
  have h1 := F.called_set.notType
  have h2 := F.called_set.canCreate
  have hct := F.typeCall_set_1 (.ref l)
  repeat (any_goals (first | assumption | wp_step))
  refine codeAny_mono (code_set_led1 (.ref l) (E := E) (Q₁ := fun obj s₁ => obj = .ref s.heap.objs.size ∧ s₁ = { s with heap := s.heap.push (fresh w) }) ⟨rfl, rfl⟩) fun r s₁ hr => ?_
  cases r with
  | error e => exact hr
  | ok fl =>
    cases fl with
    | ret obj =>
      obtain ⟨rfl, rfl⟩ := hr
      have hS : (s.heap.push (fresh w)).get? s.heap.objs.size = some (fresh w) := Heap.get?_push_size _ rfl
      have hT : Shared.TypeIs { s with heap := s.heap.push (fresh w) } (.ref s.heap.objs.size) "set" := ⟨_, hS, rfl⟩
      have hli := F.called_set.init.lookup
      have hbi := F.called_set.init.bind (.ref s.heap.objs.size)
      repeat (any_goals (first | assumption | wp_step))
      refine codeAny_mono (codeAny_call_builtin (R := wants (fun r s₂ => r = .none ∧ Made knd xs s s₂) E) F.called_set.init.plain F.entry_set_init (check_set_init_1 hT ?_)) fun r₂ s₂ hr₂ => ?_
      · obtain ⟨ol, hol, hcl, nl, hdl⟩ := hl
        obtain ⟨ocls, odict, odata, oslots⟩ := ol
        simp only at hcl hdl
        subst hcl; subst hdl
        have hol' : (s.heap.push (fresh w)).get? l = some { cls := .type "list", dict := odict, data := .seq items nl, slots := oslots } := Heap.get?_push_of_some _ hol
        have hsls := F.sub_list_set
        have hslf := F.sub_list_frozenset
        have hne : (Value.type "list" == Value.type "dict") = false := by decide
        have hl1 : (s.heap.push (fresh w)).IsList l items := ⟨_, hol', rfl, nl, rfl⟩
        unfold Builtin.«set.__init__» noKeywords Builtin.Frozenset.updateFrom
        generalize hPI : pyIter = PI
        wp_walk
        subst hPI
        refine wpAny_pyIter_list hl1 ?_
        refine wpAny_bind (wpAny_runValue ?_)
        have hlS : l < s.heap.objs.size := Heap.lt_size hol
        have hh3 : A.in1.in1.in1.handled = none := by simp [hh]
        have hneI : l ≠ (s.heap.push (fresh w)).objs.size := by
          rw [Heap.size_push]; exact Nat.ne_of_lt (Nat.lt_succ_of_lt hlS)
        have hSf : s.heap.objs.size ∉ [(s.heap.push (fresh w)).objs.size, l] := by
          rw [Heap.size_push]; simp only [List.mem_cons, List.mem_singleton, List.not_mem_nil, or_false, not_or]
          exact ⟨Nat.ne_of_lt (Nat.lt_succ_self _), Nat.ne_of_gt hlS⟩
        refine loop_ (knd := knd) ((Walks.list hh3 _ l hneI items).toS) s.heap.objs.size hSf xs hsz (by rw [hsz]; exact room) hval (items.size - 0) 0 _ (by omega) (Nat.zero_le _)
          ⟨⟨_, Heap.get?_push_size _ rfl, rfl, rfl⟩, (hl1.push _)⟩ ⟨0, Nat.le_refl _, ?hS0⟩ ?hR
        case hS0 =>
          exact (SetG.new (knd := knd) (a := s.heap.objs.size) (Heap.get?_push_of_some _ hS)).congr fun k => by simp [Has]
        case hR =>
          intro s' m hm hmn hS'
          show wpAny _ _ _ _ _ _
          refine wpAny_pure ?_
          show wpAny _ _ (ret Value.none) _ _ _
          rw [hsz] at hS' hmn
          refine wpAny_pure ⟨rfl, hm.gens, hm.drawn, hm.os, ⟨m, hmn, hS'⟩, fun b o e => hm.heap b o ?_ (Heap.get?_push_of_some _ (Heap.get?_push_of_some _ e))⟩
          have hb := Heap.lt_size e
          rw [Heap.size_push]
          simp only [List.mem_cons, List.not_mem_nil, or_false, not_or]
          exact ⟨Nat.ne_of_lt hb, Nat.ne_of_lt (Nat.lt_succ_of_lt hb)⟩
      · cases r₂ with
        | error e => exact hr₂
        | ok fl₂ =>
          cases fl₂ with
          | ret r =>
            obtain ⟨rfl, hM⟩ := hr₂
            repeat (any_goals (first | assumption | wp_step))
            exact h _ hM
          | _ => exact hr₂.elim
    | _ => exact hr.elim
end
end SG

set_option maxHeartbeats 4000000
/-! sorted(set of texts) -/
namespace SG
open PySem PySem.Spec PyProof.Rows L2
section
variable {prog : Program} {w : World} {A : Around} {E : Value → Shared → Prop} {s : Shared} {a : Addr}
def textOf (v : Value) : Str := match v with | .str x _ => x | _ => Str.empty
theorem texts_of : ∀ (l : List Value), (∀ v ∈ l, ∃ k tk, v = Value.str k tk) → StrsAre l (l.map textOf)
  | [], _ => .nil
  | v :: l, h => by
    obtain ⟨k, tk, rfl⟩ := h v (.head _)
    exact .cons k tk (texts_of l fun v hv => h v (.tail _ hv))
theorem good_texts {l : List (Int × Value)} (h : ElemsOf (PySem.strKind prog w) l) : ∀ v ∈ l.map (·.2), ∃ k tk, v = Value.str k tk := fun v hv => by
  obtain ⟨e, he, rfl⟩ := List.mem_map.mp hv
  obtain ⟨⟨k, hk, _⟩, _⟩ := h e he
  obtain ⟨t, q⟩ := Value.isStrOf_shape hk
  exact ⟨k, t, q⟩
theorem text_is {e : Int × Value} {l : List (Int × Value)} (h : ElemsOf (PySem.strKind prog w) l) (he : e ∈ l) (k : Str) : (PySem.strKind prog w).is k e.2 = true ↔ textOf e.2 = k := by
  obtain ⟨k0, tk, q⟩ := good_texts h e.2 (List.mem_map.mpr ⟨e, he, rfl⟩)
  have i0 : (PySem.strKind prog w).is k0 e.2 = true := by rw [q]; exact strKind_is _ _ _ _
  rw [show textOf e.2 = k0 by rw [q]; rfl]
  exact ⟨fun z => ((PySem.strKind prog w).inj _ _ _ z i0).symm, fun z => z ▸ i0⟩
theorem apart_nodup : ∀ {l : List (Int × Value)}, ElemsOf (PySem.strKind prog w) l → Apart (PySem.strKind prog w) l → ((l.map (·.2)).map textOf).Nodup
  | [], _, _ => List.nodup_nil
  | e :: l, h, ap => by
    obtain ⟨a1, a2⟩ := List.pairwise_cons.mp ap
    refine List.nodup_cons.mpr ⟨fun z => ?_, apart_nodup h.tail a2⟩
    obtain ⟨v, hv, q⟩ := List.mem_map.mp z
    obtain ⟨f, hf, rfl⟩ := List.mem_map.mp hv
    exact a1 f hf (textOf e.2) ((text_is h (.head _) _).2 rfl) ((text_is h (.tail _ hf) _).2 q)
/-- sorted(S), S a set of texts -/
theorem sorted_ {S : Str → Bool} {n : Nat} {Q : Value → Shared → Prop} (R : SetG (PySem.strKind prog w) s.heap a S n) (hh : A.handled = none) (hL : n ≤ sizeLine)
    (hQ : ∀ s' p (out : Array Value) (c : Nat) (ss : List Str), (∀ b o, s.heap.get? b = some o → s'.heap.get? b = some o) → s'.gens = s.gens → s'.os = s.os → s.heap.objs.size ≤ p →
      s'.heap.get? p = some (seqObj "list" out c) → StrsAre out.toList ss → sortedS ss = true → ss.Nodup → (∀ k, k ∈ ss ↔ S k = true) → ss.length = n → Q (.ref p) s') :
    wpAny (model prog w) A (call (.builtin "sorted") [.ref a]) Q E s := by
  obtain ⟨o, es, ep, t, ho, hex, hd, hel, hm, hb, hf, hn, ap, gd⟩ := R
  refine Calls.call_function_entry kind_sorted plain_sorted entry_sorted (args_sorted1 _) ?_
  unfold Builtin.«sorted»
  refine wpAny_bind (m := checkCount "sorted" 1 1 _) (wpAny_pure ?_)
  refine wpAny_bind (collect_set (A := A.in1) hh ⟨o, ho, hex.1, hd⟩ hf hb gd.1 gd.2 fun s1 vs k1 hz g1 o1 pm => ?_)
  have hvl : vs.length = n := by rw [pm.length_eq, List.length_map, Array.length_toList]; exact hn
  have hS : StrsAre vs (vs.map textOf) := texts_of vs fun v hv => good_texts hel v (pm.mem_iff.mp hv)
  refine wpAny_bind (wpAny_newList ?_ (by rw [hvl]; exact hL))
  have hoL : (s1.heap.push (seqObj "list" vs.toArray 0)).get? s1.heap.objs.size = some (seqObj "list" vs.toArray 0) := Heap.get?_push_size _ rfl
  refine wpAny_bind (wpAny_holding (wpAny_call_entry slot_list_sort ⟨_, hoL, rfl⟩ entry_list_sort (list_sort_treeKAny strKind_oneLt hoL hS.keysOf (fun v₁ v₂ rest e => keyKind_strs (by rw [← e]; exact hS)) (by rw [hvl]; exact hL) fun st' hp hs => ⟨_, rfl, ?_⟩) (args_list_sort _)))
  obtain ⟨ss, a1, a2, a3⟩ := sorted_out_str hS hp hs
  obtain ⟨c, hc⟩ := sortedHeap_at (vs := vs) (out := (arrOf st').map (·.2)) hoL
  have pn : ss.Perm ((es.toList.map (·.2)).map textOf) := a2.trans (pm.map textOf)
  refine wpAny_pure ⟨_, rfl, hQ _ s1.heap.objs.size _ c ss (fun b u e => ?_) g1 o1 hz hc a1 a3 (pn.nodup_iff.mpr (apart_nodup hel ap)) (fun k => ?_) ?_⟩
  · have q := k1 b u e
    have hlt := Heap.lt_size q
    show (sortedHeap (s1.heap.push (seqObj "list" vs.toArray 0)) s1.heap.objs.size vs ((arrOf st').map (·.2))).get? b = some u
    rw [sortedHeap_old (Nat.ne_of_lt hlt) (by rw [size_push']; exact Nat.lt_succ_of_lt hlt)]
    exact Heap.get?_push_of_some _ q
  · rw [pn.mem_iff, hm k]
    constructor
    · intro z
      obtain ⟨v, hv, q⟩ := List.mem_map.mp z
      obtain ⟨e, he, rfl⟩ := List.mem_map.mp hv
      exact ⟨e, he, (text_is hel he k).2 q⟩
    · rintro ⟨e, he, q⟩
      exact List.mem_map.mpr ⟨e.2, List.mem_map.mpr ⟨e, he, rfl⟩, (text_is hel he k).1 q⟩
  · rw [pn.length_eq, List.length_map, List.length_map, Array.length_toList]; exact hn
end
end SG

set_option maxHeartbeats 4000000
/-! sorted(set(xs)), xs a list of texts -/
namespace SG
open PySem PySem.Spec PyProof.Rows L2
variable {X : Cx}
theorem b_sorted1 : bootBuiltins ("sorted" : Str) = some (.builtin "sorted") := by decide +kernel
/-- what sorted(set(xs)) tells -/
def tSortedSet (K : PySem.W.Frag) (ta : TE) : TE := fun σ H Q => ta σ H fun x H1 => ∃ (l : Addr) (xs : List Str), x = .ref l ∧ SqL K H1 l (xs.map V.str) ∧ xs.length < scanBound ∧ xs.length ≤ sizeLine ∧
  ∀ (ss : List Str) (p : Addr), sortedS ss = true → ss.Nodup → (∀ k, k ∈ ss ↔ k ∈ xs) → H1 p = none → Q (.ref p) (upd H1 p (.lst (ss.map V.str)))
theorem vals_of_texts : ∀ {ss : List Str} {us : List Value}, StrsAre us ss → Vals (ss.map V.str) us
  | _, _, .nil => .nil
  | _, _, .cons y t h => .cons ⟨t, rfl⟩ (vals_of_texts h)
theorem texts_vals : ∀ {ys : List Str} {us : List Value}, Vals (ys.map V.str) us → StrsAre us ys
  | [], _, .nil => .nil
  | y :: ys, _, .cons r t => by
    obtain ⟨k, rfl⟩ := r
    exact .cons y k (texts_vals t)
theorem pe_sortedSet {a : Expr} {ta : TE} {p p2 q pos : Pos} (hc : X.calm = true) (hg : Gl X "sorted") (hm : X.mg "sorted" = none) (hg2 : Gl X "set") (hm2 : X.mg "set" = none) (ha : PE X a ta)
    (na : starEach [a] X.env = (false, eval a X.env) :: starEach [] X.env := by rfl) : PE X (.Call (.Name "sorted" p) [.Call (.Name "set" p2) [a] [] q] [] pos) (tSortedSet X.K ta) := by
  refine ⟨fun pins s σ H Q I h => ?_⟩
  refine Call_ (ld_blt I hg hm b_sorted1 ?_)
  refine PyProof.Rows.callWith_builtin1 (PyProof.Rows.args_cons ?_ rfl) rfl rfl
  refine Call_ (ld_blt I hg2 hm2 PyProof.Rows.boot_set ?_)
  refine PyProof.Rows.callWith_type1 (PyProof.Rows.args_cons (thn (ha.run pins s σ H _ I h) fun v s1 ⟨x, H1, I1, r1, q1⟩ => PyProof.Rows.args_nil ?_) na) na rfl
  obtain ⟨l, xs, rfl, hq, hb, hz, q1⟩ := q1
  cases r1
  obtain ⟨its, r, pl, _⟩ := I1.list hq
  have hS := texts_vals r
  have hlen : its.length = xs.length := by rw [← r.length, List.length_map]
  refine call_ (knd := PySem.strKind X.prog X.w) (xs := xs) (I1.ok.hd hc) pl.isList (by rw [List.size_toArray]; exact hlen) hb (fun i v hv => ?_) fun s2 M => ?_
  · obtain ⟨y, t, rfl, hy⟩ := hS.item i v (by simpa using hv)
    exact ⟨y, hy, strKind_is _ _ _ _, rfl⟩
  obtain ⟨g2, d2, o2, ⟨m, hm', hR⟩, k2⟩ := M
  refine PyProof.Rows.args_nil ?_
  refine sorted_ hR (I1.ok.hd hc) (Nat.le_trans hm' hz) fun s' D out c ss k g o hp hgt hi hs hn hmem hl => ?_
  have kk : ∀ b u, s1.heap.get? b = some u → s'.heap.get? b = some u := fun b u e => k b u (k2 b u e)
  have hD : s1.heap.objs.size ≤ D := Nat.le_of_not_lt fun z => by
    obtain ⟨oS, hoS⟩ : ∃ oS, s2.heap.get? s1.heap.objs.size = some oS := by obtain ⟨o, _, _, _, ho, _⟩ := hR; exact ⟨o, ho⟩
    exact Nat.lt_irrefl _ (Nat.lt_of_lt_of_le (Nat.lt_trans z (Heap.lt_size hoS)) hp)
  have hnD : H1 D = none := I1.hok.fresh hD
  have hll : (ss.map V.str).length ≤ sizeLine := by rw [List.length_map, hl]; omega
  have J : Inv X pins σ (upd H1 D (.lst (ss.map V.str))) { s1 with heap := s'.heap, gens := s'.gens, drawn := s'.drawn, toks := s'.toks } :=
    I1.call (ch := []) (Un.laid kk hD hnD) (I1.hok.laid kk hD ⟨hll, out.toList, c, vals_of_texts hi, hgt⟩) (by rw [g, g2]; exact I1.bare) (fun _ z => nomatch z)
  have e : s' = { s1 with heap := s'.heap, gens := s'.gens, drawn := s'.drawn, toks := s'.toks } := by
    have oo : s'.os = s1.os := o.trans o2
    cases s'
    cases s1
    cases oo
    rfl
  rw [e]
  refine ⟨.ref D, _, J, rfl, q1 ss D hs hn (fun z => ?_) hnD⟩
  rw [hmem z]
  unfold Has
  rw [List.take_length, decide_eq_true_eq]
end SG

set_option maxHeartbeats 4000000
/-! sorted(set(xs)) over the layer, xs a list of texts. -/
namespace PW
open PySem PySem.Spec PyProof.Rows L2
variable [KC]
variable {m₀ : Mo} {N₀ : List Str} {sc₀ : Scope} {lv₀ : Nat} {xp₀ : Addr → List Sl → List Mem → Prop} {fF₀ cm₀ : Bool}
variable {c : Ctx m₀ N₀ sc₀ lv₀ xp₀ fF₀ cm₀} {a : Expr} {ρ : List Sl} {rs : List Mem} {K : Sl → List Mem → Prop} {pos p2 p3 q2 : Pos}
theorem is_texts {G : Fp} {H : Hp} : ∀ {xs : List Str} {ws : List V}, IsAll G H ws (xs.map PyData.str) → ws = xs.map V.str
  | [], _, .nil => rfl
  | x :: xs, _, .cons h t => by
    cases h
    rw [is_texts t]; rfl
/-- sorted(set(xs)) -/
theorem dx_sortedSet (h : DX c a ρ rs fun s r => ∃ xs : List Str, s.plain.asList = some (xs.map PyData.str) ∧ xs.length < 4096 ∧
      ∀ ss : List Str, sortedS ss = true → ss.Nodup → (∀ k, k ∈ ss ↔ k ∈ xs) → K (.n (ss.map PyData.str)) r)
    (hcm : cm₀ = true := by rfl)
    (hg : KdIn sc₀.names ("sorted" : Str) .globalImplicit := by first | ((with_reducible (repeat (first | exact KdIn.zero | apply KdIn.succ))); (first | (all_goals fail) | fail)) | exact kd_of rfl)
    (hg2 : KdIn sc₀.names ("set" : Str) .globalImplicit := by first | ((with_reducible (repeat (first | exact KdIn.zero | apply KdIn.succ))); (first | (all_goals fail) | fail)) | exact kd_of rfl)
    (he : starEach [a] c.X.env = (false, eval a c.X.env) :: starEach [] c.X.env := by rfl) : DX c (.Call (.Name "sorted" p2) [.Call (.Name "set" p3) [a] [] q2] [] pos) ρ rs K := by
  intro σ H G Q hE hs hx hq
  refine tE_of (SG.pe_sortedSet (c.calm hcm) (c_gl hg) (by rw [c.hm.mg]; exact c.bl.sorted) (c_gl hg2) (by rw [c.hm.mg]; exact c.bl.set) pe_t he) ?_
  refine h σ H G _ hE hs hx fun v H1 G1 s1 r1 t1 q1 o1 k1 => ?_
  obtain ⟨xs, e, hb, k⟩ := k1
  obtain ⟨p, ws, rfl, r, al⟩ := SlOk.list q1.ok.plain e
  obtain rfl := is_texts al
  refine ⟨p, xs, rfl, c.ck ▸ r.sq, hb, by rw [sizeLine_eq]; omega, fun ss D hs1 hn hm hD => ?_⟩
  have st : Stp G1 G1 H1 (upd H1 D (.lst (ss.map V.str))) := stp_new hD
  exact hq _ _ G1 (.n (ss.map PyData.str)) r1 (t1.trans st) ⟨D, _, rfl, t1.fresh hD, o1.fresh hD, upd_same, is_strs ss⟩ (sepL.step st.sub o1 fun a o q _ => same_new hD a o q) (k ss hs1 hn hm)
end PW

/-! A sorted list of texts without doubles is fixed by its members. -/
namespace SG
open PySem PySem.Spec PyProof.Rows
theorem lt_iff : ∀ a b : List Nat, ltCps a b = true ↔ a < b
  | [], [] => by simp [ltCps]
  | [], _ :: _ => by simp [ltCps]
  | _ :: _, [] => by simp [ltCps]
  | x :: a, y :: b => by
    rw [List.cons_lt_cons_iff, ← lt_iff a b]
    simp [ltCps]
def leS (x y : Str) : Prop := ltCps y.cps.toList x.cps.toList = false
theorem leS_iff {x y : Str} : leS x y ↔ x.cps.toList ≤ y.cps.toList := by
  unfold leS
  rw [← Bool.not_eq_true, lt_iff]
  exact List.not_lt
theorem leS_trans {x y z : Str} (a : leS x y) (b : leS y z) : leS x z := leS_iff.mpr (List.le_trans (leS_iff.mp a) (leS_iff.mp b))
theorem leS_anti {x y : Str} (a : leS x y) (b : leS y x) : x = y := by
  have h := List.le_antisymm (leS_iff.mp a) (leS_iff.mp b)
  cases x; cases y
  congr
  exact Array.ext' h
theorem rising_all : ∀ (l : List Str) (p : Str), risingS p l = true → (∀ x ∈ l, leS p x) ∧ l.Pairwise leS
  | [], _, _ => ⟨fun _ h => (by cases h), .nil⟩
  | x :: r, p, h => by
    simp only [risingS, Bool.and_eq_true, Bool.not_eq_true'] at h
    obtain ⟨h1, h2⟩ := rising_all r x h.2
    refine ⟨fun y hy => ?_, .cons h1 h2⟩
    rcases List.mem_cons.mp hy with rfl | hy
    · exact h.1
    · exact leS_trans h.1 (h1 y hy)
theorem sorted_pw : ∀ {l : List Str}, sortedS l = true → l.Pairwise leS
  | [], _ => .nil
  | x :: r, h => by
    obtain ⟨h1, h2⟩ := rising_all r x h
    exact .cons h1 h2
/-- the same members: the same list -/
theorem sorted_uniq {l l' : List Str} (h : sortedS l = true) (h' : sortedS l' = true) (n : l.Nodup) (n' : l'.Nodup) (m : ∀ k, k ∈ l ↔ k ∈ l') : l = l' :=
  ((List.perm_ext_iff_of_nodup n n').mpr m).eq_of_pairwise (fun _ _ _ _ a b => leS_anti a b) (sorted_pw h) (sorted_pw h')
end SG

set_option maxHeartbeats 4000000
/-! sorted(set(xs)) over the layer: the new list is owned. -/
namespace PW
open PySem PySem.Spec PyProof.Rows L2
variable [KC]
variable {m₀ : Mo} {N₀ : List Str} {sc₀ : Scope} {lv₀ : Nat} {xp₀ : Addr → List Sl → List Mem → Prop} {fF₀ cm₀ : Bool}
variable {c : Ctx m₀ N₀ sc₀ lv₀ xp₀ fF₀ cm₀} {a : Expr} {ρ : List Sl} {rs : List Mem} {K : Sl → List Mem → Prop} {pos p2 p3 q2 : Pos}
/-- sorted(set(xs)), owned -/
theorem dx_sortedSetO (h : DX c a ρ rs fun s r => ∃ xs : List Str, s.plain.asList = some (xs.map PyData.str) ∧ xs.length < 4096 ∧
      ∀ ss : List Str, sortedS ss = true → ss.Nodup → (∀ k, k ∈ ss ↔ k ∈ xs) → ∀ p, K (.r (.ref p)) (lstM p ((ss.map PyData.str).map .d) :: r))
    (hcm : cm₀ = true := by rfl)
    (hg : KdIn sc₀.names ("sorted" : Str) .globalImplicit := by first | ((with_reducible (repeat (first | exact KdIn.zero | apply KdIn.succ))); (first | (all_goals fail) | fail)) | exact kd_of rfl)
    (hg2 : KdIn sc₀.names ("set" : Str) .globalImplicit := by first | ((with_reducible (repeat (first | exact KdIn.zero | apply KdIn.succ))); (first | (all_goals fail) | fail)) | exact kd_of rfl)
    (he : starEach [a] c.X.env = (false, eval a c.X.env) :: starEach [] c.X.env := by rfl) : DX c (.Call (.Name "sorted" p2) [.Call (.Name "set" p3) [a] [] q2] [] pos) ρ rs K := by
  intro σ H G Q hE hs hx hq
  refine tE_of (SG.pe_sortedSet (c.calm hcm) (c_gl hg) (by rw [c.hm.mg]; exact c.bl.sorted) (c_gl hg2) (by rw [c.hm.mg]; exact c.bl.set) pe_t he) ?_
  refine h σ H G _ hE hs hx fun v H1 G1 s1 r1 t1 q1 o1 k1 => ?_
  obtain ⟨xs, e, hb, k⟩ := k1
  obtain ⟨p, ws, rfl, r, al⟩ := SlOk.list q1.ok.plain e
  obtain rfl := is_texts al
  refine ⟨p, xs, rfl, c.ck ▸ r.sq, hb, by rw [sizeLine_eq]; omega, fun ss D hs1 hn hm hD => ?_⟩
  obtain ⟨t, o⟩ := own_new o1 hD (SlAll.of_is (is_strs ss))
  exact hq _ _ _ (.r (.ref D)) _ (t1.trans t) rfl o (k ss hs1 hn hm D)
/-- isinstance(x, list) of an owned list -/
theorem cd_isiO {p : Addr} {ss : List Sl} {f : List Mem → List Mem} (pk : Pick rs (lstM p ss) f) (k : K (.d (.bool true)) rs) : CaD (rIsi KC.K) [.r (.ref p), .r (.ty "list")] rs K := fun G H vs Q hv hs hq => by
  match vs, hv with
  | [v, w], hv =>
    have ev : v = .ref p := hv.1
    subst ev
    have hw : w = .ty "list" := hv.2.1
    subst hw
    obtain ⟨ws, hp, al, _, _⟩ := lst_at pk hs
    exact ⟨.ref p, .ty "list", .type "list", .type "list", _, rfl, .ty "list", .base (.lst hp), kit_ty (kit_d (d := .list []) (by decide) (fun _ e => nomatch e)), give0 hs hq (sl := .d (.bool true)) (Is.bl _) k⟩
end PW

set_option maxHeartbeats 4000000
/-! sorted(d) of a dict whose keys are texts, over the layer. -/
namespace PW
open PySem PySem.Spec PyProof.Rows L2
variable [KC]
variable {m₀ : Mo} {N₀ : List Str} {sc₀ : Scope} {lv₀ : Nat} {xp₀ : Addr → List Sl → List Mem → Prop} {fF₀ cm₀ : Bool}
variable {c : Ctx m₀ N₀ sc₀ lv₀ xp₀ fF₀ cm₀} {a : Expr} {ρ : List Sl} {rs : List Mem} {K : Sl → List Mem → Prop} {pos p2 : Pos}
/-- sorted(d), the keys texts; the new list is owned -/
theorem dx_sortedDSO (h : DX c a ρ rs fun s r => ∃ p kvs f ks, s = .r (.ref p) ∧ Pick r (dictM p kvs) f ∧ kvs.map (·.1) = ks.map Sum.inr ∧ ks.length < 64 ∧ ∀ ys : List Str, ys.Perm ks → sortedS ys = true → ∀ q, K (.r (.ref q)) (lstM q ((ys.map PyData.str).map .d) :: r))
    (hg : KdIn sc₀.names ("sorted" : Str) .globalImplicit := by first | ((with_reducible (repeat (first | exact KdIn.zero | apply KdIn.succ))); (first | (all_goals fail) | fail)) | exact kd_of rfl) (he : starEach [a] c.X.env = (false, eval a c.X.env) :: starEach [] c.X.env := by rfl) (hcm : cm₀ = true := by rfl) : DX c (.Call (.Name "sorted" p2) [a] [] pos) ρ rs K := by
  refine dx_callB (call_sortedD (c.calm hcm)) c.bl.sorted b_sorted (da_cons (dx_weak h fun s r k => da_nil ?_) he) hg (he := he) (hpl := rfl)
  obtain ⟨p, kvs, f, ks, rfl, pk, ek, hl, k⟩ := k
  intro G H vs Q hv hs hq
  match vs, hv with
  | [v], hv =>
    have ev : v = .ref p := hv.1
    subst ev
    obtain ⟨ws, hp, al, _, _⟩ := dict_at pk hs
    refine ⟨p, ws, ks, rfl, .inl hp, by rw [al.keys, ek], hl, fun ys q hperm hpw hz => ?_⟩
    obtain ⟨t, o⟩ := own_new hs hz (SlAll.of_is (is_strs ys))
    exact hq _ _ _ (.r (.ref q)) _ t rfl o (k ys hperm hpw q)
/-- sorted(d), the keys texts -/
theorem dx_sortedDS (h : DX c a ρ rs fun s r => ∃ p kvs f ks, s = .r (.ref p) ∧ Pick r (dictM p kvs) f ∧ kvs.map (·.1) = ks.map Sum.inr ∧ ks.length < 64 ∧ ∀ ys : List Str, ys.Perm ks → sortedS ys = true → K (.n (ys.map PyData.str)) r)
    (hg : KdIn sc₀.names ("sorted" : Str) .globalImplicit := by first | ((with_reducible (repeat (first | exact KdIn.zero | apply KdIn.succ))); (first | (all_goals fail) | fail)) | exact kd_of rfl) (he : starEach [a] c.X.env = (false, eval a c.X.env) :: starEach [] c.X.env := by rfl) (hcm : cm₀ = true := by rfl) : DX c (.Call (.Name "sorted" p2) [a] [] pos) ρ rs K := by
  refine dx_callB (call_sortedD (c.calm hcm)) c.bl.sorted b_sorted (da_cons (dx_weak h fun s r k => da_nil ?_) he) hg (he := he) (hpl := rfl)
  obtain ⟨p, kvs, f, ks, rfl, pk, ek, hl, k⟩ := k
  intro G H vs Q hv hs hq
  match vs, hv with
  | [v], hv =>
    have ev : v = .ref p := hv.1
    subst ev
    obtain ⟨ws, hp, al, _, _⟩ := dict_at pk hs
    refine ⟨p, ws, ks, rfl, .inl hp, by rw [al.keys, ek], hl, fun ys q hperm hpw hz => ?_⟩
    have st : Stp G G H (upd H q (.lst (ys.map V.str))) := stp_new hz
    exact hq _ _ G (.n (ys.map PyData.str)) _ st ⟨q, _, rfl, hz, hs.fresh hz, upd_same, is_strs ys⟩ (sepL.step st.sub hs fun a o q _ => same_new hz a o q) (k ys hperm hpw)
end PW

set_option maxHeartbeats 4000000
namespace My
open PySem L2 PW
/-! ### the text by places -/
def top (i : Nat) : Stmt := PySem.Challenge.pw_paneworks_k37_files_through_deeds.main.body.getD i (.Pass ⟨0, 0, 0, 0⟩)
abbrev s_Files___init__ : Stmt := inClass (top 12) 0
@[reducible] def c_Files___init__ : Scope := { kind := .function, names := [(PySem.Str.ofString "self", .«local»)], isGenerator := false, isCoroutine := false, more := [] }
theorem e_Files___init__ : defScope s_Files___init__ = c_Files___init__ := rfl
abbrev n_Files___init__ : List Str := ["self"]
theorem f_Files___init__ : FnScope n_Files___init__ ["self"] (defScope s_Files___init__) := ⟨rfl, rfl, rfl, by decide +kernel, rfl, by decide +kernel, by decide +kernel⟩
abbrev s_Files_make : Stmt := inClass (top 12) 1
@[reducible] def c_Files_make : Scope := { kind := .function, names := [(PySem.Str.ofString "self", .«local»), (PySem.Str.ofString "name", .«local»), (PySem.Str.ofString "rows", .«local»), (PySem.Str.ofString "Taken", .globalImplicit)], isGenerator := false, isCoroutine := false, more := [(PySem.Str.ofString "fast", (PySem.Const.str "self")), (PySem.Str.ofString "fast", (PySem.Const.str "name")), (PySem.Str.ofString "fast", (PySem.Const.str "rows")), (PySem.Str.ofString "fast", (PySem.Const.str "row"))] }
theorem e_Files_make : defScope s_Files_make = c_Files_make := rfl
abbrev n_Files_make : List Str := ["self", "name", "rows", "row"]
theorem f_Files_make : FnScope n_Files_make ["self", "name", "rows"] (defScope s_Files_make) := ⟨rfl, rfl, rfl, by decide +kernel, rfl, by decide +kernel, by decide +kernel⟩
abbrev s_Files_size_of : Stmt := inClass (top 12) 2
@[reducible] def c_Files_size_of : Scope := { kind := .function, names := [(PySem.Str.ofString "self", .«local»), (PySem.Str.ofString "name", .«local»), (PySem.Str.ofString "NoFile", .globalImplicit), (PySem.Str.ofString "len", .globalImplicit)], isGenerator := false, isCoroutine := false, more := [] }
theorem e_Files_size_of : defScope s_Files_size_of = c_Files_size_of := rfl
abbrev n_Files_size_of : List Str := ["self", "name"]
theorem f_Files_size_of : FnScope n_Files_size_of ["self", "name"] (defScope s_Files_size_of) := ⟨rfl, rfl, rfl, by decide +kernel, rfl, by decide +kernel, by decide +kernel⟩
abbrev s_Files_ask_page : Stmt := inClass (top 12) 3
@[reducible] def c_Files_ask_page : Scope := { kind := .function, names := [(PySem.Str.ofString "self", .«local»), (PySem.Str.ofString "name", .«local»), (PySem.Str.ofString "page", .«local»), (PySem.Str.ofString "NoPage", .globalImplicit)], isGenerator := false, isCoroutine := false, more := [] }
theorem e_Files_ask_page : defScope s_Files_ask_page = c_Files_ask_page := rfl
abbrev n_Files_ask_page : List Str := ["self", "name", "page"]
theorem f_Files_ask_page : FnScope n_Files_ask_page ["self", "name", "page"] (defScope s_Files_ask_page) := ⟨rfl, rfl, rfl, by decide +kernel, rfl, by decide +kernel, by decide +kernel⟩
abbrev s_Files_row_at : Stmt := inClass (top 12) 4
@[reducible] def c_Files_row_at : Scope := { kind := .function, names := [(PySem.Str.ofString "self", .«local»), (PySem.Str.ofString "name", .«local»), (PySem.Str.ofString "page", .«local»), (PySem.Str.ofString "list", .globalImplicit)], isGenerator := false, isCoroutine := false, more := [] }
theorem e_Files_row_at : defScope s_Files_row_at = c_Files_row_at := rfl
abbrev n_Files_row_at : List Str := ["self", "name", "page"]
theorem f_Files_row_at : FnScope n_Files_row_at ["self", "name", "page"] (defScope s_Files_row_at) := ⟨rfl, rfl, rfl, by decide +kernel, rfl, by decide +kernel, by decide +kernel⟩
abbrev s_Files_store_row : Stmt := inClass (top 12) 5
@[reducible] def c_Files_store_row : Scope := { kind := .function, names := [(PySem.Str.ofString "self", .«local»), (PySem.Str.ofString "name", .«local»), (PySem.Str.ofString "page", .«local»), (PySem.Str.ofString "row", .«local»), (PySem.Str.ofString "list", .globalImplicit)], isGenerator := false, isCoroutine := false, more := [] }
theorem e_Files_store_row : defScope s_Files_store_row = c_Files_store_row := rfl
abbrev n_Files_store_row : List Str := ["self", "name", "page", "row"]
theorem f_Files_store_row : FnScope n_Files_store_row ["self", "name", "page", "row"] (defScope s_Files_store_row) := ⟨rfl, rfl, rfl, by decide +kernel, rfl, by decide +kernel, by decide +kernel⟩
abbrev s_Files_drop : Stmt := inClass (top 12) 6
@[reducible] def c_Files_drop : Scope := { kind := .function, names := [(PySem.Str.ofString "self", .«local»), (PySem.Str.ofString "name", .«local»), (PySem.Str.ofString "NoFile", .globalImplicit)], isGenerator := false, isCoroutine := false, more := [] }
theorem e_Files_drop : defScope s_Files_drop = c_Files_drop := rfl
abbrev n_Files_drop : List Str := ["self", "name"]
theorem f_Files_drop : FnScope n_Files_drop ["self", "name"] (defScope s_Files_drop) := ⟨rfl, rfl, rfl, by decide +kernel, rfl, by decide +kernel, by decide +kernel⟩
abbrev s_Files_names : Stmt := inClass (top 12) 7
@[reducible] def c_Files_names : Scope := { kind := .function, names := [(PySem.Str.ofString "self", .«local»), (PySem.Str.ofString "sorted", .globalImplicit)], isGenerator := false, isCoroutine := false, more := [] }
theorem e_Files_names : defScope s_Files_names = c_Files_names := rfl
abbrev n_Files_names : List Str := ["self"]
theorem f_Files_names : FnScope n_Files_names ["self"] (defScope s_Files_names) := ⟨rfl, rfl, rfl, by decide +kernel, rfl, by decide +kernel, by decide +kernel⟩
abbrev s_Lcell_at : Stmt := top 14
@[reducible] def c_Lcell_at : Scope := { kind := .function, names := [(PySem.Str.ofString "_law_script", .«local»), (PySem.Str.ofString "_law_k", .«local»), (PySem.Str.ofString "len", .globalImplicit)], isGenerator := false, isCoroutine := false, more := [] }
theorem e_Lcell_at : defScope s_Lcell_at = c_Lcell_at := rfl
abbrev n_Lcell_at : List Str := ["_law_script", "_law_k"]
theorem f_Lcell_at : FnScope n_Lcell_at ["_law_script", "_law_k"] (defScope s_Lcell_at) := ⟨rfl, rfl, rfl, by decide +kernel, rfl, by decide +kernel, by decide +kernel⟩
abbrev s_Lwhole : Stmt := top 15
@[reducible] def c_Lwhole : Scope := { kind := .function, names := [(PySem.Str.ofString "_law_found", .«local»), (PySem.Str.ofString "isinstance", .globalImplicit), (PySem.Str.ofString "int", .globalImplicit), (PySem.Str.ofString "bool", .globalImplicit)], isGenerator := false, isCoroutine := false, more := [] }
theorem e_Lwhole : defScope s_Lwhole = c_Lwhole := rfl
abbrev n_Lwhole : List Str := ["_law_found"]
theorem f_Lwhole : FnScope n_Lwhole ["_law_found"] (defScope s_Lwhole) := ⟨rfl, rfl, rfl, by decide +kernel, rfl, by decide +kernel, by decide +kernel⟩
abbrev s_Lalike : Stmt := top 16
@[reducible] def c_Lalike : Scope := { kind := .function, names := [(PySem.Str.ofString "_law_found", .«local»), (PySem.Str.ofString "_law_due_here", .«local»), (PySem.Str.ofString "_law_k", .«local»), (PySem.Str.ofString "isinstance", .globalImplicit), (PySem.Str.ofString "bool", .globalImplicit), (PySem.Str.ofString "int", .globalImplicit), (PySem.Str.ofString "_law_whole", .globalImplicit), (PySem.Str.ofString "str", .globalImplicit), (PySem.Str.ofString "tuple", .globalImplicit), (PySem.Str.ofString "list", .globalImplicit), (PySem.Str.ofString "len", .globalImplicit), (PySem.Str.ofString "range", .globalImplicit), (PySem.Str.ofString "_law_alike", .globalImplicit)], isGenerator := false, isCoroutine := false, more := [] }
theorem e_Lalike : defScope s_Lalike = c_Lalike := rfl
abbrev n_Lalike : List Str := ["_law_found", "_law_due_here", "_law_k"]
theorem f_Lalike : FnScope n_Lalike ["_law_found", "_law_due_here"] (defScope s_Lalike) := ⟨rfl, rfl, rfl, by decide +kernel, rfl, by decide +kernel, by decide +kernel⟩
abbrev s_Lnum : Stmt := top 17
@[reducible] def c_Lnum : Scope := { kind := .function, names := [(PySem.Str.ofString "_law_cell", .«local»), (PySem.Str.ofString "_law_k", .«local»), (PySem.Str.ofString "_law_most", .«local»), (PySem.Str.ofString "_law_big", .«local»), (PySem.Str.ofString "_law_way", .«local»)], isGenerator := false, isCoroutine := false, more := [] }
theorem e_Lnum : defScope s_Lnum = c_Lnum := rfl
abbrev n_Lnum : List Str := ["_law_cell", "_law_k", "_law_most", "_law_big", "_law_way"]
theorem f_Lnum : FnScope n_Lnum ["_law_cell", "_law_k"] (defScope s_Lnum) := ⟨rfl, rfl, rfl, by decide +kernel, rfl, by decide +kernel, by decide +kernel⟩
abbrev s_Lrow : Stmt := top 18
@[reducible] def c_Lrow : Scope := { kind := .function, names := [(PySem.Str.ofString "_law_cell", .cell), (PySem.Str.ofString "range", .globalImplicit)], isGenerator := false, isCoroutine := false, more := [(PySem.Str.ofString "fast", (PySem.Const.str "_law_cell")), (PySem.Str.ofString "fast", (PySem.Const.str "_law_k"))] }
theorem e_Lrow : defScope s_Lrow = c_Lrow := rfl
abbrev n_Lrow : List Str := ["_law_cell", "_law_k"]
theorem f_Lrow : FnScope n_Lrow ["_law_cell"] (defScope s_Lrow) := ⟨rfl, rfl, rfl, by decide +kernel, rfl, by decide +kernel, by decide +kernel⟩
abbrev s_Lname : Stmt := top 19
@[reducible] def c_Lname : Scope := { kind := .function, names := [(PySem.Str.ofString "_law_cell", .«local»), (PySem.Str.ofString "_law_turn", .«local»), (PySem.Str.ofString "_law_letters", .«local»), (PySem.Str.ofString "_law_size", .«local»), (PySem.Str.ofString "_law_spot", .«local»), (PySem.Str.ofString "_law_name_here", .«local»), (PySem.Str.ofString "_law_k", .«local»), (PySem.Str.ofString "_law_sign", .«local»), (PySem.Str.ofString "range", .globalImplicit)], isGenerator := false, isCoroutine := false, more := [] }
theorem e_Lname : defScope s_Lname = c_Lname := rfl
abbrev n_Lname : List Str := ["_law_cell", "_law_turn", "_law_letters", "_law_size", "_law_spot", "_law_name_here", "_law_k", "_law_sign"]
theorem f_Lname : FnScope n_Lname ["_law_cell", "_law_turn"] (defScope s_Lname) := ⟨rfl, rfl, rfl, by decide +kernel, rfl, by decide +kernel, by decide +kernel⟩
abbrev s_Lrows : Stmt := top 20
@[reducible] def c_Lrows : Scope := { kind := .function, names := [(PySem.Str.ofString "_law_cell", .cell), (PySem.Str.ofString "_law_many", .«local»), (PySem.Str.ofString "range", .globalImplicit)], isGenerator := false, isCoroutine := false, more := [(PySem.Str.ofString "fast", (PySem.Const.str "_law_cell")), (PySem.Str.ofString "fast", (PySem.Const.str "_law_many")), (PySem.Str.ofString "fast", (PySem.Const.str "_law_k"))] }
theorem e_Lrows : defScope s_Lrows = c_Lrows := rfl
abbrev n_Lrows : List Str := ["_law_cell", "_law_many", "_law_k"]
theorem f_Lrows : FnScope n_Lrows ["_law_cell"] (defScope s_Lrows) := ⟨rfl, rfl, rfl, by decide +kernel, rfl, by decide +kernel, by decide +kernel⟩
abbrev s_Lasked : Stmt := top 21
@[reducible] def c_Lasked : Scope := { kind := .function, names := [(PySem.Str.ofString "_law_files", .«local»), (PySem.Str.ofString "_law_way", .«local»), (PySem.Str.ofString "_law_name_here", .«local»), (PySem.Str.ofString "_law_page", .«local»), (PySem.Str.ofString "_law_rows_here", .«local»), (PySem.Str.ofString "_law_found", .«local»), (PySem.Str.ofString "_law_refused", .«local»), (PySem.Str.ofString "e", .«local»), (PySem.Str.ofString "_law_others", .«local»), (PySem.Str.ofString "_law_known", .«local»), (PySem.Str.ofString "PaneError", .globalImplicit), (PySem.Str.ofString "isinstance", .globalImplicit), (PySem.Str.ofString "NoNumber", .globalImplicit), (PySem.Str.ofString "NoSpace", .globalImplicit), (PySem.Str.ofString "NoRight", .globalImplicit), (PySem.Str.ofString "Held", .globalImplicit), (PySem.Str.ofString "Full", .globalImplicit), (PySem.Str.ofString "NoRow", .globalImplicit), (PySem.Str.ofString "NoFile", .globalImplicit), (PySem.Str.ofString "NoPage", .globalImplicit), (PySem.Str.ofString "Taken", .globalImplicit), (PySem.Str.ofString "ValueError", .globalImplicit)], isGenerator := false, isCoroutine := false, more := [] }
theorem e_Lasked : defScope s_Lasked = c_Lasked := rfl
abbrev n_Lasked : List Str := ["_law_files", "_law_way", "_law_name_here", "_law_page", "_law_rows_here", "_law_found", "_law_refused", "e", "_law_others", "_law_known"]
theorem f_Lasked : FnScope n_Lasked ["_law_files", "_law_way", "_law_name_here", "_law_page", "_law_rows_here"] (defScope s_Lasked) := ⟨rfl, rfl, rfl, by decide +kernel, rfl, by decide +kernel, by decide +kernel⟩
abbrev s_Ldue : Stmt := top 22
@[reducible] def c_Ldue : Scope := { kind := .function, names := [(PySem.Str.ofString "_law_plain", .«local»), (PySem.Str.ofString "_law_way", .«local»), (PySem.Str.ofString "_law_name_here", .«local»), (PySem.Str.ofString "_law_page", .«local»), (PySem.Str.ofString "len", .globalImplicit)], isGenerator := false, isCoroutine := false, more := [] }
theorem e_Ldue : defScope s_Ldue = c_Ldue := rfl
abbrev n_Ldue : List Str := ["_law_plain", "_law_way", "_law_name_here", "_law_page"]
theorem f_Ldue : FnScope n_Ldue ["_law_plain", "_law_way", "_law_name_here", "_law_page"] (defScope s_Ldue) := ⟨rfl, rfl, rfl, by decide +kernel, rfl, by decide +kernel, by decide +kernel⟩
abbrev s_Ldone : Stmt := top 23
@[reducible] def c_Ldone : Scope := { kind := .function, names := [(PySem.Str.ofString "_law_plain", .«local»), (PySem.Str.ofString "_law_way", .«local»), (PySem.Str.ofString "_law_name_here", .«local»), (PySem.Str.ofString "_law_page", .«local»), (PySem.Str.ofString "_law_rows_here", .«local»), (PySem.Str.ofString "len", .globalImplicit), (PySem.Str.ofString "list", .globalImplicit)], isGenerator := false, isCoroutine := false, more := [(PySem.Str.ofString "fast", (PySem.Const.str "_law_plain")), (PySem.Str.ofString "fast", (PySem.Const.str "_law_way")), (PySem.Str.ofString "fast", (PySem.Const.str "_law_name_here")), (PySem.Str.ofString "fast", (PySem.Const.str "_law_page")), (PySem.Str.ofString "fast", (PySem.Const.str "_law_rows_here")), (PySem.Str.ofString "fast", (PySem.Const.str "_law_row_here"))] }
theorem e_Ldone : defScope s_Ldone = c_Ldone := rfl
abbrev n_Ldone : List Str := ["_law_plain", "_law_way", "_law_name_here", "_law_page", "_law_rows_here", "_law_row_here"]
theorem f_Ldone : FnScope n_Ldone ["_law_plain", "_law_way", "_law_name_here", "_law_page", "_law_rows_here"] (defScope s_Ldone) := ⟨rfl, rfl, rfl, by decide +kernel, rfl, by decide +kernel, by decide +kernel⟩
abbrev s_Ldeed : Stmt := top 24
@[reducible] def c_Ldeed : Scope := { kind := .function, names := [(PySem.Str.ofString "_law_files", .«local»), (PySem.Str.ofString "_law_plain", .«local»), (PySem.Str.ofString "_law_name_here", .«local»), (PySem.Str.ofString "_law_cell", .«local»), (PySem.Str.ofString "_law_way", .«local»), (PySem.Str.ofString "_law_page", .«local»), (PySem.Str.ofString "_law_rows_here", .«local»), (PySem.Str.ofString "_law_handed", .«local»), (PySem.Str.ofString "_law_due_here", .«local»), (PySem.Str.ofString "_law_answer", .«local»), (PySem.Str.ofString "_law_told", .«local»), (PySem.Str.ofString "len", .globalImplicit), (PySem.Str.ofString "_law_row", .globalImplicit), (PySem.Str.ofString "_law_rows", .globalImplicit), (PySem.Str.ofString "_law_due", .globalImplicit), (PySem.Str.ofString "_law_asked", .globalImplicit), (PySem.Str.ofString "_law_alike", .globalImplicit), (PySem.Str.ofString "_law_done", .globalImplicit)], isGenerator := false, isCoroutine := false, more := [(PySem.Str.ofString "fast", (PySem.Const.str "_law_files")), (PySem.Str.ofString "fast", (PySem.Const.str "_law_plain")), (PySem.Str.ofString "fast", (PySem.Const.str "_law_name_here")), (PySem.Str.ofString "fast", (PySem.Const.str "_law_cell")), (PySem.Str.ofString "fast", (PySem.Const.str "_law_way")), (PySem.Str.ofString "fast", (PySem.Const.str "_law_page")), (PySem.Str.ofString "fast", (PySem.Const.str "_law_rows_here")), (PySem.Str.ofString "fast", (PySem.Const.str "_law_row_here")), (PySem.Str.ofString "fast", (PySem.Const.str "_law_handed")), (PySem.Str.ofString "fast", (PySem.Const.str "_law_due_here")), (PySem.Str.ofString "fast", (PySem.Const.str "_law_answer")), (PySem.Str.ofString "fast", (PySem.Const.str "_law_told"))] }
theorem e_Ldeed : defScope s_Ldeed = c_Ldeed := rfl
abbrev n_Ldeed : List Str := ["_law_files", "_law_plain", "_law_name_here", "_law_cell", "_law_way", "_law_page", "_law_rows_here", "_law_handed", "_law_due_here", "_law_answer", "_law_told", "_law_row_here"]
theorem f_Ldeed : FnScope n_Ldeed ["_law_files", "_law_plain", "_law_name_here", "_law_cell"] (defScope s_Ldeed) := ⟨rfl, rfl, rfl, by decide +kernel, rfl, by decide +kernel, by decide +kernel⟩
abbrev s_Lis_files : Stmt := top 25
@[reducible] def c_Lis_files : Scope := { kind := .function, names := [(PySem.Str.ofString "_law_files", .«local»), (PySem.Str.ofString "_law_plain", .«local»), (PySem.Str.ofString "_law_name_here", .«local»), (PySem.Str.ofString "_law_cell", .«local»), (PySem.Str.ofString "_law_held", .«local»), (PySem.Str.ofString "_law_told", .«local»), (PySem.Str.ofString "_law_page", .«local»), (PySem.Str.ofString "_law_alike", .globalImplicit), (PySem.Str.ofString "sorted", .globalImplicit), (PySem.Str.ofString "list", .globalImplicit), (PySem.Str.ofString "len", .globalImplicit)], isGenerator := false, isCoroutine := false, more := [] }
theorem e_Lis_files : defScope s_Lis_files = c_Lis_files := rfl
abbrev n_Lis_files : List Str := ["_law_files", "_law_plain", "_law_name_here", "_law_cell", "_law_held", "_law_told", "_law_page"]
theorem f_Lis_files : FnScope n_Lis_files ["_law_files", "_law_plain", "_law_name_here", "_law_cell", "_law_held"] (defScope s_Lis_files) := ⟨rfl, rfl, rfl, by decide +kernel, rfl, by decide +kernel, by decide +kernel⟩
abbrev s_law : Stmt := top 26
@[reducible] def c_law : Scope := { kind := .function, names := [(PySem.Str.ofString "_law_script", .cell), (PySem.Str.ofString "_law_names", .«local»), (PySem.Str.ofString "_law_both", .«local»), (PySem.Str.ofString "_law_plains", .«local»), (PySem.Str.ofString "_law_held", .«local»), (PySem.Str.ofString "_law_cell", .«local»), (PySem.Str.ofString "_law_at", .«local»), (PySem.Str.ofString "_law_name_here", .«local»), (PySem.Str.ofString "_law_k", .«local»), (PySem.Str.ofString "_law_which", .«local»), (PySem.Str.ofString "_law_page", .«local»), (PySem.Str.ofString "_law_told", .«local»), (PySem.Str.ofString "_law_copied", .«local»), (PySem.Str.ofString "range", .globalImplicit), (PySem.Str.ofString "Files", .globalImplicit), (PySem.Str.ofString "_law_cell_at", .globalImplicit), (PySem.Str.ofString "_law_deed", .globalImplicit), (PySem.Str.ofString "_law_is_files", .globalImplicit), (PySem.Str.ofString "list", .globalImplicit), (PySem.Str.ofString "len", .globalImplicit), (PySem.Str.ofString "_law_alike", .globalImplicit)], isGenerator := false, isCoroutine := false, more := [(PySem.Str.ofString "fast", (PySem.Const.str "_law_script")), (PySem.Str.ofString "fast", (PySem.Const.str "_law_turn")), (PySem.Str.ofString "fast", (PySem.Const.str "_law_names")), (PySem.Str.ofString "fast", (PySem.Const.str "_law_both")), (PySem.Str.ofString "fast", (PySem.Const.str "_law_plains")), (PySem.Str.ofString "fast", (PySem.Const.str "_law_held")), (PySem.Str.ofString "fast", (PySem.Const.str "_law_cell")), (PySem.Str.ofString "fast", (PySem.Const.str "_law_at")), (PySem.Str.ofString "fast", (PySem.Const.str "_law_name_here")), (PySem.Str.ofString "fast", (PySem.Const.str "_law_k")), (PySem.Str.ofString "fast", (PySem.Const.str "_law_which")), (PySem.Str.ofString "fast", (PySem.Const.str "_law_page")), (PySem.Str.ofString "fast", (PySem.Const.str "_law_told")), (PySem.Str.ofString "fast", (PySem.Const.str "_law_copied"))] }
theorem e_law : defScope s_law = c_law := rfl
abbrev n_law : List Str := ["_law_script", "_law_names", "_law_both", "_law_plains", "_law_held", "_law_cell", "_law_at", "_law_name_here", "_law_k", "_law_which", "_law_page", "_law_told", "_law_copied", "_law_turn"]
theorem f_law : FnScope n_law ["_law_script"] (defScope s_law) := ⟨rfl, rfl, rfl, by decide +kernel, rfl, by decide +kernel, by decide +kernel⟩
def letters : Str := "abcdefghijklmnopqrstuvwxyz"
def letAt (i : Int) : Nat := letters.cps.toList.getD i.toNat 0
theorem let_len : letters.cps.toList.length = 26 := by decide +kernel
theorem txt_at [KC] (z : Str) {i : Int} (h : 0 ≤ i ∧ i < z.length) : ∃ n, atI z.cps.toList i = some n := by
  obtain ⟨v, h1, _⟩ := PW.atI_in (xs := z.cps.toList) (i := i) (by rw [show z.cps.toList.length = z.length by show _ = z.cps.size; simp]; exact h)
  exact ⟨v, h1⟩

/-! ### the files -/
section
variable [KC]
/-- a file: its name, its rows -/
abbrev Frow := Str × List (List Int)
def rwD (r : List Int) : PyData := .list (r.map .int)
def rwsD (rows : List (List Int)) : List PyData := rows.map rwD
def kvF (x : Frow × Addr) : Key × Sl := (.inr x.1.1, .r (.ref x.2))
abbrev rlM (x : Frow × Addr) : Mem := lstM x.2 ((rwsD x.1.2).map .d)
abbrev FwA (fs : List Frow) := {l : List (Frow × Addr) // l.map (·.1) = fs}
def filF (C p : Addr) (fs : List Frow) (z : Addr × FwA fs) : List Mem := [insM C p [("my_files", .r (.ref z.1))], dictM z.1 (z.2.1.map kvF), famM rlM z.2.1]
def filM (C p : Addr) (fs : List Frow) : Mem := exM (filF C p fs)
theorem at_fil {C p : Addr} {fs : List Frow} {x : Str} (h : x ∉ [("my_files" : Str)]) : InsAt (filM C p fs) C p x := insAt_ex (fs := fun q => [("my_files", .r (.ref q.1))]) (fun _ => rfl) fun _ => h
end
section
variable [KC] {m₀ : Mo} {N₀ : List Str} {sc₀ : Scope} {lv₀ : Nat} {xp₀ : Addr → List Sl → List Mem → Prop} {fF₀ cm₀ : Bool} {c : PW.Ctx m₀ N₀ sc₀ lv₀ xp₀ fF₀ cm₀} {rs : List Mem} {ρ : List Sl} {K : Sl → List Mem → Prop} {C p : Addr} {fs : List Frow} {g : List Mem → List Mem}
theorem ce_fil {Q : Cn} {ss : List Sl} (pk : Pick rs (filM C p fs) g) (h : Q (.r (.ref p) :: ss) [filM C p fs] (fun s r2 => K s (g r2)) (fun D r2 => xp₀ D ρ (g r2))) : CallEnd c Q (.r (.ref p) :: ss) ρ rs K := ce_inr pk h
theorem ce0_fil {Q : Cn} (pk : Pick rs (filM C p fs) g) (h : Q [.r (.ref p)] [filM C p fs] (fun s r2 => K s (g r2)) (fun _ _ => False)) : CallEnd0 Q [.r (.ref p)] rs K := ce0_inr pk h
theorem me_fil {x : Str} {B : Addr → Prop} (pk : Pick rs (filM C p fs) g) (hx : x ∉ [("my_files" : Str)]) (h : B p) : ∃ p' A g, Sl.r (.ref p) = .r (.ref p') ∧ Pick rs A g ∧ InsAt A C p' x ∧ B p' := ⟨p, _, g, rfl, pk, at_fil hx, h⟩
end
section
variable [KC]
theorem fk_keys (l : List (Frow × Addr)) : (l.map fun z => (kvF z).1) = (l.map (·.1.1)).map Sum.inr := by rw [List.map_map]; rfl
theorem fk_of {fs : List Frow} {l : List (Frow × Addr)} (hl : l.map (·.1) = fs) : l.map (·.1.1) = fs.map (·.1) := by rw [← hl, List.map_map]; rfl
theorem fk_some (l : List (Frow × Addr)) (s : Str) : (valS (l.map kvF) (.inr s)).isSome = decide (s ∈ l.map (·.1.1)) := by
  rw [Bool.eq_iff_iff, valS_mem, List.map_map, decide_eq_true_iff, show ((fun x : Key × Sl => x.1) ∘ kvF) = fun z => (kvF z).1 from rfl, fk_keys, List.mem_map]
  constructor
  · rintro ⟨x, hx, e⟩; cases e; exact hx
  · exact fun h => ⟨s, h, rfl⟩
theorem inr_nd {l : List Str} (h : l.Nodup) : (l.map (Sum.inr : Str → Key)).Nodup := by
  unfold List.Nodup
  rw [List.pairwise_map]
  exact List.Pairwise.imp (fun h e => h (Sum.inr.inj e)) h
theorem fk_nd {l : List (Frow × Addr)} (h : (l.map (·.1.1)).Nodup) : (l.map fun z => (kvF z).1).Nodup := by rw [fk_keys]; exact inr_nd h
theorem fk_at {l : List (Frow × Addr)} (h : (l.map (·.1.1)).Nodup) {i : Nat} {s : Str} {r : List (List Int)} {a : Addr} (hi : l[i]? = some ((s, r), a)) : valS (l.map kvF) (.inr s) = some (.r (.ref a)) := dict_val (f := kvF) hi (fk_nd h)
theorem fk_drop {l : List (Frow × Addr)} (h : (l.map (·.1.1)).Nodup) {i : Nat} {s : Str} {r : List (List Int)} {a : Addr} (hi : l[i]? = some ((s, r), a)) : dropS (l.map kvF) (.inr s) = (l.take i ++ l.drop (i + 1)).map kvF := dict_drop (f := kvF) hi (fk_nd h)
theorem fk_none {l : List (Frow × Addr)} {s : Str} (h : s ∉ l.map (·.1.1)) : valS (l.map kvF) (.inr s) = none := by
  have := fk_some l s
  rw [decide_eq_false h] at this
  cases e : valS (l.map kvF) (.inr s) with
  | none => rfl
  | some _ => rw [e] at this; cases this
theorem fk_put {l : List (Frow × Addr)} {s : Str} {r : List (List Int)} {a : Addr} (h : s ∉ l.map (·.1.1)) : putS (l.map kvF) (.inr s) (.r (.ref a)) = (l ++ [((s, r), a)]).map kvF := by
  rw [put_new (fk_none h), List.map_append]; rfl
theorem fk_set {l : List (Frow × Addr)} {i : Nat} {s : Str} {r r2 : List (List Int)} {a : Addr} (hi : l[i]? = some ((s, r), a)) : (l.set i ((s, r2), a)).map kvF = l.map kvF := by
  rw [List.map_set]
  refine List.ext_getElem? fun j => ?_
  rw [List.getElem?_set]
  split
  · rename_i e; subst e
    split
    · rw [List.getElem?_map, hi]; rfl
    · rename_i h
      rw [List.getElem?_eq_none (by omega)]
  · rfl
/-- the entry in the plain list -/
theorem fl_at {fs : List Frow} {l : List (Frow × Addr)} (hl : l.map (·.1) = fs) {i : Nat} {x : Frow} (h : fs[i]? = some x) : ∃ a, l[i]? = some (x, a) := by
  rw [← hl, List.getElem?_map] at h
  cases e : l[i]? with
  | none => rw [e] at h; cases h
  | some y => rw [e] at h; cases h; exact ⟨y.2, rfl⟩
theorem fl_key {fs : List Frow} {s : Str} (h : s ∈ fs.map (·.1)) : ∃ (i : Nat) (r : List (List Int)), fs[i]? = some (s, r) := by
  obtain ⟨⟨s2, r⟩, hx, rfl⟩ := List.mem_map.mp h
  obtain ⟨i, hi⟩ := List.mem_iff_getElem?.mp hx
  exact ⟨i, r, hi⟩
theorem fl_mem {fs : List Frow} {i : Nat} {s : Str} {r : List (List Int)} (h : fs[i]? = some (s, r)) : s ∈ fs.map (·.1) := List.mem_map.mpr ⟨(s, r), List.mem_of_getElem? h, rfl⟩
structure FiOk (fs : List Frow) : Prop where
  nd : (fs.map (·.1)).Nodup
  few : fs.length ≤ 1000
theorem FiOk.nl {fs : List Frow} (h : FiOk fs) {l : List (Frow × Addr)} (hl : l.map (·.1) = fs) : (l.map (·.1.1)).Nodup := by rw [fk_of hl]; exact h.nd
theorem rwsD_at {rows : List (List Int)} {k : Nat} {r : List Int} (h : rows[k]? = some r) : atI ((rwsD rows).map Sl.d) (k : Int) = some (.d (rwD r)) := by
  obtain ⟨hk, _⟩ := List.getElem?_eq_some_iff.mp h
  unfold rwsD
  obtain ⟨v, h1, h2⟩ := atI_in (xs := (rows.map rwD).map Sl.d) (i := (k : Int)) (by rw [List.length_map, List.length_map]; omega)
  rw [h1, ← h2, Int.toNat_natCast, List.getElem?_map, List.getElem?_map, h]; rfl
theorem rwsD_len (rows : List (List Int)) : (rwsD rows).length = rows.length := by unfold rwsD; rw [List.length_map]
theorem rwsD_set (rows : List (List Int)) (k : Nat) (r : List Int) : ((rwsD rows).map Sl.d).set k (.d (rwD r)) = (rwsD (rows.set k r)).map .d := by unfold rwsD; rw [List.map_set, List.map_set]
theorem fl_uniq {fs : List Frow} (h : FiOk fs) {i j : Nat} {s : Str} {r r2 : List (List Int)} (a : fs[i]? = some (s, r)) (b : fs[j]? = some (s, r2)) : i = j ∧ r = r2 := by
  obtain ⟨hi, _⟩ := List.getElem?_eq_some_iff.mp a
  have e : i = j := (List.getElem?_inj (l := fs.map (·.1)) (by rw [List.length_map]; exact hi) h.nd).mp (by rw [List.getElem?_map, List.getElem?_map, a, b]; rfl)
  subst e
  rw [a] at b
  cases b
  exact ⟨rfl, rfl⟩
end

abbrev raD : List Str := ["NoFile", "NoPage", "Taken"]
abbrev tsD : List Str := ["PaneError", "NoNumber", "NoSpace", "NoFile", "NoPage", "NoRight", "Taken", "Held", "Full", "NoRow"]
--DICO .Attribute _ "my_files" _
--DICT !.Attribute _ "my_files" _
--DICT !.Name "_law_plain" _
--DICT !.Subscript (.Name "_law_plains" _) _ _
--TUPO .Tuple [.Name "_law_found" _, .Name "_law_refused" _] _ _
/-! ### the steps -/
local macro_rules | `(tactic| walk_at "sl") => `(tactic| ((repeat with_reducible first | exact Slot.zero | apply Slot.succ); (first | (all_goals fail) | fail)))
local macro_rules | `(tactic| walk_at "set") => `(tactic| ((repeat with_reducible first | exact SetS.zero | apply SetS.succ); (first | (all_goals fail) | fail)))
local macro_rules | `(tactic| walk_at "ix") => `(tactic| ((repeat with_reducible first | exact IxOf.zero | apply IxOf.succ); (first | (all_goals fail) | fail)))
local macro_rules | `(tactic| walk_at "pick") => `(tactic| ((repeat with_reducible first | exact Pick.zero | apply Pick.succ); (first | (all_goals fail) | fail)))
local macro_rules | `(tactic| walk_at "fld") => `(tactic| ((repeat with_reducible first | exact FldAt.zero | apply FldAt.succ); (first | (all_goals fail) | fail)))
local macro_rules | `(tactic| walk_at "fset") => `(tactic| ((repeat with_reducible first | exact FldSet.zero | apply FldSet.succ); (first | (all_goals fail) | fail)))
local macro_rules | `(tactic| walk_at "grab") => `(tactic| (repeat (first | exact has_nil | refine has_cons (by ((repeat with_reducible first | exact Pick.zero | apply Pick.succ); (first | (all_goals fail) | fail))) ?_ | dsimp only [List.nil_append, List.cons_append, List.map_nil])))
local macro_rules | `(tactic| walk_at "pick2") => `(tactic| ((dsimp only [List.nil_append, List.cons_append]); ((repeat with_reducible first | exact Pick.zero | apply Pick.succ); (first | (all_goals fail) | fail))))
local macro_rules | `(tactic| walk_at "lent") => `(tactic| (repeat (first | exact LentS.nil | refine LentS.lend (by first | exact List.mem_cons_self | exact List.mem_cons_of_mem _ List.mem_cons_self) ?_ | refine LentS.eq ?_)))
local macro_rules | `(tactic| walk_at "datas") => `(tactic| ((repeat with_reducible first | exact datas_nil | apply datas_cons); (first | (all_goals fail) | fail)))
local macro_rules | `(tactic| walk_at "le0") => `(tactic| (repeat (first | exact Le.nil | (with_reducible apply Le.eq) | (with_reducible apply Le.un) | apply Le.eq)))
local macro_rules | `(tactic| walk_at "le") => `(tactic| ((repeat with_reducible first | exact Le.nil | apply Le.eq | apply Le.un); (first | (all_goals fail) | fail)))
local macro_rules | `(tactic| walk_at "num") => `(tactic| (first | omega | decide | (simp; omega)))
local macro_rules | `(tactic| walk_at "len") => `(tactic| (first | (with_reducible assumption) | decide | ((try simp only [List.length_cons, List.length_nil, List.length_append, List.length_map, List.length_replicate]); omega) | (refine Nat.le_trans (cutL_len _ _ _) ?_; (try simp only [List.length_cons, List.length_nil, List.length_append, List.length_map, List.length_replicate]); omega) | (refine Nat.le_trans (Nat.add_le_add_left (cutL_len _ _ _) _) ?_; (try simp only [List.length_cons, List.length_nil, List.length_append, List.length_map, List.length_replicate]); omega) | (refine Nat.le_trans (Nat.add_le_add_right (cutL_len _ _ _) _) ?_; (try simp only [List.length_cons, List.length_nil, List.length_append, List.length_map, List.length_replicate]); omega)))
local macro_rules | `(tactic| walk_at "go") => `(tactic| (repeat (first | (first | ((with_reducible show DX _ _ _ _ _); (first | ((with_reducible show DX _ (.Name _ _) _ _ _); (first | refine dx_name (by ((repeat with_reducible first | exact Slot.zero | apply Slot.succ); (first | (all_goals fail) | fail))) (by exact fun e => nomatch e) ?_ | refine dx_gint (by with_reducible assumption) ?_ | refine dx_gstr (by with_reducible assumption) ?_ | refine dx_gcls (by with_reducible assumption) (by decide +kernel) ?_ | ((with_reducible show DX _ (.Name "int" _) _ _ _); refine dx_tint ?_) | ((with_reducible show DX _ (.Name "bool" _) _ _ _); refine dx_tbool ?_) | ((with_reducible show DX _ (.Name "str" _) _ _ _); refine dx_tstr ?_) | ((with_reducible show DX _ (.Name "list" _) _ _ _); refine dx_tlist ?_) | ((with_reducible show DX _ (.Name "tuple" _) _ _ _); refine dx_ttuple ?_) | ((with_reducible show DX _ (.Name "ValueError" _) _ _ _); refine dx_tVE (by with_reducible assumption) ?_))) | ((with_reducible show DX _ (.Constant _ _ _) _ _ _); (first | ((with_reducible show DX _ (.Constant (.int _) _ _) _ _ _); refine dx_int ?_) | ((with_reducible show DX _ (.Constant (.str _) _ _) _ _ _); refine dx_str ?_) | ((with_reducible show DX _ (.Constant (.bool _) _ _) _ _ _); refine dx_bl ?_) | refine dx_non ?_)) | ((with_reducible show DX _ (.Subscript _ _ _) _ _ _); (first | ((with_reducible show DX _ (.Subscript (.Attribute _ "my_files" _) _ _) _ _ _); refine dx_dget ?_) | ((with_reducible show DX _ (.Subscript (.Name "_law_plain" _) _ _) _ _ _); refine dx_dget ?_) | ((with_reducible show DX _ (.Subscript (.Subscript (.Name "_law_plains" _) _ _) _ _) _ _ _); refine dx_dget ?_) | ((with_reducible show DX _ (.Subscript _ (.Slice _ _ _ _) _) _ _ _); refine dx_slice ?_) | ((with_reducible refine dx_ixK ?_ ?ixp); case ixp => exact fun _ _ => rfl))) | ((with_reducible show DX _ (.Call _ _ _ _) _ _ _); (first | ((with_reducible show DX _ (.Call (.Attribute _ _ _) _ _ _) _ _ _); (first | ((with_reducible show DX _ (.Call (.Attribute (.Attribute _ "my_files" _) "get" _) [_] _ _) _ _ _); refine dx_dget1 ?_) | ((with_reducible show DX _ (.Call (.Attribute (.Attribute _ "my_files" _) "get" _) [_, _] _ _) _ _ _); refine dx_dget2 ?_) | ((with_reducible show DX _ (.Call (.Attribute (.Attribute _ "my_files" _) "pop" _) [_] _ _) _ _ _); refine dx_dpop1 ?_) | ((with_reducible show DX _ (.Call (.Attribute (.Attribute _ "my_files" _) "pop" _) [_, _] _ _) _ _ _); refine dx_dpop2 ?_) | ((with_reducible show DX _ (.Call (.Attribute (.Name "_law_plain" _) "get" _) [_] _ _) _ _ _); refine dx_dget1 ?_) | ((with_reducible show DX _ (.Call (.Attribute (.Name "_law_plain" _) "get" _) [_, _] _ _) _ _ _); refine dx_dget2 ?_) | ((with_reducible show DX _ (.Call (.Attribute (.Name "_law_plain" _) "pop" _) [_] _ _) _ _ _); refine dx_dpop1 ?_) | ((with_reducible show DX _ (.Call (.Attribute (.Name "_law_plain" _) "pop" _) [_, _] _ _) _ _ _); refine dx_dpop2 ?_) | ((with_reducible show DX _ (.Call (.Attribute (.Subscript (.Name "_law_plains" _) _ _) "get" _) [_] _ _) _ _ _); refine dx_dget1 ?_) | ((with_reducible show DX _ (.Call (.Attribute (.Subscript (.Name "_law_plains" _) _ _) "get" _) [_, _] _ _) _ _ _); refine dx_dget2 ?_) | ((with_reducible show DX _ (.Call (.Attribute (.Subscript (.Name "_law_plains" _) _ _) "pop" _) [_] _ _) _ _ _); refine dx_dpop1 ?_) | ((with_reducible show DX _ (.Call (.Attribute (.Subscript (.Name "_law_plains" _) _ _) "pop" _) [_, _] _ _) _ _ _); refine dx_dpop2 ?_) | ((with_reducible show DX _ (.Call (.Attribute _ "clear" _) [] _ _) _ _ _); refine dx_clear ?_) | ((with_reducible show DX _ (.Call (.Attribute _ "pop" _) [] _ _) _ _ _); refine dx_pop ?_) | ((with_reducible show DX _ (.Call (.Attribute _ _ _) [] _ _) _ _ _); refine dx_meth0 (by with_reducible assumption) (by with_reducible assumption) ?_) | ((with_reducible show DX _ (.Call (.Attribute _ "append" _) [_] _ _) _ _ _); refine dx_append ?_) | ((with_reducible show DX _ (.Call (.Attribute _ "extend" _) [_] _ _) _ _ _); refine dx_extend ?_) | ((with_reducible show DX _ (.Call (.Attribute _ "join" _) [_] _ _) _ _ _); refine dx_join ?_) | ((with_reducible show DX _ (.Call (.Attribute _ "find" _) [_] _ _) _ _ _); refine dx_find ?_) | ((with_reducible show DX _ (.Call (.Attribute (.Constant (.str _) _ _) "index" _) [_] _ _) _ _ _); refine dx_sindex ?_) | ((with_reducible show DX _ (.Call (.Attribute _ "split" _) [_] _ _) _ _ _); refine dx_split ?_) | refine dx_meth (by with_reducible assumption) (by with_reducible assumption) ?_)) | ((with_reducible show DX _ (.Call (.Name _ _) [] _ _) _ _ _); refine dx_call0 (by with_reducible assumption) ?_) | ((with_reducible show DX _ (.Call (.Name "len" _) [(.Attribute _ "my_files" _)] _ _) _ _ _); refine dx_dlen ?_) | ((with_reducible show DX _ (.Call (.Name "list" _) [(.Attribute _ "my_files" _)] _ _) _ _ _); refine dx_dlist ?_) | ((with_reducible show DX _ (.Call (.Name "dict" _) [(.Attribute _ "my_files" _)] _ _) _ _ _); refine dx_dictO ?_) | ((with_reducible show DX _ (.Call (.Name "sorted" _) [(.Attribute _ "my_files" _)] _ _) _ _ _); refine dx_sortedDS ?_) | ((with_reducible show DX _ (.Call (.Name "len" _) [(.Name "_law_plain" _)] _ _) _ _ _); refine dx_dlen ?_) | ((with_reducible show DX _ (.Call (.Name "list" _) [(.Name "_law_plain" _)] _ _) _ _ _); refine dx_dlist ?_) | ((with_reducible show DX _ (.Call (.Name "dict" _) [(.Name "_law_plain" _)] _ _) _ _ _); refine dx_dictO ?_) | ((with_reducible show DX _ (.Call (.Name "sorted" _) [(.Name "_law_plain" _)] _ _) _ _ _); refine dx_sortedDS ?_) | ((with_reducible show DX _ (.Call (.Name "len" _) [(.Subscript (.Name "_law_plains" _) _ _)] _ _) _ _ _); refine dx_dlen ?_) | ((with_reducible show DX _ (.Call (.Name "list" _) [(.Subscript (.Name "_law_plains" _) _ _)] _ _) _ _ _); refine dx_dlist ?_) | ((with_reducible show DX _ (.Call (.Name "dict" _) [(.Subscript (.Name "_law_plains" _) _ _)] _ _) _ _ _); refine dx_dictO ?_) | ((with_reducible show DX _ (.Call (.Name "sorted" _) [(.Subscript (.Name "_law_plains" _) _ _)] _ _) _ _ _); refine dx_sortedDS ?_) | (first | ((with_reducible show DX _ (.Call (.Name "len" _) _ _ _) _ _ _); refine dx_len ?_) | ((with_reducible show DX _ (.Call (.Name "isinstance" _) _ _ _) _ _ _); (first | ((with_reducible show DX _ (.Call _ [_, .Tuple _ _ _] _ _) _ _ _); refine dx_isET (by with_reducible assumption) (by with_reducible assumption) (by decide +kernel) ?_) | ((with_reducible show DX _ (.Call _ [_, .Name _ _] _ _) _ _ _); first | refine dx_isE (by with_reducible assumption) ?_ | refine dx_isi ?_))) | ((with_reducible show DX _ (.Call (.Name "list" _) _ _ _) _ _ _); (first | refine dx_listW ?_ | refine dx_list ?_)) | ((with_reducible show DX _ (.Call (.Name "min" _) _ _ _) _ _ _); refine dx_min ?_) | ((with_reducible show DX _ (.Call (.Name "max" _) _ _ _) _ _ _); refine dx_max ?_) | ((with_reducible show DX _ (.Call (.Name "str" _) _ _ _) _ _ _); refine dx_cstr ?_) | ((with_reducible show DX _ (.Call (.Name "int" _) _ _ _) _ _ _); refine dx_cint ?_) | ((with_reducible show DX _ (.Call (.Name "tuple" _) _ _ _) _ _ _); refine dx_tupleU ?_) | refine dx_call (by with_reducible assumption) ?_ | refine dx_make (by with_reducible assumption) ?_))) | ((with_reducible show DX _ (.BinOp _ _ _ _) _ _ _); (first | ((with_reducible show DX _ (.BinOp (.List [_] _) .Mult _ _) _ _ _); refine dx_repD ?_) | (first | ((with_reducible show DX _ (.BinOp _ .Add _ _) _ _ _); refine dx_bin cAdd ?_) | ((with_reducible show DX _ (.BinOp _ .Sub _ _) _ _ _); refine dx_bin op_sub ?_) | ((with_reducible show DX _ (.BinOp _ .Mult _ _) _ _ _); refine dx_bin op_uMul ?_) | ((with_reducible show DX _ (.BinOp _ .FloorDiv _ _) _ _ _); refine dx_bin op_fdivW ?_) | ((with_reducible show DX _ (.BinOp _ .Mod _ _) _ _ _); refine dx_bin op_mod ?_) | ((with_reducible show DX _ (.BinOp _ .Pow _ _) _ _ _); refine dx_bin op_pow ?_)))) | ((with_reducible show DX _ (.Compare _ _ _ _) _ _ _); (first | ((with_reducible show DX _ (.Compare _ [.In] [(.Attribute _ "my_files" _)] _) _ _ _); refine dx_din ?_) | ((with_reducible show DX _ (.Compare _ [.NotIn] [(.Attribute _ "my_files" _)] _) _ _ _); refine dx_dnin ?_) | ((with_reducible show DX _ (.Compare _ [.In] [(.Name "_law_plain" _)] _) _ _ _); refine dx_din ?_) | ((with_reducible show DX _ (.Compare _ [.NotIn] [(.Name "_law_plain" _)] _) _ _ _); refine dx_dnin ?_) | ((with_reducible show DX _ (.Compare _ [.In] [(.Subscript (.Name "_law_plains" _) _ _)] _) _ _ _); refine dx_din ?_) | ((with_reducible show DX _ (.Compare _ [.NotIn] [(.Subscript (.Name "_law_plains" _) _ _)] _) _ _ _); refine dx_dnin ?_) | ((with_reducible show DX _ (.Compare _ [_] _ _) _ _ _); (first | ((with_reducible show DX _ (.Compare _ [.Eq] [_] _) _ _ _); refine dx_cmp cEq (nomark _) ?_) | ((with_reducible show DX _ (.Compare _ [.NotEq] [_] _) _ _ _); refine dx_cmp cNe (nomark _) ?_) | ((with_reducible show DX _ (.Compare _ [.Lt] [_] _) _ _ _); refine dx_cmp op_lt (nomark _) ?_) | ((with_reducible show DX _ (.Compare _ [.LtE] [_] _) _ _ _); refine dx_cmp op_le (nomark _) ?_) | ((with_reducible show DX _ (.Compare _ [.Gt] [_] _) _ _ _); refine dx_cmp op_gt (nomark _) ?_) | ((with_reducible show DX _ (.Compare _ [.GtE] [_] _) _ _ _); refine dx_cmp op_ge (nomark _) ?_) | ((with_reducible show DX _ (.Compare _ [.Is] [_] _) _ _ _); refine dx_cmp op_uIs (nomark _) ?_) | ((with_reducible show DX _ (.Compare _ [.IsNot] [_] _) _ _ _); refine dx_cmp op_uIsn (nomark _) ?_) | ((with_reducible show DX _ (.Compare _ [.In] [_] _) _ _ _); refine dx_cmp cIn (rfl) ?_) | ((with_reducible show DX _ (.Compare _ [.NotIn] [_] _) _ _ _); refine dx_cmp cNin (rfl) ?_))) | ((with_reducible show DX _ (.Compare _ [_, _] _ _) _ _ _); (first | ((with_reducible show DX _ (.Compare _ [.LtE, .Lt] [_, _] _) _ _ _); refine dx_chain op_le op_lt ?_) | ((with_reducible show DX _ (.Compare _ [.LtE, .LtE] [_, _] _) _ _ _); refine dx_chain op_le op_le ?_))))) | ((with_reducible show DX _ (.BoolOp _ _ _) _ _ _); (first | ((with_reducible show DX _ (.BoolOp _ [_] _) _ _ _); refine dx_one ?_) | ((with_reducible show DX _ (.BoolOp .And _ _) _ _ _); refine dx_and ?_) | refine dx_or ?_)) | ((with_reducible show DX _ (.Attribute _ _ _) _ _ _); refine dx_fld ?_) | ((with_reducible show DX _ (.UnaryOp _ _ _) _ _ _); (first | ((with_reducible show DX _ (.UnaryOp .Not _ _) _ _ _); refine dx_not ?_) | refine dx_neg ?_)) | ((with_reducible show DX _ (.Tuple _ _ _) _ _ _); (first | ((with_reducible show DX _ (.Tuple [.Name "_law_found" _, .Name "_law_refused" _] _ _) _ _ _); refine dx_tupO ?_) | refine dx_tup ?_)) | ((with_reducible show DX _ (.List _ _) _ _ _); refine dx_lst ?_) | ((with_reducible show DX _ (.IfExp _ _ _ _) _ _ _); refine dx_ifExp ?_) | ((with_reducible show DX _ (.Dict [] [] _) _ _ _); refine dx_dnew ?_))) | ((with_reducible show OpD _ _ _ _ _); (first | ((with_reducible show OpD (uAdd _) (.d (.int _)) (.d (.int _)) _ _); refine od_add ?_) | ((with_reducible show OpD (uAdd _) (.d (.str _)) (.d (.str _)) _ _); refine od_adds (by (first | (with_reducible assumption) | decide | ((try simp only [List.length_cons, List.length_nil, List.length_append, List.length_map, List.length_replicate]); omega) | (refine Nat.le_trans (cutL_len _ _ _) ?_; (try simp only [List.length_cons, List.length_nil, List.length_append, List.length_map, List.length_replicate]); omega) | (refine Nat.le_trans (Nat.add_le_add_left (cutL_len _ _ _) _) ?_; (try simp only [List.length_cons, List.length_nil, List.length_append, List.length_map, List.length_replicate]); omega) | (refine Nat.le_trans (Nat.add_le_add_right (cutL_len _ _ _) _) ?_; (try simp only [List.length_cons, List.length_nil, List.length_append, List.length_map, List.length_replicate]); omega))) ?_) | ((with_reducible show OpD (uAdd _) (.d (.tuple _)) (.d (.tuple _)) _ _); refine od_addt (by first | exact List.cons_ne_nil _ _ | decide) (by (first | (with_reducible assumption) | decide | ((try simp only [List.length_cons, List.length_nil, List.length_append, List.length_map, List.length_replicate]); omega) | (refine Nat.le_trans (cutL_len _ _ _) ?_; (try simp only [List.length_cons, List.length_nil, List.length_append, List.length_map, List.length_replicate]); omega) | (refine Nat.le_trans (Nat.add_le_add_left (cutL_len _ _ _) _) ?_; (try simp only [List.length_cons, List.length_nil, List.length_append, List.length_map, List.length_replicate]); omega) | (refine Nat.le_trans (Nat.add_le_add_right (cutL_len _ _ _) _) ?_; (try simp only [List.length_cons, List.length_nil, List.length_append, List.length_map, List.length_replicate]); omega))) ?_) | ((with_reducible show OpD (uAdd _) _ _ _ _); refine od_addl rfl rfl (by (first | (with_reducible assumption) | decide | ((try simp only [List.length_cons, List.length_nil, List.length_append, List.length_map, List.length_replicate]); omega) | (refine Nat.le_trans (cutL_len _ _ _) ?_; (try simp only [List.length_cons, List.length_nil, List.length_append, List.length_map, List.length_replicate]); omega) | (refine Nat.le_trans (Nat.add_le_add_left (cutL_len _ _ _) _) ?_; (try simp only [List.length_cons, List.length_nil, List.length_append, List.length_map, List.length_replicate]); omega) | (refine Nat.le_trans (Nat.add_le_add_right (cutL_len _ _ _) _) ?_; (try simp only [List.length_cons, List.length_nil, List.length_append, List.length_map, List.length_replicate]); omega))) ?_) | ((with_reducible show OpD (rI0 fun i j => .int (i - j)) _ _ _ _); refine od_sub ?_) | ((with_reducible show OpD uMul (.d (.int _)) (.d (.int _)) _ _); (first | refine od_mul (mul_r (by (first | omega | decide | (simp; omega)))) ?_ | refine od_mul (mul_l (by (first | omega | decide | (simp; omega)))) ?_ | refine od_mul (mul_ok (by (first | omega | decide | (simp; omega))) (by (first | omega | decide | (simp; omega)))) ?_)) | ((with_reducible show OpD (rI CDivW _) _ _ _ _); refine od_div (by (first | omega | decide | (simp; omega))) ?_) | ((with_reducible show OpD (rI CPow _) (.d (.int 10)) _ _ _); (first | (with_reducible refine od_p60 ?_) | (with_reducible refine od_p59 ?_) | (with_reducible refine od_p20 ?_) | (with_reducible refine od_p40 ?_) | (with_reducible refine od_p6 ?_) | (with_reducible refine od_p9 ?_) | (with_reducible refine od_p50 ?_) | (with_reducible refine od_p58 ?_) | (with_reducible refine od_p30 ?_) | (with_reducible refine od_p3 ?_))) | ((with_reducible show OpD (rI CPow _) _ _ _ _); refine od_pow (by decide) ?_) | ((with_reducible show OpD (rI0 fun i j => .bl (decide (i < j))) _ _ _ _); refine od_lt ?_) | ((with_reducible show OpD (rI0 fun i j => .bl (decide (i ≤ j))) _ _ _ _); refine od_le ?_) | ((with_reducible show OpD (rI0 fun i j => .bl (decide (j < i))) _ _ _ _); refine od_gt ?_) | ((with_reducible show OpD (rI0 fun i j => .bl (decide (j ≤ i))) _ _ _ _); refine od_ge ?_) | ((with_reducible show OpD (rI _ _) _ _ _ _); refine od_mod (by (first | omega | decide | (simp; omega))) ?_) | ((with_reducible show OpD (uEq _) _ _ _ _); (first | refine od_eq rfl rfl (by first | exact .int _ _ | exact .str _ _ | exact .bl _ _ | exact .nn | exact .ni _ | exact .in_ _ | exact .ns _ | exact .sn _) ?_ | refine od_eqS rfl rfl (by first | (with_reducible assumption) | decide +kernel | rfl) ?_ | refine od_eq rfl rfl (.dat (by first | (with_reducible assumption) | decide +kernel | rfl) (by first | (with_reducible assumption) | decide +kernel | rfl)) ?_)) | ((with_reducible show OpD (uNe _) _ _ _ _); (first | (with_reducible refine od_nenm ?_) | refine od_ne rfl rfl (by first | exact .int _ _ | exact .str _ _ | exact .bl _ _ | exact .nn | exact .ni _ | exact .in_ _ | exact .ns _ | exact .sn _) ?_ | refine od_neS rfl rfl (by first | (with_reducible assumption) | decide +kernel | rfl) ?_ | refine od_ne rfl rfl (.dat (by first | (with_reducible assumption) | decide +kernel | rfl) (by first | (with_reducible assumption) | decide +kernel | rfl)) ?_)) | ((with_reducible show OpD (uNin _) (.d (.str _)) (.d (.str _)) _ _); refine od_nins ?_) | ((with_reducible show OpD (uIn _) (.d (.str _)) (.d (.str _)) _ _); refine od_ins ?_) | ((with_reducible show OpD (uIn _) (.d _) (.r (.ref _)) _ _); refine od_inO (by ((repeat with_reducible first | exact Pick.zero | apply Pick.succ); (first | (all_goals fail) | fail))) rfl (by with_reducible assumption) ?_) | ((with_reducible show OpD (uNin _) (.d _) (.r (.ref _)) _ _); refine od_ninO (by ((repeat with_reducible first | exact Pick.zero | apply Pick.succ); (first | (all_goals fail) | fail))) rfl (by with_reducible assumption) ?_) | ((with_reducible show OpD uIs _ _ _ _); (first | (with_reducible refine od_isnm ?_) | refine od_is rfl ?_)) | ((with_reducible show OpD uIsn _ _ _ _); (first | (with_reducible refine od_isnnm ?_) | refine od_isn rfl ?_)) | ((with_reducible show OpD (rIx _) (.r (.ref _)) _ _ _); (first | refine od_ixo (by ((repeat with_reducible first | exact Pick.zero | apply Pick.succ); (first | (all_goals fail) | fail))) (by first | rfl | with_reducible assumption) (by exact fun _ z => nomatch z) ?_ | refine od_ixt2 (by ((repeat with_reducible first | exact Pick.zero | apply Pick.succ); (first | (all_goals fail) | fail))) (by first | rfl | with_reducible assumption) (by exact fun _ z => nomatch z) ?_)) | ((with_reducible show OpD (rIx _) (.d (.str _)) _ _ _); refine od_ixt (by (first | (with_reducible assumption) | decide | ((try simp only [List.length_cons, List.length_nil, List.length_append, List.length_map, List.length_replicate]); omega) | (refine Nat.le_trans (cutL_len _ _ _) ?_; (try simp only [List.length_cons, List.length_nil, List.length_append, List.length_map, List.length_replicate]); omega) | (refine Nat.le_trans (Nat.add_le_add_left (cutL_len _ _ _) _) ?_; (try simp only [List.length_cons, List.length_nil, List.length_append, List.length_map, List.length_replicate]); omega) | (refine Nat.le_trans (Nat.add_le_add_right (cutL_len _ _ _) _) ?_; (try simp only [List.length_cons, List.length_nil, List.length_append, List.length_map, List.length_replicate]); omega))) (by with_reducible assumption) ?_) | ((with_reducible show OpD (rIx _) _ _ _ _); refine od_ixs rfl (by first | rfl | with_reducible assumption) ?_))) | ((with_reducible show DS _ _ _ _ _); (first | ((with_reducible show DS _ (.Assign [.Subscript (.Attribute _ "my_files" _) _ _] (.Call (.Name "list" _) [_] _ _) _) _ _ _); refine ds_dput (dx_listU ?_)) | ((with_reducible show DS _ (.Assign [.Subscript (.Attribute _ "my_files" _) _ _] _ _) _ _ _); refine ds_dput ?_) | ((with_reducible show DS _ (.Assign [.Subscript (.Name "_law_plain" _) _ _] _ _) _ _ _); refine ds_dput ?_) | ((with_reducible show DS _ (.Assign [.Subscript (.Subscript (.Name "_law_plains" _) _ _) _ _] _ _) _ _ _); refine ds_dput ?_) | ((with_reducible show DS _ (.Assign [.Name _ _] _ _) _ _ _); (fail_if_success (with_reducible show DS _ (.Assign _ (.List [] _) _) _ _ _)); (fail_if_success (with_reducible show DS _ (.Assign _ (.ListComp _ _ _ _) _) _ _ _)); refine ds_set ?_) | ((with_reducible show DS _ (.Assign [.Attribute _ _ _] _ _) _ _ _); (fail_if_success (with_reducible show DS _ (.Assign _ (.List _ _) _) _ _ _)); (fail_if_success (with_reducible show DS _ (.Assign _ (.ListComp _ _ _ _) _) _ _ _)); refine ds_fld ?_) | ((with_reducible show DS _ (.Assign [.Subscript _ _ _] _ _) _ _ _); (fail_if_success (with_reducible show DS _ (.Assign [.Subscript (.Subscript _ _ _) _ _] _ _) _ _ _)); refine ds_seti ?_) | ((with_reducible show DS _ (.Return (some _) _) _ _ _); refine ds_ret ?_) | ((with_reducible show DS _ (.Return none _) _ _ _); refine ds_retN ?_) | ((with_reducible show DS _ (.If _ _ _ _) _ _ _); refine ds_if ?_) | ((with_reducible show DS _ (.Expr (.Constant _ _ _) _) _ _ _); refine ds_doc ?_) | ((with_reducible show DS _ (.Expr _ _) _ _ _); refine ds_expr ?_) | ((with_reducible show DS _ (.Pass _) _ _ _); refine ds_pass ?_) | ((with_reducible show DS _ (.Break _) _ _ _); refine ds_break ?_) | ((with_reducible show DS _ (.Continue _) _ _ _); refine ds_continue ?_) | ((with_reducible show DS _ (.Raise (some (.Call (.Name _ _) [.Constant (.str _) _ _] [] _)) none _) _ _ _); refine ds_raise (by with_reducible assumption) (by decide +kernel) (by decide +kernel) ?_))) | ((with_reducible show DSs _ _ _ _ _); (first | ((with_reducible show DSs _ (_ :: _) _ _ _); refine dss_cons ?_) | ((with_reducible show DSs _ [] _ _ _); refine dss_nil ?_))) | ((with_reducible show DT _ _ _ _ _); (first | ((with_reducible show DT _ (.Compare _ _ _ _) _ _ _); (first | ((with_reducible show DT _ (.Compare _ [.In] [(.Attribute _ "my_files" _)] _) _ _ _); refine dt_din ?_) | ((with_reducible show DT _ (.Compare _ [.NotIn] [(.Attribute _ "my_files" _)] _) _ _ _); refine dt_dnin ?_) | ((with_reducible show DT _ (.Compare _ [.In] [(.Name "_law_plain" _)] _) _ _ _); refine dt_din ?_) | ((with_reducible show DT _ (.Compare _ [.NotIn] [(.Name "_law_plain" _)] _) _ _ _); refine dt_dnin ?_) | ((with_reducible show DT _ (.Compare _ [.In] [(.Subscript (.Name "_law_plains" _) _ _)] _) _ _ _); refine dt_din ?_) | ((with_reducible show DT _ (.Compare _ [.NotIn] [(.Subscript (.Name "_law_plains" _) _ _)] _) _ _ _); refine dt_dnin ?_))) | ((with_reducible show DT _ (.BoolOp _ _ _) _ _ _); refine dt_bool ?_) | ((with_reducible show DT _ (.UnaryOp .Not _ _) _ _ _); refine dt_not ?_) | ((with_reducible show DT _ (.Compare _ [_] _ _) _ _ _); (first | ((with_reducible show DT _ (.Compare _ [.Eq] [_] _) _ _ _); refine dt_cmp cEq (nomark _) ?_) | ((with_reducible show DT _ (.Compare _ [.NotEq] [_] _) _ _ _); refine dt_cmp cNe (nomark _) ?_) | ((with_reducible show DT _ (.Compare _ [.Lt] [_] _) _ _ _); refine dt_cmp op_lt (nomark _) ?_) | ((with_reducible show DT _ (.Compare _ [.LtE] [_] _) _ _ _); refine dt_cmp op_le (nomark _) ?_) | ((with_reducible show DT _ (.Compare _ [.Gt] [_] _) _ _ _); refine dt_cmp op_gt (nomark _) ?_) | ((with_reducible show DT _ (.Compare _ [.GtE] [_] _) _ _ _); refine dt_cmp op_ge (nomark _) ?_) | ((with_reducible show DT _ (.Compare _ [.Is] [_] _) _ _ _); refine dt_cmp op_uIs (nomark _) ?_) | ((with_reducible show DT _ (.Compare _ [.IsNot] [_] _) _ _ _); refine dt_cmp op_uIsn (nomark _) ?_) | ((with_reducible show DT _ (.Compare _ [.In] [_] _) _ _ _); refine dt_cmp cIn (rfl) ?_) | ((with_reducible show DT _ (.Compare _ [.NotIn] [_] _) _ _ _); refine dt_cmp cNin (rfl) ?_))) | ((with_reducible show DT _ (.Compare _ [_, _] _ _) _ _ _); (first | ((with_reducible show DT _ (.Compare _ [.LtE, .Lt] [_, _] _) _ _ _); refine dt_chain op_le op_lt ?_) | ((with_reducible show DT _ (.Compare _ [.LtE, .LtE] [_, _] _) _ _ _); refine dt_chain op_le op_le ?_))) | ((with_reducible show DT _ _ _ _ _); refine dt_tru ?_))) | ((with_reducible show DW _ _ _ _ _); (first | ((with_reducible show DW _ (.BoolOp .And [_] _) _ _ _); refine dw_and1 ?_) | ((with_reducible show DW _ (.BoolOp .Or [_] _) _ _ _); refine dw_or1 ?_) | ((with_reducible show DW _ (.BoolOp .And _ _) _ _ _); refine dw_and ?_) | ((with_reducible show DW _ (.BoolOp .Or _ _) _ _ _); refine dw_or ?_))) | ((with_reducible show DA _ _ _ _ _); (first | ((with_reducible show DA _ (_ :: _) _ _ _); refine da_cons ?_) | ((with_reducible show DA _ [] _ _ _); refine da_nil ?_))) | ((with_reducible show if _ = true then _ else _); (first | (with_reducible refine ite_tt ?_) | (with_reducible refine ite_ff ?_) | (with_reducible refine ite_nt ?_) | (with_reducible refine ite_nf ?_) | ((with_reducible show if decide _ = true then _ else _); first | refine ite_dt (by (first | (with_reducible assumption) | omega | decide +kernel | ((simp only [List.length_cons, List.length_nil, List.length_map, List.length_append]); omega) | ((simp only [List.length_cons, List.length_nil, List.length_map, List.length_append]); (first | (all_goals fail) | fail)))) ?_ | refine ite_df (by (first | (with_reducible assumption) | omega | decide +kernel | ((simp only [List.length_cons, List.length_nil, List.length_map, List.length_append]); omega) | ((simp only [List.length_cons, List.length_nil, List.length_map, List.length_append]); (first | (all_goals fail) | fail)))) ?_) | ((with_reducible show if (!decide _) = true then _ else _); first | refine ite_ndf (by (first | (with_reducible assumption) | omega | decide +kernel | ((simp only [List.length_cons, List.length_nil, List.length_map, List.length_append]); omega) | ((simp only [List.length_cons, List.length_nil, List.length_map, List.length_append]); (first | (all_goals fail) | fail)))) ?_ | refine ite_ndt (by (first | (with_reducible assumption) | omega | decide +kernel | ((simp only [List.length_cons, List.length_nil, List.length_map, List.length_append]); omega) | ((simp only [List.length_cons, List.length_nil, List.length_map, List.length_append]); (first | (all_goals fail) | fail)))) ?_) | (with_reducible refine ite_nn ?_) | ((with_reducible show if PyData.eqv _ _ = true then _ else _); first | refine ite_t (by decide +kernel) ?_ | refine ite_f (by decide +kernel) ?_ | refine ite_t rfl ?_ | refine ite_f rfl ?_) | ((with_reducible show if (!PyData.eqv _ _) = true then _ else _); first | refine ite_t (by decide +kernel) ?_ | refine ite_f (by decide +kernel) ?_ | refine ite_t rfl ?_ | refine ite_f rfl ?_) | ((with_reducible show if wholeD (.int _) = true then _ else _); refine ite_t rfl ?_) | ((with_reducible show if (!wholeD (.int _)) = true then _ else _); refine ite_f rfl ?_) | ((with_reducible show if isD _ _ = true then _ else _); first | refine ite_t rfl ?_ | refine ite_f rfl ?_) | ((with_reducible show if (!isD _ _) = true then _ else _); first | refine ite_t rfl ?_ | refine ite_f rfl ?_))) | ((with_reducible show Exists _); (first | (with_reducible refine me_fil (by ((repeat with_reducible first | exact Pick.zero | apply Pick.succ); (first | (all_goals fail) | fail))) (by decide +kernel) ?_) | ((with_reducible show ∃ i ρ', SetS _ _ _ i _ ρ' ∧ _); refine ⟨_, _, by ((repeat with_reducible first | exact SetS.zero | apply SetS.succ); (first | (all_goals fail) | fail)), ?_⟩) | (with_reducible refine ex_list rfl ?_) | ((with_reducible show ∃ ds, Sl.asSeq _ = some ds ∧ _); refine ex_seq rfl ?_) | ((with_reducible show ∃ ds, Datas _ ds ∧ _); refine ex_datas (by ((repeat with_reducible first | exact datas_nil | apply datas_cons); (first | (all_goals fail) | fail))) (by first | exact Nat.le_of_ble_eq_true rfl | (first | (with_reducible assumption) | decide | ((try simp only [List.length_cons, List.length_nil, List.length_append, List.length_map, List.length_replicate]); omega) | (refine Nat.le_trans (cutL_len _ _ _) ?_; (try simp only [List.length_cons, List.length_nil, List.length_append, List.length_map, List.length_replicate]); omega) | (refine Nat.le_trans (Nat.add_le_add_left (cutL_len _ _ _) _) ?_; (try simp only [List.length_cons, List.length_nil, List.length_append, List.length_map, List.length_replicate]); omega) | (refine Nat.le_trans (Nat.add_le_add_right (cutL_len _ _ _) _) ?_; (try simp only [List.length_cons, List.length_nil, List.length_append, List.length_map, List.length_replicate]); omega))) ?_) | ((with_reducible show ∃ C p fs g sl, _ = Sl.r (.ref p) ∧ Pick _ (insM C p fs) g ∧ FldC _ C _ ∧ FldAt fs _ sl ∧ _); refine ex_fld (by ((repeat with_reducible first | exact Pick.zero | apply Pick.succ); (first | (all_goals fail) | fail))) (fldc (by with_reducible assumption) (by decide +kernel)) (by ((repeat with_reducible first | exact FldAt.zero | apply FldAt.succ); (first | (all_goals fail) | fail))) (by (simp only [List.map_cons, List.map_nil]); decide +kernel) (by exact fun _ z => nomatch z) ?_) | ((with_reducible show ∃ C p fs g fs2, _ = Sl.r (.ref p) ∧ Pick _ (insM C p fs) g ∧ FldC _ C _ ∧ (FldSet fs _ _ fs2 ∨ _) ∧ _); first | refine ex_fset (by ((repeat with_reducible first | exact Pick.zero | apply Pick.succ); (first | (all_goals fail) | fail))) (fldc (by with_reducible assumption) (by decide +kernel)) (by ((repeat with_reducible first | exact FldSet.zero | apply FldSet.succ); (first | (all_goals fail) | fail))) (by (simp only [List.map_cons, List.map_nil]); decide +kernel) (by exact Nat.le_of_ble_eq_true rfl) ?_ | refine ex_fnew (by ((repeat with_reducible first | exact Pick.zero | apply Pick.succ); (first | (all_goals fail) | fail))) (fldc (by with_reducible assumption) (by decide +kernel)) (by (simp only [List.map_cons, List.map_nil]); decide +kernel) (by (simp only [List.map_cons, List.map_nil]); decide +kernel) (by exact Nat.le_of_ble_eq_true rfl) ?_) | ((with_reducible show ∃ p ss f k j, _ = Sl.r (.ref p) ∧ _ = Sl.d (.int k) ∧ _); refine ex_seti (by ((repeat with_reducible first | exact Pick.zero | apply Pick.succ); (first | (all_goals fail) | fail))) (by first | with_reducible assumption | rfl) ?_) | ((with_reducible show ∃ p ss f, Sl.r _ = Sl.r (.ref p) ∧ Pick _ _ f ∧ _); (first | (with_reducible refine ex_frz (by ((repeat with_reducible first | exact Pick.zero | apply Pick.succ); (first | (all_goals fail) | fail))) ?_) | (with_reducible refine ex_own (by ((repeat with_reducible first | exact Pick.zero | apply Pick.succ); (first | (all_goals fail) | fail))) ?_) | (with_reducible refine ex_dic (by ((repeat with_reducible first | exact Pick.zero | apply Pick.succ); (first | (all_goals fail) | fail))) ?_))) | ((with_reducible show ∃ t ss f, [_] = [t] ∧ Pick _ (lstM _ ss) f ∧ _); (with_reducible refine ex_app (by ((repeat with_reducible first | exact Pick.zero | apply Pick.succ); (first | (all_goals fail) | fail))) (by (first | (with_reducible assumption) | decide | ((try simp only [List.length_cons, List.length_nil, List.length_append, List.length_map, List.length_replicate]); omega) | (refine Nat.le_trans (cutL_len _ _ _) ?_; (try simp only [List.length_cons, List.length_nil, List.length_append, List.length_map, List.length_replicate]); omega) | (refine Nat.le_trans (Nat.add_le_add_left (cutL_len _ _ _) _) ?_; (try simp only [List.length_cons, List.length_nil, List.length_append, List.length_map, List.length_replicate]); omega) | (refine Nat.le_trans (Nat.add_le_add_right (cutL_len _ _ _) _) ?_; (try simp only [List.length_cons, List.length_nil, List.length_append, List.length_map, List.length_replicate]); omega))) ?_)) | ((with_reducible show ∃ ds ss f, Sl.n _ = Sl.n ds ∧ Pick _ (lstM _ ss) f ∧ _); (with_reducible refine ex_ext (by ((repeat with_reducible first | exact Pick.zero | apply Pick.succ); (first | (all_goals fail) | fail))) (by (first | (with_reducible assumption) | decide | ((try simp only [List.length_cons, List.length_nil, List.length_append, List.length_map, List.length_replicate]); omega) | (refine Nat.le_trans (cutL_len _ _ _) ?_; (try simp only [List.length_cons, List.length_nil, List.length_append, List.length_map, List.length_replicate]); omega) | (refine Nat.le_trans (Nat.add_le_add_left (cutL_len _ _ _) _) ?_; (try simp only [List.length_cons, List.length_nil, List.length_append, List.length_map, List.length_replicate]); omega) | (refine Nat.le_trans (Nat.add_le_add_right (cutL_len _ _ _) _) ?_; (try simp only [List.length_cons, List.length_nil, List.length_append, List.length_map, List.length_replicate]); omega))) ?_)) | ((with_reducible show ∃ ys, RefsE _ _ ys ∧ _); (first | refine ex_refs (w := false) (by ((repeat with_reducible first | exact RefsE.nil | apply RefsE.cons); (first | (all_goals fail) | fail))) (by decide +kernel) ?_ | refine ex_refs (w := true) (by ((repeat with_reducible first | exact RefsE.nil | apply RefsE.cons); (first | (all_goals fail) | fail))) (by decide +kernel) ?_)) | ((with_reducible show ∃ rs', Ent [_] (rs' ++ [_]) ∧ _); (refine end_ex ?_; with_reducible assumption)) | ((with_reducible show ∃ ρ', SetS _ _ _ _ _ ρ' ∧ _); refine ⟨_, by ((repeat with_reducible first | exact SetS.zero | apply SetS.succ); (first | (all_goals fail) | fail)), ?_⟩) | ((with_reducible show ∃ k f, Sl.d (.int _) = Sl.d (.int k) ∧ _ ∧ Pick _ _ f ∧ _); (with_reducible refine ex_rep (by ((repeat with_reducible first | exact Pick.zero | apply Pick.succ); (first | (all_goals fail) | fail))) (by (first | omega | decide | (simp; omega))) ?_)) | (with_reducible refine ex_dat ?_) | (with_reducible refine ex_int ?_) | (with_reducible refine ex_str ?_) | ((with_reducible show ∃ p kvs g k, Sl.r _ = Sl.r (.ref p) ∧ _ = Sl.d (keyD k) ∧ Pick _ (dictM p kvs) g ∧ _); (first | (with_reducible refine ex_din1 (by ((repeat with_reducible first | exact Pick.zero | apply Pick.succ); (first | (all_goals fail) | fail))) ?_) | (with_reducible refine ex_din2 (by ((repeat with_reducible first | exact Pick.zero | apply Pick.succ); (first | (all_goals fail) | fail))) ?_))) | ((with_reducible show ∃ p kvs f k, _ = Sl.r (.ref p) ∧ _ = Sl.d (keyD k) ∧ Pick _ (dictM p kvs) f ∧ kvs.length ≤ _ ∧ _); first | refine ex_dputI (by ((repeat with_reducible first | exact Pick.zero | apply Pick.succ); (first | (all_goals fail) | fail))) (by (first | (with_reducible assumption) | decide | ((try simp only [List.length_cons, List.length_nil, List.length_append, List.length_map, List.length_replicate]); omega) | (refine Nat.le_trans (cutL_len _ _ _) ?_; (try simp only [List.length_cons, List.length_nil, List.length_append, List.length_map, List.length_replicate]); omega) | (refine Nat.le_trans (Nat.add_le_add_left (cutL_len _ _ _) _) ?_; (try simp only [List.length_cons, List.length_nil, List.length_append, List.length_map, List.length_replicate]); omega) | (refine Nat.le_trans (Nat.add_le_add_right (cutL_len _ _ _) _) ?_; (try simp only [List.length_cons, List.length_nil, List.length_append, List.length_map, List.length_replicate]); omega))) ?_ | refine ex_dputS (by ((repeat with_reducible first | exact Pick.zero | apply Pick.succ); (first | (all_goals fail) | fail))) (by (first | (with_reducible assumption) | decide | ((try simp only [List.length_cons, List.length_nil, List.length_append, List.length_map, List.length_replicate]); omega) | (refine Nat.le_trans (cutL_len _ _ _) ?_; (try simp only [List.length_cons, List.length_nil, List.length_append, List.length_map, List.length_replicate]); omega) | (refine Nat.le_trans (Nat.add_le_add_left (cutL_len _ _ _) _) ?_; (try simp only [List.length_cons, List.length_nil, List.length_append, List.length_map, List.length_replicate]); omega) | (refine Nat.le_trans (Nat.add_le_add_right (cutL_len _ _ _) _) ?_; (try simp only [List.length_cons, List.length_nil, List.length_append, List.length_map, List.length_replicate]); omega))) ?_) | ((with_reducible show ∃ p kvs f k, _ = Sl.r (.ref p) ∧ _ = Sl.d (keyD k) ∧ Pick _ (dictM p kvs) f ∧ _); first | refine ex_din1 (by ((repeat with_reducible first | exact Pick.zero | apply Pick.succ); (first | (all_goals fail) | fail))) ?_ | refine ex_din2 (by ((repeat with_reducible first | exact Pick.zero | apply Pick.succ); (first | (all_goals fail) | fail))) ?_) | ((with_reducible show ∃ kvs f k s, _ = Sl.d (keyD k) ∧ Pick _ (dictM _ kvs) f ∧ valS kvs k = some s ∧ _); first | refine ex_dpopI (by ((repeat with_reducible first | exact Pick.zero | apply Pick.succ); (first | (all_goals fail) | fail))) (by with_reducible assumption) (by exact fun _ z => nomatch z) ?_ | refine ex_dpopS (by ((repeat with_reducible first | exact Pick.zero | apply Pick.succ); (first | (all_goals fail) | fail))) (by with_reducible assumption) (by exact fun _ z => nomatch z) ?_) | ((with_reducible show ∃ p kvs f k s, _ = Sl.r (.ref p) ∧ _ = Sl.d (keyD k) ∧ Pick _ (dictM p kvs) f ∧ _); first | refine ex_dget (by ((repeat with_reducible first | exact Pick.zero | apply Pick.succ); (first | (all_goals fail) | fail))) (by with_reducible assumption) (by exact fun _ z => nomatch z) ?_ | refine ex_dgetS (by ((repeat with_reducible first | exact Pick.zero | apply Pick.succ); (first | (all_goals fail) | fail))) (by with_reducible assumption) (by exact fun _ z => nomatch z) ?_))) | (first | (with_reducible refine kt ?_) | ((with_reducible show ∀ _ : Addr, _); intro q) | ((with_reducible show Le _ _ ∧ _ = _); exact ⟨by ((repeat with_reducible first | exact Le.nil | apply Le.eq | apply Le.un); (first | (all_goals fail) | fail)), rfl⟩) | ((with_reducible show CallEnd _ _ _ _ _ _); (first | ((with_reducible refine ce_fil (by ((repeat with_reducible first | exact Pick.zero | apply Pick.succ); (first | (all_goals fail) | fail))) ?_); (first | refine ⟨_, rfl, rfl, by (first | (with_reducible trivial) | (with_reducible assumption) | omega | (exact ⟨by with_reducible assumption, by with_reducible assumption⟩)), ?_⟩ | refine ⟨_, _, rfl, rfl, by (first | (with_reducible trivial) | (with_reducible assumption) | omega | (exact ⟨by with_reducible assumption, by with_reducible assumption⟩)), ?_⟩ | refine ⟨_, _, _, rfl, rfl, by (first | (with_reducible trivial) | (with_reducible assumption) | omega | (exact ⟨by with_reducible assumption, by with_reducible assumption⟩)), ?_⟩ | refine ⟨_, _, _, _, rfl, rfl, by (first | (with_reducible trivial) | (with_reducible assumption) | omega | (exact ⟨by with_reducible assumption, by with_reducible assumption⟩)), ?_⟩ | refine ⟨_, _, _, _, _, rfl, rfl, by (first | (with_reducible trivial) | (with_reducible assumption) | omega | (exact ⟨by with_reducible assumption, by with_reducible assumption⟩)), ?_⟩ | refine ⟨_, _, _, _, _, _, rfl, rfl, by (first | (with_reducible trivial) | (with_reducible assumption) | omega | (exact ⟨by with_reducible assumption, by with_reducible assumption⟩)), ?_⟩ | refine ⟨_, _, _, _, _, _, _, rfl, rfl, by (first | (with_reducible trivial) | (with_reducible assumption) | omega | (exact ⟨by with_reducible assumption, by with_reducible assumption⟩)), ?_⟩ | refine ⟨_, _, _, _, _, _, _, _, rfl, rfl, by (first | (with_reducible trivial) | (with_reducible assumption) | omega | (exact ⟨by with_reducible assumption, by with_reducible assumption⟩)), ?_⟩)) | (refine ce_inl ?_; first | refine ⟨_, rfl, rfl, by (first | (with_reducible trivial) | (with_reducible assumption) | omega | (exact ⟨by with_reducible assumption, by with_reducible assumption⟩)), ?_⟩ | refine ⟨_, _, rfl, rfl, by (first | (with_reducible trivial) | (with_reducible assumption) | omega | (exact ⟨by with_reducible assumption, by with_reducible assumption⟩)), ?_⟩ | refine ⟨_, _, _, rfl, rfl, by (first | (with_reducible trivial) | (with_reducible assumption) | omega | (exact ⟨by with_reducible assumption, by with_reducible assumption⟩)), ?_⟩ | refine ⟨_, _, _, _, rfl, rfl, by (first | (with_reducible trivial) | (with_reducible assumption) | omega | (exact ⟨by with_reducible assumption, by with_reducible assumption⟩)), ?_⟩ | refine ⟨_, _, _, _, _, rfl, rfl, by (first | (with_reducible trivial) | (with_reducible assumption) | omega | (exact ⟨by with_reducible assumption, by with_reducible assumption⟩)), ?_⟩ | refine ⟨_, _, _, _, _, _, rfl, rfl, by (first | (with_reducible trivial) | (with_reducible assumption) | omega | (exact ⟨by with_reducible assumption, by with_reducible assumption⟩)), ?_⟩))) | ((with_reducible show CallEnd0 _ _ _ _); (first | ((with_reducible refine ce0_fil (by ((repeat with_reducible first | exact Pick.zero | apply Pick.succ); (first | (all_goals fail) | fail))) ?_); (first | refine ⟨_, rfl, rfl, by (first | (with_reducible trivial) | (with_reducible assumption) | omega | (exact ⟨by with_reducible assumption, by with_reducible assumption⟩)), ?_⟩ | refine ⟨_, _, rfl, rfl, by (first | (with_reducible trivial) | (with_reducible assumption) | omega | (exact ⟨by with_reducible assumption, by with_reducible assumption⟩)), ?_⟩ | refine ⟨_, _, _, rfl, rfl, by (first | (with_reducible trivial) | (with_reducible assumption) | omega | (exact ⟨by with_reducible assumption, by with_reducible assumption⟩)), ?_⟩ | refine ⟨_, _, _, _, rfl, rfl, by (first | (with_reducible trivial) | (with_reducible assumption) | omega | (exact ⟨by with_reducible assumption, by with_reducible assumption⟩)), ?_⟩ | refine ⟨_, _, _, _, _, rfl, rfl, by (first | (with_reducible trivial) | (with_reducible assumption) | omega | (exact ⟨by with_reducible assumption, by with_reducible assumption⟩)), ?_⟩ | refine ⟨_, _, _, _, _, _, rfl, rfl, by (first | (with_reducible trivial) | (with_reducible assumption) | omega | (exact ⟨by with_reducible assumption, by with_reducible assumption⟩)), ?_⟩ | refine ⟨_, _, _, _, _, _, _, rfl, rfl, by (first | (with_reducible trivial) | (with_reducible assumption) | omega | (exact ⟨by with_reducible assumption, by with_reducible assumption⟩)), ?_⟩ | refine ⟨_, _, _, _, _, _, _, _, rfl, rfl, by (first | (with_reducible trivial) | (with_reducible assumption) | omega | (exact ⟨by with_reducible assumption, by with_reducible assumption⟩)), ?_⟩)))) | ((with_reducible show (bodyPost _ _).rt _ _); (first | (refine end_rt ?_; with_reducible assumption) | refine end_rtT (decide_eq_true (by omega)) (by with_reducible assumption) | refine end_rtT rfl (by with_reducible assumption))) | ((with_reducible show TrD (.d (.bool _)) _ _); refine tr_bool ?_) | ((with_reducible show TrD (.d .none) _ _); refine tr_none ?_) | ((with_reducible show TrD (.d (.int _)) _ _); refine tr_int ?_) | ((with_reducible show TrD (.d (.list _)) _ _); refine tr_list ?_) | ((with_reducible show TrD (.d (.tuple _)) _ _); refine tr_tuple ?_) | ((with_reducible show TrD (.r (.ref _)) _ _); (first | refine tr_own (by ((repeat with_reducible first | exact Pick.zero | apply Pick.succ); (first | (all_goals fail) | fail))) ?_ | refine tr_dict (by ((repeat with_reducible first | exact Pick.zero | apply Pick.succ); (first | (all_goals fail) | fail))) ?_)) | ((with_reducible show CaD (rIsi _) _ _ _); (first | refine cd_isiT (by decide) rfl rfl ?_ | refine cd_isiF (by decide) rfl rfl ?_ | refine cd_isi (by decide) rfl ?_ | refine cd_isiO (by ((repeat with_reducible first | exact Pick.zero | apply Pick.succ); (first | (all_goals fail) | fail))) ?_)) | ((with_reducible show CaD _ [.d (.int _), .d (.int _)] _ _); (first | refine cd_min ?_ | refine cd_max ?_)) | ((with_reducible show LenD (.d (.str _)) _ _); refine ld_str (by (first | (with_reducible assumption) | decide | ((try simp only [List.length_cons, List.length_nil, List.length_append, List.length_map, List.length_replicate]); omega) | (refine Nat.le_trans (cutL_len _ _ _) ?_; (try simp only [List.length_cons, List.length_nil, List.length_append, List.length_map, List.length_replicate]); omega) | (refine Nat.le_trans (Nat.add_le_add_left (cutL_len _ _ _) _) ?_; (try simp only [List.length_cons, List.length_nil, List.length_append, List.length_map, List.length_replicate]); omega) | (refine Nat.le_trans (Nat.add_le_add_right (cutL_len _ _ _) _) ?_; (try simp only [List.length_cons, List.length_nil, List.length_append, List.length_map, List.length_replicate]); omega))) ?_) | ((with_reducible show LenD (.r (.ref _)) _ _); refine ld_own (by ((repeat with_reducible first | exact Pick.zero | apply Pick.succ); (first | (all_goals fail) | fail))) ?_) | ((with_reducible show LenD _ _ _); refine ld_seq rfl ?_) | ((with_reducible show SlD _ (.d (.list _)) _ _ _ _); refine sd_list ?_) | ((with_reducible show SlD _ (.n _) _ _ _ _); refine sd_list ?_) | ((with_reducible show SlD _ (.r (.ref _)) _ _ _ _); refine sd_own (by ((repeat with_reducible first | exact Pick.zero | apply Pick.succ); (first | (all_goals fail) | fail))) (fun q => ?_)) | ((with_reducible show SlD _ (.d (.str _)) _ _ _ _); refine sd_str (by (first | (with_reducible assumption) | decide | ((try simp only [List.length_cons, List.length_nil, List.length_append, List.length_map, List.length_replicate]); omega) | (refine Nat.le_trans (cutL_len _ _ _) ?_; (try simp only [List.length_cons, List.length_nil, List.length_append, List.length_map, List.length_replicate]); omega) | (refine Nat.le_trans (Nat.add_le_add_left (cutL_len _ _ _) _) ?_; (try simp only [List.length_cons, List.length_nil, List.length_append, List.length_map, List.length_replicate]); omega) | (refine Nat.le_trans (Nat.add_le_add_right (cutL_len _ _ _) _) ?_; (try simp only [List.length_cons, List.length_nil, List.length_append, List.length_map, List.length_replicate]); omega))) ?_) | ((with_reducible show SlD _ (.d (.tuple [_, _, _, _])) none (some 2) _ _); refine sd_t42 ?_) | ((with_reducible show SlD _ (.d (.tuple [_, _, _, _, _, _])) (some 2) (some 5) _ _); refine sd_t625 ?_) | ((with_reducible show SlD _ (.d (.tuple [_, _, _, _])) (some 2) none _ _); refine sd_t4f2 ?_) | ((with_reducible show SlD _ (.d (.tuple [_, _, _, _, _, _])) none (some 3) _ _); refine sd_t603 ?_) | ((with_reducible show SlD _ (.d (.tuple [_, _, _, _, _, _])) (some 4) none _ _); refine sd_t64 ?_) | ((with_reducible show SlD _ (.d (.tuple [_, _, _, _, _, _])) (some 2) none _ _); refine sd_t62 ?_) | ((with_reducible show SlD _ (.d (.tuple [_, _, _, _])) none (some 3) _ _); refine sd_t43 ?_) | ((with_reducible show SlD _ (.d (.tuple _)) _ _ _ _); refine sd_tup (by first | decide | ((simp only [List.length_cons, List.length_nil]); decide +kernel)) ?_) | ((with_reducible show DO _ none _ _ _); refine do_none ?_) | ((with_reducible show DO _ (some _) _ _ _); refine do_some ?_) | (with_reducible refine ex_eqr ?_) | ((with_reducible show LsD _ _ _); first | refine ls_s (by (first | (with_reducible assumption) | decide | ((try simp only [List.length_cons, List.length_nil, List.length_append, List.length_map, List.length_replicate]); omega) | (refine Nat.le_trans (cutL_len _ _ _) ?_; (try simp only [List.length_cons, List.length_nil, List.length_append, List.length_map, List.length_replicate]); omega) | (refine Nat.le_trans (Nat.add_le_add_left (cutL_len _ _ _) _) ?_; (try simp only [List.length_cons, List.length_nil, List.length_append, List.length_map, List.length_replicate]); omega) | (refine Nat.le_trans (Nat.add_le_add_right (cutL_len _ _ _) _) ?_; (try simp only [List.length_cons, List.length_nil, List.length_append, List.length_map, List.length_replicate]); omega))) ?_ | refine ls_d rfl ?_) | ((with_reducible show LwD _ _ _); first | refine lw_d rfl ?_ | refine lw_o (by ((repeat with_reducible first | exact Pick.zero | apply Pick.succ); (first | (all_goals fail) | fail))) ?_ | refine lw_s (by (first | (with_reducible assumption) | decide | ((try simp only [List.length_cons, List.length_nil, List.length_append, List.length_map, List.length_replicate]); omega) | (refine Nat.le_trans (cutL_len _ _ _) ?_; (try simp only [List.length_cons, List.length_nil, List.length_append, List.length_map, List.length_replicate]); omega) | (refine Nat.le_trans (Nat.add_le_add_left (cutL_len _ _ _) _) ?_; (try simp only [List.length_cons, List.length_nil, List.length_append, List.length_map, List.length_replicate]); omega) | (refine Nat.le_trans (Nat.add_le_add_right (cutL_len _ _ _) _) ?_; (try simp only [List.length_cons, List.length_nil, List.length_append, List.length_map, List.length_replicate]); omega))) ?_) | ((with_reducible show TuD _ _ _); first | refine tu_d rfl ?_ | refine tu_o (by ((repeat with_reducible first | exact Pick.zero | apply Pick.succ); (first | (all_goals fail) | fail))) ?_) | ((with_reducible show LiD _ _ _); first | refine li_o (by ((repeat with_reducible first | exact Pick.zero | apply Pick.succ); (first | (all_goals fail) | fail))) (fun q => ?_) | refine li_d rfl (fun q => ?_)) | ((with_reducible show _ < 1920 ∧ _); refine ⟨log2_ok (by (first | omega | decide | (simp; omega))), ?_⟩) | ((with_reducible show CaD (rIsE _ _ _) [_, .r (.ty _)] _ _); refine cd_isEV (by with_reducible assumption) (by decide +kernel) ?_) | ((with_reducible show CaD (rIsE _ _ _) _ _ _); (first | refine cd_isE1 (r := true) (by with_reducible assumption) (by decide +kernel) (by decide +kernel) (by decide +kernel) ?_ | refine cd_isE1 (r := false) (by with_reducible assumption) (by decide +kernel) (by decide +kernel) (by decide +kernel) ?_)))) | dsimp only [List.nil_append, List.cons_append, Sl.plain])))
local macro_rules | `(tactic| walk_at "auto") => `(tactic| (repeat' (first | (first | ((with_reducible show DX _ _ _ _ _); (first | ((with_reducible show DX _ (.Name _ _) _ _ _); (first | refine dx_name (by ((repeat with_reducible first | exact Slot.zero | apply Slot.succ); (first | (all_goals fail) | fail))) (by exact fun e => nomatch e) ?_ | refine dx_gint (by with_reducible assumption) ?_ | refine dx_gstr (by with_reducible assumption) ?_ | refine dx_gcls (by with_reducible assumption) (by decide +kernel) ?_ | ((with_reducible show DX _ (.Name "int" _) _ _ _); refine dx_tint ?_) | ((with_reducible show DX _ (.Name "bool" _) _ _ _); refine dx_tbool ?_) | ((with_reducible show DX _ (.Name "str" _) _ _ _); refine dx_tstr ?_) | ((with_reducible show DX _ (.Name "list" _) _ _ _); refine dx_tlist ?_) | ((with_reducible show DX _ (.Name "tuple" _) _ _ _); refine dx_ttuple ?_) | ((with_reducible show DX _ (.Name "ValueError" _) _ _ _); refine dx_tVE (by with_reducible assumption) ?_))) | ((with_reducible show DX _ (.Constant _ _ _) _ _ _); (first | ((with_reducible show DX _ (.Constant (.int _) _ _) _ _ _); refine dx_int ?_) | ((with_reducible show DX _ (.Constant (.str _) _ _) _ _ _); refine dx_str ?_) | ((with_reducible show DX _ (.Constant (.bool _) _ _) _ _ _); refine dx_bl ?_) | refine dx_non ?_)) | ((with_reducible show DX _ (.Subscript _ _ _) _ _ _); (first | ((with_reducible show DX _ (.Subscript (.Attribute _ "my_files" _) _ _) _ _ _); refine dx_dget ?_) | ((with_reducible show DX _ (.Subscript (.Name "_law_plain" _) _ _) _ _ _); refine dx_dget ?_) | ((with_reducible show DX _ (.Subscript (.Subscript (.Name "_law_plains" _) _ _) _ _) _ _ _); refine dx_dget ?_) | ((with_reducible show DX _ (.Subscript _ (.Slice _ _ _ _) _) _ _ _); refine dx_slice ?_) | ((with_reducible refine dx_ixK ?_ ?ixp); case ixp => exact fun _ _ => rfl))) | ((with_reducible show DX _ (.Call _ _ _ _) _ _ _); (first | ((with_reducible show DX _ (.Call (.Attribute _ _ _) _ _ _) _ _ _); (first | ((with_reducible show DX _ (.Call (.Attribute (.Attribute _ "my_files" _) "get" _) [_] _ _) _ _ _); refine dx_dget1 ?_) | ((with_reducible show DX _ (.Call (.Attribute (.Attribute _ "my_files" _) "get" _) [_, _] _ _) _ _ _); refine dx_dget2 ?_) | ((with_reducible show DX _ (.Call (.Attribute (.Attribute _ "my_files" _) "pop" _) [_] _ _) _ _ _); refine dx_dpop1 ?_) | ((with_reducible show DX _ (.Call (.Attribute (.Attribute _ "my_files" _) "pop" _) [_, _] _ _) _ _ _); refine dx_dpop2 ?_) | ((with_reducible show DX _ (.Call (.Attribute (.Name "_law_plain" _) "get" _) [_] _ _) _ _ _); refine dx_dget1 ?_) | ((with_reducible show DX _ (.Call (.Attribute (.Name "_law_plain" _) "get" _) [_, _] _ _) _ _ _); refine dx_dget2 ?_) | ((with_reducible show DX _ (.Call (.Attribute (.Name "_law_plain" _) "pop" _) [_] _ _) _ _ _); refine dx_dpop1 ?_) | ((with_reducible show DX _ (.Call (.Attribute (.Name "_law_plain" _) "pop" _) [_, _] _ _) _ _ _); refine dx_dpop2 ?_) | ((with_reducible show DX _ (.Call (.Attribute (.Subscript (.Name "_law_plains" _) _ _) "get" _) [_] _ _) _ _ _); refine dx_dget1 ?_) | ((with_reducible show DX _ (.Call (.Attribute (.Subscript (.Name "_law_plains" _) _ _) "get" _) [_, _] _ _) _ _ _); refine dx_dget2 ?_) | ((with_reducible show DX _ (.Call (.Attribute (.Subscript (.Name "_law_plains" _) _ _) "pop" _) [_] _ _) _ _ _); refine dx_dpop1 ?_) | ((with_reducible show DX _ (.Call (.Attribute (.Subscript (.Name "_law_plains" _) _ _) "pop" _) [_, _] _ _) _ _ _); refine dx_dpop2 ?_) | ((with_reducible show DX _ (.Call (.Attribute _ "clear" _) [] _ _) _ _ _); refine dx_clear ?_) | ((with_reducible show DX _ (.Call (.Attribute _ "pop" _) [] _ _) _ _ _); refine dx_pop ?_) | ((with_reducible show DX _ (.Call (.Attribute _ _ _) [] _ _) _ _ _); refine dx_meth0 (by with_reducible assumption) (by with_reducible assumption) ?_) | ((with_reducible show DX _ (.Call (.Attribute _ "append" _) [_] _ _) _ _ _); refine dx_append ?_) | ((with_reducible show DX _ (.Call (.Attribute _ "extend" _) [_] _ _) _ _ _); refine dx_extend ?_) | ((with_reducible show DX _ (.Call (.Attribute _ "join" _) [_] _ _) _ _ _); refine dx_join ?_) | ((with_reducible show DX _ (.Call (.Attribute _ "find" _) [_] _ _) _ _ _); refine dx_find ?_) | ((with_reducible show DX _ (.Call (.Attribute (.Constant (.str _) _ _) "index" _) [_] _ _) _ _ _); refine dx_sindex ?_) | ((with_reducible show DX _ (.Call (.Attribute _ "split" _) [_] _ _) _ _ _); refine dx_split ?_) | refine dx_meth (by with_reducible assumption) (by with_reducible assumption) ?_)) | ((with_reducible show DX _ (.Call (.Name _ _) [] _ _) _ _ _); refine dx_call0 (by with_reducible assumption) ?_) | ((with_reducible show DX _ (.Call (.Name "len" _) [(.Attribute _ "my_files" _)] _ _) _ _ _); refine dx_dlen ?_) | ((with_reducible show DX _ (.Call (.Name "list" _) [(.Attribute _ "my_files" _)] _ _) _ _ _); refine dx_dlist ?_) | ((with_reducible show DX _ (.Call (.Name "dict" _) [(.Attribute _ "my_files" _)] _ _) _ _ _); refine dx_dictO ?_) | ((with_reducible show DX _ (.Call (.Name "sorted" _) [(.Attribute _ "my_files" _)] _ _) _ _ _); refine dx_sortedDS ?_) | ((with_reducible show DX _ (.Call (.Name "len" _) [(.Name "_law_plain" _)] _ _) _ _ _); refine dx_dlen ?_) | ((with_reducible show DX _ (.Call (.Name "list" _) [(.Name "_law_plain" _)] _ _) _ _ _); refine dx_dlist ?_) | ((with_reducible show DX _ (.Call (.Name "dict" _) [(.Name "_law_plain" _)] _ _) _ _ _); refine dx_dictO ?_) | ((with_reducible show DX _ (.Call (.Name "sorted" _) [(.Name "_law_plain" _)] _ _) _ _ _); refine dx_sortedDS ?_) | ((with_reducible show DX _ (.Call (.Name "len" _) [(.Subscript (.Name "_law_plains" _) _ _)] _ _) _ _ _); refine dx_dlen ?_) | ((with_reducible show DX _ (.Call (.Name "list" _) [(.Subscript (.Name "_law_plains" _) _ _)] _ _) _ _ _); refine dx_dlist ?_) | ((with_reducible show DX _ (.Call (.Name "dict" _) [(.Subscript (.Name "_law_plains" _) _ _)] _ _) _ _ _); refine dx_dictO ?_) | ((with_reducible show DX _ (.Call (.Name "sorted" _) [(.Subscript (.Name "_law_plains" _) _ _)] _ _) _ _ _); refine dx_sortedDS ?_) | (first | ((with_reducible show DX _ (.Call (.Name "len" _) _ _ _) _ _ _); refine dx_len ?_) | ((with_reducible show DX _ (.Call (.Name "isinstance" _) _ _ _) _ _ _); (first | ((with_reducible show DX _ (.Call _ [_, .Tuple _ _ _] _ _) _ _ _); refine dx_isET (by with_reducible assumption) (by with_reducible assumption) (by decide +kernel) ?_) | ((with_reducible show DX _ (.Call _ [_, .Name _ _] _ _) _ _ _); first | refine dx_isE (by with_reducible assumption) ?_ | refine dx_isi ?_))) | ((with_reducible show DX _ (.Call (.Name "list" _) _ _ _) _ _ _); (first | refine dx_listW ?_ | refine dx_list ?_)) | ((with_reducible show DX _ (.Call (.Name "min" _) _ _ _) _ _ _); refine dx_min ?_) | ((with_reducible show DX _ (.Call (.Name "max" _) _ _ _) _ _ _); refine dx_max ?_) | ((with_reducible show DX _ (.Call (.Name "str" _) _ _ _) _ _ _); refine dx_cstr ?_) | ((with_reducible show DX _ (.Call (.Name "int" _) _ _ _) _ _ _); refine dx_cint ?_) | ((with_reducible show DX _ (.Call (.Name "tuple" _) _ _ _) _ _ _); refine dx_tupleU ?_) | refine dx_call (by with_reducible assumption) ?_ | refine dx_make (by with_reducible assumption) ?_))) | ((with_reducible show DX _ (.BinOp _ _ _ _) _ _ _); (first | ((with_reducible show DX _ (.BinOp (.List [_] _) .Mult _ _) _ _ _); refine dx_repD ?_) | (first | ((with_reducible show DX _ (.BinOp _ .Add _ _) _ _ _); refine dx_bin cAdd ?_) | ((with_reducible show DX _ (.BinOp _ .Sub _ _) _ _ _); refine dx_bin op_sub ?_) | ((with_reducible show DX _ (.BinOp _ .Mult _ _) _ _ _); refine dx_bin op_uMul ?_) | ((with_reducible show DX _ (.BinOp _ .FloorDiv _ _) _ _ _); refine dx_bin op_fdivW ?_) | ((with_reducible show DX _ (.BinOp _ .Mod _ _) _ _ _); refine dx_bin op_mod ?_) | ((with_reducible show DX _ (.BinOp _ .Pow _ _) _ _ _); refine dx_bin op_pow ?_)))) | ((with_reducible show DX _ (.Compare _ _ _ _) _ _ _); (first | ((with_reducible show DX _ (.Compare _ [.In] [(.Attribute _ "my_files" _)] _) _ _ _); refine dx_din ?_) | ((with_reducible show DX _ (.Compare _ [.NotIn] [(.Attribute _ "my_files" _)] _) _ _ _); refine dx_dnin ?_) | ((with_reducible show DX _ (.Compare _ [.In] [(.Name "_law_plain" _)] _) _ _ _); refine dx_din ?_) | ((with_reducible show DX _ (.Compare _ [.NotIn] [(.Name "_law_plain" _)] _) _ _ _); refine dx_dnin ?_) | ((with_reducible show DX _ (.Compare _ [.In] [(.Subscript (.Name "_law_plains" _) _ _)] _) _ _ _); refine dx_din ?_) | ((with_reducible show DX _ (.Compare _ [.NotIn] [(.Subscript (.Name "_law_plains" _) _ _)] _) _ _ _); refine dx_dnin ?_) | ((with_reducible show DX _ (.Compare _ [_] _ _) _ _ _); (first | ((with_reducible show DX _ (.Compare _ [.Eq] [_] _) _ _ _); refine dx_cmp cEq (nomark _) ?_) | ((with_reducible show DX _ (.Compare _ [.NotEq] [_] _) _ _ _); refine dx_cmp cNe (nomark _) ?_) | ((with_reducible show DX _ (.Compare _ [.Lt] [_] _) _ _ _); refine dx_cmp op_lt (nomark _) ?_) | ((with_reducible show DX _ (.Compare _ [.LtE] [_] _) _ _ _); refine dx_cmp op_le (nomark _) ?_) | ((with_reducible show DX _ (.Compare _ [.Gt] [_] _) _ _ _); refine dx_cmp op_gt (nomark _) ?_) | ((with_reducible show DX _ (.Compare _ [.GtE] [_] _) _ _ _); refine dx_cmp op_ge (nomark _) ?_) | ((with_reducible show DX _ (.Compare _ [.Is] [_] _) _ _ _); refine dx_cmp op_uIs (nomark _) ?_) | ((with_reducible show DX _ (.Compare _ [.IsNot] [_] _) _ _ _); refine dx_cmp op_uIsn (nomark _) ?_) | ((with_reducible show DX _ (.Compare _ [.In] [_] _) _ _ _); refine dx_cmp cIn (rfl) ?_) | ((with_reducible show DX _ (.Compare _ [.NotIn] [_] _) _ _ _); refine dx_cmp cNin (rfl) ?_))) | ((with_reducible show DX _ (.Compare _ [_, _] _ _) _ _ _); (first | ((with_reducible show DX _ (.Compare _ [.LtE, .Lt] [_, _] _) _ _ _); refine dx_chain op_le op_lt ?_) | ((with_reducible show DX _ (.Compare _ [.LtE, .LtE] [_, _] _) _ _ _); refine dx_chain op_le op_le ?_))))) | ((with_reducible show DX _ (.BoolOp _ _ _) _ _ _); (first | ((with_reducible show DX _ (.BoolOp _ [_] _) _ _ _); refine dx_one ?_) | ((with_reducible show DX _ (.BoolOp .And _ _) _ _ _); refine dx_and ?_) | refine dx_or ?_)) | ((with_reducible show DX _ (.Attribute _ _ _) _ _ _); refine dx_fld ?_) | ((with_reducible show DX _ (.UnaryOp _ _ _) _ _ _); (first | ((with_reducible show DX _ (.UnaryOp .Not _ _) _ _ _); refine dx_not ?_) | refine dx_neg ?_)) | ((with_reducible show DX _ (.Tuple _ _ _) _ _ _); (first | ((with_reducible show DX _ (.Tuple [.Name "_law_found" _, .Name "_law_refused" _] _ _) _ _ _); refine dx_tupO ?_) | refine dx_tup ?_)) | ((with_reducible show DX _ (.List _ _) _ _ _); refine dx_lst ?_) | ((with_reducible show DX _ (.IfExp _ _ _ _) _ _ _); refine dx_ifExp ?_) | ((with_reducible show DX _ (.Dict [] [] _) _ _ _); refine dx_dnew ?_))) | ((with_reducible show OpD _ _ _ _ _); (first | ((with_reducible show OpD (uAdd _) (.d (.int _)) (.d (.int _)) _ _); refine od_add ?_) | ((with_reducible show OpD (uAdd _) (.d (.str _)) (.d (.str _)) _ _); refine od_adds (by (first | (with_reducible assumption) | decide | ((try simp only [List.length_cons, List.length_nil, List.length_append, List.length_map, List.length_replicate]); omega) | (refine Nat.le_trans (cutL_len _ _ _) ?_; (try simp only [List.length_cons, List.length_nil, List.length_append, List.length_map, List.length_replicate]); omega) | (refine Nat.le_trans (Nat.add_le_add_left (cutL_len _ _ _) _) ?_; (try simp only [List.length_cons, List.length_nil, List.length_append, List.length_map, List.length_replicate]); omega) | (refine Nat.le_trans (Nat.add_le_add_right (cutL_len _ _ _) _) ?_; (try simp only [List.length_cons, List.length_nil, List.length_append, List.length_map, List.length_replicate]); omega))) ?_) | ((with_reducible show OpD (uAdd _) (.d (.tuple _)) (.d (.tuple _)) _ _); refine od_addt (by first | exact List.cons_ne_nil _ _ | decide) (by (first | (with_reducible assumption) | decide | ((try simp only [List.length_cons, List.length_nil, List.length_append, List.length_map, List.length_replicate]); omega) | (refine Nat.le_trans (cutL_len _ _ _) ?_; (try simp only [List.length_cons, List.length_nil, List.length_append, List.length_map, List.length_replicate]); omega) | (refine Nat.le_trans (Nat.add_le_add_left (cutL_len _ _ _) _) ?_; (try simp only [List.length_cons, List.length_nil, List.length_append, List.length_map, List.length_replicate]); omega) | (refine Nat.le_trans (Nat.add_le_add_right (cutL_len _ _ _) _) ?_; (try simp only [List.length_cons, List.length_nil, List.length_append, List.length_map, List.length_replicate]); omega))) ?_) | ((with_reducible show OpD (uAdd _) _ _ _ _); refine od_addl rfl rfl (by (first | (with_reducible assumption) | decide | ((try simp only [List.length_cons, List.length_nil, List.length_append, List.length_map, List.length_replicate]); omega) | (refine Nat.le_trans (cutL_len _ _ _) ?_; (try simp only [List.length_cons, List.length_nil, List.length_append, List.length_map, List.length_replicate]); omega) | (refine Nat.le_trans (Nat.add_le_add_left (cutL_len _ _ _) _) ?_; (try simp only [List.length_cons, List.length_nil, List.length_append, List.length_map, List.length_replicate]); omega) | (refine Nat.le_trans (Nat.add_le_add_right (cutL_len _ _ _) _) ?_; (try simp only [List.length_cons, List.length_nil, List.length_append, List.length_map, List.length_replicate]); omega))) ?_) | ((with_reducible show OpD (rI0 fun i j => .int (i - j)) _ _ _ _); refine od_sub ?_) | ((with_reducible show OpD uMul (.d (.int _)) (.d (.int _)) _ _); (first | refine od_mul (mul_r (by (first | omega | decide | (simp; omega)))) ?_ | refine od_mul (mul_l (by (first | omega | decide | (simp; omega)))) ?_ | refine od_mul (mul_ok (by (first | omega | decide | (simp; omega))) (by (first | omega | decide | (simp; omega)))) ?_)) | ((with_reducible show OpD (rI CDivW _) _ _ _ _); refine od_div (by (first | omega | decide | (simp; omega))) ?_) | ((with_reducible show OpD (rI CPow _) (.d (.int 10)) _ _ _); (first | (with_reducible refine od_p60 ?_) | (with_reducible refine od_p59 ?_) | (with_reducible refine od_p20 ?_) | (with_reducible refine od_p40 ?_) | (with_reducible refine od_p6 ?_) | (with_reducible refine od_p9 ?_) | (with_reducible refine od_p50 ?_) | (with_reducible refine od_p58 ?_) | (with_reducible refine od_p30 ?_) | (with_reducible refine od_p3 ?_))) | ((with_reducible show OpD (rI CPow _) _ _ _ _); refine od_pow (by decide) ?_) | ((with_reducible show OpD (rI0 fun i j => .bl (decide (i < j))) _ _ _ _); refine od_lt ?_) | ((with_reducible show OpD (rI0 fun i j => .bl (decide (i ≤ j))) _ _ _ _); refine od_le ?_) | ((with_reducible show OpD (rI0 fun i j => .bl (decide (j < i))) _ _ _ _); refine od_gt ?_) | ((with_reducible show OpD (rI0 fun i j => .bl (decide (j ≤ i))) _ _ _ _); refine od_ge ?_) | ((with_reducible show OpD (rI _ _) _ _ _ _); refine od_mod (by (first | omega | decide | (simp; omega))) ?_) | ((with_reducible show OpD (uEq _) _ _ _ _); (first | refine od_eq rfl rfl (by first | exact .int _ _ | exact .str _ _ | exact .bl _ _ | exact .nn | exact .ni _ | exact .in_ _ | exact .ns _ | exact .sn _) ?_ | refine od_eqS rfl rfl (by first | (with_reducible assumption) | decide +kernel | rfl) ?_ | refine od_eq rfl rfl (.dat (by first | (with_reducible assumption) | decide +kernel | rfl) (by first | (with_reducible assumption) | decide +kernel | rfl)) ?_)) | ((with_reducible show OpD (uNe _) _ _ _ _); (first | (with_reducible refine od_nenm ?_) | refine od_ne rfl rfl (by first | exact .int _ _ | exact .str _ _ | exact .bl _ _ | exact .nn | exact .ni _ | exact .in_ _ | exact .ns _ | exact .sn _) ?_ | refine od_neS rfl rfl (by first | (with_reducible assumption) | decide +kernel | rfl) ?_ | refine od_ne rfl rfl (.dat (by first | (with_reducible assumption) | decide +kernel | rfl) (by first | (with_reducible assumption) | decide +kernel | rfl)) ?_)) | ((with_reducible show OpD (uNin _) (.d (.str _)) (.d (.str _)) _ _); refine od_nins ?_) | ((with_reducible show OpD (uIn _) (.d (.str _)) (.d (.str _)) _ _); refine od_ins ?_) | ((with_reducible show OpD (uIn _) (.d _) (.r (.ref _)) _ _); refine od_inO (by ((repeat with_reducible first | exact Pick.zero | apply Pick.succ); (first | (all_goals fail) | fail))) rfl (by with_reducible assumption) ?_) | ((with_reducible show OpD (uNin _) (.d _) (.r (.ref _)) _ _); refine od_ninO (by ((repeat with_reducible first | exact Pick.zero | apply Pick.succ); (first | (all_goals fail) | fail))) rfl (by with_reducible assumption) ?_) | ((with_reducible show OpD uIs _ _ _ _); (first | (with_reducible refine od_isnm ?_) | refine od_is rfl ?_)) | ((with_reducible show OpD uIsn _ _ _ _); (first | (with_reducible refine od_isnnm ?_) | refine od_isn rfl ?_)) | ((with_reducible show OpD (rIx _) (.r (.ref _)) _ _ _); (first | refine od_ixo (by ((repeat with_reducible first | exact Pick.zero | apply Pick.succ); (first | (all_goals fail) | fail))) (by first | rfl | with_reducible assumption) (by exact fun _ z => nomatch z) ?_ | refine od_ixt2 (by ((repeat with_reducible first | exact Pick.zero | apply Pick.succ); (first | (all_goals fail) | fail))) (by first | rfl | with_reducible assumption) (by exact fun _ z => nomatch z) ?_)) | ((with_reducible show OpD (rIx _) (.d (.str _)) _ _ _); refine od_ixt (by (first | (with_reducible assumption) | decide | ((try simp only [List.length_cons, List.length_nil, List.length_append, List.length_map, List.length_replicate]); omega) | (refine Nat.le_trans (cutL_len _ _ _) ?_; (try simp only [List.length_cons, List.length_nil, List.length_append, List.length_map, List.length_replicate]); omega) | (refine Nat.le_trans (Nat.add_le_add_left (cutL_len _ _ _) _) ?_; (try simp only [List.length_cons, List.length_nil, List.length_append, List.length_map, List.length_replicate]); omega) | (refine Nat.le_trans (Nat.add_le_add_right (cutL_len _ _ _) _) ?_; (try simp only [List.length_cons, List.length_nil, List.length_append, List.length_map, List.length_replicate]); omega))) (by with_reducible assumption) ?_) | ((with_reducible show OpD (rIx _) _ _ _ _); refine od_ixs rfl (by first | rfl | with_reducible assumption) ?_))) | ((with_reducible show DS _ _ _ _ _); (first | ((with_reducible show DS _ (.Assign [.Subscript (.Attribute _ "my_files" _) _ _] (.Call (.Name "list" _) [_] _ _) _) _ _ _); refine ds_dput (dx_listU ?_)) | ((with_reducible show DS _ (.Assign [.Subscript (.Attribute _ "my_files" _) _ _] _ _) _ _ _); refine ds_dput ?_) | ((with_reducible show DS _ (.Assign [.Subscript (.Name "_law_plain" _) _ _] _ _) _ _ _); refine ds_dput ?_) | ((with_reducible show DS _ (.Assign [.Subscript (.Subscript (.Name "_law_plains" _) _ _) _ _] _ _) _ _ _); refine ds_dput ?_) | ((with_reducible show DS _ (.Assign [.Name _ _] _ _) _ _ _); (fail_if_success (with_reducible show DS _ (.Assign _ (.List [] _) _) _ _ _)); (fail_if_success (with_reducible show DS _ (.Assign _ (.ListComp _ _ _ _) _) _ _ _)); refine ds_set ?_) | ((with_reducible show DS _ (.Assign [.Attribute _ _ _] _ _) _ _ _); (fail_if_success (with_reducible show DS _ (.Assign _ (.List _ _) _) _ _ _)); (fail_if_success (with_reducible show DS _ (.Assign _ (.ListComp _ _ _ _) _) _ _ _)); refine ds_fld ?_) | ((with_reducible show DS _ (.Assign [.Subscript _ _ _] _ _) _ _ _); (fail_if_success (with_reducible show DS _ (.Assign [.Subscript (.Subscript _ _ _) _ _] _ _) _ _ _)); refine ds_seti ?_) | ((with_reducible show DS _ (.Return (some _) _) _ _ _); refine ds_ret ?_) | ((with_reducible show DS _ (.Return none _) _ _ _); refine ds_retN ?_) | ((with_reducible show DS _ (.If _ _ _ _) _ _ _); refine ds_if ?_) | ((with_reducible show DS _ (.Expr (.Constant _ _ _) _) _ _ _); refine ds_doc ?_) | ((with_reducible show DS _ (.Expr _ _) _ _ _); refine ds_expr ?_) | ((with_reducible show DS _ (.Pass _) _ _ _); refine ds_pass ?_) | ((with_reducible show DS _ (.Break _) _ _ _); refine ds_break ?_) | ((with_reducible show DS _ (.Continue _) _ _ _); refine ds_continue ?_) | ((with_reducible show DS _ (.Raise (some (.Call (.Name _ _) [.Constant (.str _) _ _] [] _)) none _) _ _ _); refine ds_raise (by with_reducible assumption) (by decide +kernel) (by decide +kernel) ?_))) | ((with_reducible show DSs _ _ _ _ _); (first | ((with_reducible show DSs _ (_ :: _) _ _ _); refine dss_cons ?_) | ((with_reducible show DSs _ [] _ _ _); refine dss_nil ?_))) | ((with_reducible show DT _ _ _ _ _); (first | ((with_reducible show DT _ (.Compare _ _ _ _) _ _ _); (first | ((with_reducible show DT _ (.Compare _ [.In] [(.Attribute _ "my_files" _)] _) _ _ _); refine dt_din ?_) | ((with_reducible show DT _ (.Compare _ [.NotIn] [(.Attribute _ "my_files" _)] _) _ _ _); refine dt_dnin ?_) | ((with_reducible show DT _ (.Compare _ [.In] [(.Name "_law_plain" _)] _) _ _ _); refine dt_din ?_) | ((with_reducible show DT _ (.Compare _ [.NotIn] [(.Name "_law_plain" _)] _) _ _ _); refine dt_dnin ?_) | ((with_reducible show DT _ (.Compare _ [.In] [(.Subscript (.Name "_law_plains" _) _ _)] _) _ _ _); refine dt_din ?_) | ((with_reducible show DT _ (.Compare _ [.NotIn] [(.Subscript (.Name "_law_plains" _) _ _)] _) _ _ _); refine dt_dnin ?_))) | ((with_reducible show DT _ (.BoolOp _ _ _) _ _ _); refine dt_bool ?_) | ((with_reducible show DT _ (.UnaryOp .Not _ _) _ _ _); refine dt_not ?_) | ((with_reducible show DT _ (.Compare _ [_] _ _) _ _ _); (first | ((with_reducible show DT _ (.Compare _ [.Eq] [_] _) _ _ _); refine dt_cmp cEq (nomark _) ?_) | ((with_reducible show DT _ (.Compare _ [.NotEq] [_] _) _ _ _); refine dt_cmp cNe (nomark _) ?_) | ((with_reducible show DT _ (.Compare _ [.Lt] [_] _) _ _ _); refine dt_cmp op_lt (nomark _) ?_) | ((with_reducible show DT _ (.Compare _ [.LtE] [_] _) _ _ _); refine dt_cmp op_le (nomark _) ?_) | ((with_reducible show DT _ (.Compare _ [.Gt] [_] _) _ _ _); refine dt_cmp op_gt (nomark _) ?_) | ((with_reducible show DT _ (.Compare _ [.GtE] [_] _) _ _ _); refine dt_cmp op_ge (nomark _) ?_) | ((with_reducible show DT _ (.Compare _ [.Is] [_] _) _ _ _); refine dt_cmp op_uIs (nomark _) ?_) | ((with_reducible show DT _ (.Compare _ [.IsNot] [_] _) _ _ _); refine dt_cmp op_uIsn (nomark _) ?_) | ((with_reducible show DT _ (.Compare _ [.In] [_] _) _ _ _); refine dt_cmp cIn (rfl) ?_) | ((with_reducible show DT _ (.Compare _ [.NotIn] [_] _) _ _ _); refine dt_cmp cNin (rfl) ?_))) | ((with_reducible show DT _ (.Compare _ [_, _] _ _) _ _ _); (first | ((with_reducible show DT _ (.Compare _ [.LtE, .Lt] [_, _] _) _ _ _); refine dt_chain op_le op_lt ?_) | ((with_reducible show DT _ (.Compare _ [.LtE, .LtE] [_, _] _) _ _ _); refine dt_chain op_le op_le ?_))) | ((with_reducible show DT _ _ _ _ _); refine dt_tru ?_))) | ((with_reducible show DW _ _ _ _ _); (first | ((with_reducible show DW _ (.BoolOp .And [_] _) _ _ _); refine dw_and1 ?_) | ((with_reducible show DW _ (.BoolOp .Or [_] _) _ _ _); refine dw_or1 ?_) | ((with_reducible show DW _ (.BoolOp .And _ _) _ _ _); refine dw_and ?_) | ((with_reducible show DW _ (.BoolOp .Or _ _) _ _ _); refine dw_or ?_))) | ((with_reducible show DA _ _ _ _ _); (first | ((with_reducible show DA _ (_ :: _) _ _ _); refine da_cons ?_) | ((with_reducible show DA _ [] _ _ _); refine da_nil ?_))) | ((with_reducible show if _ = true then _ else _); (first | (with_reducible refine ite_tt ?_) | (with_reducible refine ite_ff ?_) | (with_reducible refine ite_nt ?_) | (with_reducible refine ite_nf ?_) | ((with_reducible show if decide _ = true then _ else _); first | refine ite_dt (by (first | (with_reducible assumption) | omega | decide +kernel | ((simp only [List.length_cons, List.length_nil, List.length_map, List.length_append]); omega) | ((simp only [List.length_cons, List.length_nil, List.length_map, List.length_append]); (first | (all_goals fail) | fail)))) ?_ | refine ite_df (by (first | (with_reducible assumption) | omega | decide +kernel | ((simp only [List.length_cons, List.length_nil, List.length_map, List.length_append]); omega) | ((simp only [List.length_cons, List.length_nil, List.length_map, List.length_append]); (first | (all_goals fail) | fail)))) ?_) | ((with_reducible show if (!decide _) = true then _ else _); first | refine ite_ndf (by (first | (with_reducible assumption) | omega | decide +kernel | ((simp only [List.length_cons, List.length_nil, List.length_map, List.length_append]); omega) | ((simp only [List.length_cons, List.length_nil, List.length_map, List.length_append]); (first | (all_goals fail) | fail)))) ?_ | refine ite_ndt (by (first | (with_reducible assumption) | omega | decide +kernel | ((simp only [List.length_cons, List.length_nil, List.length_map, List.length_append]); omega) | ((simp only [List.length_cons, List.length_nil, List.length_map, List.length_append]); (first | (all_goals fail) | fail)))) ?_) | (with_reducible refine ite_nn ?_) | ((with_reducible show if PyData.eqv _ _ = true then _ else _); first | refine ite_t (by decide +kernel) ?_ | refine ite_f (by decide +kernel) ?_ | refine ite_t rfl ?_ | refine ite_f rfl ?_) | ((with_reducible show if (!PyData.eqv _ _) = true then _ else _); first | refine ite_t (by decide +kernel) ?_ | refine ite_f (by decide +kernel) ?_ | refine ite_t rfl ?_ | refine ite_f rfl ?_) | ((with_reducible show if wholeD (.int _) = true then _ else _); refine ite_t rfl ?_) | ((with_reducible show if (!wholeD (.int _)) = true then _ else _); refine ite_f rfl ?_) | ((with_reducible show if isD _ _ = true then _ else _); first | refine ite_t rfl ?_ | refine ite_f rfl ?_) | ((with_reducible show if (!isD _ _) = true then _ else _); first | refine ite_t rfl ?_ | refine ite_f rfl ?_))) | ((with_reducible show Exists _); (first | (with_reducible refine me_fil (by ((repeat with_reducible first | exact Pick.zero | apply Pick.succ); (first | (all_goals fail) | fail))) (by decide +kernel) ?_) | ((with_reducible show ∃ i ρ', SetS _ _ _ i _ ρ' ∧ _); refine ⟨_, _, by ((repeat with_reducible first | exact SetS.zero | apply SetS.succ); (first | (all_goals fail) | fail)), ?_⟩) | (with_reducible refine ex_list rfl ?_) | ((with_reducible show ∃ ds, Sl.asSeq _ = some ds ∧ _); refine ex_seq rfl ?_) | ((with_reducible show ∃ ds, Datas _ ds ∧ _); refine ex_datas (by ((repeat with_reducible first | exact datas_nil | apply datas_cons); (first | (all_goals fail) | fail))) (by first | exact Nat.le_of_ble_eq_true rfl | (first | (with_reducible assumption) | decide | ((try simp only [List.length_cons, List.length_nil, List.length_append, List.length_map, List.length_replicate]); omega) | (refine Nat.le_trans (cutL_len _ _ _) ?_; (try simp only [List.length_cons, List.length_nil, List.length_append, List.length_map, List.length_replicate]); omega) | (refine Nat.le_trans (Nat.add_le_add_left (cutL_len _ _ _) _) ?_; (try simp only [List.length_cons, List.length_nil, List.length_append, List.length_map, List.length_replicate]); omega) | (refine Nat.le_trans (Nat.add_le_add_right (cutL_len _ _ _) _) ?_; (try simp only [List.length_cons, List.length_nil, List.length_append, List.length_map, List.length_replicate]); omega))) ?_) | ((with_reducible show ∃ C p fs g sl, _ = Sl.r (.ref p) ∧ Pick _ (insM C p fs) g ∧ FldC _ C _ ∧ FldAt fs _ sl ∧ _); refine ex_fld (by ((repeat with_reducible first | exact Pick.zero | apply Pick.succ); (first | (all_goals fail) | fail))) (fldc (by with_reducible assumption) (by decide +kernel)) (by ((repeat with_reducible first | exact FldAt.zero | apply FldAt.succ); (first | (all_goals fail) | fail))) (by (simp only [List.map_cons, List.map_nil]); decide +kernel) (by exact fun _ z => nomatch z) ?_) | ((with_reducible show ∃ C p fs g fs2, _ = Sl.r (.ref p) ∧ Pick _ (insM C p fs) g ∧ FldC _ C _ ∧ (FldSet fs _ _ fs2 ∨ _) ∧ _); first | refine ex_fset (by ((repeat with_reducible first | exact Pick.zero | apply Pick.succ); (first | (all_goals fail) | fail))) (fldc (by with_reducible assumption) (by decide +kernel)) (by ((repeat with_reducible first | exact FldSet.zero | apply FldSet.succ); (first | (all_goals fail) | fail))) (by (simp only [List.map_cons, List.map_nil]); decide +kernel) (by exact Nat.le_of_ble_eq_true rfl) ?_ | refine ex_fnew (by ((repeat with_reducible first | exact Pick.zero | apply Pick.succ); (first | (all_goals fail) | fail))) (fldc (by with_reducible assumption) (by decide +kernel)) (by (simp only [List.map_cons, List.map_nil]); decide +kernel) (by (simp only [List.map_cons, List.map_nil]); decide +kernel) (by exact Nat.le_of_ble_eq_true rfl) ?_) | ((with_reducible show ∃ p ss f k j, _ = Sl.r (.ref p) ∧ _ = Sl.d (.int k) ∧ _); refine ex_seti (by ((repeat with_reducible first | exact Pick.zero | apply Pick.succ); (first | (all_goals fail) | fail))) (by first | with_reducible assumption | rfl) ?_) | ((with_reducible show ∃ p ss f, Sl.r _ = Sl.r (.ref p) ∧ Pick _ _ f ∧ _); (first | (with_reducible refine ex_frz (by ((repeat with_reducible first | exact Pick.zero | apply Pick.succ); (first | (all_goals fail) | fail))) ?_) | (with_reducible refine ex_own (by ((repeat with_reducible first | exact Pick.zero | apply Pick.succ); (first | (all_goals fail) | fail))) ?_) | (with_reducible refine ex_dic (by ((repeat with_reducible first | exact Pick.zero | apply Pick.succ); (first | (all_goals fail) | fail))) ?_))) | ((with_reducible show ∃ t ss f, [_] = [t] ∧ Pick _ (lstM _ ss) f ∧ _); (with_reducible refine ex_app (by ((repeat with_reducible first | exact Pick.zero | apply Pick.succ); (first | (all_goals fail) | fail))) (by (first | (with_reducible assumption) | decide | ((try simp only [List.length_cons, List.length_nil, List.length_append, List.length_map, List.length_replicate]); omega) | (refine Nat.le_trans (cutL_len _ _ _) ?_; (try simp only [List.length_cons, List.length_nil, List.length_append, List.length_map, List.length_replicate]); omega) | (refine Nat.le_trans (Nat.add_le_add_left (cutL_len _ _ _) _) ?_; (try simp only [List.length_cons, List.length_nil, List.length_append, List.length_map, List.length_replicate]); omega) | (refine Nat.le_trans (Nat.add_le_add_right (cutL_len _ _ _) _) ?_; (try simp only [List.length_cons, List.length_nil, List.length_append, List.length_map, List.length_replicate]); omega))) ?_)) | ((with_reducible show ∃ ds ss f, Sl.n _ = Sl.n ds ∧ Pick _ (lstM _ ss) f ∧ _); (with_reducible refine ex_ext (by ((repeat with_reducible first | exact Pick.zero | apply Pick.succ); (first | (all_goals fail) | fail))) (by (first | (with_reducible assumption) | decide | ((try simp only [List.length_cons, List.length_nil, List.length_append, List.length_map, List.length_replicate]); omega) | (refine Nat.le_trans (cutL_len _ _ _) ?_; (try simp only [List.length_cons, List.length_nil, List.length_append, List.length_map, List.length_replicate]); omega) | (refine Nat.le_trans (Nat.add_le_add_left (cutL_len _ _ _) _) ?_; (try simp only [List.length_cons, List.length_nil, List.length_append, List.length_map, List.length_replicate]); omega) | (refine Nat.le_trans (Nat.add_le_add_right (cutL_len _ _ _) _) ?_; (try simp only [List.length_cons, List.length_nil, List.length_append, List.length_map, List.length_replicate]); omega))) ?_)) | ((with_reducible show ∃ ys, RefsE _ _ ys ∧ _); (first | refine ex_refs (w := false) (by ((repeat with_reducible first | exact RefsE.nil | apply RefsE.cons); (first | (all_goals fail) | fail))) (by decide +kernel) ?_ | refine ex_refs (w := true) (by ((repeat with_reducible first | exact RefsE.nil | apply RefsE.cons); (first | (all_goals fail) | fail))) (by decide +kernel) ?_)) | ((with_reducible show ∃ rs', Ent [_] (rs' ++ [_]) ∧ _); (refine end_ex ?_; with_reducible assumption)) | ((with_reducible show ∃ ρ', SetS _ _ _ _ _ ρ' ∧ _); refine ⟨_, by ((repeat with_reducible first | exact SetS.zero | apply SetS.succ); (first | (all_goals fail) | fail)), ?_⟩) | ((with_reducible show ∃ k f, Sl.d (.int _) = Sl.d (.int k) ∧ _ ∧ Pick _ _ f ∧ _); (with_reducible refine ex_rep (by ((repeat with_reducible first | exact Pick.zero | apply Pick.succ); (first | (all_goals fail) | fail))) (by (first | omega | decide | (simp; omega))) ?_)) | (with_reducible refine ex_dat ?_) | (with_reducible refine ex_int ?_) | (with_reducible refine ex_str ?_) | ((with_reducible show ∃ p kvs g k, Sl.r _ = Sl.r (.ref p) ∧ _ = Sl.d (keyD k) ∧ Pick _ (dictM p kvs) g ∧ _); (first | (with_reducible refine ex_din1 (by ((repeat with_reducible first | exact Pick.zero | apply Pick.succ); (first | (all_goals fail) | fail))) ?_) | (with_reducible refine ex_din2 (by ((repeat with_reducible first | exact Pick.zero | apply Pick.succ); (first | (all_goals fail) | fail))) ?_))) | ((with_reducible show ∃ p kvs f k, _ = Sl.r (.ref p) ∧ _ = Sl.d (keyD k) ∧ Pick _ (dictM p kvs) f ∧ kvs.length ≤ _ ∧ _); first | refine ex_dputI (by ((repeat with_reducible first | exact Pick.zero | apply Pick.succ); (first | (all_goals fail) | fail))) (by (first | (with_reducible assumption) | decide | ((try simp only [List.length_cons, List.length_nil, List.length_append, List.length_map, List.length_replicate]); omega) | (refine Nat.le_trans (cutL_len _ _ _) ?_; (try simp only [List.length_cons, List.length_nil, List.length_append, List.length_map, List.length_replicate]); omega) | (refine Nat.le_trans (Nat.add_le_add_left (cutL_len _ _ _) _) ?_; (try simp only [List.length_cons, List.length_nil, List.length_append, List.length_map, List.length_replicate]); omega) | (refine Nat.le_trans (Nat.add_le_add_right (cutL_len _ _ _) _) ?_; (try simp only [List.length_cons, List.length_nil, List.length_append, List.length_map, List.length_replicate]); omega))) ?_ | refine ex_dputS (by ((repeat with_reducible first | exact Pick.zero | apply Pick.succ); (first | (all_goals fail) | fail))) (by (first | (with_reducible assumption) | decide | ((try simp only [List.length_cons, List.length_nil, List.length_append, List.length_map, List.length_replicate]); omega) | (refine Nat.le_trans (cutL_len _ _ _) ?_; (try simp only [List.length_cons, List.length_nil, List.length_append, List.length_map, List.length_replicate]); omega) | (refine Nat.le_trans (Nat.add_le_add_left (cutL_len _ _ _) _) ?_; (try simp only [List.length_cons, List.length_nil, List.length_append, List.length_map, List.length_replicate]); omega) | (refine Nat.le_trans (Nat.add_le_add_right (cutL_len _ _ _) _) ?_; (try simp only [List.length_cons, List.length_nil, List.length_append, List.length_map, List.length_replicate]); omega))) ?_) | ((with_reducible show ∃ p kvs f k, _ = Sl.r (.ref p) ∧ _ = Sl.d (keyD k) ∧ Pick _ (dictM p kvs) f ∧ _); first | refine ex_din1 (by ((repeat with_reducible first | exact Pick.zero | apply Pick.succ); (first | (all_goals fail) | fail))) ?_ | refine ex_din2 (by ((repeat with_reducible first | exact Pick.zero | apply Pick.succ); (first | (all_goals fail) | fail))) ?_) | ((with_reducible show ∃ kvs f k s, _ = Sl.d (keyD k) ∧ Pick _ (dictM _ kvs) f ∧ valS kvs k = some s ∧ _); first | refine ex_dpopI (by ((repeat with_reducible first | exact Pick.zero | apply Pick.succ); (first | (all_goals fail) | fail))) (by with_reducible assumption) (by exact fun _ z => nomatch z) ?_ | refine ex_dpopS (by ((repeat with_reducible first | exact Pick.zero | apply Pick.succ); (first | (all_goals fail) | fail))) (by with_reducible assumption) (by exact fun _ z => nomatch z) ?_) | ((with_reducible show ∃ p kvs f k s, _ = Sl.r (.ref p) ∧ _ = Sl.d (keyD k) ∧ Pick _ (dictM p kvs) f ∧ _); first | refine ex_dget (by ((repeat with_reducible first | exact Pick.zero | apply Pick.succ); (first | (all_goals fail) | fail))) (by with_reducible assumption) (by exact fun _ z => nomatch z) ?_ | refine ex_dgetS (by ((repeat with_reducible first | exact Pick.zero | apply Pick.succ); (first | (all_goals fail) | fail))) (by with_reducible assumption) (by exact fun _ z => nomatch z) ?_))) | (first | (with_reducible refine kt ?_) | ((with_reducible show ∀ _ : Addr, _); intro q) | ((with_reducible show Le _ _ ∧ _ = _); exact ⟨by ((repeat with_reducible first | exact Le.nil | apply Le.eq | apply Le.un); (first | (all_goals fail) | fail)), rfl⟩) | ((with_reducible show CallEnd _ _ _ _ _ _); (first | ((with_reducible refine ce_fil (by ((repeat with_reducible first | exact Pick.zero | apply Pick.succ); (first | (all_goals fail) | fail))) ?_); (first | refine ⟨_, rfl, rfl, by (first | (with_reducible trivial) | (with_reducible assumption) | omega | (exact ⟨by with_reducible assumption, by with_reducible assumption⟩)), ?_⟩ | refine ⟨_, _, rfl, rfl, by (first | (with_reducible trivial) | (with_reducible assumption) | omega | (exact ⟨by with_reducible assumption, by with_reducible assumption⟩)), ?_⟩ | refine ⟨_, _, _, rfl, rfl, by (first | (with_reducible trivial) | (with_reducible assumption) | omega | (exact ⟨by with_reducible assumption, by with_reducible assumption⟩)), ?_⟩ | refine ⟨_, _, _, _, rfl, rfl, by (first | (with_reducible trivial) | (with_reducible assumption) | omega | (exact ⟨by with_reducible assumption, by with_reducible assumption⟩)), ?_⟩ | refine ⟨_, _, _, _, _, rfl, rfl, by (first | (with_reducible trivial) | (with_reducible assumption) | omega | (exact ⟨by with_reducible assumption, by with_reducible assumption⟩)), ?_⟩ | refine ⟨_, _, _, _, _, _, rfl, rfl, by (first | (with_reducible trivial) | (with_reducible assumption) | omega | (exact ⟨by with_reducible assumption, by with_reducible assumption⟩)), ?_⟩ | refine ⟨_, _, _, _, _, _, _, rfl, rfl, by (first | (with_reducible trivial) | (with_reducible assumption) | omega | (exact ⟨by with_reducible assumption, by with_reducible assumption⟩)), ?_⟩ | refine ⟨_, _, _, _, _, _, _, _, rfl, rfl, by (first | (with_reducible trivial) | (with_reducible assumption) | omega | (exact ⟨by with_reducible assumption, by with_reducible assumption⟩)), ?_⟩)) | (refine ce_inl ?_; first | refine ⟨_, rfl, rfl, by (first | (with_reducible trivial) | (with_reducible assumption) | omega | (exact ⟨by with_reducible assumption, by with_reducible assumption⟩)), ?_⟩ | refine ⟨_, _, rfl, rfl, by (first | (with_reducible trivial) | (with_reducible assumption) | omega | (exact ⟨by with_reducible assumption, by with_reducible assumption⟩)), ?_⟩ | refine ⟨_, _, _, rfl, rfl, by (first | (with_reducible trivial) | (with_reducible assumption) | omega | (exact ⟨by with_reducible assumption, by with_reducible assumption⟩)), ?_⟩ | refine ⟨_, _, _, _, rfl, rfl, by (first | (with_reducible trivial) | (with_reducible assumption) | omega | (exact ⟨by with_reducible assumption, by with_reducible assumption⟩)), ?_⟩ | refine ⟨_, _, _, _, _, rfl, rfl, by (first | (with_reducible trivial) | (with_reducible assumption) | omega | (exact ⟨by with_reducible assumption, by with_reducible assumption⟩)), ?_⟩ | refine ⟨_, _, _, _, _, _, rfl, rfl, by (first | (with_reducible trivial) | (with_reducible assumption) | omega | (exact ⟨by with_reducible assumption, by with_reducible assumption⟩)), ?_⟩))) | ((with_reducible show CallEnd0 _ _ _ _); (first | ((with_reducible refine ce0_fil (by ((repeat with_reducible first | exact Pick.zero | apply Pick.succ); (first | (all_goals fail) | fail))) ?_); (first | refine ⟨_, rfl, rfl, by (first | (with_reducible trivial) | (with_reducible assumption) | omega | (exact ⟨by with_reducible assumption, by with_reducible assumption⟩)), ?_⟩ | refine ⟨_, _, rfl, rfl, by (first | (with_reducible trivial) | (with_reducible assumption) | omega | (exact ⟨by with_reducible assumption, by with_reducible assumption⟩)), ?_⟩ | refine ⟨_, _, _, rfl, rfl, by (first | (with_reducible trivial) | (with_reducible assumption) | omega | (exact ⟨by with_reducible assumption, by with_reducible assumption⟩)), ?_⟩ | refine ⟨_, _, _, _, rfl, rfl, by (first | (with_reducible trivial) | (with_reducible assumption) | omega | (exact ⟨by with_reducible assumption, by with_reducible assumption⟩)), ?_⟩ | refine ⟨_, _, _, _, _, rfl, rfl, by (first | (with_reducible trivial) | (with_reducible assumption) | omega | (exact ⟨by with_reducible assumption, by with_reducible assumption⟩)), ?_⟩ | refine ⟨_, _, _, _, _, _, rfl, rfl, by (first | (with_reducible trivial) | (with_reducible assumption) | omega | (exact ⟨by with_reducible assumption, by with_reducible assumption⟩)), ?_⟩ | refine ⟨_, _, _, _, _, _, _, rfl, rfl, by (first | (with_reducible trivial) | (with_reducible assumption) | omega | (exact ⟨by with_reducible assumption, by with_reducible assumption⟩)), ?_⟩ | refine ⟨_, _, _, _, _, _, _, _, rfl, rfl, by (first | (with_reducible trivial) | (with_reducible assumption) | omega | (exact ⟨by with_reducible assumption, by with_reducible assumption⟩)), ?_⟩)))) | ((with_reducible show (bodyPost _ _).rt _ _); (first | (refine end_rt ?_; with_reducible assumption) | refine end_rtT (decide_eq_true (by omega)) (by with_reducible assumption) | refine end_rtT rfl (by with_reducible assumption))) | ((with_reducible show TrD (.d (.bool _)) _ _); refine tr_bool ?_) | ((with_reducible show TrD (.d .none) _ _); refine tr_none ?_) | ((with_reducible show TrD (.d (.int _)) _ _); refine tr_int ?_) | ((with_reducible show TrD (.d (.list _)) _ _); refine tr_list ?_) | ((with_reducible show TrD (.d (.tuple _)) _ _); refine tr_tuple ?_) | ((with_reducible show TrD (.r (.ref _)) _ _); (first | refine tr_own (by ((repeat with_reducible first | exact Pick.zero | apply Pick.succ); (first | (all_goals fail) | fail))) ?_ | refine tr_dict (by ((repeat with_reducible first | exact Pick.zero | apply Pick.succ); (first | (all_goals fail) | fail))) ?_)) | ((with_reducible show CaD (rIsi _) _ _ _); (first | refine cd_isiT (by decide) rfl rfl ?_ | refine cd_isiF (by decide) rfl rfl ?_ | refine cd_isi (by decide) rfl ?_ | refine cd_isiO (by ((repeat with_reducible first | exact Pick.zero | apply Pick.succ); (first | (all_goals fail) | fail))) ?_)) | ((with_reducible show CaD _ [.d (.int _), .d (.int _)] _ _); (first | refine cd_min ?_ | refine cd_max ?_)) | ((with_reducible show LenD (.d (.str _)) _ _); refine ld_str (by (first | (with_reducible assumption) | decide | ((try simp only [List.length_cons, List.length_nil, List.length_append, List.length_map, List.length_replicate]); omega) | (refine Nat.le_trans (cutL_len _ _ _) ?_; (try simp only [List.length_cons, List.length_nil, List.length_append, List.length_map, List.length_replicate]); omega) | (refine Nat.le_trans (Nat.add_le_add_left (cutL_len _ _ _) _) ?_; (try simp only [List.length_cons, List.length_nil, List.length_append, List.length_map, List.length_replicate]); omega) | (refine Nat.le_trans (Nat.add_le_add_right (cutL_len _ _ _) _) ?_; (try simp only [List.length_cons, List.length_nil, List.length_append, List.length_map, List.length_replicate]); omega))) ?_) | ((with_reducible show LenD (.r (.ref _)) _ _); refine ld_own (by ((repeat with_reducible first | exact Pick.zero | apply Pick.succ); (first | (all_goals fail) | fail))) ?_) | ((with_reducible show LenD _ _ _); refine ld_seq rfl ?_) | ((with_reducible show SlD _ (.d (.list _)) _ _ _ _); refine sd_list ?_) | ((with_reducible show SlD _ (.n _) _ _ _ _); refine sd_list ?_) | ((with_reducible show SlD _ (.r (.ref _)) _ _ _ _); refine sd_own (by ((repeat with_reducible first | exact Pick.zero | apply Pick.succ); (first | (all_goals fail) | fail))) (fun q => ?_)) | ((with_reducible show SlD _ (.d (.str _)) _ _ _ _); refine sd_str (by (first | (with_reducible assumption) | decide | ((try simp only [List.length_cons, List.length_nil, List.length_append, List.length_map, List.length_replicate]); omega) | (refine Nat.le_trans (cutL_len _ _ _) ?_; (try simp only [List.length_cons, List.length_nil, List.length_append, List.length_map, List.length_replicate]); omega) | (refine Nat.le_trans (Nat.add_le_add_left (cutL_len _ _ _) _) ?_; (try simp only [List.length_cons, List.length_nil, List.length_append, List.length_map, List.length_replicate]); omega) | (refine Nat.le_trans (Nat.add_le_add_right (cutL_len _ _ _) _) ?_; (try simp only [List.length_cons, List.length_nil, List.length_append, List.length_map, List.length_replicate]); omega))) ?_) | ((with_reducible show SlD _ (.d (.tuple [_, _, _, _])) none (some 2) _ _); refine sd_t42 ?_) | ((with_reducible show SlD _ (.d (.tuple [_, _, _, _, _, _])) (some 2) (some 5) _ _); refine sd_t625 ?_) | ((with_reducible show SlD _ (.d (.tuple [_, _, _, _])) (some 2) none _ _); refine sd_t4f2 ?_) | ((with_reducible show SlD _ (.d (.tuple [_, _, _, _, _, _])) none (some 3) _ _); refine sd_t603 ?_) | ((with_reducible show SlD _ (.d (.tuple [_, _, _, _, _, _])) (some 4) none _ _); refine sd_t64 ?_) | ((with_reducible show SlD _ (.d (.tuple [_, _, _, _, _, _])) (some 2) none _ _); refine sd_t62 ?_) | ((with_reducible show SlD _ (.d (.tuple [_, _, _, _])) none (some 3) _ _); refine sd_t43 ?_) | ((with_reducible show SlD _ (.d (.tuple _)) _ _ _ _); refine sd_tup (by first | decide | ((simp only [List.length_cons, List.length_nil]); decide +kernel)) ?_) | ((with_reducible show DO _ none _ _ _); refine do_none ?_) | ((with_reducible show DO _ (some _) _ _ _); refine do_some ?_) | (with_reducible refine ex_eqr ?_) | ((with_reducible show LsD _ _ _); first | refine ls_s (by (first | (with_reducible assumption) | decide | ((try simp only [List.length_cons, List.length_nil, List.length_append, List.length_map, List.length_replicate]); omega) | (refine Nat.le_trans (cutL_len _ _ _) ?_; (try simp only [List.length_cons, List.length_nil, List.length_append, List.length_map, List.length_replicate]); omega) | (refine Nat.le_trans (Nat.add_le_add_left (cutL_len _ _ _) _) ?_; (try simp only [List.length_cons, List.length_nil, List.length_append, List.length_map, List.length_replicate]); omega) | (refine Nat.le_trans (Nat.add_le_add_right (cutL_len _ _ _) _) ?_; (try simp only [List.length_cons, List.length_nil, List.length_append, List.length_map, List.length_replicate]); omega))) ?_ | refine ls_d rfl ?_) | ((with_reducible show LwD _ _ _); first | refine lw_d rfl ?_ | refine lw_o (by ((repeat with_reducible first | exact Pick.zero | apply Pick.succ); (first | (all_goals fail) | fail))) ?_ | refine lw_s (by (first | (with_reducible assumption) | decide | ((try simp only [List.length_cons, List.length_nil, List.length_append, List.length_map, List.length_replicate]); omega) | (refine Nat.le_trans (cutL_len _ _ _) ?_; (try simp only [List.length_cons, List.length_nil, List.length_append, List.length_map, List.length_replicate]); omega) | (refine Nat.le_trans (Nat.add_le_add_left (cutL_len _ _ _) _) ?_; (try simp only [List.length_cons, List.length_nil, List.length_append, List.length_map, List.length_replicate]); omega) | (refine Nat.le_trans (Nat.add_le_add_right (cutL_len _ _ _) _) ?_; (try simp only [List.length_cons, List.length_nil, List.length_append, List.length_map, List.length_replicate]); omega))) ?_) | ((with_reducible show TuD _ _ _); first | refine tu_d rfl ?_ | refine tu_o (by ((repeat with_reducible first | exact Pick.zero | apply Pick.succ); (first | (all_goals fail) | fail))) ?_) | ((with_reducible show LiD _ _ _); first | refine li_o (by ((repeat with_reducible first | exact Pick.zero | apply Pick.succ); (first | (all_goals fail) | fail))) (fun q => ?_) | refine li_d rfl (fun q => ?_)) | ((with_reducible show _ < 1920 ∧ _); refine ⟨log2_ok (by (first | omega | decide | (simp; omega))), ?_⟩) | ((with_reducible show CaD (rIsE _ _ _) [_, .r (.ty _)] _ _); refine cd_isEV (by with_reducible assumption) (by decide +kernel) ?_) | ((with_reducible show CaD (rIsE _ _ _) _ _ _); (first | refine cd_isE1 (r := true) (by with_reducible assumption) (by decide +kernel) (by decide +kernel) (by decide +kernel) ?_ | refine cd_isE1 (r := false) (by with_reducible assumption) (by decide +kernel) (by decide +kernel) (by decide +kernel) ?_)))) | dsimp only [List.nil_append, List.cons_append, Sl.plain] | refine ite_d (fun h => ?_) (fun h => ?_) | refine ite_nd (fun h => ?_) (fun h => ?_) | refine ite_b (fun h => ?_) (fun h => ?_) | refine od_ixI rfl ⟨by omega, by (simp only [List.length_cons, List.length_nil]; omega)⟩ rfl (fun i => ?_) | refine od_ixA rfl ⟨by omega, by (simp only [List.length_cons, List.length_nil]; omega)⟩ (fun d hd => ?_) | intro z)))
local macro_rules | `(tactic| walk_at "nrm") => `(tactic| (dsimp only [List.replicate, List.cons_append, List.nil_append, List.append_nil]))
local macro_rules | `(tactic| walk_at "st") => `(tactic| ((try dsimp only [List.replicate, List.cons_append, List.nil_append, List.append_nil]); refine dss_cons ?_))
local macro_rules | `(tactic| walk_at "end") => `(tactic| (first | (with_reducible exact ⟨[], rfl, by assumption⟩) | exact ⟨[], rfl, by assumption⟩))
local macro_rules | `(tactic| walk_at "all") => `(tactic| (walk_at "st"; walk_at "go"; walk_at "end"))
section
variable [KC] {m : Mo} {C : Addr} {E : Str → Addr}
theorem enFil {C p a : Addr} {fs : List Frow} {l : List (Frow × Addr)} {rs : List Mem} (hl : l.map (·.1) = fs) : Ent (insM C p [("my_files", .r (.ref a))] :: dictM a (l.map kvF) :: famM rlM l :: rs) (filM C p fs :: rs) := ent_box (fam := filF C p fs) (q := (a, ⟨l, hl⟩)) [] rs
def K_Files___init__ (C : Addr) : Cn := fun ss rin res _ => ∃ (p : Addr), ss = [.r (.ref p)] ∧ rin = [insM C p []] ∧ True ∧ res (.d .none) [filM C p []]
theorem ok_Files___init__ (hK : m.K = KC.K) (bl : Bl m.mg) {f fd} (F : Fun m.K "__init__" "Files.__init__" s_Files___init__ f fd) (oc : ObjC m C ["my_files"]) :
    FnOk m.P m.w m.K m.mg m.base (L2.CX m.P m.w) 1 f fd ["self"] (spC (K_Files___init__ C)) := by
  refine fn_ok F f_Files___init__ e_Files___init__ bl hK (by rintro _ _ _ _ ⟨_, rfl, _⟩; rfl) 0 rfl ?_
  rintro ss rin fr res exc c hC
  obtain ⟨p, rfl, rfl, _, hr⟩ := hC
  walk_at "st"; walk_at "go"
  rename_i q
  exact ⟨[filM C p []], ent_trans (ent_has (Bs := [insM C p [("my_files", .r (.ref q))], dictM q [], fr]) (by walk_at "grab")) (ent_trans (SE.cons (SE.cons (se_nil (f := rlM)))).ent (enFil (l := []) rfl)), hr⟩
def K_Files_make (C : Addr) (E : Str → Addr) : Cn := fun ss rin res exc => ∃ (p : Addr) (fs : List Frow) (s : Str) (rows : List (List Int)), ss = [.r (.ref p), .d (.str s), .d (.list (rwsD rows))] ∧ rin = [filM C p fs] ∧ (FiOk fs ∧ rows.length ≤ 1000) ∧
  (s ∉ fs.map (·.1) → res (.d .none) [filM C p (fs ++ [(s, rows)])]) ∧ (s ∈ fs.map (·.1) → exc (E "Taken") [filM C p fs])
theorem ok_Files_make (hK : m.K = KC.K) (bl : Bl m.mg) {f fd} (F : Fun m.K "make" "Files.make" s_Files_make f fd) (er : Errs m E raD tsD) (oc : ObjC m C ["my_files"]) :
    FnOk m.P m.w m.K m.mg m.base (L2.CX m.P m.w) 1 f fd ["self", "name", "rows"] (spC (K_Files_make C E)) := by
  refine fn_ok F f_Files_make e_Files_make bl hK (by rintro _ _ _ _ ⟨_, _, _, _, rfl, _⟩; rfl) 1 rfl ?_
  rintro ss rin fr res exc c hC
  obtain ⟨p, fs, s, rows, rfl, rfl, ⟨ho, hn⟩, hr, hx⟩ := hC
  walk_at "nrm"
  refine dss_open (fam := filF C p fs) [] fun z => ?_
  obtain ⟨a, l, hl⟩ := z
  dsimp only [filF, List.nil_append, List.cons_append]
  have ek := fk_of hl
  walk_at "st"; walk_at "go"
  rw [fk_some, ek]
  refine ite_d (fun h => ?_) (fun h => ?_)
  · walk_at "go"
    exact ⟨[filM C p fs], enFil hl, hx h⟩
  · have hll : (l.map kvF).length ≤ 100000 := by
      have h1 := congrArg List.length hl
      have h2 := ho.few
      rw [List.length_map] at h1 ⊢
      omega
    walk_at "go"
    refine dx_lc0O (by walk_at "ix") (blkOk_by (by decide +kernel)) (di_list ?_)
    walk_at "go"
    refine ⟨List Int, rows, fun r => .d (rwD r), rwD, by unfold rwsD; rw [List.map_map]; rfl, fun A => trivial, by omega, ⟨_, by walk_at "set", fun r hr => ⟨_, by walk_at "set", ?_⟩⟩, fun D => ?_⟩
    · intro A s0 H0 C0 cl0 fp0 hso
      unfold rwD
      walk_at "go"
      exact ⟨rfl, rfl⟩
    rw [show rows.map rwD = rwsD rows from rfl]
    walk_at "go"
    refine ⟨[filM C p (fs ++ [(s, rows)])], ent_trans (ent_has (Bs := [rlM ((s, rows), D), famM rlM l, insM C p [("my_files", .r (.ref a))], dictM a (putS (l.map kvF) (.inr s) (.r (.ref D))), fr]) (by walk_at "grab")) (ent_trans se_add.ent (ent_trans (ent_has (Bs := [insM C p [("my_files", .r (.ref a))], dictM a (putS (l.map kvF) (.inr s) (.r (.ref D))), famM rlM (l ++ [((s, rows), D)]), fr]) (by walk_at "grab")) ?_)), hr h⟩
    rw [fk_put (by rw [ek]; exact h)]
    exact enFil (by rw [List.map_append, hl]; rfl)
theorem fil_out {C p a : Addr} {l : List (Frow × Addr)} {rs : List Mem} {i : Nat} {x : Frow × Addr} (hi : l[i]? = some x) : Ent (insM C p [("my_files", .r (.ref a))] :: dictM a (l.map kvF) :: famM rlM l :: rs) (rlM x :: famM rlM (l.take i ++ l.drop (i + 1)) :: insM C p [("my_files", .r (.ref a))] :: dictM a (l.map kvF) :: rs) :=
  ((SE.cons .swap).trans (.trans .swap (se_out hi))).ent
theorem fil_in {C p a a2 : Addr} {fs : List Frow} {l : List (Frow × Addr)} {rs : List Mem} {i : Nat} {s : Str} {r r2 : List (List Int)} (hl : l.map (·.1) = fs) (hi : l[i]? = some ((s, r), a2)) : Ent (rlM ((s, r2), a2) :: famM rlM (l.take i ++ l.drop (i + 1)) :: insM C p [("my_files", .r (.ref a))] :: dictM a (l.map kvF) :: rs) (filM C p (fs.set i (s, r2)) :: rs) := by
  obtain ⟨hk, _⟩ := List.getElem?_eq_some_iff.mp hi
  refine ent_trans ((se_in (f := rlM) (y := ((s, r2), a2)) hk).trans (.trans .swap (SE.cons .swap))).ent ?_
  rw [← fk_set (r2 := r2) hi]
  exact enFil (by rw [List.map_set, hl])
theorem fil_back {C p a : Addr} {fs : List Frow} {l : List (Frow × Addr)} {rs : List Mem} {i : Nat} {x : Frow × Addr} (hl : l.map (·.1) = fs) (hi : l[i]? = some x) : Ent (rlM x :: famM rlM (l.take i ++ l.drop (i + 1)) :: insM C p [("my_files", .r (.ref a))] :: dictM a (l.map kvF) :: rs) (filM C p fs :: rs) :=
  ent_trans ((se_back (f := rlM) hi).trans (.trans .swap (SE.cons .swap))).ent (enFil hl)
theorem fil_back1 {A : Mem} {C p a : Addr} {fs : List Frow} {l : List (Frow × Addr)} {rs : List Mem} {i : Nat} {x : Frow × Addr} (hl : l.map (·.1) = fs) (hi : l[i]? = some x) : Ent (A :: rlM x :: famM rlM (l.take i ++ l.drop (i + 1)) :: insM C p [("my_files", .r (.ref a))] :: dictM a (l.map kvF) :: rs) (A :: filM C p fs :: rs) :=
  ent_trans (SE.cons ((se_back (f := rlM) hi).trans (.trans .swap (SE.cons .swap)))).ent (ent_box (fam := filF C p fs) (q := (a, ⟨l, hl⟩)) [A] rs)
end
section
variable [KC] {m : Mo} {C : Addr} {E : Str → Addr}
def K_Files_size_of (C : Addr) (E : Str → Addr) : Cn := fun ss rin res exc => ∃ (p : Addr) (fs : List Frow) (s : Str), ss = [.r (.ref p), .d (.str s)] ∧ rin = [filM C p fs] ∧ FiOk fs ∧
  (∀ (i : Nat) (r : List (List Int)), fs[i]? = some (s, r) → res (.d (.int (r.length : Nat))) [filM C p fs]) ∧ (s ∉ fs.map (·.1) → exc (E "NoFile") [filM C p fs])
theorem ok_Files_size_of (hK : m.K = KC.K) (bl : Bl m.mg) {f fd} (F : Fun m.K "size_of" "Files.size_of" s_Files_size_of f fd) (er : Errs m E raD tsD) (oc : ObjC m C ["my_files"]) :
    FnOk m.P m.w m.K m.mg m.base (L2.CX m.P m.w) 1 f fd ["self", "name"] (spC (K_Files_size_of C E)) := by
  refine fn_ok F f_Files_size_of e_Files_size_of bl hK (by rintro _ _ _ _ ⟨_, _, _, rfl, _⟩; rfl) 0 rfl ?_
  rintro ss rin fr res exc c hC
  obtain ⟨p, fs, s, rfl, rfl, ho, hr, hx⟩ := hC
  walk_at "nrm"
  refine dss_open (fam := filF C p fs) [] fun z => ?_
  obtain ⟨a, l, hl⟩ := z
  dsimp only [filF, List.nil_append, List.cons_append]
  have ek := fk_of hl
  walk_at "st"; walk_at "go"
  rw [fk_some, ek]
  refine ite_nd (fun h => ?_) (fun h => ?_)
  · walk_at "go"
    exact ⟨[filM C p fs], enFil hl, hx h⟩
  · obtain ⟨i, r, hi⟩ := fl_key h
    obtain ⟨a2, hi2⟩ := fl_at hl hi
    have hv := fk_at (ho.nl hl) hi2
    refine dss_nil ?_
    refine dss_ent (fil_out hi2) ?_
    walk_at "go"
    rw [List.length_map, rwsD_len]
    exact fin [filM C p fs] (fil_back hl hi2) (hr i r hi)
def K_Files_ask_page (C : Addr) (E : Str → Addr) : Cn := fun ss rin res exc => ∃ (p : Addr) (fs : List Frow) (s : Str) (k : Int), ss = [.r (.ref p), .d (.str s), .d (.int k)] ∧ rin = [filM C p fs] ∧ FiOk fs ∧
  (∀ (i : Nat) (r : List (List Int)), fs[i]? = some (s, r) → (k < (r.length : Nat) → res (.d .none) [filM C p fs]) ∧ ((r.length : Nat) ≤ k → exc (E "NoPage") [filM C p fs])) ∧ (s ∉ fs.map (·.1) → exc (E "NoFile") [filM C p fs])
theorem ok_Files_ask_page (hK : m.K = KC.K) (bl : Bl m.mg) {f fd} (F : Fun m.K "ask_page" "Files.ask_page" s_Files_ask_page f fd) (er : Errs m E raD tsD) (oc : ObjC m C ["my_files"]) (h1 : MtIs m C "size_of" 1 (K_Files_size_of C E)) :
    FnOk m.P m.w m.K m.mg m.base (L2.CX m.P m.w) 2 f fd ["self", "name", "page"] (spC (K_Files_ask_page C E)) := by
  refine fn_ok F f_Files_ask_page e_Files_ask_page bl hK (by rintro _ _ _ _ ⟨_, _, _, _, rfl, _⟩; rfl) 0 rfl ?_
  rintro ss rin fr res exc c hC
  obtain ⟨p, fs, s, k, rfl, rfl, ho, hr, hx⟩ := hC
  walk_at "st"; walk_at "go"
  refine ⟨fun i r hi => ?_, fun h => ?_⟩
  · obtain ⟨h1, h2⟩ := hr i r hi
    walk_at "go"
    refine ite_d (fun h => ?_) (fun h => ?_)
    · walk_at "go"
      exact ⟨[filM C p fs], ent_refl, h2 h⟩
    · walk_at "go"
      exact ⟨[filM C p fs], ent_refl, h1 (by omega)⟩
  · exact ⟨[filM C p fs], ent_refl, hx h⟩
end
section
variable [KC] {m : Mo} {C : Addr} {E : Str → Addr}
def K_Files_row_at (C : Addr) (E : Str → Addr) : Cn := fun ss rin res exc => ∃ (p : Addr) (fs : List Frow) (s : Str) (k : Int), ss = [.r (.ref p), .d (.str s), .d (.int k)] ∧ rin = [filM C p fs] ∧ (FiOk fs ∧ 0 ≤ k) ∧
  (∀ (i : Nat) (r : List (List Int)), fs[i]? = some (s, r) → (∀ row, r[k.toNat]? = some row → ∀ q, res (.r (.ref q)) [lstM q ((row.map PyData.int).map .d), filM C p fs]) ∧ ((r.length : Nat) ≤ k → exc (E "NoPage") [filM C p fs])) ∧ (s ∉ fs.map (·.1) → exc (E "NoFile") [filM C p fs])
theorem ok_Files_row_at (hK : m.K = KC.K) (bl : Bl m.mg) {f fd} (F : Fun m.K "row_at" "Files.row_at" s_Files_row_at f fd) (oc : ObjC m C ["my_files"]) (h1 : MtIs m C "ask_page" 2 (K_Files_ask_page C E)) :
    FnOk m.P m.w m.K m.mg m.base (L2.CX m.P m.w) 3 f fd ["self", "name", "page"] (spC (K_Files_row_at C E)) := by
  refine fn_ok F f_Files_row_at e_Files_row_at bl hK (by rintro _ _ _ _ ⟨_, _, _, _, rfl, _⟩; rfl) 0 rfl ?_
  rintro ss rin fr res exc c hC
  obtain ⟨p, fs, s, k, rfl, rfl, ⟨ho, hk0⟩, hr, hx⟩ := hC
  walk_at "st"; walk_at "go"
  refine ⟨fun i r hi => ⟨fun hk => ?_, fun hk => ⟨[filM C p fs], ent_refl, (hr i r hi).2 hk⟩⟩, fun h => ⟨[filM C p fs], ent_refl, hx h⟩⟩
  obtain ⟨k, rfl⟩ := Int.eq_ofNat_of_zero_le hk0
  obtain ⟨row, hrow⟩ : ∃ row, r[k]? = some row := ⟨r[k]'(by omega), List.getElem?_eq_getElem _⟩
  have hres := (hr i r hi).1 row (by rw [Int.toNat_natCast]; exact hrow)
  refine dss_open (fam := filF C p fs) [] fun z => ?_
  obtain ⟨a, l, hl⟩ := z
  dsimp only [filF, List.nil_append, List.cons_append]
  obtain ⟨a2, hi2⟩ := fl_at hl hi
  have hv := fk_at (ho.nl hl) hi2
  have hat := rwsD_at hrow
  refine dss_ent (fil_out hi2) ?_
  refine dss_cons (ds_ret (dx_listU ?_))
  walk_at "go"
  rename_i q
  exact fin [lstM q ((row.map PyData.int).map .d), filM C p fs] (fil_back1 hl hi2) (hres q)
def K_Files_store_row (C : Addr) (E : Str → Addr) : Cn := fun ss rin res exc => ∃ (p : Addr) (fs : List Frow) (s : Str) (k : Int) (row : List Int), ss = [.r (.ref p), .d (.str s), .d (.int k), .d (rwD row)] ∧ rin = [filM C p fs] ∧ (FiOk fs ∧ 0 ≤ k) ∧
  (∀ (i : Nat) (r : List (List Int)), fs[i]? = some (s, r) → (k < (r.length : Nat) → res (.d .none) [filM C p (fs.set i (s, r.set k.toNat row))]) ∧ ((r.length : Nat) ≤ k → exc (E "NoPage") [filM C p fs])) ∧ (s ∉ fs.map (·.1) → exc (E "NoFile") [filM C p fs])
theorem ok_Files_store_row (hK : m.K = KC.K) (bl : Bl m.mg) {f fd} (F : Fun m.K "store_row" "Files.store_row" s_Files_store_row f fd) (oc : ObjC m C ["my_files"]) (h1 : MtIs m C "ask_page" 2 (K_Files_ask_page C E)) :
    FnOk m.P m.w m.K m.mg m.base (L2.CX m.P m.w) 3 f fd ["self", "name", "page", "row"] (spC (K_Files_store_row C E)) := by
  refine fn_ok F f_Files_store_row e_Files_store_row bl hK (by rintro _ _ _ _ ⟨_, _, _, _, _, rfl, _⟩; rfl) 0 rfl ?_
  rintro ss rin fr res exc c hC
  obtain ⟨p, fs, s, k, row, rfl, rfl, ⟨ho, hk0⟩, hr, hx⟩ := hC
  walk_at "st"; walk_at "go"
  refine ⟨fun i r hi => ⟨fun hk => ?_, fun hk => ⟨[filM C p fs], ent_refl, (hr i r hi).2 hk⟩⟩, fun h => ⟨[filM C p fs], ent_refl, hx h⟩⟩
  obtain ⟨k, rfl⟩ := Int.eq_ofNat_of_zero_le hk0
  have hres := (hr i r hi).1 hk
  refine dss_open (fam := filF C p fs) [] fun z => ?_
  obtain ⟨a, l, hl⟩ := z
  dsimp only [filF, List.nil_append, List.cons_append]
  obtain ⟨a2, hi2⟩ := fl_at hl hi
  have hv := fk_at (ho.nl hl) hi2
  have hix : ixN ((rwsD r).map Sl.d).length (k : Int) = some (k : Int).toNat := ixN_in (by rw [List.length_map, rwsD_len]; omega)
  refine dss_ent (fil_out hi2) ?_
  refine dss_cons (ds_seti ?_)
  unfold rwD
  walk_at "go"
  refine ⟨[filM C p (fs.set i (s, r.set k row))], ?_, hres⟩
  rw [show Sl.d (PyData.list (row.map PyData.int)) = .d (rwD row) from rfl, rwsD_set]
  exact fil_in hl hi2
def K_Files_drop (C : Addr) (E : Str → Addr) : Cn := fun ss rin res exc => ∃ (p : Addr) (fs : List Frow) (s : Str), ss = [.r (.ref p), .d (.str s)] ∧ rin = [filM C p fs] ∧ FiOk fs ∧
  (∀ (i : Nat) (r : List (List Int)), fs[i]? = some (s, r) → res (.d .none) [filM C p (fs.take i ++ fs.drop (i + 1))]) ∧ (s ∉ fs.map (·.1) → exc (E "NoFile") [filM C p fs])
theorem ok_Files_drop (hK : m.K = KC.K) (bl : Bl m.mg) {f fd} (F : Fun m.K "drop" "Files.drop" s_Files_drop f fd) (er : Errs m E raD tsD) (oc : ObjC m C ["my_files"]) :
    FnOk m.P m.w m.K m.mg m.base (L2.CX m.P m.w) 1 f fd ["self", "name"] (spC (K_Files_drop C E)) := by
  refine fn_ok F f_Files_drop e_Files_drop bl hK (by rintro _ _ _ _ ⟨_, _, _, rfl, _⟩; rfl) 0 rfl ?_
  rintro ss rin fr res exc c hC
  obtain ⟨p, fs, s, rfl, rfl, ho, hr, hx⟩ := hC
  walk_at "nrm"
  refine dss_open (fam := filF C p fs) [] fun z => ?_
  obtain ⟨a, l, hl⟩ := z
  dsimp only [filF, List.nil_append, List.cons_append]
  have ek := fk_of hl
  walk_at "st"; walk_at "go"
  rw [fk_some, ek]
  refine ite_nd (fun h => ?_) (fun h => ?_)
  · walk_at "go"
    exact ⟨[filM C p fs], enFil hl, hx h⟩
  · obtain ⟨i, r, hi⟩ := fl_key h
    obtain ⟨a2, hi2⟩ := fl_at hl hi
    have hv := fk_at (ho.nl hl) hi2
    have hd := fk_drop (ho.nl hl) hi2
    walk_at "go"
    rw [hd]
    refine ⟨[filM C p (fs.take i ++ fs.drop (i + 1))], ?_, hr i r hi⟩
    refine ent_trans (ent_has (Bs := [famM rlM l, insM C p [("my_files", .r (.ref a))], dictM a ((l.take i ++ l.drop (i + 1)).map kvF), fr]) (by walk_at "grab")) (ent_trans (se_out hi2).ent ?_)
    refine ent_trans (ent_has (Bs := [insM C p [("my_files", .r (.ref a))], dictM a ((l.take i ++ l.drop (i + 1)).map kvF), famM rlM (l.take i ++ l.drop (i + 1)), fr]) (by walk_at "grab")) ?_
    exact enFil (by rw [List.map_append, List.map_take, List.map_drop, hl])
def K_Files_names (C : Addr) : Cn := fun ss rin res _ => ∃ (p : Addr) (fs : List Frow), ss = [.r (.ref p)] ∧ rin = [filM C p fs] ∧ fs.length < 64 ∧
  ∀ ys : List Str, ys.Perm (fs.map (·.1)) → PyProof.Rows.sortedS ys = true → ∀ q, res (.r (.ref q)) [lstM q ((ys.map PyData.str).map .d), filM C p fs]
theorem ok_Files_names (hK : m.K = KC.K) (bl : Bl m.mg) {f fd} (F : Fun m.K "names" "Files.names" s_Files_names f fd) (oc : ObjC m C ["my_files"]) :
    FnOk m.P m.w m.K m.mg m.base (L2.CX m.P m.w) 1 f fd ["self"] (spC (K_Files_names C)) := by
  refine fn_ok F f_Files_names e_Files_names bl hK (by rintro _ _ _ _ ⟨_, _, rfl, _⟩; rfl) 0 rfl ?_
  rintro ss rin fr res exc c hC
  obtain ⟨p, fs, rfl, rfl, hn, hr⟩ := hC
  walk_at "nrm"
  refine dss_open (fam := filF C p fs) [] fun z => ?_
  obtain ⟨a, l, hl⟩ := z
  dsimp only [filF, List.nil_append, List.cons_append]
  refine dss_cons (ds_ret (dx_sortedDSO ?_))
  walk_at "go"
  refine ⟨a, _, _, fs.map (·.1), rfl, by walk_at "pick", by rw [← fk_of hl, ← fk_keys, List.map_map]; rfl, by rw [List.length_map]; exact hn, fun ys h1 h2 q => ?_⟩
  exact fin [lstM q ((ys.map PyData.str).map .d), filM C p fs] (ent_box (fam := filF C p fs) (q := (a, ⟨l, hl⟩)) [lstM q ((ys.map PyData.str).map .d)] [fr]) (hr ys h1 h2 q)
end

section
variable [KC] {m : Mo} {C : Addr} {E : Str → Addr}
/-- rows of one's own -/
abbrev riM (r : List Int) (q : Addr) : Mem := lstM q ((r.map PyData.int).map .d)
abbrev rwI (h : Addr) (rows : List (List Int)) : Mem := colM h riM rows
def K_Files_makeR (C : Addr) (E : Str → Addr) : Cn := fun ss rin res exc => ∃ (p h : Addr) (fs : List Frow) (s : Str) (rows : List (List Int)), ss = [.r (.ref p), .d (.str s), .r (.ref h)] ∧ rin = [filM C p fs, rwI h rows] ∧ (FiOk fs ∧ rows.length ≤ 1000) ∧
  (s ∉ fs.map (·.1) → res (.d .none) [filM C p (fs ++ [(s, rows)]), rwI h rows]) ∧ (s ∈ fs.map (·.1) → exc (E "Taken") [filM C p fs, rwI h rows])
theorem ok_Files_makeR (hK : m.K = KC.K) (bl : Bl m.mg) {f fd} (F : Fun m.K "make" "Files.make" s_Files_make f fd) (er : Errs m E raD tsD) (oc : ObjC m C ["my_files"]) :
    FnOk m.P m.w m.K m.mg m.base (L2.CX m.P m.w) 1 f fd ["self", "name", "rows"] (spC (K_Files_makeR C E)) := by
  refine fn_ok F f_Files_make e_Files_make bl hK (by rintro _ _ _ _ ⟨_, _, _, _, _, rfl, _⟩; rfl) 1 rfl ?_
  rintro ss rin fr res exc c hC
  obtain ⟨p, h, fs, s, rows, rfl, rfl, ⟨ho, hn⟩, hr, hx⟩ := hC
  walk_at "nrm"
  refine dss_open (fam := filF C p fs) [] fun z => ?_
  obtain ⟨a, l, hl⟩ := z
  dsimp only [filF, List.nil_append, List.cons_append]
  have ek := fk_of hl
  walk_at "st"; walk_at "go"
  rw [fk_some, ek]
  refine ite_d (fun h1 => ?_) (fun h1 => ?_)
  · walk_at "go"
    exact ⟨[filM C p fs, rwI h rows], enFil hl, hx h1⟩
  · have hll : (l.map kvF).length ≤ 100000 := by
      have h1 := congrArg List.length hl
      have h2 := ho.few
      rw [List.length_map] at h1 ⊢
      omega
    refine dss_nil ?_
    refine dss_open (fam := colF h riM rows) [insM C p [("my_files", .r (.ref a))], dictM a (l.map kvF), famM rlM l] fun z => ?_
    obtain ⟨l2, hl2⟩ := z
    dsimp only [colF, List.nil_append, List.cons_append]
    have hn2 : l2.length ≤ 1000 := by have := congrArg List.length hl2; rw [List.length_map] at this; omega
    walk_at "go"
    refine dx_lc0O (by walk_at "ix") (blkOk_by (by decide +kernel)) (di_own ?_)
    walk_at "go"
    refine ⟨List Int × Addr, l2, fun x => .r (.ref x.2), fun x => rwD x.1, rfl, fun A => ⟨_, by walk_at "pick"⟩, by omega, ⟨_, by walk_at "set", fun x hx => ⟨_, by walk_at "set", ?_⟩⟩, fun D => ?_⟩
    · intro A s0 H0 C0 cl0 fp0 hso
      obtain ⟨i, hi⟩ := List.mem_iff_getElem?.mp hx
      have eo := se_out (f := fun x : List Int × Addr => riM x.1 x.2) (rs := [A, insM C p [("my_files", .r (.ref a))], dictM a (l.map kvF), famM rlM l, lstM h (l2.map fun x => .r (.ref x.2)), fr]) hi
      have eb := se_back (f := fun x : List Int × Addr => riM x.1 x.2) (rs := [A, insM C p [("my_files", .r (.ref a))], dictM a (l.map kvF), famM rlM l, lstM h (l2.map fun x => .r (.ref x.2)), fr]) hi
      obtain ⟨r, b⟩ := x
      refine dx_ent0 (ent_trans (ent_has (Bs := [famM (fun x : List Int × Addr => riM x.1 x.2) l2, A, insM C p [("my_files", .r (.ref a))], dictM a (l.map kvF), famM rlM l, lstM h (l2.map fun x => .r (.ref x.2)), fr]) (by walk_at "grab")) eo.ent) (dx_ent ?_)
      dsimp only
      walk_at "go"
      refine ⟨A :: [insM C p [("my_files", .r (.ref a))], dictM a (l.map kvF), famM rlM l, lstM h (l2.map fun x => .r (.ref x.2)), famM (fun x : List Int × Addr => riM x.1 x.2) l2, fr], ent_trans eb.ent (ent_has (by walk_at "grab")), rfl, rfl⟩
    rw [show l2.map (fun x => rwD x.1) = rwsD rows by rw [← hl2]; unfold rwsD; rw [List.map_map]; rfl]
    walk_at "go"
    refine ⟨[filM C p (fs ++ [(s, rows)]), rwI h rows], ent_trans (ent_has (Bs := [rlM ((s, rows), D), famM rlM l, insM C p [("my_files", .r (.ref a))], dictM a (putS (l.map kvF) (.inr s) (.r (.ref D))), lstM h (l2.map fun x => .r (.ref x.2)), famM (fun x : List Int × Addr => riM x.1 x.2) l2, fr]) (by walk_at "grab")) (ent_trans se_add.ent (ent_trans (ent_has (Bs := [insM C p [("my_files", .r (.ref a))], dictM a (putS (l.map kvF) (.inr s) (.r (.ref D))), famM rlM (l ++ [((s, rows), D)]), lstM h (l2.map fun x => .r (.ref x.2)), famM (fun x : List Int × Addr => riM x.1 x.2) l2, fr]) (by walk_at "grab")) ?_)), hr h1⟩
    rw [fk_put (by rw [ek]; exact h1)]
    exact ent_trans (enFil (by rw [List.map_append, hl]; rfl)) (ent_box (fam := colF h riM rows) (q := ⟨l2, hl2⟩) [filM C p (fs ++ [(s, rows)])] [fr])
def K_Files_store_rowR (C : Addr) (E : Str → Addr) : Cn := fun ss rin res exc => ∃ (p b : Addr) (fs : List Frow) (s : Str) (k : Int) (row : List Int), ss = [.r (.ref p), .d (.str s), .d (.int k), .r (.ref b)] ∧ rin = [filM C p fs, riM row b] ∧ (FiOk fs ∧ 0 ≤ k) ∧
  (∀ (i : Nat) (r : List (List Int)), fs[i]? = some (s, r) → (k < (r.length : Nat) → res (.d .none) [filM C p (fs.set i (s, r.set k.toNat row)), riM row b]) ∧ ((r.length : Nat) ≤ k → exc (E "NoPage") [filM C p fs, riM row b])) ∧ (s ∉ fs.map (·.1) → exc (E "NoFile") [filM C p fs, riM row b])
theorem ok_Files_store_rowR (hK : m.K = KC.K) (bl : Bl m.mg) {f fd} (F : Fun m.K "store_row" "Files.store_row" s_Files_store_row f fd) (oc : ObjC m C ["my_files"]) (h1 : MtIs m C "ask_page" 2 (K_Files_ask_page C E)) :
    FnOk m.P m.w m.K m.mg m.base (L2.CX m.P m.w) 3 f fd ["self", "name", "page", "row"] (spC (K_Files_store_rowR C E)) := by
  refine fn_ok F f_Files_store_row e_Files_store_row bl hK (by rintro _ _ _ _ ⟨_, _, _, _, _, _, rfl, _⟩; rfl) 0 rfl ?_
  rintro ss rin fr res exc c hC
  obtain ⟨p, b, fs, s, k, row, rfl, rfl, ⟨ho, hk0⟩, hr, hx⟩ := hC
  walk_at "st"; walk_at "go"
  refine ⟨fun i r hi => ⟨fun hk => ?_, fun hk => ⟨[filM C p fs, riM row b], ent_refl, (hr i r hi).2 hk⟩⟩, fun h => ⟨[filM C p fs, riM row b], ent_refl, hx h⟩⟩
  obtain ⟨k, rfl⟩ := Int.eq_ofNat_of_zero_le hk0
  have hres := (hr i r hi).1 hk
  refine dss_open (fam := filF C p fs) [] fun z => ?_
  obtain ⟨a, l, hl⟩ := z
  dsimp only [filF, List.nil_append, List.cons_append]
  obtain ⟨a2, hi2⟩ := fl_at hl hi
  have hv := fk_at (ho.nl hl) hi2
  have hix : ixN ((rwsD r).map Sl.d).length (k : Int) = some (k : Int).toNat := ixN_in (by rw [List.length_map, rwsD_len]; omega)
  refine dss_ent (fil_out hi2) ?_
  refine dss_cons (ds_seti ?_)
  walk_at "go"
  refine ⟨[filM C p (fs.set i (s, r.set k row)), riM row b], ?_, hres⟩
  rw [show Sl.d (PyData.list (row.map PyData.int)) = .d (rwD row) from rfl, rwsD_set]
  exact fil_in hl hi2
end

section
variable [KC] {m : Mo}
def K_Lwhole : Cn := fun ss rin res _ => ∃ n : Int, ss = [.d (.int n)] ∧ rin = [] ∧ True ∧ res (.d (.bool true)) []
theorem ok_Lwhole (hK : m.K = KC.K) (bl : Bl m.mg) {f fd} (F : Fun m.K "_law_whole" "_law_whole" s_Lwhole f fd) :
    FnOk m.P m.w m.K m.mg m.base (L2.CX m.P m.w) 1 f fd ["_law_found"] (spC K_Lwhole) := by
  refine fn_ok F f_Lwhole e_Lwhole bl hK (by rintro _ _ _ _ ⟨_, rfl, _⟩; rfl) 0 rfl ?_
  rintro ss rin fr res exc c hC
  obtain ⟨n, rfl, rfl, _, hr⟩ := hC
  walk_at "st"; walk_at "go"
def K_Lalike (n : Nat) : Cn := fun ss rin res _ => ∃ d : PyData, ss = [.d d, .d d] ∧ rin = [] ∧ AlikeOk n d ∧ res (.d (.bool true)) []
theorem ok_Lalike0 (hK : m.K = KC.K) (bl : Bl m.mg) {f fd} (F : Fun m.K "_law_alike" "_law_alike" s_Lalike f fd) (h1 : FnIs m "_law_whole" 1 K_Lwhole) :
    FnOk m.P m.w m.K m.mg m.base (L2.CX m.P m.w) 2 f fd ["_law_found", "_law_due_here"] (spC (K_Lalike 0)) := by
  refine fn_ok F f_Lalike e_Lalike bl hK (by rintro _ _ _ _ ⟨_, rfl, _⟩; rfl) 1 rfl ?_
  rintro ss rin fr res exc c hC
  obtain ⟨d, rfl, rfl, hd, hr⟩ := hC
  cases hd with
  | non => walk_at "st"; walk_at "go"
  | bl _ b => cases b <;> (walk_at "st"; walk_at "go")
  | int _ i => walk_at "st"; walk_at "go"
  | str _ s => walk_at "st"; walk_at "go"; rw [decide_eq_true rfl]; walk_at "go"
theorem ok_Lalike1 (hK : m.K = KC.K) (bl : Bl m.mg) {f fd} (F : Fun m.K "_law_alike" "_law_alike" s_Lalike f fd) (h1 : FnIs m "_law_whole" 1 K_Lwhole) (h2 : FnIs m "_law_alike" 2 (K_Lalike 0)) :
    FnOk m.P m.w m.K m.mg m.base (L2.CX m.P m.w) 3 f fd ["_law_found", "_law_due_here"] (spC (K_Lalike 1)) := by
  refine fn_ok F f_Lalike e_Lalike bl hK (by rintro _ _ _ _ ⟨_, rfl, _⟩; rfl) 1 rfl ?_
  rintro ss rin fr res exc c hC
  obtain ⟨d, rfl, rfl, hd, hr⟩ := hC
  cases hd with
  | non => walk_at "st"; walk_at "go"
  | bl _ b => cases b <;> (walk_at "st"; walk_at "go")
  | int _ i => walk_at "st"; walk_at "go"
  | str _ s => walk_at "st"; walk_at "go"; rw [decide_eq_true rfl]; walk_at "go"
  | @tup _ ds hl ha =>
    walk_at "st"; walk_at "go"
    refine ds_for (by walk_at "ix") (di_range1 ?_)
    walk_at "go"
    refine ⟨_, rfl, by omega, Nat, List.range _, fun k => .d (.int (0 + (k : Nat))), rfl, ?_⟩
    refine for_un (ρ0 := [.d (.tuple ds), .d (.tuple ds), .un]) (by walk_at "le") trivial ?_ fun k hk => ⟨_, by walk_at "set", ?_⟩
    · walk_at "go"
    · rw [List.mem_range, Int.toNat_natCast] at hk
      obtain ⟨d, hd1, hd2⟩ := atI_in (xs := ds) (i := 0 + (k : Int)) (by omega)
      have hdk := ha d (List.mem_of_getElem? hd2)
      walk_at "go"
  | @lst _ ds hl ha =>
    walk_at "st"; walk_at "go"
    refine ds_for (by walk_at "ix") (di_range1 ?_)
    walk_at "go"
    refine ⟨_, rfl, by omega, Nat, List.range _, fun k => .d (.int (0 + (k : Nat))), rfl, ?_⟩
    refine for_un (ρ0 := [.d (.list ds), .d (.list ds), .un]) (by walk_at "le") trivial ?_ fun k hk => ⟨_, by walk_at "set", ?_⟩
    · walk_at "go"
    · rw [List.mem_range, Int.toNat_natCast] at hk
      obtain ⟨d, hd1, hd2⟩ := atI_in (xs := ds) (i := 0 + (k : Int)) (by omega)
      have hdk := ha d (List.mem_of_getElem? hd2)
      walk_at "go"
theorem ok_Lalike2 (hK : m.K = KC.K) (bl : Bl m.mg) {f fd} (F : Fun m.K "_law_alike" "_law_alike" s_Lalike f fd) (h1 : FnIs m "_law_whole" 1 K_Lwhole) (h2 : FnIs m "_law_alike" 3 (K_Lalike 1)) :
    FnOk m.P m.w m.K m.mg m.base (L2.CX m.P m.w) 4 f fd ["_law_found", "_law_due_here"] (spC (K_Lalike 2)) := by
  refine fn_ok F f_Lalike e_Lalike bl hK (by rintro _ _ _ _ ⟨_, rfl, _⟩; rfl) 1 rfl ?_
  rintro ss rin fr res exc c hC
  obtain ⟨d, rfl, rfl, hd, hr⟩ := hC
  cases hd with
  | non => walk_at "st"; walk_at "go"
  | bl _ b => cases b <;> (walk_at "st"; walk_at "go")
  | int _ i => walk_at "st"; walk_at "go"
  | str _ s => walk_at "st"; walk_at "go"; rw [decide_eq_true rfl]; walk_at "go"
  | @tup _ ds hl ha =>
    walk_at "st"; walk_at "go"
    refine ds_for (by walk_at "ix") (di_range1 ?_)
    walk_at "go"
    refine ⟨_, rfl, by omega, Nat, List.range _, fun k => .d (.int (0 + (k : Nat))), rfl, ?_⟩
    refine for_un (ρ0 := [.d (.tuple ds), .d (.tuple ds), .un]) (by walk_at "le") trivial ?_ fun k hk => ⟨_, by walk_at "set", ?_⟩
    · walk_at "go"
    · rw [List.mem_range, Int.toNat_natCast] at hk
      obtain ⟨d, hd1, hd2⟩ := atI_in (xs := ds) (i := 0 + (k : Int)) (by omega)
      have hdk := ha d (List.mem_of_getElem? hd2)
      walk_at "go"
  | @lst _ ds hl ha =>
    walk_at "st"; walk_at "go"
    refine ds_for (by walk_at "ix") (di_range1 ?_)
    walk_at "go"
    refine ⟨_, rfl, by omega, Nat, List.range _, fun k => .d (.int (0 + (k : Nat))), rfl, ?_⟩
    refine for_un (ρ0 := [.d (.list ds), .d (.list ds), .un]) (by walk_at "le") trivial ?_ fun k hk => ⟨_, by walk_at "set", ?_⟩
    · walk_at "go"
    · rw [List.mem_range, Int.toNat_natCast] at hk
      obtain ⟨d, hd1, hd2⟩ := atI_in (xs := ds) (i := 0 + (k : Int)) (by omega)
      have hdk := ha d (List.mem_of_getElem? hd2)
      walk_at "go"
end

section
variable [KC] {m : Mo}
def lfac (k : Int) : Int := [48271, 100000000000000000000 + 39, 10000000000000000000000000000000000000000 + 121, 100000000000000000000000000000000000000000000000000000000000 + 7].getD (k % 4).toNat 0
def lbig (c k : Int) : Int := c * lfac k + 7919 * k * k
def lnums (big : Int) : List Int := [big % 9, big % (1000000000000000000000000000000000000000000000000000000000000 - 1 + 1), -(big % (1000000000000000000000000000000000000000000000000000000000000 - 1 + 1)), 1000000000000000000000000000000000000000000000000000000000000 - 1 - big % 2, big % 2 - (1000000000000000000000000000000000000000000000000000000000000 - 1), -1 - big % 7]
def lnum (c k : Int) : Int := (lnums (lbig c k)).getD ((c + 5 * k) * 69621 % 15101 % 6).toNat 0
def K_Lnum : Cn := fun ss rin res _ => ∃ c k : Int, ss = [.d (.int c), .d (.int k)] ∧ rin = [] ∧ ((-(8 * BM) ≤ c ∧ c ≤ 8 * BM) ∧ 0 ≤ k ∧ k ≤ 1000) ∧ res (.d (.int (lnum c k))) []
theorem ok_Lnum (hK : m.K = KC.K) (bl : Bl m.mg) {f fd} (F : Fun m.K "_law_num" "_law_num" s_Lnum f fd) :
    FnOk m.P m.w m.K m.mg m.base (L2.CX m.P m.w) 1 f fd ["_law_cell", "_law_k"] (spC K_Lnum) := by
  refine fn_ok F f_Lnum e_Lnum bl hK (by rintro _ _ _ _ ⟨_, _, rfl, _⟩; rfl) 3 rfl ?_
  rintro ss rin fr res exc c hC
  obtain ⟨c', k, rfl, rfl, ⟨hc, hk⟩, hr⟩ := hC
  have hm := bm_big
  walk_at "nrm"
  refine dss_cut (I := fun ρ' r' => ρ' = [.d (.int c'), .d (.int k), .d (.int (1000000000000000000000000000000000000000000000000000000000000 - 1)), .un, .un] ∧ r' = [fr]) ?_ ?_
  · walk_at "go"
    exact ⟨rfl, rfl⟩
  rintro _ _ ⟨rfl, rfl⟩
  refine dss_cut (I := fun ρ' r' => ρ' = [.d (.int c'), .d (.int k), .d (.int (1000000000000000000000000000000000000000000000000000000000000 - 1)), .d (.int (lbig c' k)), .un] ∧ r' = [fr]) ?_ ?_
  · have h4 : k % 4 = 0 ∨ k % 4 = 1 ∨ k % 4 = 2 ∨ k % 4 = 3 := by omega
    rcases h4 with h | h | h | h
    all_goals
      have e : lbig c' k = c' * lfac k + 7919 * k * k := rfl
      unfold lfac at e
      rw [h] at e
      walk_at "go"
      refine od_ixs rfl (by rw [h]; rfl) ?_
      walk_at "go"
      try (refine od_mul (mul_bm (by omega) (by decide +kernel)) ?_; walk_at "go")
      exact ⟨by rw [e]; rfl, rfl⟩
  rintro _ _ ⟨rfl, rfl⟩
  walk_at "go"
  obtain ⟨v, hv, hg⟩ := atI_in (xs := (lnums (lbig c' k)).map PyData.int) (i := (c' + 5 * k) * 69621 % 15101 % 6) (by show _ ∧ _ < ((6 : Nat) : Int); omega)
  have e : lnum c' k = (lnums (lbig c' k)).getD ((c' + 5 * k) * 69621 % 15101 % 6).toNat 0 := rfl
  rw [List.getElem?_map] at hg
  rw [List.getD_eq_getElem?_getD] at e
  refine od_ixs rfl hv ?_
  cases h : (lnums (lbig c' k))[((c' + 5 * k) * 69621 % 15101 % 6).toNat]? with
  | none => rw [h] at hg; cases hg
  | some n =>
    rw [h] at hg e
    cases hg
    rw [show n = lnum c' k from e.symm]
    walk_at "go"
theorem lnum_le (c k : Int) : -1000000000000000000000000000000000000000000000000000000000000 < lnum c k ∧ lnum c k < 1000000000000000000000000000000000000000000000000000000000000 := by
  unfold lnum
  rw [List.getD_eq_getElem?_getD]
  cases h : (lnums (lbig c k))[((c + 5 * k) * 69621 % 15101 % 6).toNat]? with
  | none => exact ⟨by decide, by decide⟩
  | some n =>
    have hm := List.mem_of_getElem? h
    unfold lnums at hm
    simp only [List.mem_cons, List.not_mem_nil, or_false] at hm
    show _ < n ∧ n < _
    omega
def lrow (c : Int) : List Int := [lnum c 0, lnum (c + 31) 1, lnum (c + 62) 2, lnum (c + 93) 3]
def K_Lrow : Cn := fun ss rin res _ => ∃ c : Int, ss = [.d (.int c)] ∧ rin = [] ∧ (-(4 * BM) ≤ c ∧ c ≤ 4 * BM) ∧ res (.n ((lrow c).map .int)) []
theorem ok_Lrow (hK : m.K = KC.K) (bl : Bl m.mg) {f fd} (F : Fun m.K "_law_row" "_law_row" s_Lrow f fd) (h1 : FnIs m "_law_num" 1 K_Lnum) :
    FnOk m.P m.w m.K m.mg m.base (L2.CX m.P m.w) 2 f fd ["_law_cell"] (spC K_Lrow) := by
  refine fn_ok F f_Lrow e_Lrow bl hK (by rintro _ _ _ _ ⟨_, rfl, _⟩; rfl) 1 rfl ?_
  rintro ss rin fr res exc c hC
  obtain ⟨c', rfl, rfl, hc, hr⟩ := hC
  have hm := bm_big
  walk_at "st"
  refine ds_ret (dx_lc0 (by walk_at "ix") (blkOk_by (by decide +kernel)) (di_range1 ?_))
  walk_at "go"
  refine ⟨_, rfl, by omega, Nat, List.range 4, fun k => .d (.int (0 + (k : Nat))), fun k => .int (lnum (c' + 31 * k) k), rfl, fun A => trivial, by rw [List.length_range]; omega, ⟨_, by walk_at "set", fun k hk => ⟨_, by walk_at "set", ?_⟩⟩, ?_⟩
  · intro A s0 H0 C0 cl0 fp0 hso
    rw [List.mem_range] at hk
    have hcond : (-(8 * BM) ≤ c' + 31 * (0 + (k : Int)) ∧ c' + 31 * (0 + (k : Int)) ≤ 8 * BM) ∧ 0 ≤ 0 + (k : Int) ∧ 0 + (k : Int) ≤ 1000 := by omega
    walk_at "go"
    rw [Int.zero_add]
    exact ⟨rfl, rfl⟩
  · have e : (List.range 4).map (fun k : Nat => PyData.int (lnum (c' + 31 * k) k)) = (lrow c').map .int := by
      show [PyData.int (lnum (c' + 31 * 0) 0), PyData.int (lnum (c' + 31 * 1) 1), PyData.int (lnum (c' + 31 * 2) 2), PyData.int (lnum (c' + 31 * 3) 3)] = _
      rw [Int.mul_zero, Int.add_zero]; rfl
    rw [e]
    exact end_rt hr
end

section
variable [KC] {m : Mo}
def cellAt (ns : List Int) (k : Int) : Int := ns.getD k.toNat 0
def K_Lcell_at : Cn := fun ss rin res _ => ∃ (ns : List Int) (k : Int), ss = [.d (.list (ns.map .int)), .d (.int k)] ∧ rin = [] ∧ 0 ≤ k ∧ res (.d (.int (cellAt ns k))) []
theorem ok_Lcell_at (hK : m.K = KC.K) (bl : Bl m.mg) {f fd} (F : Fun m.K "_law_cell_at" "_law_cell_at" s_Lcell_at f fd) :
    FnOk m.P m.w m.K m.mg m.base (L2.CX m.P m.w) 1 f fd ["_law_script", "_law_k"] (spC K_Lcell_at) := by
  refine fn_ok F f_Lcell_at e_Lcell_at bl hK (by rintro _ _ _ _ ⟨_, _, rfl, _⟩; rfl) 0 rfl ?_
  rintro ss rin fr res exc c hC
  obtain ⟨ns, k, rfl, rfl, hk, hr⟩ := hC
  unfold cellAt at hr
  walk_at "st"; walk_at "go"
  rw [List.length_map]
  refine ite_d (fun h => ?_) (fun h => ?_)
  · obtain ⟨v, hv, hg⟩ := atI_ints (xs := ns) (i := k) ⟨hk, h⟩
    rw [List.getD_eq_getElem?_getD, hg] at hr
    walk_at "go"
    exact end_rt hr
  · rw [List.getD_eq_getElem?_getD, List.getElem?_eq_none (l := ns) (i := k.toNat) (by omega)] at hr
    walk_at "go"
    exact end_rt hr
end

section
variable [KC] {m : Mo}
theorem let_at {i : Int} (h : 0 ≤ i ∧ i < 26) : atI letters.cps.toList i = some (letAt i) := by
  obtain ⟨v, h1, h2⟩ := atI_in (xs := letters.cps.toList) (i := i) (by rw [let_len]; exact h)
  unfold letAt
  rw [h1, List.getD_eq_getElem?_getD, h2]; rfl
def lsz (c : Int) : Int := 1 + c % 8
def lspot (c : Int) : Int := c / 8 % (1 + c % 8)
def lsg0 (c k : Int) : Int := (c / 512 + 3 * k * k + k) * 48271 % 7919 % 26
def lsg (c t k : Int) : Int := if k = lspot c ∧ c / 64 % 3 ≠ 1 then (lsg0 c k + t) % 26 else lsg0 c k
def name8 (c t : Int) (n : Nat) : Str := ⟨((List.range n).map fun k : Nat => letAt (lsg c t k)).toArray⟩
theorem name8_len (c t : Int) (n : Nat) : (name8 c t n).length = n := by
  show (List.toArray _).size = _
  simp
theorem name8_succ (c t : Int) (n : Nat) : name8 c t (n + 1) = name8 c t n ++ ⟨#[letAt (lsg c t n)]⟩ := by
  refine str_ext ?_
  show ((List.range (n + 1)).map _) = (_ ++ _ : Array Nat).toList
  rw [List.range_succ, List.map_append, Array.toList_append]
  rfl
def lname (c t : Int) : Str := if c / 64 % 3 = 1 then cutS (name8 c t 8) none (some (1 + (c + t) % 8)) else cutS (name8 c t 8) none (some (1 + c % 8))
def K_Lname : Cn := fun ss rin res _ => ∃ c t : Int, ss = [.d (.int c), .d (.int t)] ∧ rin = [] ∧ (0 ≤ t ∧ t ≤ 100) ∧ res (.d (.str (lname c t))) []
theorem ok_Lname (hK : m.K = KC.K) (bl : Bl m.mg) {f fd} (F : Fun m.K "_law_name" "_law_name" s_Lname f fd) :
    FnOk m.P m.w m.K m.mg m.base (L2.CX m.P m.w) 1 f fd ["_law_cell", "_law_turn"] (spC K_Lname) := by
  refine fn_ok F f_Lname e_Lname bl hK (by rintro _ _ _ _ ⟨_, _, rfl, _⟩; rfl) 6 rfl ?_
  rintro ss rin fr res exc c hC
  obtain ⟨c', t, rfl, rfl, ht, hr⟩ := hC
  have hll : letters.length ≤ 100000 := by decide +kernel
  have hn8 := name8_len c' t 8
  have hl8 : (name8 c' t 8).length ≤ 100000 := by omega
  walk_at "st"; walk_at "go"
  rw [show ("abcdefghijklmnopqrstuvwxyz" : Str) = letters from rfl]
  refine ds_for (by walk_at "ix") (di_range1 ?_)
  walk_at "go"
  refine ⟨_, rfl, by omega, Nat, List.range 8, fun k => .d (.int (0 + (k : Nat))), rfl, Nat, fun n => [.d (.int c'), .d (.int t), .d (.str letters), .d (.int (lsz c')), .d (.int (lspot c')), .d (.str (name8 c' t n)), .un, .un], fun _ => [fr], fun pre n => n = pre.length,
    ⟨0, rfl, by walk_at "le0", rfl⟩, fun _ _ _ => trivial, ?_, ?_⟩
  · rintro pre k post n e rfl
    obtain ⟨ek, hk⟩ := range_split e
    rw [ek]
    have hnl := name8_len c' t pre.length
    have hs : name8 c' t (pre.length + 1) = name8 c' t pre.length ++ ⟨#[letAt (lsg c' t (0 + (pre.length : Int)))]⟩ := by rw [Int.zero_add]; exact name8_succ c' t pre.length
    unfold lsg lsg0 lspot at hs
    have q1 := let_at (i := (c' / 512 + 3 * (0 + (pre.length : Int)) * (0 + (pre.length : Int)) + (0 + (pre.length : Int))) * 48271 % 7919 % 26) ⟨by omega, by omega⟩
    have q2 := let_at (i := ((c' / 512 + 3 * (0 + (pre.length : Int)) * (0 + (pre.length : Int)) + (0 + (pre.length : Int))) * 48271 % 7919 % 26 + t) % 26) ⟨by omega, by omega⟩
    have l1 : (⟨#[letAt ((c' / 512 + 3 * (0 + (pre.length : Int)) * (0 + (pre.length : Int)) + (0 + (pre.length : Int))) * 48271 % 7919 % 26)]⟩ : Str).length = 1 := rfl
    have l2 : (⟨#[letAt (((c' / 512 + 3 * (0 + (pre.length : Int)) * (0 + (pre.length : Int)) + (0 + (pre.length : Int))) * 48271 % 7919 % 26 + t) % 26)]⟩ : Str).length = 1 := rfl
    refine ⟨_, by walk_at "set", ?_⟩
    unfold lspot lsz
    walk_at "auto"
    · rename_i h1 h2
      rw [if_pos ⟨h1, h2⟩] at hs
      rw [← hs]
      exact ⟨pre.length + 1, by rw [List.length_append]; rfl, by walk_at "le", rfl⟩
    · rename_i h1 h2
      rw [if_neg fun z => z.2 h2] at hs
      rw [← hs]
      exact ⟨pre.length + 1, by rw [List.length_append]; rfl, by walk_at "le", rfl⟩
    · rename_i h1
      rw [if_neg fun z => h1 z.1] at hs
      rw [← hs]
      exact ⟨pre.length + 1, by rw [List.length_append]; rfl, by walk_at "le", rfl⟩
  · rintro n rfl
    rw [List.length_range]
    unfold lspot lsz
    walk_at "auto"
    · rename_i h
      unfold lname at hr
      rw [if_pos h] at hr
      exact end_rt hr
    · rename_i h
      unfold lname at hr
      rw [if_neg h] at hr
      exact end_rt hr
theorem letAt_ok {i : Int} (h : 0 ≤ i ∧ i < 26) : letAt i < 1114112 := by
  obtain ⟨v, h1, h2⟩ := atI_in (xs := letters.cps.toList) (i := i) (by rw [let_len]; exact h)
  unfold letAt
  rw [List.getD_eq_getElem?_getD, h2]
  have let_ok : ∀ n ∈ letters.cps.toList, n < 1114112 := by decide +kernel
  exact let_ok v (List.mem_of_getElem? h2)
theorem lsg_in (c t k : Int) : 0 ≤ lsg c t k ∧ lsg c t k < 26 := by
  unfold lsg lsg0
  split <;> omega
theorem name8_ok (c t : Int) (n : Nat) : PyData.strOk (name8 c t n) = true := ok_mk fun k hk => by
  obtain ⟨i, _, rfl⟩ := List.mem_map.mp hk
  exact letAt_ok (lsg_in c t i)
end

section
variable [KC] {m : Mo} {C : Addr} {E : Str → Addr}
structure RwOk (rows : List (List Int)) : Prop where
  pos : 1 ≤ rows.length
  few : rows.length ≤ 64
  four : ∀ r ∈ rows, r.length = 4
theorem lrow_len (c : Int) : (lrow c).length = 4 := rfl
def K_Lrows : Cn := fun ss rin res _ => ∃ c : Int, ss = [.d (.int c)] ∧ rin = [] ∧ (-BM ≤ c ∧ c ≤ BM) ∧ ∀ rows : List (List Int), RwOk rows → res (.n (rwsD rows)) []
theorem ok_Lrows (hK : m.K = KC.K) (bl : Bl m.mg) {f fd} (F : Fun m.K "_law_rows" "_law_rows" s_Lrows f fd) (h1 : FnIs m "_law_row" 2 K_Lrow) :
    FnOk m.P m.w m.K m.mg m.base (L2.CX m.P m.w) 3 f fd ["_law_cell"] (spC K_Lrows) := by
  refine fn_ok F f_Lrows e_Lrows bl hK (by rintro _ _ _ _ ⟨_, rfl, _⟩; rfl) 2 rfl ?_
  rintro ss rin fr res exc c hC
  obtain ⟨c', rfl, rfl, hc, hr⟩ := hC
  have hm := bm_big
  walk_at "nrm"
  refine dss_cut (I := fun ρ' r' => ρ' = [.d (.int c'), .d (.int (1 + c' % 4)), .un] ∧ r' = [fr]) (by walk_at "go"; exact ⟨rfl, rfl⟩) ?_
  rintro _ _ ⟨rfl, rfl⟩
  refine dss_cut (I := fun ρ' r' => ∃ my : Int, (1 ≤ my ∧ my ≤ 64) ∧ ρ' = [.d (.int c'), .d (.int my), .un] ∧ r' = [fr]) ?_ ?_
  · walk_at "go"
    refine ite_d (fun h => ?_) (fun h => ?_)
    · walk_at "go"
      exact ⟨_, by omega, rfl, rfl⟩
    · walk_at "go"
      exact ⟨_, by omega, rfl, rfl⟩
  rintro _ _ ⟨my, hmy, rfl, rfl⟩
  refine dss_cons (ds_ret (dx_lc0 (by walk_at "ix") (blkOk_by (by decide +kernel)) (di_range1 ?_)))
  walk_at "go"
  refine ⟨_, rfl, by omega, Nat, List.range my.toNat, fun k => .d (.int (0 + (k : Nat))), fun k => rwD (lrow (c' + 97 * (0 + (k : Int)))), rfl, fun A => trivial, by rw [List.length_range]; omega, ⟨_, by walk_at "set", fun k hk => ⟨_, by walk_at "set", ?_⟩⟩, ?_⟩
  · intro A s0 H0 C0 cl0 fp0 hso
    rw [List.mem_range] at hk
    have hcond : -(4 * BM) ≤ c' + 97 * (0 + (k : Int)) ∧ c' + 97 * (0 + (k : Int)) ≤ 4 * BM := by omega
    walk_at "go"
    exact ⟨rfl, rfl⟩
  · rw [show (List.range my.toNat).map (fun k : Nat => rwD (lrow (c' + 97 * (0 + (k : Int))))) = rwsD ((List.range my.toNat).map fun k : Nat => lrow (c' + 97 * (0 + (k : Int)))) by unfold rwsD; rw [List.map_map]; rfl]
    refine end_rt (hr _ ⟨?_, ?_, ?_⟩)
    · rw [List.length_map, List.length_range]; omega
    · rw [List.length_map, List.length_range]; omega
    · intro r hr
      obtain ⟨k, _, rfl⟩ := List.mem_map.mp hr
      rfl
inductive Way | make | size | row | store | drop
def Way.s : Way → Str
  | .make => "make" | .size => "size" | .row => "row" | .store => "store" | .drop => "drop"
def errL (k : Nat) : List PyData := [.bool (k == 0), .bool (k == 1), .bool (k == 2), .bool true, .bool false]
def dueL : Option Nat → List PyData
  | none => []
  | some k => errL k
inductive Due (w : Way) (s : Str) (pg : Int) (fs : List Frow) : Option Nat → Prop
  | taken : w = .make → s ∈ fs.map (·.1) → Due w s pg fs (some 2)
  | nofile : w ≠ .make → s ∉ fs.map (·.1) → Due w s pg fs (some 0)
  | nopage (i : Nat) (r : List (List Int)) : w = .row ∨ w = .store → fs[i]? = some (s, r) → (r.length : Nat) ≤ pg → Due w s pg fs (some 1)
  | okmake : w = .make → s ∉ fs.map (·.1) → Due w s pg fs none
  | ok (i : Nat) (r : List (List Int)) : w ≠ .make → fs[i]? = some (s, r) → (w = .row ∨ w = .store → pg < (r.length : Nat)) → Due w s pg fs none
abbrev plD (w : Addr) (l : List (Frow × Addr)) : Mem := dictM w (l.map kvF)
theorem pl_out {a : Addr} {l : List (Frow × Addr)} {rs : List Mem} {i : Nat} {x : Frow × Addr} (hi : l[i]? = some x) : Ent (plD a l :: famM rlM l :: rs) (rlM x :: famM rlM (l.take i ++ l.drop (i + 1)) :: plD a l :: rs) := (SE.trans .swap (se_out hi)).ent
theorem pl_back {a : Addr} {l : List (Frow × Addr)} {rs : List Mem} {i : Nat} {x : Frow × Addr} (hi : l[i]? = some x) : Ent (rlM x :: famM rlM (l.take i ++ l.drop (i + 1)) :: plD a l :: rs) (plD a l :: famM rlM l :: rs) := ((se_back (f := rlM) hi).trans .swap).ent
def K_Ldue : Cn := fun ss rin res _ => ∃ (w : Addr) (l : List (Frow × Addr)) (y : Way) (s : Str) (pg : Int), ss = [.r (.ref w), .d (.str y.s), .d (.str s), .d (.int pg)] ∧ rin = [plD w l, famM rlM l] ∧ FiOk (l.map (·.1)) ∧ ∀ k, Due y s pg (l.map (·.1)) k → res (.n (dueL k)) [plD w l, famM rlM l]
theorem ok_Ldue (hK : m.K = KC.K) (bl : Bl m.mg) {f fd} (F : Fun m.K "_law_due" "_law_due" s_Ldue f fd) :
    FnOk m.P m.w m.K m.mg m.base (L2.CX m.P m.w) 1 f fd ["_law_plain", "_law_way", "_law_name_here", "_law_page"] (spC K_Ldue) := by
  refine fn_ok F f_Ldue e_Ldue bl hK (by rintro _ _ _ _ ⟨_, _, _, _, _, rfl, _⟩; rfl) 0 rfl ?_
  rintro ss rin fr res exc c hC
  obtain ⟨w, l, y, s, pg, rfl, rfl, ho, hr⟩ := hC
  have ek : l.map (·.1.1) = (l.map (·.1)).map (·.1) := fk_of rfl
  have hnl := ho.nl rfl
  walk_at "nrm"
  by_cases hs : s ∈ (l.map (·.1)).map (·.1)
  · have hsi : (valS (l.map kvF) (.inr s)).isSome = true := by rw [fk_some, ek]; exact decide_eq_true hs
    obtain ⟨i, r, hi⟩ := fl_key hs
    obtain ⟨a, hi2⟩ := fl_at rfl hi
    have hv := fk_at hnl hi2
    have hlen : (((rwsD r).map Sl.d).length : Nat) = r.length := by rw [List.length_map, rwsD_len]
    refine dss_ent (pl_out hi2) ?_
    cases y
    · unfold Way.s
      walk_at "st"; walk_at "go"
      rw [hsi]
      walk_at "go"
      exact fin [plD w l, famM rlM l] (pl_back hi2) (hr _ (.taken rfl hs))
    all_goals
      unfold Way.s
      walk_at "st"; walk_at "go"
      rw [hsi]
      walk_at "go"
      refine od_inl rfl rfl rfl ?_
    · rw [show (List.any [PyData.str "row", PyData.str "store"] fun y => eqF y (.str "size")) = false by decide +kernel]
      walk_at "go"
      exact fin [plD w l, famM rlM l] (pl_back hi2) (hr _ (.ok i r (fun e => nomatch e) hi (fun e => e.elim (fun e => nomatch e) (fun e => nomatch e))))
    · rw [show (List.any [PyData.str "row", PyData.str "store"] fun y => eqF y (.str "row")) = true by decide +kernel]
      walk_at "go"
      refine ite_d (fun h => ?_) (fun h => ?_)
      · walk_at "go"
        exact fin [plD w l, famM rlM l] (pl_back hi2) (hr _ (.nopage i r (.inl rfl) hi (by omega)))
      · walk_at "go"
        exact fin [plD w l, famM rlM l] (pl_back hi2) (hr _ (.ok i r (fun e => nomatch e) hi (fun _ => by omega)))
    · rw [show (List.any [PyData.str "row", PyData.str "store"] fun y => eqF y (.str "store")) = true by decide +kernel]
      walk_at "go"
      refine ite_d (fun h => ?_) (fun h => ?_)
      · walk_at "go"
        exact fin [plD w l, famM rlM l] (pl_back hi2) (hr _ (.nopage i r (.inr rfl) hi (by omega)))
      · walk_at "go"
        exact fin [plD w l, famM rlM l] (pl_back hi2) (hr _ (.ok i r (fun e => nomatch e) hi (fun _ => by omega)))
    · rw [show (List.any [PyData.str "row", PyData.str "store"] fun y => eqF y (.str "drop")) = false by decide +kernel]
      walk_at "go"
      exact fin [plD w l, famM rlM l] (pl_back hi2) (hr _ (.ok i r (fun e => nomatch e) hi (fun e => e.elim (fun e => nomatch e) (fun e => nomatch e))))
  · have hsi : (valS (l.map kvF) (.inr s)).isSome = false := by rw [fk_some, ek]; exact decide_eq_false hs
    cases y
    · unfold Way.s
      walk_at "st"; walk_at "go"
      rw [hsi]
      walk_at "go"
      refine od_inl rfl rfl rfl ?_
      rw [show (List.any [PyData.str "row", PyData.str "store"] fun y => eqF y (.str "make")) = false by decide +kernel]
      walk_at "go"
      exact fin [plD w l, famM rlM l] ent_refl (hr _ (.okmake rfl hs))
    all_goals
      unfold Way.s
      walk_at "st"; walk_at "go"
      rw [hsi]
      walk_at "go"
      exact fin [plD w l, famM rlM l] ent_refl (hr _ (.nofile (fun e => nomatch e) hs))
end

section
variable [KC] {m : Mo} {C : Addr} {E : Str → Addr}
def AskOk (y : Way) (s : Str) (pg : Int) (fs : List Frow) (rows : List (List Int)) (R : Sl → List Mem → List Frow → Prop) : Prop := match y with
  | .make => R (.d .none) [] (fs ++ [(s, rows)])
  | .size => ∀ (i : Nat) (r : List (List Int)), fs[i]? = some (s, r) → R (.d (.int (r.length : Nat))) [] fs
  | .row => ∀ (i : Nat) (r : List (List Int)) (row : List Int) (q : Addr), fs[i]? = some (s, r) → r[pg.toNat]? = some row → R (.r (.ref q)) [riM row q] fs
  | .store => ∀ (i : Nat) (r : List (List Int)) (r0 : List Int), fs[i]? = some (s, r) → pg < (r.length : Nat) → rows[0]? = some r0 → R (.d .none) [] (fs.set i (s, r.set pg.toNat r0))
  | .drop => ∀ (i : Nat) (r : List (List Int)), fs[i]? = some (s, r) → R (.d .none) [] (fs.take i ++ fs.drop (i + 1))
theorem rw_first {rows : List (List Int)} (h : RwOk rows) {l2 : List (List Int × Addr)} (hl : l2.map (·.1) = rows) : ∃ r0 b, rows[0]? = some r0 ∧ l2[0]? = some (r0, b) := by
  have := h.pos
  cases l2 with
  | nil => subst hl; simp at this
  | cons x l2 => subst hl; exact ⟨x.1, x.2, rfl, rfl⟩
theorem rw_open {A : Mem} {h : Addr} {l2 : List (List Int × Addr)} {r0 : List Int} {b : Addr} {rs : List Mem} (hb : l2[0]? = some (r0, b)) : Ent (A :: lstM h (l2.map fun x => .r (.ref x.2)) :: famM (fun x : List Int × Addr => riM x.1 x.2) l2 :: rs) (riM r0 b :: famM (fun x : List Int × Addr => riM x.1 x.2) (l2.take 0 ++ l2.drop (0 + 1)) :: A :: lstM h (l2.map fun x => .r (.ref x.2)) :: rs) :=
  ((SE.cons .swap).trans (.trans .swap (se_out (f := fun x : List Int × Addr => riM x.1 x.2) hb))).ent
theorem rw_at {l2 : List (List Int × Addr)} {r0 : List Int} {b : Addr} (hb : l2[0]? = some (r0, b)) : atI (l2.map fun x => Sl.r (.ref x.2)) 0 = some (.r (.ref b)) := by
  obtain ⟨hk, _⟩ := List.getElem?_eq_some_iff.mp hb
  obtain ⟨v, h1, h2⟩ := atI_in (xs := l2.map fun x => Sl.r (.ref x.2)) (i := 0) (by rw [List.length_map]; omega)
  rw [h1, ← h2, Int.toNat_zero, List.getElem?_map, hb]; rfl
theorem rw_close {A B : Mem} {h : Addr} {rows : List (List Int)} {l2 : List (List Int × Addr)} (hl : l2.map (·.1) = rows) {r0 : List Int} {b : Addr} {rs : List Mem} (hb : l2[0]? = some (r0, b)) : Ent (riM r0 b :: famM (fun x : List Int × Addr => riM x.1 x.2) (l2.take 0 ++ l2.drop (0 + 1)) :: lstM h (l2.map fun x => .r (.ref x.2)) :: A :: B :: rs) (A :: B :: rwI h rows :: rs) :=
  ent_trans ((se_back (f := fun x : List Int × Addr => riM x.1 x.2) hb).trans ((SE.cons .swap).trans (SE.swap.trans ((SE.cons (SE.cons .swap)).trans ((SE.cons .swap).trans (SE.cons (SE.cons .swap))))))).ent (ent_box (fam := colF h riM rows) (q := ⟨l2, hl⟩) [A, B] rs)
def K_Lasked (C : Addr) : Cn := fun ss rin res _ => ∃ (p h : Addr) (fs : List Frow) (rows : List (List Int)) (y : Way) (s : Str) (pg : Int) (k : Option Nat), ss = [.r (.ref p), .d (.str y.s), .d (.str s), .d (.int pg), .r (.ref h)] ∧ rin = [filM C p fs, rwI h rows] ∧ (FiOk fs ∧ RwOk rows ∧ 0 ≤ pg ∧ Due y s pg fs k) ∧
  (∀ j t, k = some j → res (.r (.ref t)) [tupM t [.d .none, .d (.list (errL j))], filM C p fs, rwI h rows]) ∧
  (k = none → AskOk y s pg fs rows fun found ms fs2 => ∀ t, res (.r (.ref t)) (tupM t [found, .d (.list [])] :: (ms ++ [filM C p fs2, rwI h rows])))
theorem ok_Lasked (hK : m.K = KC.K) (bl : Bl m.mg) {f fd} (F : Fun m.K "_law_asked" "_law_asked" s_Lasked f fd) (er : Errs m E raD tsD) (hVE : m.mg "ValueError" = none) (oc : ObjC m C ["my_files"])
    (h1 : MtIs m C "make" 1 (K_Files_makeR C E)) (h2 : MtIs m C "size_of" 1 (K_Files_size_of C E)) (h3 : MtIs m C "row_at" 3 (K_Files_row_at C E)) (h4 : MtIs m C "store_row" 3 (K_Files_store_rowR C E)) (h5 : MtIs m C "drop" 1 (K_Files_drop C E)) :
    FnOk m.P m.w m.K m.mg m.base (L2.CX m.P m.w) 4 f fd ["_law_files", "_law_way", "_law_name_here", "_law_page", "_law_rows_here"] (spC (K_Lasked C)) := by
  refine fn_ok F f_Lasked e_Lasked bl hK (by rintro _ _ _ _ ⟨_, _, _, _, _, _, _, _, rfl, _⟩; rfl) 5 rfl ?_
  rintro ss rin fr res exc c hC
  obtain ⟨p, h, fs, rows, y, s, pg, k, rfl, rfl, ⟨ho, hrw, hpg, hdue⟩, hx, hr⟩ := hC
  walk_at "st"; walk_at "go"
  refine ds_set (dx_lst ?_)
  walk_at "go"
  refine ds_try er (by decide +kernel) (by walk_at "ix") fun c' => ?_
  cases hdue with
  | taken hy hs =>
    subst hy
    unfold Way.s
    walk_at "st"; walk_at "go"
    refine ce_gr (rin := [filM C p fs, rwI h rows]) (grab2 (by walk_at "pick") (by walk_at "pick2")) ⟨p, h, fs, s, rows, rfl, rfl, ⟨ho, by have := hrw.few; omega⟩, fun hn => absurd hs hn, fun _ => ?_⟩
    dsimp only [List.nil_append, List.cons_append]
    refine catch_of (by decide +kernel) fun a c2 A => ⟨_, _, by walk_at "set", ?_⟩
    walk_at "go"
    exact ⟨Nat.le_of_ble_eq_true rfl, fun t => fin [tupM t [.d .none, .d (.list (errL 2))], filM C p fs, rwI h rows] ent_refl (hx 2 t rfl)⟩
  | nofile hy hs =>
    cases y
    · exact absurd rfl hy
    · unfold Way.s
      walk_at "st"; walk_at "go"
      refine ⟨fun i r hi => absurd (fl_mem hi) hs, fun _ => ?_⟩
      refine catch_of (by decide +kernel) fun a c2 A => ⟨_, _, by walk_at "set", ?_⟩
      walk_at "go"
      exact ⟨Nat.le_of_ble_eq_true rfl, fun t => fin [tupM t [.d .none, .d (.list (errL 0))], filM C p fs, rwI h rows] ent_refl (hx 0 t rfl)⟩
    · unfold Way.s
      walk_at "st"; walk_at "go"
      refine ⟨fun i r hi => absurd (fl_mem hi) hs, fun _ => ?_⟩
      refine catch_of (by decide +kernel) fun a c2 A => ⟨_, _, by walk_at "set", ?_⟩
      walk_at "go"
      exact ⟨Nat.le_of_ble_eq_true rfl, fun t => fin [tupM t [.d .none, .d (.list (errL 0))], filM C p fs, rwI h rows] ent_refl (hx 0 t rfl)⟩
    · unfold Way.s
      refine dss_open (fam := colF h riM rows) [filM C p fs] fun z => ?_
      obtain ⟨l2, hl2⟩ := z
      obtain ⟨r0, b, hr0, hb⟩ := rw_first hrw hl2
      dsimp only [colF, List.nil_append, List.cons_append]
      refine dss_ent (rw_open hb) ?_
      have hat := rw_at hb
      walk_at "st"; walk_at "go"
      refine ce_gr (rin := [filM C p fs, riM r0 b]) (grab2 (by walk_at "pick") (by walk_at "pick2")) ⟨p, b, fs, s, pg, r0, rfl, rfl, ⟨ho, hpg⟩, fun i r hi => absurd (fl_mem hi) hs, fun _ => ?_⟩
      dsimp only [List.nil_append, List.cons_append]
      refine catch_of (by decide +kernel) fun a c2 A => ⟨_, _, by walk_at "set", ?_⟩
      walk_at "go"
      exact ⟨Nat.le_of_ble_eq_true rfl, fun t => fin [tupM t [.d .none, .d (.list [.bool true, .bool false, .bool false, .bool true, .bool false])], filM C p fs, rwI h rows] (ent_trans (ent_has (by walk_at "grab")) (rw_close hl2 hb)) (hx 0 t rfl)⟩
    · unfold Way.s
      walk_at "st"; walk_at "go"
      refine ⟨fun i r hi => absurd (fl_mem hi) hs, fun _ => ?_⟩
      refine catch_of (by decide +kernel) fun a c2 A => ⟨_, _, by walk_at "set", ?_⟩
      walk_at "go"
      exact ⟨Nat.le_of_ble_eq_true rfl, fun t => fin [tupM t [.d .none, .d (.list (errL 0))], filM C p fs, rwI h rows] ent_refl (hx 0 t rfl)⟩
  | nopage i r hy hi hl =>
    rcases hy with hy | hy
    · subst hy
      unfold Way.s
      walk_at "st"; walk_at "go"
      refine ⟨fun i2 r2 hi2 => ⟨fun row hrow => ?_, fun _ => ?_⟩, fun hn => absurd (fl_mem hi) hn⟩
      · obtain ⟨_, rfl⟩ := fl_uniq ho hi hi2
        rw [List.getElem?_eq_none (by omega)] at hrow
        cases hrow
      refine catch_of (by decide +kernel) fun a c2 A => ⟨_, _, by walk_at "set", ?_⟩
      walk_at "go"
      exact ⟨Nat.le_of_ble_eq_true rfl, fun t => fin [tupM t [.d .none, .d (.list (errL 1))], filM C p fs, rwI h rows] ent_refl (hx 1 t rfl)⟩
    · subst hy
      unfold Way.s
      refine dss_open (fam := colF h riM rows) [filM C p fs] fun z => ?_
      obtain ⟨l2, hl2⟩ := z
      obtain ⟨r0, b, hr0, hb⟩ := rw_first hrw hl2
      dsimp only [colF, List.nil_append, List.cons_append]
      refine dss_ent (rw_open hb) ?_
      have hat := rw_at hb
      walk_at "st"; walk_at "go"
      refine ce_gr (rin := [filM C p fs, riM r0 b]) (grab2 (by walk_at "pick") (by walk_at "pick2")) ⟨p, b, fs, s, pg, r0, rfl, rfl, ⟨ho, hpg⟩, fun i2 r2 hi2 => ⟨fun hk => ?_, fun _ => ?_⟩, fun hn => absurd (fl_mem hi) hn⟩
      · obtain ⟨_, rfl⟩ := fl_uniq ho hi hi2
        omega
      dsimp only [List.nil_append, List.cons_append]
      refine catch_of (by decide +kernel) fun a c2 A => ⟨_, _, by walk_at "set", ?_⟩
      walk_at "go"
      exact ⟨Nat.le_of_ble_eq_true rfl, fun t => fin [tupM t [.d .none, .d (.list [.bool false, .bool true, .bool false, .bool true, .bool false])], filM C p fs, rwI h rows] (ent_trans (ent_has (by walk_at "grab")) (rw_close hl2 hb)) (hx 1 t rfl)⟩
  | okmake hy hs =>
    subst hy
    unfold Way.s
    walk_at "st"; walk_at "go"
    refine ce_gr (rin := [filM C p fs, rwI h rows]) (grab2 (by walk_at "pick") (by walk_at "pick2")) ⟨p, h, fs, s, rows, rfl, rfl, ⟨ho, by have := hrw.few; omega⟩, fun _ => ?_, fun hn => absurd hn hs⟩
    dsimp only [List.nil_append, List.cons_append]
    walk_at "go"
    exact ⟨Nat.le_of_ble_eq_true rfl, fun t => fin [tupM t [.d .none, .d (.list [])], filM C p _, rwI h rows] ent_refl (hr rfl t)⟩
  | ok i r hy hi hl =>
    cases y
    · exact absurd rfl hy
    · unfold Way.s
      walk_at "st"; walk_at "go"
      refine ⟨fun i2 r2 hi2 => ?_, fun hn => absurd (fl_mem hi) hn⟩
      walk_at "go"
      exact ⟨Nat.le_of_ble_eq_true rfl, fun t => fin [tupM t [.d (.int (r2.length : Nat)), .d (.list [])], filM C p fs, rwI h rows] ent_refl (hr rfl i2 r2 hi2 t)⟩
    · unfold Way.s
      walk_at "st"; walk_at "go"
      refine ⟨fun i2 r2 hi2 => ⟨fun row hrow q => ?_, fun hk => ?_⟩, fun hn => absurd (fl_mem hi) hn⟩
      · walk_at "go"
        exact ⟨Nat.le_of_ble_eq_true rfl, fun t => fin [tupM t [.r (.ref q), .d (.list [])], riM row q, filM C p fs, rwI h rows] ent_refl (hr rfl i2 r2 row q hi2 hrow t)⟩
      · obtain ⟨_, rfl⟩ := fl_uniq ho hi hi2
        have := hl (.inl rfl)
        omega
    · unfold Way.s
      refine dss_open (fam := colF h riM rows) [filM C p fs] fun z => ?_
      obtain ⟨l2, hl2⟩ := z
      obtain ⟨r0, b, hr0, hb⟩ := rw_first hrw hl2
      dsimp only [colF, List.nil_append, List.cons_append]
      refine dss_ent (rw_open hb) ?_
      have hat := rw_at hb
      walk_at "st"; walk_at "go"
      refine ce_gr (rin := [filM C p fs, riM r0 b]) (grab2 (by walk_at "pick") (by walk_at "pick2")) ⟨p, b, fs, s, pg, r0, rfl, rfl, ⟨ho, hpg⟩, fun i2 r2 hi2 => ⟨fun hk => ?_, fun hk => ?_⟩, fun hn => absurd (fl_mem hi) hn⟩
      · dsimp only [List.nil_append, List.cons_append]
        walk_at "go"
        exact ⟨Nat.le_of_ble_eq_true rfl, fun t => fin [tupM t [.d .none, .d (.list [])], filM C p (fs.set i2 (s, r2.set pg.toNat r0)), rwI h rows] (ent_trans (ent_has (by walk_at "grab")) (rw_close hl2 hb)) (hr rfl i2 r2 r0 hi2 hk hr0 t)⟩
      · obtain ⟨_, rfl⟩ := fl_uniq ho hi hi2
        have := hl (.inr rfl)
        omega
    · unfold Way.s
      walk_at "st"; walk_at "go"
      refine ⟨fun i2 r2 hi2 => ?_, fun hn => absurd (fl_mem hi) hn⟩
      walk_at "go"
      exact ⟨Nat.le_of_ble_eq_true rfl, fun t => fin [tupM t [.d .none, .d (.list [])], filM C p _, rwI h rows] ent_refl (hr rfl i2 r2 hi2 t)⟩
end

section
variable [KC] {m : Mo} {C : Addr} {E : Str → Addr}
def DoneR (y : Way) (s : Str) (pg : Int) (l : List (Frow × Addr)) (rows : List (List Int)) (R : Sl → List (Frow × Addr) → Prop) : Prop := match y with
  | .make => ∀ a : Addr, R (.d .none) (l ++ [((s, rows), a)])
  | .size => ∀ (i : Nat) (r : List (List Int)), (l.map (·.1))[i]? = some (s, r) → R (.d (.int (r.length : Nat))) l
  | .row => ∀ (i : Nat) (r : List (List Int)) (row : List Int), (l.map (·.1))[i]? = some (s, r) → r[pg.toNat]? = some row → R (.n (row.map .int)) l
  | .store => ∀ (i : Nat) (r : List (List Int)) (r0 : List Int) (a : Addr), l[i]? = some ((s, r), a) → rows[0]? = some r0 → R (.d .none) (l.set i ((s, r.set pg.toNat r0), a))
  | .drop => ∀ (i : Nat) (r : List (List Int)), (l.map (·.1))[i]? = some (s, r) → R (.d .none) (l.take i ++ l.drop (i + 1))
theorem pl_in {a a2 : Addr} {l : List (Frow × Addr)} {rs : List Mem} {i : Nat} {s : Str} {r r2 : List (List Int)} (hi : l[i]? = some ((s, r), a2)) : Ent (rlM ((s, r2), a2) :: famM rlM (l.take i ++ l.drop (i + 1)) :: plD a l :: rs) (plD a (l.set i ((s, r2), a2)) :: famM rlM (l.set i ((s, r2), a2)) :: rs) := by
  obtain ⟨hk, _⟩ := List.getElem?_eq_some_iff.mp hi
  refine ent_trans ((se_in (f := rlM) (y := ((s, r2), a2)) hk).trans .swap).ent ?_
  unfold plD
  rw [fk_set (r2 := r2) hi]
  exact ent_refl
def K_Ldone : Cn := fun ss rin res _ => ∃ (w : Addr) (l : List (Frow × Addr)) (y : Way) (s : Str) (pg : Int) (rows : List (List Int)), ss = [.r (.ref w), .d (.str y.s), .d (.str s), .d (.int pg), .d (.list (rwsD rows))] ∧ rin = [plD w l, famM rlM l] ∧ (FiOk (l.map (·.1)) ∧ RwOk rows ∧ 0 ≤ pg ∧ Due y s pg (l.map (·.1)) none) ∧
  DoneR y s pg l rows fun found l2 => res found [plD w l2, famM rlM l2]
theorem ok_Ldone (hK : m.K = KC.K) (bl : Bl m.mg) {f fd} (F : Fun m.K "_law_done" "_law_done" s_Ldone f fd) :
    FnOk m.P m.w m.K m.mg m.base (L2.CX m.P m.w) 1 f fd ["_law_plain", "_law_way", "_law_name_here", "_law_page", "_law_rows_here"] (spC K_Ldone) := by
  refine fn_ok F f_Ldone e_Ldone bl hK (by rintro _ _ _ _ ⟨_, _, _, _, _, _, rfl, _⟩; rfl) 1 rfl ?_
  rintro ss rin fr res exc c hC
  obtain ⟨w, l, y, s, pg, rows, rfl, rfl, ⟨ho, hrw, hpg, hdue⟩, hr⟩ := hC
  have ek : l.map (·.1.1) = (l.map (·.1)).map (·.1) := fk_of rfl
  have hnl := ho.nl rfl
  obtain ⟨pg, rfl⟩ := Int.eq_ofNat_of_zero_le hpg
  walk_at "nrm"
  cases hdue with
  | okmake hy hs =>
    subst hy
    have hr : ∀ a, res (.d .none) _ := hr
    have hll : (l.map kvF).length ≤ 100000 := by
      have := ho.few
      rw [List.length_map] at this ⊢
      omega
    have hn := hrw.few
    unfold Way.s
    walk_at "st"; walk_at "go"
    refine dx_lc0O (by walk_at "ix") (blkOk_by (by decide +kernel)) (di_list ?_)
    walk_at "go"
    refine ⟨List Int, rows, fun r => .d (rwD r), rwD, by unfold rwsD; rw [List.map_map]; rfl, fun A => trivial, by omega, ⟨_, by walk_at "set", fun r hr => ⟨_, by walk_at "set", ?_⟩⟩, fun D => ?_⟩
    · intro A s0 H0 C0 cl0 fp0 hso
      unfold rwD
      walk_at "go"
      exact ⟨rfl, rfl⟩
    rw [show rows.map rwD = rwsD rows from rfl]
    walk_at "go"
    refine fin [plD w (l ++ [((s, rows), D)]), famM rlM (l ++ [((s, rows), D)])] (ent_trans (ent_has (Bs := [rlM ((s, rows), D), famM rlM l, dictM w (putS (l.map kvF) (.inr s) (.r (.ref D))), fr]) (by walk_at "grab")) (ent_trans se_add.ent ?_)) (hr D)
    rw [fk_put (by rw [ek]; exact hs)]
    exact ent_has (by walk_at "grab")
  | ok i r hy hi hl =>
    obtain ⟨a, hi2⟩ := fl_at rfl hi
    have hv := fk_at hnl hi2
    cases y
    · exact absurd rfl hy
    · unfold Way.s
      refine dss_ent (pl_out hi2) ?_
      walk_at "st"; walk_at "go"
      rw [List.length_map, rwsD_len]
      exact fin [plD w l, famM rlM l] (pl_back hi2) (hr i r hi)
    · unfold Way.s
      have hk := hl (.inl rfl)
      have hrow : r[pg]? = some (r[pg]'(by omega)) := List.getElem?_eq_getElem _
      have hat := rwsD_at hrow
      refine dss_ent (pl_out hi2) ?_
      unfold rwD at hat
      walk_at "st"; walk_at "go"
      exact fin [plD w l, famM rlM l] (pl_back hi2) (hr i r _ hi hrow)
    · unfold Way.s
      have hk := hl (.inr rfl)
      have hrow : rows[0]? = some (rows[0]'(by have := hrw.pos; omega)) := List.getElem?_eq_getElem _
      have hat : atI (rwsD rows) 0 = some (rwD (rows[0]'(by have := hrw.pos; omega))) := by
        obtain ⟨v, h1, h2⟩ := atI_in (xs := rwsD rows) (i := 0) (by rw [rwsD_len]; have := hrw.pos; omega)
        rw [h1, ← h2, Int.toNat_zero]
        unfold rwsD
        rw [List.getElem?_map, hrow]; rfl
      have hix : ixN ((rwsD r).map Sl.d).length (pg : Int) = some (pg : Int).toNat := ixN_in (by rw [List.length_map, rwsD_len]; omega)
      refine dss_ent (pl_out hi2) ?_
      unfold rwD at hat
      walk_at "st"; walk_at "go"
      refine ds_seti ?_
      walk_at "go"
      refine fin [plD w (l.set i ((s, r.set pg (rows[0]'(by have := hrw.pos; omega))), a)), famM rlM (l.set i ((s, r.set pg (rows[0]'(by have := hrw.pos; omega))), a))] ?_ (hr i r _ a hi2 hrow)
      rw [show Sl.d (PyData.list ((rows[0]'(by have := hrw.pos; omega)).map PyData.int)) = .d (rwD (rows[0]'(by have := hrw.pos; omega))) from rfl, rwsD_set]
      exact pl_in hi2
    · unfold Way.s
      have hd := fk_drop hnl hi2
      walk_at "st"; walk_at "go"
      rw [hd]
      refine fin [plD w (l.take i ++ l.drop (i + 1)), famM rlM (l.take i ++ l.drop (i + 1))] ?_ (hr i r hi)
      refine ent_trans (ent_has (Bs := [famM rlM l, dictM w ((l.take i ++ l.drop (i + 1)).map kvF), fr]) (by walk_at "grab")) (ent_trans (se_out hi2).ent ?_)
      exact ent_has (by walk_at "grab")
end

section
variable [KC] {m : Mo} {C : Addr} {E : Str → Addr}
structure FvOk (S : List Str) (l : List (Frow × Addr)) : Prop where
  nd : ((l.map (·.1)).map (·.1)).Nodup
  sub : ∀ s ∈ (l.map (·.1)).map (·.1), s ∈ S
  rows : ∀ x ∈ l.map (·.1), RwOk x.2
theorem nd_len {α : Type} : ∀ (a b : List α), a.Nodup → (∀ x ∈ a, x ∈ b) → a.length ≤ b.length
  | [], _, _, _ => Nat.zero_le _
  | x :: a, b, h, hs => by
    obtain ⟨s, t, rfl⟩ := List.append_of_mem (hs x List.mem_cons_self)
    obtain ⟨h1, h2⟩ := List.nodup_cons.mp h
    have := nd_len a (s ++ t) h2 fun y hy => by
      rcases List.mem_append.mp (hs y (List.mem_cons_of_mem _ hy)) with z | z
      · exact List.mem_append_left _ z
      · rcases List.mem_cons.mp z with z | z
        · subst z; exact absurd hy h1
        · exact List.mem_append_right _ z
    rw [List.length_append] at this
    rw [List.length_append, List.length_cons, List.length_cons]
    omega
theorem FvOk.few {S : List Str} {l : List (Frow × Addr)} (h : FvOk S l) : (l.map (·.1)).length ≤ S.length := by
  have := nd_len _ _ h.nd h.sub
  rwa [List.length_map] at this
theorem FvOk.fi {S : List Str} {l : List (Frow × Addr)} (h : FvOk S l) (hS : S.length ≤ 10) : FiOk (l.map (·.1)) := ⟨h.nd, by have := h.few; omega⟩
theorem FvOk.add {S : List Str} {l : List (Frow × Addr)} (h : FvOk S l) {s : Str} {rows : List (List Int)} (hs : s ∈ S) (hn : s ∉ (l.map (·.1)).map (·.1)) (hr : RwOk rows) (a : Addr) : FvOk S (l ++ [((s, rows), a)]) := by
  refine ⟨?_, ?_, ?_⟩
  · rw [List.map_append, List.map_append]
    exact List.nodup_append.mpr ⟨h.nd, by simp, fun x hx y hy e => by
      have : y = s := by simpa using hy
      subst this; subst e
      exact hn hx⟩
  · intro x hx
    rw [List.map_append, List.map_append] at hx
    rcases List.mem_append.mp hx with hx | hx
    · exact h.sub x hx
    · have : x = s := by simpa using hx
      rw [this]; exact hs
  · intro x hx
    rw [List.map_append] at hx
    rcases List.mem_append.mp hx with hx | hx
    · exact h.rows x hx
    · have : x = (s, rows) := by simpa using hx
      rw [this]; exact hr
theorem FvOk.drop {S : List Str} {l : List (Frow × Addr)} (h : FvOk S l) (i : Nat) : FvOk S (l.take i ++ l.drop (i + 1)) := by
  have sb : (l.take i ++ l.drop (i + 1)).Sublist l := by
    have : (l.take i ++ l.drop (i + 1)).Sublist (l.take i ++ l.drop i) := List.Sublist.append (List.Sublist.refl _) (by rw [← List.drop_drop]; exact List.drop_sublist _ _)
    rwa [List.take_append_drop] at this
  exact ⟨h.nd.sublist ((sb.map _).map _), fun s hs => h.sub s (((sb.map _).map _).subset hs), fun x hx => h.rows x ((sb.map _).subset hx)⟩
theorem FvOk.store {S : List Str} {l : List (Frow × Addr)} (h : FvOk S l) {i : Nat} {s : Str} {r : List (List Int)} {a : Addr} (hi : l[i]? = some ((s, r), a)) {k : Nat} {r0 : List Int} (h0 : r0.length = 4) : FvOk S (l.set i ((s, r.set k r0), a)) := by
  have hx : (l.map (·.1))[i]? = some (s, r) := by rw [List.getElem?_map, hi]; rfl
  have hr := h.rows (s, r) (List.mem_of_getElem? hx)
  have hr2 : RwOk (r.set k r0) := ⟨by rw [List.length_set]; exact hr.pos, by rw [List.length_set]; exact hr.few, fun z hz => by
    rcases List.mem_or_eq_of_mem_set hz with hz | rfl
    · exact hr.four z hz
    · exact h0⟩
  have ek : ((l.set i ((s, r.set k r0), a)).map (·.1)).map (·.1) = (l.map (·.1)).map (·.1) := by
    rw [List.map_set, List.map_set]
    refine List.ext_getElem? fun j => ?_
    rw [List.getElem?_set]
    split
    · rename_i e; subst e
      split
      · rw [List.getElem?_map, hx]; rfl
      · rename_i hj
        rw [List.getElem?_eq_none (by omega)]
    · rfl
  refine ⟨by rw [ek]; exact h.nd, by rw [ek]; exact h.sub, fun x hx2 => ?_⟩
  rw [List.map_set] at hx2
  rcases List.mem_or_eq_of_mem_set hx2 with hx2 | rfl
  · exact h.rows x hx2
  · exact hr2
theorem FvOk.at {S : List Str} {l : List (Frow × Addr)} (h : FvOk S l) {i : Nat} {s : Str} {r : List (List Int)} (hi : (l.map (·.1))[i]? = some (s, r)) : RwOk r := h.rows (s, r) (List.mem_of_getElem? hi)
theorem err_shaped (k : Nat) : SeqAt.shaped (.list (errL k)) = true := shaped_list 0 (by decide) fun d hd => by
  unfold errL at hd
  simp only [List.mem_cons, List.not_mem_nil, or_false] at hd
  rcases hd with rfl | rfl | rfl | rfl | rfl <;> exact ⟨rfl, Nat.le_refl 0⟩
theorem alike_row (r : List Int) (h : r.length = 4) : AlikeOk 1 (rwD r) := .lst (by rw [List.length_map]; omega) fun d hd => by
  obtain ⟨n, _, rfl⟩ := List.mem_map.mp hd
  exact .int _ _
theorem alike_rows {rows : List (List Int)} (h : RwOk rows) : AlikeOk 2 (.list (rwsD rows)) := .lst (by rw [rwsD_len]; have := h.few; omega) fun d hd => by
  obtain ⟨r, hr, rfl⟩ := List.mem_map.mp hd
  exact alike_row r (h.four r hr)
theorem fz_rwI {h : Addr} {rows : List (List Int)} : Fz (rwI h rows) (.ref h) (.list (rwsD rows)) := fz_col (d := rwD) fun _ _ => fz_lst
theorem rw_open1 {h : Addr} {l2 : List (List Int × Addr)} {r0 : List Int} {b : Addr} {rs : List Mem} (hb : l2[0]? = some (r0, b)) : Ent (lstM h (l2.map fun x => .r (.ref x.2)) :: famM (fun x : List Int × Addr => riM x.1 x.2) l2 :: rs) (riM r0 b :: famM (fun x : List Int × Addr => riM x.1 x.2) (l2.take 0 ++ l2.drop (0 + 1)) :: lstM h (l2.map fun x => .r (.ref x.2)) :: rs) :=
  (SE.trans .swap (se_out (f := fun x : List Int × Addr => riM x.1 x.2) hb)).ent
theorem row_ix {r : List Int} {i : Int} (h : r.length = 4) : ixN ((r.map PyData.int).map Sl.d).length (i % 4) = some (i % 4).toNat := ixN_in (by rw [List.length_map, List.length_map]; omega)
end
section
variable [KC] {m : Mo} {C : Addr} {E : Str → Addr}
theorem deed_mid {fr : Mem} {res : Sl → List Mem → Prop} {exc : Addr → List Mem → Prop} {c : PW.Ctx m n_Ldeed c_Ldeed 4 (fun D x rs => ∃ rs', Ent rs (rs' ++ [fr]) ∧ exc D rs') true true} (h5 : FnIs m "_law_alike" 4 (K_Lalike 2))
    {p w h t : Addr} {s y : Str} {c' pg : Int} {rows : List (List Int)} {du : List PyData} {found : Sl} {R : List Mem} (hrw : RwOk rows) (hsd : SeqAt.shaped (.list du) = true)
    (k : DSs c ((defBody s_Ldeed).drop 12) [.r (.ref p), .r (.ref w), .d (.str s), .d (.int c'), .d (.str y), .d (.int pg), .d (.list (rwsD rows)), .r (.ref h), .d (.list du), .r (.ref t), .un, .un] (tupM t [found, .d (.list du)] :: R) (bodyPost fr res)) :
    DSs c ((defBody s_Ldeed).drop 9) [.r (.ref p), .r (.ref w), .d (.str s), .d (.int c'), .d (.str y), .d (.int pg), .d (.list (rwsD rows)), .r (.ref h), .d (.list du), .r (.ref t), .un, .un] (rwI h rows :: tupM t [found, .d (.list du)] :: R) (bodyPost fr res) := by
    have hn := hrw.few
    refine dss_cons ?_
    walk_at "go"
    refine ce_lendF [(rwI h rows, h, .list (rwsD rows))] (fun x hx => by rw [List.mem_singleton.mp hx]; exact fz_rwI) (rin := []) (grab1 (by walk_at "pick")) (.lend List.mem_cons_self (.eq .nil)) ⟨_, rfl, rfl, alike_rows hrw, rfl, lnda_nil, ?_⟩
    dsimp only [List.map_cons, List.map_nil, List.map, List.append, List.nil_append, List.cons_append]
    refine tr_bool (ite_nt (dss_nil ?_))
    refine dss_open (fam := colF h riM rows) [] fun z => ?_
    obtain ⟨l2, hl2⟩ := z
    obtain ⟨rz, b, hrz, hb⟩ := rw_first hrw hl2
    dsimp only [colF, List.nil_append, List.cons_append]
    refine dss_ent (rw_open1 hb) ?_
    have hat := rw_at hb
    have hix := row_ix (i := c' / 8) (hrw.four rz (List.mem_of_getElem? hrz))
    have hln : (l2.map fun x => Sl.r (.ref x.2)).length < 100000 := by
      have := congrArg List.length hl2
      rw [List.length_map] at this ⊢
      omega
    refine dss_cut (I := fun ρ' r' => ρ' = [.r (.ref p), .r (.ref w), .d (.str s), .d (.int c'), .d (.str y), .d (.int pg), .d (.list (rwsD rows)), .r (.ref h), .d (.list du), .r (.ref t), .un, .un] ∧ Ent r' (lstM h (l2.map fun x => .r (.ref x.2)) :: tupM t [found, .d (.list du)] :: R)) ?_ ?_
    · refine ds_seti ?_
      walk_at "go"
      exact ⟨rfl, ent_trans (ent_drop .zero) (ent_drop .zero)⟩
    rintro _ _ ⟨rfl, he⟩
    refine dss_ent he ?_
    refine dss_cut (I := fun ρ' r' => ρ' = [.r (.ref p), .r (.ref w), .d (.str s), .d (.int c'), .d (.str y), .d (.int pg), .d (.list (rwsD rows)), .r (.ref h), .d (.list du), .r (.ref t), .un, .un] ∧ Ent r' (tupM t [found, .d (.list du)] :: R)) ?_ ?_
    · walk_at "go"
      exact ⟨rfl, ent_drop .zero⟩
    rintro _ _ ⟨rfl, he⟩
    exact dss_ent he k
def K_Ldeed (C : Addr) : Cn := fun ss rin res _ => ∃ (p w : Addr) (l : List (Frow × Addr)) (s : Str) (c : Int) (S : List Str), ss = [.r (.ref p), .r (.ref w), .d (.str s), .d (.int c)] ∧ rin = [filM C p (l.map (·.1)), plD w l, famM rlM l] ∧ (FvOk S l ∧ S.length ≤ 10 ∧ s ∈ S ∧ -BM ≤ c ∧ c ≤ BM) ∧
  ∀ l2, FvOk S l2 → res (.d (.bool true)) [filM C p (l2.map (·.1)), plD w l2, famM rlM l2]
theorem ok_Ldeed (hK : m.K = KC.K) (bl : Bl m.mg) {f fd} (F : Fun m.K "_law_deed" "_law_deed" s_Ldeed f fd) (oc : ObjC m C ["my_files"])
    (h1 : FnIs m "_law_row" 2 K_Lrow) (h2 : FnIs m "_law_rows" 3 K_Lrows) (h3 : FnIs m "_law_due" 1 K_Ldue) (h4 : FnIs m "_law_asked" 4 (K_Lasked C)) (h5 : FnIs m "_law_alike" 4 (K_Lalike 2)) (h6 : FnIs m "_law_done" 1 K_Ldone) :
    FnOk m.P m.w m.K m.mg m.base (L2.CX m.P m.w) 5 f fd ["_law_files", "_law_plain", "_law_name_here", "_law_cell"] (spC (K_Ldeed C)) := by
  refine fn_ok F f_Ldeed e_Ldeed bl hK (by rintro _ _ _ _ ⟨_, _, _, _, _, _, rfl, _⟩; rfl) 8 rfl ?_
  rintro ss rin fr res exc c hC
  obtain ⟨p, w, l, s, c', S, rfl, rfl, ⟨hv, hS, hsS, hc⟩, hr⟩ := hC
  have hbm := bm_big
  have hfi := hv.fi hS
  have ek : l.map (·.1.1) = (l.map (·.1)).map (·.1) := fk_of rfl
  have hnl := hfi.nl rfl
  walk_at "nrm"
  refine dss_cut (I := fun ρ' r' => ∃ y : Way, ρ' = [.r (.ref p), .r (.ref w), .d (.str s), .d (.int c'), .d (.str y.s), .un, .un, .un, .un, .un, .un, .un] ∧ r' = [filM C p (l.map (·.1)), plD w l, famM rlM l, fr]) ?_ ?_
  · walk_at "go"
    refine od_ixA rfl ⟨by omega, by (simp only [List.length_cons, List.length_nil]; omega)⟩ fun d hdm => ?_
    obtain ⟨y, rfl⟩ : ∃ y : Way, d = .str y.s := by
      simp only [List.mem_cons, List.not_mem_nil, or_false] at hdm
      rcases hdm with rfl | rfl | rfl | rfl | rfl | rfl | rfl | rfl
      · exact ⟨.make, rfl⟩
      · exact ⟨.make, rfl⟩
      · exact ⟨.size, rfl⟩
      · exact ⟨.row, rfl⟩
      · exact ⟨.row, rfl⟩
      · exact ⟨.store, rfl⟩
      · exact ⟨.store, rfl⟩
      · exact ⟨.drop, rfl⟩
    clear hdm
    walk_at "go"
    exact ⟨y, rfl, rfl⟩
  rintro _ _ ⟨y, rfl, rfl⟩
  refine dss_cut (I := fun ρ' r' => ρ' = [.r (.ref p), .r (.ref w), .d (.str s), .d (.int c'), .d (.str y.s), .d (.int 0), .un, .un, .un, .un, .un, .un] ∧ r' = [filM C p (l.map (·.1)), plD w l, famM rlM l, fr]) (by walk_at "go"; exact ⟨rfl, rfl⟩) ?_
  rintro _ _ ⟨rfl, rfl⟩
  refine dss_cut (I := fun ρ' r' => ∃ pg : Int, 0 ≤ pg ∧ ρ' = [.r (.ref p), .r (.ref w), .d (.str s), .d (.int c'), .d (.str y.s), .d (.int pg), .un, .un, .un, .un, .un, .un] ∧ Ent r' [filM C p (l.map (·.1)), plD w l, famM rlM l, fr]) ?_ ?_
  · by_cases hs : s ∈ (l.map (·.1)).map (·.1)
    · have hsi : (valS (l.map kvF) (.inr s)).isSome = true := by rw [fk_some, ek]; exact decide_eq_true hs
      obtain ⟨i, r, hi⟩ := fl_key hs
      obtain ⟨a, hi2⟩ := fl_at rfl hi
      have hv2 := fk_at hnl hi2
      have hrp := (hv.at hi).pos
      have hlen : (((rwsD r).map Sl.d).length : Nat) = r.length := by rw [List.length_map, rwsD_len]
      refine ds_ent (rs2 := [rlM ((s, r), a), famM rlM (l.take i ++ l.drop (i + 1)), plD w l, filM C p (l.map (·.1)), fr]) (ent_trans (ent_has (Bs := [plD w l, famM rlM l, filM C p (l.map (·.1)), fr]) (by walk_at "grab")) (pl_out hi2)) ?_
      walk_at "go"
      rw [hsi]
      walk_at "go"
      refine od_ixA rfl ⟨by omega, by (simp only [List.length_cons, List.length_nil]; omega)⟩ fun d hdm => ?_
      have hlp : (0 : Int) < (r.length : Nat) := by omega
      have e1 := Int.emod_nonneg (c' / 32) (show ((((rwsD r).map Sl.d).length : Nat) : Int) + 1 ≠ 0 by omega)
      have e2 := Int.emod_nonneg (c' / 32) (show ((((rwsD r).map Sl.d).length : Nat) : Int) ≠ 0 by omega)
      obtain ⟨pg, rfl, hpg⟩ : ∃ n : Int, d = .int n ∧ 0 ≤ n := by
        simp only [List.mem_cons, List.not_mem_nil, or_false] at hdm
        rcases hdm with rfl | rfl <;> exact ⟨_, rfl, by assumption⟩
      clear hdm
      walk_at "go"
      exact ⟨pg, hpg, rfl, ent_trans (pl_back hi2) (ent_has (by walk_at "grab"))⟩
    · have hsi : (valS (l.map kvF) (.inr s)).isSome = false := by rw [fk_some, ek]; exact decide_eq_false hs
      walk_at "go"
      rw [hsi]
      walk_at "go"
      exact ⟨0, by omega, rfl, ent_refl⟩
  rintro _ _ ⟨pg0, hpg0, rfl, he⟩
  refine dss_ent he ?_
  refine dss_cut (I := fun ρ' r' => ∃ pg : Int, 0 ≤ pg ∧ ρ' = [.r (.ref p), .r (.ref w), .d (.str s), .d (.int c'), .d (.str y.s), .d (.int pg), .un, .un, .un, .un, .un, .un] ∧ r' = [filM C p (l.map (·.1)), plD w l, famM rlM l, fr]) ?_ ?_
  · walk_at "go"
    refine ite_d (fun h => ?_) (fun h => ?_)
    · walk_at "go"
      refine od_ixA rfl ⟨by omega, by (simp only [List.length_cons, List.length_nil]; omega)⟩ fun d hdm => ?_
      obtain ⟨pg, rfl, hpg⟩ : ∃ n : Int, d = .int n ∧ 0 ≤ n := by
        simp only [List.mem_cons, List.not_mem_nil, or_false] at hdm
        rcases hdm with rfl | rfl | rfl | rfl <;> exact ⟨_, rfl, by decide +kernel⟩
      clear hdm
      walk_at "go"
      exact ⟨pg, hpg, rfl, rfl⟩
    · walk_at "go"
      exact ⟨pg0, hpg0, rfl, rfl⟩
  rintro _ _ ⟨pg, hpg, rfl, rfl⟩
  have hc8 : -(4 * BM) ≤ c' / 8 ∧ c' / 8 ≤ 4 * BM := by omega
  have hc1 : -BM ≤ c' / 8 ∧ c' / 8 ≤ BM := by omega
  refine dss_cut (I := fun ρ' r' => ρ' = [.r (.ref p), .r (.ref w), .d (.str s), .d (.int c'), .d (.str y.s), .d (.int pg), .d (.list (rwsD [lrow (c' / 8)])), .un, .un, .un, .un, .un] ∧ r' = [filM C p (l.map (·.1)), plD w l, famM rlM l, fr]) (by walk_at "go"; exact ⟨rfl, rfl⟩) ?_
  rintro _ _ ⟨rfl, rfl⟩
  have hr1 : RwOk [lrow (c' / 8)] := ⟨Nat.le_refl _, Nat.le_of_ble_eq_true rfl, fun r hr => by rw [List.mem_singleton.mp hr]; rfl⟩
  refine dss_cut (I := fun ρ' r' => ∃ rows, RwOk rows ∧ ρ' = [.r (.ref p), .r (.ref w), .d (.str s), .d (.int c'), .d (.str y.s), .d (.int pg), .d (.list (rwsD rows)), .un, .un, .un, .un, .un] ∧ r' = [filM C p (l.map (·.1)), plD w l, famM rlM l, fr]) ?_ ?_
  · cases y
    · dsimp only [Way.s]
      walk_at "go"
      intro rows hrw
      walk_at "go"
      exact ⟨rows, hrw, rfl, rfl⟩
    all_goals
      dsimp only [Way.s]
      walk_at "go"
      exact ⟨_, hr1, rfl, rfl⟩
  rintro _ _ ⟨rows, hrw, rfl, rfl⟩
  have hn := hrw.few
  refine dss_cons (ds_lc0M (by walk_at "ix") (by walk_at "ix") (blkOk_by (by decide +kernel)) (di_list ?_))
  walk_at "go"
  refine ⟨List Int, rows, fun r => .d (rwD r), riM, by unfold rwsD; rw [List.map_map]; rfl, fun A B => trivial, by omega, ⟨_, by walk_at "set", fun r hr => ⟨_, by walk_at "set", ?_⟩⟩, fun h => ⟨_, by walk_at "set", ?_⟩⟩
  · intro A s0 H0 C0 cl0 fp0 hso
    refine dx_listU ?_
    unfold rwD
    walk_at "go"
    rename_i q
    exact ⟨q, rfl, ent_has (by walk_at "grab")⟩
  walk_at "st"; walk_at "go"
  refine ce_gr (rin := [plD w l, famM rlM l]) (grab2 (by walk_at "pick") (by walk_at "pick2")) ⟨w, l, y, s, pg, rfl, rfl, hfi, fun k hk => ?_⟩
  dsimp only [List.nil_append, List.cons_append]
  walk_at "go"
  have a0 : AlikeOk 2 .none := .non _
  refine ce_gr (rin := [filM C p (l.map (·.1)), rwI h rows]) (grab2 (by walk_at "pick") (by walk_at "pick2")) ⟨p, h, l.map (·.1), rows, y, s, pg, k, rfl, rfl, ⟨hfi, hrw, hpg, hk⟩, fun j t hj => ?_, fun hk0 => ?_⟩
  · subst hj
    dsimp only [List.nil_append, List.cons_append, dueL]
    have hsd := err_shaped j
    refine ⟨_, _, by walk_at "set", ?_⟩
    refine dss_ent (rs2 := rwI h rows :: tupM t [.d .none, .d (.list (errL j))] :: [filM C p (l.map (·.1)), plD w l, famM rlM l, fr]) (ent_has (by walk_at "grab")) ?_
    refine deed_mid h5 hrw hsd ?_
    refine dss_cons ?_
    walk_at "go"
    exact fin [filM C p (l.map (·.1)), plD w l, famM rlM l] (ent_has (by walk_at "grab")) (hr l hv)
  subst hk0
  cases y
  · have hs : s ∉ (l.map (·.1)).map (·.1) := by
      cases hk with
      | okmake _ h => exact h
      | ok _ _ h _ _ => exact absurd rfl h
    intro t
    dsimp only [List.nil_append, List.cons_append, dueL, Way.s]
    refine ⟨_, _, by walk_at "set", ?_⟩
    refine dss_ent (rs2 := rwI h rows :: tupM t [.d .none, .d (.list ([]))] :: [filM C p (l.map (·.1) ++ [(s, rows)]), plD w l, famM rlM l, fr]) (ent_has (by walk_at "grab")) ?_
    refine deed_mid h5 hrw rfl ?_
    refine dss_cons ?_
    walk_at "go"
    refine ce_gr (rin := [plD w l, famM rlM l]) (grab2 (by walk_at "pick") (by walk_at "pick2")) ⟨w, l, .make, s, pg, rows, rfl, rfl, ⟨hfi, hrw, hpg, hk⟩, ?_⟩
    intro a
    dsimp only [List.nil_append, List.cons_append]
    walk_at "go"
    refine fin [filM C p ((l ++ [((s, rows), a)]).map (·.1)), plD w (l ++ [((s, rows), a)]), famM rlM (l ++ [((s, rows), a)])] ?_ (hr _ (hv.add hsS hs hrw a))
    rw [show (l ++ [((s, rows), a)]).map (·.1) = l.map (·.1) ++ [(s, rows)] by rw [List.map_append]; rfl]
    exact (ent_has (by walk_at "grab"))
  · intro i r hi t
    dsimp only [List.nil_append, List.cons_append, dueL, Way.s]
    have a1 : AlikeOk 2 (.int (r.length : Nat)) := .int _ _
    refine ⟨_, _, by walk_at "set", ?_⟩
    refine dss_ent (rs2 := rwI h rows :: tupM t [.d (.int (r.length : Nat)), .d (.list ([]))] :: [filM C p (l.map (·.1)), plD w l, famM rlM l, fr]) (ent_has (by walk_at "grab")) ?_
    refine deed_mid h5 hrw rfl ?_
    refine dss_cons ?_
    walk_at "go"
    refine ce_gr (rin := [plD w l, famM rlM l]) (grab2 (by walk_at "pick") (by walk_at "pick2")) ⟨w, l, .size, s, pg, rows, rfl, rfl, ⟨hfi, hrw, hpg, hk⟩, ?_⟩
    intro i2 r2 hi2
    obtain ⟨_, rfl⟩ := fl_uniq hfi hi hi2
    dsimp only [List.nil_append, List.cons_append]
    walk_at "go"
    exact fin [filM C p (l.map (·.1)), plD w l, famM rlM l] (ent_has (by walk_at "grab")) (hr l hv)
  · intro i r row q hi hrow t
    dsimp only [List.nil_append, List.cons_append, dueL, Way.s]
    have h4 := (hv.at hi).four row (List.mem_of_getElem? hrow)
    have a1 := (alike_row row h4).mono
    have hix2 := row_ix (i := c' / 32) h4
    refine ⟨_, _, by walk_at "set", ?_⟩
    refine dss_ent (rs2 := rwI h rows :: tupM t [.r (.ref q), .d (.list ([]))] :: [riM row q, filM C p (l.map (·.1)), plD w l, famM rlM l, fr]) (ent_has (by walk_at "grab")) ?_
    refine deed_mid h5 hrw rfl ?_
    refine dss_cons ?_
    walk_at "go"
    refine ce_gr (rin := [plD w l, famM rlM l]) (grab2 (by walk_at "pick") (by walk_at "pick2")) ⟨w, l, .row, s, pg, rows, rfl, rfl, ⟨hfi, hrw, hpg, hk⟩, ?_⟩
    intro i2 r2 row2 hi2 hrow2
    obtain ⟨_, rfl⟩ := fl_uniq hfi hi hi2
    rw [hrow] at hrow2
    cases hrow2
    dsimp only [List.nil_append, List.cons_append]
    walk_at "go"
    refine ce_lend [(q, row.map .int)] (rin := []) (grab1 (by walk_at "pick")) (by walk_at "lent") ⟨_, rfl, rfl, a1, rfl, lnda_nil, ?_⟩
    dsimp only [lent_cons, lent_nil, List.nil_append, List.cons_append]
    walk_at "go"
    refine ds_seti ?_
    walk_at "go"
    exact fin [filM C p (l.map (·.1)), plD w l, famM rlM l] (ent_has (by walk_at "grab")) (hr l hv)
  · intro i r r0 hi hlt hr0 t
    dsimp only [List.nil_append, List.cons_append, dueL, Way.s]
    refine ⟨_, _, by walk_at "set", ?_⟩
    refine dss_ent (rs2 := rwI h rows :: tupM t [.d .none, .d (.list ([]))] :: [filM C p ((l.map (·.1)).set i (s, r.set pg.toNat r0)), plD w l, famM rlM l, fr]) (ent_has (by walk_at "grab")) ?_
    refine deed_mid h5 hrw rfl ?_
    refine dss_cons ?_
    walk_at "go"
    refine ce_gr (rin := [plD w l, famM rlM l]) (grab2 (by walk_at "pick") (by walk_at "pick2")) ⟨w, l, .store, s, pg, rows, rfl, rfl, ⟨hfi, hrw, hpg, hk⟩, ?_⟩
    intro i2 r2 r02 a hi2 hr02
    obtain ⟨rfl, rfl⟩ := fl_uniq hfi hi (show (l.map (·.1))[i2]? = some (s, r2) by rw [List.getElem?_map, hi2]; rfl)
    rw [hr0] at hr02
    cases hr02
    dsimp only [List.nil_append, List.cons_append]
    walk_at "go"
    refine fin [filM C p ((l.set i ((s, r.set pg.toNat r0), a)).map (·.1)), plD w (l.set i ((s, r.set pg.toNat r0), a)), famM rlM (l.set i ((s, r.set pg.toNat r0), a))] ?_ (hr _ (hv.store hi2 (hrw.four r0 (List.mem_of_getElem? hr0))))
    rw [List.map_set]
    exact (ent_has (by walk_at "grab"))
  · intro i r hi t
    dsimp only [List.nil_append, List.cons_append, dueL, Way.s]
    refine ⟨_, _, by walk_at "set", ?_⟩
    refine dss_ent (rs2 := rwI h rows :: tupM t [.d .none, .d (.list ([]))] :: [filM C p ((l.map (·.1)).take i ++ (l.map (·.1)).drop (i + 1)), plD w l, famM rlM l, fr]) (ent_has (by walk_at "grab")) ?_
    refine deed_mid h5 hrw rfl ?_
    refine dss_cons ?_
    walk_at "go"
    refine ce_gr (rin := [plD w l, famM rlM l]) (grab2 (by walk_at "pick") (by walk_at "pick2")) ⟨w, l, .drop, s, pg, rows, rfl, rfl, ⟨hfi, hrw, hpg, hk⟩, ?_⟩
    intro i2 r2 hi2
    obtain ⟨rfl, rfl⟩ := fl_uniq hfi hi hi2
    dsimp only [List.nil_append, List.cons_append]
    walk_at "go"
    refine fin [filM C p ((l.take i ++ l.drop (i + 1)).map (·.1)), plD w (l.take i ++ l.drop (i + 1)), famM rlM (l.take i ++ l.drop (i + 1))] ?_ (hr _ (hv.drop i))
    rw [List.map_append, List.map_take, List.map_drop]
    exact (ent_has (by walk_at "grab"))
end

section
variable [KC] {m : Mo} {C : Addr} {E : Str → Addr}
def hD (l : List PyData) : PyData := .tuple [.list l, .list l]
abbrev heM (q : Addr) (hs : List (List PyData)) : Mem := lstM q ((hs.map hD).map .d)
def K_Lis_files (C : Addr) : Cn := fun ss rin res _ => ∃ (p w h : Addr) (l : List (Frow × Addr)) (s : Str) (c : Int) (hs : List (List PyData)) (S : List Str), ss = [.r (.ref p), .r (.ref w), .d (.str s), .d (.int c), .r (.ref h)] ∧ rin = [filM C p (l.map (·.1)), plD w l, famM rlM l, heM h hs] ∧ (FvOk S l ∧ S.length ≤ 10 ∧ s ∈ S ∧ (∀ z ∈ S, PyData.strOk z = true) ∧ hs.length < 1000) ∧
  ∀ L, SeqAt.shaped (.list L) = true → res (.d (.bool true)) [filM C p (l.map (·.1)), plD w l, famM rlM l, heM h (hs ++ [L])]
theorem ok_Lis_files (hK : m.K = KC.K) (bl : Bl m.mg) {f fd} (F : Fun m.K "_law_is_files" "_law_is_files" s_Lis_files f fd) (oc : ObjC m C ["my_files"])
    (h1 : MtIs m C "names" 1 (K_Files_names C)) (h2 : MtIs m C "size_of" 1 (K_Files_size_of C E)) (h3 : MtIs m C "row_at" 3 (K_Files_row_at C E)) (h5 : FnIs m "_law_alike" 4 (K_Lalike 2)) :
    FnOk m.P m.w m.K m.mg m.base (L2.CX m.P m.w) 5 f fd ["_law_files", "_law_plain", "_law_name_here", "_law_cell", "_law_held"] (spC (K_Lis_files C)) := by
  refine fn_ok F f_Lis_files e_Lis_files bl hK (by rintro _ _ _ _ ⟨_, _, _, _, _, _, _, _, rfl, _⟩; rfl) 2 rfl ?_
  rintro ss rin fr res exc c hC
  obtain ⟨p, w, h, l, s, c', hs, S, rfl, rfl, ⟨hv, hS, hsS, hok, hhl⟩, hr⟩ := hC
  have hfi := hv.fi hS
  have ek : l.map (·.1.1) = (l.map (·.1)).map (·.1) := fk_of rfl
  have hnl := hfi.nl rfl
  have h64 : (l.map (·.1)).length < 64 := by have := hv.few; omega
  walk_at "st"; walk_at "go"
  intro ys y1 y2 t
  walk_at "go"
  refine ⟨w, _, _, (l.map (·.1)).map (·.1), rfl, by walk_at "pick", by rw [← ek, ← fk_keys, List.map_map]; rfl, by rw [List.length_map]; exact h64, fun zs z1 z2 => ?_⟩
  obtain rfl := SG.sorted_uniq y2 z2 (y1.nodup_iff.mpr hv.nd) (z1.nodup_iff.mpr hv.nd) fun k => y1.mem_iff.trans z1.mem_iff.symm
  have hyl : ys.length ≤ 10 := by rw [y1.length_eq, List.length_map]; exact Nat.le_trans hv.few hS
  have hyo : ∀ z ∈ ys, PyData.strOk z = true := fun z hz => hok z (hv.sub z (y1.mem_iff.mp hz))
  have ay : AlikeOk 2 (.list (ys.map .str)) := .lst (by rw [List.length_map]; omega) fun d hd => by
    obtain ⟨n, _, rfl⟩ := List.mem_map.mp hd
    exact .str _ _
  walk_at "go"
  refine ce_lend [(t, ys.map .str)] (rin := []) (grab1 (by walk_at "pick")) (by walk_at "lent") ⟨_, rfl, rfl, ay, rfl, lnda_nil, ?_⟩
  dsimp only [lent_cons, lent_nil, List.nil_append, List.cons_append]
  refine tr_bool (ite_nt (dss_nil ?_))
  have hyl2 : ((ys.map PyData.str).map Sl.d).length < 100000 := by rw [List.length_map, List.length_map]; omega
  refine dss_cut (I := fun ρ' r' => ρ' = [.r (.ref p), .r (.ref w), .d (.str s), .d (.int c'), .r (.ref h), .r (.ref t), .un] ∧ r' = [lstM t ((ys.map PyData.str ++ [PyData.str s]).map .d), filM C p (l.map (·.1)), plD w l, famM rlM l, heM h hs, fr]) ?_ ?_
  · walk_at "go"
    exact ⟨rfl, by rw [List.map_append]; rfl⟩
  rintro _ _ ⟨rfl, rfl⟩
  have hsh : SeqAt.shaped (.list (ys.map PyData.str ++ [PyData.str s])) = true := shaped_list 0 (by decide) fun d hd => by
    rcases List.mem_append.mp hd with hd | hd
    · obtain ⟨z, hz, rfl⟩ := List.mem_map.mp hd
      exact ⟨hyo z hz, Nat.le_refl 0⟩
    · rw [List.mem_singleton.mp hd]; exact ⟨hok s hsS, Nat.le_refl 0⟩
  generalize ys.map PyData.str ++ [PyData.str s] = L at hsh
  have hr := hr L hsh
  refine dss_frz (ρ' := [.r (.ref p), .r (.ref w), .d (.str s), .d (.int c'), .r (.ref h), .d (.list L), .un]) (by walk_at "pick") (by repeat (first | exact FrzS.nil | (with_reducible apply FrzS.here) | apply FrzS.eq)) ?_
  have hhl2 : ((hs.map hD).map Sl.d).length < 100000 := by rw [List.length_map, List.length_map]; omega
  refine dss_cut (I := fun ρ' r' => ρ' = [.r (.ref p), .r (.ref w), .d (.str s), .d (.int c'), .r (.ref h), .d (.list L), .un] ∧ r' = [filM C p (l.map (·.1)), plD w l, famM rlM l, heM h (hs ++ [L]), fr]) ?_ ?_
  · walk_at "go"
    exact ⟨rfl, by rw [show (hs.map hD).map Sl.d ++ [.d (.tuple [.list L, .list L])] = ((hs ++ [L]).map hD).map .d by rw [List.map_append, List.map_append]; rfl]⟩
  rintro _ _ ⟨rfl, rfl⟩
  by_cases hk : s ∈ (l.map (·.1)).map (·.1)
  · have hsi : (valS (l.map kvF) (.inr s)).isSome = true := by rw [fk_some, ek]; exact decide_eq_true hk
    obtain ⟨i, r, hi⟩ := fl_key hk
    obtain ⟨a, hi2⟩ := fl_at rfl hi
    have hv2 := fk_at hnl hi2
    have hrp := (hv.at hi).pos
    have hlen : (((rwsD r).map Sl.d).length : Nat) = r.length := by rw [List.length_map, rwsD_len]
    have hl0 : ((((rwsD r).map Sl.d).length : Nat) : Int) ≠ 0 := by omega
    have e1 := Int.emod_nonneg (c' / 9) hl0
    have e2 := Int.emod_lt_of_pos (c' / 9) (show (0 : Int) < (((rwsD r).map Sl.d).length : Nat) by omega)
    refine dss_ent (rs2 := [rlM ((s, r), a), famM rlM (l.take i ++ l.drop (i + 1)), plD w l, filM C p (l.map (·.1)), heM h (hs ++ [L]), fr]) (ent_trans (ent_has (Bs := [plD w l, famM rlM l, filM C p (l.map (·.1)), heM h (hs ++ [L]), fr]) (by walk_at "grab")) (pl_out hi2)) ?_
    generalize hrs : [rlM ((s, r), a), famM rlM (l.take i ++ l.drop (i + 1)), plD w l, filM C p (l.map (·.1)), heM h (hs ++ [L]), fr] = rs0
    refine dss_cons ?_
    subst hrs
    walk_at "go"
    rw [hsi]
    try (with_reducible refine kt ?_)
    refine ite_t rfl ?_
    refine dss_cut (I := fun ρ' r' => ∃ k : Nat, k < r.length ∧ ρ' = [.r (.ref p), .r (.ref w), .d (.str s), .d (.int c'), .r (.ref h), .d (.list L), .d (.int k)] ∧ r' = [rlM ((s, r), a), famM rlM (l.take i ++ l.drop (i + 1)), plD w l, filM C p (l.map (·.1)), heM h (hs ++ [L]), fr]) ?_ ?_
    · walk_at "go"
      exact ⟨(c' / 9 % (((rwsD r).map Sl.d).length : Nat)).toNat, by omega, by rw [Int.toNat_of_nonneg e1], rfl⟩
    rintro _ _ ⟨k, hkr, rfl, rfl⟩
    refine dss_cut (I := fun ρ' r' => ρ' = [.r (.ref p), .r (.ref w), .d (.str s), .d (.int c'), .r (.ref h), .d (.list L), .d (.int k)] ∧ r' = [rlM ((s, r), a), famM rlM (l.take i ++ l.drop (i + 1)), plD w l, filM C p (l.map (·.1)), heM h (hs ++ [L]), fr]) ?_ ?_
    · walk_at "go"
      refine ite_d (fun h => ?_) (fun h => ?_)
      · have ai : AlikeOk 2 (.int (r.length : Nat)) := .int _ _
        walk_at "go"
        refine ⟨fun i2 r2 hi3 => ?_, fun hn => absurd hk hn⟩
        obtain ⟨_, rfl⟩ := fl_uniq hfi hi hi3
        walk_at "go"
        rw [List.length_map, rwsD_len]
        walk_at "go"
        exact ⟨rfl, rfl⟩
      · walk_at "go"
        exact ⟨rfl, rfl⟩
    rintro _ _ ⟨rfl, rfl⟩
    have hrow : r[k]? = some (r[k]'hkr) := List.getElem?_eq_getElem _
    generalize r[k]'hkr = row at hrow
    have hat := rwsD_at hrow
    have h4 := (hv.at hi).four row (List.mem_of_getElem? hrow)
    have hc0 : FiOk (l.map (·.1)) ∧ (0 : Int) ≤ (k : Int) := ⟨hfi, by omega⟩
    walk_at "st"; walk_at "go"
    refine ⟨fun i2 r2 hi3 => ⟨fun row2 hrow2 q => ?_, fun hk2 => ?_⟩, fun hn => absurd hk hn⟩
    · obtain ⟨_, rfl⟩ := fl_uniq hfi hi hi3
      rw [Int.toNat_natCast, hrow] at hrow2
      cases hrow2
      walk_at "go"
      refine ce_lend [(q, row.map .int)] (rin := []) (grab1 (by walk_at "pick")) (by walk_at "lent") ⟨_, rfl, rfl, (alike_row row h4).mono, rfl, lnda_nil, ?_⟩
      dsimp only [lent_cons, lent_nil, List.nil_append, List.cons_append]
      walk_at "go"
      exact fin [filM C p (l.map (·.1)), plD w l, famM rlM l, heM h (hs ++ [L])] (ent_trans (ent_has (Bs := [rlM ((s, r), a), famM rlM (l.take i ++ l.drop (i + 1)), plD w l, filM C p (l.map (·.1)), heM h (hs ++ [L]), fr]) (by walk_at "grab")) (ent_trans (pl_back hi2) (ent_has (by walk_at "grab")))) hr
    · obtain ⟨_, rfl⟩ := fl_uniq hfi hi hi3
      omega
  · have hsi : (valS (l.map kvF) (.inr s)).isSome = false := by rw [fk_some, ek]; exact decide_eq_false hk
    walk_at "st"; walk_at "go"
    rw [hsi]
    walk_at "go"
    exact fin [filM C p (l.map (·.1)), plD w l, famM rlM l, heM h (hs ++ [L])] ent_refl hr
end

section
variable [KC] {m : Mo} {C : Addr} {E : Str → Addr}
theorem mem_cut {x : Int} {r : List Int} {a b : Option Int} (h : x ∈ cutL r a b) : x ∈ r := by
  unfold cutL at h
  exact List.mem_of_mem_drop (List.mem_of_mem_take h)
theorem lname_ok (c t : Int) : PyData.strOk (lname c t) = true := by
  unfold lname
  split <;> exact ok_cut (name8_ok c t 8) _ _
theorem fv_nil (S : List Str) : FvOk S [] := ⟨List.nodup_nil, fun _ h => (nomatch h), fun _ h => (nomatch h)⟩
theorem ok_law (hK : m.K = KC.K) (bl : Bl m.mg) {f fd} (F : Fun m.K "law" "law" s_law f fd) (oc : ObjC m C ["my_files"]) (hmk : MkIs m "Files" C 1 (K_Files___init__ C)) (ht1 : MtIs m C "row_at" 3 (K_Files_row_at C E))
    (h1 : FnIs m "_law_cell_at" 1 K_Lcell_at) (h2 : FnIs m "_law_name" 1 K_Lname) (h3 : FnIs m "_law_deed" 5 (K_Ldeed C)) (h4 : FnIs m "_law_is_files" 5 (K_Lis_files C)) (h5 : FnIs m "_law_alike" 4 (K_Lalike 2)) :
    FnOk m.P m.w m.K m.mg m.base (L2.CX m.P m.w) 6 f fd ["_law_script"] (spC lawCB) := by
  refine fn_ok F f_law e_law bl hK (by rintro _ _ _ _ ⟨_, rfl, _⟩; rfl) 13 rfl ?_
  rintro ss rin fr res exc c hC
  obtain ⟨ns, rfl, rfl, ⟨hl, hb⟩, hr⟩ := hC
  have hbm := bm_big
  walk_at "nrm"
  refine dss_cons (ds_lc0 (by walk_at "ix") (by walk_at "ix") (blkOk_by (by decide +kernel)) (di_range1 ?_))
  walk_at "go"
  refine ⟨_, rfl, by omega, Nat, List.range 5, fun k => .d (.int (0 + (k : Nat))), fun k => .str (lname (cellAt ns 0) (0 + (k : Int))), rfl, fun A => trivial, by rw [List.length_range]; omega, ⟨_, by walk_at "set", fun k hk => ⟨_, by walk_at "set", ?_⟩⟩, ?_⟩
  · intro A s0 H0 C0 cl0 fp0 hso
    rw [List.mem_range] at hk
    have hcond : (0 : Int) ≤ 0 + (k : Int) ∧ 0 + (k : Int) ≤ 100 := by omega
    walk_at "go"
    exact ⟨rfl, rfl⟩
  generalize hSd : (List.range 5).map (fun k : Nat => lname (cellAt ns 0) (0 + (k : Int))) = S
  have hS5 : S.length = 5 := by rw [← hSd, List.length_map, List.length_range]
  have hSo : ∀ z ∈ S, PyData.strOk z = true := fun z hz => by
    rw [← hSd] at hz
    obtain ⟨k, _, rfl⟩ := List.mem_map.mp hz
    exact lname_ok _ _
  have hS10 : S.length ≤ 10 := by omega
  rw [show (List.range 5).map (fun k : Nat => PyData.str (lname (cellAt ns 0) (0 + (k : Int)))) = S.map PyData.str by rw [← hSd, List.map_map]; rfl]
  clear hSd
  refine ⟨_, by walk_at "set", ?_⟩
  refine dss_cons (ds_set (dx_lstO (da_cons (dx_make0 hmk fun p0 => ⟨p0, rfl, rfl, trivial, rfl, da_cons (dx_make0 hmk fun p1 => ⟨p1, rfl, rfl, trivial, rfl, da_nil ?_⟩)⟩))))
  refine ⟨Nat.le_of_ble_eq_true rfl, fun lb => ⟨_, _, by walk_at "set", ?_⟩⟩
  refine dss_cons (ds_set (dx_lstO (da_cons (dx_dnew fun w0 => da_cons (dx_dnew fun w1 => da_nil ?_)))))
  refine ⟨Nat.le_of_ble_eq_true rfl, fun lp => ⟨_, _, by walk_at "set", ?_⟩⟩
  refine dss_cons (ds_set (dx_lstO (da_nil ⟨by decide, fun lh => ⟨_, _, by walk_at "set", ?_⟩⟩)))
  dsimp only [List.nil_append, List.cons_append, Sl.plain]
  refine dss_ent (rs2 := famM rlM [] :: famM rlM [] :: [heM lh [], lstM lb [.r (.ref p0), .r (.ref p1)], lstM lp [.r (.ref w0), .r (.ref w1)], filM C p0 [], filM C p1 [], plD w0 [], plD w1 [], fr]) (ent_trans (ent_has (Bs := [lstM lh [], lstM lb [.r (.ref p0), .r (.ref p1)], lstM lp [.r (.ref w0), .r (.ref w1)], filM C p0 [], filM C p1 [], dictM w0 [], dictM w1 [], fr]) (by walk_at "grab")) ((se_nil (f := rlM)).trans (se_nil (f := rlM))).ent) ?_
  refine dss_ent (rs2 := [heM lh ([]), lstM lb [.r (.ref p0), .r (.ref p1)], lstM lp [.r (.ref w0), .r (.ref w1)], filM C p0 ((([] : List (Frow × Addr))).map (·.1)), filM C p1 ((([] : List (Frow × Addr))).map (·.1)), plD w0 (([] : List (Frow × Addr))), famM rlM (([] : List (Frow × Addr))), plD w1 (([] : List (Frow × Addr))), famM rlM (([] : List (Frow × Addr))), fr]) (ent_has (Bs := [heM lh [], lstM lb [.r (.ref p0), .r (.ref p1)], lstM lp [.r (.ref w0), .r (.ref w1)], filM C p0 [], filM C p1 [], plD w0 [], famM rlM [], plD w1 [], famM rlM [], fr]) (by walk_at "grab")) ?_
  refine dss_cons ?_
  refine ds_for (by walk_at "ix") (di_list ?_)
  walk_at "go"
  refine ⟨Int, cutL ns (some 2) (some 80), fun n => .d (.int n), by rw [cutL_map, List.map_map]; rfl, List (Frow × Addr) × List (Frow × Addr) × List (List PyData), fun _ => [.d (.list (ns.map .int)), .d (.list (S.map .str)), .r (.ref lb), .r (.ref lp), .r (.ref lh), .un, .un, .un, .un, .un, .un, .un, .un, .un], fun s => [heM lh (s.2.2), lstM lb [.r (.ref p0), .r (.ref p1)], lstM lp [.r (.ref w0), .r (.ref w1)], filM C p0 ((s.1).map (·.1)), filM C p1 ((s.2.1).map (·.1)), plD w0 (s.1), famM rlM (s.1), plD w1 (s.2.1), famM rlM (s.2.1), fr],
    fun pre s => FvOk S s.1 ∧ FvOk S s.2.1 ∧ s.2.2.length ≤ 2 * pre.length ∧ ∀ l ∈ s.2.2, SeqAt.shaped (.list l) = true,
    ⟨([], [], []), ⟨fv_nil S, fv_nil S, Nat.zero_le _, fun _ h => (nomatch h)⟩, by walk_at "le0", rfl⟩, fun _ _ _ => trivial, ?_, ?_⟩
  · rintro pre z post ⟨l0, l1, hs⟩ e ⟨a0, a1, hh, hsh⟩
    dsimp only at a0 a1 hh hsh ⊢
    have hlen := congrArg List.length e
    rw [List.length_append, List.length_cons] at hlen
    have hcut := cutL_len ns (some 2) (some 80)
    have hz : -BM ≤ z ∧ z ≤ BM := hb z (mem_cut (by rw [e]; simp))
    have hpl : (pre ++ [z]).length = pre.length + 1 := by rw [List.length_append]; rfl
    refine ⟨_, by walk_at "set", dss_post ?_⟩
    refine dss_cut (I := fun ρ' r' => ∃ at0 : Int, (at0 = 0 ∨ at0 = 1) ∧ ρ' = [.d (.list (ns.map .int)), .d (.list (S.map .str)), .r (.ref lb), .r (.ref lp), .r (.ref lh), .d (.int z), .d (.int at0), .un, .un, .un, .un, .un, .un, .un] ∧ r' = [heM lh (hs), lstM lb [.r (.ref p0), .r (.ref p1)], lstM lp [.r (.ref w0), .r (.ref w1)], filM C p0 ((l0).map (·.1)), filM C p1 ((l1).map (·.1)), plD w0 (l0), famM rlM (l0), plD w1 (l1), famM rlM (l1), fr]) ?_ ?_
    · walk_at "go"
      exact ⟨_, by omega, rfl, rfl⟩
    rintro _ _ ⟨at0, hat, rfl, rfl⟩
    refine dss_cut (I := fun ρ' r' => ∃ s, s ∈ S ∧ ρ' = [.d (.list (ns.map .int)), .d (.list (S.map .str)), .r (.ref lb), .r (.ref lp), .r (.ref lh), .d (.int z), .d (.int at0), .d (.str s), .un, .un, .un, .un, .un, .un] ∧ r' = [heM lh (hs), lstM lb [.r (.ref p0), .r (.ref p1)], lstM lp [.r (.ref w0), .r (.ref w1)], filM C p0 ((l0).map (·.1)), filM C p1 ((l1).map (·.1)), plD w0 (l0), famM rlM (l0), plD w1 (l1), famM rlM (l1), fr]) ?_ ?_
    · walk_at "go"
      refine od_ixA rfl ⟨by omega, by rw [List.length_map]; omega⟩ fun d hd => ?_
      obtain ⟨s, hs, rfl⟩ := List.mem_map.mp hd
      walk_at "go"
      exact ⟨s, hs, rfl, rfl⟩
    rintro _ _ ⟨s, hsS, rfl, rfl⟩
    refine dss_cut (I := fun ρ' r' => ∃ l2 l3, FvOk S l2 ∧ FvOk S l3 ∧ ρ' = [.d (.list (ns.map .int)), .d (.list (S.map .str)), .r (.ref lb), .r (.ref lp), .r (.ref lh), .d (.int z), .d (.int at0), .d (.str s), .un, .un, .un, .un, .un, .un] ∧ Ent r' [heM lh (hs), lstM lb [.r (.ref p0), .r (.ref p1)], lstM lp [.r (.ref w0), .r (.ref w1)], filM C p0 ((l2).map (·.1)), filM C p1 ((l3).map (·.1)), plD w0 (l2), famM rlM (l2), plD w1 (l3), famM rlM (l3), fr]) ?_ ?_
    · rcases hat with rfl | rfl
      · walk_at "go"
        refine ce_gr (rin := [filM C p0 (l0.map (·.1)), plD w0 l0, famM rlM l0]) (grab3 (by walk_at "pick") (by walk_at "pick2") (by walk_at "pick2")) ⟨p0, w0, l0, s, z, S, rfl, rfl, ⟨a0, hS10, hsS, hz⟩, fun l2 hv2 => ?_⟩
        dsimp only [List.nil_append, List.cons_append]
        walk_at "go"
        exact ⟨l2, l1, hv2, a1, rfl, ent_has (by walk_at "grab")⟩
      · walk_at "go"
        refine ce_gr (rin := [filM C p1 (l1.map (·.1)), plD w1 l1, famM rlM l1]) (grab3 (by walk_at "pick") (by walk_at "pick2") (by walk_at "pick2")) ⟨p1, w1, l1, s, z, S, rfl, rfl, ⟨a1, hS10, hsS, hz⟩, fun l2 hv2 => ?_⟩
        dsimp only [List.nil_append, List.cons_append]
        walk_at "go"
        exact ⟨l0, l2, a0, hv2, rfl, ent_has (by walk_at "grab")⟩
    rintro _ _ ⟨l2, l3, b0, b1, rfl, he⟩
    refine dss_ent he ?_
    refine dss_cons ?_
    refine ds_for (by walk_at "ix") (di_range1 ?_)
    walk_at "go"
    refine ⟨_, rfl, by omega, Nat, List.range 2, fun k => .d (.int (0 + (k : Nat))), rfl, List (List PyData), fun _ => [.d (.list (ns.map .int)), .d (.list (S.map .str)), .r (.ref lb), .r (.ref lp), .r (.ref lh), .d (.int z), .d (.int at0), .d (.str s), .un, .un, .un, .un, .un, .un], fun hs => [heM lh (hs), lstM lb [.r (.ref p0), .r (.ref p1)], lstM lp [.r (.ref w0), .r (.ref w1)], filM C p0 ((l2).map (·.1)), filM C p1 ((l3).map (·.1)), plD w0 (l2), famM rlM (l2), plD w1 (l3), famM rlM (l3), fr], fun pr hs2 => hs2.length ≤ hs.length + pr.length ∧ ∀ l ∈ hs2, SeqAt.shaped (.list l) = true,
      ⟨hs, ⟨Nat.le_refl _, hsh⟩, by walk_at "le0", rfl⟩, fun _ _ _ => trivial, ?_, ?_⟩
    · rintro pr kk po hs2 e2 ⟨q1, q2⟩
      dsimp only at q1 q2 ⊢
      have hlen2 := congrArg List.length e2
      rw [List.length_append, List.length_cons, List.length_range] at hlen2
      have hpl2 : (pr ++ [kk]).length = pr.length + 1 := by rw [List.length_append]; rfl
      refine ⟨_, by walk_at "set", dss_post ?_⟩
      refine dss_cut (I := fun ρ' r' => ∃ wh : Int, (wh = 0 ∨ wh = 1) ∧ ρ' = [.d (.list (ns.map .int)), .d (.list (S.map .str)), .r (.ref lb), .r (.ref lp), .r (.ref lh), .d (.int z), .d (.int at0), .d (.str s), .d (.int (0 + (kk : Nat))), .d (.int wh), .un, .un, .un, .un] ∧ r' = [heM lh (hs2), lstM lb [.r (.ref p0), .r (.ref p1)], lstM lp [.r (.ref w0), .r (.ref w1)], filM C p0 ((l2).map (·.1)), filM C p1 ((l3).map (·.1)), plD w0 (l2), famM rlM (l2), plD w1 (l3), famM rlM (l3), fr]) ?_ ?_
      · walk_at "go"
        exact ⟨_, by omega, rfl, rfl⟩
      rintro _ _ ⟨wh, hwh, rfl, rfl⟩
      rcases hwh with rfl | rfl
      · walk_at "st"; walk_at "go"
        refine ce_gr (rin := [filM C p0 (l2.map (·.1)), plD w0 l2, famM rlM l2, heM lh hs2]) (.cons (by walk_at "pick") (grab3 (by walk_at "pick2") (by walk_at "pick2") (by walk_at "pick2"))) ⟨p0, w0, lh, l2, s, z, hs2, S, rfl, rfl, ⟨b0, hS10, hsS, hSo, by omega⟩, fun L hL => ?_⟩
        dsimp only [List.nil_append, List.cons_append]
        walk_at "go"
        exact ⟨[heM lh (hs2 ++ [L]), lstM lb [.r (.ref p0), .r (.ref p1)], lstM lp [.r (.ref w0), .r (.ref w1)], filM C p0 ((l2).map (·.1)), filM C p1 ((l3).map (·.1)), plD w0 (l2), famM rlM (l2), plD w1 (l3), famM rlM (l3), fr], ent_has (by walk_at "grab"), hs2 ++ [L], ⟨by rw [List.length_append, hpl2]; exact Nat.add_le_add_right q1 1, fun l hl => by
          rcases List.mem_append.mp hl with h | h
          · exact q2 l h
          · rw [List.mem_singleton.mp h]; exact hL⟩, by walk_at "le", rfl⟩
      · walk_at "st"; walk_at "go"
        refine ce_gr (rin := [filM C p1 (l3.map (·.1)), plD w1 l3, famM rlM l3, heM lh hs2]) (.cons (by walk_at "pick") (grab3 (by walk_at "pick2") (by walk_at "pick2") (by walk_at "pick2"))) ⟨p1, w1, lh, l3, s, z, hs2, S, rfl, rfl, ⟨b1, hS10, hsS, hSo, by omega⟩, fun L hL => ?_⟩
        dsimp only [List.nil_append, List.cons_append]
        walk_at "go"
        exact ⟨[heM lh (hs2 ++ [L]), lstM lb [.r (.ref p0), .r (.ref p1)], lstM lp [.r (.ref w0), .r (.ref w1)], filM C p0 ((l2).map (·.1)), filM C p1 ((l3).map (·.1)), plD w0 (l2), famM rlM (l2), plD w1 (l3), famM rlM (l3), fr], ent_has (by walk_at "grab"), hs2 ++ [L], ⟨by rw [List.length_append, hpl2]; exact Nat.add_le_add_right q1 1, fun l hl => by
          rcases List.mem_append.mp hl with h | h
          · exact q2 l h
          · rw [List.mem_singleton.mp h]; exact hL⟩, by walk_at "le", rfl⟩
    · rintro hs2 ⟨q1, q2⟩
      rw [List.length_range] at q1
      walk_at "go"
      exact ⟨_, ent_refl, (l2, l3, hs2), ⟨b0, b1, by rw [hpl]; dsimp only; omega, q2⟩, by walk_at "le", rfl⟩
  · rintro ⟨l0, l1, hs⟩ ⟨a0, a1, hh, hsh⟩
    dsimp only at a0 a1 hh hsh ⊢
    walk_at "go"
    refine ds_for (by walk_at "ix") (di_range1 ?_)
    walk_at "go"
    refine ⟨_, rfl, by omega, Nat, List.range 2, fun k => .d (.int (0 + (k : Nat))), rfl, ?_⟩
    refine for_un (ρ0 := [.d (.list (ns.map .int)), .d (.list (S.map .str)), .r (.ref lb), .r (.ref lp), .r (.ref lh), .un, .un, .un, .un, .un, .un, .un, .un, .un]) (by walk_at "le") trivial ?_ fun kk hkk => ⟨_, by walk_at "set", dss_post ?_⟩
    · walk_at "go"
      refine ds_for2 (by walk_at "ix") (by walk_at "ix") (di_own ?_)
      walk_at "go"
      refine ⟨List PyData, hs, fun l => .list l, fun l => .list l, by rw [List.map_map]; rfl, ?_⟩
      refine ⟨Unit, fun _ => [.d (.list (ns.map .int)), .d (.list (S.map .str)), .r (.ref lb), .r (.ref lp), .r (.ref lh), .un, .un, .un, .un, .un, .un, .un, .un, .un], fun _ => [heM lh (hs), lstM lb [.r (.ref p0), .r (.ref p1)], lstM lp [.r (.ref w0), .r (.ref w1)], filM C p0 ((l0).map (·.1)), filM C p1 ((l1).map (·.1)), plD w0 (l0), famM rlM (l0), plD w1 (l1), famM rlM (l1), fr], fun _ _ => True, ⟨(), trivial, by walk_at "le", rfl⟩, fun _ _ _ => ⟨_, by exact .zero⟩, ?_, fun _ _ => ?_⟩
      · rintro pre l post _ e _
        have hsl : SeqAt.shaped (.list l) = true := hsh l (by rw [e]; simp)
        refine ⟨_, _, by walk_at "set", by walk_at "set", ?_⟩
        walk_at "go"
        exact ⟨(), trivial, by walk_at "le", rfl⟩
      · walk_at "go"
        exact fin [] (ent_has (Bs := [fr]) (by walk_at "grab")) hr
    rw [List.mem_range] at hkk
    have hk2 : kk = 0 ∨ kk = 1 := by omega
    rcases hk2 with rfl | rfl
    · walk_at "st"; walk_at "go"
      refine ds_for (by walk_at "ix") (di_list ?_)
      walk_at "go"
      refine ⟨Frow × Addr, l0, fun x => .d (.str x.1.1), by rw [List.map_map, List.map_map]; rfl, ?_⟩
      refine for_un (ρ0 := [.d (.list (ns.map .int)), .d (.list (S.map .str)), .r (.ref lb), .r (.ref lp), .r (.ref lh), .un, .un, .un, .d (.int (0 + (0 : Nat))), .un, .un, .un, .un, .un]) (by walk_at "le") trivial ?_ fun x hx => ⟨_, by walk_at "set", dss_post ?_⟩
      · walk_at "go"
        exact ⟨_, ent_refl, by walk_at "le", rfl⟩
      obtain ⟨i, hi2⟩ := List.mem_iff_getElem?.mp hx
      obtain ⟨⟨s, r⟩, a⟩ := x
      dsimp only
      have hfi := a0.fi hS10
      have hnl := hfi.nl rfl
      have hi : (l0.map (·.1))[i]? = some (s, r) := by rw [List.getElem?_map, hi2]; rfl
      have hv2 := fk_at hnl hi2
      have hrw := a0.at hi
      have hrn := hrw.few
      refine dss_ent (rs2 := [rlM ((s, r), a), famM rlM (l0.take i ++ l0.drop (i + 1)), plD w0 l0, heM lh hs, lstM lb [.r (.ref p0), .r (.ref p1)], lstM lp [.r (.ref w0), .r (.ref w1)], filM C p0 (l0.map (·.1)), filM C p1 (l1.map (·.1)), plD w1 l1, famM rlM l1, fr]) (ent_trans (ent_has (Bs := [plD w0 l0, famM rlM l0, heM lh hs, lstM lb [.r (.ref p0), .r (.ref p1)], lstM lp [.r (.ref w0), .r (.ref w1)], filM C p0 (l0.map (·.1)), filM C p1 (l1.map (·.1)), plD w1 l1, famM rlM l1, fr]) (by walk_at "grab")) (pl_out hi2)) ?_
      walk_at "st"
      refine ds_for (by walk_at "ix") (di_range1 ?_)
      walk_at "go"
      rw [List.length_map, rwsD_len]
      refine ⟨_, rfl, by omega, Nat, List.range r.length, fun k => .d (.int (0 + (k : Nat))), rfl, ?_⟩
      refine for_un (ρ0 := [.d (.list (ns.map .int)), .d (.list (S.map .str)), .r (.ref lb), .r (.ref lp), .r (.ref lh), .un, .un, .d (.str s), .d (.int (0 + (0 : Nat))), .un, .un, .un, .un, .un]) (by walk_at "le") trivial ?_ fun k hk => ⟨_, by walk_at "set", dss_post ?_⟩
      · walk_at "go"
        exact ⟨[heM lh (hs), lstM lb [.r (.ref p0), .r (.ref p1)], lstM lp [.r (.ref w0), .r (.ref w1)], filM C p0 ((l0).map (·.1)), filM C p1 ((l1).map (·.1)), plD w0 (l0), famM rlM (l0), plD w1 (l1), famM rlM (l1), fr], ent_trans (pl_back hi2) (ent_has (by walk_at "grab")), by walk_at "le", rfl⟩
      rw [List.mem_range] at hk
      have hrow : r[k]? = some (r[k]'hk) := List.getElem?_eq_getElem _
      generalize r[k]'hk = row at hrow
      have hat : atI ((rwsD r).map Sl.d) (0 + (k : Int)) = some (.d (rwD row)) := by rw [Int.zero_add]; exact rwsD_at hrow
      have h4 := hrw.four row (List.mem_of_getElem? hrow)
      have hc0 : FiOk (l0.map (·.1)) ∧ (0 : Int) ≤ 0 + (k : Int) := ⟨hfi, by omega⟩
      walk_at "st"; walk_at "go"
      refine ⟨fun i2 r2 hi3 => ⟨fun row2 hrow2 q => ?_, fun hk2 => ?_⟩, fun hn => absurd (fl_mem hi) hn⟩
      · obtain ⟨_, rfl⟩ := fl_uniq hfi hi hi3
        rw [show (0 + (k : Int)).toNat = k by omega, hrow] at hrow2
        cases hrow2
        walk_at "go"
        refine ce_lend [(q, row.map .int)] (rin := []) (grab1 (by walk_at "pick")) (by walk_at "lent") ⟨_, rfl, rfl, (alike_row row h4).mono, rfl, lnda_nil, ?_⟩
        dsimp only [lent_cons, lent_nil, List.nil_append, List.cons_append]
        walk_at "go"
        exact ⟨[rlM ((s, r), a), famM rlM (l0.take i ++ l0.drop (i + 1)), plD w0 l0, heM lh hs, lstM lb [.r (.ref p0), .r (.ref p1)], lstM lp [.r (.ref w0), .r (.ref w1)], filM C p0 (l0.map (·.1)), filM C p1 (l1.map (·.1)), plD w1 l1, famM rlM l1, fr], ent_has (by walk_at "grab"), by walk_at "le", rfl⟩
      · obtain ⟨_, rfl⟩ := fl_uniq hfi hi hi3
        omega
    · walk_at "st"; walk_at "go"
      refine ds_for (by walk_at "ix") (di_list ?_)
      walk_at "go"
      refine ⟨Frow × Addr, l1, fun x => .d (.str x.1.1), by rw [List.map_map, List.map_map]; rfl, ?_⟩
      refine for_un (ρ0 := [.d (.list (ns.map .int)), .d (.list (S.map .str)), .r (.ref lb), .r (.ref lp), .r (.ref lh), .un, .un, .un, .d (.int (0 + (1 : Nat))), .un, .un, .un, .un, .un]) (by walk_at "le") trivial ?_ fun x hx => ⟨_, by walk_at "set", dss_post ?_⟩
      · walk_at "go"
        exact ⟨_, ent_refl, by walk_at "le", rfl⟩
      obtain ⟨i, hi2⟩ := List.mem_iff_getElem?.mp hx
      obtain ⟨⟨s, r⟩, a⟩ := x
      dsimp only
      have hfi := a1.fi hS10
      have hnl := hfi.nl rfl
      have hi : (l1.map (·.1))[i]? = some (s, r) := by rw [List.getElem?_map, hi2]; rfl
      have hv2 := fk_at hnl hi2
      have hrw := a1.at hi
      have hrn := hrw.few
      refine dss_ent (rs2 := [rlM ((s, r), a), famM rlM (l1.take i ++ l1.drop (i + 1)), plD w1 l1, heM lh hs, lstM lb [.r (.ref p0), .r (.ref p1)], lstM lp [.r (.ref w0), .r (.ref w1)], filM C p1 (l1.map (·.1)), filM C p0 (l0.map (·.1)), plD w0 l0, famM rlM l0, fr]) (ent_trans (ent_has (Bs := [plD w1 l1, famM rlM l1, heM lh hs, lstM lb [.r (.ref p0), .r (.ref p1)], lstM lp [.r (.ref w0), .r (.ref w1)], filM C p1 (l1.map (·.1)), filM C p0 (l0.map (·.1)), plD w0 l0, famM rlM l0, fr]) (by walk_at "grab")) (pl_out hi2)) ?_
      walk_at "st"
      refine ds_for (by walk_at "ix") (di_range1 ?_)
      walk_at "go"
      rw [List.length_map, rwsD_len]
      refine ⟨_, rfl, by omega, Nat, List.range r.length, fun k => .d (.int (0 + (k : Nat))), rfl, ?_⟩
      refine for_un (ρ0 := [.d (.list (ns.map .int)), .d (.list (S.map .str)), .r (.ref lb), .r (.ref lp), .r (.ref lh), .un, .un, .d (.str s), .d (.int (0 + (1 : Nat))), .un, .un, .un, .un, .un]) (by walk_at "le") trivial ?_ fun k hk => ⟨_, by walk_at "set", dss_post ?_⟩
      · walk_at "go"
        exact ⟨[heM lh (hs), lstM lb [.r (.ref p0), .r (.ref p1)], lstM lp [.r (.ref w0), .r (.ref w1)], filM C p0 ((l0).map (·.1)), filM C p1 ((l1).map (·.1)), plD w0 (l0), famM rlM (l0), plD w1 (l1), famM rlM (l1), fr], ent_trans (pl_back hi2) (ent_has (by walk_at "grab")), by walk_at "le", rfl⟩
      rw [List.mem_range] at hk
      have hrow : r[k]? = some (r[k]'hk) := List.getElem?_eq_getElem _
      generalize r[k]'hk = row at hrow
      have hat : atI ((rwsD r).map Sl.d) (0 + (k : Int)) = some (.d (rwD row)) := by rw [Int.zero_add]; exact rwsD_at hrow
      have h4 := hrw.four row (List.mem_of_getElem? hrow)
      have hc0 : FiOk (l1.map (·.1)) ∧ (0 : Int) ≤ 0 + (k : Int) := ⟨hfi, by omega⟩
      walk_at "st"; walk_at "go"
      refine ⟨fun i2 r2 hi3 => ⟨fun row2 hrow2 q => ?_, fun hk2 => ?_⟩, fun hn => absurd (fl_mem hi) hn⟩
      · obtain ⟨_, rfl⟩ := fl_uniq hfi hi hi3
        rw [show (0 + (k : Int)).toNat = k by omega, hrow] at hrow2
        cases hrow2
        walk_at "go"
        refine ce_lend [(q, row.map .int)] (rin := []) (grab1 (by walk_at "pick")) (by walk_at "lent") ⟨_, rfl, rfl, (alike_row row h4).mono, rfl, lnda_nil, ?_⟩
        dsimp only [lent_cons, lent_nil, List.nil_append, List.cons_append]
        walk_at "go"
        exact ⟨[rlM ((s, r), a), famM rlM (l1.take i ++ l1.drop (i + 1)), plD w1 l1, heM lh hs, lstM lb [.r (.ref p0), .r (.ref p1)], lstM lp [.r (.ref w0), .r (.ref w1)], filM C p1 (l1.map (·.1)), filM C p0 (l0.map (·.1)), plD w0 l0, famM rlM l0, fr], ent_has (by walk_at "grab"), by walk_at "le", rfl⟩
      · obtain ⟨_, rfl⟩ := fl_uniq hfi hi hi3
        omega
end

/-! ### the end -/
theorem all_mk {l : PySem.W.OpenLaw} {w : World} {K : PySem.W.Frag} {h : Heap} {mg : Str → Option Value} {fa : Addr} (X : K.In h) (G : h.Ns mainGlobals mg) (hfa : mg "law" = some (.ref fa))
    {p_Files___init__ : Addr} {od_Files___init__ an_Files___init__ : Option Addr} {sl_Files___init__ : Array (Option Value)} {oc_Files___init__ kV_Files___init__ dc_Files___init__ pm_Files___init__ cd_Files___init__ ct_Files___init__ : Value}
    {p_Files_make : Addr} {od_Files_make an_Files_make : Option Addr} {sl_Files_make : Array (Option Value)} {oc_Files_make kV_Files_make dc_Files_make pm_Files_make cd_Files_make ct_Files_make : Value}
    {p_Files_size_of : Addr} {od_Files_size_of an_Files_size_of : Option Addr} {sl_Files_size_of : Array (Option Value)} {oc_Files_size_of kV_Files_size_of dc_Files_size_of pm_Files_size_of cd_Files_size_of ct_Files_size_of : Value}
    {p_Files_ask_page : Addr} {od_Files_ask_page an_Files_ask_page : Option Addr} {sl_Files_ask_page : Array (Option Value)} {oc_Files_ask_page kV_Files_ask_page dc_Files_ask_page pm_Files_ask_page cd_Files_ask_page ct_Files_ask_page : Value}
    {p_Files_row_at : Addr} {od_Files_row_at an_Files_row_at : Option Addr} {sl_Files_row_at : Array (Option Value)} {oc_Files_row_at kV_Files_row_at dc_Files_row_at pm_Files_row_at cd_Files_row_at ct_Files_row_at : Value}
    {p_Files_store_row : Addr} {od_Files_store_row an_Files_store_row : Option Addr} {sl_Files_store_row : Array (Option Value)} {oc_Files_store_row kV_Files_store_row dc_Files_store_row pm_Files_store_row cd_Files_store_row ct_Files_store_row : Value}
    {p_Files_drop : Addr} {od_Files_drop an_Files_drop : Option Addr} {sl_Files_drop : Array (Option Value)} {oc_Files_drop kV_Files_drop dc_Files_drop pm_Files_drop cd_Files_drop ct_Files_drop : Value}
    {p_Files_names : Addr} {od_Files_names an_Files_names : Option Addr} {sl_Files_names : Array (Option Value)} {oc_Files_names kV_Files_names dc_Files_names pm_Files_names cd_Files_names ct_Files_names : Value}
    {p_Lcell_at : Addr} {od_Lcell_at an_Lcell_at : Option Addr} {sl_Lcell_at : Array (Option Value)} {oc_Lcell_at kV_Lcell_at dc_Lcell_at pm_Lcell_at cd_Lcell_at ct_Lcell_at : Value}
    {p_Lwhole : Addr} {od_Lwhole an_Lwhole : Option Addr} {sl_Lwhole : Array (Option Value)} {oc_Lwhole kV_Lwhole dc_Lwhole pm_Lwhole cd_Lwhole ct_Lwhole : Value}
    {p_Lalike : Addr} {od_Lalike an_Lalike : Option Addr} {sl_Lalike : Array (Option Value)} {oc_Lalike kV_Lalike dc_Lalike pm_Lalike cd_Lalike ct_Lalike : Value}
    {p_Lnum : Addr} {od_Lnum an_Lnum : Option Addr} {sl_Lnum : Array (Option Value)} {oc_Lnum kV_Lnum dc_Lnum pm_Lnum cd_Lnum ct_Lnum : Value}
    {p_Lrow : Addr} {od_Lrow an_Lrow : Option Addr} {sl_Lrow : Array (Option Value)} {oc_Lrow kV_Lrow dc_Lrow pm_Lrow cd_Lrow ct_Lrow : Value}
    {p_Lname : Addr} {od_Lname an_Lname : Option Addr} {sl_Lname : Array (Option Value)} {oc_Lname kV_Lname dc_Lname pm_Lname cd_Lname ct_Lname : Value}
    {p_Lrows : Addr} {od_Lrows an_Lrows : Option Addr} {sl_Lrows : Array (Option Value)} {oc_Lrows kV_Lrows dc_Lrows pm_Lrows cd_Lrows ct_Lrows : Value}
    {p_Lasked : Addr} {od_Lasked an_Lasked : Option Addr} {sl_Lasked : Array (Option Value)} {oc_Lasked kV_Lasked dc_Lasked pm_Lasked cd_Lasked ct_Lasked : Value}
    {p_Ldue : Addr} {od_Ldue an_Ldue : Option Addr} {sl_Ldue : Array (Option Value)} {oc_Ldue kV_Ldue dc_Ldue pm_Ldue cd_Ldue ct_Ldue : Value}
    {p_Ldone : Addr} {od_Ldone an_Ldone : Option Addr} {sl_Ldone : Array (Option Value)} {oc_Ldone kV_Ldone dc_Ldone pm_Ldone cd_Ldone ct_Ldone : Value}
    {p_Ldeed : Addr} {od_Ldeed an_Ldeed : Option Addr} {sl_Ldeed : Array (Option Value)} {oc_Ldeed kV_Ldeed dc_Ldeed pm_Ldeed cd_Ldeed ct_Ldeed : Value}
    {p_Lis_files : Addr} {od_Lis_files an_Lis_files : Option Addr} {sl_Lis_files : Array (Option Value)} {oc_Lis_files kV_Lis_files dc_Lis_files pm_Lis_files cd_Lis_files ct_Lis_files : Value}
    {p_law : Addr} {od_law an_law : Option Addr} {sl_law : Array (Option Value)} {oc_law kV_law dc_law pm_law cd_law ct_law : Value}
    {C_Files : Addr}
    {C_PaneError : Addr}
    {C_NoNumber : Addr}
    {C_NoSpace : Addr}
    {C_NoFile : Addr}
    {C_NoPage : Addr}
    {C_NoRight : Addr}
    {C_Taken : Addr}
    {C_Held : Addr}
    {C_Full : Addr}
    {C_NoRow : Addr}
    (aC_Files : PySem.W.nsIn K mainGlobals "Files" = some (some (.ref C_Files)))
    (pg_Files : PySem.W.plainGet K C_Files Str.empty = true)
    (hd_Files : PySem.W.hasDictIn K C_Files = true)
    (po_Files : PySem.W.plainOver K C_Files = true)
    (sa_Files : PySem.W.findIn K (.ref C_Files) "__setattr__" = some (some (.builtin "object.__setattr__")))
    (mkf_Files : PySem.W.makesIn K C_Files = true)
    (kc_Files : PySem.W.keepIn K (.ref C_Files) = true)
    (na_Files_my_files : PySem.W.findIn K (.ref C_Files) "my_files" = some none)
    (a_Files___init__ : PySem.W.findIn K (.ref C_Files) "__init__" = some (some (.ref p_Files___init__)))
    (i_Files___init__ : PySem.W.isFn K (.ref p_Files___init__) = true)
    (l_Files___init__ : K.lookup p_Files___init__ = some ⟨oc_Files___init__, od_Files___init__, .func (PySem.W.fnOf "__init__" "Files.__init__" (defArgs s_Files___init__) (defBody s_Files___init__) (defScope s_Files___init__) .none kV_Files___init__ dc_Files___init__ pm_Files___init__ an_Files___init__ cd_Files___init__ ct_Files___init__), sl_Files___init__⟩)
    (c_Files___init__ : PySem.W.codeIn K cd_Files___init__ "Files.__init__" = true)
    (k_Files___init__ : PySem.W.keepIn K (.ref p_Files___init__) = true)
    (a_Files_make : PySem.W.findIn K (.ref C_Files) "make" = some (some (.ref p_Files_make)))
    (i_Files_make : PySem.W.isFn K (.ref p_Files_make) = true)
    (l_Files_make : K.lookup p_Files_make = some ⟨oc_Files_make, od_Files_make, .func (PySem.W.fnOf "make" "Files.make" (defArgs s_Files_make) (defBody s_Files_make) (defScope s_Files_make) .none kV_Files_make dc_Files_make pm_Files_make an_Files_make cd_Files_make ct_Files_make), sl_Files_make⟩)
    (c_Files_make : PySem.W.codeIn K cd_Files_make "Files.make" = true)
    (k_Files_make : PySem.W.keepIn K (.ref p_Files_make) = true)
    (a_Files_size_of : PySem.W.findIn K (.ref C_Files) "size_of" = some (some (.ref p_Files_size_of)))
    (i_Files_size_of : PySem.W.isFn K (.ref p_Files_size_of) = true)
    (l_Files_size_of : K.lookup p_Files_size_of = some ⟨oc_Files_size_of, od_Files_size_of, .func (PySem.W.fnOf "size_of" "Files.size_of" (defArgs s_Files_size_of) (defBody s_Files_size_of) (defScope s_Files_size_of) .none kV_Files_size_of dc_Files_size_of pm_Files_size_of an_Files_size_of cd_Files_size_of ct_Files_size_of), sl_Files_size_of⟩)
    (c_Files_size_of : PySem.W.codeIn K cd_Files_size_of "Files.size_of" = true)
    (k_Files_size_of : PySem.W.keepIn K (.ref p_Files_size_of) = true)
    (a_Files_ask_page : PySem.W.findIn K (.ref C_Files) "ask_page" = some (some (.ref p_Files_ask_page)))
    (i_Files_ask_page : PySem.W.isFn K (.ref p_Files_ask_page) = true)
    (l_Files_ask_page : K.lookup p_Files_ask_page = some ⟨oc_Files_ask_page, od_Files_ask_page, .func (PySem.W.fnOf "ask_page" "Files.ask_page" (defArgs s_Files_ask_page) (defBody s_Files_ask_page) (defScope s_Files_ask_page) .none kV_Files_ask_page dc_Files_ask_page pm_Files_ask_page an_Files_ask_page cd_Files_ask_page ct_Files_ask_page), sl_Files_ask_page⟩)
    (c_Files_ask_page : PySem.W.codeIn K cd_Files_ask_page "Files.ask_page" = true)
    (k_Files_ask_page : PySem.W.keepIn K (.ref p_Files_ask_page) = true)
    (a_Files_row_at : PySem.W.findIn K (.ref C_Files) "row_at" = some (some (.ref p_Files_row_at)))
    (i_Files_row_at : PySem.W.isFn K (.ref p_Files_row_at) = true)
    (l_Files_row_at : K.lookup p_Files_row_at = some ⟨oc_Files_row_at, od_Files_row_at, .func (PySem.W.fnOf "row_at" "Files.row_at" (defArgs s_Files_row_at) (defBody s_Files_row_at) (defScope s_Files_row_at) .none kV_Files_row_at dc_Files_row_at pm_Files_row_at an_Files_row_at cd_Files_row_at ct_Files_row_at), sl_Files_row_at⟩)
    (c_Files_row_at : PySem.W.codeIn K cd_Files_row_at "Files.row_at" = true)
    (k_Files_row_at : PySem.W.keepIn K (.ref p_Files_row_at) = true)
    (a_Files_store_row : PySem.W.findIn K (.ref C_Files) "store_row" = some (some (.ref p_Files_store_row)))
    (i_Files_store_row : PySem.W.isFn K (.ref p_Files_store_row) = true)
    (l_Files_store_row : K.lookup p_Files_store_row = some ⟨oc_Files_store_row, od_Files_store_row, .func (PySem.W.fnOf "store_row" "Files.store_row" (defArgs s_Files_store_row) (defBody s_Files_store_row) (defScope s_Files_store_row) .none kV_Files_store_row dc_Files_store_row pm_Files_store_row an_Files_store_row cd_Files_store_row ct_Files_store_row), sl_Files_store_row⟩)
    (c_Files_store_row : PySem.W.codeIn K cd_Files_store_row "Files.store_row" = true)
    (k_Files_store_row : PySem.W.keepIn K (.ref p_Files_store_row) = true)
    (a_Files_drop : PySem.W.findIn K (.ref C_Files) "drop" = some (some (.ref p_Files_drop)))
    (i_Files_drop : PySem.W.isFn K (.ref p_Files_drop) = true)
    (l_Files_drop : K.lookup p_Files_drop = some ⟨oc_Files_drop, od_Files_drop, .func (PySem.W.fnOf "drop" "Files.drop" (defArgs s_Files_drop) (defBody s_Files_drop) (defScope s_Files_drop) .none kV_Files_drop dc_Files_drop pm_Files_drop an_Files_drop cd_Files_drop ct_Files_drop), sl_Files_drop⟩)
    (c_Files_drop : PySem.W.codeIn K cd_Files_drop "Files.drop" = true)
    (k_Files_drop : PySem.W.keepIn K (.ref p_Files_drop) = true)
    (a_Files_names : PySem.W.findIn K (.ref C_Files) "names" = some (some (.ref p_Files_names)))
    (i_Files_names : PySem.W.isFn K (.ref p_Files_names) = true)
    (l_Files_names : K.lookup p_Files_names = some ⟨oc_Files_names, od_Files_names, .func (PySem.W.fnOf "names" "Files.names" (defArgs s_Files_names) (defBody s_Files_names) (defScope s_Files_names) .none kV_Files_names dc_Files_names pm_Files_names an_Files_names cd_Files_names ct_Files_names), sl_Files_names⟩)
    (c_Files_names : PySem.W.codeIn K cd_Files_names "Files.names" = true)
    (k_Files_names : PySem.W.keepIn K (.ref p_Files_names) = true)
    (a_Lcell_at : PySem.W.nsIn K mainGlobals "_law_cell_at" = some (some (.ref p_Lcell_at)))
    (l_Lcell_at : K.lookup p_Lcell_at = some ⟨oc_Lcell_at, od_Lcell_at, .func (PySem.W.fnOf "_law_cell_at" "_law_cell_at" (defArgs s_Lcell_at) (defBody s_Lcell_at) (defScope s_Lcell_at) .none kV_Lcell_at dc_Lcell_at pm_Lcell_at an_Lcell_at cd_Lcell_at ct_Lcell_at), sl_Lcell_at⟩)
    (c_Lcell_at : PySem.W.codeIn K cd_Lcell_at "_law_cell_at" = true)
    (k_Lcell_at : PySem.W.keepIn K (.ref p_Lcell_at) = true)
    (a_Lwhole : PySem.W.nsIn K mainGlobals "_law_whole" = some (some (.ref p_Lwhole)))
    (l_Lwhole : K.lookup p_Lwhole = some ⟨oc_Lwhole, od_Lwhole, .func (PySem.W.fnOf "_law_whole" "_law_whole" (defArgs s_Lwhole) (defBody s_Lwhole) (defScope s_Lwhole) .none kV_Lwhole dc_Lwhole pm_Lwhole an_Lwhole cd_Lwhole ct_Lwhole), sl_Lwhole⟩)
    (c_Lwhole : PySem.W.codeIn K cd_Lwhole "_law_whole" = true)
    (k_Lwhole : PySem.W.keepIn K (.ref p_Lwhole) = true)
    (a_Lalike : PySem.W.nsIn K mainGlobals "_law_alike" = some (some (.ref p_Lalike)))
    (l_Lalike : K.lookup p_Lalike = some ⟨oc_Lalike, od_Lalike, .func (PySem.W.fnOf "_law_alike" "_law_alike" (defArgs s_Lalike) (defBody s_Lalike) (defScope s_Lalike) .none kV_Lalike dc_Lalike pm_Lalike an_Lalike cd_Lalike ct_Lalike), sl_Lalike⟩)
    (c_Lalike : PySem.W.codeIn K cd_Lalike "_law_alike" = true)
    (k_Lalike : PySem.W.keepIn K (.ref p_Lalike) = true)
    (a_Lnum : PySem.W.nsIn K mainGlobals "_law_num" = some (some (.ref p_Lnum)))
    (l_Lnum : K.lookup p_Lnum = some ⟨oc_Lnum, od_Lnum, .func (PySem.W.fnOf "_law_num" "_law_num" (defArgs s_Lnum) (defBody s_Lnum) (defScope s_Lnum) .none kV_Lnum dc_Lnum pm_Lnum an_Lnum cd_Lnum ct_Lnum), sl_Lnum⟩)
    (c_Lnum : PySem.W.codeIn K cd_Lnum "_law_num" = true)
    (k_Lnum : PySem.W.keepIn K (.ref p_Lnum) = true)
    (a_Lrow : PySem.W.nsIn K mainGlobals "_law_row" = some (some (.ref p_Lrow)))
    (l_Lrow : K.lookup p_Lrow = some ⟨oc_Lrow, od_Lrow, .func (PySem.W.fnOf "_law_row" "_law_row" (defArgs s_Lrow) (defBody s_Lrow) (defScope s_Lrow) .none kV_Lrow dc_Lrow pm_Lrow an_Lrow cd_Lrow ct_Lrow), sl_Lrow⟩)
    (c_Lrow : PySem.W.codeIn K cd_Lrow "_law_row" = true)
    (k_Lrow : PySem.W.keepIn K (.ref p_Lrow) = true)
    (a_Lname : PySem.W.nsIn K mainGlobals "_law_name" = some (some (.ref p_Lname)))
    (l_Lname : K.lookup p_Lname = some ⟨oc_Lname, od_Lname, .func (PySem.W.fnOf "_law_name" "_law_name" (defArgs s_Lname) (defBody s_Lname) (defScope s_Lname) .none kV_Lname dc_Lname pm_Lname an_Lname cd_Lname ct_Lname), sl_Lname⟩)
    (c_Lname : PySem.W.codeIn K cd_Lname "_law_name" = true)
    (k_Lname : PySem.W.keepIn K (.ref p_Lname) = true)
    (a_Lrows : PySem.W.nsIn K mainGlobals "_law_rows" = some (some (.ref p_Lrows)))
    (l_Lrows : K.lookup p_Lrows = some ⟨oc_Lrows, od_Lrows, .func (PySem.W.fnOf "_law_rows" "_law_rows" (defArgs s_Lrows) (defBody s_Lrows) (defScope s_Lrows) .none kV_Lrows dc_Lrows pm_Lrows an_Lrows cd_Lrows ct_Lrows), sl_Lrows⟩)
    (c_Lrows : PySem.W.codeIn K cd_Lrows "_law_rows" = true)
    (k_Lrows : PySem.W.keepIn K (.ref p_Lrows) = true)
    (a_Lasked : PySem.W.nsIn K mainGlobals "_law_asked" = some (some (.ref p_Lasked)))
    (l_Lasked : K.lookup p_Lasked = some ⟨oc_Lasked, od_Lasked, .func (PySem.W.fnOf "_law_asked" "_law_asked" (defArgs s_Lasked) (defBody s_Lasked) (defScope s_Lasked) .none kV_Lasked dc_Lasked pm_Lasked an_Lasked cd_Lasked ct_Lasked), sl_Lasked⟩)
    (c_Lasked : PySem.W.codeIn K cd_Lasked "_law_asked" = true)
    (k_Lasked : PySem.W.keepIn K (.ref p_Lasked) = true)
    (a_Ldue : PySem.W.nsIn K mainGlobals "_law_due" = some (some (.ref p_Ldue)))
    (l_Ldue : K.lookup p_Ldue = some ⟨oc_Ldue, od_Ldue, .func (PySem.W.fnOf "_law_due" "_law_due" (defArgs s_Ldue) (defBody s_Ldue) (defScope s_Ldue) .none kV_Ldue dc_Ldue pm_Ldue an_Ldue cd_Ldue ct_Ldue), sl_Ldue⟩)
    (c_Ldue : PySem.W.codeIn K cd_Ldue "_law_due" = true)
    (k_Ldue : PySem.W.keepIn K (.ref p_Ldue) = true)
    (a_Ldone : PySem.W.nsIn K mainGlobals "_law_done" = some (some (.ref p_Ldone)))
    (l_Ldone : K.lookup p_Ldone = some ⟨oc_Ldone, od_Ldone, .func (PySem.W.fnOf "_law_done" "_law_done" (defArgs s_Ldone) (defBody s_Ldone) (defScope s_Ldone) .none kV_Ldone dc_Ldone pm_Ldone an_Ldone cd_Ldone ct_Ldone), sl_Ldone⟩)
    (c_Ldone : PySem.W.codeIn K cd_Ldone "_law_done" = true)
    (k_Ldone : PySem.W.keepIn K (.ref p_Ldone) = true)
    (a_Ldeed : PySem.W.nsIn K mainGlobals "_law_deed" = some (some (.ref p_Ldeed)))
    (l_Ldeed : K.lookup p_Ldeed = some ⟨oc_Ldeed, od_Ldeed, .func (PySem.W.fnOf "_law_deed" "_law_deed" (defArgs s_Ldeed) (defBody s_Ldeed) (defScope s_Ldeed) .none kV_Ldeed dc_Ldeed pm_Ldeed an_Ldeed cd_Ldeed ct_Ldeed), sl_Ldeed⟩)
    (c_Ldeed : PySem.W.codeIn K cd_Ldeed "_law_deed" = true)
    (k_Ldeed : PySem.W.keepIn K (.ref p_Ldeed) = true)
    (a_Lis_files : PySem.W.nsIn K mainGlobals "_law_is_files" = some (some (.ref p_Lis_files)))
    (l_Lis_files : K.lookup p_Lis_files = some ⟨oc_Lis_files, od_Lis_files, .func (PySem.W.fnOf "_law_is_files" "_law_is_files" (defArgs s_Lis_files) (defBody s_Lis_files) (defScope s_Lis_files) .none kV_Lis_files dc_Lis_files pm_Lis_files an_Lis_files cd_Lis_files ct_Lis_files), sl_Lis_files⟩)
    (c_Lis_files : PySem.W.codeIn K cd_Lis_files "_law_is_files" = true)
    (k_Lis_files : PySem.W.keepIn K (.ref p_Lis_files) = true)
    (a_law : PySem.W.nsIn K mainGlobals "law" = some (some (.ref p_law)))
    (l_law : K.lookup p_law = some ⟨oc_law, od_law, .func (PySem.W.fnOf "law" "law" (defArgs s_law) (defBody s_law) (defScope s_law) .none kV_law dc_law pm_law an_law cd_law ct_law), sl_law⟩)
    (c_law : PySem.W.codeIn K cd_law "law" = true)
    (k_law : PySem.W.keepIn K (.ref p_law) = true)
    (z_len : PySem.W.nsIn K mainGlobals "len" = some none)
    (z_range : PySem.W.nsIn K mainGlobals "range" = some none)
    (z_isinstance : PySem.W.nsIn K mainGlobals "isinstance" = some none)
    (z_list : PySem.W.nsIn K mainGlobals "list" = some none)
    (z_int : PySem.W.nsIn K mainGlobals "int" = some none)
    (z_bool : PySem.W.nsIn K mainGlobals "bool" = some none)
    (z_str : PySem.W.nsIn K mainGlobals "str" = some none)
    (z_tuple : PySem.W.nsIn K mainGlobals "tuple" = some none)
    (z_dict : PySem.W.nsIn K mainGlobals "dict" = some none)
    (z_set : PySem.W.nsIn K mainGlobals "set" = some none)
    (z_sorted : PySem.W.nsIn K mainGlobals "sorted" = some none)
    (z_min : PySem.W.nsIn K mainGlobals "min" = some none)
    (z_max : PySem.W.nsIn K mainGlobals "max" = some none)
    (z_reversed : PySem.W.nsIn K mainGlobals "reversed" = some none)
    (z_ValueError : PySem.W.nsIn K mainGlobals "ValueError" = some none)
    (gC_PaneError : PySem.W.nsIn K mainGlobals "PaneError" = some (some (.ref C_PaneError)))
    (gC_NoNumber : PySem.W.nsIn K mainGlobals "NoNumber" = some (some (.ref C_NoNumber)))
    (gC_NoSpace : PySem.W.nsIn K mainGlobals "NoSpace" = some (some (.ref C_NoSpace)))
    (gC_NoFile : PySem.W.nsIn K mainGlobals "NoFile" = some (some (.ref C_NoFile)))
    (gC_NoPage : PySem.W.nsIn K mainGlobals "NoPage" = some (some (.ref C_NoPage)))
    (gC_NoRight : PySem.W.nsIn K mainGlobals "NoRight" = some (some (.ref C_NoRight)))
    (gC_Taken : PySem.W.nsIn K mainGlobals "Taken" = some (some (.ref C_Taken)))
    (gC_Held : PySem.W.nsIn K mainGlobals "Held" = some (some (.ref C_Held)))
    (gC_Full : PySem.W.nsIn K mainGlobals "Full" = some (some (.ref C_Full)))
    (gC_NoRow : PySem.W.nsIn K mainGlobals "NoRow" = some (some (.ref C_NoRow)))
    (yc_PaneError : PySem.W.isClsIn K C_PaneError = true)
    (yt_PaneError : PySem.W.typeIn K (.ref C_PaneError) = some (.type "type"))
    (yc_NoNumber : PySem.W.isClsIn K C_NoNumber = true)
    (yt_NoNumber : PySem.W.typeIn K (.ref C_NoNumber) = some (.type "type"))
    (yc_NoSpace : PySem.W.isClsIn K C_NoSpace = true)
    (yt_NoSpace : PySem.W.typeIn K (.ref C_NoSpace) = some (.type "type"))
    (yc_NoFile : PySem.W.isClsIn K C_NoFile = true)
    (yt_NoFile : PySem.W.typeIn K (.ref C_NoFile) = some (.type "type"))
    (yc_NoPage : PySem.W.isClsIn K C_NoPage = true)
    (yt_NoPage : PySem.W.typeIn K (.ref C_NoPage) = some (.type "type"))
    (yc_NoRight : PySem.W.isClsIn K C_NoRight = true)
    (yt_NoRight : PySem.W.typeIn K (.ref C_NoRight) = some (.type "type"))
    (yc_Taken : PySem.W.isClsIn K C_Taken = true)
    (yt_Taken : PySem.W.typeIn K (.ref C_Taken) = some (.type "type"))
    (yc_Held : PySem.W.isClsIn K C_Held = true)
    (yt_Held : PySem.W.typeIn K (.ref C_Held) = some (.type "type"))
    (yc_Full : PySem.W.isClsIn K C_Full = true)
    (yt_Full : PySem.W.typeIn K (.ref C_Full) = some (.type "type"))
    (yc_NoRow : PySem.W.isClsIn K C_NoRow = true)
    (yt_NoRow : PySem.W.typeIn K (.ref C_NoRow) = some (.type "type"))
    (yb : PySem.W.subIn K (.ref C_PaneError) (.type "BaseException") = some true)
    (xq_NoFile : PySem.W.excIn K C_NoFile [.type "ValueError", .type "Exception", .type "BaseException", .type "object"] "ValueError.__new__" = true)
    (xk_NoFile : PySem.W.keepIn K (.ref C_NoFile) = true)
    (x1_NoFile : PySem.W.findIn K (.ref C_NoFile) "__getattribute__" = some (some (.builtin "BaseException.__getattribute__")))
    (x2_NoFile : PySem.W.findIn K (.ref C_NoFile) "__getattr__" = some none)
    (x3_NoFile : PySem.W.subIn K (.ref C_NoFile) (.type "BaseException") = some true)
    (x4_NoFile : PySem.W.hasDictIn K C_NoFile = true)
    (x5_NoFile : PySem.W.findIn K (.ref C_NoFile) "__class__" = some (some (.builtin "object.__class__")))
    (x8_NoFile : PySem.W.mroIn K C_NoFile (.type "object") = some true)
    (kv_NoFile : PySem.W.subIn K (.ref C_NoFile) (.type "ValueError") = some true)
    (kt_NoFile_PaneError : PySem.W.subIn K (.ref C_NoFile) (.ref C_PaneError) = some true)
    (kt_NoFile_NoNumber : PySem.W.subIn K (.ref C_NoFile) (.ref C_NoNumber) = some false)
    (kt_NoFile_NoSpace : PySem.W.subIn K (.ref C_NoFile) (.ref C_NoSpace) = some false)
    (kt_NoFile_NoFile : PySem.W.subIn K (.ref C_NoFile) (.ref C_NoFile) = some true)
    (kt_NoFile_NoPage : PySem.W.subIn K (.ref C_NoFile) (.ref C_NoPage) = some false)
    (kt_NoFile_NoRight : PySem.W.subIn K (.ref C_NoFile) (.ref C_NoRight) = some false)
    (kt_NoFile_Taken : PySem.W.subIn K (.ref C_NoFile) (.ref C_Taken) = some false)
    (kt_NoFile_Held : PySem.W.subIn K (.ref C_NoFile) (.ref C_Held) = some false)
    (kt_NoFile_Full : PySem.W.subIn K (.ref C_NoFile) (.ref C_Full) = some false)
    (kt_NoFile_NoRow : PySem.W.subIn K (.ref C_NoFile) (.ref C_NoRow) = some false)
    (xq_NoPage : PySem.W.excIn K C_NoPage [.type "ValueError", .type "Exception", .type "BaseException", .type "object"] "ValueError.__new__" = true)
    (xk_NoPage : PySem.W.keepIn K (.ref C_NoPage) = true)
    (x1_NoPage : PySem.W.findIn K (.ref C_NoPage) "__getattribute__" = some (some (.builtin "BaseException.__getattribute__")))
    (x2_NoPage : PySem.W.findIn K (.ref C_NoPage) "__getattr__" = some none)
    (x3_NoPage : PySem.W.subIn K (.ref C_NoPage) (.type "BaseException") = some true)
    (x4_NoPage : PySem.W.hasDictIn K C_NoPage = true)
    (x5_NoPage : PySem.W.findIn K (.ref C_NoPage) "__class__" = some (some (.builtin "object.__class__")))
    (x8_NoPage : PySem.W.mroIn K C_NoPage (.type "object") = some true)
    (kv_NoPage : PySem.W.subIn K (.ref C_NoPage) (.type "ValueError") = some true)
    (kt_NoPage_PaneError : PySem.W.subIn K (.ref C_NoPage) (.ref C_PaneError) = some true)
    (kt_NoPage_NoNumber : PySem.W.subIn K (.ref C_NoPage) (.ref C_NoNumber) = some false)
    (kt_NoPage_NoSpace : PySem.W.subIn K (.ref C_NoPage) (.ref C_NoSpace) = some false)
    (kt_NoPage_NoFile : PySem.W.subIn K (.ref C_NoPage) (.ref C_NoFile) = some false)
    (kt_NoPage_NoPage : PySem.W.subIn K (.ref C_NoPage) (.ref C_NoPage) = some true)
    (kt_NoPage_NoRight : PySem.W.subIn K (.ref C_NoPage) (.ref C_NoRight) = some false)
    (kt_NoPage_Taken : PySem.W.subIn K (.ref C_NoPage) (.ref C_Taken) = some false)
    (kt_NoPage_Held : PySem.W.subIn K (.ref C_NoPage) (.ref C_Held) = some false)
    (kt_NoPage_Full : PySem.W.subIn K (.ref C_NoPage) (.ref C_Full) = some false)
    (kt_NoPage_NoRow : PySem.W.subIn K (.ref C_NoPage) (.ref C_NoRow) = some false)
    (xq_Taken : PySem.W.excIn K C_Taken [.type "ValueError", .type "Exception", .type "BaseException", .type "object"] "ValueError.__new__" = true)
    (xk_Taken : PySem.W.keepIn K (.ref C_Taken) = true)
    (x1_Taken : PySem.W.findIn K (.ref C_Taken) "__getattribute__" = some (some (.builtin "BaseException.__getattribute__")))
    (x2_Taken : PySem.W.findIn K (.ref C_Taken) "__getattr__" = some none)
    (x3_Taken : PySem.W.subIn K (.ref C_Taken) (.type "BaseException") = some true)
    (x4_Taken : PySem.W.hasDictIn K C_Taken = true)
    (x5_Taken : PySem.W.findIn K (.ref C_Taken) "__class__" = some (some (.builtin "object.__class__")))
    (x8_Taken : PySem.W.mroIn K C_Taken (.type "object") = some true)
    (kv_Taken : PySem.W.subIn K (.ref C_Taken) (.type "ValueError") = some true)
    (kt_Taken_PaneError : PySem.W.subIn K (.ref C_Taken) (.ref C_PaneError) = some true)
    (kt_Taken_NoNumber : PySem.W.subIn K (.ref C_Taken) (.ref C_NoNumber) = some false)
    (kt_Taken_NoSpace : PySem.W.subIn K (.ref C_Taken) (.ref C_NoSpace) = some false)
    (kt_Taken_NoFile : PySem.W.subIn K (.ref C_Taken) (.ref C_NoFile) = some false)
    (kt_Taken_NoPage : PySem.W.subIn K (.ref C_Taken) (.ref C_NoPage) = some false)
    (kt_Taken_NoRight : PySem.W.subIn K (.ref C_Taken) (.ref C_NoRight) = some false)
    (kt_Taken_Taken : PySem.W.subIn K (.ref C_Taken) (.ref C_Taken) = some true)
    (kt_Taken_Held : PySem.W.subIn K (.ref C_Taken) (.ref C_Held) = some false)
    (kt_Taken_Full : PySem.W.subIn K (.ref C_Taken) (.ref C_Full) = some false)
    (kt_Taken_NoRow : PySem.W.subIn K (.ref C_Taken) (.ref C_NoRow) = some false)
    (x6 : PySem.W.specialIn K (.builtin "object.__class__") "__get__" = some (some (.builtin "getset_descriptor.__get__")))
    (x7 : PySem.W.takesIn K (.builtin "object.__class__") = some true) :
    ∃ fd : FuncData, (∀ (s : Shared) (v : Value), BindsTo s fd ⟨[v], []⟩ [("_law_script", v)]) ∧ ∀ base : Heap, FnOk l.prog w K mg base (L2.CX l.prog w) 6 fa fd ["_law_script"] (@spC ⟨K⟩ lawCB) := by
  have e := hfa.symm.trans (PySem.W.mg_of X G a_law)
  cases e
  have bl : Bl mg := ⟨PySem.W.mg_none_of X G z_len, PySem.W.mg_none_of X G z_range, PySem.W.mg_none_of X G z_isinstance, PySem.W.mg_none_of X G z_list, PySem.W.mg_none_of X G z_int, PySem.W.mg_none_of X G z_bool, PySem.W.mg_none_of X G z_str, PySem.W.mg_none_of X G z_tuple, PySem.W.mg_none_of X G z_dict, PySem.W.mg_none_of X G z_set, PySem.W.mg_none_of X G z_sorted, PySem.W.mg_none_of X G z_min, PySem.W.mg_none_of X G z_max, PySem.W.mg_none_of X G z_reversed, PySem.W.mg_none_of X G z_ValueError⟩
  have cl_Files : Cls K C_Files := ⟨pg_Files, hd_Files, po_Files, sa_Files⟩
  have F_Files___init__ := fun_mk (st := s_Files___init__) l_Files___init__ c_Files___init__ k_Files___init__
  have b_Files___init__ := F_Files___init__.binds (ps := ["self"]) fun _ _ _ _ _ _ us hl => match us, hl with | [_], _ => rfl
  have F_Files_make := fun_mk (st := s_Files_make) l_Files_make c_Files_make k_Files_make
  have b_Files_make := F_Files_make.binds (ps := ["self", "name", "rows"]) fun _ _ _ _ _ _ us hl => match us, hl with | [_, _, _], _ => rfl
  have F_Files_size_of := fun_mk (st := s_Files_size_of) l_Files_size_of c_Files_size_of k_Files_size_of
  have b_Files_size_of := F_Files_size_of.binds (ps := ["self", "name"]) fun _ _ _ _ _ _ us hl => match us, hl with | [_, _], _ => rfl
  have F_Files_ask_page := fun_mk (st := s_Files_ask_page) l_Files_ask_page c_Files_ask_page k_Files_ask_page
  have b_Files_ask_page := F_Files_ask_page.binds (ps := ["self", "name", "page"]) fun _ _ _ _ _ _ us hl => match us, hl with | [_, _, _], _ => rfl
  have F_Files_row_at := fun_mk (st := s_Files_row_at) l_Files_row_at c_Files_row_at k_Files_row_at
  have b_Files_row_at := F_Files_row_at.binds (ps := ["self", "name", "page"]) fun _ _ _ _ _ _ us hl => match us, hl with | [_, _, _], _ => rfl
  have F_Files_store_row := fun_mk (st := s_Files_store_row) l_Files_store_row c_Files_store_row k_Files_store_row
  have b_Files_store_row := F_Files_store_row.binds (ps := ["self", "name", "page", "row"]) fun _ _ _ _ _ _ us hl => match us, hl with | [_, _, _, _], _ => rfl
  have F_Files_drop := fun_mk (st := s_Files_drop) l_Files_drop c_Files_drop k_Files_drop
  have b_Files_drop := F_Files_drop.binds (ps := ["self", "name"]) fun _ _ _ _ _ _ us hl => match us, hl with | [_, _], _ => rfl
  have F_Files_names := fun_mk (st := s_Files_names) l_Files_names c_Files_names k_Files_names
  have b_Files_names := F_Files_names.binds (ps := ["self"]) fun _ _ _ _ _ _ us hl => match us, hl with | [_], _ => rfl
  have F_Lcell_at := fun_mk (st := s_Lcell_at) l_Lcell_at c_Lcell_at k_Lcell_at
  have b_Lcell_at := F_Lcell_at.binds (ps := ["_law_script", "_law_k"]) fun _ _ _ _ _ _ us hl => match us, hl with | [_, _], _ => rfl
  have F_Lwhole := fun_mk (st := s_Lwhole) l_Lwhole c_Lwhole k_Lwhole
  have b_Lwhole := F_Lwhole.binds (ps := ["_law_found"]) fun _ _ _ _ _ _ us hl => match us, hl with | [_], _ => rfl
  have F_Lalike := fun_mk (st := s_Lalike) l_Lalike c_Lalike k_Lalike
  have b_Lalike := F_Lalike.binds (ps := ["_law_found", "_law_due_here"]) fun _ _ _ _ _ _ us hl => match us, hl with | [_, _], _ => rfl
  have F_Lnum := fun_mk (st := s_Lnum) l_Lnum c_Lnum k_Lnum
  have b_Lnum := F_Lnum.binds (ps := ["_law_cell", "_law_k"]) fun _ _ _ _ _ _ us hl => match us, hl with | [_, _], _ => rfl
  have F_Lrow := fun_mk (st := s_Lrow) l_Lrow c_Lrow k_Lrow
  have b_Lrow := F_Lrow.binds (ps := ["_law_cell"]) fun _ _ _ _ _ _ us hl => match us, hl with | [_], _ => rfl
  have F_Lname := fun_mk (st := s_Lname) l_Lname c_Lname k_Lname
  have b_Lname := F_Lname.binds (ps := ["_law_cell", "_law_turn"]) fun _ _ _ _ _ _ us hl => match us, hl with | [_, _], _ => rfl
  have F_Lrows := fun_mk (st := s_Lrows) l_Lrows c_Lrows k_Lrows
  have b_Lrows := F_Lrows.binds (ps := ["_law_cell"]) fun _ _ _ _ _ _ us hl => match us, hl with | [_], _ => rfl
  have F_Lasked := fun_mk (st := s_Lasked) l_Lasked c_Lasked k_Lasked
  have b_Lasked := F_Lasked.binds (ps := ["_law_files", "_law_way", "_law_name_here", "_law_page", "_law_rows_here"]) fun _ _ _ _ _ _ us hl => match us, hl with | [_, _, _, _, _], _ => rfl
  have F_Ldue := fun_mk (st := s_Ldue) l_Ldue c_Ldue k_Ldue
  have b_Ldue := F_Ldue.binds (ps := ["_law_plain", "_law_way", "_law_name_here", "_law_page"]) fun _ _ _ _ _ _ us hl => match us, hl with | [_, _, _, _], _ => rfl
  have F_Ldone := fun_mk (st := s_Ldone) l_Ldone c_Ldone k_Ldone
  have b_Ldone := F_Ldone.binds (ps := ["_law_plain", "_law_way", "_law_name_here", "_law_page", "_law_rows_here"]) fun _ _ _ _ _ _ us hl => match us, hl with | [_, _, _, _, _], _ => rfl
  have F_Ldeed := fun_mk (st := s_Ldeed) l_Ldeed c_Ldeed k_Ldeed
  have b_Ldeed := F_Ldeed.binds (ps := ["_law_files", "_law_plain", "_law_name_here", "_law_cell"]) fun _ _ _ _ _ _ us hl => match us, hl with | [_, _, _, _], _ => rfl
  have F_Lis_files := fun_mk (st := s_Lis_files) l_Lis_files c_Lis_files k_Lis_files
  have b_Lis_files := F_Lis_files.binds (ps := ["_law_files", "_law_plain", "_law_name_here", "_law_cell", "_law_held"]) fun _ _ _ _ _ _ us hl => match us, hl with | [_, _, _, _, _], _ => rfl
  have F_law := fun_mk (st := s_law) l_law c_law k_law
  have b_law := F_law.binds (ps := ["_law_script"]) fun _ _ _ _ _ _ us hl => match us, hl with | [_], _ => rfl
  refine ⟨PySem.W.fnOf "law" "law" (defArgs s_law) (defBody s_law) (defScope s_law) .none kV_law dc_law pm_law an_law cd_law ct_law, fun s v => .of_eq rfl, fun base => ?_⟩
  letI : KC := ⟨K⟩
  let m : Mo := ⟨l.prog, w, K, mg, base⟩
  let E : Str → Addr := fun s => if s = ("PaneError" : Str) then C_PaneError else if s = ("NoNumber" : Str) then C_NoNumber else if s = ("NoSpace" : Str) then C_NoSpace else if s = ("NoFile" : Str) then C_NoFile else if s = ("NoPage" : Str) then C_NoPage else if s = ("NoRight" : Str) then C_NoRight else if s = ("Taken" : Str) then C_Taken else if s = ("Held" : Str) then C_Held else if s = ("Full" : Str) then C_Full else C_NoRow
  have E_PaneError : E "PaneError" = C_PaneError := by
    show (if ("PaneError" : Str) = ("PaneError" : Str) then C_PaneError else if ("PaneError" : Str) = ("NoNumber" : Str) then C_NoNumber else if ("PaneError" : Str) = ("NoSpace" : Str) then C_NoSpace else if ("PaneError" : Str) = ("NoFile" : Str) then C_NoFile else if ("PaneError" : Str) = ("NoPage" : Str) then C_NoPage else if ("PaneError" : Str) = ("NoRight" : Str) then C_NoRight else if ("PaneError" : Str) = ("Taken" : Str) then C_Taken else if ("PaneError" : Str) = ("Held" : Str) then C_Held else if ("PaneError" : Str) = ("Full" : Str) then C_Full else C_NoRow) = _
    rw [if_pos rfl]
  have E_NoNumber : E "NoNumber" = C_NoNumber := by
    show (if ("NoNumber" : Str) = ("PaneError" : Str) then C_PaneError else if ("NoNumber" : Str) = ("NoNumber" : Str) then C_NoNumber else if ("NoNumber" : Str) = ("NoSpace" : Str) then C_NoSpace else if ("NoNumber" : Str) = ("NoFile" : Str) then C_NoFile else if ("NoNumber" : Str) = ("NoPage" : Str) then C_NoPage else if ("NoNumber" : Str) = ("NoRight" : Str) then C_NoRight else if ("NoNumber" : Str) = ("Taken" : Str) then C_Taken else if ("NoNumber" : Str) = ("Held" : Str) then C_Held else if ("NoNumber" : Str) = ("Full" : Str) then C_Full else C_NoRow) = _
    rw [if_neg (by decide +kernel), if_pos rfl]
  have E_NoSpace : E "NoSpace" = C_NoSpace := by
    show (if ("NoSpace" : Str) = ("PaneError" : Str) then C_PaneError else if ("NoSpace" : Str) = ("NoNumber" : Str) then C_NoNumber else if ("NoSpace" : Str) = ("NoSpace" : Str) then C_NoSpace else if ("NoSpace" : Str) = ("NoFile" : Str) then C_NoFile else if ("NoSpace" : Str) = ("NoPage" : Str) then C_NoPage else if ("NoSpace" : Str) = ("NoRight" : Str) then C_NoRight else if ("NoSpace" : Str) = ("Taken" : Str) then C_Taken else if ("NoSpace" : Str) = ("Held" : Str) then C_Held else if ("NoSpace" : Str) = ("Full" : Str) then C_Full else C_NoRow) = _
    rw [if_neg (by decide +kernel), if_neg (by decide +kernel), if_pos rfl]
  have E_NoFile : E "NoFile" = C_NoFile := by
    show (if ("NoFile" : Str) = ("PaneError" : Str) then C_PaneError else if ("NoFile" : Str) = ("NoNumber" : Str) then C_NoNumber else if ("NoFile" : Str) = ("NoSpace" : Str) then C_NoSpace else if ("NoFile" : Str) = ("NoFile" : Str) then C_NoFile else if ("NoFile" : Str) = ("NoPage" : Str) then C_NoPage else if ("NoFile" : Str) = ("NoRight" : Str) then C_NoRight else if ("NoFile" : Str) = ("Taken" : Str) then C_Taken else if ("NoFile" : Str) = ("Held" : Str) then C_Held else if ("NoFile" : Str) = ("Full" : Str) then C_Full else C_NoRow) = _
    rw [if_neg (by decide +kernel), if_neg (by decide +kernel), if_neg (by decide +kernel), if_pos rfl]
  have E_NoPage : E "NoPage" = C_NoPage := by
    show (if ("NoPage" : Str) = ("PaneError" : Str) then C_PaneError else if ("NoPage" : Str) = ("NoNumber" : Str) then C_NoNumber else if ("NoPage" : Str) = ("NoSpace" : Str) then C_NoSpace else if ("NoPage" : Str) = ("NoFile" : Str) then C_NoFile else if ("NoPage" : Str) = ("NoPage" : Str) then C_NoPage else if ("NoPage" : Str) = ("NoRight" : Str) then C_NoRight else if ("NoPage" : Str) = ("Taken" : Str) then C_Taken else if ("NoPage" : Str) = ("Held" : Str) then C_Held else if ("NoPage" : Str) = ("Full" : Str) then C_Full else C_NoRow) = _
    rw [if_neg (by decide +kernel), if_neg (by decide +kernel), if_neg (by decide +kernel), if_neg (by decide +kernel), if_pos rfl]
  have E_NoRight : E "NoRight" = C_NoRight := by
    show (if ("NoRight" : Str) = ("PaneError" : Str) then C_PaneError else if ("NoRight" : Str) = ("NoNumber" : Str) then C_NoNumber else if ("NoRight" : Str) = ("NoSpace" : Str) then C_NoSpace else if ("NoRight" : Str) = ("NoFile" : Str) then C_NoFile else if ("NoRight" : Str) = ("NoPage" : Str) then C_NoPage else if ("NoRight" : Str) = ("NoRight" : Str) then C_NoRight else if ("NoRight" : Str) = ("Taken" : Str) then C_Taken else if ("NoRight" : Str) = ("Held" : Str) then C_Held else if ("NoRight" : Str) = ("Full" : Str) then C_Full else C_NoRow) = _
    rw [if_neg (by decide +kernel), if_neg (by decide +kernel), if_neg (by decide +kernel), if_neg (by decide +kernel), if_neg (by decide +kernel), if_pos rfl]
  have E_Taken : E "Taken" = C_Taken := by
    show (if ("Taken" : Str) = ("PaneError" : Str) then C_PaneError else if ("Taken" : Str) = ("NoNumber" : Str) then C_NoNumber else if ("Taken" : Str) = ("NoSpace" : Str) then C_NoSpace else if ("Taken" : Str) = ("NoFile" : Str) then C_NoFile else if ("Taken" : Str) = ("NoPage" : Str) then C_NoPage else if ("Taken" : Str) = ("NoRight" : Str) then C_NoRight else if ("Taken" : Str) = ("Taken" : Str) then C_Taken else if ("Taken" : Str) = ("Held" : Str) then C_Held else if ("Taken" : Str) = ("Full" : Str) then C_Full else C_NoRow) = _
    rw [if_neg (by decide +kernel), if_neg (by decide +kernel), if_neg (by decide +kernel), if_neg (by decide +kernel), if_neg (by decide +kernel), if_neg (by decide +kernel), if_pos rfl]
  have E_Held : E "Held" = C_Held := by
    show (if ("Held" : Str) = ("PaneError" : Str) then C_PaneError else if ("Held" : Str) = ("NoNumber" : Str) then C_NoNumber else if ("Held" : Str) = ("NoSpace" : Str) then C_NoSpace else if ("Held" : Str) = ("NoFile" : Str) then C_NoFile else if ("Held" : Str) = ("NoPage" : Str) then C_NoPage else if ("Held" : Str) = ("NoRight" : Str) then C_NoRight else if ("Held" : Str) = ("Taken" : Str) then C_Taken else if ("Held" : Str) = ("Held" : Str) then C_Held else if ("Held" : Str) = ("Full" : Str) then C_Full else C_NoRow) = _
    rw [if_neg (by decide +kernel), if_neg (by decide +kernel), if_neg (by decide +kernel), if_neg (by decide +kernel), if_neg (by decide +kernel), if_neg (by decide +kernel), if_neg (by decide +kernel), if_pos rfl]
  have E_Full : E "Full" = C_Full := by
    show (if ("Full" : Str) = ("PaneError" : Str) then C_PaneError else if ("Full" : Str) = ("NoNumber" : Str) then C_NoNumber else if ("Full" : Str) = ("NoSpace" : Str) then C_NoSpace else if ("Full" : Str) = ("NoFile" : Str) then C_NoFile else if ("Full" : Str) = ("NoPage" : Str) then C_NoPage else if ("Full" : Str) = ("NoRight" : Str) then C_NoRight else if ("Full" : Str) = ("Taken" : Str) then C_Taken else if ("Full" : Str) = ("Held" : Str) then C_Held else if ("Full" : Str) = ("Full" : Str) then C_Full else C_NoRow) = _
    rw [if_neg (by decide +kernel), if_neg (by decide +kernel), if_neg (by decide +kernel), if_neg (by decide +kernel), if_neg (by decide +kernel), if_neg (by decide +kernel), if_neg (by decide +kernel), if_neg (by decide +kernel), if_pos rfl]
  have E_NoRow : E "NoRow" = C_NoRow := by
    show (if ("NoRow" : Str) = ("PaneError" : Str) then C_PaneError else if ("NoRow" : Str) = ("NoNumber" : Str) then C_NoNumber else if ("NoRow" : Str) = ("NoSpace" : Str) then C_NoSpace else if ("NoRow" : Str) = ("NoFile" : Str) then C_NoFile else if ("NoRow" : Str) = ("NoPage" : Str) then C_NoPage else if ("NoRow" : Str) = ("NoRight" : Str) then C_NoRight else if ("NoRow" : Str) = ("Taken" : Str) then C_Taken else if ("NoRow" : Str) = ("Held" : Str) then C_Held else if ("NoRow" : Str) = ("Full" : Str) then C_Full else C_NoRow) = _
    rw [if_neg (by decide +kernel), if_neg (by decide +kernel), if_neg (by decide +kernel), if_neg (by decide +kernel), if_neg (by decide +kernel), if_neg (by decide +kernel), if_neg (by decide +kernel), if_neg (by decide +kernel), if_neg (by decide +kernel)]
  have er : Errs m E [("NoFile" : Str), ("NoPage" : Str), ("Taken" : Str)] [("PaneError" : Str), ("NoNumber" : Str), ("NoSpace" : Str), ("NoFile" : Str), ("NoPage" : Str), ("NoRight" : Str), ("Taken" : Str), ("Held" : Str), ("Full" : Str), ("NoRow" : Str)] := by
    refine ⟨?_, ?_, ?_, ?_, ?_⟩
    · simp only [List.mem_cons, List.not_mem_nil, or_false]; rintro x (rfl | rfl | rfl)
      · rw [E_NoFile]; exact ⟨xq_NoFile, xk_NoFile, yt_NoFile, yc_NoFile, x1_NoFile, x2_NoFile, x3_NoFile, x4_NoFile, x5_NoFile, x6, x7, x8_NoFile⟩
      · rw [E_NoPage]; exact ⟨xq_NoPage, xk_NoPage, yt_NoPage, yc_NoPage, x1_NoPage, x2_NoPage, x3_NoPage, x4_NoPage, x5_NoPage, x6, x7, x8_NoPage⟩
      · rw [E_Taken]; exact ⟨xq_Taken, xk_Taken, yt_Taken, yc_Taken, x1_Taken, x2_Taken, x3_Taken, x4_Taken, x5_Taken, x6, x7, x8_Taken⟩
    · simp only [List.mem_cons, List.not_mem_nil, or_false]; rintro x (rfl | rfl | rfl | rfl | rfl | rfl | rfl | rfl | rfl | rfl)
      · rw [E_PaneError]; exact PySem.W.mg_of X G gC_PaneError
      · rw [E_NoNumber]; exact PySem.W.mg_of X G gC_NoNumber
      · rw [E_NoSpace]; exact PySem.W.mg_of X G gC_NoSpace
      · rw [E_NoFile]; exact PySem.W.mg_of X G gC_NoFile
      · rw [E_NoPage]; exact PySem.W.mg_of X G gC_NoPage
      · rw [E_NoRight]; exact PySem.W.mg_of X G gC_NoRight
      · rw [E_Taken]; exact PySem.W.mg_of X G gC_Taken
      · rw [E_Held]; exact PySem.W.mg_of X G gC_Held
      · rw [E_Full]; exact PySem.W.mg_of X G gC_Full
      · rw [E_NoRow]; exact PySem.W.mg_of X G gC_NoRow
    · simp only [List.mem_cons, List.not_mem_nil, or_false]; rintro x (rfl | rfl | rfl) y (rfl | rfl | rfl | rfl | rfl | rfl | rfl | rfl | rfl | rfl)
      · rw [E_NoFile, E_PaneError, show (decide (("NoFile" : Str) = "PaneError") || decide (("PaneError" : Str) = "PaneError")) = true from by decide +kernel]; exact kit_yes yc_PaneError yt_PaneError kt_NoFile_PaneError
      · rw [E_NoFile, E_NoNumber, show (decide (("NoFile" : Str) = "NoNumber") || decide (("NoNumber" : Str) = "PaneError")) = false from by decide +kernel]; exact kit_no yc_NoNumber yt_NoNumber kt_NoFile_NoFile kt_NoFile_NoNumber
      · rw [E_NoFile, E_NoSpace, show (decide (("NoFile" : Str) = "NoSpace") || decide (("NoSpace" : Str) = "PaneError")) = false from by decide +kernel]; exact kit_no yc_NoSpace yt_NoSpace kt_NoFile_NoFile kt_NoFile_NoSpace
      · rw [E_NoFile, show (decide (("NoFile" : Str) = "NoFile") || decide (("NoFile" : Str) = "PaneError")) = true from by decide +kernel]; exact kit_yes yc_NoFile yt_NoFile kt_NoFile_NoFile
      · rw [E_NoFile, E_NoPage, show (decide (("NoFile" : Str) = "NoPage") || decide (("NoPage" : Str) = "PaneError")) = false from by decide +kernel]; exact kit_no yc_NoPage yt_NoPage kt_NoFile_NoFile kt_NoFile_NoPage
      · rw [E_NoFile, E_NoRight, show (decide (("NoFile" : Str) = "NoRight") || decide (("NoRight" : Str) = "PaneError")) = false from by decide +kernel]; exact kit_no yc_NoRight yt_NoRight kt_NoFile_NoFile kt_NoFile_NoRight
      · rw [E_NoFile, E_Taken, show (decide (("NoFile" : Str) = "Taken") || decide (("Taken" : Str) = "PaneError")) = false from by decide +kernel]; exact kit_no yc_Taken yt_Taken kt_NoFile_NoFile kt_NoFile_Taken
      · rw [E_NoFile, E_Held, show (decide (("NoFile" : Str) = "Held") || decide (("Held" : Str) = "PaneError")) = false from by decide +kernel]; exact kit_no yc_Held yt_Held kt_NoFile_NoFile kt_NoFile_Held
      · rw [E_NoFile, E_Full, show (decide (("NoFile" : Str) = "Full") || decide (("Full" : Str) = "PaneError")) = false from by decide +kernel]; exact kit_no yc_Full yt_Full kt_NoFile_NoFile kt_NoFile_Full
      · rw [E_NoFile, E_NoRow, show (decide (("NoFile" : Str) = "NoRow") || decide (("NoRow" : Str) = "PaneError")) = false from by decide +kernel]; exact kit_no yc_NoRow yt_NoRow kt_NoFile_NoFile kt_NoFile_NoRow
      · rw [E_NoPage, E_PaneError, show (decide (("NoPage" : Str) = "PaneError") || decide (("PaneError" : Str) = "PaneError")) = true from by decide +kernel]; exact kit_yes yc_PaneError yt_PaneError kt_NoPage_PaneError
      · rw [E_NoPage, E_NoNumber, show (decide (("NoPage" : Str) = "NoNumber") || decide (("NoNumber" : Str) = "PaneError")) = false from by decide +kernel]; exact kit_no yc_NoNumber yt_NoNumber kt_NoPage_NoPage kt_NoPage_NoNumber
      · rw [E_NoPage, E_NoSpace, show (decide (("NoPage" : Str) = "NoSpace") || decide (("NoSpace" : Str) = "PaneError")) = false from by decide +kernel]; exact kit_no yc_NoSpace yt_NoSpace kt_NoPage_NoPage kt_NoPage_NoSpace
      · rw [E_NoPage, E_NoFile, show (decide (("NoPage" : Str) = "NoFile") || decide (("NoFile" : Str) = "PaneError")) = false from by decide +kernel]; exact kit_no yc_NoFile yt_NoFile kt_NoPage_NoPage kt_NoPage_NoFile
      · rw [E_NoPage, show (decide (("NoPage" : Str) = "NoPage") || decide (("NoPage" : Str) = "PaneError")) = true from by decide +kernel]; exact kit_yes yc_NoPage yt_NoPage kt_NoPage_NoPage
      · rw [E_NoPage, E_NoRight, show (decide (("NoPage" : Str) = "NoRight") || decide (("NoRight" : Str) = "PaneError")) = false from by decide +kernel]; exact kit_no yc_NoRight yt_NoRight kt_NoPage_NoPage kt_NoPage_NoRight
      · rw [E_NoPage, E_Taken, show (decide (("NoPage" : Str) = "Taken") || decide (("Taken" : Str) = "PaneError")) = false from by decide +kernel]; exact kit_no yc_Taken yt_Taken kt_NoPage_NoPage kt_NoPage_Taken
      · rw [E_NoPage, E_Held, show (decide (("NoPage" : Str) = "Held") || decide (("Held" : Str) = "PaneError")) = false from by decide +kernel]; exact kit_no yc_Held yt_Held kt_NoPage_NoPage kt_NoPage_Held
      · rw [E_NoPage, E_Full, show (decide (("NoPage" : Str) = "Full") || decide (("Full" : Str) = "PaneError")) = false from by decide +kernel]; exact kit_no yc_Full yt_Full kt_NoPage_NoPage kt_NoPage_Full
      · rw [E_NoPage, E_NoRow, show (decide (("NoPage" : Str) = "NoRow") || decide (("NoRow" : Str) = "PaneError")) = false from by decide +kernel]; exact kit_no yc_NoRow yt_NoRow kt_NoPage_NoPage kt_NoPage_NoRow
      · rw [E_Taken, E_PaneError, show (decide (("Taken" : Str) = "PaneError") || decide (("PaneError" : Str) = "PaneError")) = true from by decide +kernel]; exact kit_yes yc_PaneError yt_PaneError kt_Taken_PaneError
      · rw [E_Taken, E_NoNumber, show (decide (("Taken" : Str) = "NoNumber") || decide (("NoNumber" : Str) = "PaneError")) = false from by decide +kernel]; exact kit_no yc_NoNumber yt_NoNumber kt_Taken_Taken kt_Taken_NoNumber
      · rw [E_Taken, E_NoSpace, show (decide (("Taken" : Str) = "NoSpace") || decide (("NoSpace" : Str) = "PaneError")) = false from by decide +kernel]; exact kit_no yc_NoSpace yt_NoSpace kt_Taken_Taken kt_Taken_NoSpace
      · rw [E_Taken, E_NoFile, show (decide (("Taken" : Str) = "NoFile") || decide (("NoFile" : Str) = "PaneError")) = false from by decide +kernel]; exact kit_no yc_NoFile yt_NoFile kt_Taken_Taken kt_Taken_NoFile
      · rw [E_Taken, E_NoPage, show (decide (("Taken" : Str) = "NoPage") || decide (("NoPage" : Str) = "PaneError")) = false from by decide +kernel]; exact kit_no yc_NoPage yt_NoPage kt_Taken_Taken kt_Taken_NoPage
      · rw [E_Taken, E_NoRight, show (decide (("Taken" : Str) = "NoRight") || decide (("NoRight" : Str) = "PaneError")) = false from by decide +kernel]; exact kit_no yc_NoRight yt_NoRight kt_Taken_Taken kt_Taken_NoRight
      · rw [E_Taken, show (decide (("Taken" : Str) = "Taken") || decide (("Taken" : Str) = "PaneError")) = true from by decide +kernel]; exact kit_yes yc_Taken yt_Taken kt_Taken_Taken
      · rw [E_Taken, E_Held, show (decide (("Taken" : Str) = "Held") || decide (("Held" : Str) = "PaneError")) = false from by decide +kernel]; exact kit_no yc_Held yt_Held kt_Taken_Taken kt_Taken_Held
      · rw [E_Taken, E_Full, show (decide (("Taken" : Str) = "Full") || decide (("Full" : Str) = "PaneError")) = false from by decide +kernel]; exact kit_no yc_Full yt_Full kt_Taken_Taken kt_Taken_Full
      · rw [E_Taken, E_NoRow, show (decide (("Taken" : Str) = "NoRow") || decide (("NoRow" : Str) = "PaneError")) = false from by decide +kernel]; exact kit_no yc_NoRow yt_NoRow kt_Taken_Taken kt_Taken_NoRow
    · simp only [List.mem_cons, List.not_mem_nil, or_false]; rintro x (rfl | rfl | rfl)
      · rw [E_NoFile]; exact kit_ve kv_NoFile
      · rw [E_NoPage]; exact kit_ve kv_NoPage
      · rw [E_Taken]; exact kit_ve kv_Taken
    · simp only [List.mem_cons, List.not_mem_nil, or_false]; rintro x (rfl | rfl | rfl)
      · rw [E_NoFile, E_PaneError]; exact exm_pe yb yc_PaneError yt_PaneError kt_NoFile_PaneError
      · rw [E_NoPage, E_PaneError]; exact exm_pe yb yc_PaneError yt_PaneError kt_NoPage_PaneError
      · rw [E_Taken, E_PaneError]; exact exm_pe yb yc_PaneError yt_PaneError kt_Taken_PaneError
  have xf_NoFile : PySem.W.exmOne m.K (.ref (E "NoFile")) (.ref (E "NoFile")) = some true := by rw [E_NoFile]; exact exm_pe x3_NoFile yc_NoFile yt_NoFile kt_NoFile_NoFile
  have xf_NoPage : PySem.W.exmOne m.K (.ref (E "NoPage")) (.ref (E "NoPage")) = some true := by rw [E_NoPage]; exact exm_pe x3_NoPage yc_NoPage yt_NoPage kt_NoPage_NoPage
  have xf_Taken : PySem.W.exmOne m.K (.ref (E "Taken")) (.ref (E "Taken")) = some true := by rw [E_Taken]; exact exm_pe x3_Taken yc_Taken yt_Taken kt_Taken_Taken
  have oc_Files : ObjC m C_Files ["my_files"] := ⟨cl_Files, by simp only [List.mem_cons, List.not_mem_nil, or_false]; rintro f (rfl) <;> first | exact na_Files_my_files⟩
  have mk_Files : MkIs m "Files" C_Files 1 (K_Files___init__ C_Files) := ⟨⟨_, _, _, ok_Files___init__ (m := m) rfl bl F_Files___init__ oc_Files, ⟨mkf_Files, a_Files___init__, i_Files___init__, kc_Files⟩, PySem.W.mg_of X G aC_Files, b_Files___init__⟩⟩
  have h_Files_make : MtIs m C_Files "make" 1 (K_Files_makeR C_Files E) := ⟨⟨_, _, _, ok_Files_makeR (m := m) rfl bl F_Files_make er oc_Files, ⟨a_Files_make, i_Files_make, k_Files_make⟩, b_Files_make⟩⟩
  have h_Files_size_of : MtIs m C_Files "size_of" 1 (K_Files_size_of C_Files E) := ⟨⟨_, _, _, ok_Files_size_of (m := m) rfl bl F_Files_size_of er oc_Files, ⟨a_Files_size_of, i_Files_size_of, k_Files_size_of⟩, b_Files_size_of⟩⟩
  have h_Files_ask_page : MtIs m C_Files "ask_page" 2 (K_Files_ask_page C_Files E) := ⟨⟨_, _, _, ok_Files_ask_page (m := m) rfl bl F_Files_ask_page er oc_Files h_Files_size_of, ⟨a_Files_ask_page, i_Files_ask_page, k_Files_ask_page⟩, b_Files_ask_page⟩⟩
  have h_Files_row_at : MtIs m C_Files "row_at" 3 (K_Files_row_at C_Files E) := ⟨⟨_, _, _, ok_Files_row_at (m := m) rfl bl F_Files_row_at oc_Files h_Files_ask_page, ⟨a_Files_row_at, i_Files_row_at, k_Files_row_at⟩, b_Files_row_at⟩⟩
  have h_Files_store_row : MtIs m C_Files "store_row" 3 (K_Files_store_rowR C_Files E) := ⟨⟨_, _, _, ok_Files_store_rowR (m := m) rfl bl F_Files_store_row oc_Files h_Files_ask_page, ⟨a_Files_store_row, i_Files_store_row, k_Files_store_row⟩, b_Files_store_row⟩⟩
  have h_Files_drop : MtIs m C_Files "drop" 1 (K_Files_drop C_Files E) := ⟨⟨_, _, _, ok_Files_drop (m := m) rfl bl F_Files_drop er oc_Files, ⟨a_Files_drop, i_Files_drop, k_Files_drop⟩, b_Files_drop⟩⟩
  have h_Files_names : MtIs m C_Files "names" 1 (K_Files_names C_Files) := ⟨⟨_, _, _, ok_Files_names (m := m) rfl bl F_Files_names oc_Files, ⟨a_Files_names, i_Files_names, k_Files_names⟩, b_Files_names⟩⟩
  have h_Lwhole : FnIs m "_law_whole" 1 K_Lwhole := ⟨⟨_, _, _, ok_Lwhole (m := m) rfl bl F_Lwhole, PySem.W.mg_of X G a_Lwhole, k_Lwhole, b_Lwhole⟩⟩
  have h_Lalike0 : FnIs m "_law_alike" 2 (K_Lalike 0) := ⟨⟨_, _, _, ok_Lalike0 (m := m) rfl bl F_Lalike h_Lwhole, PySem.W.mg_of X G a_Lalike, k_Lalike, b_Lalike⟩⟩
  have h_Lalike1 : FnIs m "_law_alike" 3 (K_Lalike 1) := ⟨⟨_, _, _, ok_Lalike1 (m := m) rfl bl F_Lalike h_Lwhole h_Lalike0, PySem.W.mg_of X G a_Lalike, k_Lalike, b_Lalike⟩⟩
  have h_Lalike : FnIs m "_law_alike" 4 (K_Lalike 2) := ⟨⟨_, _, _, ok_Lalike2 (m := m) rfl bl F_Lalike h_Lwhole h_Lalike1, PySem.W.mg_of X G a_Lalike, k_Lalike, b_Lalike⟩⟩
  have h_Lnum : FnIs m "_law_num" 1 K_Lnum := ⟨⟨_, _, _, ok_Lnum (m := m) rfl bl F_Lnum, PySem.W.mg_of X G a_Lnum, k_Lnum, b_Lnum⟩⟩
  have h_Lrow : FnIs m "_law_row" 2 K_Lrow := ⟨⟨_, _, _, ok_Lrow (m := m) rfl bl F_Lrow h_Lnum, PySem.W.mg_of X G a_Lrow, k_Lrow, b_Lrow⟩⟩
  have h_Lcell_at : FnIs m "_law_cell_at" 1 K_Lcell_at := ⟨⟨_, _, _, ok_Lcell_at (m := m) rfl bl F_Lcell_at, PySem.W.mg_of X G a_Lcell_at, k_Lcell_at, b_Lcell_at⟩⟩
  have h_Lname : FnIs m "_law_name" 1 K_Lname := ⟨⟨_, _, _, ok_Lname (m := m) rfl bl F_Lname, PySem.W.mg_of X G a_Lname, k_Lname, b_Lname⟩⟩
  have h_Lrows : FnIs m "_law_rows" 3 K_Lrows := ⟨⟨_, _, _, ok_Lrows (m := m) rfl bl F_Lrows h_Lrow, PySem.W.mg_of X G a_Lrows, k_Lrows, b_Lrows⟩⟩
  have h_Ldue : FnIs m "_law_due" 1 K_Ldue := ⟨⟨_, _, _, ok_Ldue (m := m) rfl bl F_Ldue, PySem.W.mg_of X G a_Ldue, k_Ldue, b_Ldue⟩⟩
  have h_Lasked : FnIs m "_law_asked" 4 (K_Lasked C_Files) := ⟨⟨_, _, _, ok_Lasked (m := m) rfl bl F_Lasked er bl.ValueError oc_Files h_Files_make h_Files_size_of h_Files_row_at h_Files_store_row h_Files_drop, PySem.W.mg_of X G a_Lasked, k_Lasked, b_Lasked⟩⟩
  have h_Ldone : FnIs m "_law_done" 1 K_Ldone := ⟨⟨_, _, _, ok_Ldone (m := m) rfl bl F_Ldone, PySem.W.mg_of X G a_Ldone, k_Ldone, b_Ldone⟩⟩
  have h_Ldeed : FnIs m "_law_deed" 5 (K_Ldeed C_Files) := ⟨⟨_, _, _, ok_Ldeed (m := m) rfl bl F_Ldeed oc_Files h_Lrow h_Lrows h_Ldue h_Lasked h_Lalike h_Ldone, PySem.W.mg_of X G a_Ldeed, k_Ldeed, b_Ldeed⟩⟩
  have h_Lis_files : FnIs m "_law_is_files" 5 (K_Lis_files C_Files) := ⟨⟨_, _, _, ok_Lis_files (m := m) rfl bl F_Lis_files oc_Files h_Files_names h_Files_size_of h_Files_row_at h_Lalike, PySem.W.mg_of X G a_Lis_files, k_Lis_files, b_Lis_files⟩⟩
  exact ok_law (m := m) rfl bl F_law oc_Files mk_Files h_Files_row_at h_Lcell_at h_Lname h_Ldeed h_Lis_files h_Lalike
end My
open PySem PySem.W PyProof.Rows
set_option maxRecDepth 100000 in
set_option maxHeartbeats 0 in
theorem PySem.Challenge.cw_paneworks_k37_files_through_deeds_holds : PySem.Challenge.rw_paneworks_k37_files_through_deeds.Holds := by
  w_on; o_law; k_head; (case hw => w_witness2)
  k_fill
  refine PW.law_walkB (l := PySem.Challenge.rw_paneworks_k37_files_through_deeds) (k := 6) (x := "_law_script") rfl rfl ⟨rfl, by decide, by decide⟩ (fun w h Y => PySem.W.kIn_of Y) ?F
  case F =>
    intro w mg fa h KX G hmg
    refine' My.all_mk KX G hmg ?aC_Files ?pg_Files ?hd_Files ?po_Files ?sa_Files ?mkf_Files ?kc_Files ?na_Files_my_files ?a_Files___init__ ?i_Files___init__ ?l_Files___init__ ?c_Files___init__ ?k_Files___init__ ?a_Files_make ?i_Files_make ?l_Files_make ?c_Files_make ?k_Files_make ?a_Files_size_of ?i_Files_size_of ?l_Files_size_of ?c_Files_size_of ?k_Files_size_of ?a_Files_ask_page ?i_Files_ask_page ?l_Files_ask_page ?c_Files_ask_page ?k_Files_ask_page ?a_Files_row_at ?i_Files_row_at ?l_Files_row_at ?c_Files_row_at ?k_Files_row_at ?a_Files_store_row ?i_Files_store_row ?l_Files_store_row ?c_Files_store_row ?k_Files_store_row ?a_Files_drop ?i_Files_drop ?l_Files_drop ?c_Files_drop ?k_Files_drop ?a_Files_names ?i_Files_names ?l_Files_names ?c_Files_names ?k_Files_names ?a_Lcell_at ?l_Lcell_at ?c_Lcell_at ?k_Lcell_at ?a_Lwhole ?l_Lwhole ?c_Lwhole ?k_Lwhole ?a_Lalike ?l_Lalike ?c_Lalike ?k_Lalike ?a_Lnum ?l_Lnum ?c_Lnum ?k_Lnum ?a_Lrow ?l_Lrow ?c_Lrow ?k_Lrow ?a_Lname ?l_Lname ?c_Lname ?k_Lname ?a_Lrows ?l_Lrows ?c_Lrows ?k_Lrows ?a_Lasked ?l_Lasked ?c_Lasked ?k_Lasked ?a_Ldue ?l_Ldue ?c_Ldue ?k_Ldue ?a_Ldone ?l_Ldone ?c_Ldone ?k_Ldone ?a_Ldeed ?l_Ldeed ?c_Ldeed ?k_Ldeed ?a_Lis_files ?l_Lis_files ?c_Lis_files ?k_Lis_files ?a_law ?l_law ?c_law ?k_law ?z_len ?z_range ?z_isinstance ?z_list ?z_int ?z_bool ?z_str ?z_tuple ?z_dict ?z_set ?z_sorted ?z_min ?z_max ?z_reversed ?z_ValueError ?gC_PaneError ?gC_NoNumber ?gC_NoSpace ?gC_NoFile ?gC_NoPage ?gC_NoRight ?gC_Taken ?gC_Held ?gC_Full ?gC_NoRow ?yc_PaneError ?yt_PaneError ?yc_NoNumber ?yt_NoNumber ?yc_NoSpace ?yt_NoSpace ?yc_NoFile ?yt_NoFile ?yc_NoPage ?yt_NoPage ?yc_NoRight ?yt_NoRight ?yc_Taken ?yt_Taken ?yc_Held ?yt_Held ?yc_Full ?yt_Full ?yc_NoRow ?yt_NoRow ?yb ?xq_NoFile ?xk_NoFile ?x1_NoFile ?x2_NoFile ?x3_NoFile ?x4_NoFile ?x5_NoFile ?x8_NoFile ?kv_NoFile ?kt_NoFile_PaneError ?kt_NoFile_NoNumber ?kt_NoFile_NoSpace ?kt_NoFile_NoFile ?kt_NoFile_NoPage ?kt_NoFile_NoRight ?kt_NoFile_Taken ?kt_NoFile_Held ?kt_NoFile_Full ?kt_NoFile_NoRow ?xq_NoPage ?xk_NoPage ?x1_NoPage ?x2_NoPage ?x3_NoPage ?x4_NoPage ?x5_NoPage ?x8_NoPage ?kv_NoPage ?kt_NoPage_PaneError ?kt_NoPage_NoNumber ?kt_NoPage_NoSpace ?kt_NoPage_NoFile ?kt_NoPage_NoPage ?kt_NoPage_NoRight ?kt_NoPage_Taken ?kt_NoPage_Held ?kt_NoPage_Full ?kt_NoPage_NoRow ?xq_Taken ?xk_Taken ?x1_Taken ?x2_Taken ?x3_Taken ?x4_Taken ?x5_Taken ?x8_Taken ?kv_Taken ?kt_Taken_PaneError ?kt_Taken_NoNumber ?kt_Taken_NoSpace ?kt_Taken_NoFile ?kt_Taken_NoPage ?kt_Taken_NoRight ?kt_Taken_Taken ?kt_Taken_Held ?kt_Taken_Full ?kt_Taken_NoRow ?x6 ?x7
    (case aC_Files => k_is)
    (case pg_Files => k_is)
    (case hd_Files => k_is)
    (case po_Files => k_is)
    (case sa_Files => k_is)
    (case mkf_Files => k_is)
    (case kc_Files => k_is)
    (case na_Files_my_files => k_is)
    (case a_Files___init__ => k_is)
    (case i_Files___init__ => k_is)
    (case l_Files___init__ => k_is)
    (case c_Files___init__ => k_is)
    (case k_Files___init__ => k_is)
    (case a_Files_make => k_is)
    (case i_Files_make => k_is)
    (case l_Files_make => k_is)
    (case c_Files_make => k_is)
    (case k_Files_make => k_is)
    (case a_Files_size_of => k_is)
    (case i_Files_size_of => k_is)
    (case l_Files_size_of => k_is)
    (case c_Files_size_of => k_is)
    (case k_Files_size_of => k_is)
    (case a_Files_ask_page => k_is)
    (case i_Files_ask_page => k_is)
    (case l_Files_ask_page => k_is)
    (case c_Files_ask_page => k_is)
    (case k_Files_ask_page => k_is)
    (case a_Files_row_at => k_is)
    (case i_Files_row_at => k_is)
    (case l_Files_row_at => k_is)
    (case c_Files_row_at => k_is)
    (case k_Files_row_at => k_is)
    (case a_Files_store_row => k_is)
    (case i_Files_store_row => k_is)
    (case l_Files_store_row => k_is)
    (case c_Files_store_row => k_is)
    (case k_Files_store_row => k_is)
    (case a_Files_drop => k_is)
    (case i_Files_drop => k_is)
    (case l_Files_drop => k_is)
    (case c_Files_drop => k_is)
    (case k_Files_drop => k_is)
    (case a_Files_names => k_is)
    (case i_Files_names => k_is)
    (case l_Files_names => k_is)
    (case c_Files_names => k_is)
    (case k_Files_names => k_is)
    (case a_Lcell_at => k_is)
    (case l_Lcell_at => k_is)
    (case c_Lcell_at => k_is)
    (case k_Lcell_at => k_is)
    (case a_Lwhole => k_is)
    (case l_Lwhole => k_is)
    (case c_Lwhole => k_is)
    (case k_Lwhole => k_is)
    (case a_Lalike => k_is)
    (case l_Lalike => k_is)
    (case c_Lalike => k_is)
    (case k_Lalike => k_is)
    (case a_Lnum => k_is)
    (case l_Lnum => k_is)
    (case c_Lnum => k_is)
    (case k_Lnum => k_is)
    (case a_Lrow => k_is)
    (case l_Lrow => k_is)
    (case c_Lrow => k_is)
    (case k_Lrow => k_is)
    (case a_Lname => k_is)
    (case l_Lname => k_is)
    (case c_Lname => k_is)
    (case k_Lname => k_is)
    (case a_Lrows => k_is)
    (case l_Lrows => k_is)
    (case c_Lrows => k_is)
    (case k_Lrows => k_is)
    (case a_Lasked => k_is)
    (case l_Lasked => k_is)
    (case c_Lasked => k_is)
    (case k_Lasked => k_is)
    (case a_Ldue => k_is)
    (case l_Ldue => k_is)
    (case c_Ldue => k_is)
    (case k_Ldue => k_is)
    (case a_Ldone => k_is)
    (case l_Ldone => k_is)
    (case c_Ldone => k_is)
    (case k_Ldone => k_is)
    (case a_Ldeed => k_is)
    (case l_Ldeed => k_is)
    (case c_Ldeed => k_is)
    (case k_Ldeed => k_is)
    (case a_Lis_files => k_is)
    (case l_Lis_files => k_is)
    (case c_Lis_files => k_is)
    (case k_Lis_files => k_is)
    (case a_law => k_is)
    (case l_law => k_is)
    (case c_law => k_is)
    (case k_law => k_is)
    (case z_len => k_is)
    (case z_range => k_is)
    (case z_isinstance => k_is)
    (case z_list => k_is)
    (case z_int => k_is)
    (case z_bool => k_is)
    (case z_str => k_is)
    (case z_tuple => k_is)
    (case z_dict => k_is)
    (case z_set => k_is)
    (case z_sorted => k_is)
    (case z_min => k_is)
    (case z_max => k_is)
    (case z_reversed => k_is)
    (case z_ValueError => k_is)
    (case gC_PaneError => k_is)
    (case gC_NoNumber => k_is)
    (case gC_NoSpace => k_is)
    (case gC_NoFile => k_is)
    (case gC_NoPage => k_is)
    (case gC_NoRight => k_is)
    (case gC_Taken => k_is)
    (case gC_Held => k_is)
    (case gC_Full => k_is)
    (case gC_NoRow => k_is)
    (case yc_PaneError => k_is)
    (case yt_PaneError => k_is)
    (case yc_NoNumber => k_is)
    (case yt_NoNumber => k_is)
    (case yc_NoSpace => k_is)
    (case yt_NoSpace => k_is)
    (case yc_NoFile => k_is)
    (case yt_NoFile => k_is)
    (case yc_NoPage => k_is)
    (case yt_NoPage => k_is)
    (case yc_NoRight => k_is)
    (case yt_NoRight => k_is)
    (case yc_Taken => k_is)
    (case yt_Taken => k_is)
    (case yc_Held => k_is)
    (case yt_Held => k_is)
    (case yc_Full => k_is)
    (case yt_Full => k_is)
    (case yc_NoRow => k_is)
    (case yt_NoRow => k_is)
    (case yb => k_is)
    (case xq_NoFile => k_exc)
    (case xk_NoFile => k_is)
    (case x1_NoFile => k_is)
    (case x2_NoFile => k_is)
    (case x3_NoFile => k_is)
    (case x4_NoFile => k_is)
    (case x5_NoFile => k_is)
    (case x8_NoFile => k_is)
    (case kv_NoFile => k_is)
    (case kt_NoFile_PaneError => k_is)
    (case kt_NoFile_NoNumber => k_is)
    (case kt_NoFile_NoSpace => k_is)
    (case kt_NoFile_NoFile => k_is)
    (case kt_NoFile_NoPage => k_is)
    (case kt_NoFile_NoRight => k_is)
    (case kt_NoFile_Taken => k_is)
    (case kt_NoFile_Held => k_is)
    (case kt_NoFile_Full => k_is)
    (case kt_NoFile_NoRow => k_is)
    (case xq_NoPage => k_exc)
    (case xk_NoPage => k_is)
    (case x1_NoPage => k_is)
    (case x2_NoPage => k_is)
    (case x3_NoPage => k_is)
    (case x4_NoPage => k_is)
    (case x5_NoPage => k_is)
    (case x8_NoPage => k_is)
    (case kv_NoPage => k_is)
    (case kt_NoPage_PaneError => k_is)
    (case kt_NoPage_NoNumber => k_is)
    (case kt_NoPage_NoSpace => k_is)
    (case kt_NoPage_NoFile => k_is)
    (case kt_NoPage_NoPage => k_is)
    (case kt_NoPage_NoRight => k_is)
    (case kt_NoPage_Taken => k_is)
    (case kt_NoPage_Held => k_is)
    (case kt_NoPage_Full => k_is)
    (case kt_NoPage_NoRow => k_is)
    (case xq_Taken => k_exc)
    (case xk_Taken => k_is)
    (case x1_Taken => k_is)
    (case x2_Taken => k_is)
    (case x3_Taken => k_is)
    (case x4_Taken => k_is)
    (case x5_Taken => k_is)
    (case x8_Taken => k_is)
    (case kv_Taken => k_is)
    (case kt_Taken_PaneError => k_is)
    (case kt_Taken_NoNumber => k_is)
    (case kt_Taken_NoSpace => k_is)
    (case kt_Taken_NoFile => k_is)
    (case kt_Taken_NoPage => k_is)
    (case kt_Taken_NoRight => k_is)
    (case kt_Taken_Taken => k_is)
    (case kt_Taken_Held => k_is)
    (case kt_Taken_Full => k_is)
    (case kt_Taken_NoRow => k_is)
    (case x6 => k_is)
    (case x7 => k_is)
