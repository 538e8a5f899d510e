import PyProof.Rows.All
import Wide.All
import OpenK.AllK
import Wide.FinOn
import HandS.ForExc
import HandS.Comp
import HandS.Wide
import HandS.IsInst
import HandS.Text
import HandS.Iter
import HandS.Zip
import HandS.CallSlots
import HandS.ExcInit
import HandS.ExcField
import HandS.ExcIs
import HandS.ClsMeth
import HandS.MakeKwOnly
import PyProof.InstEq
import HandS.Deep
import HandS.Codes
import PySem.Challenge.RW_fourhinges_k68_changes_made_and_refused
import Open.SpecLaws
import KE.OsGo
set_option Elab.async false
set_option linter.all false
set_option maxRecDepth 100000
set_option maxHeartbeats 4000000
/-! L3: values by their data. D: a value as data (tuples, frozen lists, finished instances by what they hold); Mem: what may still change. -/
namespace L3
open PySem PySem.Spec PyProof.Rows L2

inductive D where
  | non | bl (b : Bool) | int (i : Int) | str (x : Str) | ty (n : String) | ref (a : Addr)
  | tup (xs : List D) | lst (xs : List D)
  | ins (C : Addr) (fs : List (Str × D))
  | exc (a : Addr) (d : Option Addr) (fs : List (Str × D))
inductive MO where
  | lst (xs : List D)
  | ins (C : Addr) (fs : List (Str × D))
abbrev Mem := Addr → Option MO
def Mem.put (M : Mem) (a : Addr) (o : MO) : Mem := fun b => if b = a then some o else M b
def Mem.del (M : Mem) (a : Addr) : Mem := fun b => if b = a then none else M b
theorem put_same {M : Mem} {a : Addr} {o : MO} : M.put a o a = some o := if_pos rfl
theorem put_ne {M : Mem} {a b : Addr} {o : MO} (h : b ≠ a) : M.put a o b = M b := if_neg h
theorem mdel_same {M : Mem} {a : Addr} : M.del a a = none := if_pos rfl
theorem mdel_ne {M : Mem} {a b : Addr} (h : b ≠ a) : M.del a b = M b := if_neg h
theorem put_put {M : Mem} {a : Addr} {o u : MO} : (M.put a o).put a u = M.put a u := by
  funext b
  unfold Mem.put
  split <;> rfl
theorem del_put {M : Mem} {a : Addr} {o : MO} (h : M a = none) : (M.put a o).del a = M := by
  funext b
  by_cases e : b = a
  · rw [e, mdel_same, h]
  · rw [mdel_ne e, put_ne e]

/-- the heap without what may still change -/
def hid (H : Hp) (M : Mem) : Hp := fun b => match M b with | some _ => none | none => H b

mutual
inductive Rep (K : PySem.W.Frag) (N : Hp) : D → V → Prop
  | non : Rep K N .non .non
  | bl {b : Bool} : Rep K N (.bl b) (.bl b)
  | int {i : Int} : Rep K N (.int i) (.int i)
  | str {x : Str} : Rep K N (.str x) (.str x)
  | ty {n : String} : Rep K N (.ty n) (.ty n)
  | ref {a : Addr} : Rep K N (.ref a) (.ref a)
  | tup {a : Addr} {xs : List D} {vs : List V} : SqT K N a vs → Reps K N xs vs → Rep K N (.tup xs) (.ref a)
  | lst {a : Addr} {xs : List D} {vs : List V} : SqL K N a vs → Reps K N xs vs → Rep K N (.lst xs) (.ref a)
  | ins {a C dx : Addr} {fs : List (Str × D)} {gs : List (Str × V)} : N a = some (.ins C dx gs) → RepF K N fs gs → Rep K N (.ins C fs) (.ref a)
  | exc {a : Addr} {d : Addr} {fs : List (Str × D)} {gs : List (Str × V)} : N d = some (.xd gs) → RepF K N fs gs → Rep K N (.exc a (some d) fs) (.ref a)
  | exc0 {a : Addr} : Rep K N (.exc a none []) (.ref a)
inductive Reps (K : PySem.W.Frag) (N : Hp) : List D → List V → Prop
  | nil : Reps K N [] []
  | cons {x : D} {v : V} {xs : List D} {vs : List V} : Rep K N x v → Reps K N xs vs → Reps K N (x :: xs) (v :: vs)
inductive RepF (K : PySem.W.Frag) (N : Hp) : List (Str × D) → List (Str × V) → Prop
  | nil : RepF K N [] []
  | cons {f : Str} {x : D} {v : V} {xs : List (Str × D)} {vs : List (Str × V)} : Rep K N x v → RepF K N xs vs → RepF K N ((f, x) :: xs) ((f, v) :: vs)
end

theorem sqL_mono {K : PySem.W.Frag} {N N' : Hp} {a : Addr} {xs : List V} (e : Same N N') (h : SqL K N a xs) : SqL K N' a xs := e.seq h
theorem sqT_mono {K : PySem.W.Frag} {N N' : Hp} {a : Addr} {xs : List V} (e : Same N N') (h : SqT K N a xs) : SqT K N' a xs := by
  rcases h with (h | ⟨o, h⟩) | h
  · exact .inl (.inl (e _ _ h))
  · exact .inl (.inr ⟨o, e _ _ h⟩)
  · exact .inr h
section
variable {K : PySem.W.Frag} {N N' : Hp}
mutual
theorem Rep.mono (e : Same N N') : ∀ {d : D} {v : V}, Rep K N d v → Rep K N' d v
  | _, _, .non => .non
  | _, _, .bl => .bl
  | _, _, .int => .int
  | _, _, .str => .str
  | _, _, .ty => .ty
  | _, _, .ref => .ref
  | _, _, .tup h r => .tup (sqT_mono e h) (Reps.mono e r)
  | _, _, .lst h r => .lst (sqL_mono e h) (Reps.mono e r)
  | _, _, .ins h r => .ins (e _ _ h) (RepF.mono e r)
  | _, _, .exc h r => .exc (e _ _ h) (RepF.mono e r)
  | _, _, .exc0 => .exc0
theorem Reps.mono (e : Same N N') : ∀ {d : List D} {v : List V}, Reps K N d v → Reps K N' d v
  | _, _, .nil => .nil
  | _, _, .cons h r => .cons (Rep.mono e h) (Reps.mono e r)
theorem RepF.mono (e : Same N N') : ∀ {d : List (Str × D)} {v : List (Str × V)}, RepF K N d v → RepF K N' d v
  | _, _, .nil => .nil
  | _, _, .cons h r => .cons (Rep.mono e h) (RepF.mono e r)
end
theorem Reps.length : ∀ {d : List D} {v : List V}, Reps K N d v → d.length = v.length
  | _, _, .nil => rfl
  | _, _, .cons _ r => congrArg (· + 1) (Reps.length r)
theorem Reps.get : ∀ {xs : List D} {vs : List V} {i : Nat} {x : D}, Reps K N xs vs → xs[i]? = some x → ∃ v, vs[i]? = some v ∧ Rep K N x v
  | _, _, _, _, .nil, e => by simp at e
  | _, _, 0, _, .cons r _, e => by
    simp only [List.getElem?_cons_zero, Option.some.injEq] at e
    subst e
    exact ⟨_, rfl, r⟩
  | _, _, i + 1, x, .cons _ t, e => by
    obtain ⟨v, h1, h2⟩ := Reps.get (i := i) (x := x) t (by simpa using e)
    exact ⟨v, by simpa using h1, h2⟩
theorem Reps.append : ∀ {xs ys : List D} {vs ws : List V}, Reps K N xs vs → Reps K N ys ws → Reps K N (xs ++ ys) (vs ++ ws)
  | _, _, _, _, .nil, s => s
  | _, _, _, _, .cons r t, s => .cons r (Reps.append t s)
theorem Reps.take : ∀ {xs : List D} {vs : List V} (n : Nat), Reps K N xs vs → Reps K N (xs.take n) (vs.take n)
  | _, _, 0, _ => .nil
  | _, _, _ + 1, .nil => .nil
  | _, _, n + 1, .cons r t => .cons r (Reps.take n t)
theorem Reps.drop : ∀ {xs : List D} {vs : List V} (n : Nat), Reps K N xs vs → Reps K N (xs.drop n) (vs.drop n)
  | _, _, 0, r => r
  | _, _, _ + 1, .nil => .nil
  | _, _, n + 1, .cons _ t => Reps.drop n t
theorem Reps.set {x : D} {v : V} (r : Rep K N x v) : ∀ {xs : List D} {vs : List V} (i : Nat), Reps K N xs vs → Reps K N (xs.set i x) (vs.set i v)
  | _, _, _, .nil => .nil
  | _, _, 0, .cons _ t => .cons r t
  | _, _, i + 1, .cons q t => .cons q (Reps.set r i t)
theorem Reps.snoc {x : D} {v : V} {xs : List D} {vs : List V} (h : Reps K N xs vs) (r : Rep K N x v) : Reps K N (xs ++ [x]) (vs ++ [v]) := h.append (.cons r .nil)
theorem Reps.reverse : ∀ {xs : List D} {vs : List V}, Reps K N xs vs → Reps K N xs.reverse vs.reverse
  | _, _, .nil => .nil
  | _, _, .cons r t => by
    rw [List.reverse_cons, List.reverse_cons]
    exact (Reps.reverse t).snoc r
theorem RepF.lookup : ∀ {fs : List (Str × D)} {gs : List (Str × V)} {f : Str} {x : D}, RepF K N fs gs → fs.lookup f = some x → ∃ v, gs.lookup f = some v ∧ Rep K N x v
  | _, _, _, _, .nil, e => by simp at e
  | _, _, f, x, .cons (f := g) r t, e => by
    by_cases q : f = g
    · subst q
      simp only [List.lookup, beq_self_eq_true, Option.some.injEq] at e
      subst e
      exact ⟨_, by simp [List.lookup], r⟩
    · have q' : (f == g) = false := by simpa using q
      simp only [List.lookup, q'] at e
      obtain ⟨v, h1, h2⟩ := RepF.lookup t e
      exact ⟨v, by simpa [List.lookup, q'] using h1, h2⟩
theorem RepF.lookup_none : ∀ {fs : List (Str × D)} {gs : List (Str × V)} {f : Str}, RepF K N fs gs → fs.lookup f = none → gs.lookup f = none
  | _, _, _, .nil, e => rfl
  | _, _, f, .cons (f := g) r t, e => by
    by_cases q : f = g
    · subst q
      simp [List.lookup] at e
    · have q' : (f == g) = false := by simpa using q
      simp only [List.lookup, q'] at e
      simpa [List.lookup, q'] using RepF.lookup_none t e
theorem RepF.length : ∀ {d : List (Str × D)} {v : List (Str × V)}, RepF K N d v → d.length = v.length
  | _, _, .nil => rfl
  | _, _, .cons _ r => congrArg (· + 1) (RepF.length r)
end

/-- what stands at an address that may still change -/
def MOk (K : PySem.W.Frag) (H N : Hp) (a : Addr) : MO → Prop
  | .lst xs => ∃ vs, H a = some (.lst vs) ∧ Reps K N xs vs
  | .ins C fs => ∃ dx gs, H a = some (.ins C dx gs) ∧ RepF K N fs gs
def MRel (K : PySem.W.Frag) (M : Mem) (H : Hp) : Prop := ∀ a o, M a = some o → MOk K H (hid H M) a o
theorem MOk.there {K : PySem.W.Frag} {H N : Hp} {a : Addr} {o : MO} (h : MOk K H N a o) : ∃ u, H a = some u := by
  cases o with
  | lst xs => obtain ⟨_, e, _⟩ := h; exact ⟨_, e⟩
  | ins C fs => obtain ⟨_, _, e, _⟩ := h; exact ⟨_, e⟩
theorem MRel.free {K : PySem.W.Frag} {M : Mem} {H : Hp} (m : MRel K M H) {a : Addr} (h : H a = none) : M a = none := by
  cases e : M a with
  | none => rfl
  | some o =>
    obtain ⟨u, q⟩ := (m a o e).there
    rw [h] at q
    cases q
theorem hid_none {H : Hp} {M : Mem} {a : Addr} (h : M a = none) : hid H M a = H a := by
  unfold hid
  rw [h]
theorem hid_some {H : Hp} {M : Mem} {a : Addr} {o : MO} (h : M a = some o) : hid H M a = none := by
  unfold hid
  rw [h]
theorem of_hid {H : Hp} {M : Mem} {a : Addr} {u : HO} (h : hid H M a = some u) : H a = some u ∧ M a = none := by
  cases e : M a with
  | none =>
    rw [hid_none e] at h
    exact ⟨h, rfl⟩
  | some o =>
    rw [hid_some e] at h
    cases h
theorem hid_free {H : Hp} {M : Mem} {a : Addr} (h : H a = none) : hid H M a = none := by
  unfold hid
  split
  · rfl
  · exact h
/-- a new object that will not change -/
theorem same_new {H : Hp} {M : Mem} {p : Addr} {o : HO} (h : H p = none) : Same (hid H M) (hid (upd H p o) M) := fun b u e => by
  obtain ⟨e1, e2⟩ := of_hid e
  rw [hid_none e2, upd_ne (ne_of_none e1 h)]
  exact e1
theorem mrel_new {K : PySem.W.Frag} {H : Hp} {M : Mem} {p : Addr} {o : HO} (m : MRel K M H) (h : H p = none) : MRel K M (upd H p o) := fun a mo e => by
  have z := m a mo e
  have ne : a ≠ p := fun q => by
    rw [q, m.free h] at e
    cases e
  cases mo with
  | lst xs =>
    obtain ⟨vs, e1, r⟩ := z
    exact ⟨vs, by rw [upd_ne ne]; exact e1, r.mono (same_new h)⟩
  | ins C fs =>
    obtain ⟨dx, gs, e1, r⟩ := z
    exact ⟨dx, gs, by rw [upd_ne ne]; exact e1, r.mono (same_new h)⟩
theorem hid_put {H : Hp} {M : Mem} {p : Addr} {u : HO} {o : MO} (h : ∃ v, M p = some v) : hid (upd H p u) (M.put p o) = hid H M := by
  obtain ⟨v, h⟩ := h
  funext b
  by_cases e : b = p
  · subst e
    rw [hid_some put_same, hid_some h]
  · cases q : M b with
    | none => rw [hid_none ((put_ne e).trans q), hid_none q, upd_ne e]
    | some w => rw [hid_some ((put_ne e).trans q), hid_some q]
theorem hid_puti {H : Hp} {M : Mem} {p : Addr} {u : HO} {o : MO} (hp : H p = none) (h : M p = none) : hid (upd H p u) (M.put p o) = hid H M := by
  funext b
  by_cases e : b = p
  · subst e
    rw [hid_some put_same, hid_none h, hp]
  · cases q : M b with
    | none => rw [hid_none ((put_ne e).trans q), hid_none q, upd_ne e]
    | some w => rw [hid_some ((put_ne e).trans q), hid_some q]
theorem mrel_put {K : PySem.W.Frag} {H : Hp} {M : Mem} {p : Addr} {u : HO} {o : MO} (m : MRel K M H) (hh : hid (upd H p u) (M.put p o) = hid H M) (h : MOk K (upd H p u) (hid H M) p o) : MRel K (M.put p o) (upd H p u) := fun a mo e => by
  rw [hh]
  by_cases q : a = p
  · subst q
    rw [put_same] at e
    cases e
    exact h
  · rw [put_ne q] at e
    have z := m a mo e
    cases mo with
    | lst xs =>
      obtain ⟨vs, e1, r⟩ := z
      exact ⟨vs, by rw [upd_ne q]; exact e1, r⟩
    | ins C fs =>
      obtain ⟨dx, gs, e1, r⟩ := z
      exact ⟨dx, gs, by rw [upd_ne q]; exact e1, r⟩
/-- some of what may change is let go (or stands from now on) -/
def Drop (M M' : Mem) : Prop := ∀ a, M' a = M a ∨ M' a = none
theorem Drop.refl (M : Mem) : Drop M M := fun _ => .inl rfl
theorem Drop.trans {M M1 M2 : Mem} (a : Drop M M1) (b : Drop M1 M2) : Drop M M2 := fun x => by
  rcases b x with e | e
  · rw [e]; exact a x
  · exact .inr e
theorem Drop.del {M : Mem} {a : Addr} : Drop M (M.del a) := fun b => by
  by_cases e : b = a
  · rw [e]
    exact .inr mdel_same
  · exact .inl (mdel_ne e)
theorem drop_same {H : Hp} {M M' : Mem} (d : Drop M M') : Same (hid H M) (hid H M') := fun b u e => by
  obtain ⟨e1, e2⟩ := of_hid e
  rcases d b with q | q
  · rw [hid_none (q.trans e2)]; exact e1
  · rw [hid_none q]; exact e1
theorem drop_mrel {K : PySem.W.Frag} {H : Hp} {M M' : Mem} (m : MRel K M H) (d : Drop M M') : MRel K M' H := fun a mo e => by
  rcases d a with q | q
  · rw [q] at e
    have z := m a mo e
    cases mo with
    | lst xs =>
      obtain ⟨vs, e1, r⟩ := z
      exact ⟨vs, e1, r.mono (drop_same d)⟩
    | ins C fs =>
      obtain ⟨dx, gs, e1, r⟩ := z
      exact ⟨dx, gs, e1, r.mono (drop_same d)⟩
  · rw [q] at e
    cases e

/-! ### the slots -/
abbrev St3 := List (Option D)
inductive RelS (K : PySem.W.Frag) (N : Hp) : St3 → L2.St → Prop
  | nil : RelS K N [] []
  | cons {x : D} {v : V} {s : St3} {t : L2.St} : Rep K N x v → RelS K N s t → RelS K N (some x :: s) (some v :: t)
  | any {o : Option V} {s : St3} {t : L2.St} : RelS K N s t → RelS K N (none :: s) (o :: t)
section
variable {K : PySem.W.Frag} {N N' : Hp}
theorem RelS.mono (e : Same N N') : ∀ {s : St3} {t : L2.St}, RelS K N s t → RelS K N' s t
  | _, _, .nil => .nil
  | _, _, .cons h r => .cons (h.mono e) (RelS.mono e r)
  | _, _, .any r => .any (RelS.mono e r)
theorem RelS.get : ∀ {s : St3} {t : L2.St} {i : Nat} {x : D}, RelS K N s t → s[i]? = some (some x) → ∃ v, t[i]? = some (some v) ∧ Rep K N x v
  | _, _, _, _, .nil, e => by simp at e
  | _, _, 0, _, .cons r _, e => by
    simp only [List.getElem?_cons_zero, Option.some.injEq] at e
    subst e
    exact ⟨_, rfl, r⟩
  | _, _, 0, _, .any _, e => by simp at e
  | _, _, i + 1, x, .cons _ t, e => by
    obtain ⟨v, h1, h2⟩ := RelS.get (i := i) (x := x) t (by simpa using e)
    exact ⟨v, by simpa using h1, h2⟩
  | _, _, i + 1, x, .any t, e => by
    obtain ⟨v, h1, h2⟩ := RelS.get (i := i) (x := x) t (by simpa using e)
    exact ⟨v, by simpa using h1, h2⟩
theorem RelS.set {x : D} {v : V} (r : Rep K N x v) : ∀ {s : St3} {t : L2.St} (i : Nat), RelS K N s t → RelS K N (s.set i (some x)) (t.set i (some v))
  | _, _, _, .nil => .nil
  | _, _, 0, .cons _ t => .cons r t
  | _, _, 0, .any t => .cons r t
  | _, _, i + 1, .cons q t => .cons q (RelS.set r i t)
  | _, _, i + 1, .any t => .any (RelS.set r i t)
theorem RelS.setN {o : Option V} : ∀ {s : St3} {t : L2.St} (i : Nat), RelS K N s t → RelS K N (s.set i none) (t.set i o)
  | _, _, _, .nil => .nil
  | _, _, 0, .cons _ t => .any t
  | _, _, 0, .any t => .any t
  | _, _, i + 1, .cons q t => .cons q (RelS.setN i t)
  | _, _, i + 1, .any t => .any (RelS.setN i t)
theorem RelS.wild : ∀ {t : L2.St} {n : Nat}, t.length = n → RelS K N (List.replicate n none) t
  | [], 0, _ => .nil
  | _ :: t, n + 1, h => .any (RelS.wild (by simpa using h))
  | [], n + 1, h => by simp at h
  | _ :: _, 0, h => by simp at h
theorem RelS.length : ∀ {s : St3} {t : L2.St}, RelS K N s t → s.length = t.length
  | _, _, .nil => rfl
  | _, _, .cons _ r => congrArg (· + 1) (RelS.length r)
  | _, _, .any r => congrArg (· + 1) (RelS.length r)
end

/-! ### readings by data -/
abbrev XK3 := Value → List (Str × D) → Mem → Prop
abbrev VK3 := D → Mem → Prop
abbrev TE3 := St3 → Mem → VK3 → XK3 → Prop
abbrev TT3 := St3 → Mem → (Bool → Mem → Prop) → XK3 → Prop
abbrev TA3 := St3 → Mem → (List D → Mem → Prop) → XK3 → Prop
structure Ends3 where
  nx : St3 → Mem → Prop
  rt : VK3
  bk : St3 → Mem → Prop := fun _ _ => False
  ct : St3 → Mem → Prop := fun _ _ => False
  ex : Value → List (Str × D) → St3 → Mem → Prop := fun _ _ _ _ => False
abbrev TS3 := Ends3 → St3 → Mem → Prop
abbrev TG3 := D → St3 → Mem → (St3 → Mem → Prop) → Prop
abbrev TI3 := St3 → Mem → (List D → (Mem → Prop) → Mem → Prop) → XK3 → Prop

def XFs (K : PySem.W.Frag) (N : Hp) (d : Option Addr) (fs : List (Str × D)) : Prop := match d with
  | some a => ∃ gs, N a = some (.xd gs) ∧ RepF K N fs gs
  | none => fs = []
theorem XFs.mono {K : PySem.W.Frag} {N N' : Hp} (e : Same N N') {d : Option Addr} {fs : List (Str × D)} (h : XFs K N d fs) : XFs K N' d fs := by
  cases d with
  | some a =>
    obtain ⟨gs, h1, h2⟩ := h
    exact ⟨gs, e _ _ h1, h2.mono e⟩
  | none => exact h
def VLink (K : PySem.W.Frag) (N : Hp) (Q3 : VK3) (Q : VK) : Prop := ∀ x M H v, MRel K M H → Same N (hid H M) → Rep K (hid H M) x v → Q3 x M → Q v H
def ALink (K : PySem.W.Frag) (N : Hp) (Q3 : List D → Mem → Prop) (Q : List V → Hp → Prop) : Prop := ∀ xs M H vs, MRel K M H → Same N (hid H M) → Reps K (hid H M) xs vs → Q3 xs M → Q vs H
def TLink (K : PySem.W.Frag) (N : Hp) (Q3 : Bool → Mem → Prop) (Q : Bool → Hp → Prop) : Prop := ∀ b M H, MRel K M H → Same N (hid H M) → Q3 b M → Q b H
def ELink (K : PySem.W.Frag) (N : Hp) (E3 : XK3) (P : Value → Option Addr → Hp → Prop) : Prop := ∀ c fs M H d, MRel K M H → Same N (hid H M) → XFs K (hid H M) d fs → E3 c fs M → P c d H
def SLink (K : PySem.W.Frag) (N : Hp) (Q3 : St3 → Mem → Prop) (Q : L2.St → Hp → Prop) : Prop := ∀ σ3 M σ H, RelS K (hid H M) σ3 σ → MRel K M H → Same N (hid H M) → Q3 σ3 M → Q σ H
structure DLink (K : PySem.W.Frag) (W : WX) (N : Hp) (D3 : Ends3) (D : Ends) : Prop where
  nx : SLink K N D3.nx D.nx
  rt : VLink K N D3.rt D.rt
  bk : SLink K N D3.bk D.bk
  ct : SLink K N D3.ct D.ct
  ex : ∀ c fs σ3 M σ H d, RelS K (hid H M) σ3 σ → MRel K M H → Same N (hid H M) → XFs K (hid H M) d fs → D3.ex c fs σ3 M → W c d σ H
section
variable {K : PySem.W.Frag} {N N' : Hp}
theorem VLink.mono (e : Same N N') {Q3 : VK3} {Q : VK} (h : VLink K N Q3 Q) : VLink K N' Q3 Q := fun x M H v a b => h x M H v a (e.trans b)
theorem ALink.mono (e : Same N N') {Q3 : List D → Mem → Prop} {Q : List V → Hp → Prop} (h : ALink K N Q3 Q) : ALink K N' Q3 Q := fun x M H v a b => h x M H v a (e.trans b)
theorem TLink.mono (e : Same N N') {Q3 : Bool → Mem → Prop} {Q : Bool → Hp → Prop} (h : TLink K N Q3 Q) : TLink K N' Q3 Q := fun x M H a b => h x M H a (e.trans b)
theorem ELink.mono (e : Same N N') {E3 : XK3} {P : Value → Option Addr → Hp → Prop} (h : ELink K N E3 P) : ELink K N' E3 P := fun c fs M H d a b => h c fs M H d a (e.trans b)
theorem SLink.mono (e : Same N N') {Q3 : St3 → Mem → Prop} {Q : L2.St → Hp → Prop} (h : SLink K N Q3 Q) : SLink K N' Q3 Q := fun a M b H r m s => h a M b H r m (e.trans s)
theorem DLink.mono {W : WX} (e : Same N N') {D3 : Ends3} {D : Ends} (h : DLink K W N D3 D) : DLink K W N' D3 D :=
  ⟨h.nx.mono e, h.rt.mono e, h.bk.mono e, h.ct.mono e, fun c fs a M b H d r m s => h.ex c fs a M b H d r m (e.trans s)⟩
end
def lowE (K : PySem.W.Frag) (W : WX) (t3 : TE3) : TE := fun σ H Q => ∃ σ3 M Q3 E3, RelS K (hid H M) σ3 σ ∧ MRel K M H ∧ t3 σ3 M Q3 E3 ∧ VLink K (hid H M) Q3 Q ∧ ELink K (hid H M) E3 fun c d H' => W c d σ H'
def lowA (K : PySem.W.Frag) (W : WX) (t3 : TA3) : TA := fun σ H Q => ∃ σ3 M Q3 E3, RelS K (hid H M) σ3 σ ∧ MRel K M H ∧ t3 σ3 M Q3 E3 ∧ ALink K (hid H M) Q3 Q ∧ ELink K (hid H M) E3 fun c d H' => W c d σ H'
def lowT (K : PySem.W.Frag) (W : WX) (t3 : TT3) : TT := fun σ H Q => ∃ σ3 M Q3 E3, RelS K (hid H M) σ3 σ ∧ MRel K M H ∧ t3 σ3 M Q3 E3 ∧ TLink K (hid H M) Q3 Q ∧ ELink K (hid H M) E3 fun c d H' => W c d σ H'
def lowS (K : PySem.W.Frag) (W : WX) (t3 : TS3) : TS := fun D σ H => ∃ σ3 M D3, RelS K (hid H M) σ3 σ ∧ MRel K M H ∧ t3 D3 σ3 M ∧ DLink K W (hid H M) D3 D
def lowG (K : PySem.W.Frag) (g3 : TG3) : TG := fun v σ H Q => ∃ x σ3 M Q3, Rep K (hid H M) x v ∧ RelS K (hid H M) σ3 σ ∧ MRel K M H ∧ g3 x σ3 M Q3 ∧ SLink K (hid H M) Q3 Q
/-- what an iterator gives, turn by turn -/
structure WalkOk (K : PySem.W.Frag) (N : Hp) (G : Mem → Prop) (J : It) (xs : List D) : Prop where
  go : ∀ i x M H, MRel K M H → Same N (hid H M) → G M → xs[i]? = some x → J.go i H ∧ ∀ v H', J.yld i H v H' → MRel K M H' ∧ Same (hid H M) (hid H' M) ∧ Rep K (hid H' M) x v
  stop : ∀ i M H, MRel K M H → Same N (hid H M) → G M → xs.length ≤ i → J.stop i H
def lowI (K : PySem.W.Frag) (W : WX) (t3 : TI3) : TI := fun σ H R => ∃ σ3 M Q3 E3, RelS K (hid H M) σ3 σ ∧ MRel K M H ∧ t3 σ3 M Q3 E3 ∧
  (∀ xs G M' H' J, MRel K M' H' → Same (hid H M) (hid H' M') → WalkOk K (hid H' M') G J xs → Q3 xs G M' → R J H') ∧ ELink K (hid H M) E3 fun c d H' => W c d σ H'

theorem PE.imp {X : Cx} {e : Expr} {t t' : TE} (h : PE X e t) (i : ∀ σ H Q, t' σ H Q → t σ H Q) : PE X e t' := ⟨fun pins s σ H Q I z => h.run pins s σ H Q I (i σ H Q z)⟩
theorem PT.imp {X : Cx} {e : Expr} {t t' : TT} (h : PT X e t) (i : ∀ σ H Q, t' σ H Q → t σ H Q) : PT X e t' := ⟨fun pins s σ H Q I z => h.run pins s σ H Q I (i σ H Q z)⟩
theorem PW.imp {X : Cx} {e : Expr} {t t' : TT} (h : PW X e t) (i : ∀ σ H Q, t' σ H Q → t σ H Q) : PW X e t' := ⟨fun wh pins s σ H Q I z => h.run wh pins s σ H Q I (i σ H Q z)⟩
theorem PA.imp {X : Cx} {e : List Expr} {t t' : TA} (h : PA X e t) (i : ∀ σ H Q, t' σ H Q → t σ H Q) : PA X e t' := ⟨fun pos pins s σ H Q I z => h.run pos pins s σ H Q I (i σ H Q z)⟩
theorem PS.imp {X : Cx} {e : Stmt} {t t' : TS} (h : PS X e t) (i : ∀ D σ H, t' D σ H → t D σ H) : PS X e t' := ⟨fun pins s σ H D I z => h.run pins s σ H D I (i D σ H z)⟩
theorem PSs.imp {X : Cx} {e : List Stmt} {t t' : TS} (h : PSs X e t) (i : ∀ D σ H, t' D σ H → t D σ H) : PSs X e t' := ⟨fun pins s σ H D I z => h.run pins s σ H D I (i D σ H z)⟩
theorem PG.imp {X : Cx} {e : Expr} {t t' : TG} (h : PG X e t) (i : ∀ v σ H Q, t' v σ H Q → t v σ H Q) : PG X e t' := ⟨fun pins s σ H v u Q I r z => h.run pins s σ H v u Q I r (i v σ H Q z)⟩
theorem PI.imp {X : Cx} {tg e : Expr} {t t' : TI} (h : PI X tg e t) (i : ∀ σ H R, t' σ H R → t σ H R) : PI X tg e t' := ⟨fun pins s σ H R I z => h.run pins s σ H R I (i σ H R z)⟩
/-- two readings of one expression: either -/
theorem PE.or {X : Cx} {e : Expr} {t t' : TE} (h : PE X e t) (h' : PE X e t') : PE X e fun σ H Q => t σ H Q ∨ t' σ H Q := ⟨fun pins s σ H Q I z => z.elim (h.run pins s σ H Q I) (h'.run pins s σ H Q I)⟩
theorem PI.or {X : Cx} {tg e : Expr} {t t' : TI} (h : PI X tg e t) (h' : PI X tg e t') : PI X tg e fun σ H Q => t σ H Q ∨ t' σ H Q := ⟨fun pins s σ H Q I z => z.elim (h.run pins s σ H Q I) (h'.run pins s σ H Q I)⟩

def PE3 (X : Cx) (W : WX) (e : Expr) (t : TE3) : Prop := PE X e (lowE X.K W t)
def PT3 (X : Cx) (W : WX) (e : Expr) (t : TT3) : Prop := PT X e (lowT X.K W t)
def PW3 (X : Cx) (W : WX) (e : Expr) (t : TT3) : Prop := PW X e (lowT X.K W t)
def PA3 (X : Cx) (W : WX) (e : List Expr) (t : TA3) : Prop := PA X e (lowA X.K W t)
def PS3 (X : Cx) (W : WX) (e : Stmt) (t : TS3) : Prop := PS X e (lowS X.K W t)
def PSs3 (X : Cx) (W : WX) (e : List Stmt) (t : TS3) : Prop := PSs X e (lowS X.K W t)
def PG3 (X : Cx) (e : Expr) (t : TG3) : Prop := PG X e (lowG X.K t)
def PI3 (X : Cx) (W : WX) (tg e : Expr) (t : TI3) : Prop := PI X tg e (lowI X.K W t)
end L3

/-! L3Expr: expressions by data. -/
namespace L3
open PySem PySem.Spec PyProof.Rows L2
section
variable {X : Cx} {W : WX}
theorem hid_same {H : Hp} {M : Mem} : Same (hid H M) H := fun _ _ e => (of_hid e).1
theorem Rep.full {K : PySem.W.Frag} {H : Hp} {M : Mem} {x : D} {v : V} (r : Rep K (hid H M) x v) : Rep K H x v := r.mono hid_same

/-! ### names, constants -/
def tVar3 (i : Nat) : TE3 := fun σ M Q _ => ∃ x, σ[i]? = some (some x) ∧ Q x M
def tC3 (x : D) : TE3 := fun _ M Q _ => Q x M
theorem p_var {i : Nat} {e : Expr} (h : PE X e (tVar i)) : PE3 X W e (tVar3 i) := PE.imp h fun σ H Q ⟨σ3, M, Q3, E3, rs, m, ⟨x, ex, q⟩, vl, _⟩ => by
  obtain ⟨v, ev, rv⟩ := rs.get ex
  exact ⟨v, ev, vl x M H v m (Same.refl _) rv q⟩
theorem p_c {e : Expr} {v : V} {x : D} (h : PE X e (tC v)) (r : ∀ N, Rep X.K N x v) : PE3 X W e (tC3 x) := PE.imp h fun σ H Q ⟨σ3, M, Q3, E3, rs, m, q, vl, _⟩ => vl x M H v m (Same.refl _) (r _) q
theorem p_int {i j pos} : PE3 X W (.Constant (.int i) j pos) (tC3 (.int i)) := p_c pe_int fun _ => .int
theorem p_bl {i j pos} : PE3 X W (.Constant (.bool i) j pos) (tC3 (.bl i)) := p_c pe_bl fun _ => .bl
theorem p_non {j pos} : PE3 X W (.Constant .none j pos) (tC3 .non) := p_c pe_non fun _ => .non
theorem p_str {i j pos} : PE3 X W (.Constant (.str i) j pos) (tC3 (.str i)) := p_c pe_str fun _ => .str
/-- a module's constant, a class -/
theorem p_gint {x : Str} {i : Int} {pos : Pos} (hm : ∃ t, X.mg x = some (.int i t)) (hg : Gl X x := by rfl) (hd : (x == ("__debug__" : Str)) = false := by decide) : PE3 X W (.Name x pos) (tC3 (.int i)) := by
  obtain ⟨t, hm⟩ := hm
  exact p_c (pe_glob hg hm (v := .int i) ⟨t, rfl⟩ hd) fun _ => .int
theorem p_gstr {x : Str} {i : Str} {pos : Pos} (hm : ∃ t, X.mg x = some (.str i t)) (hg : Gl X x := by rfl) (hd : (x == ("__debug__" : Str)) = false := by decide) : PE3 X W (.Name x pos) (tC3 (.str i)) := by
  obtain ⟨t, hm⟩ := hm
  exact p_c (pe_glob hg hm (v := .str i) ⟨t, rfl⟩ hd) fun _ => .str
theorem p_gref {x : Str} {a : Addr} {pos : Pos} (hm : X.mg x = some (.ref a)) (hg : Gl X x := by rfl) (hd : (x == ("__debug__" : Str)) = false := by decide) : PE3 X W (.Name x pos) (tC3 (.ref a)) :=
  p_c (pe_glob hg hm (v := .ref a) rfl hd) fun _ => .ref
theorem p_ty {x : Str} {n : String} {pos : Pos} (hm : X.mg x = none) (hv : bootBuiltins x = some (.type n)) (hg : Gl X x := by rfl) (hn : x ≠ "__name__" := by decide) (hd : (x == ("__debug__" : Str)) = false := by decide) : PE3 X W (.Name x pos) (tC3 (.ty n)) :=
  p_c (pe_bltn hg hm hv (v := .ty n) rfl hn hd) fun _ => .ty

/-! ### operators by data -/
abbrev R23 := D → D → Mem → VK3 → Prop
abbrev R13 := D → Mem → VK3 → Prop
abbrev RA3 := List D → Mem → VK3 → Prop
def Lift2 (K : PySem.W.Frag) (r3 : R23) (r : R2) : Prop := ∀ x y M H v u Q3 Q, MRel K M H → Rep K (hid H M) x v → Rep K (hid H M) y u → r3 x y M Q3 → VLink K (hid H M) Q3 Q → r v u H Q
def Lift1 (K : PySem.W.Frag) (r3 : R13) (r : V → Hp → VK → Prop) : Prop := ∀ x M H v Q3 Q, MRel K M H → Rep K (hid H M) x v → r3 x M Q3 → VLink K (hid H M) Q3 Q → r v H Q
def LiftA (K : PySem.W.Frag) (r3 : RA3) (r : List V → Hp → VK → Prop) : Prop := ∀ xs M H vs Q3 Q, MRel K M H → Reps K (hid H M) xs vs → r3 xs M Q3 → VLink K (hid H M) Q3 Q → r vs H Q
def tOp3 (r : R23) (ta tb : TE3) : TE3 := fun σ M Q E => ta σ M (fun x M1 => tb σ M1 (fun y M2 => r x y M2 Q) E) E
def tUn3 (r : R13) (ta : TE3) : TE3 := fun σ M Q E => ta σ M (fun x M1 => r x M1 Q) E
theorem ELink.at {K : PySem.W.Frag} {N : Hp} {E3 : XK3} {P : Value → Option Addr → Hp → Prop} (h : ELink K N E3 P) : ELink K N E3 P := h
/-- the end of a two-place operation -/
theorem two_low {K : PySem.W.Frag} {ta tb : TE3} {r3 : R23} {r : R2} (L : Lift2 K r3 r) : ∀ σ H Q, lowE K W (tOp3 r3 ta tb) σ H Q → tOp r (lowE K W ta) (lowE K W tb) σ H Q := fun σ H Q ⟨σ3, M, Q3, E3, rs, m, h, vl, el⟩ =>
  ⟨σ3, M, _, E3, rs, m, h, fun x M1 H1 v m1 s1 rv h1 => ⟨σ3, M1, _, E3, rs.mono s1, m1, h1, fun y M2 H2 u m2 s2 ru h2 => L x y M2 H2 v u Q3 Q m2 (rv.mono s2) ru h2 (vl.mono (s1.trans s2)), el.mono s1⟩, el⟩
theorem one_low {K : PySem.W.Frag} {ta : TE3} {r3 : R13} {r : V → Hp → VK → Prop} (L : Lift1 K r3 r) : ∀ σ H Q, lowE K W (tUn3 r3 ta) σ H Q → (lowE K W ta) σ H (fun x H1 => r x H1 Q) := fun σ H Q ⟨σ3, M, Q3, E3, rs, m, h, vl, el⟩ =>
  ⟨σ3, M, _, E3, rs, m, h, fun x M1 H1 v m1 s1 rv h1 => L x M1 H1 v Q3 Q m1 rv h1 (vl.mono s1), el⟩
variable {a b c : Expr} {ta tb tc : TE3} {pos : Pos} {r3 : R23}
theorem p_op {op : Operator} {r : R2} (ho : OpR X (binaryOp op) r) (L : Lift2 X.K r3 r) (ha : PE3 X W a ta) (hb : PE3 X W b tb) : PE3 X W (.BinOp a op b pos) (tOp3 r3 ta tb) := PE.imp (pe_op ho ha hb) (two_low L)
theorem p_un {op : UnaryOp} {r3 : R13} {r : V → Hp → VK → Prop} (ho : UnR X (unaryOp op) r) (L : Lift1 X.K r3 r) (ha : PE3 X W a ta) : PE3 X W (.UnaryOp op a pos) (tUn3 r3 ta) := PE.imp (pe_un ho ha) (one_low L)
theorem p_cmp {op : CmpOp} {r : R2} (ho : OpR X (compareOp op) r) (L : Lift2 X.K r3 r) (hm : behindInMarks op b = false) (ha : PE3 X W a ta) (hb : PE3 X W b tb) : PE3 X W (.Compare a [op] [b] pos) (tOp3 r3 ta tb) :=
  PE.imp (pe_cmpR ho ha hb hm) (two_low L)
def tTest3 (t : TE3) : TT3 := fun σ M Q E => t σ M (fun x M1 => ∃ k, x = .bl k ∧ Q k M1) E
theorem test_low {K : PySem.W.Frag} {t3 : TE3} {t : TE} (L : ∀ σ H Q, lowE K W t3 σ H Q → t σ H Q) : ∀ σ H Q, lowT K W (tTest3 t3) σ H Q → tTest t σ H Q := fun σ H Q ⟨σ3, M, Q3, E3, rs, m, h, tl, el⟩ =>
  L σ H _ ⟨σ3, M, _, E3, rs, m, h, fun x M1 H1 v m1 s1 rv ⟨k, ex, h1⟩ => by
    subst ex
    cases rv
    exact ⟨k, rfl, tl k M1 H1 m1 s1 h1⟩, el⟩
theorem t_cmp {op : CmpOp} {r : R2} (ho : OpR X (compareOp op) r) (L : Lift2 X.K r3 r) (hm : behindInMarks op b = false) (ha : PE3 X W a ta) (hb : PE3 X W b tb) : PT3 X W (.Compare a [op] [b] pos) (tTest3 (tOp3 r3 ta tb)) :=
  PT.imp (pt_cmpR ho ha hb hm) (test_low (two_low L))
/-- an expression of a bool, as a test -/
theorem t_val {e : Expr} {t : TE3} (h : PE3 X W e t) (he : ∀ whole, isTrue e X.env whole = (do let v ← whole; standAt e.pos; holding [v] (truthy v)) := by intro _; rfl) : PT3 X W e (tTest3 t) :=
  PT.imp (pt_val h he) fun σ H Q z => test_low (fun _ _ _ y => y) σ H Q z
def tChain3 (r r' : R23) (ta tb tc : TE3) : TE3 := fun σ M Q E => ta σ M (fun x M1 => tb σ M1 (fun y M2 => r x y M2 fun z M3 => ∃ k, z = .bl k ∧ (if k = true then tc σ M3 (fun w' M4 => r' y w' M4 Q) E else Q (.bl false) M3)) E) E
theorem chain_low {K : PySem.W.Frag} {ra rb : R23} {r r' : R2} (L : Lift2 K ra r) (L' : Lift2 K rb r') : ∀ σ H Q, lowE K W (tChain3 ra rb ta tb tc) σ H Q → tChain r r' (lowE K W ta) (lowE K W tb) (lowE K W tc) σ H Q := fun σ H Q ⟨σ3, M, Q3, E3, rs, m, h, vl, el⟩ =>
  ⟨σ3, M, _, E3, rs, m, h, fun x M1 H1 v m1 s1 rv h1 => ⟨σ3, M1, _, E3, rs.mono s1, m1, h1, fun y M2 H2 u m2 s2 ru h2 => L x y M2 H2 v u _ _ m2 (rv.mono s2) ru h2 fun z M3 H3 w' m3 s3 rw' ⟨k, ez, h3⟩ => by
    subst ez
    cases rw'
    refine ⟨k, rfl, ?_⟩
    cases k with
    | true => exact ⟨σ3, M3, _, E3, rs.mono ((s1.trans s2).trans s3), m3, h3, fun z4 M4 H4 w4 m4 s4 r4 h4 => L' y z4 M4 H4 u w4 Q3 Q m4 (ru.mono (s3.trans s4)) r4 h4 (vl.mono (((s1.trans s2).trans s3).trans s4)), el.mono ((s1.trans s2).trans s3)⟩
    | false => exact vl _ M3 H3 _ m3 ((s1.trans s2).trans s3) .bl h3, el.mono s1⟩, el⟩
theorem p_chain {op op' : CmpOp} {ra rb : R23} {r r' : R2} (ho : OpR X (compareOp op) r) (L : Lift2 X.K ra r) (ho' : OpR X (compareOp op') r') (L' : Lift2 X.K rb r') (ha : PE3 X W a ta) (hb : PE3 X W b tb) (hc : PE3 X W c tc)
    (hm : lastMarks [op, op'] [b, c] = false := by with_unfolding_all rfl) : PE3 X W (.Compare a [op, op'] [b, c] pos) (tChain3 ra rb ta tb tc) := PE.imp (pe_chain ho ho' ha hb hc hm) (chain_low L L')
theorem t_chain {op op' : CmpOp} {ra rb : R23} {r r' : R2} (ho : OpR X (compareOp op) r) (L : Lift2 X.K ra r) (ho' : OpR X (compareOp op') r') (L' : Lift2 X.K rb r') (ha : PE3 X W a ta) (hb : PE3 X W b tb) (hc : PE3 X W c tc)
    (hm : lastMarks [op, op'] [b, c] = false := by with_unfolding_all rfl) : PT3 X W (.Compare a [op, op'] [b, c] pos) (tTest3 (tChain3 ra rb ta tb tc)) := PT.imp (pt_chain ho ho' ha hb hc hm) (test_low (chain_low L L'))

/-! ### and, or, not, if-else -/
variable {tA tB : TT3} {rest : List Expr}
def tAnd3 (t u : TT3) : TT3 := fun σ M Q E => t σ M (fun c M1 => if c = true then u σ M1 Q E else Q false M1) E
def tOr3 (t u : TT3) : TT3 := fun σ M Q E => t σ M (fun c M1 => if c = true then Q true M1 else u σ M1 Q E) E
def tNot3 (t : TT3) : TT3 := fun σ M Q E => t σ M (fun c M1 => Q (!c) M1) E
theorem w_and1 (ha : PT3 X W a tA) : PW3 X W (.BoolOp .And [a] pos) tA := pw_and1 ha
theorem w_or1 (ha : PT3 X W a tA) : PW3 X W (.BoolOp .Or [a] pos) tA := pw_or1 ha
theorem w_and (ha : PT3 X W a tA) (hb : PW3 X W (.BoolOp .And (b :: rest) pos) tB) : PW3 X W (.BoolOp .And (a :: b :: rest) pos) (tAnd3 tA tB) := PW.imp (pw_and ha hb) fun σ H Q ⟨σ3, M, Q3, E3, rs, m, h, tl, el⟩ =>
  ⟨σ3, M, _, E3, rs, m, h, fun k M1 H1 m1 s1 h1 => by
    cases k with
    | true => exact ⟨σ3, M1, Q3, E3, rs.mono s1, m1, h1, tl.mono s1, el.mono s1⟩
    | false => exact tl _ M1 H1 m1 s1 h1, el⟩
theorem w_or (ha : PT3 X W a tA) (hb : PW3 X W (.BoolOp .Or (b :: rest) pos) tB) : PW3 X W (.BoolOp .Or (a :: b :: rest) pos) (tOr3 tA tB) := PW.imp (pw_or ha hb) fun σ H Q ⟨σ3, M, Q3, E3, rs, m, h, tl, el⟩ =>
  ⟨σ3, M, _, E3, rs, m, h, fun k M1 H1 m1 s1 h1 => by
    cases k with
    | false => exact ⟨σ3, M1, Q3, E3, rs.mono s1, m1, h1, tl.mono s1, el.mono s1⟩
    | true => exact tl _ M1 H1 m1 s1 h1, el⟩
theorem w_t {e : Expr} (h : PW3 X W e tA) : PT3 X W e tA := h.pt
theorem t_not (ha : PT3 X W a tA) : PT3 X W (.UnaryOp .Not a pos) (tNot3 tA) := PT.imp (pt_not ha) fun σ H Q ⟨σ3, M, Q3, E3, rs, m, h, tl, el⟩ =>
  ⟨σ3, M, _, E3, rs, m, h, fun k M1 H1 m1 s1 h1 => tl _ M1 H1 m1 s1 h1, el⟩
def tAndV3 (ta tb : TE3) : TE3 := fun σ M Q E => ta σ M (fun x M1 => ∃ c, x = .bl c ∧ if c = true then tb σ M1 Q E else Q (.bl false) M1) E
def tOrV3 (ta tb : TE3) : TE3 := fun σ M Q E => ta σ M (fun x M1 => ∃ c, x = .bl c ∧ if c = true then Q (.bl true) M1 else tb σ M1 Q E) E
def tNotV3 (ta : TE3) : TE3 := fun σ M Q E => ta σ M (fun x M1 => ∃ c, x = .bl c ∧ Q (.bl (!c)) M1) E
theorem p_one {op} {t : TE3} (h : PE3 X W a t) : PE3 X W (.BoolOp op [a] pos) t := pe_one h
theorem p_and (ha : PE3 X W a ta) (hb : PE3 X W (.BoolOp .And (b :: rest) pos) tb) : PE3 X W (.BoolOp .And (a :: b :: rest) pos) (tAndV3 ta tb) := PE.imp (pe_and ha hb) fun σ H Q ⟨σ3, M, Q3, E3, rs, m, h, vl, el⟩ =>
  ⟨σ3, M, _, E3, rs, m, h, fun x M1 H1 v m1 s1 rv ⟨k, ex, h1⟩ => by
    subst ex
    cases rv
    refine ⟨k, rfl, ?_⟩
    cases k with
    | true => exact ⟨σ3, M1, Q3, E3, rs.mono s1, m1, h1, vl.mono s1, el.mono s1⟩
    | false => exact vl _ M1 H1 _ m1 s1 .bl h1, el⟩
theorem p_or (ha : PE3 X W a ta) (hb : PE3 X W (.BoolOp .Or (b :: rest) pos) tb) : PE3 X W (.BoolOp .Or (a :: b :: rest) pos) (tOrV3 ta tb) := PE.imp (pe_or ha hb) fun σ H Q ⟨σ3, M, Q3, E3, rs, m, h, vl, el⟩ =>
  ⟨σ3, M, _, E3, rs, m, h, fun x M1 H1 v m1 s1 rv ⟨k, ex, h1⟩ => by
    subst ex
    cases rv
    refine ⟨k, rfl, ?_⟩
    cases k with
    | false => exact ⟨σ3, M1, Q3, E3, rs.mono s1, m1, h1, vl.mono s1, el.mono s1⟩
    | true => exact vl _ M1 H1 _ m1 s1 .bl h1, el⟩
theorem p_not (ha : PE3 X W a ta) : PE3 X W (.UnaryOp .Not a pos) (tNotV3 ta) := PE.imp (pe_not ha) fun σ H Q ⟨σ3, M, Q3, E3, rs, m, h, vl, el⟩ =>
  ⟨σ3, M, _, E3, rs, m, h, fun x M1 H1 v m1 s1 rv ⟨k, ex, h1⟩ => by
    subst ex
    cases rv
    exact ⟨k, rfl, vl _ M1 H1 _ m1 s1 .bl h1⟩, el⟩
def tIf3 (t : TT3) (ta tb : TE3) : TE3 := fun σ M Q E => t σ M (fun c M1 => if c = true then ta σ M1 Q E else tb σ M1 Q E) E
theorem p_if (hc : PT3 X W c tA) (ha : PE3 X W a ta) (hb : PE3 X W b tb) : PE3 X W (.IfExp c a b pos) (tIf3 tA ta tb) := PE.imp (pe_ifExp hc ha hb) fun σ H Q ⟨σ3, M, Q3, E3, rs, m, h, vl, el⟩ =>
  ⟨σ3, M, _, E3, rs, m, h, fun k M1 H1 m1 s1 h1 => by
    cases k with
    | true => exact ⟨σ3, M1, Q3, E3, rs.mono s1, m1, h1, vl.mono s1, el.mono s1⟩
    | false => exact ⟨σ3, M1, Q3, E3, rs.mono s1, m1, h1, vl.mono s1, el.mono s1⟩, el⟩

/-! ### argument lists, displays -/
def tNil3 : TA3 := fun _ M Q _ => Q [] M
def tCons3 (ta : TE3) (tr : TA3) : TA3 := fun σ M Q E => ta σ M (fun x M1 => tr σ M1 (fun xs M2 => Q (x :: xs) M2) E) E
theorem a_nil : PA3 X W [] tNil3 := PA.imp pa_nil fun σ H Q ⟨σ3, M, Q3, E3, rs, m, h, al, el⟩ => al [] M H [] m (Same.refl _) .nil h
theorem cons_low {K : PySem.W.Frag} {tr : TA3} : ∀ σ H Q, lowA K W (tCons3 ta tr) σ H Q → tCons (lowE K W ta) (lowA K W tr) σ H Q := fun σ H Q ⟨σ3, M, Q3, E3, rs, m, h, al, el⟩ =>
  ⟨σ3, M, _, E3, rs, m, h, fun x M1 H1 v m1 s1 rv h1 => ⟨σ3, M1, _, E3, rs.mono s1, m1, h1, fun xs M2 H2 vs m2 s2 rvs h2 => al (x :: xs) M2 H2 (v :: vs) m2 (s1.trans s2) (.cons (rv.mono s2) rvs) h2, el.mono s1⟩, el⟩
theorem a_cons {es : List Expr} {tr : TA3} (h : PE3 X W a ta) (hr : PA3 X W es tr) (hs : starEach (a :: es) X.env = (false, eval a X.env) :: starEach es X.env := by rfl) : PA3 X W (a :: es) (tCons3 ta tr) := PA.imp (pa_cons h hr hs) cons_low
/-- a tuple; a list that will not change; a list that may change -/
def tTup3 (t : TA3) : TE3 := fun σ M Q E => t σ M (fun xs M1 => xs.length ≤ 1000000 ∧ Q (.tup xs) M1) E
def tLst3 (t : TA3) : TE3 := fun σ M Q E => t σ M (fun xs M1 => xs.length ≤ 1000000 ∧ Q (.lst xs) M1) E
def tLstM3 (t : TA3) : TE3 := fun σ M Q E => t σ M (fun xs M1 => xs.length ≤ 1000000 ∧ ∀ p, M1 p = none → Q (.ref p) (M1.put p (.lst xs))) E
theorem sz1 {n m : Nat} (h : n ≤ 1000000) (e : n = m) : m ≤ sizeLine := by
  rw [← e]
  exact Nat.le_trans h (by decide)
theorem rep_tup {K : PySem.W.Frag} {H : Hp} {M : Mem} {p : Addr} {xs : List D} {vs : List V} (m : MRel K M H) (hp : H p = none) (r : Reps K (hid H M) xs vs) : Rep K (hid (upd H p (.tup vs)) M) (.tup xs) (.ref p) :=
  .tup (SqT.of (by rw [hid_none (m.free hp), upd_same])) (r.mono (same_new hp))
theorem rep_lst {K : PySem.W.Frag} {H : Hp} {M : Mem} {p : Addr} {xs : List D} {vs : List V} (m : MRel K M H) (hp : H p = none) (r : Reps K (hid H M) xs vs) : Rep K (hid (upd H p (.lst vs)) M) (.lst xs) (.ref p) :=
  .lst (SqL.of (by rw [hid_none (m.free hp), upd_same])) (r.mono (same_new hp))
theorem mrel_lst {K : PySem.W.Frag} {H : Hp} {M : Mem} {p : Addr} {xs : List D} {vs : List V} (m : MRel K M H) (hp : H p = none) (r : Reps K (hid H M) xs vs) : MRel K (M.put p (.lst xs)) (upd H p (.lst vs)) :=
  mrel_put m (hid_puti hp (m.free hp)) ⟨vs, upd_same, r⟩
theorem p_tup {es : List Expr} {t : TA3} {x1} (h : PA3 X W es t) : PE3 X W (.Tuple es x1 pos) (tTup3 t) := PE.imp (pe_tup h) fun σ H Q ⟨σ3, M, Q3, E3, rs, m, h, vl, el⟩ =>
  ⟨σ3, M, _, E3, rs, m, h, fun xs M1 H1 vs m1 s1 rv ⟨hl, h1⟩ => ⟨sz1 hl rv.length, fun p hp => vl _ M1 _ _ (mrel_new m1 hp) (s1.trans (same_new hp)) (rep_tup m1 hp rv) h1⟩, el⟩
theorem p_lst {es : List Expr} {t : TA3} (h : PA3 X W es t) : PE3 X W (.List es pos) (tLst3 t) := PE.imp (pe_lst h) fun σ H Q ⟨σ3, M, Q3, E3, rs, m, h, vl, el⟩ =>
  ⟨σ3, M, _, E3, rs, m, h, fun xs M1 H1 vs m1 s1 rv ⟨hl, h1⟩ => ⟨sz1 hl rv.length, fun p hp => vl _ M1 _ _ (mrel_new m1 hp) (s1.trans (same_new hp)) (rep_lst m1 hp rv) h1⟩, el⟩
theorem p_lstM {es : List Expr} {t : TA3} (h : PA3 X W es t) : PE3 X W (.List es pos) (tLstM3 t) := PE.imp (pe_lst h) fun σ H Q ⟨σ3, M, Q3, E3, rs, m, h, vl, el⟩ =>
  ⟨σ3, M, _, E3, rs, m, h, fun xs M1 H1 vs m1 s1 rv ⟨hl, h1⟩ => ⟨sz1 hl rv.length, fun p hp => vl _ _ _ _ (mrel_lst m1 hp rv) (s1.trans (by rw [hid_puti hp (m1.free hp)]; exact Same.refl _)) .ref (h1 p (m1.free hp))⟩, el⟩

/-! ### arithmetic -/
def opI3 (g : Int → Int → D) : R23 := fun x y M Q => ∃ i j, x = .int i ∧ y = .int j ∧ Q (g i j) M
def opIC3 (C : Int → Int → Prop) (g : Int → Int → D) : R23 := fun x y M Q => ∃ i j, x = .int i ∧ y = .int j ∧ C i j ∧ Q (g i j) M
theorem lift_I0 {K : PySem.W.Frag} {g : Int → Int → V} {g3 : Int → Int → D} (hg : ∀ i j N, Rep K N (g3 i j) (g i j)) : Lift2 K (opI3 g3) (rI0 g) := fun x y M H v u Q3 Q m rv ru ⟨i, j, ex, ey, h⟩ vl => by
  subst ex ey
  cases rv
  cases ru
  exact ⟨i, j, rfl, rfl, vl _ M H _ m (Same.refl _) (hg i j _) h⟩
theorem lift_I {K : PySem.W.Frag} {C : Int → Int → Prop} {g : Int → Int → V} {g3 : Int → Int → D} (hg : ∀ i j N, Rep K N (g3 i j) (g i j)) : Lift2 K (opIC3 C g3) (rI C g) := fun x y M H v u Q3 Q m rv ru ⟨i, j, ex, ey, hc, h⟩ vl => by
  subst ex ey
  cases rv
  cases ru
  exact ⟨i, j, rfl, rfl, hc, vl _ M H _ m (Same.refl _) (hg i j _) h⟩
theorem OpR.either {f : Value → Value → Sem Value} {r r' : R2} (h : OpR X f r) (h' : OpR X f r') : OpR X f fun x y H Q => r x y H Q ∨ r' x y H Q := fun pins s σ H x y v u Q I rx ry q =>
  q.elim (h pins s σ H x y v u Q I rx ry) (h' pins s σ H x y v u Q I rx ry)
def or23 (r r' : R23) : R23 := fun x y M Q => r x y M Q ∨ r' x y M Q
theorem Lift2.either {K : PySem.W.Frag} {a b : R23} {r r' : R2} (h : Lift2 K a r) (h' : Lift2 K b r') : Lift2 K (or23 a b) fun x y H Q => r x y H Q ∨ r' x y H Q := fun x y M H v u Q3 Q m rv ru q vl =>
  q.elim (fun q => .inl (h x y M H v u Q3 Q m rv ru q vl)) fun q => .inr (h' x y M H v u Q3 Q m rv ru q vl)
def opStr3 : R23 := fun x y M Q => ∃ i j, x = .str i ∧ y = .str j ∧ i.length + j.length ≤ 1000000 ∧ Q (.str (i ++ j)) M
theorem lift_addS {K : PySem.W.Frag} : Lift2 K opStr3 (fun x y H Q => ∃ i j, x = .str i ∧ y = .str j ∧ i.length + j.length ≤ sizeLine ∧ Q (.str (i ++ j)) H) := fun x y M H v u Q3 Q m rv ru ⟨i, j, ex, ey, hl, h⟩ vl => by
  subst ex ey
  cases rv
  cases ru
  exact ⟨i, j, rfl, rfl, sz1 hl rfl, vl _ M H _ m (Same.refl _) .str h⟩
/-- + of two tuples, of two lists that do not change -/
def opTup3 : R23 := fun x y M Q => ∃ xs ys, x = .tup xs ∧ y = .tup ys ∧ xs ≠ [] ∧ xs.length + ys.length ≤ 1000000 ∧ Q (.tup (xs ++ ys)) M
theorem lift_addT {K : PySem.W.Frag} : Lift2 K opTup3 (rCatT K) := fun x y M H v u Q3 Q m rv ru ⟨xs, ys, ex, ey, hn, hl, h⟩ vl => by
  subst ex ey
  cases rv with
  | @tup a _ vs ha r =>
    cases ru with
    | @tup b _ us hb r' =>
      refine ⟨a, b, vs, us, rfl, rfl, sqT_mono hid_same ha, sqT_mono hid_same hb, fun e => hn ?_, by rw [← r.length, ← r'.length]; exact sz1 hl rfl, fun e => ?_, fun e p hp => vl _ M _ _ (mrel_new m hp) (same_new hp) (rep_tup m hp (r.append r')) h⟩
      · have z := r.length
        rw [e] at z
        exact List.length_eq_zero_iff.mp z
      · have z := r'.length
        rw [e] at z
        have z' : ys = [] := List.length_eq_zero_iff.mp z
        subst z'
        rw [List.append_nil] at h
        exact vl _ M H _ m (Same.refl _) (.tup ha r) h
def opAdd3 : R23 := or23 (opI3 fun i j => .int (i + j)) (or23 opStr3 opTup3)
theorem p_add (ha : PE3 X W a ta) (hb : PE3 X W b tb) : PE3 X W (.BinOp a .Add b pos) (tOp3 opAdd3 ta tb) := p_op (OpR.either op_add (OpR.either op_add_str op_catT)) ((lift_I0 fun _ _ _ => .int).either (lift_addS.either lift_addT)) ha hb
theorem p_sub (ha : PE3 X W a ta) (hb : PE3 X W b tb) : PE3 X W (.BinOp a .Sub b pos) (tOp3 (opI3 fun i j => .int (i - j)) ta tb) := p_op op_sub (lift_I0 fun _ _ _ => .int) ha hb
def CMulX (i j : Int) : Prop := CMulW i j ∨ CMul i j
theorem op_mulX : OpR X (binaryOp .Mult) (rI CMulX fun i j => .int (i * j)) := fun pins s σ H x y v u Q I rx ry ⟨i, j, h1, h2, hc, q⟩ => by
  rcases hc with hc | hc
  · exact op_mulW pins s σ H x y v u Q I rx ry ⟨i, j, h1, h2, hc, q⟩
  · exact op_mul pins s σ H x y v u Q I rx ry ⟨i, j, h1, h2, hc, q⟩
theorem p_mul (ha : PE3 X W a ta) (hb : PE3 X W b tb) : PE3 X W (.BinOp a .Mult b pos) (tOp3 (opIC3 CMulX fun i j => .int (i * j)) ta tb) := p_op op_mulX (lift_I fun _ _ _ => .int) ha hb
theorem p_fdiv (ha : PE3 X W a ta) (hb : PE3 X W b tb) : PE3 X W (.BinOp a .FloorDiv b pos) (tOp3 (opIC3 CDivW fun i j => .int (i / j)) ta tb) := p_op op_fdivW (lift_I fun _ _ _ => .int) ha hb
theorem p_mod (ha : PE3 X W a ta) (hb : PE3 X W b tb) : PE3 X W (.BinOp a .Mod b pos) (tOp3 (opIC3 (fun _ j => 0 < j) fun i j => .int (i % j)) ta tb) := p_op op_mod (lift_I fun _ _ _ => .int) ha hb
theorem p_pow (ha : PE3 X W a ta) (hb : PE3 X W b tb) : PE3 X W (.BinOp a .Pow b pos) (tOp3 (opIC3 CPow fun i j => .int (i ^ j.toNat)) ta tb) := p_op op_pow (lift_I fun _ _ _ => .int) ha hb
def unI3 (g : Int → D) : R13 := fun x M Q => ∃ i, x = .int i ∧ Q (g i) M
theorem p_neg (ha : PE3 X W a ta) : PE3 X W (.UnaryOp .USub a pos) (tUn3 (unI3 fun i => .int (-i)) ta) := p_un un_neg (fun x M H v Q3 Q m rv ⟨i, ex, h⟩ vl => by
  subst ex
  cases rv
  exact ⟨i, rfl, vl _ M H _ m (Same.refl _) .int h⟩) ha

/-! ### comparisons -/
theorem lift_cmpI {K : PySem.W.Frag} {g : Int → Int → Bool} : Lift2 K (opI3 fun i j => .bl (g i j)) (rI0 fun i j => .bl (g i j)) := lift_I0 fun _ _ _ => .bl
/-! == of data -/
mutual
def D.py : D → Option PyData
  | .non => some .none
  | .bl b => some (.bool b)
  | .int i => some (.int i)
  | .str x => some (.str x)
  | .tup xs => (D.pys xs).map .tuple
  | .lst xs => (D.pys xs).map .list
  | .ins _ _ => none
  | .exc _ _ _ => none
  | .ref _ => none
  | .ty _ => none
def D.pys : List D → Option (List PyData)
  | [] => some []
  | x :: xs => match D.py x with
    | none => none
    | some p => (D.pys xs).map (p :: ·)
end
mutual
theorem Rep.dp {K : PySem.W.Frag} {N H : Hp} (e : Same N H) : ∀ {x : D} {v : V} {p : PyData}, Rep K N x v → x.py = some p → Dp K H v p
  | _, _, _, .non, h => by simp only [D.py, Option.some.injEq] at h; subst h; exact .non
  | _, _, _, .bl, h => by simp only [D.py, Option.some.injEq] at h; subst h; exact .bl _
  | _, _, _, .int, h => by simp only [D.py, Option.some.injEq] at h; subst h; exact .int _
  | _, _, _, .str, h => by simp only [D.py, Option.some.injEq] at h; subst h; exact .str _
  | .tup xs, _, _, .tup hs r, h => by
    simp only [D.py] at h
    cases q : D.pys xs with
    | none => rw [q] at h; simp at h
    | some ps =>
      rw [q] at h
      simp only [Option.map_some, Option.some.injEq] at h
      subst h
      exact .tup (sqT_mono e hs) (Reps.dp e r q)
  | .lst xs, _, _, .lst hs r, h => by
    simp only [D.py] at h
    cases q : D.pys xs with
    | none => rw [q] at h; simp at h
    | some ps =>
      rw [q] at h
      simp only [Option.map_some, Option.some.injEq] at h
      subst h
      exact .lst (sqL_mono e hs) (Reps.dp e r q)
  | _, _, _, .ins _ _, h => by simp [D.py] at h
  | _, _, _, .exc _ _, h => by simp [D.py] at h
  | _, _, _, .exc0, h => by simp [D.py] at h
  | _, _, _, .ref, h => by simp [D.py] at h
  | _, _, _, .ty, h => by simp [D.py] at h
theorem Reps.dp {K : PySem.W.Frag} {N H : Hp} (e : Same N H) : ∀ {x : List D} {v : List V} {p : List PyData}, Reps K N x v → D.pys x = some p → DpAll K H v p
  | _, _, _, .nil, h => by simp only [D.pys, Option.some.injEq] at h; subst h; exact .nil
  | x :: xs, _, _, .cons r t, h => by
    simp only [D.pys] at h
    cases q : D.py x with
    | none => rw [q] at h; simp at h
    | some d =>
      rw [q] at h
      cases q2 : D.pys xs with
      | none => rw [q2] at h; simp at h
      | some ds =>
        rw [q2] at h
        simp only [Option.map_some, Option.some.injEq] at h
        subst h
        exact .cons (Rep.dp e r q) (Reps.dp e t q2)
end
def opEqD3 : R23 := fun x y M Q => ∃ d e, x.py = some d ∧ y.py = some e ∧ SeqAt.shaped d = true ∧ SeqAt.shaped e = true ∧ Q (.bl (PyData.eqv d e)) M
def opNeD3 : R23 := fun x y M Q => ∃ d e, x.py = some d ∧ y.py = some e ∧ SeqAt.shaped d = true ∧ SeqAt.shaped e = true ∧ Q (.bl (!PyData.eqv d e)) M
theorem lift_eqD {K : PySem.W.Frag} : Lift2 K opEqD3 (rEqD K) := fun x y M H v u Q3 Q m rv ru ⟨d, e, hx, hy, sd, se, h⟩ vl => ⟨d, e, rv.dp hid_same hx, ru.dp hid_same hy, sd, se, vl _ M H _ m (Same.refl _) .bl h⟩
theorem lift_neD {K : PySem.W.Frag} : Lift2 K opNeD3 (rNeD K) := fun x y M H v u Q3 Q m rv ru ⟨d, e, hx, hy, sd, se, h⟩ vl => ⟨d, e, rv.dp hid_same hx, ru.dp hid_same hy, sd, se, vl _ M H _ m (Same.refl _) .bl h⟩
/-- is None -/
def D.isN : D → Bool
  | .non => true
  | _ => false
theorem rep_non {K : PySem.W.Frag} {N : Hp} {x : D} {v : V} (r : Rep K N x v) : decide (v = .non) = x.isN := by
  cases r <;> simp [D.isN]
def opIsN3 : R23 := fun x y M Q => y = .non ∧ Q (.bl x.isN) M
def opNotN3 : R23 := fun x y M Q => y = .non ∧ Q (.bl (!x.isN)) M
theorem lift_isN {K : PySem.W.Frag} : Lift2 K opIsN3 (fun x y H Q => y = .non ∧ Q (.bl (decide (x = .non))) H) := fun x y M H v u Q3 Q m rv ru ⟨ey, h⟩ vl => by
  subst ey
  cases ru
  exact ⟨rfl, by rw [rep_non rv]; exact vl _ M H _ m (Same.refl _) .bl h⟩
theorem lift_notN {K : PySem.W.Frag} : Lift2 K opNotN3 (fun x y H Q => y = .non ∧ Q (.bl (!decide (x = .non))) H) := fun x y M H v u Q3 Q m rv ru ⟨ey, h⟩ vl => by
  subst ey
  cases ru
  exact ⟨rfl, by rw [rep_non rv]; exact vl _ M H _ m (Same.refl _) .bl h⟩
/-- in of flat items; of a sign in a text -/
def D.flat : D → Option V
  | .non => some .non
  | .bl b => some (.bl b)
  | .int i => some (.int i)
  | .str x => some (.str x)
  | _ => none
theorem rep_flat {K : PySem.W.Frag} {N : Hp} {x : D} {v w : V} (r : Rep K N x v) (h : x.flat = some w) : v = w ∧ flatV v = true := by
  cases r <;> simp [D.flat] at h <;> subst h <;> exact ⟨rfl, rfl⟩
def D.flats : List D → Option (List V)
  | [] => some []
  | x :: xs => match x.flat with
    | none => none
    | some v => (D.flats xs).map (v :: ·)
theorem reps_flat {K : PySem.W.Frag} {N : Hp} : ∀ {xs : List D} {vs ws : List V}, Reps K N xs vs → D.flats xs = some ws → vs = ws ∧ vs.all flatV = true
  | _, _, _, .nil, h => by simp only [D.flats, Option.some.injEq] at h; subst h; exact ⟨rfl, rfl⟩
  | x :: xs, _, _, .cons r t, h => by
    simp only [D.flats] at h
    cases q : x.flat with
    | none => rw [q] at h; simp at h
    | some w =>
      rw [q] at h
      cases q2 : D.flats xs with
      | none => rw [q2] at h; simp at h
      | some ws =>
        rw [q2] at h
        simp only [Option.map_some, Option.some.injEq] at h
        subst h
        obtain ⟨e1, f1⟩ := rep_flat r q
        obtain ⟨e2, f2⟩ := reps_flat t q2
        subst e1 e2
        exact ⟨rfl, by rw [List.all_cons, f1, f2]; rfl⟩
def D.items : D → Mem → Option (List D)
  | .tup xs, _ => some xs
  | .lst xs, _ => some xs
  | .ref a, M => match M a with
    | some (.lst xs) => some xs
    | _ => none
  | _, _ => none
/-- the items of a list or tuple as they stand -/
theorem rep_items {K : PySem.W.Frag} {M : Mem} {H : Hp} {x : D} {v : V} {xs : List D} (m : MRel K M H) (r : Rep K (hid H M) x v) (h : x.items M = some xs) : ∃ a vs, v = .ref a ∧ (SqL K H a vs ∨ SqT K H a vs) ∧ Reps K (hid H M) xs vs := by
  cases r with
  | tup hs r => simp only [D.items, Option.some.injEq] at h; subst h; exact ⟨_, _, rfl, .inr (sqT_mono hid_same hs), r⟩
  | lst hs r => simp only [D.items, Option.some.injEq] at h; subst h; exact ⟨_, _, rfl, .inl (sqL_mono hid_same hs), r⟩
  | @ref a =>
    simp only [D.items] at h
    cases e : M a with
    | none => rw [e] at h; simp at h
    | some o =>
      rw [e] at h
      cases o with
      | lst ys =>
        simp only [Option.some.injEq] at h
        subst h
        obtain ⟨vs, e1, r⟩ := m a _ e
        exact ⟨a, vs, rfl, .inl (SqL.of e1), r⟩
      | ins C fs => simp at h
  | non => simp [D.items] at h
  | bl => simp [D.items] at h
  | int => simp [D.items] at h
  | str => simp [D.items] at h
  | ty => simp [D.items] at h
  | ins => simp [D.items] at h
  | exc => simp [D.items] at h
  | exc0 => simp [D.items] at h
def opIn3 (neg : Bool) : R23 := fun x y M Q => ∃ xs v ws, y.items M = some xs ∧ x.flat = some v ∧ D.flats xs = some ws ∧ Q (.bl (if neg then !inV v ws else inV v ws)) M
theorem lift_in {K : PySem.W.Frag} {neg : Bool} : Lift2 K (opIn3 neg) (rIn K neg) := fun x y M H v u Q3 Q m rv ru ⟨xs, w, ws, hi, hf, hfs, h⟩ vl => by
  obtain ⟨a, vs, rfl, hs, rs⟩ := rep_items m ru hi
  obtain ⟨e1, f1⟩ := rep_flat rv hf
  obtain ⟨e2, f2⟩ := reps_flat rs hfs
  subst e1 e2
  exact ⟨a, vs, rfl, hs, f1, f2, vl _ M H _ m (Same.refl _) .bl h⟩
def opSign3 (neg : Bool) : R23 := fun x y M Q => ∃ c z, x = .str ⟨#[c]⟩ ∧ y = .str z ∧ Q (.bl (if neg then !decide (c ∈ z.cps.toList) else decide (c ∈ z.cps.toList))) M
end
end L3

/-! L3Ops: subscripts, slices, built-ins by data; lists that change. -/
namespace L3
open PySem PySem.Spec PyProof.Rows L2
section
variable {X : Cx} {W : WX} {a b c e : Expr} {ta tb tc te : TE3} {pos : Pos}
theorem reps_atI {K : PySem.W.Frag} {N : Hp} {xs : List D} {vs : List V} {i : Int} {z : D} (r : Reps K N xs vs) (h : atI xs i = some z) : ∃ v, atI vs i = some v ∧ Rep K N z v := by
  unfold atI at h ⊢
  rw [← r.length]
  cases q : ixN xs.length i with
  | none => rw [q] at h; simp at h
  | some j =>
    rw [q] at h
    simp only [Option.bind_some] at h ⊢
    exact r.get h
def opIx3 : R23 := fun x y M Q => (∃ xs i z, x.items M = some xs ∧ y = .int i ∧ atI xs i = some z ∧ Q z M) ∨ ∃ z i c, x = .str z ∧ y = .int i ∧ z.length ≤ 1000000 ∧ atI z.cps.toList i = some c ∧ Q (.str ⟨#[c]⟩) M
theorem lift_ix {K : PySem.W.Frag} : Lift2 K opIx3 (rIx K) := fun x y M H v u Q3 Q m rv ru h vl => by
  rcases h with ⟨xs, i, z, hi, ey, ha, h⟩ | ⟨z, i, c, ex, ey, hl, ha, h⟩
  · subst ey
    cases ru
    obtain ⟨a, vs, rfl, hs, rs⟩ := rep_items m rv hi
    obtain ⟨w, hw, rw'⟩ := reps_atI rs ha
    have q := vl _ M H _ m (Same.refl _) rw' h
    rcases hs with hs | hs
    · exact .inl ⟨a, vs, i, w, rfl, rfl, hs, hw, q⟩
    · exact .inr (.inl ⟨a, vs, i, w, rfl, rfl, hs, hw, q⟩)
  · subst ex ey
    cases rv
    cases ru
    exact .inr (.inr ⟨z, i, c, rfl, rfl, sz1 hl rfl, ha, vl _ M H _ m (Same.refl _) .str h⟩)
theorem p_ix (ha : PE3 X W a ta) (hb : PE3 X W b tb) (hs : PlainIx b := by exact fun _ _ => rfl) : PE3 X W (.Subscript a b pos) (tOp3 opIx3 ta tb) := PE.imp (pe_ix ix_seq ha hb hs) (two_low lift_ix)

/-! ### slices -/
abbrev TO3 := St3 → Mem → (Option Int → Mem → Prop) → XK3 → Prop
def OLink (K : PySem.W.Frag) (N : Hp) (Q3 : Option Int → Mem → Prop) (Q : Option Int → Hp → Prop) : Prop := ∀ x M H, MRel K M H → Same N (hid H M) → Q3 x M → Q x H
def lowO (K : PySem.W.Frag) (W : WX) (t3 : TO3) : TO := fun σ H Q => ∃ σ3 M Q3 E3, RelS K (hid H M) σ3 σ ∧ MRel K M H ∧ t3 σ3 M Q3 E3 ∧ OLink K (hid H M) Q3 Q ∧ ELink K (hid H M) E3 fun c d H' => W c d σ H'
def PO3 (X : Cx) (W : WX) (e : Option Expr) (t : TO3) : Prop := PO X e (lowO X.K W t)
theorem PO.imp {e : Option Expr} {t t' : TO} (h : PO X e t) (i : ∀ σ H Q, t' σ H Q → t σ H Q) : PO X e t' := ⟨fun pins s σ H Q I z => h.run pins s σ H Q I (i σ H Q z)⟩
def tNoPart3 : TO3 := fun _ M Q _ => Q none M
def tPart3 (t : TE3) : TO3 := fun σ M Q E => t σ M (fun x M1 => ∃ i, x = .int i ∧ Q (some i) M1) E
theorem o_none : PO3 X W none tNoPart3 := PO.imp po_none fun σ H Q ⟨σ3, M, Q3, E3, rs, m, h, ol, el⟩ => ol none M H m (Same.refl _) h
theorem o_some (h : PE3 X W e te) : PO3 X W (some e) (tPart3 te) := PO.imp (po_some h) fun σ H Q ⟨σ3, M, Q3, E3, rs, m, h, ol, el⟩ =>
  ⟨σ3, M, _, E3, rs, m, h, fun x M1 H1 v m1 s1 rv ⟨i, ex, h1⟩ => by
    subst ex
    cases rv
    exact ⟨i, rfl, ol _ M1 H1 m1 s1 h1⟩, el⟩
abbrev RS3 := D → Option Int → Option Int → Mem → VK3 → Prop
def tSl3 (r : RS3) (te : TE3) (tl th : TO3) : TE3 := fun σ M Q E => te σ M (fun x M1 => tl σ M1 (fun l M2 => th σ M2 (fun u M3 => r x l u M3 Q) E) E) E
def LiftS (K : PySem.W.Frag) (r3 : RS3) (r : V → Option Int → Option Int → Hp → VK → Prop) : Prop := ∀ x lo hi M H v Q3 Q, MRel K M H → Rep K (hid H M) x v → r3 x lo hi M Q3 → VLink K (hid H M) Q3 Q → r v lo hi H Q
theorem p_slice {r3 : RS3} {r : V → Option Int → Option Int → Hp → VK → Prop} {lo hi : Option Expr} {tl th : TO3} {p2 : Pos} (hr : SlR X r) (L : LiftS X.K r3 r) (he : PE3 X W e te) (hl : PO3 X W lo tl) (hu : PO3 X W hi th) :
    PE3 X W (.Subscript e (.Slice lo hi none p2) pos) (tSl3 r3 te tl th) := PE.imp (pe_slice hr he hl hu) fun σ H Q ⟨σ3, M, Q3, E3, rs, m, h, vl, el⟩ =>
  ⟨σ3, M, _, E3, rs, m, h, fun x M1 H1 v m1 s1 rv h1 => ⟨σ3, M1, _, E3, rs.mono s1, m1, h1, fun l M2 H2 m2 s2 h2 => ⟨σ3, M2, _, E3, rs.mono (s1.trans s2), m2, h2, fun u M3 H3 m3 s3 h3 =>
    L x l u M3 H3 v Q3 Q m3 (rv.mono (s2.trans s3)) h3 (vl.mono ((s1.trans s2).trans s3)), el.mono (s1.trans s2)⟩, el.mono s1⟩, el⟩
def cutD {α : Type} (xs : List α) (lo hi : Option Int) : List α := (xs.drop (HT.sIx xs.length 0 lo)).take (HT.sIx xs.length xs.length hi - HT.sIx xs.length 0 lo)
theorem reps_cut {K : PySem.W.Frag} {N : Hp} {xs : List D} {vs : List V} {lo hi : Option Int} (r : Reps K N xs vs) : Reps K N (cutD xs lo hi) (cutV vs lo hi) := by
  unfold cutD cutV
  rw [← r.length]
  exact (r.drop _).take _
/-- a slice of a list: a new list that will not change -/
def slL3 : RS3 := fun x lo hi M Q => ∃ xs, (x = .lst xs ∨ ∃ a, x = .ref a ∧ M a = some (.lst xs)) ∧ Q (.lst (cutD xs lo hi)) M
theorem lift_slL {K : PySem.W.Frag} : LiftS K slL3 (rSlL K) := fun x lo hi M H v Q3 Q m rv ⟨xs, hx, h⟩ vl => by
  rcases hx with ex | ⟨a, ex, ea⟩
  · subst ex
    cases rv with
    | lst hs r => exact ⟨_, _, rfl, sqL_mono hid_same hs, fun p hp => vl _ M _ _ (mrel_new m hp) (same_new hp) (rep_lst m hp (reps_cut r)) h⟩
  · subst ex
    cases rv
    obtain ⟨vs, e1, r⟩ := m a _ ea
    exact ⟨a, vs, rfl, SqL.of e1, fun p hp => vl _ M _ _ (mrel_new m hp) (same_new hp) (rep_lst m hp (reps_cut r)) h⟩
/-- .. that may change -/
def slM3 : RS3 := fun x lo hi M Q => ∃ xs, (x = .lst xs ∨ ∃ a, x = .ref a ∧ M a = some (.lst xs)) ∧ ∀ p, M p = none → Q (.ref p) (M.put p (.lst (cutD xs lo hi)))
/-- of a tuple -/
def slT3 : RS3 := fun x lo hi M Q => ∃ xs, x = .tup xs ∧ ¬ (HT.sIx xs.length 0 lo = 0 ∧ HT.sIx xs.length xs.length hi = xs.length) ∧ Q (.tup (cutD xs lo hi)) M
theorem lift_slT {K : PySem.W.Frag} : LiftS K slT3 (rSlT K) := fun x lo hi M H v Q3 Q m rv ⟨xs, ex, hw, h⟩ vl => by
  subst ex
  cases rv with
  | tup hs r => exact ⟨_, _, rfl, sqT_mono hid_same hs, by rw [← r.length]; exact hw, fun p hp => vl _ M _ _ (mrel_new m hp) (same_new hp) (rep_tup m hp (reps_cut r)) h⟩
def slS3 : RS3 := fun x lo hi M Q => ∃ z, x = .str z ∧ z.length ≤ 1000000 ∧ Q (.str ⟨(cutD z.cps.toList lo hi).toArray⟩) M

/-! ### built-ins -/
def tCB3 (r : RA3) (t : TA3) : TE3 := fun σ M Q E => t σ M (fun xs M1 => r xs M1 Q) E
theorem cb_low {K : PySem.W.Frag} {t : TA3} {r3 : RA3} {r : List V → Hp → VK → Prop} (L : LiftA K r3 r) : ∀ σ H Q, lowE K W (tCB3 r3 t) σ H Q → tCB r (lowA K W t) σ H Q := fun σ H Q ⟨σ3, M, Q3, E3, rs, m, h, vl, el⟩ =>
  ⟨σ3, M, _, E3, rs, m, h, fun xs M1 H1 vs m1 s1 rv h1 => L xs M1 H1 vs Q3 Q m1 rv h1 (vl.mono s1), el⟩
theorem p_cb {id : String} {r : List V → Hp → VK → Prop} {r3 : RA3} {x : Str} {es : List Expr} {p : Pos} {t : TA3} (hc : CallR X (.builtin id) r) (L : LiftA X.K r3 r) (hm : X.mg x = none) (hv : bootBuiltins x = some (.builtin id)) (ha : PA3 X W (e :: es) t)
    (hg : Gl X x := by rfl) (hn : x ≠ "__name__" := by decide) (hd : (x == ("__debug__" : Str)) = false := by decide) (he : starEach (e :: es) X.env = (false, eval e X.env) :: starEach es X.env := by rfl) (hpl : (backTo pos (starEach es X.env)).any (·.1) = false := by rfl) :
    PE3 X W (.Call (.Name x p) (e :: es) [] pos) (tCB3 r3 t) := PE.imp (pe_callB hc hg hm hv ha hn hd he hpl) (cb_low L)
theorem p_ct {T : String} {r : List V → Hp → VK → Prop} {r3 : RA3} {x : Str} {es : List Expr} {p : Pos} {t : TA3} (hc : CallR X (.type T) r) (L : LiftA X.K r3 r) (hm : X.mg x = none) (hv : bootBuiltins x = some (.type T)) (ha : PA3 X W (e :: es) t)
    (hg : Gl X x := by rfl) (hn : x ≠ "__name__" := by decide) (hd : (x == ("__debug__" : Str)) = false := by decide) (he : starEach (e :: es) X.env = (false, eval e X.env) :: starEach es X.env := by rfl) (hpl : (backTo pos (starEach es X.env)).any (·.1) = false := by rfl) :
    PE3 X W (.Call (.Name x p) (e :: es) [] pos) (tCB3 r3 t) := PE.imp (pe_callTy hc hg hm hv ha hn hd he hpl) (cb_low L)
theorem reps1 {K : PySem.W.Frag} {N : Hp} {x : D} {vs : List V} (r : Reps K N [x] vs) : ∃ v, vs = [v] ∧ Rep K N x v := by
  cases r with
  | cons r t =>
    cases t
    exact ⟨_, rfl, r⟩
theorem reps2 {K : PySem.W.Frag} {N : Hp} {x y : D} {vs : List V} (r : Reps K N [x, y] vs) : ∃ v u, vs = [v, u] ∧ Rep K N x v ∧ Rep K N y u := by
  cases r with
  | cons r t =>
    obtain ⟨u, rfl, q⟩ := reps1 t
    exact ⟨_, _, rfl, r, q⟩
def aLen3 : RA3 := fun xs M Q => (∃ x ys, xs = [x] ∧ x.items M = some ys ∧ Q (.int ys.length) M) ∨ ∃ z, xs = [.str z] ∧ z.length ≤ 1000000 ∧ Q (.int z.length) M
theorem lift_len {K : PySem.W.Frag} : LiftA K aLen3 (fun xs H Q => (∃ p ys, xs = [.ref p] ∧ (SqL K H p ys ∨ SqT K H p ys) ∧ Q (.int ys.length) H) ∨ ∃ z, xs = [.str z] ∧ z.length ≤ sizeLine ∧ Q (.int z.length) H) := fun xs M H vs Q3 Q m rv h vl => by
  rcases h with ⟨x, ys, ex, hi, h⟩ | ⟨z, ex, hl, h⟩
  · subst ex
    obtain ⟨v, rfl, r⟩ := reps1 rv
    obtain ⟨a, us, rfl, hs, rs⟩ := rep_items m r hi
    exact .inl ⟨a, us, rfl, hs, by rw [← rs.length]; exact vl _ M H _ m (Same.refl _) .int h⟩
  · subst ex
    obtain ⟨v, rfl, r⟩ := reps1 rv
    cases r
    exact .inr ⟨z, rfl, sz1 hl rfl, vl _ M H _ m (Same.refl _) .int h⟩
theorem p_len {p : Pos} {t : TA3} (hm : X.mg "len" = none) (ha : PA3 X W [e] t) (hg : Gl X "len" := by rfl) (he : starEach [e] X.env = (false, eval e X.env) :: starEach [] X.env := by rfl) (hpl : (backTo pos (starEach [] X.env)).any (·.1) = false := by rfl) :
    PE3 X W (.Call (.Name "len" p) [e] [] pos) (tCB3 aLen3 t) := p_cb (call_len_seq.or call_len_str) lift_len hm PySem.boot_len ha hg (by decide) (by decide) he hpl
def aInt1 (g : Int → D) : RA3 := fun xs M Q => ∃ i, xs = [.int i] ∧ Q (g i) M
theorem lift_abs {K : PySem.W.Frag} : LiftA K (aInt1 fun i => .int (if i < 0 then -i else i)) (fun xs H Q => ∃ i, xs = [.int i] ∧ Q (.int (if i < 0 then -i else i)) H) := fun xs M H vs Q3 Q m rv ⟨i, ex, h⟩ vl => by
  subst ex
  obtain ⟨v, rfl, r⟩ := reps1 rv
  cases r
  exact ⟨i, rfl, vl _ M H _ m (Same.refl _) .int h⟩
theorem p_abs {p : Pos} {t : TA3} (hm : X.mg "abs" = none) (ha : PA3 X W [e] t) (hg : Gl X "abs" := by rfl) (he : starEach [e] X.env = (false, eval e X.env) :: starEach [] X.env := by rfl) (hpl : (backTo pos (starEach [] X.env)).any (·.1) = false := by rfl) :
    PE3 X W (.Call (.Name "abs" p) [e] [] pos) (tCB3 (aInt1 fun i => .int (if i < 0 then -i else i)) t) := p_cb call_abs lift_abs hm (by decide +kernel) ha hg (by decide) (by decide) he hpl
def aIntOf : RA3 := fun xs M Q => (∃ i, xs = [.int i] ∧ Q (.int i) M) ∨ ∃ k, xs = [.bl k] ∧ Q (.int (if k then 1 else 0)) M
theorem lift_int {K : PySem.W.Frag} : LiftA K aIntOf (fun xs H Q => (∃ i, xs = [.int i] ∧ Q (.int i) H) ∨ ∃ k, xs = [.bl k] ∧ Q (.int (if k then 1 else 0)) H) := fun xs M H vs Q3 Q m rv h vl => by
  rcases h with ⟨i, ex, h⟩ | ⟨i, ex, h⟩
  · subst ex
    obtain ⟨v, rfl, r⟩ := reps1 rv
    cases r
    exact .inl ⟨i, rfl, vl _ M H _ m (Same.refl _) .int h⟩
  · subst ex
    obtain ⟨v, rfl, r⟩ := reps1 rv
    cases r
    exact .inr ⟨i, rfl, vl _ M H _ m (Same.refl _) .int h⟩
theorem p_intOf {p : Pos} {t : TA3} (hm : X.mg "int" = none) (ha : PA3 X W [e] t) (hg : Gl X "int" := by rfl) (he : starEach [e] X.env = (false, eval e X.env) :: starEach [] X.env := by rfl) (hpl : (backTo pos (starEach [] X.env)).any (·.1) = false := by rfl) :
    PE3 X W (.Call (.Name "int" p) [e] [] pos) (tCB3 aIntOf t) := p_ct call_int1 lift_int hm (by decide +kernel) ha hg (by decide) (by decide) he hpl
/-- list(x), a list that will not change; that may change; tuple(x) -/
def aList3 : RA3 := fun xs M Q => ∃ x ys, xs = [x] ∧ x.items M = some ys ∧ Q (.lst ys) M
def aListM3 : RA3 := fun xs M Q => ∃ x ys, xs = [x] ∧ x.items M = some ys ∧ ∀ p, M p = none → Q (.ref p) (M.put p (.lst ys))
def aTup3 : RA3 := fun xs M Q => ∃ x ys, xs = [x] ∧ x.items M = some ys ∧ Q (.tup ys) M
theorem lift_list {K : PySem.W.Frag} : LiftA K aList3 (fun xs H Q => ∃ p ys, xs = [.ref p] ∧ (SqL K H p ys ∨ SqT K H p ys) ∧ ∀ l, H l = none → Q (.ref l) (upd H l (.lst ys))) := fun xs M H vs Q3 Q m rv ⟨x, ys, ex, hi, h⟩ vl => by
  subst ex
  obtain ⟨v, rfl, r⟩ := reps1 rv
  obtain ⟨a, us, rfl, hs, rs⟩ := rep_items m r hi
  exact ⟨a, us, rfl, hs, fun p hp => vl _ M _ _ (mrel_new m hp) (same_new hp) (rep_lst m hp rs) h⟩
theorem lift_listM {K : PySem.W.Frag} : LiftA K aListM3 (fun xs H Q => ∃ p ys, xs = [.ref p] ∧ (SqL K H p ys ∨ SqT K H p ys) ∧ ∀ l, H l = none → Q (.ref l) (upd H l (.lst ys))) := fun xs M H vs Q3 Q m rv ⟨x, ys, ex, hi, h⟩ vl => by
  subst ex
  obtain ⟨v, rfl, r⟩ := reps1 rv
  obtain ⟨a, us, rfl, hs, rs⟩ := rep_items m r hi
  exact ⟨a, us, rfl, hs, fun p hp => vl _ _ _ _ (mrel_lst m hp rs) (by rw [hid_puti hp (m.free hp)]; exact Same.refl _) .ref (h p (m.free hp))⟩
theorem rep_seq {K : PySem.W.Frag} {M : Mem} {H : Hp} {x : D} {v : V} {xs : List D} (m : MRel K M H) (r : Rep K (hid H M) x v) (h : x.items M = some xs) :
    ∃ a vs, v = .ref a ∧ Reps K (hid H M) xs vs ∧ (SqL K H a vs ∨ (SqT K H a vs ∧ x = .tup xs)) := by
  cases r with
  | tup hs r => simp only [D.items, Option.some.injEq] at h; subst h; exact ⟨_, _, rfl, r, .inr ⟨sqT_mono hid_same hs, rfl⟩⟩
  | lst hs r => simp only [D.items, Option.some.injEq] at h; subst h; exact ⟨_, _, rfl, r, .inl (sqL_mono hid_same hs)⟩
  | @ref a =>
    simp only [D.items] at h
    cases e : M a with
    | none => rw [e] at h; simp at h
    | some o =>
      rw [e] at h
      cases o with
      | lst ys =>
        simp only [Option.some.injEq] at h
        subst h
        obtain ⟨vs, e1, r⟩ := m a _ e
        exact ⟨a, vs, rfl, r, .inl (SqL.of e1)⟩
      | ins C fs => simp at h
  | non => simp [D.items] at h
  | bl => simp [D.items] at h
  | int => simp [D.items] at h
  | str => simp [D.items] at h
  | ty => simp [D.items] at h
  | ins => simp [D.items] at h
  | exc => simp [D.items] at h
  | exc0 => simp [D.items] at h
theorem lift_tuple {K : PySem.W.Frag} : LiftA K aTup3 (fun xs H Q => ∃ p ys, xs = [.ref p] ∧ ((SqL K H p ys ∧ ∀ l, H l = none → Q (.ref l) (upd H l (.tup ys))) ∨ (SqT K H p ys ∧ Q (.ref p) H))) := fun xs M H vs Q3 Q m rv ⟨x, ys, ex, hi, h⟩ vl => by
  subst ex
  obtain ⟨v, rfl, r⟩ := reps1 rv
  obtain ⟨a, us, rfl, rs, hs⟩ := rep_seq m r hi
  refine ⟨a, us, rfl, ?_⟩
  rcases hs with hs | ⟨hs, ex⟩
  · exact .inl ⟨hs, fun p hp => vl _ M _ _ (mrel_new m hp) (same_new hp) (rep_tup m hp rs) h⟩
  · subst ex
    exact .inr ⟨hs, vl _ M H _ m (Same.refl _) r h⟩
theorem p_list {p : Pos} {t : TA3} (hm : X.mg "list" = none) (ha : PA3 X W [e] t) (hg : Gl X "list" := by rfl) (he : starEach [e] X.env = (false, eval e X.env) :: starEach [] X.env := by rfl) (hpl : (backTo pos (starEach [] X.env)).any (·.1) = false := by rfl) :
    PE3 X W (.Call (.Name "list" p) [e] [] pos) (tCB3 aList3 t) := p_ct call_list_of lift_list hm (by decide +kernel) ha hg (by decide) (by decide) he hpl
theorem p_listM {p : Pos} {t : TA3} (hm : X.mg "list" = none) (ha : PA3 X W [e] t) (hg : Gl X "list" := by rfl) (he : starEach [e] X.env = (false, eval e X.env) :: starEach [] X.env := by rfl) (hpl : (backTo pos (starEach [] X.env)).any (·.1) = false := by rfl) :
    PE3 X W (.Call (.Name "list" p) [e] [] pos) (tCB3 aListM3 t) := p_ct call_list_of lift_listM hm (by decide +kernel) ha hg (by decide) (by decide) he hpl
theorem p_tuple {p : Pos} {t : TA3} (hm : X.mg "tuple" = none) (ha : PA3 X W [e] t) (hg : Gl X "tuple" := by rfl) (he : starEach [e] X.env = (false, eval e X.env) :: starEach [] X.env := by rfl) (hpl : (backTo pos (starEach [] X.env)).any (·.1) = false := by rfl) :
    PE3 X W (.Call (.Name "tuple" p) [e] [] pos) (tCB3 aTup3 t) := p_ct call_tuple_of lift_tuple hm (by decide +kernel) ha hg (by decide) (by decide) he hpl
/-- comparisons of ints, of data, None, in -/
theorem p_lt (ha : PE3 X W a ta) (hb : PE3 X W b tb) : PE3 X W (.Compare a [.Lt] [b] pos) (tOp3 (opI3 fun i j => .bl (decide (i < j))) ta tb) := p_cmp op_lt (lift_I0 fun _ _ _ => .bl) (nobehind _ (by decide) (by decide)) ha hb
end
end L3

/-! L3Stmt: statements by data. -/
namespace L3
open PySem PySem.Spec PyProof.Rows L2
section
variable {X : Cx} {W : WX} {st : Stmt} {rest : List Stmt} {t u : TS3} {e : Expr} {te : TE3} {pos : Pos}
def tNext3 : TS3 := fun D σ M => D.nx σ M
def tSeq3 (t u : TS3) : TS3 := fun D σ M => t { D with nx := u D } σ M
theorem low_s {K : PySem.W.Frag} {t3 : TS3} {σ3 : St3} {M : Mem} {D3 : Ends3} {D : Ends} {σ : L2.St} {H : Hp} (rs : RelS K (hid H M) σ3 σ) (m : MRel K M H) (h : t3 D3 σ3 M) (dl : DLink K W (hid H M) D3 D) : lowS K W t3 D σ H := ⟨σ3, M, D3, rs, m, h, dl⟩
theorem s_nil : PSs3 X W [] tNext3 := PSs.imp pss_nil fun D σ H ⟨σ3, M, D3, rs, m, h, dl⟩ => dl.nx σ3 M σ H rs m (Same.refl _) h
theorem s_cons (h1 : PS3 X W st t) (h2 : PSs3 X W rest u) : PSs3 X W (st :: rest) (tSeq3 t u) := PSs.imp (pss_cons h1 h2) fun D σ H ⟨σ3, M, D3, rs, m, h, dl⟩ =>
  ⟨σ3, M, { D3 with nx := u D3 }, rs, m, h, ⟨fun σ3' M' σ' H' rs' m' s' h' => ⟨σ3', M', D3, rs', m', h', dl.mono s'⟩, dl.rt, dl.bk, dl.ct, dl.ex⟩⟩
theorem s_one (h1 : PS3 X W st t) : PSs3 X W [st] t := pss_one h1
def tBreak3 : TS3 := fun D σ M => D.bk σ M
def tCont3 : TS3 := fun D σ M => D.ct σ M
theorem s_pass : PS3 X W (.Pass pos) tNext3 := PS.imp ps_pass fun D σ H ⟨σ3, M, D3, rs, m, h, dl⟩ => dl.nx σ3 M σ H rs m (Same.refl _) h
theorem s_break : PS3 X W (.Break pos) tBreak3 := PS.imp ps_break fun D σ H ⟨σ3, M, D3, rs, m, h, dl⟩ => dl.bk σ3 M σ H rs m (Same.refl _) h
theorem s_cont : PS3 X W (.Continue pos) tCont3 := PS.imp ps_continue fun D σ H ⟨σ3, M, D3, rs, m, h, dl⟩ => dl.ct σ3 M σ H rs m (Same.refl _) h
/-- what an expression may let out -/
theorem elink_of {K : PySem.W.Frag} {N : Hp} {D3 : Ends3} {D : Ends} {σ3 : St3} {σ : L2.St} (dl : DLink K W N D3 D) (rs : RelS K N σ3 σ) : ELink K N (fun c fs M => D3.ex c fs σ3 M) fun c d H' => W c d σ H' :=
  fun c fs M H d m s x h => dl.ex c fs σ3 M σ H d (rs.mono s) m s x h
def tDrop3 (te : TE3) : TS3 := fun D σ M => te σ M (fun _ M1 => D.nx σ M1) fun c fs M1 => D.ex c fs σ M1
theorem s_expr (he : PE3 X W e te) (hs : swapsWith e none pos.line X.env = pure false := by rfl) : PS3 X W (.Expr e pos) (tDrop3 te) := PS.imp (ps_expr he hs) fun D σ H ⟨σ3, M, D3, rs, m, h, dl⟩ =>
  ⟨σ3, M, _, _, rs, m, h, fun x M1 H1 v m1 s1 rv h1 => dl.nx σ3 M1 σ H1 (rs.mono s1) m1 s1 h1, elink_of dl rs⟩
def tRet3 (te : TE3) : TS3 := fun D σ M => te σ M D.rt fun c fs M1 => D.ex c fs σ M1
theorem s_ret (he : PE3 X W e te) : PS3 X W (.Return (some e) pos) (tRet3 te) := PS.imp (ps_ret he) fun D σ H ⟨σ3, M, D3, rs, m, h, dl⟩ => ⟨σ3, M, _, _, rs, m, h, dl.rt, elink_of dl rs⟩
def tRetN3 : TS3 := fun D _ M => D.rt .non M
theorem s_retN : PS3 X W (.Return none pos) tRetN3 := PS.imp ps_retN fun D σ H ⟨σ3, M, D3, rs, m, h, dl⟩ => dl.rt _ M H _ m (Same.refl _) .non h
def tIfS3 (c : TT3) (t u : TS3) : TS3 := fun D σ M => c σ M (fun b M1 => if b = true then t D σ M1 else u D σ M1) fun c fs M1 => D.ex c fs σ M1
theorem s_if {c : Expr} {a b : List Stmt} {tc : TT3} (hc : PT3 X W c tc) (ha : PSs3 X W a t) (hb : PSs3 X W b u) : PS3 X W (.If c a b pos) (tIfS3 tc t u) := PS.imp (ps_if hc ha hb) fun D σ H ⟨σ3, M, D3, rs, m, h, dl⟩ =>
  ⟨σ3, M, _, _, rs, m, h, fun k M1 H1 m1 s1 h1 => by
    cases k with
    | true => exact ⟨σ3, M1, D3, rs.mono s1, m1, h1, dl.mono s1⟩
    | false => exact ⟨σ3, M1, D3, rs.mono s1, m1, h1, dl.mono s1⟩, elink_of dl rs⟩
def tNever3 : TS3 := fun _ _ _ => False
theorem s_never : PS3 X W st tNever3 := PS.imp ps_never fun D σ H ⟨σ3, M, D3, rs, m, h, dl⟩ => h
theorem ss_never {sts : List Stmt} : PSs3 X W sts tNever3 := PSs.imp pss_never fun D σ H ⟨σ3, M, D3, rs, m, h, dl⟩ => h

/-! ### ghost steps: a list stands from now on; what may change is let go -/
def frz1 (a : Addr) (x : D) : Option D → Option D
  | some (.ref b) => if b = a then some x else some (.ref b)
  | o => o
theorem rels_frz {K : PySem.W.Frag} {N : Hp} {a : Addr} {x : D} (r : Rep K N x (.ref a)) : ∀ {s : St3} {t : L2.St}, RelS K N s t → RelS K N (s.map (frz1 a x)) t
  | _, _, .nil => .nil
  | _, _, .any q => .any (rels_frz r q)
  | _, _, .cons (x := y) q t => by
    cases y with
    | ref b =>
      cases q
      by_cases e : b = a
      · subst e
        simp only [List.map_cons, frz1, if_true]
        exact .cons r (rels_frz r t)
      · simp only [List.map_cons, frz1, if_neg e]
        exact .cons .ref (rels_frz r t)
    | non => exact .cons q (rels_frz r t)
    | bl _ => exact .cons q (rels_frz r t)
    | int _ => exact .cons q (rels_frz r t)
    | str _ => exact .cons q (rels_frz r t)
    | ty _ => exact .cons q (rels_frz r t)
    | tup _ => exact .cons q (rels_frz r t)
    | lst _ => exact .cons q (rels_frz r t)
    | ins _ _ => exact .cons q (rels_frz r t)
    | exc _ _ _ => exact .cons q (rels_frz r t)
/-- ahead of a statement the list at slot i stands from now on -/
def tFrz3 (i : Nat) (t : TS3) : TS3 := fun D σ M => ∃ a xs, σ[i]? = some (some (.ref a)) ∧ M a = some (.lst xs) ∧ t D (σ.map (frz1 a (.lst xs))) (M.del a)
theorem rep_frz {K : PySem.W.Frag} {M : Mem} {H : Hp} {a : Addr} {xs : List D} (m : MRel K M H) (h : M a = some (.lst xs)) : Rep K (hid H (M.del a)) (.lst xs) (.ref a) := by
  obtain ⟨vs, e1, r⟩ := m a _ h
  exact .lst (SqL.of (by rw [hid_none mdel_same]; exact e1)) (r.mono (drop_same Drop.del))
theorem frz_low {K : PySem.W.Frag} {i : Nat} : ∀ D σ H, lowS K W (tFrz3 i t) D σ H → lowS K W t D σ H := fun D σ H ⟨σ3, M, D3, rs, m, ⟨a, xs, e1, e2, h⟩, dl⟩ =>
  ⟨_, M.del a, D3, rels_frz (rep_frz m e2) (rs.mono (drop_same Drop.del)), drop_mrel m Drop.del, h, dl.mono (drop_same Drop.del)⟩
theorem s_frz (i : Nat) (h : PS3 X W st t) : PS3 X W st (tFrz3 i t) := PS.imp h frz_low
theorem ss_frz (i : Nat) {sts : List Stmt} (h : PSs3 X W sts t) : PSs3 X W sts (tFrz3 i t) := PSs.imp h frz_low
/-- .. something that may change is let go -/
def tLet3 (t : TS3) : TS3 := fun D σ M => ∃ M', Drop M M' ∧ t D σ M'
theorem let_low {K : PySem.W.Frag} : ∀ D σ H, lowS K W (tLet3 t) D σ H → lowS K W t D σ H := fun D σ H ⟨σ3, M, D3, rs, m, ⟨M', d, h⟩, dl⟩ =>
  ⟨σ3, M', D3, rs.mono (drop_same d), drop_mrel m d, h, dl.mono (drop_same d)⟩
theorem ss_let {sts : List Stmt} (h : PSs3 X W sts t) : PSs3 X W sts (tLet3 t) := PSs.imp h let_low

/-! ### targets -/
def gName3 (i : Nat) : TG3 := fun x σ M Q => Q (σ.set i (some x)) M
theorem g_name {i : Nat} {x : Str} (hN : X.N.Nodup) (hi : X.N[i]? = some x := by rfl) (hx : Loc X.env.scope x := by first | exact Or.inl rfl | exact Or.inr rfl) (hf : X.fn x = true ∨ X.env.scope.names.lookup x = some .local := by first | exact .inl rfl | exact .inr rfl | assumption) : PG3 X (.Name x pos) (gName3 i) :=
  PG.imp (pg_name hN hi hx hf) fun v σ H Q ⟨x, σ3, M, Q3, rv, rs, m, h, sl⟩ => sl _ M _ H (rs.set rv i) m (Same.refl _) h
abbrev TGs3 := List D → St3 → Mem → (St3 → Mem → Prop) → Prop
def lowGs (K : PySem.W.Frag) (g3 : TGs3) : TGs := fun vs σ H Q => ∃ xs σ3 M Q3, Reps K (hid H M) xs vs ∧ RelS K (hid H M) σ3 σ ∧ MRel K M H ∧ g3 xs σ3 M Q3 ∧ SLink K (hid H M) Q3 Q
def PGs3 (X : Cx) (e : List Expr) (t : TGs3) : Prop := PGs X e (lowGs X.K t)
theorem PGs.imp {e : List Expr} {t t' : TGs} (h : PGs X e t) (i : ∀ v σ H Q, t' v σ H Q → t v σ H Q) : PGs X e t' := ⟨fun pins s σ H v u Q I r z => h.run pins s σ H v u Q I r (i v σ H Q z)⟩
def gNil3 : TGs3 := fun xs σ M Q => xs = [] ∧ Q σ M
def gCons3 (t : TG3) (u : TGs3) : TGs3 := fun xs σ M Q => ∃ x r, xs = x :: r ∧ t x σ M fun σ' M' => u r σ' M' Q
theorem gs_nil : PGs3 X [] gNil3 := PGs.imp pgs_nil fun vs σ H Q ⟨xs, σ3, M, Q3, rv, rs, m, ⟨ex, h⟩, sl⟩ => by
  subst ex
  cases rv
  exact ⟨rfl, sl _ M _ H rs m (Same.refl _) h⟩
theorem gs_cons {es : List Expr} {t : TG3} {u : TGs3} (h1 : PG3 X e t) (h2 : PGs3 X es u) (hs : (assignEach (e :: es) X.env).map (·.2) = assign e X.env :: (assignEach es X.env).map (·.2) := by rfl) : PGs3 X (e :: es) (gCons3 t u) :=
  PGs.imp (pgs_cons h1 h2 hs) fun vs σ H Q ⟨xs, σ3, M, Q3, rv, rs, m, ⟨x, r, ex, h⟩, sl⟩ => by
    subst ex
    cases rv with
    | cons q qs => exact ⟨_, _, rfl, ⟨x, σ3, M, _, q, rs, m, h, fun σ3' M' σ' H' rs' m' s' h' => ⟨r, σ3', M', Q3, qs.mono s', rs', m', h', sl.mono s'⟩⟩⟩
/-- a, b, .. = a tuple; a list -/
def gTup3 (n : Nat) (t : TGs3) : TG3 := fun x σ M Q => ∃ xs, x = .tup xs ∧ xs.length = n ∧ t xs σ M Q
theorem g_tup {es : List Expr} {k : Nat} {t : TGs3} {n : Nat} (hc : X.calm = true) (h : PGs3 X es t)
    (hn : (assignEach es X.env).length = n := by rfl) (hst : (assignEach es X.env).findIdx? (·.1) = none := by rfl) : PG3 X (.Tuple es k pos) (gTup3 n t) := PG.imp (pg_tup hc h hn hst) fun v σ H Q ⟨x, σ3, M, Q3, rv, rs, m, ⟨xs, ex, hl, h⟩, sl⟩ => by
  subst ex
  cases rv with
  | tup hs r => exact ⟨_, _, rfl, sqT_mono hid_same hs, by rw [← r.length]; exact hl, ⟨xs, σ3, M, Q3, r, rs, m, h, sl⟩⟩
def gLst3 (n : Nat) (t : TGs3) : TG3 := fun x σ M Q => ∃ xs, x = .lst xs ∧ xs.length = n ∧ t xs σ M Q
theorem g_lst {es : List Expr} {k : Nat} {t : TGs3} {n : Nat} (hc : X.calm = true) (h : PGs3 X es t)
    (hn : (assignEach es X.env).length = n := by rfl) (hst : (assignEach es X.env).findIdx? (·.1) = none := by rfl) : PG3 X (.Tuple es k pos) (gLst3 n t) := PG.imp (pg_lst hc h hn hst) fun v σ H Q ⟨x, σ3, M, Q3, rv, rs, m, ⟨xs, ex, hl, h⟩, sl⟩ => by
  subst ex
  cases rv with
  | lst hs r => exact ⟨_, _, rfl, sqL_mono hid_same hs, by rw [← r.length]; exact hl, ⟨xs, σ3, M, Q3, r, rs, m, h, sl⟩⟩
theorem PG.either {X : Cx} {e : Expr} {t t' : TG} (h : PG X e t) (h' : PG X e t') : PG X e fun v σ H Q => t v σ H Q ∨ t' v σ H Q := ⟨fun pins s σ H v u Q I r z => z.elim (h.run pins s σ H v u Q I r) (h'.run pins s σ H v u Q I r)⟩
/-- .. a tuple or a list -/
def gSeq3 (n : Nat) (t : TGs3) : TG3 := fun x σ M Q => ∃ xs, (x = .tup xs ∨ x = .lst xs) ∧ xs.length = n ∧ t xs σ M Q
theorem g_seq {es : List Expr} {k : Nat} {t : TGs3} {n : Nat} (hc : X.calm = true) (h : PGs3 X es t)
    (hn : (assignEach es X.env).length = n := by rfl) (hst : (assignEach es X.env).findIdx? (·.1) = none := by rfl) : PG3 X (.Tuple es k pos) (gSeq3 n t) :=
  PG.imp (PG.either (g_tup hc h hn hst) (g_lst hc h hn hst)) fun v σ H Q ⟨x, σ3, M, Q3, rv, rs, m, ⟨xs, ex, hl, h⟩, sl⟩ => by
    rcases ex with ex | ex
    · exact .inl ⟨x, σ3, M, Q3, rv, rs, m, ⟨xs, ex, hl, h⟩, sl⟩
    · exact .inr ⟨x, σ3, M, Q3, rv, rs, m, ⟨xs, ex, hl, h⟩, sl⟩
/-- o[i] = .. of a list that may change. The subscript's parts raise nothing here. -/
def gSub3 (to ti : TE3) : TG3 := fun x σ M Q => to σ M (fun o M1 => ti σ M1 (fun i M2 => ∃ p xs k j, o = .ref p ∧ i = .int k ∧ M2 p = some (.lst xs) ∧ ixN xs.length k = some j ∧ Q σ (M2.put p (.lst (xs.set j x)))) fun _ _ _ => False) fun _ _ _ => False
theorem mrel_set {K : PySem.W.Frag} {H : Hp} {M : Mem} {p : Addr} {o : MO} {ys : List D} {vs : List V} (m : MRel K M H) (hp : M p = some o) (r : Reps K (hid H M) ys vs) : MRel K (M.put p (.lst ys)) (upd H p (.lst vs)) :=
  mrel_put m (hid_put ⟨o, hp⟩) ⟨vs, upd_same, r⟩
theorem g_sub {o i : Expr} {to ti : TE3} (ho : PE3 X W o to) (hi : PE3 X W i ti)
    (ha : ∀ v, assign (.Subscript o i pos) X.env v = (do
      let ov ← holding [v] (eval o X.env)
      let iv ← holding [v, ov] (eval i X.env)
      standAt pos
      holding [v, ov, iv] (setItem ov iv v)
      release [v, ov, iv] []) := by intro _; rfl) : PG3 X (.Subscript o i pos) (gSub3 to ti) :=
  PG.imp (pg_sub ho hi set_list ha) fun v σ H Q ⟨x, σ3, M, Q3, rv, rs, m, h, sl⟩ =>
    ⟨σ3, M, _, _, rs, m, h, fun o M1 H1 w m1 s1 ro h1 => ⟨σ3, M1, _, _, rs.mono s1, m1, h1, fun i M2 H2 u m2 s2 ri ⟨p, xs, k, j, eo, ei, hp, hj, h2⟩ => by
      subst eo ei
      cases ro
      cases ri
      obtain ⟨vs, e1, r⟩ := m2 p _ hp
      refine ⟨p, vs, k, j, rfl, rfl, e1, by rw [← r.length]; exact hj, ?_⟩
      have r' := r.set (rv.mono (s1.trans s2)) j
      have m' := mrel_set m2 hp r'
      have hh : hid (upd H2 p (.lst (vs.set j v))) (M2.put p (.lst (xs.set j x))) = hid H2 M2 := hid_put ⟨_, hp⟩
      exact sl σ3 _ σ _ (by rw [hh]; exact rs.mono (s1.trans s2)) m' (by rw [hh]; exact s1.trans s2) h2, fun _ _ _ _ _ _ _ _ z => z.elim⟩, fun _ _ _ _ _ _ _ _ z => z.elim⟩

/-! ### assignments -/
def tAsg3 (te : TE3) (g : TG3) : TS3 := fun D σ M => te σ M (fun x M1 => g x σ M1 D.nx) fun c fs M1 => D.ex c fs σ M1
theorem asg_low {K : PySem.W.Frag} {g : TG3} : ∀ D σ H, lowS K W (tAsg3 te g) D σ H → tAsg (lowE K W te) (lowG K g) D σ H := fun D σ H ⟨σ3, M, D3, rs, m, h, dl⟩ =>
  ⟨σ3, M, _, _, rs, m, h, fun x M1 H1 v m1 s1 rv h1 => ⟨x, σ3, M1, _, rv, rs.mono s1, m1, h1, dl.nx.mono s1⟩, elink_of dl rs⟩
theorem s_asg {tg : Expr} {g : TG3} (he : PE3 X W e te) (hg : PG3 X tg g) (hs : swapsWithSole [tg] e pos.line X.env = pure false := by rfl) (hw : swappedStores [tg] e X.env = pure none := by rfl)
    (h1 : (assignEach [tg] X.env).map (·.2) = [assign tg X.env] := by rfl) : PS3 X W (.Assign [tg] e pos) (tAsg3 te g) := PS.imp (ps_asg he hg hs hw h1) asg_low
theorem s_set {i : Nat} {x : Str} {pos' : Pos} (hN : X.N.Nodup) (he : PE3 X W e te) (hi : X.N[i]? = some x := by rfl) (hx : Loc X.env.scope x := by first | exact Or.inl rfl | exact Or.inr rfl) (hs : swapsWith e (some (.Name x pos')) pos.line X.env = pure false := by rfl)
    (hf : X.fn x = true ∨ X.env.scope.names.lookup x = some .local := by first | exact .inl rfl | exact .inr rfl | assumption) : PS3 X W (.Assign [.Name x pos'] e pos) (tAsg3 te (gName3 i)) :=
  PS.imp (ps_set hN hi hx he hs hf) fun D σ H ⟨σ3, M, D3, rs, m, h, dl⟩ =>
    ⟨σ3, M, _, _, rs, m, h, fun x M1 H1 v m1 s1 rv h1 => dl.nx _ M1 _ H1 ((rs.mono s1).set rv i) m1 s1 h1, elink_of dl rs⟩
/-- a, b = x, y with plain local names -/
def tPar3 (i j : Nat) (ta : TA3) : TS3 := fun D σ M => ta σ M (fun xs M1 => ∃ x y, xs = [x, y] ∧ D.nx ((σ.set i (some x)).set j (some y)) M1) fun c fs M1 => D.ex c fs σ M1
theorem s_par {i j : Nat} {x y : Str} {a b : Expr} {ta : TA3} {px py pt : Pos} {kt k2 pt2} (hc : X.calm = true) (hN : X.N.Nodup) (ha : PA3 X W [a, b] ta) (hi : X.N[i]? = some x := by rfl) (hj : X.N[j]? = some y := by rfl) (hij : i ≠ j := by decide)
    (hx : X.env.scope.names.lookup x = some .local := by rfl) (hy : X.env.scope.names.lookup y = some .local := by rfl)
    (hw : swappedStores [.Tuple [.Name x px, .Name y py] kt pt] (.Tuple [a, b] k2 pt2) X.env = pure (some [x, y]) := by rfl)
    (hs : swapsWithSole [.Tuple [.Name x px, .Name y py] kt pt] (.Tuple [a, b] k2 pt2) pos.line X.env = pure false := by rfl) :
    PS3 X W (.Assign [.Tuple [.Name x px, .Name y py] kt pt] (.Tuple [a, b] k2 pt2) pos) (tPar3 i j ta) := PS.imp (ps_par hc hN hi hj hij hx hy ha hw hs) fun D σ H ⟨σ3, M, D3, rs, m, h, dl⟩ =>
  ⟨σ3, M, _, _, rs, m, h, fun xs M1 H1 vs m1 s1 rv ⟨x, y, ex, h1⟩ => by
    subst ex
    obtain ⟨v, u, rfl, r1, r2⟩ := reps2 rv
    exact ⟨v, u, rfl, dl.nx _ M1 _ H1 (((rs.mono s1).set r1 i).set r2 j) m1 s1 h1⟩, elink_of dl rs⟩

/-! ### for -/
/-- by an invariant; G: what the walked thing wants of what may change -/
def forP (g : TG3) (tb : TS3) (D : Ends3) (xs : List L3.D) (G : Mem → Prop) (σ : St3) (M : Mem) : Prop := ∃ P : Nat → St3 → Mem → Prop, P 0 σ M ∧ (∀ i σ M, P i σ M → G M) ∧
  (∀ i x σ M, xs[i]? = some x → P i σ M → g x σ M fun σ2 M2 => tb { D with nx := P (i + 1), ct := P (i + 1), bk := D.nx } σ2 M2) ∧ ∀ σ M, P xs.length σ M → D.nx σ M
/-- turn by turn -/
def forL (g : TG3) (tb : TS3) (D : Ends3) : List L3.D → St3 → Mem → Prop
  | [], σ, M => D.nx σ M
  | x :: xs, σ, M => g x σ M fun σ2 M2 => tb { D with nx := forL g tb D xs, ct := forL g tb D xs, bk := D.nx } σ2 M2
theorem drop_some {α : Type} {xs : List α} {i : Nat} {x : α} (h : xs[i]? = some x) : xs.drop i = x :: xs.drop (i + 1) := by
  obtain ⟨h1, h2⟩ := List.getElem?_eq_some_iff.mp h
  rw [← h2]
  exact List.drop_eq_getElem_cons h1
theorem forP_of_L {g : TG3} {tb : TS3} {D : Ends3} {xs : List L3.D} {σ : St3} {M : Mem} (h : forL g tb D xs σ M) : forP g tb D xs (fun _ => True) σ M :=
  ⟨fun i σ M => forL g tb D (xs.drop i) σ M, h, fun _ _ _ _ => trivial, fun i x σ M hx p => by
    have p' : forL g tb D (xs.drop i) σ M := p
    rw [drop_some hx] at p'
    exact p', fun σ M p => by
    have p' : forL g tb D (xs.drop xs.length) σ M := p
    rw [List.drop_length] at p'
    exact p'⟩
def tFor3 (wi : TI3) (g : TG3) (tb : TS3) : TS3 := fun D σ M => wi σ M (fun xs G M1 => forP g tb D xs G σ M1) fun c fs M1 => D.ex c fs σ M1
theorem for_low {K : PySem.W.Frag} {wi : TI3} {g : TG3} {tb : TS3} : ∀ D σ H, lowS K W (tFor3 wi g tb) D σ H → tFor (lowI K W wi) (lowG K g) (lowS K W tb) D σ H := fun D σ H ⟨σ3, M, D3, rs, m, h, dl⟩ => by
  refine ⟨σ3, M, _, _, rs, m, h, fun xs G M1 H1 J m1 s1 wk ⟨P, p0, good, step, done⟩ => ?_, elink_of dl rs⟩
  refine ⟨fun i n σ' H' => n = xs.length - i ∧ i ≤ xs.length ∧ ∃ σ3' M', RelS K (hid H' M') σ3' σ' ∧ MRel K M' H' ∧ Same (hid H1 M1) (hid H' M') ∧ P i σ3' M', ⟨xs.length, rfl, Nat.zero_le _, σ3, M1, rs.mono s1, m1, Same.refl _, p0⟩, ?_⟩
  rintro i n σ' H' ⟨rfl, hi, σ3', M', rs', m', s', h'⟩
  by_cases hlt : i < xs.length
  · obtain ⟨x, hx⟩ : ∃ x, xs[i]? = some x := ⟨xs[i], List.getElem?_eq_getElem hlt⟩
    obtain ⟨go, yl⟩ := wk.go i x M' H' m' s' (good i σ3' M' h') hx
    refine .inr ⟨go, fun σ2 H2 => ∃ σ3' M', RelS K (hid H2 M') σ3' σ2 ∧ MRel K M' H2 ∧ Same (hid H1 M1) (hid H2 M') ∧ P (i + 1) σ3' M', fun σ2 H2 ⟨σ4, M4, r4, m4, s4, h4⟩ => ⟨xs.length - (i + 1), by omega, rfl, hlt, σ4, M4, r4, m4, s4, h4⟩, fun v H2 y => ?_⟩
    obtain ⟨m2, s2, rv⟩ := yl v H2 y
    refine ⟨x, σ3', M', _, rv, rs'.mono s2, m2, step i x σ3' M' hx h', fun σ5 M5 σ6 H6 r6 m6 s6 h6 => ?_⟩
    have s7 := (s'.trans s2).trans s6
    exact ⟨σ5, M5, _, r6, m6, h6, ⟨fun a b c d rr mm ss hh => ⟨a, b, rr, mm, s7.trans ss, hh⟩, dl.rt.mono (s1.trans s7), fun a b c d rr mm ss hh => dl.nx a b c d rr mm ((s1.trans s7).trans ss) hh, fun a b c d rr mm ss hh => ⟨a, b, rr, mm, s7.trans ss, hh⟩, (dl.mono (s1.trans s7)).ex⟩⟩
  · have hil : i = xs.length := by omega
    subst hil
    exact .inl ⟨wk.stop _ M' H' m' s' (good _ σ3' M' h') (Nat.le_refl _), dl.nx σ3' M' σ' H' rs' m' (s1.trans s') (done σ3' M' h')⟩
theorem s_for {tg iter : Expr} {body : List Stmt} {wi : TI3} {g : TG3} {tb : TS3} (hp : PassesOwn (model X.prog X.w) X.A X.env X.xe) (hc : X.calm = true) (hi : PI3 X W tg iter wi) (hg : PG3 X tg g) (hb : PSs3 X W body tb)
    (hs : ∀ x, foldedSetIterable iter X.env x = pure x := by intro _; rfl) : PS3 X W (.For tg iter body [] pos) (tFor3 wi g tb) := PS.imp (ps_for hp hc hi hg hb hs) for_low
/-! ### while -/
def tWhile3 (c : TT3) (tb : TS3) : TS3 := fun D σ M => ∃ P : Nat → St3 → Mem → Prop, (∃ n, P n σ M) ∧ ∀ n σ M, P n σ M →
  c σ M (fun b M1 => if b = true then ∃ N : St3 → Mem → Prop, (∀ σ' M', N σ' M' → ∃ n', n' < n ∧ P n' σ' M') ∧ tb { D with nx := N, ct := N, bk := D.nx } σ M1 else D.nx σ M1) fun c fs M1 => D.ex c fs σ M1
theorem s_while {c : Expr} {body : List Stmt} {tc : TT3} {tb : TS3} (hp : PassesOwn (model X.prog X.w) X.A X.env X.xe) (hc : PT3 X W c tc) (hb : PSs3 X W body tb) : PS3 X W (.While c body [] pos) (tWhile3 tc tb) :=
  PS.imp (ps_while hp hc hb) fun D σ H ⟨σ3, M, D3, rs, m, ⟨P, ⟨n, p0⟩, step⟩, dl⟩ => by
    refine ⟨fun n σ' H' => ∃ σ3' M', RelS X.K (hid H' M') σ3' σ' ∧ MRel X.K M' H' ∧ Same (hid H M) (hid H' M') ∧ P n σ3' M', ⟨n, σ3, M, rs, m, Same.refl _, p0⟩, ?_⟩
    rintro n σ' H' ⟨σ3', M', rs', m', s', p⟩
    refine ⟨σ3', M', _, _, rs', m', step n σ3' M' p, fun k M1 H1 m1 s1 h1 => ?_, elink_of (dl.mono s') rs'⟩
    cases k with
    | true =>
      obtain ⟨N, hN, h1⟩ := h1
      have s7 := s'.trans s1
      refine ⟨fun σ2 H2 => ∃ σ3' M', RelS X.K (hid H2 M') σ3' σ2 ∧ MRel X.K M' H2 ∧ Same (hid H M) (hid H2 M') ∧ N σ3' M', fun σ2 H2 ⟨σ4, M4, r4, m4, s4, h4⟩ => ?_, ?_⟩
      · obtain ⟨n', hn, p'⟩ := hN σ4 M4 h4
        exact ⟨n', hn, σ4, M4, r4, m4, s4, p'⟩
      · exact ⟨σ3', M1, _, rs'.mono s1, m1, h1, ⟨fun a b c d rr mm ss hh => ⟨a, b, rr, mm, s7.trans ss, hh⟩, dl.rt.mono s7, fun a b c d rr mm ss hh => dl.nx a b c d rr mm (s7.trans ss) hh, fun a b c d rr mm ss hh => ⟨a, b, rr, mm, s7.trans ss, hh⟩, (dl.mono s7).ex⟩⟩
    | false => exact dl.nx σ3' M1 σ' H1 (rs'.mono s1) m1 (s'.trans s1) h1
end
end L3

/-! L3Walk: what a for walks, by data. -/
namespace L3
open PySem PySem.Spec PyProof.Rows L2
section
variable {X : Cx} {W : WX} {tg e e2 : Expr} {te : TE3} {ta : TA3} {pos : Pos}
/-- what the walked list wants: a list that may change stays as it is -/
def stays (x : D) (xs : List D) : Mem → Prop := match x with
  | .ref a => fun M => M a = some (.lst xs)
  | _ => fun _ => True
def iSeq3 (te : TE3) : TI3 := fun σ M Q E => te σ M (fun x M1 => ∃ xs, x.items M1 = some xs ∧ Q xs (stays x xs) M1) E
theorem get_none_stop {α : Type} {xs : List α} {i : Nat} (h : xs.length ≤ i) : xs[i]? = none := List.getElem?_eq_none_iff.mpr h
/-- the list or tuple at a, as it is read -/
theorem seq_stays {K : PySem.W.Frag} {M : Mem} {H : Hp} {x : D} {v : V} {xs : List D} (m : MRel K M H) (r : Rep K (hid H M) x v) (h : x.items M = some xs) :
    ∃ a, v = .ref a ∧ ((∀ M' H', MRel K M' H' → Same (hid H M) (hid H' M') → stays x xs M' → ∃ vs, SqL K H' a vs ∧ Reps K (hid H' M') xs vs) ∨ (∀ M' H', MRel K M' H' → Same (hid H M) (hid H' M') → stays x xs M' → ∃ vs, SqT K H' a vs ∧ Reps K (hid H' M') xs vs)) := by
  cases r with
  | tup hs r => simp only [D.items, Option.some.injEq] at h; subst h; exact ⟨_, rfl, .inr fun M' H' m' s' _ => ⟨_, sqT_mono (s'.trans hid_same) hs, r.mono s'⟩⟩
  | lst hs r => simp only [D.items, Option.some.injEq] at h; subst h; exact ⟨_, rfl, .inl fun M' H' m' s' _ => ⟨_, sqL_mono (s'.trans hid_same) hs, r.mono s'⟩⟩
  | @ref a =>
    refine ⟨a, rfl, .inl fun M' H' m' s' g => ?_⟩
    have g' : M' a = some (.lst xs) := g
    obtain ⟨vs, e1, r⟩ := m' a _ g'
    exact ⟨vs, SqL.of e1, r⟩
  | non => simp [D.items] at h
  | bl => simp [D.items] at h
  | int => simp [D.items] at h
  | str => simp [D.items] at h
  | ty => simp [D.items] at h
  | ins => simp [D.items] at h
  | exc => simp [D.items] at h
  | exc0 => simp [D.items] at h
theorem stays_now {M : Mem} {x : D} {xs : List D} (h : x.items M = some xs) : stays x xs M := by
  cases x with
  | ref a =>
    simp only [D.items] at h
    cases e : M a with
    | none => rw [e] at h; simp at h
    | some o =>
      rw [e] at h
      cases o with
      | lst ys =>
        simp only [Option.some.injEq] at h
        subst h
        exact e
      | ins C fs => simp at h
  | _ => trivial
theorem walk_list {K : PySem.W.Frag} {N : Hp} {G : Mem → Prop} {a : Addr} {xs : List D} (h : ∀ M H, MRel K M H → Same N (hid H M) → G M → ∃ vs, SqL K H a vs ∧ Reps K (hid H M) xs vs) : WalkOk K N G (Itl K a) xs where
  go := fun i x M H m s g hx => by
    obtain ⟨vs, hs, r⟩ := h M H m s g
    obtain ⟨v, hv, rv⟩ := r.get hx
    refine ⟨⟨vs, v, hs, hv⟩, fun u H' ⟨e, hu⟩ => ?_⟩
    subst e
    have z := hu vs hs
    rw [hv] at z
    cases z
    exact ⟨m, Same.refl _, rv⟩
  stop := fun i M H m s g hl => by
    obtain ⟨vs, hs, r⟩ := h M H m s g
    exact ⟨vs, hs, by rw [← r.length]; exact hl⟩
theorem walk_tup {K : PySem.W.Frag} {N : Hp} {G : Mem → Prop} {a : Addr} {xs : List D} (h : ∀ M H, MRel K M H → Same N (hid H M) → G M → ∃ vs, SqT K H a vs ∧ Reps K (hid H M) xs vs) : WalkOk K N G (Itt K a) xs where
  go := fun i x M H m s g hx => by
    obtain ⟨vs, hs, r⟩ := h M H m s g
    obtain ⟨v, hv, rv⟩ := r.get hx
    refine ⟨⟨vs, v, hs, hv⟩, fun u H' ⟨e, hu⟩ => ?_⟩
    subst e
    have z := hu vs hs
    rw [hv] at z
    cases z
    exact ⟨m, Same.refl _, rv⟩
  stop := fun i M H m s g hl => by
    obtain ⟨vs, hs, r⟩ := h M H m s g
    exact ⟨vs, hs, by rw [← r.length]; exact hl⟩
def iAny (K : PySem.W.Frag) (tl : TE) : TI := fun σ H R => tl σ H fun x H1 => ∃ a, x = .ref a ∧ (((∃ xs, SqL K H1 a xs) ∧ R (Itl K a) H1) ∨ ((∃ xs, SqT K H1 a xs) ∧ R (Itt K a) H1))
theorem pi_any {l : Expr} {tl : TE} (hl : PE X l tl) : PI X tg l (iAny X.K tl) := by
  refine ⟨fun pins s σ H R I h => ?_⟩
  refine thn (hl.run pins s σ H _ I h) fun v s1 ⟨x, H1, I1, r1, q1⟩ => ?_
  obtain ⟨a, e, q1⟩ := q1
  subst e
  cases r1
  rcases q1 with ⟨⟨xs, hq⟩, q⟩ | ⟨⟨xs, hq⟩, q⟩
  · obtain ⟨its, rv, p, hz⟩ := I1.list hq
    refine wpAny_pyIter_list p.isList ?_
    refine ⟨s1.heap.objs.size, [s1.heap.objs.size], _, _, H1, rfl, I1.kept (t' := s1.toks) fun b o e => Heap.get?_push_of_some _ e, turn_list a _, ⟨_, Heap.get?_push_size _ rfl, rfl, rfl⟩, fun b hb => ?_, q⟩
    have e : b = s1.heap.objs.size := by simpa using hb
    subst e
    exact I1.fpOk (Nat.le_refl _) (I1.hok.fresh (Nat.le_refl _))
  · obtain ⟨its, rv, p, hz⟩ := I1.tuple hq
    refine wpAny_pyIter_tuple (show s1.heap.IsTuple a its.toArray from p) ?_
    refine ⟨s1.heap.objs.size, [s1.heap.objs.size], _, _, H1, rfl, I1.kept (t' := s1.toks) fun b o e => Heap.get?_push_of_some _ e, turn_tuple a _, ⟨_, Heap.get?_push_size _ rfl, rfl, rfl⟩, fun b hb => ?_, q⟩
    have e : b = s1.heap.objs.size := by simpa using hb
    subst e
    exact I1.fpOk (Nat.le_refl _) (I1.hok.fresh (Nat.le_refl _))
theorem i_seq (he : PE3 X W e te) : PI3 X W tg e (iSeq3 te) := PI.imp (pi_any he) fun σ H R ⟨σ3, M, Q3, E3, rs, m, h, q, el⟩ =>
  ⟨σ3, M, _, E3, rs, m, h, fun x M1 H1 v m1 s1 rv ⟨xs, hi, h1⟩ => by
    obtain ⟨a, ev, hs⟩ := seq_stays m1 rv hi
    refine ⟨a, ev, ?_⟩
    rcases hs with hs | hs
    · refine .inl ⟨?_, q xs _ M1 H1 _ m1 s1 (walk_list hs) h1⟩
      obtain ⟨vs, z, _⟩ := hs M1 H1 m1 (Same.refl _) (stays_now hi)
      exact ⟨vs, z⟩
    · refine .inr ⟨?_, q xs _ M1 H1 _ m1 s1 (walk_tup hs) h1⟩
      obtain ⟨vs, z, _⟩ := hs M1 H1 m1 (Same.refl _) (stays_now hi)
      exact ⟨vs, z⟩, el⟩
/-- range -/
def rngD (lo : Int) (n : Nat) : List D := (List.range n).map fun (i : Nat) => .int (lo + (i : Int))
theorem walk_rng {K : PySem.W.Frag} {N : Hp} {G : Mem → Prop} {lo : Int} {n : Nat} : WalkOk K N G (Itr lo n) (rngD lo n) where
  go := fun i x M H m s g hx => by
    unfold rngD at hx
    rw [List.getElem?_map, Option.map_eq_some_iff] at hx
    obtain ⟨j, hj, ex⟩ := hx
    obtain ⟨hl, ej⟩ := List.getElem?_eq_some_iff.mp hj
    rw [List.getElem_range] at ej
    rw [List.length_range] at hl
    subst ej
    refine ⟨hl, fun v H' ⟨e1, e2⟩ => ?_⟩
    subst e1 e2 ex
    exact ⟨m, Same.refl _, .int⟩
  stop := fun i M H m s g hl => by
    unfold rngD at hl
    rw [List.length_map, List.length_range] at hl
    exact hl
def iRng13 (ta : TA3) : TI3 := fun σ M Q E => ta σ M (fun xs M1 => ∃ j : Int, xs = [.int j] ∧ -(2 ^ 62) ≤ j ∧ j < 2 ^ 62 ∧ Q (rngD 0 j.toNat) (fun _ => True) M1) E
def iRng23 (ta : TA3) : TI3 := fun σ M Q E => ta σ M (fun xs M1 => ∃ i j : Int, xs = [.int i, .int j] ∧ (-(2 ^ 62) ≤ i ∧ i < 2 ^ 62 ∧ -(2 ^ 62) ≤ j ∧ j < 2 ^ 62) ∧ Q (rngD i (j - i).toNat) (fun _ => True) M1) E
theorem i_range1 {a : Expr} {p : Pos} (hm : X.mg "range" = none) (ha : PA3 X W [a] ta) (hg : Gl X "range" := by rfl) (hs : starEach [a] X.env = [(false, eval a X.env)] := by rfl) : PI3 X W tg (.Call (.Name "range" p) [a] [] pos) (iRng13 ta) :=
  PI.imp (pi_range1 hg hm ha hs) fun σ H R ⟨σ3, M, Q3, E3, rs, m, h, q, el⟩ => ⟨σ3, M, _, E3, rs, m, h, fun xs M1 H1 vs m1 s1 rv ⟨j, ex, b1, b2, h1⟩ => by
    subst ex
    obtain ⟨v, rfl, r⟩ := reps1 rv
    cases r
    exact ⟨j, rfl, b1, b2, q _ _ M1 H1 _ m1 s1 walk_rng h1⟩, el⟩
theorem i_range2 {a b : Expr} {p : Pos} (hm : X.mg "range" = none) (ha : PA3 X W [a, b] ta) (hg : Gl X "range" := by rfl) (hs : starEach [a, b] X.env = [(false, eval a X.env), (false, eval b X.env)] := by rfl) (hs2 : starEach [b] X.env = [(false, eval b X.env)] := by rfl) :
    PI3 X W tg (.Call (.Name "range" p) [a, b] [] pos) (iRng23 ta) := PI.imp (pi_range2 hg hm ha hs hs2) fun σ H R ⟨σ3, M, Q3, E3, rs, m, h, q, el⟩ => ⟨σ3, M, _, E3, rs, m, h, fun xs M1 H1 vs m1 s1 rv ⟨i, j, ex, b1, h1⟩ => by
    subst ex
    obtain ⟨v, u, rfl, r, r'⟩ := reps2 rv
    cases r
    cases r'
    exact ⟨i, j, rfl, b1, q _ _ M1 H1 _ m1 s1 walk_rng h1⟩, el⟩
/-- a text, sign by sign -/
def signsD (x : Str) : List D := x.cps.toList.map fun c => .str ⟨#[c]⟩
theorem walk_str {K : PySem.W.Frag} {N : Hp} {G : Mem → Prop} {x : Str} : WalkOk K N G (Its x) (signsD x) where
  go := fun i z M H m s g hx => by
    unfold signsD at hx
    rw [List.getElem?_map, Option.map_eq_some_iff] at hx
    obtain ⟨c, hc, ex⟩ := hx
    have hl : i < x.cps.size := by
      have z := (List.getElem?_eq_some_iff.mp hc).1
      simpa using z
    refine ⟨hl, fun v H' ⟨e1, c', hc', e2⟩ => ?_⟩
    have hcc : c' = c := by
      rw [Array.getElem?_toList] at hc
      rw [hc] at hc'
      exact (Option.some.inj hc').symm
    subst e1 hcc e2 ex
    exact ⟨m, Same.refl _, .str⟩
  stop := fun i M H m s g hl => by
    unfold signsD at hl
    rw [List.length_map, Array.length_toList] at hl
    exact hl
def iStr3 (te : TE3) : TI3 := fun σ M Q E => te σ M (fun x M1 => ∃ z, x = .str z ∧ Q (signsD z) (fun _ => True) M1) E
theorem i_str (he : PE3 X W e te) : PI3 X W tg e (iStr3 te) := PI.imp (pi_str he) fun σ H R ⟨σ3, M, Q3, E3, rs, m, h, q, el⟩ => ⟨σ3, M, _, E3, rs, m, h, fun x M1 H1 v m1 s1 rv ⟨z, ex, h1⟩ => by
    subst ex
    cases rv
    exact ⟨z, rfl, q _ _ M1 H1 _ m1 s1 walk_str h1⟩, el⟩
/-- enumerate -/
def enumD (xs : List D) : List D := (List.range xs.length).map fun (i : Nat) => .tup [.int (i : Int), xs.getD i .non]
theorem enum_get {xs : List D} {i : Nat} {z : D} (h : (enumD xs)[i]? = some z) : ∃ x, xs[i]? = some x ∧ z = .tup [.int (i : Int), x] := by
  unfold enumD at h
  rw [List.getElem?_map, Option.map_eq_some_iff] at h
  obtain ⟨j, hj, ex⟩ := h
  obtain ⟨hl, ej⟩ := List.getElem?_eq_some_iff.mp hj
  rw [List.getElem_range] at ej
  rw [List.length_range] at hl
  subst ej
  exact ⟨xs[i], List.getElem?_eq_getElem hl, by rw [← ex, List.getD_eq_getElem?_getD, List.getElem?_eq_getElem hl]; rfl⟩
theorem enum_length {xs : List D} : (enumD xs).length = xs.length := by
  unfold enumD
  rw [List.length_map, List.length_range]
theorem walk_enum {K : PySem.W.Frag} {N : Hp} {G : Mem → Prop} {a : Addr} {xs : List D} (h : ∀ M H, MRel K M H → Same N (hid H M) → G M → ∃ vs, SqL K H a vs ∧ Reps K (hid H M) xs vs) : WalkOk K N G (Ite K a) (enumD xs) where
  go := fun i z M H m s g hz => by
    obtain ⟨x, hx, ez⟩ := enum_get hz
    obtain ⟨vs, hs, r⟩ := h M H m s g
    obtain ⟨v, hv, rv⟩ := r.get hx
    refine ⟨⟨vs, v, hs, hv⟩, fun u H' ⟨T, w, eu, hT, e, hu⟩ => ?_⟩
    have z := hu vs hs
    rw [hv] at z
    cases z
    subst e eu ez
    exact ⟨mrel_new m hT, same_new hT, rep_tup m hT (.cons .int (.cons rv .nil))⟩
  stop := fun i M H m s g hl => by
    obtain ⟨vs, hs, r⟩ := h M H m s g
    exact ⟨vs, hs, by rw [← r.length, ← enum_length]; exact hl⟩
/-- enumerate(a list) -/
def iEnum3 (ta : TA3) : TI3 := fun σ M Q E => ta σ M (fun zs M1 => ∃ x xs, zs = [x] ∧ (x = .lst xs ∨ ∃ a, x = .ref a ∧ M1 a = some (.lst xs)) ∧ Q (enumD xs) (stays x xs) M1) E
theorem i_enum {elts : List Expr} {kk : Nat} {p tpos : Pos} (hm : X.mg "enumerate" = none) (ha : PA3 X W [e] ta) (hg : Gl X "enumerate" := by rfl) (hs : starEach [e] X.env = [(false, eval e X.env)] := by rfl) :
    PI3 X W (.Tuple elts kk tpos) (.Call (.Name "enumerate" p) [e] [] pos) (iEnum3 ta) := PI.imp (pi_enum hg hm ha hs) fun σ H R ⟨σ3, M, Q3, E3, rs, m, h, q, el⟩ => ⟨σ3, M, _, E3, rs, m, h, fun zs M1 H1 vs m1 s1 rv ⟨x, xs, ez, hx, h1⟩ => by
    subst ez
    obtain ⟨v, rfl, r⟩ := reps1 rv
    rcases hx with ex | ⟨a, ex, ea⟩
    · subst ex
      cases r with
      | @lst a _ us hs r => exact ⟨a, us, rfl, sqL_mono hid_same hs, q _ _ M1 H1 _ m1 s1 (walk_enum fun M' H' m' s' _ => ⟨us, sqL_mono (s'.trans hid_same) hs, r.mono s'⟩) h1⟩
    · subst ex
      cases r
      obtain ⟨us, e1, r⟩ := m1 a _ ea
      exact ⟨a, us, rfl, SqL.of e1, q _ _ M1 H1 _ m1 s1 (walk_enum fun M' H' m' s' g => by
        obtain ⟨us', e2, r'⟩ := m' a _ (show M' a = some (.lst xs) from g)
        exact ⟨us', SqL.of e2, r'⟩) h1⟩, el⟩
/-- zip of two lists or two tuples that do not change -/
def zipD (xs ys : List D) : List D := (xs.zip ys).map fun p => .tup [p.1, p.2]
theorem zip_get {xs ys : List D} {i : Nat} {z : D} (h : (zipD xs ys)[i]? = some z) : ∃ x y, xs[i]? = some x ∧ ys[i]? = some y ∧ z = .tup [x, y] := by
  unfold zipD at h
  rw [List.getElem?_map, Option.map_eq_some_iff] at h
  obtain ⟨⟨x, y⟩, hj, ex⟩ := h
  obtain ⟨h1, h2⟩ := List.getElem?_zip_eq_some.mp hj
  exact ⟨x, y, h1, h2, ex.symm⟩
theorem zip_length {xs ys : List D} : (zipD xs ys).length = min xs.length ys.length := by
  unfold zipD
  rw [List.length_map, List.length_zip]
def iZip3 (ta : TA3) : TI3 := fun σ M Q E => ta σ M (fun zs M1 => ∃ x y xs ys, zs = [x, y] ∧ ((x = .lst xs ∧ y = .lst ys) ∨ (x = .tup xs ∧ y = .tup ys)) ∧ Q (zipD xs ys) (fun _ => True) M1) E
theorem i_zip {elts : List Expr} {kk : Nat} {p tpos : Pos} (hm : X.mg "zip" = none) (ha : PA3 X W [e, e2] ta) (hg : Gl X "zip" := by rfl)
    (hs : starEach [e, e2] X.env = (false, eval e X.env) :: starEach [e2] X.env := by rfl) (hpl : (backTo pos (starEach [e2] X.env)).any (·.1) = false := by rfl) :
    PI3 X W (.Tuple elts kk tpos) (.Call (.Name "zip" p) [e, e2] [] pos) (iZip3 ta) := PI.imp (RZ.pi_zipA hg hm ha hs hpl) fun σ H R ⟨σ3, M, Q3, E3, rs, m, h, q, el⟩ => ⟨σ3, M, _, E3, rs, m, h, fun zs M1 H1 vs m1 s1 rv ⟨x, y, xs, ys, ez, hx, h1⟩ => by
    subst ez
    obtain ⟨v, u, rfl, r, r'⟩ := reps2 rv
    rcases hx with ⟨ex, ey⟩ | ⟨ex, ey⟩
    · subst ex ey
      cases r with
      | @lst a _ vs ha r =>
        cases r' with
        | @lst b _ us hb r' =>
          refine ⟨a, b, vs, us, rfl, .inl ⟨sqL_mono hid_same ha, sqL_mono hid_same hb, q _ _ M1 H1 _ m1 s1 ⟨fun i z M' H' m' s' _ hz => ?_, fun i M' H' m' s' _ hl => ?_⟩ h1⟩⟩
          · obtain ⟨x, y, hx, hy, ez⟩ := zip_get hz
            obtain ⟨v, hv, rv⟩ := (r.mono s').get hx
            obtain ⟨w, hw, rw'⟩ := (r'.mono s').get hy
            refine ⟨⟨vs, us, v, w, sqL_mono (s'.trans hid_same) ha, sqL_mono (s'.trans hid_same) hb, hv, hw⟩, fun _ H2 ⟨T, v2, w2, e1, hT, e2, z1, z2⟩ => ?_⟩
            have y1 := z1 vs (sqL_mono (s'.trans hid_same) ha)
            have y2 := z2 us (sqL_mono (s'.trans hid_same) hb)
            rw [hv] at y1
            rw [hw] at y2
            cases y1
            cases y2
            subst e1 e2 ez
            exact ⟨mrel_new m' hT, same_new hT, rep_tup m' hT (.cons rv (.cons rw' .nil))⟩
          · rw [zip_length] at hl
            refine ⟨vs, us, sqL_mono (s'.trans hid_same) ha, sqL_mono (s'.trans hid_same) hb, ?_⟩
            rw [← r.length, ← r'.length]
            omega
    · subst ex ey
      cases r with
      | @tup a _ vs ha r =>
        cases r' with
        | @tup b _ us hb r' =>
          refine ⟨a, b, vs, us, rfl, .inr ⟨sqT_mono hid_same ha, sqT_mono hid_same hb, q _ _ M1 H1 _ m1 s1 ⟨fun i z M' H' m' s' _ hz => ?_, fun i M' H' m' s' _ hl => ?_⟩ h1⟩⟩
          · obtain ⟨x, y, hx, hy, ez⟩ := zip_get hz
            obtain ⟨v, hv, rv⟩ := (r.mono s').get hx
            obtain ⟨w, hw, rw'⟩ := (r'.mono s').get hy
            refine ⟨⟨vs, us, v, w, sqT_mono (s'.trans hid_same) ha, sqT_mono (s'.trans hid_same) hb, hv, hw⟩, fun _ H2 ⟨T, v2, w2, e1, hT, e2, z1, z2⟩ => ?_⟩
            have y1 := z1 vs (sqT_mono (s'.trans hid_same) ha)
            have y2 := z2 us (sqT_mono (s'.trans hid_same) hb)
            rw [hv] at y1
            rw [hw] at y2
            cases y1
            cases y2
            subst e1 e2 ez
            exact ⟨mrel_new m' hT, same_new hT, rep_tup m' hT (.cons rv (.cons rw' .nil))⟩
          · rw [zip_length] at hl
            refine ⟨vs, us, sqT_mono (s'.trans hid_same) ha, sqT_mono (s'.trans hid_same) hb, ?_⟩
            rw [← r.length, ← r'.length]
            omega, el⟩
end
end L3

/-! L3Call: defs, their promises by data, calls, instances. -/
namespace L3
open PySem PySem.Spec PyProof.Rows L2
abbrev Sp3 := List D → Mem → VK3 → XK3 → Prop
def lowSp (K : PySem.W.Frag) (sp : Sp3) : Sp := fun vs H Q E => ∃ ds M Q3 E3, MRel K M H ∧ Reps K (hid H M) ds vs ∧ sp ds M Q3 E3 ∧ VLink K (hid H M) Q3 Q ∧ ELink K (hid H M) E3 E
abbrev Ok3 (P : Program) (w : World) (K : PySem.W.Frag) (mg : Str → Option Value) (base : Heap) (k : Nat) (f : Addr) (fd : FuncData) (ps : List Str) (sp : Sp3) : Prop := FnOk P w K mg base (L2.CX P w) k f fd ps (lowSp K sp)
def start3 (N : List Str) (ds : List D) : St3 := ds.map some ++ List.replicate (N.length - ds.length) none
theorem rels_some {K : PySem.W.Frag} {N : Hp} {n : Nat} : ∀ {ds : List D} {vs : List V}, Reps K N ds vs → RelS K N (ds.map some ++ List.replicate n none) (vs.map some ++ List.replicate n none)
  | _, _, .nil => RelS.wild (by simp)
  | _, _, .cons q t => .cons q (rels_some t)
theorem rels_start {K : PySem.W.Frag} {N : Hp} {L : List Str} {ds : List D} {vs : List V} (r : Reps K N ds vs) : RelS K N (start3 L ds) (L2.start L vs) := by
  unfold start3 L2.start
  rw [r.length]
  exact rels_some r
/-- what a def hands back, what may change in it let go -/
def endsOf (Q : VK3) (E : XK3) : Ends3 := { nx := fun _ M => ∃ M', Drop M M' ∧ Q .non M', rt := fun x M => ∃ M', Drop M M' ∧ Q x M', ex := fun c fs _ M => ∃ M', Drop M M' ∧ E c fs M' }
section
variable {P : Program} {w : World} {K : PySem.W.Frag} {mg : Str → Option Value} {base : Heap}
theorem ok3 {x qual : Str} {st : Stmt} {f : Addr} {fd : FuncData} {N ps : List Str} {k : Nat} {sp : Sp3} {t : TS3} (F : Fun K x qual st f fd) (S : FnScope N ps (defScope st)) (len : ∀ ds M Q E, sp ds M Q E → ds.length = ps.length)
    (hbody : ∀ (cdv : Value) (A : Around) (outer : List Env) (s : Shared) (H : Hp) (E : XK), Room k (A.deeper (envOfC qual (defScope st) s.heap.objs.size f cdv)) →
      PSs3 (cxOf (L2.CX P w) P w K mg base N qual (defScope st) f cdv A outer s H E) (fun cls d _ H => E cls d H) (defBody st) t)
    (pure : ∀ ds M Q E, sp ds M Q E → t (endsOf Q E) (start3 N ds) M) : Ok3 P w K mg base (k + 1) f fd ps sp := by
  refine F.okX S (fun vs H Q E ⟨ds, M, Q3, E3, m, r, h, _⟩ => by rw [← r.length]; exact len _ _ _ _ h) (fun cdv A outer s H vs Q E hr ⟨ds, M, Q3, E3, m, r, h, vl, el⟩ => ?_)
  refine ⟨_, hbody cdv A outer s H E hr, start3 N ds, M, endsOf Q3 E3, rels_start r, m, pure ds M Q3 E3 h, ⟨?_, ?_, ?_, ?_, ?_⟩⟩
  · intro σ3 M1 σ H1 rs m1 s1 ⟨M2, d, q⟩
    exact vl .non M2 H1 .non (drop_mrel m1 d) (s1.trans (drop_same d)) .non q
  · intro x M1 H1 v m1 s1 rv ⟨M2, d, q⟩
    exact vl x M2 H1 v (drop_mrel m1 d) (s1.trans (drop_same d)) (rv.mono (drop_same d)) q
  · intro σ3 M1 σ H1 rs m1 s1 z
    exact z.elim
  · intro σ3 M1 σ H1 rs m1 s1 z
    exact z.elim
  · intro c fs σ3 M1 σ H1 d rs m1 s1 xf ⟨M2, dr, q⟩
    exact el c fs M2 H1 d (drop_mrel m1 dr) (s1.trans (drop_same dr)) (xf.mono (drop_same dr)) q
end
section
variable {X : Cx} {W : WX} {k : Nat} {f C : Addr} {fd : FuncData} {ps : List Str} {sp : Sp3} {x m : Str} {p pos apos : Pos} {e o : Expr} {es : List Expr} {ta : TE3} {t : TA3}
/-! ### calls -/
def tCall3 (sp : Sp3) (dds : List D) (t : TA3) : TE3 := fun σ M Q E => t σ M (fun xs M1 => sp (xs ++ dds) M1 Q E) E
theorem call_low {K : PySem.W.Frag} {dds : List D} {dvs : List V} (hd : ∀ N, Reps K N dds dvs) : ∀ σ H Q, lowE K W (tCall3 sp dds t) σ H Q → (lowA K W t) σ H (fun vs H1 => lowSp K sp (vs ++ dvs) H1 Q (WE W σ)) := fun σ H Q ⟨σ3, M, Q3, E3, rs, m, h, vl, el⟩ =>
  ⟨σ3, M, _, E3, rs, m, h, fun xs M1 H1 vs m1 s1 rv h1 => ⟨xs ++ dds, M1, Q3, E3, m1, rv.append (hd _), h1, vl.mono s1, el.mono s1⟩, el⟩
/-- defaults: constants -/
def cvs : List D → List V
  | [] => []
  | .int i :: r => .int i :: cvs r
  | .bl i :: r => .bl i :: cvs r
  | .str i :: r => .str i :: cvs r
  | _ :: r => .non :: cvs r
def isC : D → Bool
  | .int _ => true
  | .bl _ => true
  | .str _ => true
  | .non => true
  | _ => false
theorem reps_cvs {K : PySem.W.Frag} {N : Hp} : ∀ {ds : List D}, ds.all isC = true → Reps K N ds (cvs ds)
  | [], _ => .nil
  | d :: r, h => by
    rw [List.all_cons, Bool.and_eq_true] at h
    cases d with
    | int i => exact .cons .int (reps_cvs h.2)
    | bl i => exact .cons .bl (reps_cvs h.2)
    | str i => exact .cons .str (reps_cvs h.2)
    | non => exact .cons .non (reps_cvs h.2)
    | _ => exact absurd h.1 (by simp [isC])
theorem p_call {dds : List D} {ds : List Value} (F : Ok3 X.prog X.w X.K X.mg X.base k f fd ps sp) (hr : Room k X.A) (hm : X.mg x = some (.ref f)) (hk : PySem.W.keepIn X.K (.ref f) = true) (hb : Binds X.K fd ps ds) (hd : Vals (cvs dds) ds) (hc : dds.all isC = true) (tk : Takes X W)
    (ha : PA3 X W (e :: es) t) (hg : Gl X x := by rfl) (hdb : (x == ("__debug__" : Str)) = false := by decide) (he : starEach (e :: es) X.env = (false, eval e X.env) :: starEach es X.env := by rfl) (hpl : (backTo pos (starEach es X.env)).any (·.1) = false := by rfl) :
    PE3 X W (.Call (.Name x p) (e :: es) [] pos) (tCall3 sp dds t) := PE.imp (pe_callSD (E := WE W) F hr hg hm hk hb hd (fun σ => passAt tk σ) ha hdb he hpl) (call_low fun _ => reps_cvs hc)

/-! ### instances: made -/
theorem run_makeS {pins : List (Addr × Obj)} {σ : L2.St} {H : Hp} {s : Shared} {Q : VK} {us : List Value} {vs dvs : List V} {ds : List Value} {sp : Sp} {E : XK} (M : Mk X.K C f) (F : FnOk X.prog X.w X.K X.mg X.base (L2.CX X.prog X.w) k f fd ps sp) (hr : Room (k + 1) X.A) (hb : Binds X.K fd ps ds) (hd : Vals dvs ds)
    (hx : PassesAt (L2.CX X.prog X.w) X σ E) (I : Inv X pins σ H s) (r : Vals vs us)
    (h : ∀ x dx, H x = none → H dx = none → dx ≠ x → sp (.ref x :: (vs ++ dvs)) (upd (upd H dx (.own x)) x (.ins C dx [])) (fun v H2 => v = .non ∧ Q (.ref x) H2) E) :
    wpAny (model X.prog X.w) X.A (call (.ref C) us) (EP X pins σ Q) X.xe s := by
  have hq := h (s.heap.objs.size + 1) s.heap.objs.size (I.hok.fresh (Nat.le_succ _)) (I.hok.fresh (Nat.le_refl _)) (Nat.ne_of_lt (Nat.lt_succ_self _))
  have I2 := Inv.made (C := C) I
  have r2 : Vals (V.ref (s.heap.objs.size + 1) :: (vs ++ dvs)) (Value.ref (s.heap.objs.size + 1) :: (us ++ ds)) := .cons rfl (r.append hd)
  have hl : (Value.ref (s.heap.objs.size + 1) :: us ++ ds).length = ps.length := by
    have e := r2.length
    rw [F.len _ _ _ _ hq] at e
    exact e.symm
  refine wpAny_call (make_map (f := f) I.kIn M.makes M.init (beq_iff_eq.mp M.fn) (codeAny_mono (F.run _ X.stack _ _ ⟨Value.ref (s.heap.objs.size + 1) :: us, []⟩ (Value.ref (s.heap.objs.size + 1) :: (us ++ ds)) _ _ E (hr.make C us [])
    (I2.env0.make C us []) (hb _ (Value.ref (s.heap.objs.size + 1) :: us) I2.kIn hl) r2 hq) fun r s' hq' => ?_))
  cases r with
  | error e => exact hx pins _ _ e s' I2 hq'
  | ok fl =>
    cases fl with
    | ret u =>
      obtain ⟨v, H', I3, rv, ev, q3⟩ := I2.after hq'
      subst ev
      exact ⟨rv, ⟨V.ref (s.heap.objs.size + 1), H', I3, rfl, q3⟩⟩
    | next => exact False.elim hq'
    | brk => exact False.elim hq'
    | cont => exact False.elim hq'
def tMakeS (C : Addr) (sp : Sp) (dvs : List V) (E : L2.St → XK) (t : TA) : TE := fun σ H Q => t σ H fun vs H1 => ∀ x dx, H1 x = none → H1 dx = none → dx ≠ x →
  sp (.ref x :: (vs ++ dvs)) (upd (upd H1 dx (.own x)) x (.ins C dx [])) (fun v H2 => v = .non ∧ Q (.ref x) H2) (E σ)
theorem pe_makeS {sp : Sp} {dvs : List V} {ds : List Value} {E : L2.St → XK} {t : TA} (M : Mk X.K C f) (F : FnOk X.prog X.w X.K X.mg X.base (L2.CX X.prog X.w) k f fd ps sp) (hr : Room (k + 1) X.A) (hg : Gl X x) (hm : X.mg x = some (.ref C)) (hb : Binds X.K fd ps ds) (hd : Vals dvs ds)
    (hx : ∀ σ, PassesAt (L2.CX X.prog X.w) X σ (E σ)) (ha : PA X (e :: es) t) (hdb : (x == ("__debug__" : Str)) = false := by decide) (he : starEach (e :: es) X.env = (false, eval e X.env) :: starEach es X.env := by rfl) (hpl : (backTo pos (starEach es X.env)).any (·.1) = false := by rfl) :
    PE X (.Call (.Name x p) (e :: es) [] pos) (tMakeS C sp dvs E t) := by
  refine ⟨fun pins s σ H Q I h => ?_⟩
  refine wpAny_Call_Name_kw (ld_glob I hg hm ?_ hdb)
  refine PySem.W.callWith_K (h₀ := X.base) I.ok.mod.kin M.kp (thn (ha.run pos pins s σ H _ I h) fun us s1 ⟨vs, H1, I1, r, q⟩ => ⟨I1.kIn, ?_⟩) he hpl
  exact run_makeS M F hr hb hd (hx σ) I1 r q
/-- C(..) by the promise of C's __init__; the instance stands from now on -/
def spMake (C : Addr) (sp : Sp3) : Sp3 := fun xs M Q E => ∀ x, M x = none → sp (.ref x :: xs) (M.put x (.ins C [])) (fun v M2 => v = .non ∧ ∃ fs, M2 x = some (.ins C fs) ∧ Q (.ins C fs) (M2.del x)) (fun c fs M2 => E c fs (M2.del x))
theorem make_start {K : PySem.W.Frag} {M : Mem} {H : Hp} {x dx C : Addr} (m : MRel K M H) (nx : H x = none) (ndx : H dx = none) (ne : dx ≠ x) :
    MRel K (M.put x (.ins C [])) (upd (upd H dx (.own x)) x (.ins C dx [])) ∧ Same (hid H M) (hid (upd (upd H dx (.own x)) x (.ins C dx [])) (M.put x (.ins C []))) := by
  have m1 := mrel_new (o := .own x) m ndx
  have nx1 : upd H dx (.own x) x = none := by rw [upd_ne (Ne.symm ne)]; exact nx
  have h2 : hid (upd (upd H dx (.own x)) x (.ins C dx [])) (M.put x (.ins C [])) = hid (upd H dx (.own x)) M := hid_puti nx1 (m.free nx)
  refine ⟨mrel_put m1 h2 ⟨dx, [], upd_same, .nil⟩, ?_⟩
  rw [h2]
  exact same_new ndx
theorem make_end {K : PySem.W.Frag} {M : Mem} {H : Hp} {x C : Addr} {fs : List (Str × D)} (m : MRel K M H) (h : M x = some (.ins C fs)) : Rep K (hid H (M.del x)) (.ins C fs) (.ref x) := by
  obtain ⟨dx, gs, e1, r⟩ := m x _ h
  exact .ins (by rw [hid_none mdel_same]; exact e1) (r.mono (drop_same Drop.del))
theorem make_low {K : PySem.W.Frag} {dds : List D} {dvs : List V} (hd : ∀ N, Reps K N dds dvs) : ∀ σ H Q, lowE K W (tCall3 (spMake C sp) dds t) σ H Q → tMakeS C (lowSp K sp) dvs (WE W) (lowA K W t) σ H Q := fun σ H Q ⟨σ3, M, Q3, E3, rs, m, h, vl, el⟩ =>
  ⟨σ3, M, _, E3, rs, m, h, fun xs M1 H1 vs m1 s1 rv h1 x dx nx ndx ne => by
    obtain ⟨m2, s2⟩ := make_start (C := C) m1 nx ndx ne
    refine ⟨.ref x :: (xs ++ dds), _, _, _, m2, .cons .ref ((rv.append (hd _)).mono s2), h1 x (m1.free nx), fun v M3 H3 u m3 s3 ru ⟨ev, fs, hf, q⟩ => ?_, fun c fs M3 H3 d m3 s3 xf q => ?_⟩
    · subst ev
      cases ru
      refine ⟨rfl, vl _ (M3.del x) H3 _ (drop_mrel m3 Drop.del) (((s1.trans s2).trans s3).trans (drop_same Drop.del)) (make_end m3 hf) q⟩
    · exact el c fs (M3.del x) H3 d (drop_mrel m3 Drop.del) (((s1.trans s2).trans s3).trans (drop_same Drop.del)) (xf.mono (drop_same Drop.del)) q, el⟩
theorem p_make {dds : List D} {ds : List Value} (Mk' : Mk X.K C f) (F : Ok3 X.prog X.w X.K X.mg X.base k f fd ps sp) (hr : Room (k + 1) X.A) (hm : X.mg x = some (.ref C)) (hb : Binds X.K fd ps ds) (hd : Vals (cvs dds) ds) (hc : dds.all isC = true) (tk : Takes X W)
    (ha : PA3 X W (e :: es) t) (hg : Gl X x := by rfl) (hdb : (x == ("__debug__" : Str)) = false := by decide) (he : starEach (e :: es) X.env = (false, eval e X.env) :: starEach es X.env := by rfl) (hpl : (backTo pos (starEach es X.env)).any (·.1) = false := by rfl) :
    PE3 X W (.Call (.Name x p) (e :: es) [] pos) (tCall3 (spMake C sp) dds t) := PE.imp (pe_makeS (E := WE W) Mk' F hr hg hm hb hd (fun σ => passAt tk σ) ha hdb he hpl) (make_low fun _ => reps_cvs hc)

/-! ### fields -/
/-- the attributes of an instance, as it stands or as it is being made -/
def D.fields : D → Mem → Option (Addr × List (Str × D))
  | .ins C fs, _ => some (C, fs)
  | .ref a, M => match M a with
    | some (.ins C fs) => some (C, fs)
    | _ => none
  | _, _ => none
theorem rep_fields {K : PySem.W.Frag} {M : Mem} {H : Hp} {x : D} {v : V} {C : Addr} {fs : List (Str × D)} (m : MRel K M H) (r : Rep K (hid H M) x v) (h : x.fields M = some (C, fs)) : ∃ a dx gs, v = .ref a ∧ H a = some (.ins C dx gs) ∧ RepF K (hid H M) fs gs := by
  cases r with
  | ins e r => simp only [D.fields, Option.some.injEq, Prod.mk.injEq] at h; obtain ⟨h1, h2⟩ := h; subst h1 h2; exact ⟨_, _, _, rfl, hid_same _ _ e, r⟩
  | @ref a =>
    simp only [D.fields] at h
    cases e : M a with
    | none => rw [e] at h; simp at h
    | some o =>
      rw [e] at h
      cases o with
      | ins C' fs' =>
        simp only [Option.some.injEq, Prod.mk.injEq] at h
        obtain ⟨h1, h2⟩ := h
        subst h1 h2
        obtain ⟨dx, gs, e1, r⟩ := m a _ e
        exact ⟨a, dx, gs, rfl, e1, r⟩
      | lst xs => simp at h
  | non => simp [D.fields] at h
  | bl => simp [D.fields] at h
  | int => simp [D.fields] at h
  | str => simp [D.fields] at h
  | ty => simp [D.fields] at h
  | lst => simp [D.fields] at h
  | tup => simp [D.fields] at h
  | exc => simp [D.fields] at h
  | exc0 => simp [D.fields] at h
def fld3 (K : PySem.W.Frag) (f : Str) : R13 := fun x M Q => ∃ C fs z, x.fields M = some (C, fs) ∧ Cls K C ∧ NoAttr K C f ∧ fs.lookup f = some z ∧ Q z M
theorem p_fld {f : Str} (he : PE3 X W e ta) (hb : attributeBase e f X.env (eval e X.env) = eval e X.env := by rfl) : PE3 X W (.Attribute e f pos) (tUn3 (fld3 X.K f) ta) := PE.imp (pe_fld he hb) fun σ H Q z =>
  one_low (r := fun x H1 Q => ∃ a C dx fs v, x = .ref a ∧ H1 a = some (.ins C dx fs) ∧ Cls X.K C ∧ NoAttr X.K C f ∧ fs.lookup f = some v ∧ Q v H1) (fun x M H v Q3 Q m rv ⟨C, fs, z, hf, c, n, l, h⟩ vl => by
    obtain ⟨a, dx, gs, rfl, e1, r⟩ := rep_fields m rv hf
    obtain ⟨u, hu, ru⟩ := r.lookup l
    exact ⟨a, C, dx, gs, u, rfl, e1, c, n, hu, vl _ M H _ m (Same.refl _) ru h⟩) σ H Q z
/-- self.f = e, of an instance that is being made -/
def putD (f : Str) (x : D) : List (Str × D) → List (Str × D)
  | [] => [(f, x)]
  | (g, y) :: r => if g = f then (g, x) :: r else (g, y) :: putD f x r
theorem repF_put {K : PySem.W.Frag} {N : Hp} {f : Str} {x : D} {v : V} (r : Rep K N x v) : ∀ {fs : List (Str × D)} {gs : List (Str × V)}, RepF K N fs gs → RepF K N (putD f x fs) (putF f v gs)
  | _, _, .nil => .cons r .nil
  | _, _, .cons (f := g) q t => by
    unfold putD putF
    by_cases h : g = f
    · rw [if_pos h, if_pos h]
      exact .cons r t
    · rw [if_neg h, if_neg h]
      exact .cons q (repF_put r t)
def tFldS3 (K : PySem.W.Frag) (f : Str) (to te : TE3) : TS3 := fun D σ M => te σ M (fun y M1 => to σ M1 (fun x M2 => ∃ a C fs, x = .ref a ∧ M2 a = some (.ins C fs) ∧ Cls K C ∧ NoAttr K C f ∧ fs.length < 1000 ∧ D.nx σ (M2.put a (.ins C (putD f y fs)))) fun c fs M2 => D.ex c fs σ M2) fun c fs M1 => D.ex c fs σ M1
theorem s_fld {f : Str} {to : TE3} {p' : Pos} {e : Expr} {te : TE3} (ho : PE3 X W o to) (he : PE3 X W e te) (hs : swapsWith e (some (.Attribute o f p')) pos.line X.env = pure false := by rfl) : PS3 X W (.Assign [.Attribute o f p'] e pos) (tFldS3 X.K f to te) :=
  PS.imp (ps_fld ho he hs) fun D σ H ⟨σ3, M, D3, rs, m, h, dl⟩ =>
    ⟨σ3, M, _, _, rs, m, h, fun y M1 H1 v m1 s1 rv h1 => ⟨σ3, M1, _, _, rs.mono s1, m1, h1, fun x M2 H2 u m2 s2 ru ⟨a, C, fs, ex, ea, c, n, l, q⟩ => by
      subst ex
      cases ru
      obtain ⟨dx, gs, e1, r⟩ := m2 a _ ea
      have r' := repF_put (f := f) (rv.mono s2) r
      have hh : hid (upd H2 a (.ins C dx (putF f v gs))) (M2.put a (.ins C (putD f y fs))) = hid H2 M2 := hid_put ⟨_, ea⟩
      have m3 : MRel X.K (M2.put a (.ins C (putD f y fs))) (upd H2 a (.ins C dx (putF f v gs))) := mrel_put m2 hh ⟨dx, _, upd_same, r'⟩
      exact ⟨a, C, dx, gs, rfl, e1, c, n, by rw [← r.length]; exact l, dl.nx σ3 _ σ _ (by rw [hh]; exact rs.mono (s1.trans s2)) m3 (by rw [hh]; exact s1.trans s2) q⟩, (elink_of (dl.mono s1) (rs.mono s1))⟩, elink_of dl rs⟩

/-! ### methods -/
def tMethS (C : Addr) (m : Str) (sp : Sp) (dvs : List V) (E : L2.St → XK) (ta : TE) (t : TA) : TE := fun σ H Q => ta σ H fun x H1 => ∃ a dx fs, x = .ref a ∧ H1 a = some (.ins C dx fs) ∧ fs.lookup m = none ∧ t σ H1 fun vs H2 => sp (x :: (vs ++ dvs)) H2 Q (E σ)
theorem pe_methS {pl : Sem Bool} {sp : Sp} {dvs : List V} {ds : List Value} {E : L2.St → XK} {ta : TE} {t : TA} (he : PE X o ta) (c : Cls X.K C) (hm : Meth X.K C m f) (F : FnOk X.prog X.w X.K X.mg X.base (L2.CX X.prog X.w) k f fd ps sp) (hr : Room k X.A) (hb : Binds X.K fd ps ds) (hd : Vals dvs ds)
    (hx : ∀ σ, PassesAt (L2.CX X.prog X.w) X σ (E σ)) (ha : PA X (e :: es) t)
    (hst : starEach (e :: es) X.env = (false, eval e X.env) :: starEach es X.env := by rfl) (hpl : (backTo pos (starEach es X.env)).any (·.1) = false := by rfl)
    (ht : eval (.Call (.Attribute o m apos) (e :: es) [] pos) X.env = (do
      let ov ← eval o X.env
      standAt apos.atName
      let (f, first) ← holding [ov] (getMethod ov m pl)
      callWith pos f first (backTo pos (starEach (e :: es) X.env)) (backToKw pos (keywordEach [] X.env))) := by rfl) :
    PE X (.Call (.Attribute o m apos) (e :: es) [] pos) (tMethS C m sp dvs E ta t) := by
  refine ⟨fun pins s σ H Q I h => ?_⟩
  refine PySem.W.methodCall_KW (pl := pl) (thn (he.run pins s σ H _ I h) fun u s1 ⟨x, H1, I1, rx, a, dx, fs, ex, ea, l, q⟩ => ?_) ht
  subst ex
  obtain rfl : u = Value.ref a := rx
  refine getmeth_ok I1 ea c hm l ?_
  refine PySem.W.callWith_K (first := [.ref a]) (h₀ := X.base) I.ok.mod.kin hm.kp (thn (ha.run pos pins s1 σ H1 _ I1 q) fun us s2 ⟨vs, H2, I2, r, q2⟩ => ⟨I2.kIn, ?_⟩) hst hpl
  exact run_fnSD (us := .ref a :: us) (vs := .ref a :: vs) F hr hb hd (hx σ) I2 (.cons rfl r) q2
theorem pe_methS0 {pl : Sem Bool} {sp : Sp} {dvs : List V} {ds : List Value} {E : L2.St → XK} {ta : TE} (he : PE X o ta) (c : Cls X.K C) (hm : Meth X.K C m f) (F : FnOk X.prog X.w X.K X.mg X.base (L2.CX X.prog X.w) k f fd ps sp) (hr : Room k X.A) (hb : Binds X.K fd ps ds) (hd : Vals dvs ds)
    (hx : ∀ σ, PassesAt (L2.CX X.prog X.w) X σ (E σ))
    (ht : eval (.Call (.Attribute o m apos) [] [] pos) X.env = (do
      let ov ← eval o X.env
      standAt apos.atName
      let (f, first) ← holding [ov] (getMethod ov m pl)
      callWith pos f first (backTo pos (starEach [] X.env)) (backToKw pos (keywordEach [] X.env))) := by rfl) :
    PE X (.Call (.Attribute o m apos) [] [] pos) (tMethS C m sp dvs E ta tNil) := by
  refine ⟨fun pins s σ H Q I h => ?_⟩
  refine PySem.W.methodCall_KW (pl := pl) (thn (he.run pins s σ H _ I h) fun u s1 ⟨x, H1, I1, rx, a, dx, fs, ex, ea, l, q⟩ => ?_) ht
  subst ex
  obtain rfl : u = Value.ref a := rx
  refine getmeth_ok I1 ea c hm l ?_
  exact PySem.W.callWith_K0 (first := [.ref a]) I1.kIn hm.kp (run_fnSD (us := [.ref a]) (vs := [.ref a]) F hr hb hd (hx σ) I1 (.cons rfl .nil) q)
/-- o.m(..), o an instance of the class at C that stands -/
def tMeth3 (C : Addr) (m : Str) (sp : Sp3) (dds : List D) (ta : TE3) (t : TA3) : TE3 := fun σ M Q E => ta σ M (fun x M1 => ∃ fs, x = .ins C fs ∧ fs.lookup m = none ∧ t σ M1 (fun xs M2 => sp (x :: (xs ++ dds)) M2 Q E) E) E
theorem meth_low {K : PySem.W.Frag} {dds : List D} {dvs : List V} (hd : ∀ N, Reps K N dds dvs) : ∀ σ H Q, lowE K W (tMeth3 C m sp dds ta t) σ H Q → tMethS C m (lowSp K sp) dvs (WE W) (lowE K W ta) (lowA K W t) σ H Q := fun σ H Q ⟨σ3, M, Q3, E3, rs, mm, h, vl, el⟩ =>
  ⟨σ3, M, _, E3, rs, mm, h, fun x M1 H1 v m1 s1 rv ⟨fs, ex, l, h1⟩ => by
    subst ex
    cases rv with
    | @ins a _ dx _ gs e1 r => exact ⟨a, dx, gs, rfl, hid_same _ _ e1, r.lookup_none l, σ3, M1, _, E3, rs.mono s1, m1, h1, fun xs M2 H2 vs m2 s2 rvs h2 =>
        ⟨.ins C fs :: (xs ++ dds), M2, Q3, E3, m2, .cons (.ins (s2 _ _ e1) (r.mono s2)) (rvs.append (hd _)), h2, vl.mono (s1.trans s2), el.mono (s1.trans s2)⟩, el.mono s1⟩, el⟩
theorem p_meth {pl : Sem Bool} {dds : List D} {ds : List Value} (c : Cls X.K C) (hm : Meth X.K C m f) (F : Ok3 X.prog X.w X.K X.mg X.base k f fd ps sp) (hr : Room k X.A) (hb : Binds X.K fd ps ds) (hd : Vals (cvs dds) ds) (hc : dds.all isC = true) (tk : Takes X W) (he : PE3 X W o ta) (ha : PA3 X W (e :: es) t)
    (hst : starEach (e :: es) X.env = (false, eval e X.env) :: starEach es X.env := by rfl) (hpl : (backTo pos (starEach es X.env)).any (·.1) = false := by rfl)
    (ht : eval (.Call (.Attribute o m apos) (e :: es) [] pos) X.env = (do
      let ov ← eval o X.env
      standAt apos.atName
      let (f, first) ← holding [ov] (getMethod ov m pl)
      callWith pos f first (backTo pos (starEach (e :: es) X.env)) (backToKw pos (keywordEach [] X.env))) := by rfl) :
    PE3 X W (.Call (.Attribute o m apos) (e :: es) [] pos) (tMeth3 C m sp dds ta t) := PE.imp (pe_methS (E := WE W) he c hm F hr hb hd (fun σ => passAt tk σ) ha hst hpl ht) (meth_low fun _ => reps_cvs hc)
theorem p_meth0 {pl : Sem Bool} {dds : List D} {ds : List Value} (c : Cls X.K C) (hm : Meth X.K C m f) (F : Ok3 X.prog X.w X.K X.mg X.base k f fd ps sp) (hr : Room k X.A) (hb : Binds X.K fd ps ds) (hd : Vals (cvs dds) ds) (hc : dds.all isC = true) (tk : Takes X W) (he : PE3 X W o ta)
    (ht : eval (.Call (.Attribute o m apos) [] [] pos) X.env = (do
      let ov ← eval o X.env
      standAt apos.atName
      let (f, first) ← holding [ov] (getMethod ov m pl)
      callWith pos f first (backTo pos (starEach [] X.env)) (backToKw pos (keywordEach [] X.env))) := by rfl) :
    PE3 X W (.Call (.Attribute o m apos) [] [] pos) (tMeth3 C m sp dds ta tNil3) := PE.imp (pe_methS0 (E := WE W) he c hm F hr hb hd (fun σ => passAt tk σ) ht) fun σ H Q z => by
  obtain ⟨σ3, M, Q3, E3, rs, mm, h, vl, el⟩ := z
  refine ⟨σ3, M, _, E3, rs, mm, h, fun x M1 H1 v m1 s1 rv ⟨fs, ex, l, h1⟩ => ?_, el⟩
  subst ex
  cases rv with
  | @ins a _ dx _ gs e1 r => exact ⟨a, dx, gs, rfl, hid_same _ _ e1, r.lookup_none l, ⟨.ins C fs :: ([] ++ dds), M1, Q3, E3, m1, .cons (.ins e1 r) (Reps.append .nil (reps_cvs hc)), h1, vl.mono s1, el.mono s1⟩⟩
end
end L3

/-! L3Exc: exceptions by data. -/
namespace PySem.W
open PySem PySem.Spec PySem.Calls PyProof.Rows
section
variable {prog : Program} {w : World} {A : Around} {E : Value → Shared → Prop} {s : Shared} {K : Frag} {x D : Addr} {ox : Obj} {od : Option Obj}
theorem l3_findObj {C : Addr} {name : Str} {a g : Value} (hc : (clsIn K C).isSome = true) (ha : findIn K (.ref C) name = some (some a)) (hg : specialIn K a "__get__" = some (some g)) (ht : takesIn K a = some true) : findObj K C od name = some (.bind g a) := by
  obtain ⟨cd, hc⟩ := Option.isSome_iff_exists.mp hc
  unfold findObj
  rw [hc, Option.bind_some, ha, Option.bind_some]
  simp [hg, ht]
theorem l3_class (T : L2.ExcC K D) {Q : Option Value → Shared → Prop} (X : K.In s.heap) (I : InstAt s.heap x ox D od) (h : Q (some (.ref D)) { s with toks := s.toks + 1 }) : wpAny (model prog w) A (getAttr? (.ref x) "__class__") Q E s := by
  obtain ⟨hga, hgt, hsub, hdct, ha, hn, htk, hm⟩ := T
  have hf : findObj K D od "__class__" = some (.bind (.builtin "getset_descriptor.__get__") (.builtin "object.__class__")) := l3_findObj (by obtain ⟨cd, hc, _⟩ := any_some hdct; rw [hc]; rfl) ha hn htk
  obtain ⟨hp, g, d, t, os⟩ := s
  have L0 := I.type (M := model prog w)
  have L1 := looks_findIn (M := model prog w) X hga
  have L2 := looks_findIn (M := model prog w) X hgt
  have L3 := looks_find (M := model prog w) X I hf
  have sub : Looks (model prog w) hp (isInstance (.ref x) (.type "BaseException")) true := L0.andThen (looks_subIn X hsub)
  have hx0 : (false && onTheHeap (Value.builtin "BaseException.__getattribute__")) = false := rfl
  have hx2 : (Value.builtin "BaseException.__getattribute__" == Value.builtin "object.__getattribute__") = false := by decide +kernel
  have hx1 : (onTheHeap (Value.ref D) && Value.builtin "BaseException.__getattribute__" == Value.builtin "object.__getattribute__") = false := by rw [hx2]; rfl
  unfold getAttr? getAttrBy? getAttrBy
  refine wpAny_bind (wpAny_mkText (wpAny_bind (wpAny_attempt (wpAny_holding (wpAny_bind (L0.at (wpAny_bind (L1.at ?_))))))))
  show wpAny _ _ (if (onTheHeap (Value.ref D) && Value.builtin "BaseException.__getattribute__" == Value.builtin "object.__getattribute__") = true then _ else _) _ _ _
  rw [hx1, if_neg Bool.false_ne_true]
  unfold getAttrByItsOwn hookBefore
  refine wpAny_bind ?_
  rw [if_pos (show onTheHeap (Value.ref D) = true from rfl)]
  refine L2.at ?_
  refine wpAny_bind (wpAny_attempt (wpAny_holding ?_))
  unfold callGetattribute
  rw [hx0, if_neg Bool.false_ne_true]
  unfold boundAndCalled
  rw [PySem.F.excAttr_ValueError.ga.bind (.ref x)]
  refine wpAny_bind (wpAny_pure ?_)
  show wpAny _ _ (call (.builtin "BaseException.__getattribute__") [.ref x, .str "__class__" t]) _ _ _
  refine wpAny_call (codeAny_call_builtin PySem.F.excAttr_ValueError.ga.plain PySem.F.entry_bexc_ga ?_)
  refine @check_slot (model prog w) _ _ ⟨hp, g, d, t + 1, os⟩ "BaseException.__getattribute__" "BaseException" "__getattribute__" (.ref x) [.str "__class__" t] [] _ (by decide +kernel) (by decide +kernel) sub (PySem.F.args_bexc_ga (.ref x) (.str "__class__" t)) ?_
  unfold Builtin.«object.__getattribute__»
  refine wpAny_bind (wpAny_of_eq (a := ((Value.ref x : Value), [Value.str "__class__" t])) (by first | rfl | (simp only [slotArgs]; rfl)) ?_)
  refine wpAny_bind (wpAny_pure (wpAny_bind (L0.at (wpAny_bind (L3.at ?_)))))
  show wpAny _ _ (holding [Value.builtin "object.__class__"] (call (.builtin "getset_descriptor.__get__") [.builtin "object.__class__", .ref x, .ref D]) >>= ret) _ _ _
  refine wpAny_bind (wpAny_holding (wpAny_call (class_get (s := ⟨hp, g, d, t + 1, os⟩) (ox := ox) (od := od) X I hm ?_)))
  refine wpAny_pure ?_
  show wpAny _ _ (handedOut (.ref D)) _ _ _
  rw [handedOut_of (v := .ref D) rfl]
  first
    | exact wpAny_pure (wpAny_pure h)
    | exact wpAny_pure h
    | exact wpAny_pure (wpAny_bind (wpAny_pure (wpAny_pure h)))
theorem l3_kitx (T : L2.ExcC K D) : KitX K (.ref x) (.ref D) (fun h => InstAt h x ox D od) where
  ty := fun _ _ _ I => I.type
  it := fun _ _ X _ => by
    obtain ⟨cdD, hcD, _⟩ := any_some T.hd
    unfold clsIn at hcD
    split at hcD
    · rename_i c' d' cd' sl' ho
      intro A' Q' E' s' k q
      unfold isType loadHead
      exact wpAny_bind (wpAny_loadPart (k _ _ (X _ _ ho)) (wpAny_pure q))
    · cases hcD
  ne := fun h tp dd its n sl X htp => by
    obtain ⟨cdD, hcD, _⟩ := any_some T.hd
    refine Bool.eq_false_iff.mpr fun q => ?_
    have e : D = tp := Value.ref.inj (beq_iff_eq.mp q)
    subst e
    unfold clsIn at hcD
    split at hcD
    · rename_i c' d' cd' sl' ho
      have z := (X _ _ ho).symm.trans htp
      cases z
    · cases hcD
  ca := fun X I k => l3_class T X I k
end
end PySem.W
namespace L3
open PySem PySem.Spec PyProof.Rows L2
/-! ### B.__init__(self, ..), B an own class over ValueError without an __init__ of its own -/
section
variable {X : Cx} {e : Expr} {es : List Expr} {ta : TA} {p1 p2 pos : Pos} {B : Str} {b : Addr} {mc : Value}
structure BaseI (K : PySem.W.Frag) (mg : Str → Option Value) (B : Str) (b : Addr) (mc : Value) : Prop where
  g : mg B = some (.ref b)
  r : ClX.CRead K b mc
  at_ : PySem.W.findCls K (.ref b) mc "__init__" = some (.val (.builtin "ValueError.__init__"))
theorem pe_binit {pl : Sem Bool} (T : BaseI X.K X.mg B b mc) (ha : PA X (e :: es) ta) (hg : Gl X B := by rfl) (hdb : (B == ("__debug__" : Str)) = false := by decide)
    (hc : eval (.Call (.Attribute (.Name B p1) "__init__" p2) (e :: es) [] pos) X.env = (do
      let ov ← eval (.Name B p1) X.env
      standAt p2.atName
      let (f, first) ← holding [ov] (getMethod ov "__init__" pl)
      callWith pos f first (backTo pos (starEach (e :: es) X.env)) (backToKw pos (keywordEach [] X.env))) := by rfl)
    (he : starEach (e :: es) X.env = (false, eval e X.env) :: starEach es X.env := by rfl) (hpl : (backTo pos (starEach es X.env)).any (·.1) = false := by rfl) :
    PE X (.Call (.Attribute (.Name B p1) "__init__" p2) (e :: es) [] pos) (tVeI X.K ta) := by
  refine ⟨fun pins s σ H Q I h => ?_⟩
  refine PySem.W.methodCall_KW (ld_glob I hg T.g ?_ hdb) hc
  refine PySem.W.method_cls I.kIn T.r.ga (PySem.W.cls_value I.kIn T.r.rd T.at_ rfl ?_)
  show wpAny _ _ (callWith pos (Value.builtin "ValueError.__init__") [] (backTo pos (starEach (e :: es) X.env)) []) _ _ _
  refine PyProof.Rows.callWith_method1 (thn (ha.run pos pins _ σ H _ (I.tok _) h) fun us s1 ⟨vs, H1, I1, r1, a, C, ws, ev, hl, T', ea, q⟩ => ?_) he hpl
  subst ev
  cases r1 with
  | @cons _ u0 _ ur ra rw' =>
    obtain rfl : u0 = Value.ref a := ra
    have hlen : ur.length ≤ sizeLine := by
      rw [← Paired.length rw', sizeLine_eq]
      omega
    exact oinit_ok T' I1 ea hlen fun s' J => ⟨.non, H1, J, rfl, q⟩
end
/-- what __init__ of such a class with fields fs leaves: the fields in the order of the assignments, the last one ahead -/
def exSt (H : Hp) (a C : Addr) : List (Str × V) → Option Addr → Hp
  | [], _ => H
  | fs, some d => upd (upd H d (exd d fs)) a (exo a C (some d))
  | _, none => H
def spX (C : Addr) (ps : List Str) : Sp := fun vs H Q _ => ∃ (a : Addr) (ys : List V), vs = .ref a :: ys ∧ ys.length = ps.length ∧ ps ≠ [] ∧ H a = some (exo a C none) ∧
  ∀ d, H d = none → d ≠ a → Q .non (upd (upd H d (exd d (ps.zip ys).reverse)) a (exo a C (some d)))
theorem exd_upd {H : Hp} {d : Addr} {fs gs : List (Str × V)} {a C : Addr} (e : d ≠ a) : upd (upd (upd H d (exd d fs)) a (exo a C (some d))) d (exd d gs) = upd (upd H d (exd d gs)) a (exo a C (some d)) := by
  funext b
  by_cases h1 : b = d
  · rw [h1, upd_same, upd_ne e, upd_same]
  · rw [upd_ne h1]
    by_cases h2 : b = a
    · rw [h2, upd_same, upd_same]
    · rw [upd_ne h2, upd_ne h2, upd_ne h1, upd_ne h1]
section
variable {P : Program} {w : World} {K : PySem.W.Frag} {mg : Str → Option Value} {base : Heap} {C : Addr}
/-- the reading of B.__init__(self, ..); self.f = f -/
theorem xinit1 {f : Str} {y : V} {a : Addr} {H : Hp} {Q : VK} {txt : Str} (T : OexC K C) (nf : PySem.W.findIn K (.ref C) f = some none) (h : spX C [f] [.ref a, y] H Q E0) :
    tSeq (tDrop (tVeI K (tCons (tVar 0) (tCons (tC (.str txt)) tNil)))) (tOst K f (tVar 0) (tVar 1)) { nx := fun _ H' => Q .non H', rt := Q } [some (.ref a), some y] H := by
  obtain ⟨a', ys, ev, hl, _, ha, k⟩ := h
  cases ev
  refine ⟨_, rfl, a, C, _, rfl, by show 1 ≤ 1000; decide, T, ha, ?_⟩
  exact ⟨_, rfl, _, rfl, a, C, rfl, T, nf, .inl ⟨ha, fun d hd hda => k d hd hda⟩⟩
theorem xinit2 {f g : Str} {y z : V} {a : Addr} {H : Hp} {Q : VK} {txt : Str} (T : OexC K C) (nf : PySem.W.findIn K (.ref C) f = some none) (ng : PySem.W.findIn K (.ref C) g = some none) (h : spX C [f, g] [.ref a, y, z] H Q E0) :
    tSeq (tDrop (tVeI K (tCons (tVar 0) (tCons (tC (.str txt)) tNil)))) (tSeq (tOst K f (tVar 0) (tVar 1)) (tOst K g (tVar 0) (tVar 2))) { nx := fun _ H' => Q .non H', rt := Q } [some (.ref a), some y, some z] H := by
  obtain ⟨a', ys, ev, hl, _, ha, k⟩ := h
  cases ev
  refine ⟨_, rfl, a, C, _, rfl, by show 1 ≤ 1000; decide, T, ha, ?_⟩
  refine ⟨_, rfl, _, rfl, a, C, rfl, T, nf, .inl ⟨ha, fun d hd hda => ?_⟩⟩
  refine ⟨_, rfl, _, rfl, a, C, rfl, T, ng, .inr ⟨d, _, upd_same, by rw [upd_ne hda, upd_same], by simp, ?_⟩⟩
  rw [exd_upd hda]
  exact k d hd hda
end

/-! ### raise, by data -/
section
variable {X : Cx} {W : WX} {C fI : Addr} {k : Nat} {fd : FuncData} {ps : List Str} {x : Str} {p pos pos2 : Pos} {e : Expr} {es : List Expr} {t : TA3}
def tRaise3 (C : Addr) (ps : List Str) (t : TA3) : TS3 := fun D σ M => t σ M (fun xs M1 => xs.length = ps.length ∧ D.ex (.ref C) (ps.zip xs).reverse σ M1) fun c fs M1 => D.ex c fs σ M1
theorem repF_zip {K : PySem.W.Frag} {N : Hp} : ∀ {ps : List Str} {xs : List D} {vs : List V}, Reps K N xs vs → RepF K N (ps.zip xs) (ps.zip vs)
  | [], _, _, _ => .nil
  | _ :: _, _, _, .nil => .nil
  | _ :: _, _, _, .cons r t => .cons r (repF_zip t)
theorem repF_append {K : PySem.W.Frag} {N : Hp} : ∀ {a b : List (Str × D)} {c d : List (Str × V)}, RepF K N a c → RepF K N b d → RepF K N (a ++ b) (c ++ d)
  | _, _, _, _, .nil, s => s
  | _, _, _, _, .cons r t, s => .cons r (repF_append t s)
theorem repF_rev {K : PySem.W.Frag} {N : Hp} : ∀ {fs : List (Str × D)} {gs : List (Str × V)}, RepF K N fs gs → RepF K N fs.reverse gs.reverse
  | _, _, .nil => .nil
  | _, _, .cons r t => by
    rw [List.reverse_cons, List.reverse_cons]
    exact repF_append (repF_rev t) (.cons r .nil)
structure ExcT (K : PySem.W.Frag) (C fI : Addr) : Prop where
  T : OexC K C
  iC : PySem.W.findIn K (.ref C) "__init__" = some (some (.ref fI))
  tI : PySem.W.typeIn K (.ref fI) = some (.type "function")
theorem s_raise (hc : X.calm = true) (T : ExcT X.K C fI) (F : FnOk X.prog X.w X.K X.mg X.base CX0 k fI fd ("self" :: ps) (spX C ps)) (hr : Room (k + 1) X.A) (hb : Binds X.K fd ("self" :: ps) []) (tk : Takes X W) (hp : ps ≠ []) (hps : ps.length ≤ 100) (hm : X.mg x = some (.ref C)) (ha : PA3 X W (e :: es) t)
    (hg : Gl X x := by rfl) (hdb : (x == ("__debug__" : Str)) = false := by decide) (he : starEach (e :: es) X.env = (false, eval e X.env) :: starEach es X.env := by rfl) (hpl : (backTo pos (starEach es X.env)).any (·.1) = false := by rfl) :
    PS3 X W (.Raise (some (.Call (.Name x p) (e :: es) [] pos)) none pos2) (tRaise3 C ps t) :=
  PS.imp (ps_raise hc tk (pmk_oex T.T T.iC T.tI F hr hb .nil (fun _ _ _ _ _ _ _ z => z.elim) hg hm ha hdb he hpl)) fun D σ H ⟨σ3, M, D3, rs, m, h, dl⟩ =>
    ⟨σ3, M, _, _, rs, m, h, fun xs M1 H1 vs m1 s1 rv ⟨hl, q⟩ => ⟨by rw [← rv.length, hl]; omega, fun a na => by
      refine ⟨a, vs ++ [], rfl, by rw [List.append_nil, ← rv.length]; exact hl, hp, upd_same, fun d nd hda => ⟨rfl, d, _, upd_same, by rw [upd_ne hda, upd_same], ?_, ?_⟩⟩
      · rw [upd_ne hda] at nd
        exact nd
      · have nd' : H1 d = none := by rw [upd_ne hda] at nd; exact nd
        have eH : upd (del (upd (upd (upd H1 a (exo a C none)) d (exd d (ps.zip (vs ++ [])).reverse)) a (exo a C (some d))) a) d (.xd (ps.zip (vs ++ [])).reverse) = upd H1 d (.xd (ps.zip vs).reverse) := by
          funext b
          by_cases h1 : b = d
          · rw [h1, upd_same, upd_same, List.append_nil]
          · rw [upd_ne h1, upd_ne h1]
            by_cases h2 : b = a
            · rw [h2, del_same, na]
            · rw [del_ne h2, upd_ne h2, upd_ne h1, upd_ne h2]
        rw [eH]
        have sn := same_new (M := M1) (o := .xd (ps.zip vs).reverse) nd'
        refine dl.ex _ _ σ3 M1 σ _ _ (rs.mono (s1.trans sn)) (mrel_new m1 nd') (s1.trans sn) ?_ q
        exact ⟨_, by rw [hid_none (m1.free nd'), upd_same], (repF_rev (repF_zip rv)).mono sn⟩⟩, elink_of dl rs⟩
end

/-! ### try .. except C as n -/
section
variable {X : Cx} {W : WX} {x n : Str} {c : Value} {i : Nat} {body suite : List Stmt} {b₀ : Stmt} {np pos pos' : Pos} {tb : TS3} {ts : Addr → Option Addr → Value → TS3}
/-- the clause catches what exmOne says it does; in the suite slot i holds the exception (its fields told), behind it slot i is empty -/
def tTryAs3 (K : PySem.W.Frag) (c : Value) (i : Nat) (tb : TS3) (ts : Addr → Option Addr → Value → TS3) : TS3 := fun D σ M => tb { D with ex := fun cls fs σ1 M1 => ∃ b, PySem.W.exmOne K cls c = some b ∧
  (b = true → ∀ a d, ts a d cls { nx := fun σ' M' => D.nx (σ'.set i none) M', rt := D.rt, bk := fun σ' M' => D.bk (σ'.set i none) M', ct := fun σ' M' => D.ct (σ'.set i none) M' } (σ1.set i (some (.exc a d fs))) M1) ∧ (b = false → D.ex cls fs σ1 M1) } σ M
def noW : WX := fun _ _ _ _ => False
theorem s_try_as (hs : X.stack = X.env :: X.outer) (hf : X.env.frame = some X.env.locals) (hN : X.N.Nodup) (hi : X.N[i]? = some n) (hln : X.env.kindOf n = some .local) (hc : Names X x c) (tk : Takes X W)
    (hb : ∀ (W' : WX) (pn : List (Addr × Obj)) (xe : Value → Shared → Prop), Takes (X.tr pn xe) W' → PassesOwn (model X.prog X.w) X.A X.env xe → PSs3 (X.tr pn xe) W' body tb)
    (hsu : ∀ (a : Addr) (oe : Obj) (cls : Value) (d : Option Addr) (pn : List (Addr × Obj)), Zc cls d oe → (∃ vs, oe.data = .fields vs) → PSs3 (X.suite a ((a, oe) :: pn)) noW (b₀ :: suite) (ts a d cls)) :
    PS3 X W (.Try body [.ExceptHandler (some (.Name x np)) (some n) (b₀ :: suite) pos'] [] [] pos) (tTryAs3 X.K c i tb ts) :=
  PS.imp (ps_try_as (tb := fun W' => lowS X.K W' tb) (ts := fun a cls d => lowS X.K noW (ts a d cls)) hs hf hN hi hln hc tk hb hsu) fun D σ H ⟨σ3, M, D3, rs, m, h, dl⟩ => by
    refine ⟨σ3, M, _, rs, m, h, ⟨dl.nx, dl.rt, dl.bk, dl.ct, fun cls fs σ3' M' σ' H' d rs' m' s' xf ⟨b, hb1, hy, hno⟩ => ?_⟩⟩
    refine ⟨b, hb1, fun hbt a na => ?_, fun hbf => dl.ex cls fs σ3' M' σ' H' d rs' m' s' xf (hno hbf)⟩
    have rx : Rep X.K (hid H' M') (.exc a d fs) (.ref a) := by
      cases d with
      | some dd =>
        obtain ⟨gs, e1, r⟩ := xf
        exact .exc e1 r
      | none =>
        have e : fs = [] := xf
        subst e
        exact .exc0
    refine ⟨_, M', _, rs'.set rx i, m', hy hbt a d, ⟨fun σa Ma σb Hb ra ma sa qa => dl.nx _ Ma _ Hb (ra.setN i) ma (s'.trans sa) qa, dl.rt.mono s', fun σa Ma σb Hb ra ma sa qa => dl.bk _ Ma _ Hb (ra.setN i) ma (s'.trans sa) qa, fun σa Ma σb Hb ra ma sa qa => dl.ct _ Ma _ Hb (ra.setN i) ma (s'.trans sa) qa, fun _ _ _ _ _ _ _ _ _ _ _ z => z.elim⟩⟩
/-- e.f in the suite -/
def tXf3 (a : Addr) (d : Option Addr) (f : Str) (te : TE3) : TE3 := fun σ M Q E => te σ M (fun x M1 => ∃ fs z, x = .exc a d fs ∧ fs.lookup f = some z ∧ Q z M1) E
theorem p_xf {a C : Addr} {oe : Obj} {d : Option Addr} {pn : List (Addr × Obj)} {e : Expr} {te : TE3} {f : Str} (T : XfC X.K C) (hno : PySem.W.findIn X.K (.ref C) f = some none) (hz : Zc (.ref C) d oe) (hf : ∃ vs, oe.data = .fields vs) (he : PE3 (X.suite a ((a, oe) :: pn)) W e te)
    (hb : attributeBase e f X.env (eval e X.env) = eval e X.env := by rfl) : PE3 (X.suite a ((a, oe) :: pn)) W (.Attribute e f pos) (tXf3 a d f te) :=
  PE.imp (pe_xf T hno hz hf he hb) fun σ H Q ⟨σ3, M, Q3, E3, rs, m, h, vl, el⟩ => ⟨σ3, M, _, E3, rs, m, h, fun x M1 H1 v m1 s1 rv ⟨fs, z, ex, l, q⟩ => by
    subst ex
    cases rv with
    | @exc _ dd _ gs e1 r =>
      obtain ⟨u, hu, ru⟩ := r.lookup l
      exact ⟨rfl, rfl, dd, gs, u, rfl, hid_same _ _ e1, hu, vl _ M1 H1 _ m1 s1 ru q⟩
    | exc0 => simp at l, el⟩
/-- isinstance(e, c) in the suite -/
def rIsE3 (K : PySem.W.Frag) (C : Addr) (a : Addr) (d : Option Addr) : RA3 := fun xs M Q => ∃ fs c cv b, xs = [.exc a d fs, c] ∧ ((∃ n, c = .ty n ∧ cv = .type n) ∨ ∃ B, c = .ref B ∧ cv = .ref B) ∧ PySem.W.kitOne K (.ref C) cv = some b ∧ Q (.bl b) M
def rIsEV (K : PySem.W.Frag) (C : Addr) (a : Addr) (d : Option Addr) : List V → Hp → VK → Prop := fun xs H Q => ∃ (c : V) (cv : Value) (b : Bool), xs = [.ref a, c] ∧ ClsV c cv ∧ (∀ dd, d = some dd → ∃ gs, H dd = some (.xd gs)) ∧ PySem.W.kitOne K (.ref C) cv = some b ∧ Q (.bl b) H
theorem call_isEV {a C : Addr} {oe : Obj} {d : Option Addr} {pn : List (Addr × Obj)} (T : ExcC X.K C) (hz : Zc (.ref C) d oe) (hf : ∃ vs, oe.data = .fields vs) : CallR (X.suite a ((a, oe) :: pn)) (.builtin "isinstance") (rIsEV X.K C a d) := by
  intro pins s σ H xs us Q I r h
  obtain ⟨c, cv, b, rfl, hcv, hd, e, q⟩ := h
  obtain ⟨u1, u2, rfl, r1, r2⟩ := vals2 r
  cases r1
  have ec := hcv.eq r2
  subst ec
  obtain ⟨hget, _⟩ := I.pin (a, oe) (List.mem_append.mpr (.inl List.mem_cons_self))
  obtain ⟨vs, hv⟩ := hf
  obtain ⟨od, J⟩ : ∃ od, PySem.W.InstAt s.heap a oe C od := by
    cases d with
    | none =>
      refine ⟨none, hget, hz.1, by unfold PySem.W.notCls; rw [hv] <;> rfl, ?_⟩
      rw [hz.2]
      trivial
    | some dd =>
      obtain ⟨o, ho⟩ := hd dd rfl
      obtain ⟨ob, hob⟩ : ∃ ob, s.heap.get? dd = some ob := by
        obtain ⟨mA, ⟨ob, _, _, hob, _⟩, _⟩ := (show ObjOk X.prog X.w H s.heap dd (.xd o) from I.hok dd _ ho)
        exact ⟨ob, hob⟩
      exact ⟨some ob, hget, hz.1, by unfold PySem.W.notCls; rw [hv] <;> rfl, by rw [hz.2]; exact hob⟩
  exact PySem.W.kia_one (PySem.W.l3_kitx T) I.kIn J e (fun z => nomatch z) fun tk => ⟨.bl b, H, I.kept (t' := tk) fun _ _ z => z, rfl, q⟩
theorem lift_isE {K : PySem.W.Frag} {C a : Addr} {d : Option Addr} : LiftA K (rIsE3 K C a d) (rIsEV K C a d) := fun xs M H vs Q3 Q m rv ⟨fs, c, cv, b, ex, hc, hk, h⟩ vl => by
  subst ex
  obtain ⟨v, u, rfl, r1, r2⟩ := reps2 rv
  have hu : ClsV u cv := by
    rcases hc with ⟨n, e1, e2⟩ | ⟨B, e1, e2⟩
    · subst e1 e2
      cases r2
      exact .ty n
    · subst e1 e2
      cases r2
      exact .own B
  cases r1 with
  | @exc _ dd _ gs e1 r => exact ⟨u, cv, b, rfl, hu, fun z ez => ⟨gs, by cases ez; exact hid_same _ _ e1⟩, hk, vl _ M H _ m (Same.refl _) .bl h⟩
  | exc0 => exact ⟨u, cv, b, rfl, hu, fun z ez => (by cases ez), hk, vl _ M H _ m (Same.refl _) .bl h⟩
theorem p_isE {a C : Addr} {oe : Obj} {d : Option Addr} {pn : List (Addr × Obj)} {e : Expr} {es : List Expr} {p : Pos} {t : TA3} (T : ExcC X.K C) (hz : Zc (.ref C) d oe) (hf : ∃ vs, oe.data = .fields vs) (hm : X.mg "isinstance" = none) (ha : PA3 (X.suite a ((a, oe) :: pn)) W (e :: es) t)
    (hg : Gl (X.suite a ((a, oe) :: pn)) "isinstance" := by rfl) (he : starEach (e :: es) X.env = (false, eval e X.env) :: starEach es X.env := by rfl) (hpl : (backTo pos (starEach es X.env)).any (·.1) = false := by rfl) :
    PE3 (X.suite a ((a, oe) :: pn)) W (.Call (.Name "isinstance" p) (e :: es) [] pos) (tCB3 (rIsE3 X.K C a d) t) := p_cb (call_isEV T hz hf) lift_isE hm (by decide +kernel) ha hg (by decide) (by decide) he hpl
end
end L3

/-! L3Comp: list comprehensions (one for), any, all, isinstance, append. -/
namespace L3
open PySem PySem.Spec PyProof.Rows L2
/-! ### the block's targets: names -/
def wipe3 (σ : St3) : List Nat → St3
  | [] => σ
  | v :: vs => (wipe3 σ vs).set v none
theorem rels_wipe {K : PySem.W.Frag} {N : Hp} {σ3 : St3} {σ : L2.St} (r : RelS K N σ3 σ) : ∀ vs, RelS K N (wipe3 σ3 vs) (wipe σ vs)
  | [] => r
  | v :: vs => (rels_wipe r vs).setN v
theorem wipe_get {σ : L2.St} {i : Nat} : ∀ {vs : List Nat}, i ∉ vs → (wipe σ vs)[i]? = σ[i]?
  | [], _ => rfl
  | v :: vs, h => by
    have h1 : v ≠ i := fun e => h (by rw [e]; exact List.mem_cons_self)
    unfold wipe
    rw [List.getElem?_set_ne h1]
    exact wipe_get fun m => h (List.mem_cons_of_mem _ m)
theorem wipe_in {σ : L2.St} {i : Nat} (hl : i < σ.length) : ∀ {vs : List Nat}, i ∈ vs → (wipe σ vs)[i]? = some none
  | [], h => by cases h
  | v :: vs, h => by
    unfold wipe
    by_cases e : v = i
    · subst e
      rw [List.getElem?_set_self (by rw [wipe_length]; exact hl)]
    · rw [List.getElem?_set_ne e]
      rcases List.mem_cons.mp h with q | q
      · exact absurd q.symm e
      · exact wipe_in hl q
theorem wipe_same {σ τ : L2.St} {vs : List Nat} (hl : σ.length = τ.length) (h : ∀ i, i ∉ vs → σ[i]? = τ[i]?) : wipe σ vs = wipe τ vs := by
  refine List.ext_getElem? fun i => ?_
  by_cases hi : i ∈ vs
  · by_cases hlt : i < σ.length
    · rw [wipe_in hlt hi, wipe_in (by rw [← hl]; exact hlt) hi]
    · rw [List.getElem?_eq_none (by rw [wipe_length]; omega), List.getElem?_eq_none (by rw [wipe_length]; omega)]
  · rw [wipe_get hi, wipe_get hi, h i hi]
/-- a target of names: one name, or a tuple of names -/
inductive Tgt where
  | one (i : Nat)
  | tup (is : List Nat)
def Tgt.ixs : Tgt → List Nat
  | .one i => [i]
  | .tup is => is
def gsNames : List Nat → TGs
  | [] => gNil
  | i :: is => gCons (gName i) (gsNames is)
def setAll (σ : L2.St) : List Nat → List V → L2.St
  | i :: is, v :: vs => setAll (σ.set i (some v)) is vs
  | _, _ => σ
def setAll3 (σ : St3) : List Nat → List D → St3
  | i :: is, v :: vs => setAll3 (σ.set i (some v)) is vs
  | _, _ => σ
theorem gsNames_run : ∀ {is : List Nat} {vs : List V} {σ : L2.St} {H : Hp} {Q : L2.St → Hp → Prop}, vs.length = is.length → Q (setAll σ is vs) H → gsNames is vs σ H Q
  | [], [], _, _, _, _, q => ⟨rfl, q⟩
  | i :: is, v :: vs, _, _, _, h, q => ⟨v, vs, rfl, gsNames_run (by simpa using h) q⟩
  | [], _ :: _, _, _, _, h, _ => by simp at h
  | _ :: _, [], _, _, _, h, _ => by simp at h
theorem setAll_rel {K : PySem.W.Frag} {N : Hp} : ∀ {is : List Nat} {xs : List D} {vs : List V} {σ3 : St3} {σ : L2.St}, Reps K N xs vs → RelS K N σ3 σ → RelS K N (setAll3 σ3 is xs) (setAll σ is vs)
  | [], _, _, _, _, _, r => by cases ‹Reps K N _ _› <;> exact r
  | i :: is, _, _, _, _, .nil, r => r
  | i :: is, _ :: _, _ :: _, σ3, σ, .cons q t, r => by
    show RelS K N (setAll3 (σ3.set i _) is _) (setAll (σ.set i _) is _)
    exact setAll_rel t (r.set q i)
theorem setAll_length : ∀ {is : List Nat} {vs : List V} {σ : L2.St}, (setAll σ is vs).length = σ.length
  | [], vs, σ => by cases vs <;> rfl
  | _ :: _, [], _ => rfl
  | i :: is, v :: vs, σ => by
    show (setAll (σ.set i (some v)) is vs).length = _
    rw [setAll_length, List.length_set]
theorem setAll_get : ∀ {is : List Nat} {vs : List V} {σ : L2.St} {j : Nat}, j ∉ is → (setAll σ is vs)[j]? = σ[j]?
  | [], vs, σ, j, _ => by cases vs <;> rfl
  | _ :: _, [], _, _, _ => rfl
  | i :: is, v :: vs, σ, j, h => by
    show (setAll (σ.set i (some v)) is vs)[j]? = _
    rw [setAll_get fun m => h (List.mem_cons_of_mem _ m), List.getElem?_set_ne fun e => h (by rw [e]; exact List.mem_cons_self)]
def Tgt.g (K : PySem.W.Frag) : Tgt → TG
  | .one i => gName i
  | .tup is => gTup K is.length (gsNames is)
/-- what the target's names hold of an item -/
def Tgt.put : Tgt → D → St3 → Option St3
  | .one i, x, σ => some (σ.set i (some x))
  | .tup is, .tup xs, σ => if xs.length = is.length then some (setAll3 σ is xs) else none
  | .tup _, _, _ => none
theorem tgt_run {K : PySem.W.Frag} {T : Tgt} {own : List Nat} {x : D} {v : V} {σ3 σ3' : St3} {σ : L2.St} {M : Mem} {H : Hp} {Q : L2.St → Hp → Prop} (ho : ∀ i ∈ T.ixs, i ∈ own) (rx : Rep K (hid H M) x v) (rs : RelS K (hid H M) σ3 (wipe σ own)) (hp : T.put x σ3 = some σ3')
    (q : ∀ σ2, RelS K (hid H M) σ3' σ2 → wipe σ2 own = wipe σ own → Q σ2 H) : T.g K v (wipe σ own) H Q := by
  cases T with
  | one i =>
    simp only [Tgt.put, Option.some.injEq] at hp
    subst hp
    refine q _ (rs.set rx i) ?_
    refine wipe_same (by rw [List.length_set, wipe_length]) fun j hj => ?_
    rw [List.getElem?_set_ne fun e => hj (by rw [← e]; exact ho i (by simp [Tgt.ixs])), wipe_get hj]
  | tup is =>
    cases rx with
    | @tup a xs vs hs r =>
      simp only [Tgt.put] at hp
      split at hp
      · rename_i hl
        simp only [Option.some.injEq] at hp
        subst hp
        refine ⟨a, vs, rfl, sqT_mono hid_same hs, by rw [← r.length]; exact hl, gsNames_run (by rw [← r.length]; exact hl) (q _ (setAll_rel r rs) ?_)⟩
        refine wipe_same (by rw [setAll_length, wipe_length]) fun j hj => ?_
        rw [setAll_get (is := is) fun m => hj (ho j m), wipe_get hj]
      · cases hp
    | _ => simp [Tgt.put] at hp
section
variable {X : Cx} {W : WX} {tg iter elt e : Expr} {ifs : List Expr} {te : TE3} {tt : TT3} {wi : TI3} {scope : Scope} {own : List (Str × Nat)} {pos : Pos}
def PTs3 (X : Cx) (W : WX) (ifs : List Expr) (t : TT3) : Prop := PTs X ifs (lowT X.K W t)
theorem PTs.imp {t t' : TT} (h : PTs X ifs t) (i : ∀ σ H Q, t' σ H Q → t σ H Q) : PTs X ifs t' := ⟨fun pins s σ H Q I z => h.run pins s σ H Q I (i σ H Q z)⟩
def tYes3 : TT3 := fun _ M Q _ => Q true M
theorem ts_nil : PTs3 X W [] tYes3 := PTs.imp pts_nil fun σ H Q ⟨σ3, M, Q3, E3, rs, m, h, tl, el⟩ => tl true M H m (Same.refl _) h
theorem ts_one {c : Expr} {t : TT3} (h : PT3 X W c t) : PTs3 X W [c] t := pts_one h
def noE : XK3 := fun _ _ _ => False
/-- the turns: P of the turn, what is kept so far, what may change (without the list that is being made) -/
def lcP (T : Tgt) (own : List Nat) (tt : TT3) (te : TE3) (xs : List D) (G : Mem → Prop) (σ : St3) (M : Mem) (Q : VK3) : Prop := ∀ L, M L = none → ∃ P : Nat → List D → Mem → Prop, P 0 [] M ∧
  (∀ i acc M, M L = none → P i acc M → G (M.put L (.lst acc))) ∧
  (∀ i acc x M, xs[i]? = some x → M L = none → P i acc M → acc.length < 1000000 ∧ ∃ σ', T.put x (wipe3 σ own) = some σ' ∧ tt σ' (M.put L (.lst acc)) (fun b M3 =>
    if b = true then te σ' M3 (fun y M4 => ∃ M5, M4 = M5.put L (.lst acc) ∧ M5 L = none ∧ P (i + 1) (acc ++ [y]) M5) noE else ∃ M5, M3 = M5.put L (.lst acc) ∧ M5 L = none ∧ P (i + 1) acc M5) noE) ∧
  ∀ acc M, M L = none → P xs.length acc M → Q (.lst acc) M
def tLc3 (wi : TI3) (T : Tgt) (own : List Nat) (tt : TT3) (te : TE3) : TE3 := fun σ M Q E => wi σ M (fun xs G M1 => lcP T own tt te xs G σ M1 Q) E
theorem put_inj {M M' : Mem} {a : Addr} {o u : MO} (h : M.put a o = M'.put a u) (h1 : M a = none) (h2 : M' a = none) : M = M' := by
  funext b
  by_cases e : b = a
  · rw [e, h1, h2]
  · have z := congrFun h b
    rw [put_ne e, put_ne e] at z
    exact z
theorem lc_low {K : PySem.W.Frag} {T : Tgt} {own : List Nat} (ho : ∀ i ∈ T.ixs, i ∈ own) : ∀ σ H Q, lowE K W (tLc3 wi T own tt te) σ H Q → tLc (lowI K W wi) (T.g K) (lowT K noW tt) (lowE K noW te) own σ H Q := fun σ H Q ⟨σ3, M, Q3, E3, rs, m, h, vl, el⟩ => by
  refine ⟨σ3, M, _, E3, rs, m, h, fun xs G M1 H1 J m1 s1 wk h1 L hL => ?_, el⟩
  have fL : M1 L = none := m1.free hL
  obtain ⟨P, p0, hg, step, fin⟩ := h1 L fL
  have m0 : MRel K (M1.put L (.lst [])) (upd H1 L (.lst [])) := mrel_lst m1 hL .nil
  have e0 : hid (upd H1 L (.lst [])) (M1.put L (.lst [])) = hid H1 M1 := hid_puti hL fL
  refine ⟨fun i n H' => n = xs.length - i ∧ i ≤ xs.length ∧ ∃ acc M', M' L = none ∧ MRel K (M'.put L (.lst acc)) H' ∧ Same (hid H1 M1) (hid H' (M'.put L (.lst acc))) ∧ P i acc M', ⟨xs.length, rfl, Nat.zero_le _, [], M1, fL, m0, by rw [e0]; exact Same.refl _, p0⟩, ?_⟩
  rintro i n H' ⟨rfl, hi, acc, M', fL', m', s', p⟩
  by_cases hlt : i < xs.length
  · obtain ⟨x, hx⟩ : ∃ x, xs[i]? = some x := ⟨xs[i], List.getElem?_eq_getElem hlt⟩
    obtain ⟨go, yl⟩ := wk.go i x _ H' m' s' (hg i acc M' fL' p) hx
    refine .inr ⟨go, fun H2 => ∃ acc M', M' L = none ∧ MRel K (M'.put L (.lst acc)) H2 ∧ Same (hid H1 M1) (hid H2 (M'.put L (.lst acc))) ∧ P (i + 1) acc M', fun H2 ⟨acc2, M2, f2, m2, s2, p2⟩ => ⟨xs.length - (i + 1), by omega, rfl, hlt, acc2, M2, f2, m2, s2, p2⟩, fun v H2 y => ?_⟩
    obtain ⟨m2, s2, rv⟩ := yl v H2 y
    obtain ⟨hal, σ', hput, ht⟩ := step i acc x M' hx fL' p
    have s3 := s'.trans s2
    have rw3 : RelS K (hid H2 (M'.put L (.lst acc))) (wipe3 σ3 own) (wipe σ own) := (rels_wipe rs own).mono (s1.trans s3)
    refine tgt_run ho rv rw3 hput fun σ2 rs2 ew => ⟨ew, ?_⟩
    refine ⟨σ', _, _, noE, rs2, m2, ht, fun b M3 H3 m3 s4 hb => ?_, fun _ _ _ _ _ _ _ _ z => z.elim⟩
    cases b with
    | true =>
      refine ⟨σ', M3, _, noE, rs2.mono s4, m3, hb, fun y M4 H4 u m4 s5 ru ⟨M5, e5, f5, p5⟩ => ?_, fun _ _ _ _ _ _ _ _ z => z.elim⟩
      subst e5
      obtain ⟨vs, ev, rvs⟩ := m4 L _ put_same
      have r' := rvs.snoc ru
      have eh : hid (upd H4 L (.lst (vs ++ [u]))) ((M5.put L (.lst acc)).put L (.lst (acc ++ [y]))) = hid H4 (M5.put L (.lst acc)) := hid_put ⟨_, put_same⟩
      have m5 := mrel_set m4 put_same r'
      rw [put_put] at m5 eh
      refine ⟨vs, ev, ?_, acc ++ [y], M5, f5, m5, ?_, p5⟩
      · rw [← rvs.length]
        exact Nat.lt_of_lt_of_le hal (by decide)
      · rw [eh]
        exact (s3.trans s4).trans s5
    | false =>
      obtain ⟨M5, e5, f5, p5⟩ := hb
      subst e5
      exact ⟨acc, M5, f5, m3, s3.trans s4, p5⟩
  · have hil : i = xs.length := by omega
    subst hil
    refine .inl ⟨wk.stop _ _ H' m' s' (hg _ acc M' fL' p) (Nat.le_refl _), ?_⟩
    have mf := drop_mrel m' (Drop.del (a := L))
    have sf := drop_same (H := H') (Drop.del (M := M'.put L (.lst acc)) (a := L))
    have rf := rep_frz m' (a := L) put_same
    rw [del_put fL'] at mf sf rf
    exact vl (.lst acc) M' H' _ mf ((s1.trans s').trans sf) rf (fin acc M' fL' p)
theorem p_lc {T : Tgt} (hc : X.calm = true) (hN : X.N.Nodup) (ok : BlkOk X.N X.env.scope scope own) (ho : ∀ i ∈ T.ixs, i ∈ own.map (·.2)) (hi : PI3 X W tg iter wi)
    (hg : ∀ (s : Shared) (H : Hp) (C : Addr) (cl : List (Str × Addr)) (fp : List Addr), PG (X.blk s H scope (compEnvC scope cl C X.env) fp) tg (T.g X.K))
    (ht : ∀ (s : Shared) (H : Hp) (C : Addr) (cl : List (Str × Addr)) (fp : List Addr), PTs3 (X.blk s H scope (compEnvC scope cl C X.env) fp) noW ifs tt)
    (he : ∀ (s : Shared) (H : Hp) (C : Addr) (cl : List (Str × Addr)) (fp : List Addr), PE3 (X.blk s H scope (compEnvC scope cl C X.env) fp) noW elt te) (hs : ∀ x, foldedSetIterable iter X.env x = pure x := by intro _; rfl) :
    PE3 X W (.ListComp elt [⟨tg, iter, ifs, 0⟩] scope pos) (tLc3 wi T (own.map (·.2)) tt te) := PE.imp (pe_lc (tt := lowT X.K noW tt) (te := lowE X.K noW te) hc hN hi ok hg ht he hs) (lc_low ho)
theorem s_setLc {T : Tgt} {i : Nat} {y : Str} {py spos : Pos} (hc : X.calm = true) (hN : X.N.Nodup) (hy : X.N[i]? = some y) (hyl : X.env.scope.names.lookup y = some .local)
    (hsw : swapsWith (.ListComp elt [⟨tg, iter, ifs, 0⟩] scope pos) (some (.Name y py)) spos.line X.env = pure true) (ok : BlkOk X.N X.env.scope scope own) (ho : ∀ i ∈ T.ixs, i ∈ own.map (·.2)) (hi : PI3 X W tg iter wi)
    (hg : ∀ (s : Shared) (H : Hp) (C : Addr) (cl : List (Str × Addr)) (fp : List Addr), PG (X.blk s H scope (compEnvC scope cl C X.env) fp) tg (T.g X.K))
    (ht : ∀ (s : Shared) (H : Hp) (C : Addr) (cl : List (Str × Addr)) (fp : List Addr), PTs3 (X.blk s H scope (compEnvC scope cl C X.env) fp) noW ifs tt)
    (he : ∀ (s : Shared) (H : Hp) (C : Addr) (cl : List (Str × Addr)) (fp : List Addr), PE3 (X.blk s H scope (compEnvC scope cl C X.env) fp) noW elt te) (hs : ∀ x, foldedSetIterable iter X.env x = pure x := by intro _; rfl) :
    PS3 X W (.Assign [.Name y py] (.ListComp elt [⟨tg, iter, ifs, 0⟩] scope pos) spos) (tAsg3 (tLc3 wi T (own.map (·.2)) tt te) (gName3 i)) :=
  PS.imp (ps_setLc (tt := lowT X.K noW tt) (te := lowE X.K noW te) hc hN hy hyl hsw hi ok hg ht he hs) fun D σ H ⟨σ3, M, D3, rs, m, h, dl⟩ => lc_low ho σ H _ ⟨σ3, M, _, _, rs, m, h, fun x M1 H1 v m1 s1 rv h1 => dl.nx _ M1 _ H1 ((rs.mono s1).set rv i) m1 s1 h1, elink_of dl rs⟩
theorem takes_no {X : Cx} : Takes X noW := takes0

/-! ### any, all of a list of bools -/
def bools : List D → Option (List Bool)
  | [] => some []
  | .bl b :: r => (bools r).map (b :: ·)
  | _ :: _ => none
theorem reps_bools {K : PySem.W.Frag} {N : Hp} : ∀ {xs : List D} {vs : List V} {bs : List Bool}, Reps K N xs vs → bools xs = some bs → vs = bs.map V.bl
  | [], _, _, .nil, h => by simp only [bools, Option.some.injEq] at h; subst h; rfl
  | x :: xs, _, _, .cons r t, h => by
    cases r with
    | @bl b =>
      simp only [bools] at h
      cases q : bools xs with
      | none => rw [q] at h; simp at h
      | some bs =>
        rw [q] at h
        simp only [Option.map_some, Option.some.injEq] at h
        subst h
        rw [reps_bools t q]
        rfl
    | _ => simp [bools] at h
def aAny3 : RA3 := fun xs M Q => ∃ x ys bs, xs = [x] ∧ (x = .lst ys ∨ ∃ a, x = .ref a ∧ M a = some (.lst ys)) ∧ bools ys = some bs ∧ Q (.bl (bs.any id)) M
def aAll3 : RA3 := fun xs M Q => ∃ x ys bs, xs = [x] ∧ (x = .lst ys ∨ ∃ a, x = .ref a ∧ M a = some (.lst ys)) ∧ bools ys = some bs ∧ Q (.bl (bs.all id)) M
theorem rep_lstR {K : PySem.W.Frag} {M : Mem} {H : Hp} {x : D} {v : V} {xs : List D} (m : MRel K M H) (r : Rep K (hid H M) x v) (h : x = .lst xs ∨ ∃ a, x = .ref a ∧ M a = some (.lst xs)) : ∃ a vs, v = .ref a ∧ SqL K H a vs ∧ Reps K (hid H M) xs vs := by
  rcases h with e | ⟨a, e, ea⟩
  · subst e
    cases r with
    | lst hs r => exact ⟨_, _, rfl, sqL_mono hid_same hs, r⟩
  · subst e
    cases r
    obtain ⟨vs, e1, r⟩ := m a _ ea
    exact ⟨a, vs, rfl, SqL.of e1, r⟩
theorem lift_any {K : PySem.W.Frag} : LiftA K aAny3 (rAny K) := fun xs M H vs Q3 Q m rv ⟨x, ys, bs, ex, hx, hb, h⟩ vl => by
  subst ex
  obtain ⟨v, rfl, r⟩ := reps1 rv
  obtain ⟨a, us, rfl, hs, rs⟩ := rep_lstR m r hx
  have e := reps_bools rs hb
  subst e
  exact ⟨a, bs, rfl, hs, vl _ M H _ m (Same.refl _) .bl h⟩
theorem lift_all {K : PySem.W.Frag} : LiftA K aAll3 (rAll K) := fun xs M H vs Q3 Q m rv ⟨x, ys, bs, ex, hx, hb, h⟩ vl => by
  subst ex
  obtain ⟨v, rfl, r⟩ := reps1 rv
  obtain ⟨a, us, rfl, hs, rs⟩ := rep_lstR m r hx
  have e := reps_bools rs hb
  subst e
  exact ⟨a, bs, rfl, hs, vl _ M H _ m (Same.refl _) .bl h⟩
theorem p_any {p : Pos} {t : TA3} (hc : X.calm = true) (hm : X.mg "any" = none) (ha : PA3 X W [e] t) (hg : Gl X "any" := by rfl) (he : starEach [e] X.env = (false, eval e X.env) :: starEach [] X.env := by rfl) (hpl : (backTo pos (starEach [] X.env)).any (·.1) = false := by rfl) :
    PE3 X W (.Call (.Name "any" p) [e] [] pos) (tCB3 aAny3 t) := p_cb (cr_any hc) lift_any hm (by decide +kernel) ha hg (by decide) (by decide) he hpl
theorem p_all {p : Pos} {t : TA3} (hc : X.calm = true) (hm : X.mg "all" = none) (ha : PA3 X W [e] t) (hg : Gl X "all" := by rfl) (he : starEach [e] X.env = (false, eval e X.env) :: starEach [] X.env := by rfl) (hpl : (backTo pos (starEach [] X.env)).any (·.1) = false := by rfl) :
    PE3 X W (.Call (.Name "all" p) [e] [] pos) (tCB3 aAll3 t) := p_cb (cr_all hc) lift_all hm (by decide +kernel) ha hg (by decide) (by decide) he hpl

/-! ### isinstance -/
structure ClsD (K : PySem.W.Frag) (C : Addr) : Prop where
  cl : Cls K C
  ha : PySem.W.findIn K (.ref C) "__class__" = some (some (.builtin "object.__class__"))
  hn : PySem.W.specialIn K (.builtin "object.__class__") "__get__" = some (some (.builtin "getset_descriptor.__get__"))
  ht : PySem.W.takesIn K (.builtin "object.__class__") = some true
  hm : PySem.W.mroIn K C (.type "object") = some true
/-- the class of a value -/
def D.typ : D → Mem → Option Value
  | .non, _ => some (.type "NoneType")
  | .bl _, _ => some (.type "bool")
  | .int _, _ => some (.type "int")
  | .str _, _ => some (.type "str")
  | .tup _, _ => some (.type "tuple")
  | .lst _, _ => some (.type "list")
  | .ins C _, _ => some (.ref C)
  | .ref a, M => match M a with
    | some (.lst _) => some (.type "list")
    | some (.ins C _) => some (.ref C)
    | none => none
  | _, _ => none
theorem tyx_seqT {X : Cx} {pins : List (Addr × Obj)} {σ : L2.St} {H : Hp} {s : Shared} {a : Addr} {xs : List V} (h : SqT X.K H a xs) : TyX X.K H (.ref a) (.type "tuple") := by
  rcases h with (h | ⟨o, h⟩) | ⟨o, its, n, hk, hc, _⟩
  · exact .base (.tup h)
  · exact .fTuple h
  · exact .kTuple hk hc
theorem tyx_seqL {K : PySem.W.Frag} {H : Hp} {a : Addr} {xs : List V} (h : SqL K H a xs) : TyX K H (.ref a) (.type "list") := by
  rcases h with (h | ⟨o, h⟩) | ⟨o, its, n, hk, hc, _⟩
  · exact .base (.lst h)
  · exact .base (.frz h)
  · exact .kList hk hc
theorem tyx_seqT' {K : PySem.W.Frag} {H : Hp} {a : Addr} {xs : List V} (h : SqT K H a xs) : TyX K H (.ref a) (.type "tuple") := by
  rcases h with (h | ⟨o, h⟩) | ⟨o, its, n, hk, hc, _⟩
  · exact .base (.tup h)
  · exact .fTuple h
  · exact .kTuple hk hc
theorem rep_typ {K : PySem.W.Frag} {M : Mem} {H : Hp} {x : D} {v : V} {t : Value} (m : MRel K M H) (r : Rep K (hid H M) x v) (h : x.typ M = some t) (hC : ∀ C, t = .ref C → ClsD K C) : TyX K H v t := by
  cases r with
  | non => simp only [D.typ, Option.some.injEq] at h; subst h; exact .base .non
  | bl => simp only [D.typ, Option.some.injEq] at h; subst h; exact .base (.bl _)
  | int => simp only [D.typ, Option.some.injEq] at h; subst h; exact .base (.int _)
  | str => simp only [D.typ, Option.some.injEq] at h; subst h; exact .base (.str _)
  | tup hs r => simp only [D.typ, Option.some.injEq] at h; subst h; exact tyx_seqT' (sqT_mono hid_same hs)
  | lst hs r => simp only [D.typ, Option.some.injEq] at h; subst h; exact tyx_seqL (sqL_mono hid_same hs)
  | @ins a C dx fs gs e r =>
    simp only [D.typ, Option.some.injEq] at h
    subst h
    obtain ⟨c1, c2, c3, c4, c5⟩ := hC _ rfl
    exact .base (.ins (hid_same _ _ e) c1 c2 c3 c4 c5)
  | @ref a =>
    simp only [D.typ] at h
    cases e : M a with
    | none => rw [e] at h; simp at h
    | some o =>
      rw [e] at h
      cases o with
      | lst xs =>
        simp only [Option.some.injEq] at h
        subst h
        obtain ⟨vs, e1, _⟩ := m a _ e
        exact .base (.lst e1)
      | ins C fs =>
        simp only [Option.some.injEq] at h
        subst h
        obtain ⟨dx, gs, e1, _⟩ := m a _ e
        obtain ⟨c1, c2, c3, c4, c5⟩ := hC _ rfl
        exact .base (.ins e1 c1 c2 c3 c4 c5)
  | _ => simp [D.typ] at h
inductive ClsU : D → Value → Prop
  | ty (n : String) : ClsU (.ty n) (.type n)
  | own (C : Addr) : ClsU (.ref C) (.ref C)
theorem rep_cls {K : PySem.W.Frag} {N : Hp} {c : D} {v : V} {u : Value} (h : ClsU c u) (r : Rep K N c v) : ClsV v u := by
  cases h with
  | ty n => cases r; exact .ty n
  | own C => cases r; exact .own C
inductive ClsUs : List D → List Value → Prop
  | nil : ClsUs [] []
  | cons {c : D} {u : Value} {cs : List D} {us : List Value} : ClsU c u → ClsUs cs us → ClsUs (c :: cs) (u :: us)
theorem reps_cls {K : PySem.W.Frag} {N : Hp} : ∀ {cs : List D} {vs : List V} {us : List Value}, ClsUs cs us → Reps K N cs vs → Paired ClsV vs us
  | _, _, _, .nil, .nil => .nil
  | _, _, _, .cons h t, .cons r q => .cons (rep_cls h r) (reps_cls t q)
def rIsiS (K : PySem.W.Frag) : List V → Hp → VK → Prop := fun xs H Q => ∃ (x : V) (tp : Addr) (cs : List V) (t : Value) (us : List Value) (b : Bool), xs = [x, .ref tp] ∧ SqT K H tp cs ∧ Paired ClsV cs us ∧ TyX K H x t ∧ PySem.W.kitAny K t us = some b ∧ Q (.bl b) H
theorem call_isiS : CallR X (.builtin "isinstance") (rIsiS X.K) := by
  intro pins s σ H xs us Q I r h
  obtain ⟨x, tp, cs, t, ws, b, rfl, hT, k, ty, e, q⟩ := h
  obtain ⟨u1, u2, rfl, r1, r2⟩ := vals2 r
  cases (show u2 = Value.ref tp from r2)
  obtain ⟨P, Z, p, hx⟩ := kit_of I r1 ty
  obtain ⟨its, rv, ⟨o, h1, h2, n, h3⟩, _⟩ := I.tuple hT
  have e3 := ClsV.all k rv
  subst e3
  obtain ⟨oc, od, dt, sl⟩ := o
  simp only at h2 h3
  subst h2 h3
  exact PySem.W.kia_tup Z I.kIn p h1 e hx fun tk => ⟨.bl b, H, I.tok tk, rfl, q⟩
/-- isinstance(x, c), isinstance(x, (c, ..)) -/
def aIsi3 (K : PySem.W.Frag) : RA3 := fun xs M Q => ∃ x c t b, xs = [x, c] ∧ x.typ M = some t ∧ (∀ C, t = .ref C → ClsD K C) ∧ ((∃ u, ClsU c u ∧ PySem.W.kitOne K t u = some b) ∨ ∃ cs us, c = .tup cs ∧ ClsUs cs us ∧ PySem.W.kitAny K t us = some b) ∧ Q (.bl b) M
theorem lift_isi {K : PySem.W.Frag} : LiftA K (aIsi3 K) (fun xs H Q => rIsi K xs H Q ∨ rIsiS K xs H Q) := fun xs M H vs Q3 Q m rv ⟨x, c, t, b, ex, ht, hC, hc, h⟩ vl => by
  subst ex
  obtain ⟨v, u, rfl, r1, r2⟩ := reps2 rv
  have ty := rep_typ m r1 ht hC
  have q := vl _ M H _ m (Same.refl _) (.bl (b := b)) h
  rcases hc with ⟨w, hu, hk⟩ | ⟨cs, us, ec, hu, hk⟩
  · exact .inl ⟨v, u, t, w, b, rfl, rep_cls hu r2, ty, hk, q⟩
  · subst ec
    cases r2 with
    | @tup a _ ws hs r => exact .inr ⟨v, a, ws, t, us, b, rfl, sqT_mono hid_same hs, reps_cls hu r, ty, hk, q⟩
theorem p_isi {a b : Expr} {p : Pos} {t : TA3} (hm : X.mg "isinstance" = none) (ha : PA3 X W [a, b] t) (hg : Gl X "isinstance" := by rfl) (he : starEach [a, b] X.env = (false, eval a X.env) :: starEach [b] X.env := by rfl) (hpl : (backTo pos (starEach [b] X.env)).any (·.1) = false := by rfl) :
    PE3 X W (.Call (.Name "isinstance" p) [a, b] [] pos) (tCB3 (aIsi3 X.K) t) := p_cb (call_isi.or call_isiS) lift_isi hm (by decide +kernel) ha hg (by decide) (by decide) he hpl

/-! ### xs.append(e) -/
def tApp3 (to : TE3) (te : TE3) : TE3 := fun σ M Q E => to σ M (fun o M1 => (∃ p xs, o = .ref p ∧ M1 p = some (.lst xs)) ∧ te σ M1 (fun y M2 => ∃ p xs, o = .ref p ∧ M2 p = some (.lst xs) ∧ xs.length < 1000000 ∧ Q .non (M2.put p (.lst (xs ++ [y])))) E) E
theorem p_app {o : Expr} {to : TE3} {apos : Pos} (ho : PE3 X W o to) (he : PE3 X W e te)
    (hbase : attributeBase o "append" X.env (eval o X.env) = eval o X.env := by rfl)
    (hfew : ((backTo pos (starEach [e] X.env)).all (fun x => !x.1) && (backToKw pos (keywordEach [] X.env)).all (fun x => x.1.isSome)
      && decide ([e].length + ([] : List Keyword).length + (if ([] : List Keyword).isEmpty then 0 else 1) < 30)) = true := by rfl)
    (hline : (apos.endLine == pos.line) = true := by rfl) (hs : starEach [e] X.env = (false, eval e X.env) :: starEach [] X.env := by rfl) (hplain : (backTo pos (starEach [] X.env)).any (·.1) = false := by rfl) :
    PE3 X W (.Call (.Attribute o "append" apos) [e] [] pos) (tApp3 to te) :=
  PE.imp (pe_bm PySem.F.plainAttrs_list PySem.F.slot_list_append PySem.F.type_list_append mt_append ho (a_cons (tr := tNil3) he a_nil hs) hbase hfew hline hs hplain) fun σ H Q ⟨σ3, M, Q3, E3, rs, m, h, vl, el⟩ =>
    ⟨σ3, M, _, E3, rs, m, h, fun o M1 H1 v m1 s1 ro ⟨⟨p, xs, eo, hp⟩, h1⟩ => by
      subst eo
      cases ro
      obtain ⟨vs, e1, _⟩ := m1 p _ hp
      refine ⟨.inl ⟨rfl, _, SqL.of e1⟩, σ3, M1, fun ys M2 => ∃ y, ys = [y] ∧ ∃ p' xs, D.ref p = .ref p' ∧ M2 p' = some (.lst xs) ∧ xs.length < 1000000 ∧ Q3 .non (M2.put p' (.lst (xs ++ [y]))), E3, rs.mono s1, m1, ?_, fun ys M2 H2 us m2 s2 ru ⟨y, ey, p', xs2, ep, hp2, hl, q⟩ => ?_, el.mono s1⟩
      · -- the argument's reading, as a list of one
        show te σ3 M1 (fun x M2 => ∃ y, [x] = [y] ∧ ∃ p' xs, D.ref p = .ref p' ∧ M2 p' = some (.lst xs) ∧ xs.length < 1000000 ∧ Q3 .non (M2.put p' (.lst (xs ++ [y])))) E3
        have eq : (fun (x : D) (M2 : Mem) => ∃ y, [x] = [y] ∧ ∃ p' xs, D.ref p = .ref p' ∧ M2 p' = some (.lst xs) ∧ xs.length < 1000000 ∧ Q3 .non (M2.put p' (.lst (xs ++ [y])))) = fun y M2 => ∃ p' xs, D.ref p = .ref p' ∧ M2 p' = some (.lst xs) ∧ xs.length < 1000000 ∧ Q3 .non (M2.put p' (.lst (xs ++ [y]))) := by
          funext x M2
          refine propext ⟨fun ⟨y, ey, z⟩ => ?_, fun z => ⟨x, rfl, z⟩⟩
          have e : x = y := (List.cons.inj ey).1
          rw [e]
          exact z
        rw [eq]
        exact h1
      · cases ep
        subst ey
        obtain ⟨u, rfl, r⟩ := reps1 ru
        obtain ⟨vs2, e2, rvs⟩ := m2 p _ hp2
        have eh : hid (upd H2 p (.lst (vs2 ++ [u]))) (M2.put p (.lst (xs2 ++ [y]))) = hid H2 M2 := hid_put ⟨_, hp2⟩
        exact ⟨p, vs2, u, rfl, rfl, e2, by rw [← rvs.length]; exact Nat.lt_of_lt_of_le hl (by decide), vl _ _ _ _ (mrel_set m2 hp2 (rvs.snoc r)) (by rw [eh]; exact s1.trans s2) .non q⟩, el⟩
end
end L3

/-! L3Eq: == and != by an own __eq__, both answers; C(k = v, ..); slices of texts, signs in texts. -/
namespace PySem.W
open PySem PySem.Spec PySem.Calls PyProof.Rows
section
variable {prog : Program} {w : World} {A : Around} {E : Value → Shared → Prop} {s : Shared} {K : Frag} {x C f L : Addr} {h₀ : Heap} {m : Str → Option Value} {ox : Obj} {od : Option Obj} {b tb : Value}
/-- a special that a built-in class gives, found in an own class -/
theorem l3_ifBound {M : Model} {T : String} {name : Str} {id : String} {args : List Value} {Q : Option Value → Shared → Prop} (slot : Slot T name id) (X : K.In s.heap) (I : InstAt s.heap x ox C od) (hs : findIn K (.ref C) name = some (some (.builtin id)))
    (h : wpAny M A (call (.builtin id) (.ref x :: args)) (fun v => Q (some v)) E s) : wpAny M A (callSpecialIfBound? (.ref x) name args) Q E s := by
  simp only [callSpecialIfBound?, bindSpecialIfBound?]
  refine wpAny_holding (wpAny_bind (wpAny_bind (wpAny_bind (I.type.here ((looks_findIn X hs).here ?_)))))
  refine wpAny_bind (wpAny_askSetting (wpAny_ite ?_))
  have fin : wpAny M A (call (.builtin id) ([.ref x] ++ args) >>= fun v => pure (some v)) Q E s := wpAny_bind (wpAny_mono h (fun v s' h' => wpAny_pure h') fun _ _ h' => h')
  rw [slot.bind]
  split
  · exact wpAny_bind (wpAny_pure (wpAny_pure (by exact fin)))
  · exact wpAny_tryCatch (wpAny_bind (wpAny_pure (wpAny_pure (by exact fin))))
def L3Bool (Q : Bool → Shared → Prop) (v : Value) (s' : Shared) : Prop := ∃ r, v = .bool r ∧ Q r s'
theorem l3_ne (hu : A.units + 1 < cLine) (Fr' : Fr h₀ L s.heap m) (X₀ : K.In h₀) (I : InstAt s.heap x ox C od) (hb : Looks (model prog w) s.heap (typeOf b) tb) (hn : notFirst K C tb = true)
    (hs : findIn K (.ref C) "__eq__" = some (some (.ref f))) (hf : isFn K (.ref f) = true) (hne : findIn K (.ref C) "__ne__" = some (some (.builtin "object.__ne__"))) (ho : mroIn K C (.type "object") = some true) {Q : Value → Shared → Prop}
    (h : wpAny (model prog w) A.in1 (call (.ref f) [.ref x, b]) (L3Bool fun r s' => Q (.bool (!r)) s') E s) : wpAny (model prog w) A (richCompare .NotEq (.ref x) b) Q E s := by
  have X := X₀.keeps Fr'.keep
  have sub : Looks (model prog w) s.heap (isInstance (.ref x) (.type "object")) true := I.type.andThen (looks_mroIn X ho)
  have body : wpAny (model prog w) A.in1 (Builtin.«object.__ne__» ⟨[.ref x, b], []⟩) (fun fin s' => match fin with
      | .done f => wants (fun v s' => v ≠ .notImplemented ∧ Q v s') E (.ok f) s'
      | .again c' => c'.quiet = true ∧ codeAny (model prog w) A c' (wants (fun v s' => v ≠ .notImplemented ∧ Q v s') E) s') (fun e s' => wants (fun v s' => v ≠ .notImplemented ∧ Q v s') E (.error e) s') s := by
    unfold Builtin.«object.__ne__»
    refine wpAny_bind (wpAny_of_eq (a := ((Value.ref x : Value), [b])) (by first | rfl | (simp only [slotArgs]; rfl)) ?_)
    refine wpAny_bind (wpAny_cRoomFor (show A.in1.units < cLine from hu) ?_)
    refine wpAny_bind (ifBound_K X I hs hf (wpAny_mono h (fun v s' hv => ?_) fun e s' q => q))
    obtain ⟨r, rfl, q⟩ := hv
    refine wpAny_bind (wpAny_truthy_bool (wpAny_pure ?_))
    exact (show Value.bool (!r) ≠ .notImplemented ∧ Q (Value.bool (!r)) s' from ⟨(fun z => nomatch z), q⟩)
  have one : wpAny (model prog w) A (tryCompare (.ref x) "__ne__" b) (fun r s' => ∃ v, r = some v ∧ Q v s') E s := by
    unfold tryCompare
    refine wpAny_bind (l3_ifBound (PySem.F.cmp_object).ne X I hne (wpAny_call (codeAny_call_builtin (PySem.F.cmp_object).ne.plain PySem.F.cmpEntry_ne (check_slot PySem.F.cmpKind_ne PySem.F.cmpSplit_ne sub (PySem.F.cmpArgs_ne _ _) (wpAny_mono body (fun fin s' q => ?_) fun e s' q => q)))))
    · cases fin with
      | done f =>
        cases f with
        | ret v =>
          obtain ⟨hv, q⟩ := q
          show wpAny _ _ _ _ _ _
          cases v with
          | notImplemented => exact absurd rfl hv
          | _ => exact wpAny_pure ⟨_, rfl, q⟩
        | _ => exact q
      | again c =>
        refine ⟨q.1, codeAny_mono q.2 fun r s2 z => ?_⟩
        cases r with
        | error e => exact z
        | ok f =>
          cases f with
          | ret v =>
            obtain ⟨hv, q⟩ := z
            show wpAny _ _ _ _ _ _
            cases v with
            | notImplemented => exact absurd rfl hv
            | _ => exact wpAny_pure ⟨_, rfl, q⟩
          | _ => exact z
  unfold richCompare
  simp only [oneThing_ref]
  refine wpAny_holding (wpAny_bind (wpAny_cRoomFor (by omega) ?_))
  refine wpAny_bind (I.type.here (wpAny_bind (hb.here ?_)))
  split
  · rename_i q
    have e : subIn K tb (.ref C) = some false := by
      rcases Bool.or_eq_true_iff.mp hn with e | e
      · rw [beq_iff_eq.mp e] at q; simp at q
      · exact beq_iff_eq.mp e
    refine wpAny_bind ((looks_subIn X e).here ?_)
    simp only [Bool.false_eq_true, if_false]
    refine wpAny_bind (wpAny_mono one (fun r s' z => ?_) fun _ _ e => e)
    obtain ⟨v, rfl, hq⟩ := z
    exact wpAny_pure hq
  · refine wpAny_bind (wpAny_pure ?_)
    simp only [Bool.false_eq_true, if_false]
    refine wpAny_bind (wpAny_mono one (fun r s' z => ?_) fun _ _ e => e)
    obtain ⟨v, rfl, hq⟩ := z
    exact wpAny_pure hq
end
end PySem.W

namespace L3
open PySem PySem.Spec PyProof.Rows L2
section
variable {X : Cx} {W : WX}
/-- what the kit must hold of a class with an own __eq__ -/
structure EqT (P : Program) (w : World) (K : PySem.W.Frag) (mg : Str → Option Value) (base : Heap) (n : Nat) (C : Addr) (sp : Sp3) : Prop where
  ok : ∃ (f : Addr) (fd : FuncData) (ps : List Str), Ok3 P w K mg base n f fd ps sp ∧ PySem.W.findIn K (.ref C) "__eq__" = some (some (.ref f)) ∧ PySem.W.isFn K (.ref f) = true ∧ Binds K fd ps []
  ne : PySem.W.findIn K (.ref C) "__ne__" = some (some (.builtin "object.__ne__"))
  ob : PySem.W.mroIn K C (.type "object") = some true
/-- x == y (neg: !=), x an instance of a class with an own __eq__ that answers with a bool and raises nothing -/
def own3 (K : PySem.W.Frag) (okC : Addr → Prop) (spE : Addr → Sp3) (neg : Bool) : R23 := fun x y M Q => ∃ C fs t, x = .ins C fs ∧ okC C ∧ y.typ M = some t ∧ (∀ C', t = .ref C' → ClsD K C') ∧ PySem.W.notFirst K C t = true ∧
  spE C [x, y] M (fun v M1 => ∃ b, v = .bl b ∧ Q (.bl (xor b neg)) M1) (fun _ _ _ => False)
def lowR (K : PySem.W.Frag) (r3 : R23) : R2 := fun v u H Q => ∃ x y M Q3, MRel K M H ∧ Rep K (hid H M) x v ∧ Rep K (hid H M) y u ∧ r3 x y M Q3 ∧ VLink K (hid H M) Q3 Q
theorem lift_low {K : PySem.W.Frag} {r3 : R23} : Lift2 K r3 (lowR K r3) := fun x y M H v u Q3 Q m rv ru h vl => ⟨x, y, M, Q3, m, rv, ru, h, vl⟩
theorem run_own {n : Nat} {C : Addr} {sp : Sp3} (T : EqT X.prog X.w X.K X.mg X.base n C sp) {A : Around} (hr : Room n A) (hfr : A.frames = X.A.frames) {pins : List (Addr × Obj)} {σ : L2.St} {H : Hp} {s : Shared} {v u : Value} {y : V} {Q : Value → Shared → Prop} {a : Addr} {f : Addr} {fd : FuncData} {ps : List Str}
    (F : Ok3 X.prog X.w X.K X.mg X.base n f fd ps sp) (hb : Binds X.K fd ps []) (I : Inv X pins σ H s) (rx : RelV (.ref a) v) (ry : RelV y u) {Q' : VK}
    (h : lowSp X.K sp [.ref a, y] H Q' (fun _ _ _ => False)) (hq : ∀ z H' s', Inv X pins σ H' s' → ∀ w', RelV z w' → Q' z H' → Q w' s') : wpAny (model X.prog X.w) A (call (.ref f) [v, u]) Q X.xe s := by
  have e0 : Env0 X.prog X.w X.K X.mg X.base A X.stack s H := by
    have e := I.env0
    exact ⟨by rw [hfr]; exact e.frames, e.mod, e.bs, e.bsz, e.funs, e.frf, e.hok, e.bare⟩
  have hl := F.len _ _ _ _ h
  have r2 : Vals [V.ref a, y] [v, u] := .cons rx (.cons ry .nil)
  refine wpAny_call (codeAny_mono (F.run A X.stack s H ⟨[v, u], []⟩ [v, u] [.ref a, y] _ _ hr e0 (by
    have := hb s [v, u] I.kIn (by simpa using hl)
    simpa using this) r2 h) fun r s' z => ?_)
  cases r with
  | error e =>
    obtain ⟨_, _, _, _, q⟩ := z
    exact False.elim (by simpa using q)
  | ok fl =>
    cases fl with
    | ret w =>
      obtain ⟨z', H', I', rz, q⟩ := I.after z
      exact hq z' H' s' I' w rz q
    | next => exact False.elim z
    | brk => exact False.elim z
    | cont => exact False.elim z
theorem typ_looks {K : PySem.W.Frag} {pins : List (Addr × Obj)} {σ : L2.St} {H : Hp} {s : Shared} {M : Mem} {y : D} {u : V} {v : Value} {t : Value} (hK : X.K = K) (I : Inv X pins σ H s) (m : MRel K M H) (r : Rep K (hid H M) y u) (rv : RelV u v) (h : y.typ M = some t) (hC : ∀ C, t = .ref C → ClsD K C) :
    PySem.W.Looks (model X.prog X.w) s.heap (typeOf v) t := by
  subst hK
  obtain ⟨P, Z, p, _⟩ := kit_of I rv (rep_typ m r h hC)
  exact Z.ty _ _ I.kIn p
theorem own_start {n : Nat} {okC : Addr → Prop} {spE : Addr → Sp3} {neg : Bool} {M : Mem} {H : Hp} {x y : D} {v u : V} {Q3 : VK3} {Q : VK} (m : MRel X.K M H) (rv : Rep X.K (hid H M) x v) (ru : Rep X.K (hid H M) y u) (vl : VLink X.K (hid H M) Q3 Q)
    (h : own3 X.K okC spE neg x y M Q3) : ∃ a C dx gs t, v = .ref a ∧ H a = some (.ins C dx gs) ∧ okC C ∧ y.typ M = some t ∧ (∀ C', t = .ref C' → ClsD X.K C') ∧ PySem.W.notFirst X.K C t = true ∧
      lowSp X.K (spE C) [.ref a, u] H (fun z H' => ∃ b, z = .bl b ∧ Q (.bl (xor b neg)) H') (fun _ _ _ => False) := by
  obtain ⟨C, fs, t, ex, hk, ht, hC, hn, hs⟩ := h
  subst ex
  cases rv with
  | @ins a _ dx _ gs e r =>
    refine ⟨a, C, dx, gs, t, rfl, hid_same _ _ e, hk, ht, hC, hn, ⟨_, M, _, _, m, .cons (.ins e r) (.cons ru .nil), hs, fun z M1 H1 w m1 s1 rw' ⟨b, ez, q⟩ => ?_, fun _ _ _ _ _ _ _ _ z => z⟩⟩
    subst ez
    cases rw'
    exact ⟨b, rfl, vl _ M1 H1 _ m1 s1 .bl q⟩
theorem op_ownEq {n : Nat} {okC : Addr → Prop} {spE : Addr → Sp3} (hT : ∀ C, okC C → EqT X.prog X.w X.K X.mg X.base n C (spE C)) (hr : Room n X.A) : OpR X (compareOp .Eq) (lowR X.K (own3 X.K okC spE false)) := by
  intro pins s σ H x y v u Q I rx ry ⟨dx, dy, M, Q3, m, r1, r2, h, vl⟩
  obtain ⟨a, C, dd, gs, t, ev, ea, hk, ht, hC, hn, hs⟩ := own_start (n := n) m r1 r2 vl h
  subst ev
  have lk := typ_looks rfl I m r2 ry ht hC
  obtain ⟨f, fd, ps, F, he, hf, hb⟩ := (hT C hk).ok
  cases rx
  obtain ⟨mA, J, _⟩ := ins_get I.hok ea
  obtain ⟨od, J, _⟩ := J.look
  obtain ⟨mm, hF⟩ := I.fr
  show wpAny (model X.prog X.w) X.A (richCompare .Eq _ u) (EP X pins σ Q) X.xe s
  refine PySem.W.cmp_K (op := .Eq) (tb := t) hr.units0 hF I.ok.mod.kin J lk hn he hf ?_
  refine run_own (hT C hk) hr rfl F hb I rfl ry hs fun z H' s' I' w' rz ⟨b, ez, q⟩ => ?_
  subst ez
  cases rz
  rw [Bool.xor_false] at q
  exact ⟨.bl b, H', I', rfl, q⟩
theorem op_ownNe {n : Nat} {okC : Addr → Prop} {spE : Addr → Sp3} (hT : ∀ C, okC C → EqT X.prog X.w X.K X.mg X.base n C (spE C)) (hr : Room (n + 1) X.A) : OpR X (compareOp .NotEq) (lowR X.K (own3 X.K okC spE true)) := by
  intro pins s σ H x y v u Q I rx ry ⟨dx, dy, M, Q3, m, r1, r2, h, vl⟩
  obtain ⟨a, C, dd, gs, t, ev, ea, hk, ht, hC, hn, hs⟩ := own_start (n := n) m r1 r2 vl h
  subst ev
  have lk := typ_looks rfl I m r2 ry ht hC
  obtain ⟨f, fd, ps, F, he, hf, hb⟩ := (hT C hk).ok
  cases rx
  obtain ⟨mA, J, _⟩ := ins_get I.hok ea
  obtain ⟨od, J, _⟩ := J.look
  obtain ⟨mm, hF⟩ := I.fr
  show wpAny (model X.prog X.w) X.A (richCompare .NotEq _ u) (EP X pins σ Q) X.xe s
  refine PySem.W.l3_ne (tb := t) (by have := hr.un; omega) hF I.ok.mod.kin J lk hn he hf (hT C hk).ne (hT C hk).ob ?_
  refine run_own (hT C hk) hr.in1 rfl F hb I rfl ry hs fun z H' s' I' w' rz ⟨b, ez, q⟩ => ?_
  subst ez
  cases rz
  rw [Bool.xor_true] at q
  exact ⟨b, rfl, ⟨.bl (!b), H', I', rfl, q⟩⟩
variable {a b : Expr} {ta tb : TE3} {pos : Pos}
theorem p_ownEq {n : Nat} {okC : Addr → Prop} {spE : Addr → Sp3} (hT : ∀ C, okC C → EqT X.prog X.w X.K X.mg X.base n C (spE C)) (hr : Room n X.A) (hm : behindInMarks .Eq b = false) (ha : PE3 X W a ta) (hb : PE3 X W b tb) : PE3 X W (.Compare a [.Eq] [b] pos) (tOp3 (own3 X.K okC spE false) ta tb) := p_cmp (op_ownEq hT hr) lift_low hm ha hb
theorem p_ownNe {n : Nat} {okC : Addr → Prop} {spE : Addr → Sp3} (hT : ∀ C, okC C → EqT X.prog X.w X.K X.mg X.base n C (spE C)) (hr : Room (n + 1) X.A) (hm : behindInMarks .NotEq b = false) (ha : PE3 X W a ta) (hb : PE3 X W b tb) : PE3 X W (.Compare a [.NotEq] [b] pos) (tOp3 (own3 X.K okC spE true) ta tb) := p_cmp (op_ownNe hT hr) lift_low hm ha hb
end
end L3

/-! L3More: comparisons by name, in and not in, slices of texts, C(k = v, ..). -/
namespace L3
open PySem PySem.Spec PyProof.Rows L2
section
variable {X : Cx} {W : WX} {a b c e : Expr} {ta tb tc te : TE3} {pos : Pos}
def ltD : R23 := opI3 fun i j => .bl (decide (i < j))
def leD : R23 := opI3 fun i j => .bl (decide (i ≤ j))
def gtD : R23 := opI3 fun i j => .bl (decide (j < i))
def geD : R23 := opI3 fun i j => .bl (decide (j ≤ i))
theorem p_ltI (ha : PE3 X W a ta) (hb : PE3 X W b tb) (hm : behindInMarks .Lt b = false := by rfl) : PE3 X W (.Compare a [.Lt] [b] pos) (tOp3 ltD ta tb) := p_cmp op_lt lift_cmpI hm ha hb
theorem p_leI (ha : PE3 X W a ta) (hb : PE3 X W b tb) (hm : behindInMarks .LtE b = false := by rfl) : PE3 X W (.Compare a [.LtE] [b] pos) (tOp3 leD ta tb) := p_cmp op_le lift_cmpI hm ha hb
theorem p_gtI (ha : PE3 X W a ta) (hb : PE3 X W b tb) (hm : behindInMarks .Gt b = false := by rfl) : PE3 X W (.Compare a [.Gt] [b] pos) (tOp3 gtD ta tb) := p_cmp op_gt lift_cmpI hm ha hb
theorem p_geI (ha : PE3 X W a ta) (hb : PE3 X W b tb) (hm : behindInMarks .GtE b = false := by rfl) : PE3 X W (.Compare a [.GtE] [b] pos) (tOp3 geD ta tb) := p_cmp op_ge lift_cmpI hm ha hb
theorem p_leLe (ha : PE3 X W a ta) (hb : PE3 X W b tb) (hc : PE3 X W c tc) (hm : lastMarks [.LtE, .LtE] [b, c] = false := by with_unfolding_all rfl) : PE3 X W (.Compare a [.LtE, .LtE] [b, c] pos) (tChain3 leD leD ta tb tc) := p_chain op_le lift_cmpI op_le lift_cmpI ha hb hc hm
theorem p_leLt (ha : PE3 X W a ta) (hb : PE3 X W b tb) (hc : PE3 X W c tc) (hm : lastMarks [.LtE, .Lt] [b, c] = false := by with_unfolding_all rfl) : PE3 X W (.Compare a [.LtE, .Lt] [b, c] pos) (tChain3 leD ltD ta tb tc) := p_chain op_le lift_cmpI op_lt lift_cmpI ha hb hc hm
theorem p_ltLe (ha : PE3 X W a ta) (hb : PE3 X W b tb) (hc : PE3 X W c tc) (hm : lastMarks [.Lt, .LtE] [b, c] = false := by with_unfolding_all rfl) : PE3 X W (.Compare a [.Lt, .LtE] [b, c] pos) (tChain3 ltD leD ta tb tc) := p_chain op_lt lift_cmpI op_le lift_cmpI ha hb hc hm
theorem p_ltLt (ha : PE3 X W a ta) (hb : PE3 X W b tb) (hc : PE3 X W c tc) (hm : lastMarks [.Lt, .Lt] [b, c] = false := by with_unfolding_all rfl) : PE3 X W (.Compare a [.Lt, .Lt] [b, c] pos) (tChain3 ltD ltD ta tb tc) := p_chain op_lt lift_cmpI op_lt lift_cmpI ha hb hc hm
theorem room_eq {k : Nat} {A : Around} (r : Room k A) : A.units + 64 < cLine := by have := r.un; omega
theorem room_in {k : Nat} {A : Around} (r : Room k A) : A.units + 65 < cLine := by have := r.un; omega
theorem p_eqD {k : Nat} (hr : Room k X.A) (ha : PE3 X W a ta) (hb : PE3 X W b tb) (hm : behindInMarks .Eq b = false := by rfl) : PE3 X W (.Compare a [.Eq] [b] pos) (tOp3 opEqD3 ta tb) := p_cmp (op_eqD (room_eq hr)) lift_eqD hm ha hb
theorem p_neD {k : Nat} (hr : Room k X.A) (ha : PE3 X W a ta) (hb : PE3 X W b tb) (hm : behindInMarks .NotEq b = false := by rfl) : PE3 X W (.Compare a [.NotEq] [b] pos) (tOp3 opNeD3 ta tb) := p_cmp (op_neD (room_eq hr)) lift_neD hm ha hb
theorem p_isN (ha : PE3 X W a ta) (hb : PE3 X W b tb) (hm : behindInMarks .Is b = false := by rfl) : PE3 X W (.Compare a [.Is] [b] pos) (tOp3 opIsN3 ta tb) := p_cmp op_isN lift_isN hm ha hb
theorem p_notN (ha : PE3 X W a ta) (hb : PE3 X W b tb) (hm : behindInMarks .IsNot b = false := by rfl) : PE3 X W (.Compare a [.IsNot] [b] pos) (tOp3 opNotN3 ta tb) := p_cmp op_notN lift_notN hm ha hb

/-! ### in, not in: a list or a tuple of data; one sign in a text -/
def rInDT (K : PySem.W.Frag) (neg : Bool) : R2 := fun x y H Q => ∃ d ds, Dp K H x d ∧ (Dp K H y (.list ds) ∨ Dp K H y (.tuple ds)) ∧ SeqAt.shaped d = true ∧ SeqAt.shaped (.list ds) = true ∧ SeqAt.shaped (.tuple ds) = true ∧ Q (.bl (xor neg (ds.any fun z => PyData.eqv z d))) H
theorem op_inDT (hu : X.A.units + 65 < cLine) : OpR X (compareOp .In) (rInDT X.K false) := by
  intro pins s σ H x y v u Q I rx ry h
  obtain ⟨d, ds, hd, he, sd, se, st, q⟩ := h
  rw [Bool.false_xor] at q
  obtain ⟨as, r1⟩ := Dp.reads I d x v hd rx
  rcases he with he | he
  · obtain ⟨bs, r2⟩ := Dp.reads I (.list ds) y u he ry
    exact SeqAt.in_list_reads r2 r1 (SeqAt.canLay_of_shaped se) (SeqAt.canLay_of_shaped sd) (room_in_shaped sd hu) ⟨.bl _, H, I, rfl, q⟩
  · obtain ⟨bs, r2⟩ := Dp.reads I (.tuple ds) y u he ry
    exact SeqAt.in_tuple_reads r2 r1 (SeqAt.canLay_of_shaped st) (SeqAt.canLay_of_shaped sd) (room_in_shaped sd hu) ⟨.bl _, H, I, rfl, q⟩
theorem op_notInDT (hu : X.A.units + 65 < cLine) : OpR X (compareOp .NotIn) (rInDT X.K true) := by
  intro pins s σ H x y v u Q I rx ry h
  obtain ⟨d, ds, hd, he, sd, se, st, q⟩ := h
  rw [Bool.true_xor] at q
  obtain ⟨as, r1⟩ := Dp.reads I d x v hd rx
  rcases he with he | he
  · obtain ⟨bs, r2⟩ := Dp.reads I (.list ds) y u he ry
    exact SeqAt.notIn_list_reads r2 r1 (SeqAt.canLay_of_shaped se) (SeqAt.canLay_of_shaped sd) (room_in_shaped sd hu) ⟨.bl _, H, I, rfl, q⟩
  · obtain ⟨bs, r2⟩ := Dp.reads I (.tuple ds) y u he ry
    exact SeqAt.notIn_tuple_reads r2 r1 (SeqAt.canLay_of_shaped st) (SeqAt.canLay_of_shaped sd) (room_in_shaped sd hu) ⟨.bl _, H, I, rfl, q⟩
def inD3 (neg : Bool) : R23 := fun x y M Q => (∃ xs d ds, (y = .lst xs ∨ y = .tup xs) ∧ x.py = some d ∧ D.pys xs = some ds ∧ SeqAt.shaped d = true ∧ SeqAt.shaped (.list ds) = true ∧ SeqAt.shaped (.tuple ds) = true ∧ Q (.bl (xor neg (ds.any fun z => PyData.eqv z d))) M) ∨
  ∃ c z, x = .str ⟨#[c]⟩ ∧ y = .str z ∧ Q (.bl (xor neg (decide (c ∈ z.cps.toList)))) M
theorem lift_inD {K : PySem.W.Frag} {neg : Bool} : Lift2 K (inD3 neg) (fun x y H Q => rInDT K neg x y H Q ∨ ∃ (c : Nat) (z : Str), x = .str ⟨#[c]⟩ ∧ y = .str z ∧ Q (.bl (xor neg (decide (c ∈ z.cps.toList)))) H) := fun x y M H v u Q3 Q m rv ru h vl => by
  rcases h with ⟨xs, d, ds, hy, hx, hs, sd, sl, st, h⟩ | ⟨c, z, ex, ey, h⟩
  · refine .inl ⟨d, ds, rv.dp hid_same hx, ?_, sd, sl, st, vl _ M H _ m (Same.refl _) .bl h⟩
    rcases hy with ey | ey
    · exact .inl (ru.dp hid_same (by rw [ey]; simp [D.py, hs]))
    · exact .inr (ru.dp hid_same (by rw [ey]; simp [D.py, hs]))
  · subst ex ey
    cases rv
    cases ru
    exact .inr ⟨c, z, rfl, rfl, vl _ M H _ m (Same.refl _) .bl h⟩
theorem p_inD {k : Nat} (hr : Room k X.A) (ha : PE3 X W a ta) (hb : PE3 X W b tb) (hm : behindInMarks .In b = false := by rfl) : PE3 X W (.Compare a [.In] [b] pos) (tOp3 (inD3 false) ta tb) :=
  p_cmp (OpR.either (op_inDT (room_in hr)) fun pins s σ H x y v u Q I rx ry ⟨c, z, h1, h2, q⟩ => op_in_sign pins s σ H x y v u Q I rx ry ⟨c, z, h1, h2, by rw [Bool.false_xor] at q; exact q⟩) lift_inD hm ha hb
theorem p_notInD {k : Nat} (hr : Room k X.A) (ha : PE3 X W a ta) (hb : PE3 X W b tb) (hm : behindInMarks .NotIn b = false := by rfl) : PE3 X W (.Compare a [.NotIn] [b] pos) (tOp3 (inD3 true) ta tb) :=
  p_cmp (OpR.either (op_notInDT (room_in hr)) fun pins s σ H x y v u Q I rx ry ⟨c, z, h1, h2, q⟩ => op_notIn_sign pins s σ H x y v u Q I rx ry ⟨c, z, h1, h2, by rw [Bool.true_xor] at q; exact q⟩) lift_inD hm ha hb

/-! ### a slice of a text, a tuple (also the whole), a list -/
theorem sl_txt3 : SlR X fun x lo hi H Q => ∃ z, x = .str z ∧ z.length ≤ sizeLine ∧ Q (.str (Txt.slice z lo hi)) H := C8.sl_txt
def slS : RS3 := fun x lo hi M Q => ∃ z, x = .str z ∧ z.length ≤ 1000000 ∧ Q (.str (Txt.slice z lo hi)) M
theorem lift_slS {K : PySem.W.Frag} : LiftS K slS (fun x lo hi H Q => ∃ z, x = .str z ∧ z.length ≤ sizeLine ∧ Q (.str (Txt.slice z lo hi)) H) := fun x lo hi M H v Q3 Q m rv ⟨z, ex, hl, h⟩ vl => by
  subst ex
  cases rv
  exact ⟨z, rfl, sz1 hl rfl, vl _ M H _ m (Same.refl _) .str h⟩
theorem SlR.either {r r' : V → Option Int → Option Int → Hp → VK → Prop} (h : SlR X r) (h' : SlR X r') : SlR X fun x lo hi H Q => r x lo hi H Q ∨ r' x lo hi H Q := fun pins s σ H x v vl vu lo hi sl Q I rx hs pl pu q =>
  q.elim (h pins s σ H x v vl vu lo hi sl Q I rx hs pl pu) (h' pins s σ H x v vl vu lo hi sl Q I rx hs pl pu)
def slX : RS3 := fun x lo hi M Q => slS x lo hi M Q ∨ slL3 x lo hi M Q
theorem p_sl {lo hi : Option Expr} {tl th : TO3} {p2 : Pos} (he : PE3 X W e te) (hl : PO3 X W lo tl) (hu : PO3 X W hi th) : PE3 X W (.Subscript e (.Slice lo hi none p2) pos) (tSl3 slX te tl th) :=
  p_slice (SlR.either sl_txt3 sl_list) (fun x lo hi M H v Q3 Q m rv q vl => q.elim (fun q => .inl (lift_slS x lo hi M H v Q3 Q m rv q vl)) fun q => .inr (lift_slL x lo hi M H v Q3 Q m rv q vl)) he hl hu

/-! ### C(k = v, ..), all parameters by keywords from the last to the first -/
def PK3 (X : Cx) (W : WX) (kws : List Keyword) (t : TA3) : Prop := PK X kws (lowA X.K W t)
theorem PK.imp {kws : List Keyword} {t t' : TA} (h : PK X kws t) (i : ∀ σ H Q, t' σ H Q → t σ H Q) : PK X kws t' := ⟨fun pos pins s σ H Q I z => h.run pos pins s σ H Q I (i σ H Q z)⟩
theorem k_nil : PK3 X W [] tNil3 := PK.imp pk_nil fun σ H Q ⟨σ3, M, Q3, E3, rs, m, h, al, el⟩ => al [] M H [] m (Same.refl _) .nil h
theorem k_cons {kws : List Keyword} {nm : Option Str} {kpos : Pos} {tr : TA3} (h : PE3 X W a ta) (hr : PK3 X W kws tr) : PK3 X W (⟨nm, a, kpos⟩ :: kws) (tCons3 ta tr) := PK.imp (pk_cons h hr) cons_low
/-- __init__ with keywords named ks, from the last parameter to the first -/
def KRev (K : PySem.W.Frag) (fd : FuncData) (ps ks : List Str) : Prop := ∀ (s : Shared) (a : Value) (ws : List Value), K.In s.heap → ws.length = ks.length → BindsTo s fd ⟨[a], ks.zip ws⟩ (ps.zip (a :: ws.reverse))
theorem vals_rev {vs : List V} {us : List Value} (r : Vals vs us) : Vals vs.reverse us.reverse := by
  induction r with
  | nil => exact .nil
  | cons q t ih =>
    rw [List.reverse_cons, List.reverse_cons]
    exact ih.append (.cons q .nil)
variable {k : Nat} {f C : Addr} {fd : FuncData} {ps ks : List Str} {sp : Sp} {sp3 : Sp3} {x : Str} {p : Pos} {kws : List Keyword} {t : TA} {t3 : TA3}
def tMakeR (C : Addr) (m : Nat) (sp : Sp) (E : L2.St → XK) (tk : TA) : TE := fun σ H Q => tk σ H fun zs H2 => zs.length = m ∧ ∀ x dx, H2 x = none → H2 dx = none → dx ≠ x →
  sp (.ref x :: zs.reverse) (upd (upd H2 dx (.own x)) x (.ins C dx [])) (fun v H3 => v = .non ∧ Q (.ref x) H3) (E σ)
theorem pe_makeR {E : L2.St → XK} (M : Mk X.K C f) (F : FnOk X.prog X.w X.K X.mg X.base (L2.CX X.prog X.w) k f fd ps sp) (hr : Room (k + 1) X.A) (hg : Gl X x) (hm : X.mg x = some (.ref C)) (hb : KRev X.K fd ps ks) (hx : ∀ σ, PassesAt (L2.CX X.prog X.w) X σ (E σ)) (hkw : PK X kws t)
    (hall : (backToKw pos (keywordEach kws X.env)).all (·.1.isSome) = true := by rfl) (hks : (backToKw pos (keywordEach kws X.env)).filterMap (·.1) = ks := by rfl) (hdb : (x == ("__debug__" : Str)) = false := by decide)
    (hpl : ((backTo pos (starEach [] X.env)).any (·.1) || (backToKw pos (keywordEach kws X.env)).any (·.1.isNone)) = false := by rfl) :
    PE X (.Call (.Name x p) [] kws pos) (tMakeR C ks.length sp E t) := by
  refine ⟨fun pins s σ H Q I h => ?_⟩
  refine wpAny_Call_Name_kw (ld_glob I hg hm ?_ hdb)
  refine PySem.W.callWith_KW0 (h₀ := X.base) I.ok.mod.kin M.kp hall ?_ hpl
  refine thn (hkw.run pos pins s σ H _ I h) fun ws s2 ⟨zs, H2, I2, rz, l2, q2⟩ => ⟨I2.kIn, ?_⟩
  rw [hks]
  show wpAny (model X.prog X.w) X.A (call (.ref C) [] (ks.zip ws)) _ _ _
  have hq := q2 (s2.heap.objs.size + 1) s2.heap.objs.size (I2.hok.fresh (Nat.le_succ _)) (I2.hok.fresh (Nat.le_refl _)) (Nat.ne_of_lt (Nat.lt_succ_self _))
  have I3 := Inv.made (C := C) I2
  have r2 : Vals (V.ref (s2.heap.objs.size + 1) :: zs.reverse) (Value.ref (s2.heap.objs.size + 1) :: ws.reverse) := .cons rfl (vals_rev rz)
  refine wpAny_call (make_map (f := f) I2.kIn M.makes M.init (beq_iff_eq.mp M.fn) (codeAny_mono (F.run _ X.stack _ _ ⟨Value.ref (s2.heap.objs.size + 1) :: [], ks.zip ws⟩ (Value.ref (s2.heap.objs.size + 1) :: ws.reverse) _ _ _ (hr.make C [] (ks.zip ws))
    (I3.env0.make C [] (ks.zip ws)) (hb _ (Value.ref (s2.heap.objs.size + 1)) ws I3.kIn (rz.length.symm.trans l2)) r2 hq) fun r s' hq' => ?_))
  cases r with
  | error e => exact hx σ pins _ _ e s' I3 hq'
  | ok fl =>
    cases fl with
    | ret u =>
      obtain ⟨v, H', I4, rv, ev, q3⟩ := I3.after hq'
      subst ev
      exact ⟨rv, ⟨V.ref (s2.heap.objs.size + 1), H', I4, rfl, q3⟩⟩
    | next => exact False.elim hq'
    | brk => exact False.elim hq'
    | cont => exact False.elim hq'
/-- .. by data -/
def tMakeR3 (C : Addr) (m : Nat) (sp : Sp3) (t : TA3) : TE3 := fun σ M Q E => t σ M (fun zs M1 => zs.length = m ∧ spMake C sp zs.reverse M1 Q E) E
theorem makeR_low {K : PySem.W.Frag} {m : Nat} : ∀ σ H Q, lowE K W (tMakeR3 C m sp3 t3) σ H Q → tMakeR C m (lowSp K sp3) (WE W) (lowA K W t3) σ H Q := fun σ H Q ⟨σ3, M, Q3, E3, rs, mm, h, vl, el⟩ =>
  ⟨σ3, M, _, E3, rs, mm, h, fun xs M1 H1 vs m1 s1 rv ⟨hl, h1⟩ => ⟨by rw [← rv.length]; exact hl, fun x dx nx ndx ne => by
    obtain ⟨m2, s2⟩ := make_start (C := C) m1 nx ndx ne
    refine ⟨.ref x :: xs.reverse, _, _, _, m2, .cons .ref (rv.reverse.mono s2), h1 x (m1.free nx), fun v M3 H3 u m3 s3 ru ⟨ev, fs, hf, q⟩ => ?_, fun c fs M3 H3 d m3 s3 xf q => ?_⟩
    · subst ev
      cases ru
      refine ⟨rfl, vl _ (M3.del x) H3 _ (drop_mrel m3 Drop.del) (((s1.trans s2).trans s3).trans (drop_same Drop.del)) (make_end m3 hf) q⟩
    · exact el c fs (M3.del x) H3 d (drop_mrel m3 Drop.del) (((s1.trans s2).trans s3).trans (drop_same Drop.del)) (xf.mono (drop_same Drop.del)) q⟩, el⟩
theorem p_makeR (Mk' : Mk X.K C f) (F : Ok3 X.prog X.w X.K X.mg X.base k f fd ps sp3) (hr : Room (k + 1) X.A) (hm : X.mg x = some (.ref C)) (hb : KRev X.K fd ps ks) (tk : Takes X W) (hkw : PK3 X W kws t3)
    (hg : Gl X x := by rfl) (hall : (backToKw pos (keywordEach kws X.env)).all (·.1.isSome) = true := by rfl) (hks : (backToKw pos (keywordEach kws X.env)).filterMap (·.1) = ks := by rfl) (hdb : (x == ("__debug__" : Str)) = false := by decide)
    (hpl : ((backTo pos (starEach [] X.env)).any (·.1) || (backToKw pos (keywordEach kws X.env)).any (·.1.isNone)) = false := by rfl) :
    PE3 X W (.Call (.Name x p) [] kws pos) (tMakeR3 C ks.length sp3 t3) := PE.imp (pe_makeR (E := WE W) Mk' F hr hg hm hb (fun σ => passAt tk σ) hkw hall hks hdb hpl) makeR_low
end
end L3

/-! L3Rd: the readings, step by step; promises as functions of data; comparisons as tests; a suite for one class. -/
namespace L3
open PySem PySem.Spec PyProof.Rows L2
section
variable {X : Cx} {W : WX} {a b c e : Expr} {ta tb tc te : TE3} {pos : Pos}
/-! ### tests by comparison -/
theorem t_ltI (ha : PE3 X W a ta) (hb : PE3 X W b tb) (hm : behindInMarks .Lt b = false := by rfl) : PT3 X W (.Compare a [.Lt] [b] pos) (tTest3 (tOp3 ltD ta tb)) := t_cmp op_lt lift_cmpI hm ha hb
theorem t_leI (ha : PE3 X W a ta) (hb : PE3 X W b tb) (hm : behindInMarks .LtE b = false := by rfl) : PT3 X W (.Compare a [.LtE] [b] pos) (tTest3 (tOp3 leD ta tb)) := t_cmp op_le lift_cmpI hm ha hb
theorem t_gtI (ha : PE3 X W a ta) (hb : PE3 X W b tb) (hm : behindInMarks .Gt b = false := by rfl) : PT3 X W (.Compare a [.Gt] [b] pos) (tTest3 (tOp3 gtD ta tb)) := t_cmp op_gt lift_cmpI hm ha hb
theorem t_geI (ha : PE3 X W a ta) (hb : PE3 X W b tb) (hm : behindInMarks .GtE b = false := by rfl) : PT3 X W (.Compare a [.GtE] [b] pos) (tTest3 (tOp3 geD ta tb)) := t_cmp op_ge lift_cmpI hm ha hb
theorem t_leLe (ha : PE3 X W a ta) (hb : PE3 X W b tb) (hc : PE3 X W c tc) (hm : lastMarks [.LtE, .LtE] [b, c] = false := by with_unfolding_all rfl) : PT3 X W (.Compare a [.LtE, .LtE] [b, c] pos) (tTest3 (tChain3 leD leD ta tb tc)) := t_chain op_le lift_cmpI op_le lift_cmpI ha hb hc hm
theorem t_leLt (ha : PE3 X W a ta) (hb : PE3 X W b tb) (hc : PE3 X W c tc) (hm : lastMarks [.LtE, .Lt] [b, c] = false := by with_unfolding_all rfl) : PT3 X W (.Compare a [.LtE, .Lt] [b, c] pos) (tTest3 (tChain3 leD ltD ta tb tc)) := t_chain op_le lift_cmpI op_lt lift_cmpI ha hb hc hm
theorem t_ltLe (ha : PE3 X W a ta) (hb : PE3 X W b tb) (hc : PE3 X W c tc) (hm : lastMarks [.Lt, .LtE] [b, c] = false := by with_unfolding_all rfl) : PT3 X W (.Compare a [.Lt, .LtE] [b, c] pos) (tTest3 (tChain3 ltD leD ta tb tc)) := t_chain op_lt lift_cmpI op_le lift_cmpI ha hb hc hm
theorem t_ltLt (ha : PE3 X W a ta) (hb : PE3 X W b tb) (hc : PE3 X W c tc) (hm : lastMarks [.Lt, .Lt] [b, c] = false := by with_unfolding_all rfl) : PT3 X W (.Compare a [.Lt, .Lt] [b, c] pos) (tTest3 (tChain3 ltD ltD ta tb tc)) := t_chain op_lt lift_cmpI op_lt lift_cmpI ha hb hc hm
theorem t_eqD {k : Nat} (hr : Room k X.A) (ha : PE3 X W a ta) (hb : PE3 X W b tb) (hm : behindInMarks .Eq b = false := by rfl) : PT3 X W (.Compare a [.Eq] [b] pos) (tTest3 (tOp3 opEqD3 ta tb)) := t_cmp (op_eqD (room_eq hr)) lift_eqD hm ha hb
theorem t_neD {k : Nat} (hr : Room k X.A) (ha : PE3 X W a ta) (hb : PE3 X W b tb) (hm : behindInMarks .NotEq b = false := by rfl) : PT3 X W (.Compare a [.NotEq] [b] pos) (tTest3 (tOp3 opNeD3 ta tb)) := t_cmp (op_neD (room_eq hr)) lift_neD hm ha hb
theorem t_isN (ha : PE3 X W a ta) (hb : PE3 X W b tb) (hm : behindInMarks .Is b = false := by rfl) : PT3 X W (.Compare a [.Is] [b] pos) (tTest3 (tOp3 opIsN3 ta tb)) := t_cmp op_isN lift_isN hm ha hb
theorem t_notN (ha : PE3 X W a ta) (hb : PE3 X W b tb) (hm : behindInMarks .IsNot b = false := by rfl) : PT3 X W (.Compare a [.IsNot] [b] pos) (tTest3 (tOp3 opNotN3 ta tb)) := t_cmp op_notN lift_notN hm ha hb
theorem t_inD {k : Nat} (hr : Room k X.A) (ha : PE3 X W a ta) (hb : PE3 X W b tb) (hm : behindInMarks .In b = false := by rfl) : PT3 X W (.Compare a [.In] [b] pos) (tTest3 (tOp3 (inD3 false) ta tb)) :=
  t_cmp (OpR.either (op_inDT (room_in hr)) fun pins s σ H x y v u Q I rx ry ⟨c, z, h1, h2, q⟩ => op_in_sign pins s σ H x y v u Q I rx ry ⟨c, z, h1, h2, by rw [Bool.false_xor] at q; exact q⟩) lift_inD hm ha hb
theorem t_notInD {k : Nat} (hr : Room k X.A) (ha : PE3 X W a ta) (hb : PE3 X W b tb) (hm : behindInMarks .NotIn b = false := by rfl) : PT3 X W (.Compare a [.NotIn] [b] pos) (tTest3 (tOp3 (inD3 true) ta tb)) :=
  t_cmp (OpR.either (op_notInDT (room_in hr)) fun pins s σ H x y v u Q I rx ry ⟨c, z, h1, h2, q⟩ => op_notIn_sign pins s σ H x y v u Q I rx ry ⟨c, z, h1, h2, by rw [Bool.true_xor] at q; exact q⟩) lift_inD hm ha hb
theorem t_ownEq {n : Nat} {okC : Addr → Prop} {spE : Addr → Sp3} (hT : ∀ C, okC C → EqT X.prog X.w X.K X.mg X.base n C (spE C)) (hr : Room n X.A) (ha : PE3 X W a ta) (hb : PE3 X W b tb) (hm : behindInMarks .Eq b = false := by rfl) : PT3 X W (.Compare a [.Eq] [b] pos) (tTest3 (tOp3 (own3 X.K okC spE false) ta tb)) := t_cmp (op_ownEq hT hr) lift_low hm ha hb
theorem t_ownNe {n : Nat} {okC : Addr → Prop} {spE : Addr → Sp3} (hT : ∀ C, okC C → EqT X.prog X.w X.K X.mg X.base n C (spE C)) (hr : Room (n + 1) X.A) (ha : PE3 X W a ta) (hb : PE3 X W b tb) (hm : behindInMarks .NotEq b = false := by rfl) : PT3 X W (.Compare a [.NotEq] [b] pos) (tTest3 (tOp3 (own3 X.K okC spE true) ta tb)) := t_cmp (op_ownNe hT hr) lift_low hm ha hb
/-- a value's truth: a list or tuple, a text, a number, None -/
def D.tru (M : Mem) (x : D) : Option Bool := match x with
  | .non => some false
  | .bl b => some b
  | .int i => some (i != 0)
  | .str y => if y.length ≤ 1000000 then some ((y.length : Int) != 0) else none
  | x => (x.items M).map fun xs => !xs.isEmpty
theorem rep_tru {K : PySem.W.Frag} {M : Mem} {H : Hp} {x : D} {v : V} {k : Bool} (m : MRel K M H) (r : Rep K (hid H M) x v) (h : x.tru M = some k) : TruV K v H k := by
  have seq : ∀ xs, x.items M = some xs → k = !xs.isEmpty → TruV K v H k := fun xs hi e => by
    obtain ⟨a, vs, rfl, hs, rs⟩ := rep_items m r hi
    have e2 : xs.isEmpty = vs.isEmpty := by cases rs <;> rfl
    rw [e2] at e
    rcases hs with hs | hs
    · exact .inl ⟨vs, hs, e⟩
    · exact .inr (.inl ⟨vs, hs, e⟩)
  cases x with
  | non => cases r; simp only [D.tru, Option.some.injEq] at h; exact h.symm
  | bl b => cases r; simp only [D.tru, Option.some.injEq] at h; exact h.symm
  | int i => cases r; simp only [D.tru, Option.some.injEq] at h; exact h.symm
  | str y =>
    cases r
    simp only [D.tru] at h
    split at h
    · rename_i hl
      simp only [Option.some.injEq] at h
      exact ⟨sz1 hl rfl, h.symm⟩
    · cases h
  | ty n => simp [D.tru, D.items] at h
  | ins C fs => simp [D.tru, D.items] at h
  | exc a d fs => simp [D.tru, D.items] at h
  | tup xs => simp only [D.tru, D.items, Option.map_some, Option.some.injEq] at h; exact seq xs rfl h.symm
  | lst xs => simp only [D.tru, D.items, Option.map_some, Option.some.injEq] at h; exact seq xs rfl h.symm
  | ref a =>
    simp only [D.tru] at h
    obtain ⟨xs, hx, e⟩ := Option.map_eq_some_iff.mp h
    exact seq xs hx e.symm
def tTru3 (t : TE3) : TT3 := fun σ M Q E => t σ M (fun x M1 => ∃ k, x.tru M1 = some k ∧ Q k M1) E
theorem t_tru {t : TE3} (h : PE3 X W e t) (he : ∀ whole, isTrue e X.env whole = (do let v ← whole; standAt e.pos; holding [v] (truthy v)) := by intro _; rfl) : PT3 X W e (tTru3 t) :=
  PT.imp (pt_truth h he) fun σ H Q ⟨σ3, M, Q3, E3, rs, m, z, tl, el⟩ => ⟨σ3, M, _, E3, rs, m, z, fun x M1 H1 v m1 s1 rv ⟨k, hk, h1⟩ => ⟨k, rep_tru m1 rv hk, tl k M1 H1 m1 s1 h1⟩, el⟩
theorem rd_tru {σ : St3} {M : Mem} {Q : Bool → Mem → Prop} {E : XK3} {t : TE3} (k : t σ M (fun x M1 => ∃ k, x.tru M1 = some k ∧ Q k M1) E) : tTru3 t σ M Q E := k
/-- a suite that is read only of exceptions of one class -/
def tWhen3 (p : Prop) (t : TS3) : TS3 := fun D σ M => p ∧ t D σ M
theorem ss_when {p : Prop} {sts : List Stmt} {t : TS3} (h : p → PSs3 X W sts t) : PSs3 X W sts (tWhen3 p t) := ⟨fun pins s σ H D I ⟨σ3, M, D3, rs, m, ⟨hp, z⟩, dl⟩ => (h hp).run pins s σ H D I ⟨σ3, M, D3, rs, m, z, dl⟩⟩
end

/-! ### promises as functions of data -/
/-- a mutable list as it stands now -/
def D.fz (M : Mem) : D → D
  | .ref a => match M a with
    | some (.lst xs) => .lst xs
    | _ => .ref a
  | x => x
/-- the answer is a function of the arguments as they stand; nothing changes -/
def spF (F : List D → Option D) : Sp3 := fun xs M Q _ => ∃ r, F (xs.map (D.fz M)) = some r ∧ Q r M

/-! ### one step -/
section
variable {σ : St3} {M : Mem} {Q : VK3} {E : XK3} {ta tb te tc : TE3} {tA tB : TT3} {P : Bool → Prop}
theorem rd_var {i : Nat} {x : D} (h : σ[i]? = some (some x)) (k : Q x M) : tVar3 i σ M Q E := ⟨x, h, k⟩
theorem rd_c {x : D} (k : Q x M) : tC3 x σ M Q E := k
theorem rd_op {r : R23} (k : ta σ M (fun x M1 => tb σ M1 (fun y M2 => r x y M2 Q) E) E) : tOp3 r ta tb σ M Q E := k
theorem rd_un {r : R13} (k : ta σ M (fun x M1 => r x M1 Q) E) : tUn3 r ta σ M Q E := k
theorem rd_test {Q : Bool → Mem → Prop} (k : te σ M (fun x M1 => ∃ k, x = .bl k ∧ Q k M1) E) : tTest3 te σ M Q E := k
theorem rd_chain {r r' : R23} (k : ta σ M (fun x M1 => tb σ M1 (fun y M2 => r x y M2 fun z M3 => ∃ k, z = .bl k ∧ (if k = true then tc σ M3 (fun w' M4 => r' y w' M4 Q) E else Q (.bl false) M3)) E) E) : tChain3 r r' ta tb tc σ M Q E := k
theorem rd_and {Q : Bool → Mem → Prop} (k : tA σ M (fun c M1 => if c = true then tB σ M1 Q E else Q false M1) E) : tAnd3 tA tB σ M Q E := k
theorem rd_or {Q : Bool → Mem → Prop} (k : tA σ M (fun c M1 => if c = true then Q true M1 else tB σ M1 Q E) E) : tOr3 tA tB σ M Q E := k
theorem rd_not {Q : Bool → Mem → Prop} (k : tA σ M (fun c M1 => Q (!c) M1) E) : tNot3 tA σ M Q E := k
theorem rd_andV (k : ta σ M (fun x M1 => ∃ c, x = .bl c ∧ if c = true then tb σ M1 Q E else Q (.bl false) M1) E) : tAndV3 ta tb σ M Q E := k
theorem rd_orV (k : ta σ M (fun x M1 => ∃ c, x = .bl c ∧ if c = true then Q (.bl true) M1 else tb σ M1 Q E) E) : tOrV3 ta tb σ M Q E := k
theorem rd_notV (k : ta σ M (fun x M1 => ∃ c, x = .bl c ∧ Q (.bl (!c)) M1) E) : tNotV3 ta σ M Q E := k
theorem rd_if (k : tA σ M (fun c M1 => if c = true then ta σ M1 Q E else tb σ M1 Q E) E) : tIf3 tA ta tb σ M Q E := k
theorem rd_exbl {b : Bool} (k : P b) : ∃ c, D.bl b = .bl c ∧ P c := ⟨b, rfl, k⟩
theorem rd_nil {Q : List D → Mem → Prop} (k : Q [] M) : tNil3 σ M Q E := k
theorem rd_cons {Q : List D → Mem → Prop} {tr : TA3} (k : ta σ M (fun x M1 => tr σ M1 (fun xs M2 => Q (x :: xs) M2) E) E) : tCons3 ta tr σ M Q E := k
theorem rd_tup {t : TA3} (k : t σ M (fun xs M1 => xs.length ≤ 1000000 ∧ Q (.tup xs) M1) E) : tTup3 t σ M Q E := k
theorem rd_lst {t : TA3} (k : t σ M (fun xs M1 => xs.length ≤ 1000000 ∧ Q (.lst xs) M1) E) : tLst3 t σ M Q E := k
theorem rd_lstM {t : TA3} (k : t σ M (fun xs M1 => xs.length ≤ 1000000 ∧ ∀ p, M1 p = none → Q (.ref p) (M1.put p (.lst xs))) E) : tLstM3 t σ M Q E := k
theorem rd_cb {r : RA3} {t : TA3} (k : t σ M (fun xs M1 => r xs M1 Q) E) : tCB3 r t σ M Q E := k
theorem rd_call {sp : Sp3} {dds : List D} {t : TA3} (k : t σ M (fun xs M1 => sp (xs ++ dds) M1 Q E) E) : tCall3 sp dds t σ M Q E := k
theorem rd_make {C : Addr} {m : Nat} {sp : Sp3} {t : TA3} (k : t σ M (fun zs M1 => zs.length = m ∧ spMake C sp zs.reverse M1 Q E) E) : tMakeR3 C m sp t σ M Q E := k
theorem rd_sl {r : RS3} {tl th : TO3} (k : te σ M (fun x M1 => tl σ M1 (fun l M2 => th σ M2 (fun u M3 => r x l u M3 Q) E) E) E) : tSl3 r te tl th σ M Q E := k
theorem rd_part {Q : Option Int → Mem → Prop} (k : te σ M (fun x M1 => ∃ i, x = .int i ∧ Q (some i) M1) E) : tPart3 te σ M Q E := k
theorem rd_nopart {Q : Option Int → Mem → Prop} (k : Q none M) : tNoPart3 σ M Q E := k
theorem rd_exint {P : Int → Prop} {i : Int} (k : P i) : ∃ c, D.int i = .int c ∧ P c := ⟨i, rfl, k⟩
/-! operators -/
theorem rd_I3 {g : Int → Int → D} {i j : Int} (k : Q (g i j) M) : opI3 g (.int i) (.int j) M Q := ⟨i, j, rfl, rfl, k⟩
theorem rd_IC3 {C : Int → Int → Prop} {g : Int → Int → D} {i j : Int} (c : C i j) (k : Q (g i j) M) : opIC3 C g (.int i) (.int j) M Q := ⟨i, j, rfl, rfl, c, k⟩
theorem rd_neg {g : Int → D} {i : Int} (k : Q (g i) M) : unI3 g (.int i) M Q := ⟨i, rfl, k⟩
theorem rd_addI {i j : Int} (k : Q (.int (i + j)) M) : opAdd3 (.int i) (.int j) M Q := .inl ⟨i, j, rfl, rfl, k⟩
theorem rd_addS {x y : Str} (h : x.length + y.length ≤ 1000000) (k : Q (.str (x ++ y)) M) : opAdd3 (.str x) (.str y) M Q := .inr (.inl ⟨x, y, rfl, rfl, h, k⟩)
theorem rd_lt {i j : Int} (k : Q (.bl (decide (i < j))) M) : ltD (.int i) (.int j) M Q := ⟨i, j, rfl, rfl, k⟩
theorem rd_le {i j : Int} (k : Q (.bl (decide (i ≤ j))) M) : leD (.int i) (.int j) M Q := ⟨i, j, rfl, rfl, k⟩
theorem rd_gt {i j : Int} (k : Q (.bl (decide (j < i))) M) : gtD (.int i) (.int j) M Q := ⟨i, j, rfl, rfl, k⟩
theorem rd_ge {i j : Int} (k : Q (.bl (decide (j ≤ i))) M) : geD (.int i) (.int j) M Q := ⟨i, j, rfl, rfl, k⟩
theorem rd_isN {x : D} (k : Q (.bl x.isN) M) : opIsN3 x .non M Q := ⟨rfl, k⟩
theorem rd_notN {x : D} (k : Q (.bl (!x.isN)) M) : opNotN3 x .non M Q := ⟨rfl, k⟩
theorem rd_eq {x y : D} {d e : PyData} (h1 : x.py = some d) (h2 : y.py = some e) (s1 : SeqAt.shaped d = true) (s2 : SeqAt.shaped e = true) (k : Q (.bl (PyData.eqv d e)) M) : opEqD3 x y M Q := ⟨d, e, h1, h2, s1, s2, k⟩
theorem rd_ne {x y : D} {d e : PyData} (h1 : x.py = some d) (h2 : y.py = some e) (s1 : SeqAt.shaped d = true) (s2 : SeqAt.shaped e = true) (k : Q (.bl (!PyData.eqv d e)) M) : opNeD3 x y M Q := ⟨d, e, h1, h2, s1, s2, k⟩
/-- == of two whole numbers, of two texts -/
theorem rd_eqI {i j : Int} (k : Q (.bl (decide (i = j))) M) : opEqD3 (.int i) (.int j) M Q := ⟨.int i, .int j, rfl, rfl, rfl, rfl, by
  have e : PyData.eqv (.int i) (.int j) = decide (i = j) := by rw [PyData.eqv]; rfl
  rw [e]; exact k⟩
theorem rd_neI {i j : Int} (k : Q (.bl (!decide (i = j))) M) : opNeD3 (.int i) (.int j) M Q := ⟨.int i, .int j, rfl, rfl, rfl, rfl, by
  have e : PyData.eqv (.int i) (.int j) = decide (i = j) := by rw [PyData.eqv]; rfl
  rw [e]; exact k⟩
theorem rd_eqS {i j : Str} (h1 : SeqAt.shaped (.str i) = true) (h2 : SeqAt.shaped (.str j) = true) (k : Q (.bl (decide (i = j))) M) : opEqD3 (.str i) (.str j) M Q := ⟨.str i, .str j, rfl, rfl, h1, h2, by
  have e : PyData.eqv (.str i) (.str j) = decide (i = j) := by rw [PyData.eqv]; rfl
  rw [e]; exact k⟩
theorem rd_ix {x : D} {xs : List D} {i : Int} {z : D} (h : x.items M = some xs) (g : atI xs i = some z) (k : Q z M) : opIx3 x (.int i) M Q := .inl ⟨xs, i, z, h, rfl, g, k⟩
/-! built-ins -/
theorem rd_len {x : D} {ys : List D} (h : x.items M = some ys) (k : Q (.int ys.length) M) : aLen3 [x] M Q := .inl ⟨x, ys, rfl, h, k⟩
theorem rd_lenS {z : Str} (h : z.length ≤ 1000000) (k : Q (.int z.length) M) : aLen3 [.str z] M Q := .inr ⟨z, rfl, h, k⟩
theorem rd_int1 {g : Int → D} {i : Int} (k : Q (g i) M) : aInt1 g [.int i] M Q := ⟨i, rfl, k⟩
theorem rd_intOf {i : Int} (k : Q (.int i) M) : aIntOf [.int i] M Q := .inl ⟨i, rfl, k⟩
theorem rd_intOfB {b : Bool} (k : Q (.int (if b then 1 else 0)) M) : aIntOf [.bl b] M Q := .inr ⟨b, rfl, k⟩
theorem rd_list {x : D} {ys : List D} (h : x.items M = some ys) (k : Q (.lst ys) M) : aList3 [x] M Q := ⟨x, ys, rfl, h, k⟩
theorem rd_listM {x : D} {ys : List D} (h : x.items M = some ys) (k : ∀ p, M p = none → Q (.ref p) (M.put p (.lst ys))) : aListM3 [x] M Q := ⟨x, ys, rfl, h, k⟩
theorem rd_tuple {x : D} {ys : List D} (h : x.items M = some ys) (k : Q (.tup ys) M) : aTup3 [x] M Q := ⟨x, ys, rfl, h, k⟩
theorem rd_isi1 {K : PySem.W.Frag} {x : D} {n : String} {t : Value} {b : Bool} (h : x.typ M = some t) (hC : ∀ C, t = .ref C → ClsD K C) (hk : PySem.W.kitOne K t (.type n) = some b) (k : Q (.bl b) M) : aIsi3 K [x, .ty n] M Q := ⟨x, .ty n, t, b, rfl, h, hC, .inl ⟨_, .ty n, hk⟩, k⟩
theorem rd_isiC {K : PySem.W.Frag} {x : D} {C : Addr} {t : Value} {b : Bool} (h : x.typ M = some t) (hC : ∀ C, t = .ref C → ClsD K C) (hk : PySem.W.kitOne K t (.ref C) = some b) (k : Q (.bl b) M) : aIsi3 K [x, .ref C] M Q := ⟨x, .ref C, t, b, rfl, h, hC, .inl ⟨_, .own C, hk⟩, k⟩
theorem rd_isi2 {K : PySem.W.Frag} {x : D} {n m : String} {t : Value} {b : Bool} (h : x.typ M = some t) (hC : ∀ C, t = .ref C → ClsD K C) (hk : PySem.W.kitAny K t [.type n, .type m] = some b) (k : Q (.bl b) M) : aIsi3 K [x, .tup [.ty n, .ty m]] M Q :=
  ⟨x, _, t, b, rfl, h, hC, .inr ⟨_, _, rfl, .cons (.ty n) (.cons (.ty m) .nil), hk⟩, k⟩
theorem rd_spF {F : List D → Option D} {xs : List D} {r : D} (h : F (xs.map (D.fz M)) = some r) (k : Q r M) : spF F xs M Q E := ⟨r, h, k⟩
theorem rd_fld {K : PySem.W.Frag} {C : Addr} {fs : List (Str × D)} {f : Str} {z : D} (c : Cls K C) (n : NoAttr K C f) (l : fs.lookup f = some z) (k : Q z M) : fld3 K f (.ins C fs) M Q := ⟨C, fs, z, rfl, c, n, l, k⟩
end
/-! ### statements -/
def gNx (D : Ends3) : St3 → Mem → Prop := D.nx
def gRt (D : Ends3) : VK3 := D.rt
def gBk (D : Ends3) : St3 → Mem → Prop := D.bk
def gCt (D : Ends3) : St3 → Mem → Prop := D.ct
def gEx (D : Ends3) : Value → List (Str × L3.D) → St3 → Mem → Prop := D.ex
section
variable {σ : St3} {M : Mem} {D : Ends3} {t u : TS3} {te : TE3} {tc : TT3} {Q : VK3} {E : XK3} {n b c : St3 → Mem → Prop} {r : VK3} {ex : Value → List (Str × L3.D) → St3 → Mem → Prop}
theorem rd_seq (k : t ⟨u D, gRt D, gBk D, gCt D, gEx D⟩ σ M) : tSeq3 t u D σ M := k
theorem rd_next (k : gNx D σ M) : tNext3 D σ M := k
theorem rd_break (k : gBk D σ M) : tBreak3 D σ M := k
theorem rd_cont (k : gCt D σ M) : tCont3 D σ M := k
theorem rd_drop (k : te σ M (fun _ M1 => gNx D σ M1) fun c fs M1 => gEx D c fs σ M1) : tDrop3 te D σ M := k
theorem rd_ret (k : te σ M (gRt D) fun c fs M1 => gEx D c fs σ M1) : tRet3 te D σ M := k
theorem rd_retN (k : gRt D .non M) : tRetN3 D σ M := k
theorem rd_ifS (k : tc σ M (fun b M1 => if b = true then t D σ M1 else u D σ M1) fun c fs M1 => gEx D c fs σ M1) : tIfS3 tc t u D σ M := k
theorem rd_asg {g : TG3} (k : te σ M (fun x M1 => g x σ M1 (gNx D)) fun c fs M1 => gEx D c fs σ M1) : tAsg3 te g D σ M := k
theorem rd_par {i j : Nat} {ta : TA3} (k : ta σ M (fun xs M1 => ∃ x y, xs = [x, y] ∧ gNx D ((σ.set i (some x)).set j (some y)) M1) fun c fs M1 => gEx D c fs σ M1) : tPar3 i j ta D σ M := k
theorem rd_expar {x y : L3.D} {P : L3.D → L3.D → Prop} (k : P x y) : ∃ a b, [x, y] = [a, b] ∧ P a b := ⟨x, y, rfl, k⟩
theorem rd_name {i : Nat} {x : L3.D} {Q : St3 → Mem → Prop} (k : Q (σ.set i (some x)) M) : gName3 i x σ M Q := k
theorem rd_for {wi : TI3} {g : TG3} (k : wi σ M (fun xs G M1 => forP g t D xs G σ M1) fun c fs M1 => gEx D c fs σ M1) : tFor3 wi g t D σ M := k
theorem rd_raise {C : Addr} {ps : List Str} {ta : TA3} (k : ta σ M (fun xs M1 => xs.length = ps.length ∧ gEx D (.ref C) (ps.zip xs).reverse σ M1) fun c fs M1 => gEx D c fs σ M1) : tRaise3 C ps ta D σ M := k
theorem rd_fldS {K : PySem.W.Frag} {f : Str} {to : TE3} (k : te σ M (fun y M1 => to σ M1 (fun x M2 => ∃ a C fs, x = .ref a ∧ M2 a = some (.ins C fs) ∧ Cls K C ∧ NoAttr K C f ∧ fs.length < 1000 ∧ gNx D σ (M2.put a (.ins C (putD f y fs)))) fun c fs M2 => gEx D c fs σ M2) fun c fs M1 => gEx D c fs σ M1) : tFldS3 K f to te D σ M := k
theorem rd_exfld {K : PySem.W.Frag} {f : Str} {a C : Addr} {fs : List (Str × L3.D)} {P : Addr → Addr → List (Str × L3.D) → Prop} (h : M a = some (.ins C fs)) (c : Cls K C) (n : NoAttr K C f) (l : fs.length < 1000) (k : P a C fs) : ∃ a' C' fs', L3.D.ref a = .ref a' ∧ M a' = some (.ins C' fs') ∧ Cls K C' ∧ NoAttr K C' f ∧ fs'.length < 1000 ∧ P a' C' fs' := ⟨a, C, fs, rfl, h, c, n, l, k⟩
theorem rd_try {K : PySem.W.Frag} {cv : Value} {i : Nat} {ts : Addr → Option Addr → Value → TS3} (k : t ⟨gNx D, gRt D, gBk D, gCt D, fun cls fs σ1 M1 => ∃ b, PySem.W.exmOne K cls cv = some b ∧
  (b = true → ∀ a d, ts a d cls ⟨fun σ' M' => gNx D (σ'.set i none) M', gRt D, fun σ' M' => gBk D (σ'.set i none) M', fun σ' M' => gCt D (σ'.set i none) M', fun _ _ _ _ => False⟩ (σ1.set i (some (.exc a d fs))) M1) ∧ (b = false → gEx D cls fs σ1 M1)⟩ σ M) : tTryAs3 K cv i t ts D σ M := k
theorem rd_when {p : Prop} (h : p) (k : t D σ M) : tWhen3 p t D σ M := ⟨h, k⟩
theorem rd_frz {i : Nat} {a : Addr} {xs : List L3.D} (h : σ[i]? = some (some (.ref a))) (hm : M a = some (.lst xs)) (k : t D (σ.map (frz1 a (.lst xs))) (M.del a)) : tFrz3 i t D σ M := ⟨a, xs, h, hm, k⟩
/-- for: an invariant P (turn, slots, what may change) -/
theorem rd_forP {g : TG3} {xs : List L3.D} {G : Mem → Prop} (P : Nat → St3 → Mem → Prop) (p0 : P 0 σ M) (hg : ∀ i σ M, P i σ M → G M)
    (step : ∀ i x σ M, xs[i]? = some x → P i σ M → g x σ M fun σ2 M2 => t ⟨P (i + 1), gRt D, gNx D, P (i + 1), gEx D⟩ σ2 M2) (fin : ∀ σ M, P xs.length σ M → gNx D σ M) : forP g t D xs G σ M := ⟨P, p0, hg, step, fin⟩
theorem rd_nx (k : n σ M) : gNx ⟨n, r, b, c, ex⟩ σ M := k
theorem rd_rt {x : L3.D} (k : r x M) : gRt ⟨n, r, b, c, ex⟩ x M := k
theorem rd_bk (k : b σ M) : gBk ⟨n, r, b, c, ex⟩ σ M := k
theorem rd_ct (k : c σ M) : gCt ⟨n, r, b, c, ex⟩ σ M := k
theorem rd_ex {v : Value} {fs : List (Str × L3.D)} (k : ex v fs σ M) : gEx ⟨n, r, b, c, ex⟩ v fs σ M := k
theorem rd_endrt {x : L3.D} (k : Q x M) : gRt (endsOf Q E) x M := ⟨M, Drop.refl _, k⟩
theorem rd_endnx (k : Q .non M) : gNx (endsOf Q E) σ M := ⟨M, Drop.refl _, k⟩
theorem rd_endex {v : Value} {fs : List (Str × L3.D)} (k : E v fs M) : gEx (endsOf Q E) v fs σ M := ⟨M, Drop.refl _, k⟩
/-- what may change is let go at the end -/
theorem rd_endrtD {x : L3.D} {M' : Mem} (d : Drop M M') (k : Q x M') : gRt (endsOf Q E) x M := ⟨M', d, k⟩
theorem rd_iteT {p : Bool} {A B : Prop} (h : p = true) (k : A) : if p = true then A else B := by rw [if_pos h]; exact k
theorem rd_iteF {p : Bool} {A B : Prop} (h : p = false) (k : B) : if p = true then A else B := by rw [h, if_neg Bool.false_ne_true]; exact k
theorem rd_iteTT {A B : Prop} (k : A) : if true = true then A else B := by rw [if_pos rfl]; exact k
theorem rd_iteFF {A B : Prop} (k : B) : if false = true then A else B := by rw [if_neg Bool.false_ne_true]; exact k
theorem rd_ite {p : Bool} {A B : Prop} (k1 : p = true → A) (k2 : p = false → B) : if p = true then A else B := by
  cases h : p with
  | true => rw [if_pos rfl]; exact k1 h
  | false => rw [if_neg Bool.false_ne_true]; exact k2 h
end
end L3

namespace K68
open PySem PySem.Spec PyProof.Rows L2 L3
def top (i : Nat) : Stmt := PySem.Challenge.pw_fourhinges_k68_changes_made_and_refused.main.body.getD i (.Pass ⟨0, 0, 0, 0⟩)
abbrev s_BadChange_init : Stmt := inClass (top 3) 0
abbrev s_is_number : Stmt := top 5
abbrev s_is_whole : Stmt := top 6
abbrev s_is_point : Stmt := top 9
abbrev s_Ballast_init : Stmt := inClass (top 18) 0
abbrev s_Ballast_eq : Stmt := inClass (top 18) 1
abbrev s_Rod_init : Stmt := inClass (top 19) 0
abbrev s_Rod_eq : Stmt := inClass (top 19) 1
abbrev s_Shut_init : Stmt := inClass (top 20) 0
abbrev s_Shut_eq : Stmt := inClass (top 20) 1
abbrev s_Spaced_init : Stmt := inClass (top 21) 0
abbrev s_Spaced_eq : Stmt := inClass (top 21) 1
abbrev s_law_bag : Stmt := top 23
abbrev s_law_take : Stmt := top 24
abbrev s_law_of : Stmt := top 25
abbrev s_law_is_number : Stmt := top 26
abbrev s_law_within : Stmt := top 27
abbrev s_law_is_point : Stmt := top 28
abbrev s_law_pick : Stmt := top 29
abbrev s_law_far : Stmt := top 30
abbrev s_law_point : Stmt := top 31
abbrev s_law_rod : Stmt := top 32
abbrev s_law_things : Stmt := top 33
abbrev s_law_due : Stmt := top 34
abbrev s_law_made : Stmt := top 35
abbrev s_law_named : Stmt := top 36
abbrev s_law_fields : Stmt := top 37
abbrev s_law_kinds_right : Stmt := top 38
abbrev s_law_other : Stmt := top 39
abbrev s_law : Stmt := top 40
structure Adr where
  C_BridgeError : Addr
  C_BadChange : Addr
  C_Change : Addr
  C_Ballast : Addr
  C_Rod : Addr
  C_Shut : Addr
  C_Spaced : Addr
  f_BadChange_init : Addr
  d_BadChange_init : FuncData
  f_is_number : Addr
  d_is_number : FuncData
  f_is_whole : Addr
  d_is_whole : FuncData
  f_is_point : Addr
  d_is_point : FuncData
  f_Ballast_init : Addr
  d_Ballast_init : FuncData
  f_Ballast_eq : Addr
  d_Ballast_eq : FuncData
  f_Rod_init : Addr
  d_Rod_init : FuncData
  f_Rod_eq : Addr
  d_Rod_eq : FuncData
  f_Shut_init : Addr
  d_Shut_init : FuncData
  f_Shut_eq : Addr
  d_Shut_eq : FuncData
  f_Spaced_init : Addr
  d_Spaced_init : FuncData
  f_Spaced_eq : Addr
  d_Spaced_eq : FuncData
  f_law_bag : Addr
  d_law_bag : FuncData
  f_law_take : Addr
  d_law_take : FuncData
  f_law_of : Addr
  d_law_of : FuncData
  f_law_is_number : Addr
  d_law_is_number : FuncData
  f_law_within : Addr
  d_law_within : FuncData
  f_law_is_point : Addr
  d_law_is_point : FuncData
  f_law_pick : Addr
  d_law_pick : FuncData
  f_law_far : Addr
  d_law_far : FuncData
  f_law_point : Addr
  d_law_point : FuncData
  f_law_rod : Addr
  d_law_rod : FuncData
  f_law_things : Addr
  d_law_things : FuncData
  f_law_due : Addr
  d_law_due : FuncData
  f_law_made : Addr
  d_law_made : FuncData
  f_law_named : Addr
  d_law_named : FuncData
  f_law_fields : Addr
  d_law_fields : FuncData
  f_law_kinds_right : Addr
  d_law_kinds_right : FuncData
  f_law_other : Addr
  d_law_other : FuncData
  f_law : Addr
  d_law : FuncData
abbrev N_BadChange_init : List Str := ["self", "what"]
theorem sc_BadChange_init : FnScope N_BadChange_init ["self", "what"] (defScope s_BadChange_init) := ⟨rfl, rfl, rfl, by decide +kernel, rfl, by decide +kernel, by decide +kernel⟩
abbrev N_is_number : List Str := ["thing"]
theorem sc_is_number : FnScope N_is_number ["thing"] (defScope s_is_number) := ⟨rfl, rfl, rfl, by decide +kernel, rfl, by decide +kernel, by decide +kernel⟩
abbrev N_is_whole : List Str := ["thing", "low", "high"]
theorem sc_is_whole : FnScope N_is_whole ["thing", "low", "high"] (defScope s_is_whole) := ⟨rfl, rfl, rfl, by decide +kernel, rfl, by decide +kernel, by decide +kernel⟩
abbrev N_is_point : List Str := ["thing"]
theorem sc_is_point : FnScope N_is_point ["thing"] (defScope s_is_point) := ⟨rfl, rfl, rfl, by decide +kernel, rfl, by decide +kernel, by decide +kernel⟩
abbrev N_Ballast_init : List Str := ["self", "stone", "x", "weight"]
theorem sc_Ballast_init : FnScope N_Ballast_init ["self", "stone", "x", "weight"] (defScope s_Ballast_init) := ⟨rfl, rfl, rfl, by decide +kernel, rfl, by decide +kernel, by decide +kernel⟩
abbrev N_Ballast_eq : List Str := ["self", "other"]
theorem sc_Ballast_eq : FnScope N_Ballast_eq ["self", "other"] (defScope s_Ballast_eq) := ⟨rfl, rfl, rfl, by decide +kernel, rfl, by decide +kernel, by decide +kernel⟩
abbrev N_Rod_init : List Str := ["self", "one", "other", "start", "end", "pull"]
theorem sc_Rod_init : FnScope N_Rod_init ["self", "one", "other", "start", "end", "pull"] (defScope s_Rod_init) := ⟨rfl, rfl, rfl, by decide +kernel, rfl, by decide +kernel, by decide +kernel⟩
abbrev N_Rod_eq : List Str := ["self", "other"]
theorem sc_Rod_eq : FnScope N_Rod_eq ["self", "other"] (defScope s_Rod_eq) := ⟨rfl, rfl, rfl, by decide +kernel, rfl, by decide +kernel, by decide +kernel⟩
abbrev N_Shut_init : List Str := ["self", "name", "letter"]
theorem sc_Shut_init : FnScope N_Shut_init ["self", "name"] (defScope s_Shut_init) := ⟨rfl, rfl, rfl, by decide +kernel, rfl, by decide +kernel, by decide +kernel⟩
abbrev N_Shut_eq : List Str := ["self", "other"]
theorem sc_Shut_eq : FnScope N_Shut_eq ["self", "other"] (defScope s_Shut_eq) := ⟨rfl, rfl, rfl, by decide +kernel, rfl, by decide +kernel, by decide +kernel⟩
abbrev N_Spaced_init : List Str := ["self", "extra"]
theorem sc_Spaced_init : FnScope N_Spaced_init ["self", "extra"] (defScope s_Spaced_init) := ⟨rfl, rfl, rfl, by decide +kernel, rfl, by decide +kernel, by decide +kernel⟩
abbrev N_Spaced_eq : List Str := ["self", "other"]
theorem sc_Spaced_eq : FnScope N_Spaced_eq ["self", "other"] (defScope s_Spaced_eq) := ⟨rfl, rfl, rfl, by decide +kernel, rfl, by decide +kernel, by decide +kernel⟩
abbrev N_law_bag : List Str := ["script", "at", "cell", "mix", "k", "each"]
theorem sc_law_bag : FnScope N_law_bag ["script", "at"] (defScope s_law_bag) := ⟨rfl, rfl, rfl, by decide +kernel, rfl, by decide +kernel, by decide +kernel⟩
abbrev N_law_take : List Str := ["bag", "many", "digit"]
theorem sc_law_take : FnScope N_law_take ["bag", "many"] (defScope s_law_take) := ⟨rfl, rfl, rfl, by decide +kernel, rfl, by decide +kernel, by decide +kernel⟩
abbrev N_law_of : List Str := ["bag", "some"]
theorem sc_law_of : FnScope N_law_of ["bag", "some"] (defScope s_law_of) := ⟨rfl, rfl, rfl, by decide +kernel, rfl, by decide +kernel, by decide +kernel⟩
abbrev N_law_is_number : List Str := ["thing"]
theorem sc_law_is_number : FnScope N_law_is_number ["thing"] (defScope s_law_is_number) := ⟨rfl, rfl, rfl, by decide +kernel, rfl, by decide +kernel, by decide +kernel⟩
abbrev N_law_within : List Str := ["thing", "low", "high"]
theorem sc_law_within : FnScope N_law_within ["thing", "low", "high"] (defScope s_law_within) := ⟨rfl, rfl, rfl, by decide +kernel, rfl, by decide +kernel, by decide +kernel⟩
abbrev N_law_is_point : List Str := ["thing"]
theorem sc_law_is_point : FnScope N_law_is_point ["thing"] (defScope s_law_is_point) := ⟨rfl, rfl, rfl, by decide +kernel, rfl, by decide +kernel, by decide +kernel⟩
abbrev N_law_pick : List Str := ["bag", "good", "odd"]
theorem sc_law_pick : FnScope N_law_pick ["bag", "good", "odd"] (defScope s_law_pick) := ⟨rfl, rfl, rfl, by decide +kernel, rfl, by decide +kernel, by decide +kernel⟩
abbrev N_law_far : List Str := ["bag"]
theorem sc_law_far : FnScope N_law_far ["bag"] (defScope s_law_far) := ⟨rfl, rfl, rfl, by decide +kernel, rfl, by decide +kernel, by decide +kernel⟩
abbrev N_law_point : List Str := ["bag", "place", "y", "good", "odd"]
theorem sc_law_point : FnScope N_law_point ["bag"] (defScope s_law_point) := ⟨rfl, rfl, rfl, by decide +kernel, rfl, by decide +kernel, by decide +kernel⟩
abbrev N_law_rod : List Str := ["bag", "item", "second", "nearer", "farther", "strong"]
theorem sc_law_rod : FnScope N_law_rod ["bag"] (defScope s_law_rod) := ⟨rfl, rfl, rfl, by decide +kernel, rfl, by decide +kernel, by decide +kernel⟩
abbrev N_law_things : List Str := ["bag", "kind", "many", "odd", "heavy", "place", "letters", "k"]
theorem sc_law_things : FnScope N_law_things ["bag", "kind"] (defScope s_law_things) := ⟨rfl, rfl, rfl, by decide +kernel, rfl, by decide +kernel, by decide +kernel⟩
abbrev N_law_due : List Str := ["kind", "things", "right", "item", "second", "nearer", "farther", "strong", "both", "letters", "plain", "wrong"]
theorem sc_law_due : FnScope N_law_due ["kind", "things"] (defScope s_law_due) := ⟨rfl, rfl, rfl, by decide +kernel, rfl, by decide +kernel, by decide +kernel⟩
abbrev N_law_made : List Str := ["kind", "things", "e"]
theorem sc_law_made : FnScope N_law_made ["kind", "things"] (defScope s_law_made) := ⟨rfl, rfl, rfl, by decide +kernel, rfl, by decide +kernel, by decide +kernel⟩
abbrev N_law_named : List Str := ["kind", "things", "e"]
theorem sc_law_named : FnScope N_law_named ["kind", "things"] (defScope s_law_named) := ⟨rfl, rfl, rfl, by decide +kernel, rfl, by decide +kernel, by decide +kernel⟩
abbrev N_law_fields : List Str := ["kind", "made"]
theorem sc_law_fields : FnScope N_law_fields ["kind", "made"] (defScope s_law_fields) := ⟨rfl, rfl, rfl, by decide +kernel, rfl, by decide +kernel, by decide +kernel⟩
abbrev N_law_kinds_right : List Str := ["fields", "field"]
theorem sc_law_kinds_right : FnScope N_law_kinds_right ["fields"] (defScope s_law_kinds_right) := ⟨rfl, rfl, rfl, by decide +kernel, rfl, by decide +kernel, by decide +kernel⟩
abbrev N_law_other : List Str := ["bag", "kind", "things", "at", "place", "k", "free", "item"]
theorem sc_law_other : FnScope N_law_other ["bag", "kind", "things"] (defScope s_law_other) := ⟨rfl, rfl, rfl, by decide +kernel, rfl, by decide +kernel, by decide +kernel⟩
abbrev N_law : List Str := ["script", "at", "bag", "kind", "things", "given", "item", "due", "named", "made", "fields", "wanted", "again", "unlike", "kinds", "letters", "plain"]
theorem sc_law : FnScope N_law ["script"] (defScope s_law) := ⟨rfl, rfl, rfl, by decide +kernel, rfl, by decide +kernel, by decide +kernel⟩
structure Txt (K : PySem.W.Frag) (mg : Str → Option Value) (A : Adr) : Prop where
  n_ValueError : mg "ValueError" = none
  n_abs : mg "abs" = none
  n_any : mg "any" = none
  n_bool : mg "bool" = none
  n_enumerate : mg "enumerate" = none
  n_int : mg "int" = none
  n_isinstance : mg "isinstance" = none
  n_len : mg "len" = none
  n_list : mg "list" = none
  n_range : mg "range" = none
  n_str : mg "str" = none
  n_tuple : mg "tuple" = none
  i_FARTHEST_rings : ∃ t, mg "FARTHEST_rings" = some (.int 1000000 t)
  i_FARTHEST_changes : ∃ t, mg "FARTHEST_changes" = some (.int 1000000 t)
  i_HEAVIEST : ∃ t, mg "HEAVIEST" = some (.int 1000000000000000000000000000000 t)
  i_LAST_STONE : ∃ t, mg "LAST_STONE" = some (.int 7 t)
  i_MOST_LETTERS : ∃ t, mg "MOST_LETTERS" = some (.int 12 t)
  i_MOST_EXTRA : ∃ t, mg "MOST_EXTRA" = some (.int 100 t)
  s_LETTERS : ∃ t, mg "LETTERS" = some (.str "abcdefghijklmnopqrstuvwxyz" t)
  g_BridgeError : mg "BridgeError" = some (.ref A.C_BridgeError)
  ok_BridgeError : ((PySem.W.clsIn K A.C_BridgeError).isSome && PySem.W.typeIn K (.ref A.C_BridgeError) == some (.type "type")) = true
  g_BadChange : mg "BadChange" = some (.ref A.C_BadChange)
  ok_BadChange : ((PySem.W.clsIn K A.C_BadChange).isSome && PySem.W.typeIn K (.ref A.C_BadChange) == some (.type "type")) = true
  g_Change : mg "Change" = some (.ref A.C_Change)
  ok_Change : ((PySem.W.clsIn K A.C_Change).isSome && PySem.W.typeIn K (.ref A.C_Change) == some (.type "type")) = true
  g_Ballast : mg "Ballast" = some (.ref A.C_Ballast)
  ok_Ballast : ((PySem.W.clsIn K A.C_Ballast).isSome && PySem.W.typeIn K (.ref A.C_Ballast) == some (.type "type")) = true
  g_Rod : mg "Rod" = some (.ref A.C_Rod)
  ok_Rod : ((PySem.W.clsIn K A.C_Rod).isSome && PySem.W.typeIn K (.ref A.C_Rod) == some (.type "type")) = true
  g_Shut : mg "Shut" = some (.ref A.C_Shut)
  ok_Shut : ((PySem.W.clsIn K A.C_Shut).isSome && PySem.W.typeIn K (.ref A.C_Shut) == some (.type "type")) = true
  g_Spaced : mg "Spaced" = some (.ref A.C_Spaced)
  ok_Spaced : ((PySem.W.clsIn K A.C_Spaced).isSome && PySem.W.typeIn K (.ref A.C_Spaced) == some (.type "type")) = true
  cd_Ballast : ClsD K A.C_Ballast
  na_Ballast_stone : NoAttr K A.C_Ballast "stone"
  na_Ballast_x : NoAttr K A.C_Ballast "x"
  na_Ballast_weight : NoAttr K A.C_Ballast "weight"
  mk_Ballast : Mk K A.C_Ballast A.f_Ballast_init
  eq_Ballast : PySem.W.findIn K (.ref A.C_Ballast) "__eq__" = some (some (.ref A.f_Ballast_eq)) ∧ PySem.W.isFn K (.ref A.f_Ballast_eq) = true ∧ PySem.W.findIn K (.ref A.C_Ballast) "__ne__" = some (some (.builtin "object.__ne__"))
  cd_Rod : ClsD K A.C_Rod
  na_Rod_one : NoAttr K A.C_Rod "one"
  na_Rod_other : NoAttr K A.C_Rod "other"
  na_Rod_start : NoAttr K A.C_Rod "start"
  na_Rod_end : NoAttr K A.C_Rod "end"
  na_Rod_pull : NoAttr K A.C_Rod "pull"
  mk_Rod : Mk K A.C_Rod A.f_Rod_init
  eq_Rod : PySem.W.findIn K (.ref A.C_Rod) "__eq__" = some (some (.ref A.f_Rod_eq)) ∧ PySem.W.isFn K (.ref A.f_Rod_eq) = true ∧ PySem.W.findIn K (.ref A.C_Rod) "__ne__" = some (some (.builtin "object.__ne__"))
  cd_Shut : ClsD K A.C_Shut
  na_Shut_name : NoAttr K A.C_Shut "name"
  mk_Shut : Mk K A.C_Shut A.f_Shut_init
  eq_Shut : PySem.W.findIn K (.ref A.C_Shut) "__eq__" = some (some (.ref A.f_Shut_eq)) ∧ PySem.W.isFn K (.ref A.f_Shut_eq) = true ∧ PySem.W.findIn K (.ref A.C_Shut) "__ne__" = some (some (.builtin "object.__ne__"))
  cd_Spaced : ClsD K A.C_Spaced
  na_Spaced_extra : NoAttr K A.C_Spaced "extra"
  mk_Spaced : Mk K A.C_Spaced A.f_Spaced_init
  eq_Spaced : PySem.W.findIn K (.ref A.C_Spaced) "__eq__" = some (some (.ref A.f_Spaced_eq)) ∧ PySem.W.isFn K (.ref A.f_Spaced_eq) = true ∧ PySem.W.findIn K (.ref A.C_Spaced) "__ne__" = some (some (.builtin "object.__ne__"))
  sb_Ballast_Ballast : PySem.W.subIn K (.ref A.C_Ballast) (.ref A.C_Ballast) = some true
  sb_Ballast_Rod : PySem.W.subIn K (.ref A.C_Ballast) (.ref A.C_Rod) = some false
  sb_Ballast_Shut : PySem.W.subIn K (.ref A.C_Ballast) (.ref A.C_Shut) = some false
  sb_Ballast_Spaced : PySem.W.subIn K (.ref A.C_Ballast) (.ref A.C_Spaced) = some false
  sb_Rod_Ballast : PySem.W.subIn K (.ref A.C_Rod) (.ref A.C_Ballast) = some false
  sb_Rod_Rod : PySem.W.subIn K (.ref A.C_Rod) (.ref A.C_Rod) = some true
  sb_Rod_Shut : PySem.W.subIn K (.ref A.C_Rod) (.ref A.C_Shut) = some false
  sb_Rod_Spaced : PySem.W.subIn K (.ref A.C_Rod) (.ref A.C_Spaced) = some false
  sb_Shut_Ballast : PySem.W.subIn K (.ref A.C_Shut) (.ref A.C_Ballast) = some false
  sb_Shut_Rod : PySem.W.subIn K (.ref A.C_Shut) (.ref A.C_Rod) = some false
  sb_Shut_Shut : PySem.W.subIn K (.ref A.C_Shut) (.ref A.C_Shut) = some true
  sb_Shut_Spaced : PySem.W.subIn K (.ref A.C_Shut) (.ref A.C_Spaced) = some false
  sb_Spaced_Ballast : PySem.W.subIn K (.ref A.C_Spaced) (.ref A.C_Ballast) = some false
  sb_Spaced_Rod : PySem.W.subIn K (.ref A.C_Spaced) (.ref A.C_Rod) = some false
  sb_Spaced_Shut : PySem.W.subIn K (.ref A.C_Spaced) (.ref A.C_Shut) = some false
  sb_Spaced_Spaced : PySem.W.subIn K (.ref A.C_Spaced) (.ref A.C_Spaced) = some true
  sb_Ballast_Change : PySem.W.subIn K (.ref A.C_Ballast) (.ref A.C_Change) = some true
  sb_Rod_Change : PySem.W.subIn K (.ref A.C_Rod) (.ref A.C_Change) = some true
  sb_Shut_Change : PySem.W.subIn K (.ref A.C_Shut) (.ref A.C_Change) = some true
  sb_Spaced_Change : PySem.W.subIn K (.ref A.C_Spaced) (.ref A.C_Change) = some true
  sb_Ballast_tuple : PySem.W.subIn K (.ref A.C_Ballast) (.type "tuple") = some false
  sb_Rod_tuple : PySem.W.subIn K (.ref A.C_Rod) (.type "tuple") = some false
  sb_Shut_tuple : PySem.W.subIn K (.ref A.C_Shut) (.type "tuple") = some false
  sb_Spaced_tuple : PySem.W.subIn K (.ref A.C_Spaced) (.type "tuple") = some false
  sb_BadChange_BadChange : PySem.W.subIn K (.ref A.C_BadChange) (.ref A.C_BadChange) = some true
  sb_BadChange_BridgeError : PySem.W.subIn K (.ref A.C_BadChange) (.ref A.C_BridgeError) = some true
  sb_BadChange_ValueError : PySem.W.subIn K (.ref A.C_BadChange) (.type "ValueError") = some true
  xo_BadChange : OexC K A.C_BadChange
  xt_BadChange : ExcT K A.C_BadChange A.f_BadChange_init
  xf_BadChange : XfC K A.C_BadChange
  xc_BadChange : ExcC K A.C_BadChange
  xn_BadChange_what : PySem.W.findIn K (.ref A.C_BadChange) "what" = some none
  bi_BadChange : ∃ mc, BaseI K mg "BridgeError" A.C_BridgeError mc
  F_BadChange_init : L2.Fun K "__init__" "BadChange.__init__" s_BadChange_init A.f_BadChange_init A.d_BadChange_init
  b_BadChange_init : Binds K A.d_BadChange_init ["self", "what"] []
  F_is_number : L2.Fun K "is_number" "is_number" s_is_number A.f_is_number A.d_is_number
  b_is_number : Binds K A.d_is_number ["thing"] []
  g_is_number : mg "is_number" = some (.ref A.f_is_number)
  F_is_whole : L2.Fun K "is_whole" "is_whole" s_is_whole A.f_is_whole A.d_is_whole
  b_is_whole : Binds K A.d_is_whole ["thing", "low", "high"] []
  g_is_whole : mg "is_whole" = some (.ref A.f_is_whole)
  F_is_point : L2.Fun K "is_point" "is_point" s_is_point A.f_is_point A.d_is_point
  b_is_point : Binds K A.d_is_point ["thing"] []
  g_is_point : mg "is_point" = some (.ref A.f_is_point)
  F_Ballast_init : L2.Fun K "__init__" "Ballast.__init__" s_Ballast_init A.f_Ballast_init A.d_Ballast_init
  b_Ballast_init : Binds K A.d_Ballast_init ["self", "stone", "x", "weight"] []
  r_Ballast_init : KRev K A.d_Ballast_init ["self", "stone", "x", "weight"] ["weight", "x", "stone"]
  F_Ballast_eq : L2.Fun K "__eq__" "Ballast.__eq__" s_Ballast_eq A.f_Ballast_eq A.d_Ballast_eq
  b_Ballast_eq : Binds K A.d_Ballast_eq ["self", "other"] []
  F_Rod_init : L2.Fun K "__init__" "Rod.__init__" s_Rod_init A.f_Rod_init A.d_Rod_init
  b_Rod_init : Binds K A.d_Rod_init ["self", "one", "other", "start", "end", "pull"] []
  r_Rod_init : KRev K A.d_Rod_init ["self", "one", "other", "start", "end", "pull"] ["pull", "end", "start", "other", "one"]
  F_Rod_eq : L2.Fun K "__eq__" "Rod.__eq__" s_Rod_eq A.f_Rod_eq A.d_Rod_eq
  b_Rod_eq : Binds K A.d_Rod_eq ["self", "other"] []
  F_Shut_init : L2.Fun K "__init__" "Shut.__init__" s_Shut_init A.f_Shut_init A.d_Shut_init
  b_Shut_init : Binds K A.d_Shut_init ["self", "name"] []
  r_Shut_init : KRev K A.d_Shut_init ["self", "name"] ["name"]
  F_Shut_eq : L2.Fun K "__eq__" "Shut.__eq__" s_Shut_eq A.f_Shut_eq A.d_Shut_eq
  b_Shut_eq : Binds K A.d_Shut_eq ["self", "other"] []
  F_Spaced_init : L2.Fun K "__init__" "Spaced.__init__" s_Spaced_init A.f_Spaced_init A.d_Spaced_init
  b_Spaced_init : Binds K A.d_Spaced_init ["self", "extra"] []
  r_Spaced_init : KRev K A.d_Spaced_init ["self", "extra"] ["extra"]
  F_Spaced_eq : L2.Fun K "__eq__" "Spaced.__eq__" s_Spaced_eq A.f_Spaced_eq A.d_Spaced_eq
  b_Spaced_eq : Binds K A.d_Spaced_eq ["self", "other"] []
  F_law_bag : L2.Fun K "_law_bag" "_law_bag" s_law_bag A.f_law_bag A.d_law_bag
  b_law_bag : Binds K A.d_law_bag ["script", "at"] []
  g_law_bag : mg "_law_bag" = some (.ref A.f_law_bag)
  F_law_take : L2.Fun K "_law_take" "_law_take" s_law_take A.f_law_take A.d_law_take
  b_law_take : Binds K A.d_law_take ["bag", "many"] []
  g_law_take : mg "_law_take" = some (.ref A.f_law_take)
  F_law_of : L2.Fun K "_law_of" "_law_of" s_law_of A.f_law_of A.d_law_of
  b_law_of : Binds K A.d_law_of ["bag", "some"] []
  g_law_of : mg "_law_of" = some (.ref A.f_law_of)
  F_law_is_number : L2.Fun K "_law_is_number" "_law_is_number" s_law_is_number A.f_law_is_number A.d_law_is_number
  b_law_is_number : Binds K A.d_law_is_number ["thing"] []
  g_law_is_number : mg "_law_is_number" = some (.ref A.f_law_is_number)
  F_law_within : L2.Fun K "_law_within" "_law_within" s_law_within A.f_law_within A.d_law_within
  b_law_within : Binds K A.d_law_within ["thing", "low", "high"] []
  g_law_within : mg "_law_within" = some (.ref A.f_law_within)
  F_law_is_point : L2.Fun K "_law_is_point" "_law_is_point" s_law_is_point A.f_law_is_point A.d_law_is_point
  b_law_is_point : Binds K A.d_law_is_point ["thing"] []
  g_law_is_point : mg "_law_is_point" = some (.ref A.f_law_is_point)
  F_law_pick : L2.Fun K "_law_pick" "_law_pick" s_law_pick A.f_law_pick A.d_law_pick
  b_law_pick : Binds K A.d_law_pick ["bag", "good", "odd"] []
  g_law_pick : mg "_law_pick" = some (.ref A.f_law_pick)
  F_law_far : L2.Fun K "_law_far" "_law_far" s_law_far A.f_law_far A.d_law_far
  b_law_far : Binds K A.d_law_far ["bag"] []
  g_law_far : mg "_law_far" = some (.ref A.f_law_far)
  F_law_point : L2.Fun K "_law_point" "_law_point" s_law_point A.f_law_point A.d_law_point
  b_law_point : Binds K A.d_law_point ["bag"] []
  g_law_point : mg "_law_point" = some (.ref A.f_law_point)
  F_law_rod : L2.Fun K "_law_rod" "_law_rod" s_law_rod A.f_law_rod A.d_law_rod
  b_law_rod : Binds K A.d_law_rod ["bag"] []
  g_law_rod : mg "_law_rod" = some (.ref A.f_law_rod)
  F_law_things : L2.Fun K "_law_things" "_law_things" s_law_things A.f_law_things A.d_law_things
  b_law_things : Binds K A.d_law_things ["bag", "kind"] []
  g_law_things : mg "_law_things" = some (.ref A.f_law_things)
  F_law_due : L2.Fun K "_law_due" "_law_due" s_law_due A.f_law_due A.d_law_due
  b_law_due : Binds K A.d_law_due ["kind", "things"] []
  g_law_due : mg "_law_due" = some (.ref A.f_law_due)
  F_law_made : L2.Fun K "_law_made" "_law_made" s_law_made A.f_law_made A.d_law_made
  b_law_made : Binds K A.d_law_made ["kind", "things"] []
  g_law_made : mg "_law_made" = some (.ref A.f_law_made)
  F_law_named : L2.Fun K "_law_named" "_law_named" s_law_named A.f_law_named A.d_law_named
  b_law_named : Binds K A.d_law_named ["kind", "things"] []
  g_law_named : mg "_law_named" = some (.ref A.f_law_named)
  F_law_fields : L2.Fun K "_law_fields" "_law_fields" s_law_fields A.f_law_fields A.d_law_fields
  b_law_fields : Binds K A.d_law_fields ["kind", "made"] []
  g_law_fields : mg "_law_fields" = some (.ref A.f_law_fields)
  F_law_kinds_right : L2.Fun K "_law_kinds_right" "_law_kinds_right" s_law_kinds_right A.f_law_kinds_right A.d_law_kinds_right
  b_law_kinds_right : Binds K A.d_law_kinds_right ["fields"] []
  g_law_kinds_right : mg "_law_kinds_right" = some (.ref A.f_law_kinds_right)
  F_law_other : L2.Fun K "_law_other" "_law_other" s_law_other A.f_law_other A.d_law_other
  b_law_other : Binds K A.d_law_other ["bag", "kind", "things"] []
  g_law_other : mg "_law_other" = some (.ref A.f_law_other)
  F_law : L2.Fun K "law" "law" s_law A.f_law A.d_law
  b_law : Binds K A.d_law ["script"] []
  g_law : mg "law" = some (.ref A.f_law)
end K68

namespace K68
open PySem PySem.Spec PyProof.Rows L2 L3
/-! ## the model: what each def answers, in data -/
inductive Kind where
  | ba | ro | sh | sp
def Kind.name : Kind → Str
  | .ba => "ballast"
  | .ro => "rod"
  | .sh => "shut"
  | .sp => "spaced"
def Kind.n : Kind → Nat
  | .ba => 3
  | .ro => 5
  | .sh => 1
  | .sp => 1
/-- atoms; things -/
def okA : D → Bool
  | .non => true
  | .bl _ => true
  | .int _ => true
  | .str z => decide (z.length ≤ 1000) && PyData.strOk z
  | _ => false
def okT : D → Bool
  | .tup xs => decide (xs.length ≤ 1000) && xs.all okA
  | .lst xs => decide (xs.length ≤ 1000) && xs.all okA
  | x => okA x
def isNum : D → Bool
  | .int _ => true
  | _ => false
def whole (x : D) (lo hi : Int) : Bool := match x with
  | .int i => decide (lo ≤ i) && decide (i ≤ hi)
  | _ => false
def pt2 : List D → Bool
  | [x, y] => whole x (-1000000) 1000000 && whole y (-1000000) 1000000
  | _ => false
def point : D → Bool
  | .tup xs => pt2 xs
  | .lst xs => pt2 xs
  | _ => false
def fNum : List D → Option D
  | [x] => if okT x then some (.bl (isNum x)) else none
  | _ => none
def fWhole : List D → Option D
  | [x, .int lo, .int hi] => if okT x then some (.bl (whole x lo hi)) else none
  | _ => none
def fPoint : List D → Option D
  | [x] => if okT x then some (.bl (point x)) else none
  | _ => none
/-- a point as a tuple -/
def tupOf : D → D
  | .lst xs => .tup xs
  | x => x
def pyD (x : D) : PyData := (x.py).getD .none
def eqD (x y : D) : Bool := PyData.eqv (pyD x) (pyD y)
abbrev big : Int := 1000000000000000000000000000000
/-- the first word that applies -/
def chkBa : List D → Option Str
  | [s, x, w] => if !whole s 0 7 then some "stone" else if !whole x (-1000000) 1000000 then some "x" else if !whole w (-big) big || eqD w (.int 0) then some "weight" else none
  | _ => none
def chkRo : List D → Option Str
  | [a, b, s, e, p] => if !whole a 0 7 then some "one" else if !whole b 0 7 || eqD b a then some "other" else if !point s then some "start" else if !point e || eqD (tupOf e) (tupOf s) then some "end" else if !whole p 1 big then some "pull" else none
  | _ => none
def lett (z : Str) : Bool := z.cps.toList.all fun c => decide (c ∈ ("abcdefghijklmnopqrstuvwxyz" : Str).cps.toList)
def nameOk : D → Bool
  | .str z => decide (1 ≤ (z.length : Int)) && decide ((z.length : Int) ≤ 12) && lett z
  | _ => false
def chkSh : List D → Option Str
  | [x] => if nameOk x then none else some "name"
  | _ => none
def chkSp : List D → Option Str
  | [x] => if !whole x 1 100 then some "extra" else none
  | _ => none
def chk : Kind → List D → Option Str
  | .ba => chkBa
  | .ro => chkRo
  | .sh => chkSh
  | .sp => chkSp
def keys : Kind → List Str
  | .ba => ["stone", "x", "weight"]
  | .ro => ["one", "other", "start", "end", "pull"]
  | .sh => ["name"]
  | .sp => ["extra"]
/-- the attributes' values -/
def vals : List D → List D := List.map tupOf
def flds (k : Kind) (xs : List D) : List (Str × D) := (keys k).zip (vals xs)
def eqAll : List D → List D → Bool
  | x :: xs, y :: ys => eqD x y && eqAll xs ys
  | _, _ => true
/-! ## the promises -/
def cls (A : Adr) : Kind → Addr
  | .ba => A.C_Ballast
  | .ro => A.C_Rod
  | .sh => A.C_Shut
  | .sp => A.C_Spaced
def Bag3 (l : List D) : Prop := ∃ x m c : Int, l = [.int x, .int m, .int c]
def Bag (M : Mem) (p : Addr) : Prop := ∃ l, M p = some (.lst l) ∧ Bag3 l
theorem Bag.put {M : Mem} {p : Addr} {l : List D} (h : Bag3 l) : Bag (M.put p (.lst l)) p := ⟨l, put_same, h⟩
/-- a def that draws: first the bag -/
def spB (dom : List D → Prop) (R : List D → D → Prop) : Sp3 := fun xs M Q _ => ∃ p as, xs = .ref p :: as ∧ Bag M p ∧ dom as ∧ ∀ r l, R as r → Bag3 l → Q r (M.put p (.lst l))
def spIni (A : Adr) (k : Kind) : Sp3 := fun xs M Q E => ∃ p as, xs = .ref p :: as ∧ M p = some (.ins (cls A k) []) ∧ as.length = k.n ∧ (as.map (D.fz M)).all okT = true ∧
  match chk k (as.map (D.fz M)) with
  | some w => E (.ref A.C_BadChange) [("what", .str w)] M
  | none => Q .non (M.put p (.ins (cls A k) (flds k (as.map (D.fz M)))))
def spCmp (K : PySem.W.Frag) (A : Adr) (k : Kind) : Sp3 := fun xs M Q _ => ∃ vs y, xs = [.ins (cls A k) ((keys k).zip vs), y] ∧ vs.length = k.n ∧ vs.all okT = true ∧
  ((∃ ws, y = .ins (cls A k) ((keys k).zip ws) ∧ ws.length = k.n ∧ ws.all okT = true ∧ Q (.bl (eqAll vs ws)) M) ∨
    ∃ t, y.typ M = some t ∧ (∀ C, t = .ref C → ClsD K C) ∧ PySem.W.kitOne K t (.ref (cls A k)) = some false ∧ Q (.bl false) M)
def said (w : Str) : D := .tup [.str "no", .str w, .bl true, .bl true]
/-- what _law_made and _law_named answer -/
def madeOf (A : Adr) (k : Kind) (xs : List D) : D := match chk k xs with
  | some w => said w
  | none => .ins (cls A k) (flds k xs)
def spMade (A : Adr) : Sp3 := fun xs M Q _ => ∃ (k : Kind) (as : List D), xs = [.str k.name, .lst as] ∧ as.length = k.n ∧ (as.map (D.fz M)).all okT = true ∧ Q (madeOf A k (as.map (D.fz M))) M
def whatD : Option Str → D
  | some w => .str w
  | none => .non
def okL (n : Nat) (r : D) : Prop := ∃ xs, r = .lst xs ∧ xs.length = n ∧ xs.all okT = true
def someOf : D → List D
  | .tup xs => xs
  | .lst xs => xs
  | .str z => signsD z
  | _ => []
def domOf : List D → Prop
  | [.str z] => z.length ≠ 0 ∧ z.length ≤ 1000
  | [.lst xs] => xs ≠ [] ∧ xs.length ≤ 1000
  | _ => False
def sp_is_number (K : PySem.W.Frag) (A : Adr) : Sp3 := spF fNum
def sp_is_whole (K : PySem.W.Frag) (A : Adr) : Sp3 := spF fWhole
def sp_is_point (K : PySem.W.Frag) (A : Adr) : Sp3 := spF fPoint
def sp_Ballast_init (K : PySem.W.Frag) (A : Adr) : Sp3 := spIni A .ba
def sp_Rod_init (K : PySem.W.Frag) (A : Adr) : Sp3 := spIni A .ro
def sp_Shut_init (K : PySem.W.Frag) (A : Adr) : Sp3 := spIni A .sh
def sp_Spaced_init (K : PySem.W.Frag) (A : Adr) : Sp3 := spIni A .sp
def sp_Ballast_eq (K : PySem.W.Frag) (A : Adr) : Sp3 := spCmp K A .ba
def sp_Rod_eq (K : PySem.W.Frag) (A : Adr) : Sp3 := spCmp K A .ro
def sp_Shut_eq (K : PySem.W.Frag) (A : Adr) : Sp3 := spCmp K A .sh
def sp_Spaced_eq (K : PySem.W.Frag) (A : Adr) : Sp3 := spCmp K A .sp
def sp_law_bag (K : PySem.W.Frag) (A : Adr) : Sp3 := fun xs M Q _ => ∃ (ns : List Int) (i : Int), xs = [.lst (ns.map .int), .int i] ∧ ns.length ≤ 63 ∧ 0 ≤ i ∧ i ≤ 1000 ∧ ∀ p l, M p = none → Bag3 l → Q (.ref p) (M.put p (.lst l))
def sp_law_take (K : PySem.W.Frag) (A : Adr) : Sp3 := spB (fun as => ∃ n : Int, as = [.int n] ∧ 0 < n ∧ n ≤ big) fun as r => ∃ n i : Int, as = [.int n] ∧ r = .int i ∧ 0 ≤ i ∧ i < n
def sp_law_of (K : PySem.W.Frag) (A : Adr) : Sp3 := spB domOf fun as r => ∃ s, as = [s] ∧ r ∈ someOf s
def sp_law_is_number (K : PySem.W.Frag) (A : Adr) : Sp3 := spF fNum
def sp_law_within (K : PySem.W.Frag) (A : Adr) : Sp3 := spF fWhole
def sp_law_is_point (K : PySem.W.Frag) (A : Adr) : Sp3 := spF fPoint
def sp_law_pick (K : PySem.W.Frag) (A : Adr) : Sp3 := spB (fun as => ∃ g xs, as = [g, .lst xs] ∧ xs ≠ [] ∧ xs.length ≤ 1000) fun as r => ∃ g xs, as = [g, .lst xs] ∧ (r = g ∨ r ∈ xs)
def sp_law_far (K : PySem.W.Frag) (A : Adr) : Sp3 := spB (fun as => as = []) fun _ r => ∃ i : Int, r = .int i
def sp_law_point (K : PySem.W.Frag) (A : Adr) : Sp3 := spB (fun as => as = []) fun _ r => okT r = true
def sp_law_rod (K : PySem.W.Frag) (A : Adr) : Sp3 := spB (fun as => as = []) fun _ r => okL 5 r
def sp_law_things (K : PySem.W.Frag) (A : Adr) : Sp3 := spB (fun as => ∃ k : Kind, as = [.str k.name]) fun as r => ∃ k : Kind, as = [.str k.name] ∧ okL k.n r
def sp_law_due (K : PySem.W.Frag) (A : Adr) : Sp3 := fun xs M Q _ => ∃ (k : Kind) (as : List D), xs = [.str k.name, .lst as] ∧ as.length = k.n ∧ as.all okT = true ∧ Q (whatD (chk k as)) M
def sp_law_made (K : PySem.W.Frag) (A : Adr) : Sp3 := spMade A
def sp_law_named (K : PySem.W.Frag) (A : Adr) : Sp3 := spMade A
def sp_law_fields (K : PySem.W.Frag) (A : Adr) : Sp3 := fun xs M Q _ => ∃ (k : Kind) (vs : List D), xs = [.str k.name, .ins (cls A k) ((keys k).zip vs)] ∧ vs.length = k.n ∧ Q (.lst vs) M
def sp_law_kinds_right (K : PySem.W.Frag) (A : Adr) : Sp3 := fun xs M Q _ => ∃ (k : Kind) (as : List D), xs = [.lst (vals as)] ∧ as.length = k.n ∧ as.all okT = true ∧ chk k as = none ∧ Q (.bl true) M
def sp_law_other (K : PySem.W.Frag) (A : Adr) : Sp3 := spB (fun as => ∃ (k : Kind) (xs : List D), as = [.str k.name, .lst xs] ∧ xs.length = k.n ∧ xs.all okT = true ∧ chk k xs = none)
  fun as r => ∃ (k : Kind) (xs ys : List D), as = [.str k.name, .lst xs] ∧ r = .lst ys ∧ ys.length = k.n ∧ ys.all okT = true ∧ eqAll (vals xs) (vals ys) = false
def sp_law (K : PySem.W.Frag) (A : Adr) : Sp3 := fun xs M Q _ => ∃ ns : List Int, xs = [.lst (ns.map .int)] ∧ ns.length ≤ 63 ∧ ∀ M', Q (.bl true) M'
def okC (A : Adr) (C : Addr) : Prop := ∃ k, C = cls A k
/-- the own == of a class -/
def spE (K : PySem.W.Frag) (A : Adr) (C : Addr) : Sp3 := fun xs M Q E => ∃ k, C = cls A k ∧ spCmp K A k xs M Q E
def t_is_number (K : PySem.W.Frag) (A : Adr) : TS3 := (tRet3 (tAndV3 (tCB3 (aIsi3 K) (tCons3 (tVar3 0) (tCons3 (tC3 (.ty "int")) tNil3))) (tNotV3 (tCB3 (aIsi3 K) (tCons3 (tVar3 0) (tCons3 (tC3 (.ty "bool")) tNil3))))))
def t_is_whole (K : PySem.W.Frag) (A : Adr) : TS3 := (tRet3 (tAndV3 (tCall3 (sp_is_number K A) [] (tCons3 (tVar3 0) tNil3)) (tChain3 leD leD (tVar3 1) (tVar3 0) (tVar3 2))))
def t_is_point (K : PySem.W.Frag) (A : Adr) : TS3 := (tRet3 (tAndV3 (tCB3 (aIsi3 K) (tCons3 (tVar3 0) (tCons3 (tTup3 (tCons3 (tC3 (.ty "list")) (tCons3 (tC3 (.ty "tuple")) tNil3))) tNil3))) (tAndV3 (tOp3 opEqD3 (tCB3 aLen3 (tCons3 (tVar3 0) tNil3)) (tC3 (.int 2))) (tAndV3 (tCall3 (sp_is_whole K A) [] (tCons3 (tOp3 opIx3 (tVar3 0) (tC3 (.int 0))) (tCons3 (tUn3 (unI3 fun i => .int (-i)) (tC3 (.int 1000000))) (tCons3 (tC3 (.int 1000000)) tNil3)))) (tCall3 (sp_is_whole K A) [] (tCons3 (tOp3 opIx3 (tVar3 0) (tC3 (.int 1))) (tCons3 (tUn3 (unI3 fun i => .int (-i)) (tC3 (.int 1000000))) (tCons3 (tC3 (.int 1000000)) tNil3))))))))
def t_Ballast_init (K : PySem.W.Frag) (A : Adr) : TS3 := (tSeq3 (tIfS3 (tNot3 (tTest3 (tCall3 (sp_is_whole K A) [] (tCons3 (tVar3 1) (tCons3 (tC3 (.int 0)) (tCons3 (tC3 (.int 7)) tNil3)))))) (tRaise3 A.C_BadChange ["what"] (tCons3 (tC3 (.str "stone")) tNil3)) tNext3) (tSeq3 (tIfS3 (tNot3 (tTest3 (tCall3 (sp_is_whole K A) [] (tCons3 (tVar3 2) (tCons3 (tUn3 (unI3 fun i => .int (-i)) (tC3 (.int 1000000))) (tCons3 (tC3 (.int 1000000)) tNil3)))))) (tRaise3 A.C_BadChange ["what"] (tCons3 (tC3 (.str "x")) tNil3)) tNext3) (tSeq3 (tIfS3 (tOr3 (tNot3 (tTest3 (tCall3 (sp_is_whole K A) [] (tCons3 (tVar3 3) (tCons3 (tUn3 (unI3 fun i => .int (-i)) (tC3 (.int 1000000000000000000000000000000))) (tCons3 (tC3 (.int 1000000000000000000000000000000)) tNil3)))))) (tTest3 (tOp3 opEqD3 (tVar3 3) (tC3 (.int 0))))) (tRaise3 A.C_BadChange ["what"] (tCons3 (tC3 (.str "weight")) tNil3)) tNext3) (tSeq3 (tFldS3 K "stone" (tVar3 0) (tVar3 1)) (tSeq3 (tFldS3 K "x" (tVar3 0) (tVar3 2)) (tFldS3 K "weight" (tVar3 0) (tVar3 3)))))))
def t_Ballast_eq (K : PySem.W.Frag) (A : Adr) : TS3 := (tRet3 (tAndV3 (tCB3 (aIsi3 K) (tCons3 (tVar3 1) (tCons3 (tC3 (.ref A.C_Ballast)) tNil3))) (tAndV3 (tOp3 opEqD3 (tUn3 (fld3 K "stone") (tVar3 0)) (tUn3 (fld3 K "stone") (tVar3 1))) (tAndV3 (tOp3 opEqD3 (tUn3 (fld3 K "x") (tVar3 0)) (tUn3 (fld3 K "x") (tVar3 1))) (tOp3 opEqD3 (tUn3 (fld3 K "weight") (tVar3 0)) (tUn3 (fld3 K "weight") (tVar3 1)))))))
def t_Rod_init (K : PySem.W.Frag) (A : Adr) : TS3 := (tSeq3 (tIfS3 (tNot3 (tTest3 (tCall3 (sp_is_whole K A) [] (tCons3 (tVar3 1) (tCons3 (tC3 (.int 0)) (tCons3 (tC3 (.int 7)) tNil3)))))) (tRaise3 A.C_BadChange ["what"] (tCons3 (tC3 (.str "one")) tNil3)) tNext3) (tSeq3 (tIfS3 (tOr3 (tNot3 (tTest3 (tCall3 (sp_is_whole K A) [] (tCons3 (tVar3 2) (tCons3 (tC3 (.int 0)) (tCons3 (tC3 (.int 7)) tNil3)))))) (tTest3 (tOp3 opEqD3 (tVar3 2) (tVar3 1)))) (tRaise3 A.C_BadChange ["what"] (tCons3 (tC3 (.str "other")) tNil3)) tNext3) (tSeq3 (tIfS3 (tNot3 (tTest3 (tCall3 (sp_is_point K A) [] (tCons3 (tVar3 3) tNil3)))) (tRaise3 A.C_BadChange ["what"] (tCons3 (tC3 (.str "start")) tNil3)) tNext3) (tSeq3 (tIfS3 (tOr3 (tNot3 (tTest3 (tCall3 (sp_is_point K A) [] (tCons3 (tVar3 4) tNil3)))) (tTest3 (tOp3 opEqD3 (tCB3 aTup3 (tCons3 (tVar3 4) tNil3)) (tCB3 aTup3 (tCons3 (tVar3 3) tNil3))))) (tRaise3 A.C_BadChange ["what"] (tCons3 (tC3 (.str "end")) tNil3)) tNext3) (tSeq3 (tIfS3 (tNot3 (tTest3 (tCall3 (sp_is_whole K A) [] (tCons3 (tVar3 5) (tCons3 (tC3 (.int 1)) (tCons3 (tC3 (.int 1000000000000000000000000000000)) tNil3)))))) (tRaise3 A.C_BadChange ["what"] (tCons3 (tC3 (.str "pull")) tNil3)) tNext3) (tSeq3 (tFldS3 K "one" (tVar3 0) (tVar3 1)) (tSeq3 (tFldS3 K "other" (tVar3 0) (tVar3 2)) (tSeq3 (tFldS3 K "start" (tVar3 0) (tCB3 aTup3 (tCons3 (tVar3 3) tNil3))) (tSeq3 (tFldS3 K "end" (tVar3 0) (tCB3 aTup3 (tCons3 (tVar3 4) tNil3))) (tFldS3 K "pull" (tVar3 0) (tVar3 5)))))))))))
def t_Rod_eq (K : PySem.W.Frag) (A : Adr) : TS3 := (tRet3 (tAndV3 (tCB3 (aIsi3 K) (tCons3 (tVar3 1) (tCons3 (tC3 (.ref A.C_Rod)) tNil3))) (tAndV3 (tOp3 opEqD3 (tUn3 (fld3 K "one") (tVar3 0)) (tUn3 (fld3 K "one") (tVar3 1))) (tAndV3 (tOp3 opEqD3 (tUn3 (fld3 K "other") (tVar3 0)) (tUn3 (fld3 K "other") (tVar3 1))) (tAndV3 (tOp3 opEqD3 (tUn3 (fld3 K "start") (tVar3 0)) (tUn3 (fld3 K "start") (tVar3 1))) (tAndV3 (tOp3 opEqD3 (tUn3 (fld3 K "end") (tVar3 0)) (tUn3 (fld3 K "end") (tVar3 1))) (tOp3 opEqD3 (tUn3 (fld3 K "pull") (tVar3 0)) (tUn3 (fld3 K "pull") (tVar3 1)))))))))
def t_Shut_init (K : PySem.W.Frag) (A : Adr) : TS3 := (tSeq3 (tIfS3 (tOr3 (tNot3 (tTest3 (tCB3 (aIsi3 K) (tCons3 (tVar3 1) (tCons3 (tC3 (.ty "str")) tNil3))))) (tNot3 (tTest3 (tChain3 leD leD (tC3 (.int 1)) (tCB3 aLen3 (tCons3 (tVar3 1) tNil3)) (tC3 (.int 12)))))) (tRaise3 A.C_BadChange ["what"] (tCons3 (tC3 (.str "name")) tNil3)) tNext3) (tSeq3 (tIfS3 (tTest3 (tCB3 aAny3 (tCons3 (tLc3 (iStr3 (tVar3 1)) (.one 2) [2] tYes3 (tOp3 (inD3 true) (tVar3 2) (tC3 (.str "abcdefghijklmnopqrstuvwxyz")))) tNil3))) (tRaise3 A.C_BadChange ["what"] (tCons3 (tC3 (.str "name")) tNil3)) tNext3) (tFldS3 K "name" (tVar3 0) (tVar3 1))))
def t_Shut_eq (K : PySem.W.Frag) (A : Adr) : TS3 := (tRet3 (tAndV3 (tCB3 (aIsi3 K) (tCons3 (tVar3 1) (tCons3 (tC3 (.ref A.C_Shut)) tNil3))) (tOp3 opEqD3 (tUn3 (fld3 K "name") (tVar3 0)) (tUn3 (fld3 K "name") (tVar3 1)))))
def t_Spaced_init (K : PySem.W.Frag) (A : Adr) : TS3 := (tSeq3 (tIfS3 (tNot3 (tTest3 (tCall3 (sp_is_whole K A) [] (tCons3 (tVar3 1) (tCons3 (tC3 (.int 1)) (tCons3 (tC3 (.int 100)) tNil3)))))) (tRaise3 A.C_BadChange ["what"] (tCons3 (tC3 (.str "extra")) tNil3)) tNext3) (tFldS3 K "extra" (tVar3 0) (tVar3 1)))
def t_Spaced_eq (K : PySem.W.Frag) (A : Adr) : TS3 := (tRet3 (tAndV3 (tCB3 (aIsi3 K) (tCons3 (tVar3 1) (tCons3 (tC3 (.ref A.C_Spaced)) tNil3))) (tOp3 opEqD3 (tUn3 (fld3 K "extra") (tVar3 0)) (tUn3 (fld3 K "extra") (tVar3 1)))))
def t_law_bag (K : PySem.W.Frag) (A : Adr) : TS3 := (tSeq3 (tAsg3 (tIf3 (tTest3 (tOp3 ltD (tVar3 1) (tCB3 aLen3 (tCons3 (tVar3 0) tNil3)))) (tCB3 (aInt1 fun i => .int (if i < 0 then -i else i)) (tCons3 (tOp3 opIx3 (tVar3 0) (tVar3 1)) tNil3)) (tC3 (.int 0))) (gName3 2)) (tSeq3 (tAsg3 (tOp3 opAdd3 (tC3 (.int 70003)) (tOp3 (opIC3 CMulX fun i j => .int (i * j)) (tC3 (.int 6997)) (tVar3 1))) (gName3 3)) (tSeq3 (tFor3 (iEnum3 (tCons3 (tSl3 slX (tVar3 0) tNoPart3 (tPart3 (tC3 (.int 63)))) tNil3)) (gSeq3 2 (gCons3 (gName3 4) (gCons3 (gName3 5) gNil3))) (tAsg3 (tOp3 (opIC3 (fun _ j => 0 < j) fun i j => .int (i % j)) (tCB3 aIntOf (tCons3 (tOp3 opAdd3 (tOp3 opAdd3 (tOp3 (opIC3 CMulX fun i j => .int (i * j)) (tVar3 3) (tC3 (.int 40014))) (tOp3 (opIC3 (fun _ j => 0 < j) fun i j => .int (i % j)) (tCB3 aIntOf (tCons3 (tVar3 5) tNil3)) (tC3 (.int 2147483543)))) (tOp3 (opIC3 CMulX fun i j => .int (i * j)) (tC3 (.int 101)) (tVar3 4))) tNil3)) (tC3 (.int 2147483563))) (gName3 3))) (tRet3 (tLstM3 (tCons3 (tIf3 (tTest3 (tOp3 geD (tVar3 2) (tOp3 (opIC3 CPow fun i j => .int (i ^ j.toNat)) (tC3 (.int 10)) (tC3 (.int 18))))) (tVar3 2) (tC3 (.int 0))) (tCons3 (tVar3 3) (tCons3 (tC3 (.int 0)) tNil3))))))))
def t_law_take (K : PySem.W.Frag) (A : Adr) : TS3 := (tSeq3 (tIfS3 (tTest3 (tOp3 gtD (tOp3 opIx3 (tVar3 0) (tC3 (.int 0))) (tC3 (.int 0)))) (tSeq3 (tAsg3 (tOp3 (opIC3 (fun _ j => 0 < j) fun i j => .int (i % j)) (tCB3 aIntOf (tCons3 (tOp3 opIx3 (tVar3 0) (tC3 (.int 0))) tNil3)) (tVar3 1)) (gName3 2)) (tSeq3 (tAsg3 (tOp3 (opIC3 CDivW fun i j => .int (i / j)) (tOp3 opIx3 (tVar3 0) (tC3 (.int 0))) (tVar3 1)) (gSub3 (tVar3 0) (tC3 (.int 0)))) (tRet3 (tVar3 2)))) tNext3) (tSeq3 (tAsg3 (tOp3 opAdd3 (tOp3 opIx3 (tVar3 0) (tC3 (.int 2))) (tC3 (.int 1))) (gSub3 (tVar3 0) (tC3 (.int 2)))) (tSeq3 (tAsg3 (tOp3 (opIC3 (fun _ j => 0 < j) fun i j => .int (i % j)) (tCB3 aIntOf (tCons3 (tOp3 opAdd3 (tOp3 opAdd3 (tOp3 (opIC3 CMulX fun i j => .int (i * j)) (tOp3 opIx3 (tVar3 0) (tC3 (.int 1))) (tC3 (.int 48271))) (tOp3 (opIC3 CMulX fun i j => .int (i * j)) (tC3 (.int 11)) (tOp3 opIx3 (tVar3 0) (tC3 (.int 2))))) (tC3 (.int 7))) tNil3)) (tC3 (.int 2147483647))) (gSub3 (tVar3 0) (tC3 (.int 1)))) (tRet3 (tOp3 (opIC3 (fun _ j => 0 < j) fun i j => .int (i % j)) (tOp3 (opIC3 CDivW fun i j => .int (i / j)) (tOp3 (opIC3 (fun _ j => 0 < j) fun i j => .int (i % j)) (tCB3 aIntOf (tCons3 (tOp3 (opIC3 CMulX fun i j => .int (i * j)) (tOp3 opIx3 (tVar3 0) (tC3 (.int 1))) (tC3 (.int 16807))) tNil3)) (tC3 (.int 2147483629))) (tC3 (.int 64))) (tVar3 1))))))
def t_law_of (K : PySem.W.Frag) (A : Adr) : TS3 := (tRet3 (tOp3 opIx3 (tVar3 1) (tCall3 (sp_law_take K A) [] (tCons3 (tVar3 0) (tCons3 (tCB3 aLen3 (tCons3 (tVar3 1) tNil3)) tNil3)))))
def t_law_is_number (K : PySem.W.Frag) (A : Adr) : TS3 := (tRet3 (tAndV3 (tCB3 (aIsi3 K) (tCons3 (tVar3 0) (tCons3 (tC3 (.ty "int")) tNil3))) (tNotV3 (tCB3 (aIsi3 K) (tCons3 (tVar3 0) (tCons3 (tC3 (.ty "bool")) tNil3))))))
def t_law_within (K : PySem.W.Frag) (A : Adr) : TS3 := (tRet3 (tAndV3 (tCall3 (sp_law_is_number K A) [] (tCons3 (tVar3 0) tNil3)) (tChain3 leD leD (tVar3 1) (tVar3 0) (tVar3 2))))
def t_law_is_point (K : PySem.W.Frag) (A : Adr) : TS3 := (tSeq3 (tIfS3 (tOr3 (tNot3 (tTest3 (tCB3 (aIsi3 K) (tCons3 (tVar3 0) (tCons3 (tTup3 (tCons3 (tC3 (.ty "list")) (tCons3 (tC3 (.ty "tuple")) tNil3))) tNil3))))) (tTest3 (tOp3 opNeD3 (tCB3 aLen3 (tCons3 (tVar3 0) tNil3)) (tC3 (.int 2))))) (tRet3 (tC3 (.bl false))) tNext3) (tRet3 (tAndV3 (tCall3 (sp_law_within K A) [] (tCons3 (tOp3 opIx3 (tVar3 0) (tC3 (.int 0))) (tCons3 (tUn3 (unI3 fun i => .int (-i)) (tOp3 (opIC3 CPow fun i j => .int (i ^ j.toNat)) (tC3 (.int 10)) (tC3 (.int 6)))) (tCons3 (tOp3 (opIC3 CPow fun i j => .int (i ^ j.toNat)) (tC3 (.int 10)) (tC3 (.int 6))) tNil3)))) (tCall3 (sp_law_within K A) [] (tCons3 (tOp3 opIx3 (tVar3 0) (tC3 (.int 1))) (tCons3 (tUn3 (unI3 fun i => .int (-i)) (tOp3 (opIC3 CPow fun i j => .int (i ^ j.toNat)) (tC3 (.int 10)) (tC3 (.int 6)))) (tCons3 (tOp3 (opIC3 CPow fun i j => .int (i ^ j.toNat)) (tC3 (.int 10)) (tC3 (.int 6))) tNil3)))))))
def t_law_pick (K : PySem.W.Frag) (A : Adr) : TS3 := (tRet3 (tIf3 (tTest3 (tOp3 opEqD3 (tCall3 (sp_law_take K A) [] (tCons3 (tVar3 0) (tCons3 (tC3 (.int 9)) tNil3))) (tC3 (.int 0)))) (tCall3 (sp_law_of K A) [] (tCons3 (tVar3 0) (tCons3 (tVar3 2) tNil3))) (tVar3 1)))
def t_law_far (K : PySem.W.Frag) (A : Adr) : TS3 := (tRet3 (tCall3 (sp_law_of K A) [] (tCons3 (tVar3 0) (tCons3 (tLst3 (tCons3 (tOp3 (opIC3 CPow fun i j => .int (i ^ j.toNat)) (tC3 (.int 10)) (tC3 (.int 6))) (tCons3 (tUn3 (unI3 fun i => .int (-i)) (tOp3 (opIC3 CPow fun i j => .int (i ^ j.toNat)) (tC3 (.int 10)) (tC3 (.int 6)))) (tCons3 (tOp3 (opI3 fun i j => .int (i - j)) (tCall3 (sp_law_take K A) [] (tCons3 (tVar3 0) (tCons3 (tOp3 opAdd3 (tOp3 (opIC3 CMulX fun i j => .int (i * j)) (tC3 (.int 2)) (tOp3 (opIC3 CPow fun i j => .int (i ^ j.toNat)) (tC3 (.int 10)) (tC3 (.int 6)))) (tC3 (.int 1))) tNil3))) (tOp3 (opIC3 CPow fun i j => .int (i ^ j.toNat)) (tC3 (.int 10)) (tC3 (.int 6)))) (tCons3 (tOp3 (opI3 fun i j => .int (i - j)) (tCall3 (sp_law_take K A) [] (tCons3 (tVar3 0) (tCons3 (tC3 (.int 9)) tNil3))) (tC3 (.int 4))) tNil3))))) tNil3))))
def t_law_point (K : PySem.W.Frag) (A : Adr) : TS3 := (tSeq3 (tPar3 1 2 (tCons3 (tCall3 (sp_law_far K A) [] (tCons3 (tVar3 0) tNil3)) (tCons3 (tCall3 (sp_law_far K A) [] (tCons3 (tVar3 0) tNil3)) tNil3))) (tSeq3 (tAsg3 (tIf3 (tTest3 (tOp3 opEqD3 (tCall3 (sp_law_take K A) [] (tCons3 (tVar3 0) (tCons3 (tC3 (.int 2)) tNil3))) (tC3 (.int 0)))) (tLst3 (tCons3 (tVar3 1) (tCons3 (tVar3 2) tNil3))) (tTup3 (tCons3 (tVar3 1) (tCons3 (tVar3 2) tNil3)))) (gName3 3)) (tSeq3 (tAsg3 (tLst3 (tCons3 (tC3 .non) (tCons3 (tTup3 (tCons3 (tVar3 1) tNil3)) (tCons3 (tTup3 (tCons3 (tVar3 1) (tCons3 (tVar3 2) (tCons3 (tC3 (.int 0)) tNil3)))) (tCons3 (tTup3 (tCons3 (tC3 (.bl true)) (tCons3 (tVar3 2) tNil3))) (tCons3 (tTup3 (tCons3 (tVar3 1) (tCons3 (tC3 .non) tNil3))) (tCons3 (tC3 (.str "xy")) (tCons3 (tTup3 (tCons3 (tOp3 opAdd3 (tOp3 (opIC3 CPow fun i j => .int (i ^ j.toNat)) (tC3 (.int 10)) (tC3 (.int 6))) (tC3 (.int 1))) (tCons3 (tVar3 2) tNil3))) (tCons3 (tTup3 (tCons3 (tVar3 1) (tCons3 (tOp3 (opI3 fun i j => .int (i - j)) (tUn3 (unI3 fun i => .int (-i)) (tOp3 (opIC3 CPow fun i j => .int (i ^ j.toNat)) (tC3 (.int 10)) (tC3 (.int 6)))) (tC3 (.int 1))) tNil3))) (tCons3 (tC3 (.int 0)) (tCons3 (tTup3 (tCons3 (tVar3 1) (tCons3 (tC3 (.str "0")) tNil3))) (tCons3 (tLst3 (tCons3 (tC3 (.bl false)) (tCons3 (tVar3 2) tNil3))) tNil3)))))))))))) (gName3 4)) (tRet3 (tCall3 (sp_law_pick K A) [] (tCons3 (tVar3 0) (tCons3 (tVar3 3) (tCons3 (tVar3 4) tNil3))))))))
def t_law_rod (K : PySem.W.Frag) (A : Adr) : TS3 := (tSeq3 (tAsg3 (tCall3 (sp_law_take K A) [] (tCons3 (tVar3 0) (tCons3 (tC3 (.int 8)) tNil3))) (gName3 1)) (tSeq3 (tAsg3 (tOp3 (opIC3 (fun _ j => 0 < j) fun i j => .int (i % j)) (tCB3 aIntOf (tCons3 (tOp3 opAdd3 (tOp3 opAdd3 (tVar3 1) (tC3 (.int 1))) (tCall3 (sp_law_take K A) [] (tCons3 (tVar3 0) (tCons3 (tC3 (.int 7)) tNil3)))) tNil3)) (tC3 (.int 8))) (gName3 2)) (tSeq3 (tPar3 3 4 (tCons3 (tCall3 (sp_law_point K A) [] (tCons3 (tVar3 0) tNil3)) (tCons3 (tCall3 (sp_law_point K A) [] (tCons3 (tVar3 0) tNil3)) tNil3))) (tSeq3 (tIfS3 (tAnd3 (tTest3 (tCall3 (sp_law_is_point K A) [] (tCons3 (tVar3 3) tNil3))) (tAnd3 (tTest3 (tCall3 (sp_law_is_point K A) [] (tCons3 (tVar3 4) tNil3))) (tTest3 (tOp3 opEqD3 (tCB3 aTup3 (tCons3 (tVar3 3) tNil3)) (tCB3 aTup3 (tCons3 (tVar3 4) tNil3)))))) (tAsg3 (tTup3 (tCons3 (tOp3 opIx3 (tVar3 4) (tC3 (.int 0))) (tCons3 (tIf3 (tTest3 (tOp3 gtD (tOp3 opIx3 (tVar3 4) (tC3 (.int 1))) (tC3 (.int 0)))) (tOp3 (opI3 fun i j => .int (i - j)) (tOp3 opIx3 (tVar3 4) (tC3 (.int 1))) (tC3 (.int 1))) (tOp3 opAdd3 (tOp3 opIx3 (tVar3 4) (tC3 (.int 1))) (tC3 (.int 1)))) tNil3))) (gName3 4)) tNext3) (tSeq3 (tIfS3 (tAnd3 (tTest3 (tCall3 (sp_law_is_point K A) [] (tCons3 (tVar3 3) tNil3))) (tTest3 (tOp3 opEqD3 (tCall3 (sp_law_take K A) [] (tCons3 (tVar3 0) (tCons3 (tC3 (.int 12)) tNil3))) (tC3 (.int 0))))) (tAsg3 (tIf3 (tTest3 (tOp3 opEqD3 (tCall3 (sp_law_take K A) [] (tCons3 (tVar3 0) (tCons3 (tC3 (.int 2)) tNil3))) (tC3 (.int 0)))) (tCB3 aTup3 (tCons3 (tVar3 3) tNil3)) (tCB3 aList3 (tCons3 (tVar3 3) tNil3))) (gName3 4)) tNext3) (tSeq3 (tAsg3 (tCall3 (sp_law_pick K A) [] (tCons3 (tVar3 0) (tCons3 (tCall3 (sp_law_of K A) [] (tCons3 (tVar3 0) (tCons3 (tLst3 (tCons3 (tC3 (.int 1)) (tCons3 (tOp3 (opIC3 CPow fun i j => .int (i ^ j.toNat)) (tC3 (.int 10)) (tC3 (.int 30))) (tCons3 (tOp3 opAdd3 (tC3 (.int 1)) (tCall3 (sp_law_take K A) [] (tCons3 (tVar3 0) (tCons3 (tOp3 (opIC3 CPow fun i j => .int (i ^ j.toNat)) (tC3 (.int 10)) (tC3 (.int 30))) tNil3)))) tNil3)))) tNil3))) (tCons3 (tLst3 (tCons3 (tC3 (.int 0)) (tCons3 (tUn3 (unI3 fun i => .int (-i)) (tC3 (.int 1))) (tCons3 (tOp3 opAdd3 (tOp3 (opIC3 CPow fun i j => .int (i ^ j.toNat)) (tC3 (.int 10)) (tC3 (.int 30))) (tC3 (.int 1))) (tCons3 (tC3 (.bl true)) (tCons3 (tC3 .non) (tCons3 (tC3 (.str "1")) tNil3))))))) tNil3)))) (gName3 5)) (tSeq3 (tAsg3 (tCall3 (sp_law_pick K A) [] (tCons3 (tVar3 0) (tCons3 (tVar3 2) (tCons3 (tLst3 (tCons3 (tVar3 1) (tCons3 (tUn3 (unI3 fun i => .int (-i)) (tC3 (.int 1))) (tCons3 (tC3 (.int 8)) (tCons3 (tC3 .non) (tCons3 (tC3 (.bl false)) (tCons3 (tC3 (.str "1")) tNil3))))))) tNil3)))) (gName3 2)) (tRet3 (tLst3 (tCons3 (tCall3 (sp_law_pick K A) [] (tCons3 (tVar3 0) (tCons3 (tVar3 1) (tCons3 (tLst3 (tCons3 (tUn3 (unI3 fun i => .int (-i)) (tC3 (.int 1))) (tCons3 (tC3 (.int 8)) (tCons3 (tC3 (.bl true)) (tCons3 (tC3 .non) (tCons3 (tC3 (.str "0")) tNil3)))))) tNil3)))) (tCons3 (tVar3 2) (tCons3 (tVar3 3) (tCons3 (tVar3 4) (tCons3 (tVar3 5) tNil3))))))))))))))
def t_law_things (K : PySem.W.Frag) (A : Adr) : TS3 := (tSeq3 (tIfS3 (tTest3 (tOp3 opEqD3 (tVar3 1) (tC3 (.str "rod")))) (tRet3 (tCall3 (sp_law_rod K A) [] (tCons3 (tVar3 0) tNil3))) tNext3) (tSeq3 (tIfS3 (tTest3 (tOp3 opEqD3 (tVar3 1) (tC3 (.str "ballast")))) (tSeq3 (tAsg3 (tCall3 (sp_law_of K A) [] (tCons3 (tVar3 0) (tCons3 (tLst3 (tCons3 (tC3 (.int 1)) (tCons3 (tOp3 (opIC3 CPow fun i j => .int (i ^ j.toNat)) (tC3 (.int 10)) (tC3 (.int 30))) (tCons3 (tOp3 opAdd3 (tC3 (.int 1)) (tCall3 (sp_law_take K A) [] (tCons3 (tVar3 0) (tCons3 (tOp3 (opIC3 CPow fun i j => .int (i ^ j.toNat)) (tC3 (.int 10)) (tC3 (.int 30))) tNil3)))) tNil3)))) tNil3))) (gName3 2)) (tSeq3 (tAsg3 (tLst3 (tCons3 (tC3 (.int 0)) (tCons3 (tOp3 opAdd3 (tOp3 (opIC3 CPow fun i j => .int (i ^ j.toNat)) (tC3 (.int 10)) (tC3 (.int 30))) (tC3 (.int 1))) (tCons3 (tOp3 (opI3 fun i j => .int (i - j)) (tUn3 (unI3 fun i => .int (-i)) (tOp3 (opIC3 CPow fun i j => .int (i ^ j.toNat)) (tC3 (.int 10)) (tC3 (.int 30)))) (tC3 (.int 1))) (tCons3 (tC3 (.bl true)) (tCons3 (tC3 (.bl false)) (tCons3 (tC3 .non) (tCons3 (tC3 (.str "1")) tNil3)))))))) (gName3 3)) (tSeq3 (tAsg3 (tCall3 (sp_law_pick K A) [] (tCons3 (tVar3 0) (tCons3 (tIf3 (tTest3 (tOp3 opEqD3 (tCall3 (sp_law_take K A) [] (tCons3 (tVar3 0) (tCons3 (tC3 (.int 2)) tNil3))) (tC3 (.int 0)))) (tVar3 2) (tUn3 (unI3 fun i => .int (-i)) (tVar3 2))) (tCons3 (tVar3 3) tNil3)))) (gName3 4)) (tSeq3 (tAsg3 (tCall3 (sp_law_pick K A) [] (tCons3 (tVar3 0) (tCons3 (tCall3 (sp_law_far K A) [] (tCons3 (tVar3 0) tNil3)) (tCons3 (tLst3 (tCons3 (tOp3 opAdd3 (tOp3 (opIC3 CPow fun i j => .int (i ^ j.toNat)) (tC3 (.int 10)) (tC3 (.int 6))) (tC3 (.int 1))) (tCons3 (tOp3 (opI3 fun i j => .int (i - j)) (tUn3 (unI3 fun i => .int (-i)) (tOp3 (opIC3 CPow fun i j => .int (i ^ j.toNat)) (tC3 (.int 10)) (tC3 (.int 6)))) (tC3 (.int 1))) (tCons3 (tC3 (.bl false)) (tCons3 (tC3 .non) (tCons3 (tC3 (.str "0")) (tCons3 (tTup3 (tCons3 (tC3 (.int 0)) (tCons3 (tC3 (.int 0)) tNil3))) tNil3))))))) tNil3)))) (gName3 5)) (tRet3 (tLst3 (tCons3 (tCall3 (sp_law_pick K A) [] (tCons3 (tVar3 0) (tCons3 (tCall3 (sp_law_take K A) [] (tCons3 (tVar3 0) (tCons3 (tC3 (.int 8)) tNil3))) (tCons3 (tLst3 (tCons3 (tUn3 (unI3 fun i => .int (-i)) (tC3 (.int 1))) (tCons3 (tC3 (.int 8)) (tCons3 (tC3 (.bl true)) (tCons3 (tC3 .non) (tCons3 (tC3 (.str "0")) (tCons3 (tOp3 (opIC3 CPow fun i j => .int (i ^ j.toNat)) (tC3 (.int 10)) (tC3 (.int 20))) tNil3))))))) tNil3)))) (tCons3 (tVar3 5) (tCons3 (tVar3 4) tNil3))))))))) tNext3) (tSeq3 (tIfS3 (tTest3 (tOp3 opEqD3 (tVar3 1) (tC3 (.str "spaced")))) (tRet3 (tLst3 (tCons3 (tCall3 (sp_law_pick K A) [] (tCons3 (tVar3 0) (tCons3 (tOp3 opAdd3 (tC3 (.int 1)) (tCall3 (sp_law_take K A) [] (tCons3 (tVar3 0) (tCons3 (tC3 (.int 100)) tNil3)))) (tCons3 (tLst3 (tCons3 (tC3 (.int 0)) (tCons3 (tC3 (.int 101)) (tCons3 (tUn3 (unI3 fun i => .int (-i)) (tC3 (.int 1))) (tCons3 (tC3 (.bl true)) (tCons3 (tC3 .non) (tCons3 (tC3 (.str "1")) (tCons3 (tOp3 (opIC3 CPow fun i j => .int (i ^ j.toNat)) (tC3 (.int 10)) (tC3 (.int 30))) tNil3)))))))) tNil3)))) tNil3))) tNext3) (tSeq3 (tAsg3 (tC3 (.str "")) (gName3 6)) (tSeq3 (tFor3 (iRng13 (tCons3 (tCall3 (sp_law_of K A) [] (tCons3 (tVar3 0) (tCons3 (tLst3 (tCons3 (tC3 (.int 1)) (tCons3 (tC3 (.int 1)) (tCons3 (tC3 (.int 2)) (tCons3 (tC3 (.int 3)) (tCons3 (tC3 (.int 7)) (tCons3 (tC3 (.int 12)) tNil3))))))) tNil3))) tNil3)) (gName3 7) (tAsg3 (tOp3 opAdd3 (tVar3 6) (tCall3 (sp_law_of K A) [] (tCons3 (tVar3 0) (tCons3 (tC3 (.str "abcdefghijklmnopqrstuvwxyz")) tNil3)))) (gName3 6))) (tRet3 (tLst3 (tCons3 (tCall3 (sp_law_pick K A) [] (tCons3 (tVar3 0) (tCons3 (tVar3 6) (tCons3 (tLst3 (tCons3 (tC3 (.str "")) (tCons3 (tOp3 opAdd3 (tVar3 6) (tC3 (.str "abcdefghijkl"))) (tCons3 (tOp3 opAdd3 (tSl3 slX (tVar3 6) (tPart3 (tC3 (.int 1))) tNoPart3) (tC3 (.str "A"))) (tCons3 (tC3 (.str "1")) (tCons3 (tOp3 opAdd3 (tSl3 slX (tVar3 6) (tPart3 (tC3 (.int 1))) tNoPart3) (tC3 (.str " "))) (tCons3 (tC3 .non) (tCons3 (tC3 (.int 0)) (tCons3 (tLst3 (tCons3 (tVar3 6) tNil3)) (tCons3 (tTup3 (tCons3 (tC3 (.str "a")) tNil3)) tNil3)))))))))) tNil3)))) tNil3))))))))
def t_law_due (K : PySem.W.Frag) (A : Adr) : TS3 := (tSeq3 (tIfS3 (tTest3 (tOp3 opEqD3 (tVar3 0) (tC3 (.str "ballast")))) (tSeq3 (tAsg3 (tLstM3 (tCons3 (tTup3 (tCons3 (tC3 (.str "stone")) (tCons3 (tCall3 (sp_law_within K A) [] (tCons3 (tOp3 opIx3 (tVar3 1) (tC3 (.int 0))) (tCons3 (tC3 (.int 0)) (tCons3 (tC3 (.int 7)) tNil3)))) tNil3))) (tCons3 (tTup3 (tCons3 (tC3 (.str "x")) (tCons3 (tCall3 (sp_law_within K A) [] (tCons3 (tOp3 opIx3 (tVar3 1) (tC3 (.int 1))) (tCons3 (tUn3 (unI3 fun i => .int (-i)) (tOp3 (opIC3 CPow fun i j => .int (i ^ j.toNat)) (tC3 (.int 10)) (tC3 (.int 6)))) (tCons3 (tOp3 (opIC3 CPow fun i j => .int (i ^ j.toNat)) (tC3 (.int 10)) (tC3 (.int 6))) tNil3)))) tNil3))) tNil3))) (gName3 2)) (tDrop3 (tApp3 (tVar3 2) (tTup3 (tCons3 (tC3 (.str "weight")) (tCons3 (tAndV3 (tCall3 (sp_law_within K A) [] (tCons3 (tOp3 opIx3 (tVar3 1) (tC3 (.int 2))) (tCons3 (tUn3 (unI3 fun i => .int (-i)) (tOp3 (opIC3 CPow fun i j => .int (i ^ j.toNat)) (tC3 (.int 10)) (tC3 (.int 30)))) (tCons3 (tOp3 (opIC3 CPow fun i j => .int (i ^ j.toNat)) (tC3 (.int 10)) (tC3 (.int 30))) tNil3)))) (tOp3 opNeD3 (tOp3 opIx3 (tVar3 1) (tC3 (.int 2))) (tC3 (.int 0)))) tNil3)))))) (tIfS3 (tTest3 (tOp3 opEqD3 (tVar3 0) (tC3 (.str "rod")))) (tSeq3 (tAsg3 (tVar3 1) (gSeq3 5 (gCons3 (gName3 3) (gCons3 (gName3 4) (gCons3 (gName3 5) (gCons3 (gName3 6) (gCons3 (gName3 7) gNil3))))))) (tSeq3 (tAsg3 (tLstM3 (tCons3 (tTup3 (tCons3 (tC3 (.str "one")) (tCons3 (tCall3 (sp_law_within K A) [] (tCons3 (tVar3 3) (tCons3 (tC3 (.int 0)) (tCons3 (tC3 (.int 7)) tNil3)))) tNil3))) (tCons3 (tTup3 (tCons3 (tC3 (.str "other")) (tCons3 (tAndV3 (tCall3 (sp_law_within K A) [] (tCons3 (tVar3 4) (tCons3 (tC3 (.int 0)) (tCons3 (tC3 (.int 7)) tNil3)))) (tOp3 opNeD3 (tVar3 4) (tVar3 3))) tNil3))) tNil3))) (gName3 2)) (tSeq3 (tAsg3 (tAndV3 (tCall3 (sp_law_is_point K A) [] (tCons3 (tVar3 5) tNil3)) (tCall3 (sp_law_is_point K A) [] (tCons3 (tVar3 6) tNil3))) (gName3 8)) (tSeq3 (tDrop3 (tApp3 (tVar3 2) (tTup3 (tCons3 (tC3 (.str "start")) (tCons3 (tCall3 (sp_law_is_point K A) [] (tCons3 (tVar3 5) tNil3)) tNil3))))) (tSeq3 (tDrop3 (tApp3 (tVar3 2) (tTup3 (tCons3 (tC3 (.str "end")) (tCons3 (tAndV3 (tVar3 8) (tOp3 opNeD3 (tCB3 aTup3 (tCons3 (tVar3 5) tNil3)) (tCB3 aTup3 (tCons3 (tVar3 6) tNil3)))) tNil3))))) (tDrop3 (tApp3 (tVar3 2) (tTup3 (tCons3 (tC3 (.str "pull")) (tCons3 (tCall3 (sp_law_within K A) [] (tCons3 (tVar3 7) (tCons3 (tC3 (.int 1)) (tCons3 (tOp3 (opIC3 CPow fun i j => .int (i ^ j.toNat)) (tC3 (.int 10)) (tC3 (.int 30))) tNil3)))) tNil3)))))))))) (tIfS3 (tTest3 (tOp3 opEqD3 (tVar3 0) (tC3 (.str "spaced")))) (tAsg3 (tLstM3 (tCons3 (tTup3 (tCons3 (tC3 (.str "extra")) (tCons3 (tCall3 (sp_law_within K A) [] (tCons3 (tOp3 opIx3 (tVar3 1) (tC3 (.int 0))) (tCons3 (tC3 (.int 1)) (tCons3 (tC3 (.int 100)) tNil3)))) tNil3))) tNil3)) (gName3 2)) (tSeq3 (tAsg3 (tOp3 opIx3 (tVar3 1) (tC3 (.int 0))) (gName3 9)) (tSeq3 (tAsg3 (tAndV3 (tCB3 (aIsi3 K) (tCons3 (tVar3 9) (tCons3 (tC3 (.ty "str")) tNil3))) (tChain3 leD leD (tC3 (.int 1)) (tCB3 aLen3 (tCons3 (tVar3 9) tNil3)) (tC3 (.int 12)))) (gName3 10)) (tAsg3 (tLstM3 (tCons3 (tTup3 (tCons3 (tC3 (.str "name")) (tCons3 (tAndV3 (tVar3 10) (tOp3 opEqD3 (tLc3 (iStr3 (tVar3 9)) (.one 3) [3] (tTest3 (tOp3 (inD3 true) (tVar3 3) (tC3 (.str "abcdefghijklmnopqrstuvwxyz")))) (tVar3 3)) (tLst3 tNil3))) tNil3))) tNil3)) (gName3 2))))))) (tFrz3 2 (tSeq3 (tAsg3 (tLc3 (iSeq3 (tVar3 2)) (.one 3) [3] (tNot3 (tTest3 (tOp3 opIx3 (tVar3 3) (tC3 (.int 1))))) (tOp3 opIx3 (tVar3 3) (tC3 (.int 0)))) (gName3 11)) (tRet3 (tIf3 (tTru3 (tVar3 11)) (tOp3 opIx3 (tVar3 11) (tC3 (.int 0))) (tC3 .non))))))
def t_law_made (K : PySem.W.Frag) (A : Adr) : TS3 := (tTryAs3 K (.ref A.C_BadChange) 2 (tSeq3 (tIfS3 (tTest3 (tOp3 opEqD3 (tVar3 0) (tC3 (.str "ballast")))) (tRet3 (tCall3 (spMake A.C_Ballast (sp_Ballast_init K A)) [] (tCons3 (tOp3 opIx3 (tVar3 1) (tC3 (.int 0))) (tCons3 (tOp3 opIx3 (tVar3 1) (tC3 (.int 1))) (tCons3 (tOp3 opIx3 (tVar3 1) (tC3 (.int 2))) tNil3))))) tNext3) (tSeq3 (tIfS3 (tTest3 (tOp3 opEqD3 (tVar3 0) (tC3 (.str "rod")))) (tRet3 (tCall3 (spMake A.C_Rod (sp_Rod_init K A)) [] (tCons3 (tOp3 opIx3 (tVar3 1) (tC3 (.int 0))) (tCons3 (tOp3 opIx3 (tVar3 1) (tC3 (.int 1))) (tCons3 (tOp3 opIx3 (tVar3 1) (tC3 (.int 2))) (tCons3 (tOp3 opIx3 (tVar3 1) (tC3 (.int 3))) (tCons3 (tOp3 opIx3 (tVar3 1) (tC3 (.int 4))) tNil3))))))) tNext3) (tSeq3 (tIfS3 (tTest3 (tOp3 opEqD3 (tVar3 0) (tC3 (.str "shut")))) (tRet3 (tCall3 (spMake A.C_Shut (sp_Shut_init K A)) [] (tCons3 (tOp3 opIx3 (tVar3 1) (tC3 (.int 0))) tNil3))) tNext3) (tRet3 (tCall3 (spMake A.C_Spaced (sp_Spaced_init K A)) [] (tCons3 (tOp3 opIx3 (tVar3 1) (tC3 (.int 0))) tNil3)))))) (fun a d cls => tWhen3 (cls = .ref A.C_BadChange) (tRet3 (tTup3 (tCons3 (tC3 (.str "no")) (tCons3 (tXf3 a d "what" (tVar3 2)) (tCons3 (tCB3 (rIsE3 K A.C_BadChange a d) (tCons3 (tVar3 2) (tCons3 (tC3 (.ref A.C_BridgeError)) tNil3))) (tCons3 (tCB3 (rIsE3 K A.C_BadChange a d) (tCons3 (tVar3 2) (tCons3 (tC3 (.ty "ValueError")) tNil3))) tNil3))))))))
def t_law_named (K : PySem.W.Frag) (A : Adr) : TS3 := (tTryAs3 K (.ref A.C_BadChange) 2 (tSeq3 (tIfS3 (tTest3 (tOp3 opEqD3 (tVar3 0) (tC3 (.str "ballast")))) (tRet3 (tMakeR3 A.C_Ballast 3 (sp_Ballast_init K A) (tCons3 (tOp3 opIx3 (tVar3 1) (tC3 (.int 2))) (tCons3 (tOp3 opIx3 (tVar3 1) (tC3 (.int 1))) (tCons3 (tOp3 opIx3 (tVar3 1) (tC3 (.int 0))) tNil3))))) tNext3) (tSeq3 (tIfS3 (tTest3 (tOp3 opEqD3 (tVar3 0) (tC3 (.str "rod")))) (tRet3 (tMakeR3 A.C_Rod 5 (sp_Rod_init K A) (tCons3 (tOp3 opIx3 (tVar3 1) (tC3 (.int 4))) (tCons3 (tOp3 opIx3 (tVar3 1) (tC3 (.int 3))) (tCons3 (tOp3 opIx3 (tVar3 1) (tC3 (.int 2))) (tCons3 (tOp3 opIx3 (tVar3 1) (tC3 (.int 1))) (tCons3 (tOp3 opIx3 (tVar3 1) (tC3 (.int 0))) tNil3))))))) tNext3) (tSeq3 (tIfS3 (tTest3 (tOp3 opEqD3 (tVar3 0) (tC3 (.str "shut")))) (tRet3 (tMakeR3 A.C_Shut 1 (sp_Shut_init K A) (tCons3 (tOp3 opIx3 (tVar3 1) (tC3 (.int 0))) tNil3))) tNext3) (tRet3 (tMakeR3 A.C_Spaced 1 (sp_Spaced_init K A) (tCons3 (tOp3 opIx3 (tVar3 1) (tC3 (.int 0))) tNil3)))))) (fun a d cls => tWhen3 (cls = .ref A.C_BadChange) (tRet3 (tTup3 (tCons3 (tC3 (.str "no")) (tCons3 (tXf3 a d "what" (tVar3 2)) (tCons3 (tCB3 (rIsE3 K A.C_BadChange a d) (tCons3 (tVar3 2) (tCons3 (tC3 (.ref A.C_BridgeError)) tNil3))) (tCons3 (tCB3 (rIsE3 K A.C_BadChange a d) (tCons3 (tVar3 2) (tCons3 (tC3 (.ty "ValueError")) tNil3))) tNil3))))))))
def t_law_fields (K : PySem.W.Frag) (A : Adr) : TS3 := (tSeq3 (tIfS3 (tTest3 (tOp3 opEqD3 (tVar3 0) (tC3 (.str "ballast")))) (tRet3 (tLst3 (tCons3 (tUn3 (fld3 K "stone") (tVar3 1)) (tCons3 (tUn3 (fld3 K "x") (tVar3 1)) (tCons3 (tUn3 (fld3 K "weight") (tVar3 1)) tNil3))))) tNext3) (tSeq3 (tIfS3 (tTest3 (tOp3 opEqD3 (tVar3 0) (tC3 (.str "rod")))) (tRet3 (tLst3 (tCons3 (tUn3 (fld3 K "one") (tVar3 1)) (tCons3 (tUn3 (fld3 K "other") (tVar3 1)) (tCons3 (tUn3 (fld3 K "start") (tVar3 1)) (tCons3 (tUn3 (fld3 K "end") (tVar3 1)) (tCons3 (tUn3 (fld3 K "pull") (tVar3 1)) tNil3))))))) tNext3) (tRet3 (tIf3 (tTest3 (tOp3 opEqD3 (tVar3 0) (tC3 (.str "shut")))) (tLst3 (tCons3 (tUn3 (fld3 K "name") (tVar3 1)) tNil3)) (tLst3 (tCons3 (tUn3 (fld3 K "extra") (tVar3 1)) tNil3))))))
def t_law_kinds_right (K : PySem.W.Frag) (A : Adr) : TS3 := (tSeq3 (tFor3 (iSeq3 (tVar3 0)) (gName3 1) (tIfS3 (tTest3 (tCB3 (aIsi3 K) (tCons3 (tVar3 1) (tCons3 (tC3 (.ty "tuple")) tNil3)))) (tIfS3 (tOr3 (tNot3 (tTest3 (tCall3 (sp_law_is_number K A) [] (tCons3 (tOp3 opIx3 (tVar3 1) (tC3 (.int 0))) tNil3)))) (tNot3 (tTest3 (tCall3 (sp_law_is_number K A) [] (tCons3 (tOp3 opIx3 (tVar3 1) (tC3 (.int 1))) tNil3))))) (tRet3 (tC3 (.bl false))) tNext3) (tIfS3 (tAnd3 (tNot3 (tTest3 (tCall3 (sp_law_is_number K A) [] (tCons3 (tVar3 1) tNil3)))) (tNot3 (tTest3 (tCB3 (aIsi3 K) (tCons3 (tVar3 1) (tCons3 (tC3 (.ty "str")) tNil3)))))) (tRet3 (tC3 (.bl false))) tNext3))) (tRet3 (tC3 (.bl true))))
def t_law_other (K : PySem.W.Frag) (A : Adr) : TS3 := (tSeq3 (tAsg3 (tCB3 aListM3 (tCons3 (tVar3 2) tNil3)) (gName3 2)) (tSeq3 (tAsg3 (tCall3 (sp_law_take K A) [] (tCons3 (tVar3 0) (tCons3 (tCB3 aLen3 (tCons3 (tVar3 2) tNil3)) tNil3))) (gName3 3)) (tSeq3 (tIfS3 (tTest3 (tOp3 opEqD3 (tVar3 1) (tC3 (.str "spaced")))) (tAsg3 (tOp3 opAdd3 (tOp3 (opIC3 (fun _ j => 0 < j) fun i j => .int (i % j)) (tCB3 aIntOf (tCons3 (tOp3 opIx3 (tVar3 2) (tC3 (.int 0))) tNil3)) (tC3 (.int 100))) (tC3 (.int 1))) (gSub3 (tVar3 2) (tC3 (.int 0)))) (tIfS3 (tTest3 (tOp3 opEqD3 (tVar3 1) (tC3 (.str "shut")))) (tAsg3 (tIf3 (tTest3 (tOp3 ltD (tCB3 aLen3 (tCons3 (tOp3 opIx3 (tVar3 2) (tC3 (.int 0))) tNil3)) (tC3 (.int 12)))) (tOp3 opAdd3 (tOp3 opIx3 (tVar3 2) (tC3 (.int 0))) (tC3 (.str "a"))) (tSl3 slX (tOp3 opIx3 (tVar3 2) (tC3 (.int 0))) (tPart3 (tC3 (.int 1))) tNoPart3)) (gSub3 (tVar3 2) (tC3 (.int 0)))) (tIfS3 (tTest3 (tOp3 opEqD3 (tVar3 1) (tC3 (.str "ballast")))) (tSeq3 (tAsg3 (tOp3 opIx3 (tVar3 2) (tC3 (.int 1))) (gName3 4)) (tAsg3 (tOp3 opIx3 (tLst3 (tCons3 (tOp3 (opIC3 (fun _ j => 0 < j) fun i j => .int (i % j)) (tCB3 aIntOf (tCons3 (tOp3 opAdd3 (tOp3 opIx3 (tVar3 2) (tC3 (.int 0))) (tC3 (.int 1))) tNil3)) (tC3 (.int 8))) (tCons3 (tIf3 (tTest3 (tOp3 gtD (tVar3 4) (tC3 (.int 0)))) (tOp3 (opI3 fun i j => .int (i - j)) (tVar3 4) (tC3 (.int 1))) (tOp3 opAdd3 (tVar3 4) (tC3 (.int 1)))) (tCons3 (tUn3 (unI3 fun i => .int (-i)) (tOp3 opIx3 (tVar3 2) (tC3 (.int 2)))) tNil3)))) (tVar3 3)) (gSub3 (tVar3 2) (tVar3 3)))) (tIfS3 (tTest3 (tOp3 ltD (tVar3 3) (tC3 (.int 2)))) (tAsg3 (tOp3 opIx3 (tLc3 (iRng13 (tCons3 (tC3 (.int 8)) tNil3)) (.one 5) [5] (tTest3 (tOp3 (inD3 true) (tVar3 5) (tTup3 (tCons3 (tOp3 opIx3 (tVar3 2) (tC3 (.int 0))) (tCons3 (tOp3 opIx3 (tVar3 2) (tC3 (.int 1))) tNil3))))) (tVar3 5)) (tCall3 (sp_law_take K A) [] (tCons3 (tVar3 0) (tCons3 (tC3 (.int 6)) tNil3)))) (gSub3 (tVar3 2) (tVar3 3))) (tIfS3 (tTest3 (tOp3 ltD (tVar3 3) (tC3 (.int 4)))) (tSeq3 (tAsg3 (tLc3 (iSeq3 (tLst3 (tCons3 (tTup3 (tCons3 (tC3 (.int 0)) (tCons3 (tC3 (.int 0)) tNil3))) (tCons3 (tTup3 (tCons3 (tC3 (.int 1)) (tCons3 (tC3 (.int 0)) tNil3))) (tCons3 (tTup3 (tCons3 (tC3 (.int 0)) (tCons3 (tC3 (.int 1)) tNil3))) tNil3))))) (.one 7) [7] (tTest3 (tOp3 (inD3 true) (tVar3 7) (tTup3 (tCons3 (tCB3 aTup3 (tCons3 (tOp3 opIx3 (tVar3 2) (tC3 (.int 2))) tNil3)) (tCons3 (tCB3 aTup3 (tCons3 (tOp3 opIx3 (tVar3 2) (tC3 (.int 3))) tNil3)) tNil3))))) (tVar3 7)) (gName3 6)) (tAsg3 (tOp3 opIx3 (tVar3 6) (tC3 (.int 0))) (gSub3 (tVar3 2) (tVar3 3)))) (tAsg3 (tIf3 (tTest3 (tOp3 gtD (tOp3 opIx3 (tVar3 2) (tC3 (.int 4))) (tC3 (.int 1)))) (tOp3 (opI3 fun i j => .int (i - j)) (tOp3 opIx3 (tVar3 2) (tC3 (.int 4))) (tC3 (.int 1))) (tC3 (.int 2))) (gSub3 (tVar3 2) (tC3 (.int 4))))))))) (tFrz3 2 (tRet3 (tVar3 2))))))
def t_law (K : PySem.W.Frag) (A : Adr) : TS3 := (tSeq3 (tFor3 (iRng13 (tCons3 (tC3 (.int 3)) tNil3)) (gName3 1) (tSeq3 (tAsg3 (tCall3 (sp_law_bag K A) [] (tCons3 (tVar3 0) (tCons3 (tVar3 1) tNil3))) (gName3 2)) (tSeq3 (tAsg3 (tCall3 (sp_law_of K A) [] (tCons3 (tVar3 2) (tCons3 (tLst3 (tCons3 (tC3 (.str "ballast")) (tCons3 (tC3 (.str "ballast")) (tCons3 (tC3 (.str "rod")) (tCons3 (tC3 (.str "rod")) (tCons3 (tC3 (.str "rod")) (tCons3 (tC3 (.str "shut")) (tCons3 (tC3 (.str "spaced")) tNil3)))))))) tNil3))) (gName3 3)) (tSeq3 (tAsg3 (tCall3 (sp_law_things K A) [] (tCons3 (tVar3 2) (tCons3 (tVar3 3) tNil3))) (gName3 4)) (tSeq3 (tAsg3 (tLc3 (iSeq3 (tVar3 4)) (.one 6) [6] tYes3 (tIf3 (tTest3 (tCB3 (aIsi3 K) (tCons3 (tVar3 6) (tCons3 (tC3 (.ty "list")) tNil3)))) (tCB3 aListM3 (tCons3 (tVar3 6) tNil3)) (tVar3 6))) (gName3 5)) (tSeq3 (tPar3 7 8 (tCons3 (tCall3 (sp_law_due K A) [] (tCons3 (tVar3 3) (tCons3 (tVar3 4) tNil3))) (tCons3 (tOp3 opEqD3 (tCall3 (sp_law_take K A) [] (tCons3 (tVar3 2) (tCons3 (tC3 (.int 3)) tNil3))) (tC3 (.int 0))) tNil3))) (tSeq3 (tAsg3 (tIf3 (tTest3 (tVar3 8)) (tCall3 (sp_law_named K A) [] (tCons3 (tVar3 3) (tCons3 (tVar3 5) tNil3))) (tCall3 (sp_law_made K A) [] (tCons3 (tVar3 3) (tCons3 (tVar3 5) tNil3)))) (gName3 9)) (tSeq3 (tIfS3 (tTest3 (tOp3 opNotN3 (tVar3 7) (tC3 .non))) (tSeq3 (tIfS3 (tOr3 (tNot3 (tTest3 (tCB3 (aIsi3 K) (tCons3 (tVar3 9) (tCons3 (tC3 (.ty "tuple")) tNil3))))) (tTest3 (tOp3 opNeD3 (tVar3 9) (tTup3 (tCons3 (tC3 (.str "no")) (tCons3 (tVar3 7) (tCons3 (tC3 (.bl true)) (tCons3 (tC3 (.bl true)) tNil3)))))))) (tRet3 (tC3 (.bl false))) tNext3) tCont3) tNext3) (tSeq3 (tIfS3 (tOr3 (tTest3 (tCB3 (aIsi3 K) (tCons3 (tVar3 9) (tCons3 (tC3 (.ty "tuple")) tNil3)))) (tNot3 (tTest3 (tCB3 (aIsi3 K) (tCons3 (tVar3 9) (tCons3 (tC3 (.ref A.C_Change)) tNil3)))))) (tRet3 (tC3 (.bl false))) tNext3) (tSeq3 (tFor3 (iSeq3 (tVar3 5)) (gName3 6) (tIfS3 (tTest3 (tCB3 (aIsi3 K) (tCons3 (tVar3 6) (tCons3 (tC3 (.ty "list")) tNil3)))) (tDrop3 (tApp3 (tVar3 6) (tC3 (.int 0)))) tNext3)) (tSeq3 (tPar3 10 11 (tCons3 (tCall3 (sp_law_fields K A) [] (tCons3 (tVar3 3) (tCons3 (tVar3 9) tNil3))) (tCons3 (tLc3 (iSeq3 (tVar3 4)) (.one 6) [6] tYes3 (tIf3 (tTest3 (tCB3 (aIsi3 K) (tCons3 (tVar3 6) (tCons3 (tC3 (.ty "list")) tNil3)))) (tCB3 aTup3 (tCons3 (tVar3 6) tNil3)) (tVar3 6))) tNil3))) (tSeq3 (tIfS3 (tOr3 (tTest3 (tOp3 opNeD3 (tVar3 10) (tVar3 11))) (tNot3 (tTest3 (tCall3 (sp_law_kinds_right K A) [] (tCons3 (tVar3 10) tNil3))))) (tRet3 (tC3 (.bl false))) tNext3) (tSeq3 (tPar3 12 13 (tCons3 (tCall3 (sp_law_made K A) [] (tCons3 (tVar3 3) (tCons3 (tVar3 4) tNil3))) (tCons3 (tCall3 (sp_law_made K A) [] (tCons3 (tVar3 3) (tCons3 (tCall3 (sp_law_other K A) [] (tCons3 (tVar3 2) (tCons3 (tVar3 3) (tCons3 (tVar3 4) tNil3)))) tNil3))) tNil3))) (tSeq3 (tIfS3 (tOr3 (tNot3 (tTest3 (tOp3 (own3 K (okC A) (spE K A) false) (tVar3 9) (tVar3 12)))) (tOr3 (tTest3 (tOp3 (own3 K (okC A) (spE K A) true) (tVar3 9) (tVar3 12))) (tOr3 (tTest3 (tOp3 (own3 K (okC A) (spE K A) false) (tVar3 9) (tVar3 13))) (tNot3 (tTest3 (tOp3 (own3 K (okC A) (spE K A) true) (tVar3 9) (tVar3 13))))))) (tRet3 (tC3 (.bl false))) tNext3) (tSeq3 (tAsg3 (tLst3 (tCons3 (tTup3 (tCons3 (tC3 (.str "ballast")) (tCons3 (tLst3 (tCons3 (tC3 (.int 0)) (tCons3 (tC3 (.int 0)) (tCons3 (tC3 (.int 1)) tNil3)))) tNil3))) (tCons3 (tTup3 (tCons3 (tC3 (.str "rod")) (tCons3 (tLst3 (tCons3 (tC3 (.int 0)) (tCons3 (tC3 (.int 1)) (tCons3 (tTup3 (tCons3 (tC3 (.int 0)) (tCons3 (tC3 (.int 0)) tNil3))) (tCons3 (tTup3 (tCons3 (tC3 (.int 1)) (tCons3 (tC3 (.int 0)) tNil3))) (tCons3 (tC3 (.int 1)) tNil3)))))) tNil3))) (tCons3 (tTup3 (tCons3 (tC3 (.str "shut")) (tCons3 (tLst3 (tCons3 (tC3 (.str "a")) tNil3)) tNil3))) (tCons3 (tTup3 (tCons3 (tC3 (.str "spaced")) (tCons3 (tLst3 (tCons3 (tC3 (.int 1)) tNil3)) tNil3))) tNil3))))) (gName3 14)) (tSeq3 (tFor3 (iSeq3 (tVar3 14)) (gSeq3 2 (gCons3 (gName3 15) (gCons3 (gName3 16) gNil3))) (tIfS3 (tTest3 (tOp3 opNeD3 (tOp3 (own3 K (okC A) (spE K A) false) (tVar3 9) (tCall3 (sp_law_made K A) [] (tCons3 (tVar3 15) (tCons3 (tVar3 16) tNil3)))) (tAndV3 (tOp3 opEqD3 (tVar3 15) (tVar3 3)) (tOp3 opEqD3 (tVar3 16) (tVar3 11))))) (tRet3 (tC3 (.bl false))) tNext3)) (tIfS3 (tOr3 (tTest3 (tOp3 (own3 K (okC A) (spE K A) false) (tVar3 9) (tVar3 4))) (tOr3 (tTest3 (tOp3 (own3 K (okC A) (spE K A) false) (tVar3 9) (tCB3 aTup3 (tCons3 (tVar3 11) tNil3)))) (tOr3 (tTest3 (tOp3 (own3 K (okC A) (spE K A) false) (tVar3 9) (tC3 (.int 1)))) (tTest3 (tOp3 (own3 K (okC A) (spE K A) false) (tVar3 9) (tC3 (.str "a"))))))) (tRet3 (tC3 (.bl false))) tNext3))))))))))))))))) (tRet3 (tC3 (.bl true))))
end K68

namespace K68
open PySem PySem.Spec PyProof.Rows L2 L3
local macro_rules | `(tactic| walk_at "rd") => `(tactic| first
  | (with_reducible refine rd_seq ?_) | (with_reducible refine rd_ifS ?_) | (with_reducible refine rd_asg ?_) | (with_reducible refine rd_ret ?_) | (with_reducible refine rd_drop ?_) | (with_reducible refine rd_next ?_)
  | (with_reducible refine rd_name ?_) | (with_reducible refine rd_cons ?_) | (with_reducible refine rd_nil ?_) | (with_reducible refine rd_c ?_) | (with_reducible refine rd_op ?_) | (with_reducible refine rd_un ?_)
  | (with_reducible refine rd_test ?_) | (with_reducible refine rd_chain ?_) | (with_reducible refine rd_and ?_) | (with_reducible refine rd_or ?_) | (with_reducible refine rd_not ?_) | (with_reducible refine rd_andV ?_) | (with_reducible refine rd_orV ?_) | (with_reducible refine rd_notV ?_)
  | (with_reducible refine rd_if ?_) | (with_reducible refine rd_exbl ?_) | (with_reducible refine rd_exint ?_) | (with_reducible refine rd_tup ?_) | (with_reducible refine rd_lst ?_) | (with_reducible refine rd_lstM ?_) | (with_reducible refine rd_cb ?_) | (with_reducible refine rd_call ?_) | (with_reducible refine rd_make ?_)
  | (with_reducible refine rd_sl ?_) | (with_reducible refine rd_part ?_) | (with_reducible refine rd_nopart ?_) | (with_reducible refine rd_par ?_) | (with_reducible refine rd_expar ?_) | (with_reducible refine rd_tru ?_)
  | (with_reducible refine rd_for ?_) | (with_reducible refine rd_raise ?_) | (with_reducible refine rd_fldS ?_) | (with_reducible refine rd_retN ?_) | (with_reducible refine rd_break ?_) | (with_reducible refine rd_cont ?_)
  | (with_reducible refine rd_endrt ?_) | (with_reducible refine rd_endnx ?_) | (with_reducible refine rd_endex ?_) | (with_reducible refine rd_nx ?_) | (with_reducible refine rd_rt ?_) | (with_reducible refine rd_bk ?_) | (with_reducible refine rd_ct ?_) | (with_reducible refine rd_ex ?_)
  | (with_reducible refine rd_I3 ?_) | (with_reducible refine rd_neg ?_) | (with_reducible refine rd_addI ?_) | (with_reducible refine rd_lt ?_) | (with_reducible refine rd_le ?_) | (with_reducible refine rd_gt ?_) | (with_reducible refine rd_ge ?_)
  | (with_reducible refine rd_isN ?_) | (with_reducible refine rd_notN ?_) | (with_reducible refine rd_eqI ?_) | (with_reducible refine rd_neI ?_) | (with_reducible refine rd_int1 ?_) | (with_reducible refine rd_intOf ?_)
  | (with_reducible refine rd_p6 ?_) | (with_reducible refine rd_p18 ?_) | (with_reducible refine rd_p20 ?_) | (with_reducible refine rd_p30 ?_)
  | ((with_reducible refine rd_IC3 ?cc ?_); (case cc => first | decide | exact Or.inr (Or.inr ⟨by decide, by decide⟩) | exact Or.inr (Or.inl ⟨by decide, by decide⟩) | exact ⟨by decide, by decide⟩))
  | ((with_reducible show tVar3 _ _ _ _ _); refine rd_var rfl ?_)
  | ((with_reducible show opIx3 _ (D.int _) _ _); refine rd_ix (by first | exact rfl | assumption) (by first | exact rfl | assumption) ?_)
  | ((with_reducible show aLen3 [_] _ _); refine rd_len (by first | exact rfl | assumption) ?_)
  | (with_reducible refine rd_le1 ?_) 
  | (with_reducible refine rd_iteTT ?_) | (with_reducible refine rd_iteFF ?_))
theorem rd_p6 {M : Mem} {Q : VK3} (k : Q (.int 1000000) M) : opIC3 CPow (fun i j => .int (i ^ j.toNat)) (.int 10) (.int 6) M Q := ⟨10, 6, rfl, rfl, ⟨by decide, by decide, by decide⟩, k⟩
theorem rd_p18 {M : Mem} {Q : VK3} (k : Q (.int 1000000000000000000) M) : opIC3 CPow (fun i j => .int (i ^ j.toNat)) (.int 10) (.int 18) M Q := ⟨10, 18, rfl, rfl, ⟨by decide, by decide, by decide⟩, k⟩
theorem rd_p20 {M : Mem} {Q : VK3} (k : Q (.int 100000000000000000000) M) : opIC3 CPow (fun i j => .int (i ^ j.toNat)) (.int 10) (.int 20) M Q := ⟨10, 20, rfl, rfl, ⟨by decide, by decide, by decide⟩, k⟩
theorem rd_p30 {M : Mem} {Q : VK3} (k : Q (.int big) M) : opIC3 CPow (fun i j => .int (i ^ j.toNat)) (.int 10) (.int 30) M Q := ⟨10, 30, rfl, rfl, ⟨by decide, by decide, by decide⟩, k⟩
theorem rd_le1 {xs : List D} {P : Prop} (k : P) (h : xs.length ≤ 1000000 := by simp only [List.length_cons, List.length_nil]; omega) : xs.length ≤ 1000000 ∧ P := ⟨h, k⟩
/-! ## values of the model as the library's rules want them -/
def typV : D → Value
  | .non => .type "NoneType"
  | .bl _ => .type "bool"
  | .int _ => .type "int"
  | .str _ => .type "str"
  | .tup _ => .type "tuple"
  | .lst _ => .type "list"
  | _ => .type "object"
theorem typ_fz {M : Mem} {x : D} (h : okT (x.fz M) = true) : x.typ M = some (typV (x.fz M)) := by
  cases x with
  | ref a =>
    cases e : M a with
    | none => simp [D.fz, e, okT, okA] at h
    | some o => cases o <;> simp [D.fz, e, okT, okA] at h <;> simp [D.typ, D.fz, e, typV]
  | non => rfl
  | bl b => rfl
  | int i => rfl
  | str z => rfl
  | tup xs => rfl
  | lst xs => rfl
  | _ => simp [D.fz, okT, okA] at h
theorem typ_ne {K : PySem.W.Frag} {y : D} : ∀ C, typV y = .ref C → ClsD K C := fun C e => by cases y <;> cases e
def seqD : D → Option (List D)
  | .tup xs => some xs
  | .lst xs => some xs
  | _ => none
theorem items_fz {M : Mem} {x : D} {xs : List D} (h : seqD (x.fz M) = some xs) : x.items M = some xs := by
  cases x with
  | ref a =>
    cases e : M a with
    | none => simp [D.fz, e, seqD] at h
    | some o => cases o <;> simp [D.fz, e, seqD] at h <;> simp [D.items, e, h]
  | _ => first | (simpa [D.fz, seqD, D.items] using h) | simp [D.fz, seqD] at h
def isI : D → Bool
  | .int _ => true
  | .bl _ => true
  | _ => false
def isB : D → Bool
  | .bl _ => true
  | _ => false
def isS : D → Bool
  | .tup _ => true
  | .lst _ => true
  | _ => false
def isX : D → Bool
  | .str _ => true
  | _ => false
def isTu : D → Bool
  | .tup _ => true
  | _ => false
def isLi : D → Bool
  | .lst _ => true
  | _ => false
section
variable {K : PySem.W.Frag} {M : Mem} {x : D} {Q : VK3}
theorem isi_int (h : okT (x.fz M) = true) (q : Q (.bl (isI (x.fz M))) M) : aIsi3 K [x, .ty "int"] M Q := rd_isi1 (typ_fz h) typ_ne (by cases x.fz M <;> rfl) q
theorem isi_bool (h : okT (x.fz M) = true) (q : Q (.bl (isB (x.fz M))) M) : aIsi3 K [x, .ty "bool"] M Q := rd_isi1 (typ_fz h) typ_ne (by cases x.fz M <;> rfl) q
theorem isi_str (h : okT (x.fz M) = true) (q : Q (.bl (isX (x.fz M))) M) : aIsi3 K [x, .ty "str"] M Q := rd_isi1 (typ_fz h) typ_ne (by cases x.fz M <;> rfl) q
theorem isi_tup (h : okT (x.fz M) = true) (q : Q (.bl (isTu (x.fz M))) M) : aIsi3 K [x, .ty "tuple"] M Q := rd_isi1 (typ_fz h) typ_ne (by cases x.fz M <;> rfl) q
theorem isi_lst (h : okT (x.fz M) = true) (q : Q (.bl (isLi (x.fz M))) M) : aIsi3 K [x, .ty "list"] M Q := rd_isi1 (typ_fz h) typ_ne (by cases x.fz M <;> rfl) q
theorem isi_seq (h : okT (x.fz M) = true) (q : Q (.bl (isS (x.fz M))) M) : aIsi3 K [x, .tup [.ty "list", .ty "tuple"]] M Q := rd_isi2 (typ_fz h) typ_ne (by cases x.fz M <;> rfl) q
end
theorem arg1 {F : List D → Option D} {ds : List D} {r : D} (h : fNum ds = some r) : ∃ x, ds = [x] ∧ okT x = true ∧ r = .bl (isNum x) := by
  match ds, h with
  | [x], h =>
    simp only [fNum] at h
    split at h
    · cases h; exact ⟨x, rfl, by assumption, rfl⟩
    · cases h
theorem arg1p {ds : List D} {r : D} (h : fPoint ds = some r) : ∃ x, ds = [x] ∧ okT x = true ∧ r = .bl (point x) := by
  match ds, h with
  | [x], h =>
    simp only [fPoint] at h
    split at h
    · cases h; exact ⟨x, rfl, by assumption, rfl⟩
    · cases h
theorem arg3 {ds : List D} {r : D} (h : fWhole ds = some r) : ∃ x lo hi, ds = [x, .int lo, .int hi] ∧ okT x = true ∧ r = .bl (whole x lo hi) := by
  match ds, h with
  | [x, .int lo, .int hi], h =>
    simp only [fWhole] at h
    split at h
    · cases h; exact ⟨x, lo, hi, rfl, by assumption, rfl⟩
    · cases h
theorem map1 {M : Mem} {ds : List D} {y : D} (h : ds.map (D.fz M) = [y]) : ∃ x, ds = [x] ∧ x.fz M = y := by
  match ds, h with
  | [x], h => exact ⟨x, rfl, (List.cons.inj h).1⟩
theorem fz_int {M : Mem} {x : D} {i : Int} (h : x.fz M = .int i) : x = .int i := by
  cases x with
  | ref a =>
    cases e : M a with
    | none => simp [D.fz, e] at h
    | some o => cases o <;> simp [D.fz, e] at h
  | _ => simpa [D.fz] using h
theorem map3 {M : Mem} {ds : List D} {y : D} {lo hi : Int} (h : ds.map (D.fz M) = [y, .int lo, .int hi]) : ∃ x, ds = [x, .int lo, .int hi] ∧ x.fz M = y := by
  match ds, h with
  | [x, a, b], h =>
    simp only [List.map_cons, List.map_nil, List.cons.injEq, and_true] at h
    obtain ⟨h1, h2, h3⟩ := h
    rw [fz_int h2, fz_int h3]
    exact ⟨x, rfl, h1⟩
  | [], h => simp at h
  | [_], h => simp at h
  | [_, _], h => simp at h
  | _ :: _ :: _ :: _ :: _, h => simp at h
theorem len_F1 {F : List D → Option D} (hF : ∀ ds r, F ds = some r → ds.length = 1) {ds : List D} {M : Mem} {Q : VK3} {E : XK3} (h : spF F ds M Q E) : ds.length = 1 := by
  obtain ⟨r, h, _⟩ := h
  have := hF _ _ h
  simpa using this
end K68

namespace K68
open PySem PySem.Spec PyProof.Rows L2 L3
local macro_rules | `(tactic| walk_at "rd") => `(tactic| first
  | (with_reducible refine rd_seq ?_) | (with_reducible refine rd_ifS ?_) | (with_reducible refine rd_asg ?_) | (with_reducible refine rd_ret ?_) | (with_reducible refine rd_drop ?_) | (with_reducible refine rd_next ?_)
  | (with_reducible refine rd_name ?_) | (with_reducible refine rd_cons ?_) | (with_reducible refine rd_nil ?_) | (with_reducible refine rd_c ?_) | (with_reducible refine rd_op ?_) | (with_reducible refine rd_un ?_)
  | (with_reducible refine rd_test ?_) | (with_reducible refine rd_chain ?_) | (with_reducible refine rd_and ?_) | (with_reducible refine rd_or ?_) | (with_reducible refine rd_not ?_) | (with_reducible refine rd_andV ?_) | (with_reducible refine rd_orV ?_) | (with_reducible refine rd_notV ?_)
  | (with_reducible refine rd_if ?_) | (with_reducible refine rd_exbl ?_) | (with_reducible refine rd_exint ?_) | (with_reducible refine rd_tup ?_) | (with_reducible refine rd_lst ?_) | (with_reducible refine rd_lstM ?_) | (with_reducible refine rd_cb ?_) | (with_reducible refine rd_call ?_) | (with_reducible refine rd_make ?_)
  | (with_reducible refine rd_sl ?_) | (with_reducible refine rd_part ?_) | (with_reducible refine rd_nopart ?_) | (with_reducible refine rd_par ?_) | (with_reducible refine rd_expar ?_) | (with_reducible refine rd_tru ?_)
  | (with_reducible refine rd_for ?_) | (with_reducible refine rd_raise ?_) | (with_reducible refine rd_fldS ?_) | (with_reducible refine rd_retN ?_) | (with_reducible refine rd_break ?_) | (with_reducible refine rd_cont ?_)
  | (with_reducible refine rd_endrt ?_) | (with_reducible refine rd_endnx ?_) | (with_reducible refine rd_endex ?_) | (with_reducible refine rd_nx ?_) | (with_reducible refine rd_rt ?_) | (with_reducible refine rd_bk ?_) | (with_reducible refine rd_ct ?_) | (with_reducible refine rd_ex ?_)
  | (with_reducible refine rd_I3 ?_) | (with_reducible refine rd_neg ?_) | (with_reducible refine rd_addI ?_) | (with_reducible refine rd_lt ?_) | (with_reducible refine rd_le ?_) | (with_reducible refine rd_gt ?_) | (with_reducible refine rd_ge ?_)
  | (with_reducible refine rd_isN ?_) | (with_reducible refine rd_notN ?_) | (with_reducible refine rd_eqI ?_) | (with_reducible refine rd_neI ?_) | (with_reducible refine rd_int1 ?_) | (with_reducible refine rd_intOf ?_)
  | (with_reducible refine rd_p6 ?_) | (with_reducible refine rd_p18 ?_) | (with_reducible refine rd_p20 ?_) | (with_reducible refine rd_p30 ?_)
  | ((with_reducible refine rd_IC3 ?cc ?_); (case cc => first | decide | exact Or.inr (Or.inr ⟨by decide, by decide⟩) | exact Or.inr (Or.inl ⟨by decide, by decide⟩) | exact ⟨by decide, by decide⟩))
  | ((with_reducible show tVar3 _ _ _ _ _); refine rd_var rfl ?_)
  | ((with_reducible show opIx3 _ (D.int _) _ _); refine rd_ix (by first | exact rfl | assumption) (by first | exact rfl | assumption) ?_)
  | ((with_reducible show aLen3 [_] _ _); refine rd_len (by first | exact rfl | assumption) ?_)
  | (with_reducible refine rd_le1 ?_) 
  | (with_reducible refine rd_iteTT ?_) | (with_reducible refine rd_iteFF ?_))
section
variable {P : Program} {w : World} {K : PySem.W.Frag} {mg : Str → Option Value} {base : Heap} {A : Adr}
theorem num_pure {ds : List D} {M : Mem} {Q : VK3} {E : XK3} (h : spF fNum ds M Q E) : t_is_number K A (endsOf Q E) (start3 N_is_number ds) M := by
  obtain ⟨r, h, q⟩ := h
  obtain ⟨y, hy, ho, rfl⟩ := arg1 (F := fNum) h
  obtain ⟨x, rfl, rfl⟩ := map1 hy
  unfold t_is_number
  repeat walk_at "rd"
  refine isi_int ho ?_
  repeat walk_at "rd"
  refine rd_ite (fun e => ?_) fun e => ?_
  · repeat walk_at "rd"
    refine isi_bool ho ?_
    repeat walk_at "rd"
    have e2 : isNum (x.fz M) = !isB (x.fz M) := by cases z : x.fz M <;> simp [z, isI, isNum, isB] at e ⊢
    rw [← e2]
    exact q
  · have e2 : isNum (x.fz M) = false := by cases z : x.fz M <;> simp [z, isI, isNum] at e ⊢
    rw [e2] at q
    repeat walk_at "rd"
    exact q
theorem pure_is_number (T : Txt K mg A) : ∀ ds M Q E, sp_is_number K A ds M Q E → t_is_number K A (endsOf Q E) (start3 N_is_number ds) M := fun _ _ _ _ h => num_pure (K := K) (A := A) h
theorem pure_law_is_number (T : Txt K mg A) : ∀ ds M Q E, sp_law_is_number K A ds M Q E → t_law_is_number K A (endsOf Q E) (start3 N_law_is_number ds) M := fun _ _ _ _ h => num_pure (K := K) (A := A) h
theorem len_is_number : ∀ ds M Q E, sp_is_number K A ds M Q E → ds.length = (["thing"] : List Str).length := fun ds M Q E ⟨r, h, _⟩ => by
  obtain ⟨y, hy, _⟩ := arg1 (F := fNum) h
  obtain ⟨x, rfl, _⟩ := map1 hy
  rfl
theorem len_law_is_number : ∀ ds M Q E, sp_law_is_number K A ds M Q E → ds.length = (["thing"] : List Str).length := len_is_number (K := K) (A := A)
theorem whole_pure {ds : List D} {M : Mem} {Q : VK3} {E : XK3} (h : spF fWhole ds M Q E) : t_is_whole K A (endsOf Q E) (start3 N_is_whole ds) M := by
  obtain ⟨r, h, q⟩ := h
  obtain ⟨y, lo, hi, hy, ho, rfl⟩ := arg3 h
  obtain ⟨x, rfl, rfl⟩ := map3 hy
  unfold t_is_whole
  repeat walk_at "rd"
  refine ⟨.bl (isNum (x.fz M)), by simp [fNum, ho], ?_⟩
  repeat walk_at "rd"
  refine rd_ite (fun e => ?_) fun e => ?_
  · obtain ⟨i, hi'⟩ : ∃ i, x.fz M = .int i := by cases z : x.fz M <;> simp [z, isNum] at e <;> exact ⟨_, rfl⟩
    have ex := fz_int hi'
    subst ex
    repeat walk_at "rd"
    refine rd_ite (fun e => ?_) fun e => ?_
    · repeat walk_at "rd"
      have e2 : whole (.int i) lo hi = decide (i ≤ hi) := by simp [whole, e]
      rw [hi', e2] at q
      exact q
    · have e2 : whole (.int i) lo hi = false := by simp [whole, e]
      rw [hi', e2] at q
      repeat walk_at "rd"
      exact q
  · have e2 : whole (x.fz M) lo hi = false := by cases z : x.fz M <;> simp [z, isNum, whole] at e ⊢
    rw [e2] at q
    repeat walk_at "rd"
    exact q
theorem pure_is_whole (T : Txt K mg A) : ∀ ds M Q E, sp_is_whole K A ds M Q E → t_is_whole K A (endsOf Q E) (start3 N_is_whole ds) M := fun _ _ _ _ h => whole_pure (K := K) (A := A) h
theorem pure_law_within (T : Txt K mg A) : ∀ ds M Q E, sp_law_within K A ds M Q E → t_law_within K A (endsOf Q E) (start3 N_law_within ds) M := fun _ _ _ _ h => whole_pure (K := K) (A := A) h
theorem len_is_whole : ∀ ds M Q E, sp_is_whole K A ds M Q E → ds.length = (["thing", "low", "high"] : List Str).length := fun ds M Q E ⟨r, h, _⟩ => by
  obtain ⟨y, lo, hi, hy, _⟩ := arg3 h
  obtain ⟨x, rfl, _⟩ := map3 hy
  rfl
theorem len_law_within : ∀ ds M Q E, sp_law_within K A ds M Q E → ds.length = (["thing", "low", "high"] : List Str).length := len_is_whole (K := K) (A := A)
end
end K68

namespace K68
open PySem PySem.Spec PyProof.Rows L2 L3
local macro_rules | `(tactic| walk_at "rd") => `(tactic| first
  | (with_reducible refine rd_seq ?_) | (with_reducible refine rd_ifS ?_) | (with_reducible refine rd_asg ?_) | (with_reducible refine rd_ret ?_) | (with_reducible refine rd_drop ?_) | (with_reducible refine rd_next ?_)
  | (with_reducible refine rd_name ?_) | (with_reducible refine rd_cons ?_) | (with_reducible refine rd_nil ?_) | (with_reducible refine rd_c ?_) | (with_reducible refine rd_op ?_) | (with_reducible refine rd_un ?_)
  | (with_reducible refine rd_test ?_) | (with_reducible refine rd_chain ?_) | (with_reducible refine rd_and ?_) | (with_reducible refine rd_or ?_) | (with_reducible refine rd_not ?_) | (with_reducible refine rd_andV ?_) | (with_reducible refine rd_orV ?_) | (with_reducible refine rd_notV ?_)
  | (with_reducible refine rd_if ?_) | (with_reducible refine rd_exbl ?_) | (with_reducible refine rd_exint ?_) | (with_reducible refine rd_tup ?_) | (with_reducible refine rd_lst ?_) | (with_reducible refine rd_lstM ?_) | (with_reducible refine rd_cb ?_) | (with_reducible refine rd_call ?_) | (with_reducible refine rd_make ?_)
  | (with_reducible refine rd_sl ?_) | (with_reducible refine rd_part ?_) | (with_reducible refine rd_nopart ?_) | (with_reducible refine rd_par ?_) | (with_reducible refine rd_expar ?_) | (with_reducible refine rd_tru ?_)
  | (with_reducible refine rd_for ?_) | (with_reducible refine rd_raise ?_) | (with_reducible refine rd_fldS ?_) | (with_reducible refine rd_retN ?_) | (with_reducible refine rd_break ?_) | (with_reducible refine rd_cont ?_)
  | (with_reducible refine rd_endrt ?_) | (with_reducible refine rd_endnx ?_) | (with_reducible refine rd_endex ?_) | (with_reducible refine rd_nx ?_) | (with_reducible refine rd_rt ?_) | (with_reducible refine rd_bk ?_) | (with_reducible refine rd_ct ?_) | (with_reducible refine rd_ex ?_)
  | (with_reducible refine rd_I3 ?_) | (with_reducible refine rd_neg ?_) | (with_reducible refine rd_addI ?_) | (with_reducible refine rd_lt ?_) | (with_reducible refine rd_le ?_) | (with_reducible refine rd_gt ?_) | (with_reducible refine rd_ge ?_)
  | (with_reducible refine rd_isN ?_) | (with_reducible refine rd_notN ?_) | (with_reducible refine rd_eqI ?_) | (with_reducible refine rd_neI ?_) | (with_reducible refine rd_int1 ?_) | (with_reducible refine rd_intOf ?_)
  | (with_reducible refine rd_p6 ?_) | (with_reducible refine rd_p18 ?_) | (with_reducible refine rd_p20 ?_) | (with_reducible refine rd_p30 ?_)
  | ((with_reducible refine rd_IC3 ?cc ?_); (case cc => first | decide | exact Or.inr (Or.inr ⟨by decide, by decide⟩) | exact Or.inr (Or.inl ⟨by decide, by decide⟩) | exact ⟨by decide, by decide⟩))
  | ((with_reducible show tVar3 _ _ _ _ _); refine rd_var rfl ?_)
  | ((with_reducible show opIx3 _ (D.int _) _ _); refine rd_ix (by first | exact rfl | assumption) (by first | exact rfl | assumption) ?_)
  | ((with_reducible show aLen3 [_] _ _); refine rd_len (by first | exact rfl | assumption) ?_)
  | (with_reducible refine rd_le1 ?_) 
  | (with_reducible refine rd_iteTT ?_) | (with_reducible refine rd_iteFF ?_))
theorem fz_okA {M : Mem} {a : D} (h : okA a = true) : a.fz M = a := by cases a <;> first | rfl | simp [okA] at h
theorem okT_okA {a : D} (h : okA a = true) : okT a = true := by cases a <;> first | exact h | simp [okA] at h
theorem ten6 : ((10 : Int) ^ (6 : Int).toNat) = 1000000 := by decide
theorem ten30 : ((10 : Int) ^ (30 : Int).toNat) = big := by decide
theorem ten18 : ((10 : Int) ^ (18 : Int).toNat) = 1000000000000000000 := by decide
theorem ten20 : ((10 : Int) ^ (20 : Int).toNat) = 100000000000000000000 := by decide
section
variable {P : Program} {w : World} {K : PySem.W.Frag} {mg : Str → Option Value} {base : Heap} {A : Adr}
theorem use_whole {a : D} {lo hi : Int} {M : Mem} {Q : VK3} {E : XK3} (h : okT (a.fz M) = true) (q : Q (.bl (whole (a.fz M) lo hi)) M) : spF fWhole ([a, .int lo, .int hi] ++ []) M Q E :=
  ⟨.bl (whole (a.fz M) lo hi), by show fWhole [a.fz M, .int lo, .int hi] = _; simp [fWhole, h], q⟩
theorem use_wholeA {a : D} {lo hi : Int} {M : Mem} {Q : VK3} {E : XK3} (h : okA a = true) (q : Q (.bl (whole a lo hi)) M) : spF fWhole ([a, .int lo, .int hi] ++ []) M Q E :=
  use_whole (by rw [fz_okA h]; exact okT_okA h) (by rw [fz_okA h]; exact q)
theorem use_num {a : D} {M : Mem} {Q : VK3} {E : XK3} (h : okT (a.fz M) = true) (q : Q (.bl (isNum (a.fz M))) M) : spF fNum ([a] ++ []) M Q E := ⟨.bl (isNum (a.fz M)), by show fNum [a.fz M] = _; simp [fNum, h], q⟩
theorem use_point {a : D} {M : Mem} {Q : VK3} {E : XK3} (h : okT (a.fz M) = true) (q : Q (.bl (point (a.fz M))) M) : spF fPoint ([a] ++ []) M Q E := ⟨.bl (point (a.fz M)), by show fPoint [a.fz M] = _; simp [fPoint, h], q⟩
theorem seq_isS {y : D} (h : isS y = true) : ∃ xs, seqD y = some xs := by cases y <;> simp [isS] at h <;> exact ⟨_, rfl⟩
theorem okT_seq {y : D} {xs : List D} (h : okT y = true) (e : seqD y = some xs) : ∀ a ∈ xs, okA a = true := by
  cases y <;> simp [seqD] at e <;> subst e <;> (simp [okT] at h; exact h.2)
theorem point_len {y : D} {xs : List D} (e : seqD y = some xs) : point y = pt2 xs := by cases y <;> simp [seqD] at e <;> subst e <;> rfl
theorem pt2_len {xs : List D} (h : xs.length ≠ 2) : pt2 xs = false := by
  match xs, h with
  | [], _ => rfl
  | [_], _ => rfl
  | [_, _], h => exact absurd rfl h
  | _ :: _ :: _ :: _, _ => rfl
theorem point_notS {y : D} (h : isS y = false) : point y = false := by cases y <;> simp [isS] at h <;> rfl
theorem pure_is_point (T : Txt K mg A) : ∀ ds M Q E, sp_is_point K A ds M Q E → t_is_point K A (endsOf Q E) (start3 N_is_point ds) M := by
  rintro ds M Q E ⟨r, h, q⟩
  obtain ⟨y, hy, ho, rfl⟩ := arg1p h
  obtain ⟨x, rfl, rfl⟩ := map1 hy
  unfold t_is_point
  repeat walk_at "rd"
  refine isi_seq ho ?_
  repeat walk_at "rd"
  refine rd_ite (fun e => ?_) fun e => ?_
  · obtain ⟨xs, hxs⟩ := seq_isS e
    have hi := items_fz hxs
    have hA := okT_seq ho hxs
    rw [point_len hxs] at q
    repeat walk_at "rd"
    refine rd_ite (fun e2 => ?_) fun e2 => ?_
    · have hl : xs.length = 2 := by have := of_decide_eq_true e2; omega
      match xs, hl with
      | [a, b], _ =>
        have ha := hA a (by simp)
        have hb := hA b (by simp)
        repeat walk_at "rd"
        refine use_wholeA ha ?_
        repeat walk_at "rd"
        refine rd_ite (fun e3 => ?_) fun e3 => ?_
        · repeat walk_at "rd"
          refine use_wholeA hb ?_
          repeat walk_at "rd"
          have e4 : pt2 [a, b] = whole b (-1000000) 1000000 := by simp [pt2, e3]
          rw [e4] at q
          exact q
        · repeat walk_at "rd"
          have e4 : pt2 [a, b] = false := by simp [pt2, e3]
          rw [e4] at q
          exact q
    · have hl : xs.length ≠ 2 := by have := of_decide_eq_false e2; omega
      rw [pt2_len hl] at q
      repeat walk_at "rd"
      exact q
  · rw [point_notS e] at q
    repeat walk_at "rd"
    exact q
theorem pure_law_is_point (T : Txt K mg A) : ∀ ds M Q E, sp_law_is_point K A ds M Q E → t_law_is_point K A (endsOf Q E) (start3 N_law_is_point ds) M := by
  rintro ds M Q E ⟨r, h, q⟩
  obtain ⟨y, hy, ho, rfl⟩ := arg1p h
  obtain ⟨x, rfl, rfl⟩ := map1 hy
  unfold t_law_is_point
  repeat walk_at "rd"
  refine isi_seq ho ?_
  repeat walk_at "rd"
  refine rd_ite (fun e => ?_) fun e => ?_
  · have e' : isS (x.fz M) = false := by simpa using e
    rw [point_notS e'] at q
    repeat walk_at "rd"
    exact q
  · have e' : isS (x.fz M) = true := by simpa using e
    obtain ⟨xs, hxs⟩ := seq_isS e'
    have hi := items_fz hxs
    have hA := okT_seq ho hxs
    rw [point_len hxs] at q
    repeat walk_at "rd"
    refine rd_ite (fun e2 => ?_) fun e2 => ?_
    · have hl : xs.length ≠ 2 := by
        have := e2
        simp at this
        omega
      rw [pt2_len hl] at q
      repeat walk_at "rd"
      exact q
    · have hl : xs.length = 2 := by
        have := e2
        simp at this
        omega
      match xs, hl with
      | [a, b], _ =>
        have ha := hA a (by simp)
        have hb := hA b (by simp)
        repeat walk_at "rd"
        refine use_wholeA ha ?_
        repeat walk_at "rd"
        refine rd_ite (fun e3 => ?_) fun e3 => ?_
        · repeat walk_at "rd"
          refine use_wholeA hb ?_
          repeat walk_at "rd"
          have e4 : pt2 [a, b] = whole b (-1000000) 1000000 := by simp [pt2, e3]
          rw [e4] at q
          exact q
        · repeat walk_at "rd"
          have e4 : pt2 [a, b] = false := by simp [pt2, e3]
          rw [e4] at q
          exact q
theorem len_is_point : ∀ ds M Q E, sp_is_point K A ds M Q E → ds.length = (["thing"] : List Str).length := fun ds M Q E ⟨r, h, _⟩ => by
  obtain ⟨y, hy, _⟩ := arg1p h
  obtain ⟨x, rfl, _⟩ := map1 hy
  rfl
theorem len_law_is_point : ∀ ds M Q E, sp_law_is_point K A ds M Q E → ds.length = (["thing"] : List Str).length := len_is_point (K := K) (A := A)
end
end K68

namespace K68
open PySem PySem.Spec PyProof.Rows L2 L3
local macro_rules | `(tactic| walk_at "rd") => `(tactic| first
  | (with_reducible refine rd_seq ?_) | (with_reducible refine rd_ifS ?_) | (with_reducible refine rd_asg ?_) | (with_reducible refine rd_ret ?_) | (with_reducible refine rd_drop ?_) | (with_reducible refine rd_next ?_)
  | (with_reducible refine rd_name ?_) | (with_reducible refine rd_cons ?_) | (with_reducible refine rd_nil ?_) | (with_reducible refine rd_c ?_) | (with_reducible refine rd_op ?_) | (with_reducible refine rd_un ?_)
  | (with_reducible refine rd_test ?_) | (with_reducible refine rd_chain ?_) | (with_reducible refine rd_and ?_) | (with_reducible refine rd_or ?_) | (with_reducible refine rd_not ?_) | (with_reducible refine rd_andV ?_) | (with_reducible refine rd_orV ?_) | (with_reducible refine rd_notV ?_)
  | (with_reducible refine rd_if ?_) | (with_reducible refine rd_exbl ?_) | (with_reducible refine rd_exint ?_) | (with_reducible refine rd_tup ?_) | (with_reducible refine rd_lst ?_) | (with_reducible refine rd_lstM ?_) | (with_reducible refine rd_cb ?_) | (with_reducible refine rd_call ?_) | (with_reducible refine rd_make ?_)
  | (with_reducible refine rd_sl ?_) | (with_reducible refine rd_part ?_) | (with_reducible refine rd_nopart ?_) | (with_reducible refine rd_par ?_) | (with_reducible refine rd_expar ?_) | (with_reducible refine rd_tru ?_)
  | (with_reducible refine rd_for ?_) | (with_reducible refine rd_raise ?_) | (with_reducible refine rd_fldS ?_) | (with_reducible refine rd_retN ?_) | (with_reducible refine rd_break ?_) | (with_reducible refine rd_cont ?_)
  | (with_reducible refine rd_endrt ?_) | (with_reducible refine rd_endnx ?_) | (with_reducible refine rd_endex ?_) | (with_reducible refine rd_nx ?_) | (with_reducible refine rd_rt ?_) | (with_reducible refine rd_bk ?_) | (with_reducible refine rd_ct ?_) | (with_reducible refine rd_ex ?_)
  | (with_reducible refine rd_I3 ?_) | (with_reducible refine rd_neg ?_) | (with_reducible refine rd_addI ?_) | (with_reducible refine rd_lt ?_) | (with_reducible refine rd_le ?_) | (with_reducible refine rd_gt ?_) | (with_reducible refine rd_ge ?_)
  | (with_reducible refine rd_isN ?_) | (with_reducible refine rd_notN ?_) | (with_reducible refine rd_eqI ?_) | (with_reducible refine rd_neI ?_) | (with_reducible refine rd_int1 ?_) | (with_reducible refine rd_intOf ?_)
  | (with_reducible refine rd_p6 ?_) | (with_reducible refine rd_p18 ?_) | (with_reducible refine rd_p20 ?_) | (with_reducible refine rd_p30 ?_)
  | ((with_reducible refine rd_IC3 ?cc ?_); (case cc => first | decide | exact Or.inr (Or.inr ⟨by decide, by decide⟩) | exact Or.inr (Or.inl ⟨by decide, by decide⟩) | exact ⟨by decide, by decide⟩))
  | ((with_reducible show tVar3 _ _ _ _ _); refine rd_var rfl ?_)
  | ((with_reducible show opIx3 _ (D.int _) _ _); refine rd_ix (by first | exact rfl | assumption) (by first | exact rfl | assumption) ?_)
  | ((with_reducible show aLen3 [_] _ _); refine rd_len (by first | exact rfl | assumption) ?_)
  | (with_reducible refine rd_le1 ?_) 
  | (with_reducible refine rd_iteTT ?_) | (with_reducible refine rd_iteFF ?_))
theorem eqD_int {i j : Int} : eqD (.int i) (.int j) = decide (i = j) := by
  show PyData.eqv (.int i) (.int j) = _
  rw [PyData.eqv]
  rfl
theorem whole_int {x : D} {lo hi : Int} (h : whole x lo hi = true) : ∃ i, x = .int i ∧ lo ≤ i ∧ i ≤ hi := by
  cases x <;> simp [whole] at h
  exact ⟨_, rfl, h⟩
theorem put_ba {s x w : D} : putD "weight" w (putD "x" x (putD "stone" s [])) = ([("stone", s), ("x", x), ("weight", w)] : List (Str × D)) := by kernel_rfl
theorem put_ro {a b s e p : D} : putD "pull" p (putD "end" e (putD "start" s (putD "other" b (putD "one" a [])))) = ([("one", a), ("other", b), ("start", s), ("end", e), ("pull", p)] : List (Str × D)) := by kernel_rfl
theorem putD_len {f : Str} {x : D} : ∀ {fs : List (Str × D)}, (putD f x fs).length ≤ fs.length + 1
  | [] => by simp [putD]
  | (g, y) :: r => by
    unfold putD
    split
    · simp
    · have := putD_len (f := f) (x := x) (fs := r)
      simp only [List.length_cons]
      omega
theorem point_is {y : D} (h : point y = true) : ∃ i j : Int, seqD y = some [.int i, .int j] ∧ tupOf y = .tup [.int i, .int j] := by
  have two : ∀ xs, pt2 xs = true → ∃ i j : Int, xs = [.int i, .int j] := fun xs h => by
    match xs, h with
    | [a, b], h =>
      simp only [pt2, Bool.and_eq_true] at h
      obtain ⟨i, ea, _⟩ := whole_int h.1
      obtain ⟨j, eb, _⟩ := whole_int h.2
      exact ⟨i, j, by rw [ea, eb]⟩
  cases y with
  | tup xs =>
    obtain ⟨i, j, e⟩ := two xs h
    subst e
    exact ⟨i, j, rfl, rfl⟩
  | lst xs =>
    obtain ⟨i, j, e⟩ := two xs h
    subst e
    exact ⟨i, j, rfl, rfl⟩
  | _ => simp [point] at h
theorem shp2 {i j : Int} : SeqAt.shaped (.tuple [.int i, .int j]) = true := by rfl
theorem py2 {i j : Int} : (D.tup [.int i, .int j]).py = some (.tuple [.int i, .int j]) := by rfl
theorem sh_str {z : Str} (h : okA (.str z) = true) : SeqAt.shaped (.str z) = true := by
  simp only [okA, Bool.and_eq_true] at h
  have e : PyData.canLay0 (.str z) = true := by rw [PyData.canLay0]; exact h.2
  have d : (PyData.str z).depth ≤ 64 := by simp [PyData.depth]
  simp [SeqAt.shaped, e, d]
section
variable {P : Program} {w : World} {K : PySem.W.Frag} {mg : Str → Option Value} {base : Heap} {A : Adr}
theorem pure_Ballast_init (T : Txt K mg A) : ∀ ds M Q E, sp_Ballast_init K A ds M Q E → t_Ballast_init K A (endsOf Q E) (start3 N_Ballast_init ds) M := by
  rintro ds M Q E ⟨p, as, rfl, hp, hl, ho, h⟩
  match as, hl with
  | [s, x, v], _ =>
    simp only [List.map_cons, List.map_nil, List.all_cons, List.all_nil, Bool.and_eq_true] at h ho
    obtain ⟨h1, h2, h3, _⟩ := ho
    unfold t_Ballast_init
    repeat walk_at "rd"
    refine use_whole h1 ?_
    repeat walk_at "rd"
    refine rd_ite (fun e1 => ?_) fun e1 => ?_
    · repeat walk_at "rd"
      refine ⟨rfl, ?_⟩
      repeat walk_at "rd"
      have hc : chk .ba [s.fz M, x.fz M, v.fz M] = some ("stone" : Str) := by simp only [chk, chkBa, e1, if_true]
      rw [hc] at h
      exact h
    repeat walk_at "rd"
    refine use_whole h2 ?_
    repeat walk_at "rd"
    refine rd_ite (fun e2 => ?_) fun e2 => ?_
    · repeat walk_at "rd"
      refine ⟨rfl, ?_⟩
      repeat walk_at "rd"
      have hc : chk .ba [s.fz M, x.fz M, v.fz M] = some ("x" : Str) := by simp only [chk, chkBa, e1, e2, if_true, Bool.false_eq_true, if_false]
      rw [hc] at h
      exact h
    repeat walk_at "rd"
    refine use_whole h3 ?_
    repeat walk_at "rd"
    refine rd_ite (fun e3 => ?_) fun e3 => ?_
    · repeat walk_at "rd"
      refine ⟨rfl, ?_⟩
      repeat walk_at "rd"
      have hc : chk .ba [s.fz M, x.fz M, v.fz M] = some ("weight" : Str) := by
        have e3' : (!whole (v.fz M) (-big) big) = true := e3
        simp only [chk, chkBa, e1, e2, e3', Bool.true_or, if_true, Bool.false_eq_true, if_false]
      rw [hc] at h
      exact h
    have e3' : whole (v.fz M) (-big) big = true := by simpa using e3
    obtain ⟨i, hi, _, _⟩ := whole_int e3'
    have ev := fz_int hi
    subst ev
    repeat walk_at "rd"
    refine rd_ite (fun e4 => ?_) fun e4 => ?_
    · repeat walk_at "rd"
      refine ⟨rfl, ?_⟩
      repeat walk_at "rd"
      have hc : chk .ba [s.fz M, x.fz M, (D.int i).fz M] = some ("weight" : Str) := by
        have e4' : eqD ((D.int i).fz M) (.int 0) = true := by rw [hi, eqD_int]; exact e4
        simp only [chk, chkBa, e1, e2, e4', Bool.or_true, if_true, Bool.false_eq_true, if_false]
      rw [hc] at h
      exact h
    have e4' : eqD ((D.int i).fz M) (.int 0) = false := by rw [hi, eqD_int]; exact e4
    have e1' : whole (s.fz M) 0 7 = true := by simpa using e1
    have e2' : whole (x.fz M) (-1000000) 1000000 = true := by simpa using e2
    obtain ⟨a, ha, _, _⟩ := whole_int e1'
    obtain ⟨b, hb, _, _⟩ := whole_int e2'
    have hc : chk .ba [s.fz M, x.fz M, (D.int i).fz M] = none := by
      simp only [chk, chkBa, e1, e2, e3', e4', Bool.not_true, Bool.or_false, Bool.false_eq_true, if_false]
    rw [hc] at h
    have es := fz_int ha
    have ex := fz_int hb
    subst es ex
    have C1 := T.cd_Ballast.cl
    repeat walk_at "rd"
    refine rd_exfld hp C1 T.na_Ballast_stone (by decide) ?_
    repeat walk_at "rd"
    refine rd_exfld put_same C1 T.na_Ballast_x (Nat.lt_of_le_of_lt putD_len (by decide)) ?_
    repeat walk_at "rd"
    refine rd_exfld put_same C1 T.na_Ballast_weight (Nat.lt_of_le_of_lt putD_len (Nat.lt_of_le_of_lt (Nat.succ_le_succ putD_len) (by decide))) ?_
    repeat walk_at "rd"
    simp only [put_put, put_ba]
    exact h
theorem pure_Rod_init (T : Txt K mg A) : ∀ ds M Q E, sp_Rod_init K A ds M Q E → t_Rod_init K A (endsOf Q E) (start3 N_Rod_init ds) M := by
  rintro ds M Q E ⟨q, as, rfl, hp, hl, ho, h⟩
  match as, hl with
  | [a, b, s, f, p], _ =>
    simp only [List.map_cons, List.map_nil, List.all_cons, List.all_nil, Bool.and_eq_true] at h ho
    obtain ⟨h1, h2, h3, h4, h5, _⟩ := ho
    unfold t_Rod_init
    repeat walk_at "rd"
    refine use_whole h1 ?_
    repeat walk_at "rd"
    refine rd_ite (fun e1 => ?_) fun e1 => ?_
    · repeat walk_at "rd"
      refine ⟨rfl, ?_⟩
      repeat walk_at "rd"
      have hc : chk .ro [a.fz M, b.fz M, s.fz M, f.fz M, p.fz M] = some ("one" : Str) := by simp only [chk, chkRo, e1, if_true]
      rw [hc] at h
      exact h
    have e1' : whole (a.fz M) 0 7 = true := by simpa using e1
    obtain ⟨i, hi, _, _⟩ := whole_int e1'
    have ea := fz_int hi
    subst ea
    repeat walk_at "rd"
    refine use_whole h2 ?_
    repeat walk_at "rd"
    refine rd_ite (fun e2 => ?_) fun e2 => ?_
    · repeat walk_at "rd"
      refine ⟨rfl, ?_⟩
      repeat walk_at "rd"
      have hc : chk .ro [(D.int i).fz M, b.fz M, s.fz M, f.fz M, p.fz M] = some ("other" : Str) := by simp only [chk, chkRo, e1, e2, Bool.true_or, if_true, Bool.false_eq_true, if_false]
      rw [hc] at h
      exact h
    have e2' : whole (b.fz M) 0 7 = true := by simpa using e2
    obtain ⟨j, hj, _, _⟩ := whole_int e2'
    have eb := fz_int hj
    subst eb
    repeat walk_at "rd"
    refine rd_ite (fun e3 => ?_) fun e3 => ?_
    · repeat walk_at "rd"
      refine ⟨rfl, ?_⟩
      repeat walk_at "rd"
      have e3' : eqD ((D.int j).fz M) ((D.int i).fz M) = true := by rw [hi, hj, eqD_int]; exact e3
      have hc : chk .ro [(D.int i).fz M, (D.int j).fz M, s.fz M, f.fz M, p.fz M] = some ("other" : Str) := by simp only [chk, chkRo, e1, e3', Bool.or_true, if_true, Bool.false_eq_true, if_false]
      rw [hc] at h
      exact h
    have e3' : eqD ((D.int j).fz M) ((D.int i).fz M) = false := by rw [hi, hj, eqD_int]; exact e3
    repeat walk_at "rd"
    refine use_point h3 ?_
    repeat walk_at "rd"
    refine rd_ite (fun e4 => ?_) fun e4 => ?_
    · repeat walk_at "rd"
      refine ⟨rfl, ?_⟩
      repeat walk_at "rd"
      have hc : chk .ro [(D.int i).fz M, (D.int j).fz M, s.fz M, f.fz M, p.fz M] = some ("start" : Str) := by simp only [chk, chkRo, e1, e2, e3', e4, Bool.or_false, if_true, Bool.false_eq_true, if_false]
      rw [hc] at h
      exact h
    have e4' : point (s.fz M) = true := by simpa using e4
    obtain ⟨s1, s2, hs, ts⟩ := point_is e4'
    have is_ := items_fz hs
    repeat walk_at "rd"
    refine use_point h4 ?_
    repeat walk_at "rd"
    refine rd_ite (fun e5 => ?_) fun e5 => ?_
    · repeat walk_at "rd"
      refine ⟨rfl, ?_⟩
      repeat walk_at "rd"
      have hc : chk .ro [(D.int i).fz M, (D.int j).fz M, s.fz M, f.fz M, p.fz M] = some ("end" : Str) := by simp only [chk, chkRo, e1, e2, e3', e4, e5, Bool.or_false, Bool.true_or, if_true, Bool.false_eq_true, if_false]
      rw [hc] at h
      exact h
    have e5' : point (f.fz M) = true := by simpa using e5
    obtain ⟨f1, f2, hf, tf⟩ := point_is e5'
    have if_ := items_fz hf
    repeat walk_at "rd"
    refine rd_tuple if_ ?_
    repeat walk_at "rd"
    refine rd_tuple is_ ?_
    refine rd_eq py2 py2 shp2 shp2 ?_
    have eqq : eqD (tupOf (f.fz M)) (tupOf (s.fz M)) = PyData.eqv (.tuple [.int f1, .int f2]) (.tuple [.int s1, .int s2]) := by rw [ts, tf]; rfl
    repeat walk_at "rd"
    refine rd_ite (fun e6 => ?_) fun e6 => ?_
    · repeat walk_at "rd"
      refine ⟨rfl, ?_⟩
      repeat walk_at "rd"
      rw [← eqq] at e6
      have hc : chk .ro [(D.int i).fz M, (D.int j).fz M, s.fz M, f.fz M, p.fz M] = some ("end" : Str) := by simp only [chk, chkRo, e1, e2, e3', e4, e6, Bool.or_false, Bool.or_true, if_true, Bool.false_eq_true, if_false]
      rw [hc] at h
      exact h
    rw [← eqq] at e6
    repeat walk_at "rd"
    refine use_whole h5 ?_
    repeat walk_at "rd"
    refine rd_ite (fun e7 => ?_) fun e7 => ?_
    · repeat walk_at "rd"
      refine ⟨rfl, ?_⟩
      repeat walk_at "rd"
      have e7' : (!whole (p.fz M) 1 big) = true := e7
      have hc : chk .ro [(D.int i).fz M, (D.int j).fz M, s.fz M, f.fz M, p.fz M] = some ("pull" : Str) := by simp only [chk, chkRo, e1, e2, e3', e4, e5, e6, e7', Bool.or_false, if_true, Bool.false_eq_true, if_false]
      rw [hc] at h
      exact h
    have e7' : whole (p.fz M) 1 big = true := by simpa using e7
    obtain ⟨n, hn, _, _⟩ := whole_int e7'
    have en := fz_int hn
    subst en
    have hc : chk .ro [(D.int i).fz M, (D.int j).fz M, s.fz M, f.fz M, (D.int n).fz M] = none := by
      have e7'' : (!whole ((D.int n).fz M) 1 big) = false := e7
      simp only [chk, chkRo, e1, e2, e3', e4, e5, e6, e7'', Bool.or_false, Bool.false_eq_true, if_false]
    rw [hc] at h
    have C1 := T.cd_Rod.cl
    have l1 : ∀ {g : Str} {y : D}, (putD g y []).length < 1000 := Nat.lt_of_le_of_lt putD_len (by decide)
    repeat walk_at "rd"
    refine rd_exfld hp C1 T.na_Rod_one (by decide) ?_
    repeat walk_at "rd"
    refine rd_exfld put_same C1 T.na_Rod_other l1 ?_
    have is2 : ∀ o, s.items ((M.put q o)) = s.items M ∨ True := fun _ => .inr trivial
    have keep : ∀ (x : D) (C : Addr) (gs : List (Str × D)) (xs : List D), x.items M = some xs → x.items (M.put q (.ins C gs)) = some xs := fun x C gs xs hx => by
      cases x with
      | ref z =>
        by_cases ez : z = q
        · subst ez
          simp [D.items, hp] at hx
        · simp only [D.items, put_ne ez] at hx ⊢
          exact hx
      | _ => exact hx
    repeat walk_at "rd"
    simp only [put_put]
    refine rd_tuple (keep _ _ _ _ is_) ?_
    repeat walk_at "rd"
    refine rd_exfld put_same C1 T.na_Rod_start (Nat.lt_of_le_of_lt putD_len (Nat.lt_of_le_of_lt (Nat.succ_le_succ putD_len) (by decide))) ?_
    repeat walk_at "rd"
    simp only [put_put]
    refine rd_tuple (keep _ _ _ _ if_) ?_
    repeat walk_at "rd"
    refine rd_exfld put_same C1 T.na_Rod_end (Nat.lt_of_le_of_lt putD_len (Nat.lt_of_le_of_lt (Nat.succ_le_succ putD_len) (Nat.lt_of_le_of_lt (Nat.succ_le_succ (Nat.succ_le_succ putD_len)) (by decide)))) ?_
    repeat walk_at "rd"
    refine rd_exfld put_same C1 T.na_Rod_pull (Nat.lt_of_le_of_lt putD_len (Nat.lt_of_le_of_lt (Nat.succ_le_succ putD_len) (Nat.lt_of_le_of_lt (Nat.succ_le_succ (Nat.succ_le_succ putD_len)) (Nat.lt_of_le_of_lt (Nat.succ_le_succ (Nat.succ_le_succ (Nat.succ_le_succ putD_len))) (by decide))))) ?_
    repeat walk_at "rd"
    simp only [put_put, put_ro]
    have ef : flds .ro [(D.int i).fz M, (D.int j).fz M, s.fz M, f.fz M, (D.int n).fz M] = ([("one", .int i), ("other", .int j), ("start", .tup [.int s1, .int s2]), ("end", .tup [.int f1, .int f2]), ("pull", .int n)] : List (Str × D)) := by
      simp only [flds, keys, vals, List.map_cons, List.map_nil, ts, tf]
      rfl
    simp only [ef] at h
    exact h
end
end K68

namespace K68
open PySem PySem.Spec PyProof.Rows L2 L3
local macro_rules | `(tactic| walk_at "rd") => `(tactic| first
  | (with_reducible refine rd_seq ?_) | (with_reducible refine rd_ifS ?_) | (with_reducible refine rd_asg ?_) | (with_reducible refine rd_ret ?_) | (with_reducible refine rd_drop ?_) | (with_reducible refine rd_next ?_)
  | (with_reducible refine rd_name ?_) | (with_reducible refine rd_cons ?_) | (with_reducible refine rd_nil ?_) | (with_reducible refine rd_c ?_) | (with_reducible refine rd_op ?_) | (with_reducible refine rd_un ?_)
  | (with_reducible refine rd_test ?_) | (with_reducible refine rd_chain ?_) | (with_reducible refine rd_and ?_) | (with_reducible refine rd_or ?_) | (with_reducible refine rd_not ?_) | (with_reducible refine rd_andV ?_) | (with_reducible refine rd_orV ?_) | (with_reducible refine rd_notV ?_)
  | (with_reducible refine rd_if ?_) | (with_reducible refine rd_exbl ?_) | (with_reducible refine rd_exint ?_) | (with_reducible refine rd_tup ?_) | (with_reducible refine rd_lst ?_) | (with_reducible refine rd_lstM ?_) | (with_reducible refine rd_cb ?_) | (with_reducible refine rd_call ?_) | (with_reducible refine rd_make ?_)
  | (with_reducible refine rd_sl ?_) | (with_reducible refine rd_part ?_) | (with_reducible refine rd_nopart ?_) | (with_reducible refine rd_par ?_) | (with_reducible refine rd_expar ?_) | (with_reducible refine rd_tru ?_)
  | (with_reducible refine rd_for ?_) | (with_reducible refine rd_raise ?_) | (with_reducible refine rd_fldS ?_) | (with_reducible refine rd_retN ?_) | (with_reducible refine rd_break ?_) | (with_reducible refine rd_cont ?_)
  | (with_reducible refine rd_endrt ?_) | (with_reducible refine rd_endnx ?_) | (with_reducible refine rd_endex ?_) | (with_reducible refine rd_nx ?_) | (with_reducible refine rd_rt ?_) | (with_reducible refine rd_bk ?_) | (with_reducible refine rd_ct ?_) | (with_reducible refine rd_ex ?_)
  | (with_reducible refine rd_I3 ?_) | (with_reducible refine rd_neg ?_) | (with_reducible refine rd_addI ?_) | (with_reducible refine rd_lt ?_) | (with_reducible refine rd_le ?_) | (with_reducible refine rd_gt ?_) | (with_reducible refine rd_ge ?_)
  | (with_reducible refine rd_isN ?_) | (with_reducible refine rd_notN ?_) | (with_reducible refine rd_eqI ?_) | (with_reducible refine rd_neI ?_) | (with_reducible refine rd_int1 ?_) | (with_reducible refine rd_intOf ?_)
  | (with_reducible refine rd_p6 ?_) | (with_reducible refine rd_p18 ?_) | (with_reducible refine rd_p20 ?_) | (with_reducible refine rd_p30 ?_)
  | ((with_reducible refine rd_IC3 ?cc ?_); (case cc => first | decide | exact Or.inr (Or.inr ⟨by decide, by decide⟩) | exact Or.inr (Or.inl ⟨by decide, by decide⟩) | exact ⟨by decide, by decide⟩))
  | ((with_reducible show tVar3 _ _ _ _ _); refine rd_var rfl ?_)
  | ((with_reducible show opIx3 _ (D.int _) _ _); refine rd_ix (by first | exact rfl | assumption) (by first | exact rfl | assumption) ?_)
  | ((with_reducible show aLen3 [_] _ _); refine rd_len (by first | exact rfl | assumption) ?_)
  | (with_reducible refine rd_le1 ?_) 
  | (with_reducible refine rd_iteTT ?_) | (with_reducible refine rd_iteFF ?_))
/-! ## what the data of the model are for the library's == -/
theorem okA_py {a : D} (h : okA a = true) : ∃ d, a.py = some d ∧ d.canLay0 = true ∧ d.depth = 0 := by
  cases a with
  | non => exact ⟨.none, rfl, by rw [PyData.canLay0], by rw [PyData.depth]⟩
  | bl b => exact ⟨.bool b, rfl, by rw [PyData.canLay0], by rw [PyData.depth]⟩
  | int i => exact ⟨.int i, rfl, by rw [PyData.canLay0], by rw [PyData.depth]⟩
  | str z =>
    simp only [okA, Bool.and_eq_true] at h
    exact ⟨.str z, rfl, by rw [PyData.canLay0]; exact h.2, by rw [PyData.depth]⟩
  | _ => simp [okA] at h
theorem okAs_py : ∀ {xs : List D}, xs.all okA = true → ∃ ds, D.pys xs = some ds ∧ PyData.canLayAll0 ds = true ∧ PyData.depthAll ds = 0
  | [], _ => ⟨[], rfl, by rw [PyData.canLayAll0], by rw [PyData.depthAll]⟩
  | x :: xs, h => by
    rw [List.all_cons, Bool.and_eq_true] at h
    obtain ⟨d, h1, h2, h3⟩ := okA_py h.1
    obtain ⟨ds, q1, q2, q3⟩ := okAs_py h.2
    exact ⟨d :: ds, by simp [D.pys, h1, q1], by rw [PyData.canLayAll0, h2, q2]; rfl, by rw [PyData.depthAll, h3, q3]; rfl⟩
theorem okT_py0 {a : D} (h : okT a = true) : ∃ d, a.py = some d ∧ d.canLay0 = true ∧ d.depth ≤ 1 := by
  cases a with
  | tup xs =>
    simp only [okT, Bool.and_eq_true] at h
    obtain ⟨ds, q1, q2, q3⟩ := okAs_py h.2
    exact ⟨.tuple ds, by simp [D.py, q1], by rw [PyData.canLay0]; exact q2, by rw [PyData.depth, q3]; decide⟩
  | lst xs =>
    simp only [okT, Bool.and_eq_true] at h
    obtain ⟨ds, q1, q2, q3⟩ := okAs_py h.2
    exact ⟨.list ds, by simp [D.py, q1], by rw [PyData.canLay0]; exact q2, by rw [PyData.depth, q3]; decide⟩
  | non => obtain ⟨d, h1, h2, h3⟩ := okA_py (a := .non) rfl; exact ⟨d, h1, h2, by omega⟩
  | bl b => obtain ⟨d, h1, h2, h3⟩ := okA_py (a := .bl b) rfl; exact ⟨d, h1, h2, by omega⟩
  | int i => obtain ⟨d, h1, h2, h3⟩ := okA_py (a := .int i) rfl; exact ⟨d, h1, h2, by omega⟩
  | str z => obtain ⟨d, h1, h2, h3⟩ := okA_py (a := .str z) h; exact ⟨d, h1, h2, by omega⟩
  | _ => simp [okT, okA] at h
theorem shp_of {d : PyData} (h1 : d.canLay0 = true) (h2 : d.depth ≤ 64) : SeqAt.shaped d = true := by simp [SeqAt.shaped, h1, h2]
theorem okT_py {a : D} (h : okT a = true) : a.py = some (pyD a) ∧ SeqAt.shaped (pyD a) = true := by
  obtain ⟨d, h1, h2, h3⟩ := okT_py0 h
  have e : pyD a = d := by unfold pyD; rw [h1]; rfl
  rw [e]
  exact ⟨h1, shp_of h2 (by omega)⟩
theorem rd_eqT {a b : D} {M : Mem} {Q : VK3} (ha : okT a = true) (hb : okT b = true) (q : Q (.bl (eqD a b)) M) : opEqD3 a b M Q := rd_eq (okT_py ha).1 (okT_py hb).1 (okT_py ha).2 (okT_py hb).2 q
theorem rd_neT {a b : D} {M : Mem} {Q : VK3} (ha : okT a = true) (hb : okT b = true) (q : Q (.bl (!eqD a b)) M) : opNeD3 a b M Q := rd_ne (okT_py ha).1 (okT_py hb).1 (okT_py ha).2 (okT_py hb).2 q
/-! ## comprehensions that change nothing -/
theorem lcP_map {T : Tgt} {own : List Nat} {tt : TT3} {te : TE3} {xs : List D} {G : Mem → Prop} {σ : St3} {M : Mem} {Q : VK3} (k : D → Bool) (g : D → D) (hl : xs.length ≤ 1000000) (hg : ∀ L acc, M L = none → G (M.put L (.lst acc)))
    (hs : ∀ x ∈ xs, ∃ σ', T.put x (wipe3 σ own) = some σ' ∧ (∀ (L : Addr) (acc : List D) (Q' : Bool → Mem → Prop), M L = none → Q' (k x) (M.put L (.lst acc)) → tt σ' (M.put L (.lst acc)) Q' noE) ∧
      (k x = true → ∀ (L : Addr) (acc : List D) (Q' : VK3), M L = none → Q' (g x) (M.put L (.lst acc)) → te σ' (M.put L (.lst acc)) Q' noE))
    (q : Q (.lst ((xs.filter k).map g)) M) : lcP T own tt te xs G σ M Q := by
  intro L hL
  refine ⟨fun i acc M' => M' = M ∧ acc = ((xs.take i).filter k).map g, ⟨rfl, rfl⟩, ?_, ?_, ?_⟩
  · rintro i acc M' hL' ⟨rfl, _⟩
    exact hg L acc hL'
  · rintro i acc x M' hx hL' ⟨rfl, rfl⟩
    have hi : i < xs.length := (List.getElem?_eq_some_iff.mp hx).1
    have hm : x ∈ xs := List.mem_of_getElem? hx
    obtain ⟨σ', h1, h2, h3⟩ := hs x hm
    have ht : xs.take (i + 1) = xs.take i ++ [x] := by rw [List.take_add_one, hx]; rfl
    refine ⟨?_, σ', h1, h2 L _ _ hL' ?_⟩
    · have a1 : (((xs.take i).filter k).map g).length ≤ i := by
        rw [List.length_map]
        exact Nat.le_trans (List.length_filter_le _ _) (by rw [List.length_take]; omega)
      omega
    · split
      · rename_i hk
        refine h3 hk L _ _ hL' ⟨_, rfl, hL', rfl, ?_⟩
        rw [ht, List.filter_append, List.map_append]
        simp [hk]
      · rename_i hk
        refine ⟨_, rfl, hL', rfl, ?_⟩
        rw [ht, List.filter_append, List.map_append]
        simp [hk]
  · rintro acc M' hL' ⟨rfl, rfl⟩
    rw [List.take_length]
    exact q
theorem bools_map {α : Type} {f : α → Bool} : ∀ {l : List α}, bools (l.map fun c => .bl (f c)) = some (l.map f)
  | [] => rfl
  | x :: l => by
    show (bools (l.map fun c => .bl (f c))).map (f x :: ·) = _
    rw [bools_map]
    rfl
theorem rd_lc {wi : TI3} {T : Tgt} {own : List Nat} {tt : TT3} {te : TE3} {σ : St3} {M : Mem} {Q : VK3} {E : XK3} (k : wi σ M (fun xs G M1 => lcP T own tt te xs G σ M1 Q) E) : tLc3 wi T own tt te σ M Q E := k
theorem rd_iStr {te : TE3} {σ : St3} {M : Mem} {Q : List D → (Mem → Prop) → Mem → Prop} {E : XK3} (k : te σ M (fun x M1 => ∃ z, x = .str z ∧ Q (signsD z) (fun _ => True) M1) E) : iStr3 te σ M Q E := k
theorem rd_iSeq {te : TE3} {σ : St3} {M : Mem} {Q : List D → (Mem → Prop) → Mem → Prop} {E : XK3} (k : te σ M (fun x M1 => ∃ xs, x.items M1 = some xs ∧ Q xs (stays x xs) M1) E) : iSeq3 te σ M Q E := k
theorem okT_str {M : Mem} {x : D} {z : Str} (h : x.fz M = .str z) : x = .str z := by
  cases x with
  | ref a =>
    cases e : M a with
    | none => simp [D.fz, e] at h
    | some o => cases o <;> simp [D.fz, e] at h
  | _ => simpa [D.fz] using h
theorem isX_str {y : D} (h : isX y = true) : ∃ z, y = .str z := by cases y <;> simp [isX] at h <;> exact ⟨_, rfl⟩
theorem okA_len {z : Str} (h : okA (.str z) = true) : z.length ≤ 1000000 := by
  simp only [okA, Bool.and_eq_true, decide_eq_true_eq] at h
  omega
theorem any_not {α : Type} {f : α → Bool} : ∀ {l : List α}, (l.map fun c => xor true (f c)).any id = !l.all f
  | [] => rfl
  | x :: l => by
    rw [List.map_cons, List.any_cons, any_not, List.all_cons]
    cases f x <;> rfl
section
variable {P : Program} {w : World} {K : PySem.W.Frag} {mg : Str → Option Value} {base : Heap} {A : Adr}
theorem pure_Shut_init (T : Txt K mg A) : ∀ ds M Q E, sp_Shut_init K A ds M Q E → t_Shut_init K A (endsOf Q E) (start3 N_Shut_init ds) M := by
  rintro ds M Q E ⟨p, as, rfl, hp, hl, ho, h⟩
  match as, hl with
  | [x], _ =>
    simp only [List.map_cons, List.map_nil, List.all_cons, List.all_nil, Bool.and_eq_true] at h ho
    obtain ⟨h1, _⟩ := ho
    unfold t_Shut_init
    repeat walk_at "rd"
    refine isi_str h1 ?_
    repeat walk_at "rd"
    have wrong : nameOk (x.fz M) = false → E (.ref A.C_BadChange) (([("what" : Str)].zip [D.str "name"]).reverse) M := fun e => by
      have hc : chk .sh [x.fz M] = some ("name" : Str) := by simp only [chk, chkSh, e, Bool.false_eq_true, if_false]
      rw [hc] at h
      exact h
    refine rd_ite (fun e1 => ?_) fun e1 => ?_
    · repeat walk_at "rd"
      refine ⟨rfl, ?_⟩
      repeat walk_at "rd"
      refine wrong ?_
      cases z : x.fz M <;> simp [z, isX] at e1 ⊢ <;> rfl
    have e1' : isX (x.fz M) = true := by simpa using e1
    obtain ⟨z, hz⟩ := isX_str e1'
    have ez := okT_str hz
    subst ez
    rw [hz] at h1
    have hlen := okA_len h1
    repeat walk_at "rd"
    refine rd_lenS hlen ?_
    repeat walk_at "rd"
    refine rd_ite (fun e2 => ?_) fun e2 => ?_
    rotate_left
    · repeat walk_at "rd"
      refine ⟨rfl, ?_⟩
      repeat walk_at "rd"
      refine wrong ?_
      rw [hz]
      simp only [nameOk, e2, Bool.false_and]
    repeat walk_at "rd"
    refine rd_ite (fun e3 => ?_) fun e3 => ?_
    · repeat walk_at "rd"
      refine ⟨rfl, ?_⟩
      repeat walk_at "rd"
      refine wrong ?_
      rw [hz]
      have e3' : decide ((z.length : Int) ≤ 12) = false := by simpa using e3
      simp only [nameOk, e3', Bool.and_false, Bool.false_and]
    have e3' : decide ((z.length : Int) ≤ 12) = true := by simpa using e3
    repeat walk_at "rd"
    refine rd_lc (rd_iStr ?_)
    repeat walk_at "rd"
    refine ⟨z, rfl, ?_⟩
    refine lcP_map (fun _ => true) (fun y => match y with | .str s => .bl (xor true (decide (s.cps.toList.headD 0 ∈ ("abcdefghijklmnopqrstuvwxyz" : Str).cps.toList))) | _ => .non) (by unfold signsD; rw [List.length_map, Array.length_toList]; exact hlen) (fun _ _ _ => trivial) (fun y hy => ?_) ?_
    · unfold signsD at hy
      obtain ⟨c, _, rfl⟩ := List.mem_map.mp hy
      refine ⟨_, rfl, fun L acc Q' hL q => q, fun _ L acc Q' hL q => ?_⟩
      repeat walk_at "rd"
      exact .inr ⟨c, _, rfl, rfl, q⟩
    have eb : bools ((List.filter (fun _ => true) (signsD z)).map (fun y => match y with | .str s => .bl (xor true (decide (s.cps.toList.headD 0 ∈ ("abcdefghijklmnopqrstuvwxyz" : Str).cps.toList))) | _ => .non)) = some (z.cps.toList.map fun c => xor true (decide (c ∈ ("abcdefghijklmnopqrstuvwxyz" : Str).cps.toList))) := by
      rw [List.filter_eq_self.mpr (fun _ _ => rfl)]
      unfold signsD
      rw [List.map_map]
      exact bools_map
    repeat walk_at "rd"
    refine ⟨_, _, _, rfl, .inl rfl, eb, ?_⟩
    rw [any_not]
    repeat walk_at "rd"
    refine rd_ite (fun e4 => ?_) fun e4 => ?_
    · repeat walk_at "rd"
      refine ⟨rfl, ?_⟩
      repeat walk_at "rd"
      refine wrong ?_
      rw [hz]
      have e4' : lett z = false := by simpa [lett] using e4
      simp only [nameOk, e4', Bool.and_false]
    have e4' : lett z = true := by simpa [lett] using e4
    have hc : chk .sh [(D.str z).fz M] = none := by
      rw [hz]
      simp only [chk, chkSh, nameOk, e2, e3', e4', Bool.and_self, if_true]
    rw [hc] at h
    repeat walk_at "rd"
    refine rd_exfld hp T.cd_Shut.cl T.na_Shut_name (by decide) ?_
    repeat walk_at "rd"
    exact h
theorem pure_Spaced_init (T : Txt K mg A) : ∀ ds M Q E, sp_Spaced_init K A ds M Q E → t_Spaced_init K A (endsOf Q E) (start3 N_Spaced_init ds) M := by
  rintro ds M Q E ⟨p, as, rfl, hp, hl, ho, h⟩
  match as, hl with
  | [x], _ =>
    simp only [List.map_cons, List.map_nil, List.all_cons, List.all_nil, Bool.and_eq_true] at h ho
    obtain ⟨h1, _⟩ := ho
    unfold t_Spaced_init
    repeat walk_at "rd"
    refine use_whole h1 ?_
    repeat walk_at "rd"
    refine rd_ite (fun e1 => ?_) fun e1 => ?_
    · repeat walk_at "rd"
      refine ⟨rfl, ?_⟩
      repeat walk_at "rd"
      have hc : chk .sp [x.fz M] = some ("extra" : Str) := by simp only [chk, chkSp, e1, if_true]
      rw [hc] at h
      exact h
    have e1' : whole (x.fz M) 1 100 = true := by simpa using e1
    obtain ⟨i, hi, _, _⟩ := whole_int e1'
    have ei := fz_int hi
    subst ei
    have hc : chk .sp [(D.int i).fz M] = none := by simp only [chk, chkSp, e1, Bool.false_eq_true, if_false]
    rw [hc] at h
    repeat walk_at "rd"
    refine rd_exfld hp T.cd_Spaced.cl T.na_Spaced_extra (by decide) ?_
    repeat walk_at "rd"
    exact h
theorem len_ini {k : Kind} {ds : List D} {M : Mem} {Q : VK3} {E : XK3} (h : spIni A k ds M Q E) : ds.length = k.n + 1 := by
  obtain ⟨p, as, rfl, _, hl, _⟩ := h
  simp [hl]
theorem len_Ballast_init : ∀ ds M Q E, sp_Ballast_init K A ds M Q E → ds.length = (["self", "stone", "x", "weight"] : List Str).length := fun _ _ _ _ h => len_ini h
theorem len_Rod_init : ∀ ds M Q E, sp_Rod_init K A ds M Q E → ds.length = (["self", "one", "other", "start", "end", "pull"] : List Str).length := fun _ _ _ _ h => len_ini h
theorem len_Shut_init : ∀ ds M Q E, sp_Shut_init K A ds M Q E → ds.length = (["self", "name"] : List Str).length := fun _ _ _ _ h => len_ini h
theorem len_Spaced_init : ∀ ds M Q E, sp_Spaced_init K A ds M Q E → ds.length = (["self", "extra"] : List Str).length := fun _ _ _ _ h => len_ini h
end
end K68

namespace K68
open PySem PySem.Spec PyProof.Rows L2 L3
local macro_rules | `(tactic| walk_at "rd") => `(tactic| first
  | (with_reducible refine rd_seq ?_) | (with_reducible refine rd_ifS ?_) | (with_reducible refine rd_asg ?_) | (with_reducible refine rd_ret ?_) | (with_reducible refine rd_drop ?_) | (with_reducible refine rd_next ?_)
  | (with_reducible refine rd_name ?_) | (with_reducible refine rd_cons ?_) | (with_reducible refine rd_nil ?_) | (with_reducible refine rd_c ?_) | (with_reducible refine rd_op ?_) | (with_reducible refine rd_un ?_)
  | (with_reducible refine rd_test ?_) | (with_reducible refine rd_chain ?_) | (with_reducible refine rd_and ?_) | (with_reducible refine rd_or ?_) | (with_reducible refine rd_not ?_) | (with_reducible refine rd_andV ?_) | (with_reducible refine rd_orV ?_) | (with_reducible refine rd_notV ?_)
  | (with_reducible refine rd_if ?_) | (with_reducible refine rd_exbl ?_) | (with_reducible refine rd_exint ?_) | (with_reducible refine rd_tup ?_) | (with_reducible refine rd_lst ?_) | (with_reducible refine rd_lstM ?_) | (with_reducible refine rd_cb ?_) | (with_reducible refine rd_call ?_) | (with_reducible refine rd_make ?_)
  | (with_reducible refine rd_sl ?_) | (with_reducible refine rd_part ?_) | (with_reducible refine rd_nopart ?_) | (with_reducible refine rd_par ?_) | (with_reducible refine rd_expar ?_) | (with_reducible refine rd_tru ?_)
  | (with_reducible refine rd_for ?_) | (with_reducible refine rd_raise ?_) | (with_reducible refine rd_fldS ?_) | (with_reducible refine rd_retN ?_) | (with_reducible refine rd_break ?_) | (with_reducible refine rd_cont ?_)
  | (with_reducible refine rd_endrt ?_) | (with_reducible refine rd_endnx ?_) | (with_reducible refine rd_endex ?_) | (with_reducible refine rd_nx ?_) | (with_reducible refine rd_rt ?_) | (with_reducible refine rd_bk ?_) | (with_reducible refine rd_ct ?_) | (with_reducible refine rd_ex ?_)
  | (with_reducible refine rd_I3 ?_) | (with_reducible refine rd_neg ?_) | (with_reducible refine rd_addI ?_) | (with_reducible refine rd_lt ?_) | (with_reducible refine rd_le ?_) | (with_reducible refine rd_gt ?_) | (with_reducible refine rd_ge ?_)
  | (with_reducible refine rd_isN ?_) | (with_reducible refine rd_notN ?_) | (with_reducible refine rd_eqI ?_) | (with_reducible refine rd_neI ?_) | (with_reducible refine rd_int1 ?_) | (with_reducible refine rd_intOf ?_)
  | (with_reducible refine rd_p6 ?_) | (with_reducible refine rd_p18 ?_) | (with_reducible refine rd_p20 ?_) | (with_reducible refine rd_p30 ?_)
  | ((with_reducible refine rd_IC3 ?cc ?_); (case cc => first | decide | exact Or.inr (Or.inr ⟨by decide, by decide⟩) | exact Or.inr (Or.inl ⟨by decide, by decide⟩) | exact ⟨by decide, by decide⟩))
  | ((with_reducible show tVar3 _ _ _ _ _); refine rd_var rfl ?_)
  | ((with_reducible show opIx3 _ (D.int _) _ _); refine rd_ix (by first | exact rfl | assumption) (by first | exact rfl | assumption) ?_)
  | ((with_reducible show aLen3 [_] _ _); refine rd_len (by first | exact rfl | assumption) ?_)
  | (with_reducible refine rd_le1 ?_) 
  | (with_reducible refine rd_iteTT ?_) | (with_reducible refine rd_iteFF ?_))
theorem kit_self {K : PySem.W.Frag} {C : Addr} : PySem.W.kitOne K (.ref C) (.ref C) = some true := by
  unfold PySem.W.kitOne
  rw [if_pos (by exact beq_self_eq_true (Value.ref C))]
theorem all1 {a : D} (h : [a].all okT = true) : okT a = true := by simpa using h
theorem all3 {a b c : D} (h : [a, b, c].all okT = true) : okT a = true ∧ okT b = true ∧ okT c = true := by simpa using h
theorem all5 {a b c d e : D} (h : [a, b, c, d, e].all okT = true) : okT a = true ∧ okT b = true ∧ okT c = true ∧ okT d = true ∧ okT e = true := by simpa using h
theorem isiC {K : PySem.W.Frag} {C : Addr} {fs : List (Str × D)} {M : Mem} {Q : VK3} (cd : ClsD K C) (q : Q (.bl true) M) : aIsi3 K [.ins C fs, .ref C] M Q :=
  rd_isiC (t := .ref C) rfl (fun C' e => by cases e; exact cd) kit_self q
section
variable {P : Program} {w : World} {K : PySem.W.Frag} {mg : Str → Option Value} {base : Heap} {A : Adr}
theorem len_cmp {k : Kind} {ds : List D} {M : Mem} {Q : VK3} {E : XK3} (h : spCmp K A k ds M Q E) : ds.length = 2 := by
  obtain ⟨vs, y, rfl, _⟩ := h
  rfl
theorem len_Ballast_eq : ∀ ds M Q E, sp_Ballast_eq K A ds M Q E → ds.length = (["self", "other"] : List Str).length := fun _ _ _ _ h => len_cmp h
theorem len_Rod_eq : ∀ ds M Q E, sp_Rod_eq K A ds M Q E → ds.length = (["self", "other"] : List Str).length := fun _ _ _ _ h => len_cmp h
theorem len_Shut_eq : ∀ ds M Q E, sp_Shut_eq K A ds M Q E → ds.length = (["self", "other"] : List Str).length := fun _ _ _ _ h => len_cmp h
theorem len_Spaced_eq : ∀ ds M Q E, sp_Spaced_eq K A ds M Q E → ds.length = (["self", "other"] : List Str).length := fun _ _ _ _ h => len_cmp h
theorem pure_Ballast_eq (T : Txt K mg A) : ∀ ds M Q E, sp_Ballast_eq K A ds M Q E → t_Ballast_eq K A (endsOf Q E) (start3 N_Ballast_eq ds) M := by
  rintro ds M Q E ⟨vs, y, rfl, hl, ho, h⟩
  match vs, hl with
  | [a, b, c], _ =>
    obtain ⟨ha, hb, hc⟩ := all3 ho
    unfold t_Ballast_eq
    repeat walk_at "rd"
    rcases h with ⟨ws, rfl, hl', ho', q⟩ | ⟨t, ht, hC, hk, q⟩
    · match ws, hl' with
      | [a', b', c'], _ =>
        obtain ⟨ha', hb', hc'⟩ := all3 ho'
        refine isiC T.cd_Ballast ?_
        repeat walk_at "rd"
        refine rd_fld (z := a) T.cd_Ballast.cl T.na_Ballast_stone (by kernel_rfl) ?_
        repeat walk_at "rd"
        refine rd_fld (z := a') T.cd_Ballast.cl T.na_Ballast_stone (by kernel_rfl) ?_
        refine rd_eqT ha ha' ?_
        repeat walk_at "rd"
        refine rd_ite (fun e1 => ?_) fun e1 => ?_
        rotate_left
        · have e : eqAll [a, b, c] [a', b', c'] = false := by simp [eqAll, e1]
          rw [e] at q
          repeat walk_at "rd"
          exact q
        repeat walk_at "rd"
        refine rd_fld (z := b) T.cd_Ballast.cl T.na_Ballast_x (by kernel_rfl) ?_
        repeat walk_at "rd"
        refine rd_fld (z := b') T.cd_Ballast.cl T.na_Ballast_x (by kernel_rfl) ?_
        refine rd_eqT hb hb' ?_
        repeat walk_at "rd"
        refine rd_ite (fun e2 => ?_) fun e2 => ?_
        rotate_left
        · have e : eqAll [a, b, c] [a', b', c'] = false := by simp [eqAll, e2]
          rw [e] at q
          repeat walk_at "rd"
          exact q
        repeat walk_at "rd"
        refine rd_fld (z := c) T.cd_Ballast.cl T.na_Ballast_weight (by kernel_rfl) ?_
        repeat walk_at "rd"
        refine rd_fld (z := c') T.cd_Ballast.cl T.na_Ballast_weight (by kernel_rfl) ?_
        refine rd_eqT hc hc' ?_
        have e : eqAll [a, b, c] [a', b', c'] = eqD c c' := by simp [eqAll, e1, e2]
        rw [e] at q
        repeat walk_at "rd"
        exact q
    · refine rd_isiC ht hC hk ?_
      repeat walk_at "rd"
      exact q
theorem pure_Rod_eq (T : Txt K mg A) : ∀ ds M Q E, sp_Rod_eq K A ds M Q E → t_Rod_eq K A (endsOf Q E) (start3 N_Rod_eq ds) M := by
  rintro ds M Q E ⟨vs, y, rfl, hl, ho, h⟩
  match vs, hl with
  | [a, b, c, d, f], _ =>
    obtain ⟨ha, hb, hc, hd, hf⟩ := all5 ho
    unfold t_Rod_eq
    repeat walk_at "rd"
    rcases h with ⟨ws, rfl, hl', ho', q⟩ | ⟨t, ht, hC, hk, q⟩
    · match ws, hl' with
      | [a', b', c', d', f'], _ =>
        obtain ⟨ha', hb', hc', hd', hf'⟩ := all5 ho'
        refine isiC T.cd_Rod ?_
        repeat walk_at "rd"
        refine rd_fld (z := a) T.cd_Rod.cl T.na_Rod_one (by kernel_rfl) ?_
        repeat walk_at "rd"
        refine rd_fld (z := a') T.cd_Rod.cl T.na_Rod_one (by kernel_rfl) ?_
        refine rd_eqT ha ha' ?_
        repeat walk_at "rd"
        refine rd_ite (fun e1 => ?_) fun e1 => ?_
        rotate_left
        · have e : eqAll [a, b, c, d, f] [a', b', c', d', f'] = false := by simp [eqAll, e1]
          rw [e] at q
          repeat walk_at "rd"
          exact q
        repeat walk_at "rd"
        refine rd_fld (z := b) T.cd_Rod.cl T.na_Rod_other (by kernel_rfl) ?_
        repeat walk_at "rd"
        refine rd_fld (z := b') T.cd_Rod.cl T.na_Rod_other (by kernel_rfl) ?_
        refine rd_eqT hb hb' ?_
        repeat walk_at "rd"
        refine rd_ite (fun e2 => ?_) fun e2 => ?_
        rotate_left
        · have e : eqAll [a, b, c, d, f] [a', b', c', d', f'] = false := by simp [eqAll, e2]
          rw [e] at q
          repeat walk_at "rd"
          exact q
        repeat walk_at "rd"
        refine rd_fld (z := c) T.cd_Rod.cl T.na_Rod_start (by kernel_rfl) ?_
        repeat walk_at "rd"
        refine rd_fld (z := c') T.cd_Rod.cl T.na_Rod_start (by kernel_rfl) ?_
        refine rd_eqT hc hc' ?_
        repeat walk_at "rd"
        refine rd_ite (fun e3 => ?_) fun e3 => ?_
        rotate_left
        · have e : eqAll [a, b, c, d, f] [a', b', c', d', f'] = false := by simp [eqAll, e3]
          rw [e] at q
          repeat walk_at "rd"
          exact q
        repeat walk_at "rd"
        refine rd_fld (z := d) T.cd_Rod.cl T.na_Rod_end (by kernel_rfl) ?_
        repeat walk_at "rd"
        refine rd_fld (z := d') T.cd_Rod.cl T.na_Rod_end (by kernel_rfl) ?_
        refine rd_eqT hd hd' ?_
        repeat walk_at "rd"
        refine rd_ite (fun e4 => ?_) fun e4 => ?_
        rotate_left
        · have e : eqAll [a, b, c, d, f] [a', b', c', d', f'] = false := by simp [eqAll, e4]
          rw [e] at q
          repeat walk_at "rd"
          exact q
        repeat walk_at "rd"
        refine rd_fld (z := f) T.cd_Rod.cl T.na_Rod_pull (by kernel_rfl) ?_
        repeat walk_at "rd"
        refine rd_fld (z := f') T.cd_Rod.cl T.na_Rod_pull (by kernel_rfl) ?_
        refine rd_eqT hf hf' ?_
        have e : eqAll [a, b, c, d, f] [a', b', c', d', f'] = eqD f f' := by simp [eqAll, e1, e2, e3, e4]
        rw [e] at q
        repeat walk_at "rd"
        exact q
    · refine rd_isiC ht hC hk ?_
      repeat walk_at "rd"
      exact q
theorem pure_Shut_eq (T : Txt K mg A) : ∀ ds M Q E, sp_Shut_eq K A ds M Q E → t_Shut_eq K A (endsOf Q E) (start3 N_Shut_eq ds) M := by
  rintro ds M Q E ⟨vs, y, rfl, hl, ho, h⟩
  match vs, hl with
  | [a], _ =>
    have ha := all1 ho
    unfold t_Shut_eq
    repeat walk_at "rd"
    rcases h with ⟨ws, rfl, hl', ho', q⟩ | ⟨t, ht, hC, hk, q⟩
    · match ws, hl' with
      | [a'], _ =>
        have ha' := all1 ho'
        refine isiC T.cd_Shut ?_
        repeat walk_at "rd"
        refine rd_fld (z := a) T.cd_Shut.cl T.na_Shut_name (by kernel_rfl) ?_
        repeat walk_at "rd"
        refine rd_fld (z := a') T.cd_Shut.cl T.na_Shut_name (by kernel_rfl) ?_
        refine rd_eqT ha ha' ?_
        have e : eqAll [a] [a'] = eqD a a' := by simp [eqAll]
        rw [e] at q
        repeat walk_at "rd"
        exact q
    · refine rd_isiC ht hC hk ?_
      repeat walk_at "rd"
      exact q
theorem pure_Spaced_eq (T : Txt K mg A) : ∀ ds M Q E, sp_Spaced_eq K A ds M Q E → t_Spaced_eq K A (endsOf Q E) (start3 N_Spaced_eq ds) M := by
  rintro ds M Q E ⟨vs, y, rfl, hl, ho, h⟩
  match vs, hl with
  | [a], _ =>
    have ha := all1 ho
    unfold t_Spaced_eq
    repeat walk_at "rd"
    rcases h with ⟨ws, rfl, hl', ho', q⟩ | ⟨t, ht, hC, hk, q⟩
    · match ws, hl' with
      | [a'], _ =>
        have ha' := all1 ho'
        refine isiC T.cd_Spaced ?_
        repeat walk_at "rd"
        refine rd_fld (z := a) T.cd_Spaced.cl T.na_Spaced_extra (by kernel_rfl) ?_
        repeat walk_at "rd"
        refine rd_fld (z := a') T.cd_Spaced.cl T.na_Spaced_extra (by kernel_rfl) ?_
        refine rd_eqT ha ha' ?_
        have e : eqAll [a] [a'] = eqD a a' := by simp [eqAll]
        rw [e] at q
        repeat walk_at "rd"
        exact q
    · refine rd_isiC ht hC hk ?_
      repeat walk_at "rd"
      exact q
/-! ## the draws -/
theorem itemsR {M : Mem} {a : Addr} {xs : List D} (h : M a = some (.lst xs)) : (D.ref a).items M = some xs := by simp [D.items, h]
theorem rd_gsub {σ : St3} {M : Mem} {to ti : TE3} {x : D} {Q : St3 → Mem → Prop} (k : to σ M (fun o M1 => ti σ M1 (fun i M2 => ∃ p xs k j, o = .ref p ∧ i = .int k ∧ M2 p = some (.lst xs) ∧ ixN xs.length k = some j ∧ Q σ (M2.put p (.lst (xs.set j x)))) fun _ _ _ => False) fun _ _ _ => False) : gSub3 to ti x σ M Q := k
theorem rd_exsub {M : Mem} {σ : St3} {x : D} {a : Addr} {xs : List D} {i : Int} {j : Nat} {Q : St3 → Mem → Prop} (h : M a = some (.lst xs)) (hj : ixN xs.length i = some j) (k : Q σ (M.put a (.lst (xs.set j x)))) :
    ∃ p ys k j, D.ref a = .ref p ∧ D.int i = .int k ∧ M p = some (.lst ys) ∧ ixN ys.length k = some j ∧ Q σ (M.put p (.lst (ys.set j x))) := ⟨a, xs, i, j, rfl, rfl, h, hj, k⟩
theorem divw {i n : Int} (h : 0 < n) (h2 : n ≤ big) : CDivW i n := ⟨h, by
  have e : n.natAbs < 2 ^ 100 := by
    have h2' : n ≤ 1000000000000000000000000000000 := h2
    have : (n.natAbs : Int) ≤ 1000000000000000000000000000000 := by omega
    have e2 : (1000000000000000000000000000000 : Int) < 2 ^ 100 := by decide
    omega
  have := (Nat.log2_lt (n := n.natAbs) (k := 100) (by omega)).mpr e
  omega⟩
theorem pure_law_take (T : Txt K mg A) : ∀ ds M Q E, sp_law_take K A ds M Q E → t_law_take K A (endsOf Q E) (start3 N_law_take ds) M := by
  rintro ds M Q E ⟨p, as, rfl, ⟨l, hp, x, m, c, rfl⟩, ⟨n, rfl, n0, n1⟩, h⟩
  unfold t_law_take
  have hi := itemsR hp
  repeat walk_at "rd"
  refine rd_ite (fun e => ?_) fun e => ?_
  · repeat walk_at "rd"
    refine rd_IC3 n0 ?_
    repeat walk_at "rd"
    refine rd_IC3 (divw n0 n1) ?_
    refine rd_gsub ?_
    repeat walk_at "rd"
    refine rd_exsub hp rfl ?_
    repeat walk_at "rd"
    exact h _ _ ⟨n, _, rfl, rfl, Int.emod_nonneg _ (by omega), Int.emod_lt_of_pos _ n0⟩ ⟨_, _, _, rfl⟩
  · repeat walk_at "rd"
    refine rd_gsub ?_
    repeat walk_at "rd"
    refine rd_exsub hp rfl ?_
    have hi2 := itemsR (M := M.put p (.lst (List.set [D.int x, D.int m, D.int c] 2 (.int (c + 1))))) (a := p) put_same
    repeat walk_at "rd"
    refine rd_gsub ?_
    repeat walk_at "rd"
    refine rd_exsub put_same rfl ?_
    have hi3 : ∀ z, (D.ref p).items ((M.put p (.lst (List.set [D.int x, D.int m, D.int c] 2 (.int (c + 1))))).put p (.lst ((List.set [D.int x, D.int m, D.int c] 2 (.int (c + 1))).set 1 (.int z)))) = some ((List.set [D.int x, D.int m, D.int c] 2 (.int (c + 1))).set 1 (.int z)) := fun z => itemsR put_same
    repeat walk_at "rd"
    refine rd_ix (hi3 _) rfl ?_
    repeat walk_at "rd"
    refine rd_IC3 n0 ?_
    repeat walk_at "rd"
    rw [put_put]
    exact h _ _ ⟨n, _, rfl, rfl, Int.emod_nonneg _ (by omega), Int.emod_lt_of_pos _ n0⟩ ⟨_, _, _, rfl⟩
theorem len_law_take : ∀ ds M Q E, sp_law_take K A ds M Q E → ds.length = (["bag", "many"] : List Str).length := fun ds M Q E ⟨p, as, e, _, ⟨n, e2, _⟩, _⟩ => by
  subst e e2
  rfl
end
end K68

namespace K68
open PySem PySem.Spec PyProof.Rows L2 L3
local macro_rules | `(tactic| walk_at "rd") => `(tactic| first
  | (with_reducible refine rd_seq ?_) | (with_reducible refine rd_ifS ?_) | (with_reducible refine rd_asg ?_) | (with_reducible refine rd_ret ?_) | (with_reducible refine rd_drop ?_) | (with_reducible refine rd_next ?_)
  | (with_reducible refine rd_name ?_) | (with_reducible refine rd_cons ?_) | (with_reducible refine rd_nil ?_) | (with_reducible refine rd_c ?_) | (with_reducible refine rd_op ?_) | (with_reducible refine rd_un ?_)
  | (with_reducible refine rd_test ?_) | (with_reducible refine rd_chain ?_) | (with_reducible refine rd_and ?_) | (with_reducible refine rd_or ?_) | (with_reducible refine rd_not ?_) | (with_reducible refine rd_andV ?_) | (with_reducible refine rd_orV ?_) | (with_reducible refine rd_notV ?_)
  | (with_reducible refine rd_if ?_) | (with_reducible refine rd_exbl ?_) | (with_reducible refine rd_exint ?_) | (with_reducible refine rd_tup ?_) | (with_reducible refine rd_lst ?_) | (with_reducible refine rd_lstM ?_) | (with_reducible refine rd_cb ?_) | (with_reducible refine rd_call ?_) | (with_reducible refine rd_make ?_)
  | (with_reducible refine rd_sl ?_) | (with_reducible refine rd_part ?_) | (with_reducible refine rd_nopart ?_) | (with_reducible refine rd_par ?_) | (with_reducible refine rd_expar ?_) | (with_reducible refine rd_tru ?_)
  | (with_reducible refine rd_for ?_) | (with_reducible refine rd_raise ?_) | (with_reducible refine rd_fldS ?_) | (with_reducible refine rd_retN ?_) | (with_reducible refine rd_break ?_) | (with_reducible refine rd_cont ?_)
  | (with_reducible refine rd_endrt ?_) | (with_reducible refine rd_endnx ?_) | (with_reducible refine rd_endex ?_) | (with_reducible refine rd_nx ?_) | (with_reducible refine rd_rt ?_) | (with_reducible refine rd_bk ?_) | (with_reducible refine rd_ct ?_) | (with_reducible refine rd_ex ?_)
  | (with_reducible refine rd_I3 ?_) | (with_reducible refine rd_neg ?_) | (with_reducible refine rd_addI ?_) | (with_reducible refine rd_lt ?_) | (with_reducible refine rd_le ?_) | (with_reducible refine rd_gt ?_) | (with_reducible refine rd_ge ?_)
  | (with_reducible refine rd_isN ?_) | (with_reducible refine rd_notN ?_) | (with_reducible refine rd_eqI ?_) | (with_reducible refine rd_neI ?_) | (with_reducible refine rd_int1 ?_) | (with_reducible refine rd_intOf ?_)
  | (with_reducible refine rd_p6 ?_) | (with_reducible refine rd_p18 ?_) | (with_reducible refine rd_p20 ?_) | (with_reducible refine rd_p30 ?_)
  | ((with_reducible refine rd_IC3 ?cc ?_); (case cc => first | decide | exact Or.inr (Or.inr ⟨by decide, by decide⟩) | exact Or.inr (Or.inl ⟨by decide, by decide⟩) | exact ⟨by decide, by decide⟩))
  | ((with_reducible show tVar3 _ _ _ _ _); refine rd_var rfl ?_)
  | ((with_reducible show opIx3 _ (D.int _) _ _); refine rd_ix (by first | exact rfl | assumption) (by first | exact rfl | assumption) ?_)
  | ((with_reducible show aLen3 [_] _ _); refine rd_len (by first | exact rfl | assumption) ?_)
  | (with_reducible refine rd_le1 ?_) 
  | (with_reducible refine rd_iteTT ?_) | (with_reducible refine rd_iteFF ?_))
theorem atI_get {α : Type} {xs : List α} {i : Int} (h0 : 0 ≤ i) (h1 : i < (xs.length : Int)) : ∃ z, atI xs i = some z ∧ z ∈ xs := by
  have hj : i.toNat < xs.length := by omega
  refine ⟨xs[i.toNat], ?_, List.getElem_mem hj⟩
  unfold atI ixN
  rw [if_pos h0, if_pos h1]
  exact List.getElem?_eq_getElem hj
section
variable {P : Program} {w : World} {K : PySem.W.Frag} {mg : Str → Option Value} {base : Heap} {A : Adr}
theorem use_take {p : Addr} {n : Int} {M : Mem} {Q : VK3} {E : XK3} (b : Bag M p) (h0 : 0 < n) (h1 : n ≤ big) (q : ∀ i l, 0 ≤ i → i < n → Bag3 l → Q (.int i) (M.put p (.lst l))) : sp_law_take K A ([.ref p, .int n] ++ []) M Q E :=
  ⟨p, [.int n], rfl, b, ⟨n, rfl, h0, h1⟩, fun r l ⟨n', i, e, er, i0, i1⟩ hl => by
    cases e
    subst er
    exact q i l i0 i1 hl⟩
theorem pure_law_of (T : Txt K mg A) : ∀ ds M Q E, sp_law_of K A ds M Q E → t_law_of K A (endsOf Q E) (start3 N_law_of ds) M := by
  rintro ds M Q E ⟨p, as, rfl, hb, hd, h⟩
  unfold t_law_of
  match as, hd with
  | [.str z], hd =>
    obtain ⟨z0, z1⟩ := hd
    repeat walk_at "rd"
    refine rd_lenS (by omega) ?_
    repeat walk_at "rd"
    refine use_take hb (by omega) (by show (z.length : Int) ≤ 1000000000000000000000000000000; omega) fun i l i0 i1 hl => ?_
    have hz : (z.cps.toList.length : Int) = z.length := by rw [Array.length_toList]; rfl
    obtain ⟨c, hc, hm⟩ := atI_get (xs := z.cps.toList) i0 (by rw [hz]; exact i1)
    refine .inr ⟨z, i, c, rfl, rfl, by omega, hc, ?_⟩
    repeat walk_at "rd"
    exact h _ _ ⟨_, rfl, List.mem_map.mpr ⟨c, hm, rfl⟩⟩ hl
  | [.lst xs], hd =>
    obtain ⟨z0, z1⟩ := hd
    have hp : 0 < xs.length := List.length_pos_iff.mpr z0
    repeat walk_at "rd"
    refine use_take hb (by omega) (by show (xs.length : Int) ≤ 1000000000000000000000000000000; omega) fun i l i0 i1 hl => ?_
    obtain ⟨y, hy, hm⟩ := atI_get i0 i1
    refine rd_ix rfl hy ?_
    repeat walk_at "rd"
    exact h _ _ ⟨_, rfl, hm⟩ hl
theorem len_law_of : ∀ ds M Q E, sp_law_of K A ds M Q E → ds.length = (["bag", "some"] : List Str).length := fun ds M Q E ⟨p, as, e, _, hd, _⟩ => by
  subst e
  match as, hd with
  | [.str z], _ => rfl
  | [.lst xs], _ => rfl
theorem use_of {p : Addr} {xs : List D} {M : Mem} {Q : VK3} {E : XK3} (b : Bag M p) (h0 : xs ≠ []) (h1 : xs.length ≤ 1000) (q : ∀ r l, r ∈ xs → Bag3 l → Q r (M.put p (.lst l))) : sp_law_of K A ([.ref p, .lst xs] ++ []) M Q E :=
  ⟨p, [.lst xs], rfl, b, ⟨h0, h1⟩, fun r l ⟨s, e, hr⟩ hl => by cases e; exact q r l hr hl⟩
theorem use_ofS {p : Addr} {z : Str} {M : Mem} {Q : VK3} {E : XK3} (b : Bag M p) (h0 : z.length ≠ 0) (h1 : z.length ≤ 1000) (q : ∀ c l, c ∈ z.cps.toList → Bag3 l → Q (.str ⟨#[c]⟩) (M.put p (.lst l))) : sp_law_of K A ([.ref p, .str z] ++ []) M Q E :=
  ⟨p, [.str z], rfl, b, ⟨h0, h1⟩, fun r l ⟨s, e, hr⟩ hl => by
    cases e
    obtain ⟨c, hc, rfl⟩ := List.mem_map.mp hr
    exact q c l hc hl⟩
theorem pure_law_pick (T : Txt K mg A) : ∀ ds M Q E, sp_law_pick K A ds M Q E → t_law_pick K A (endsOf Q E) (start3 N_law_pick ds) M := by
  rintro ds M Q E ⟨p, as, rfl, hb, ⟨g, xs, rfl, h0, h1⟩, h⟩
  unfold t_law_pick
  repeat walk_at "rd"
  refine use_take hb (by omega) (by decide) fun i l i0 i1 hl => ?_
  repeat walk_at "rd"
  refine rd_ite (fun e => ?_) fun e => ?_
  · repeat walk_at "rd"
    refine use_of (Bag.put hl) h0 h1 fun r l2 hr hl2 => ?_
    repeat walk_at "rd"
    rw [put_put]
    exact h _ _ ⟨_, _, rfl, .inr hr⟩ hl2
  · repeat walk_at "rd"
    exact h _ _ ⟨_, _, rfl, .inl rfl⟩ hl
theorem len_law_pick : ∀ ds M Q E, sp_law_pick K A ds M Q E → ds.length = (["bag", "good", "odd"] : List Str).length := fun ds M Q E ⟨p, as, e, _, ⟨g, xs, e2, _⟩, _⟩ => by
  subst e e2
  rfl
theorem use_pick {p : Addr} {g : D} {xs : List D} {M : Mem} {Q : VK3} {E : XK3} (b : Bag M p) (R : D → Prop) (hg : R g) (hx : ∀ y ∈ xs, R y) (q : ∀ r l, R r → Bag3 l → Q r (M.put p (.lst l))) (h0 : xs ≠ [] := by exact List.cons_ne_nil _ _) (h1 : xs.length ≤ 1000 := by simp only [List.length_cons, List.length_nil]; omega) : sp_law_pick K A ([.ref p, g, .lst xs] ++ []) M Q E :=
  ⟨p, [g, .lst xs], rfl, b, ⟨g, xs, rfl, h0, h1⟩, fun r l ⟨g', xs', e, hr⟩ hl => by
    cases e
    rcases hr with hr | hr
    · subst hr
      exact q _ l hg hl
    · exact q r l (hx r hr) hl⟩
theorem pure_law_far (T : Txt K mg A) : ∀ ds M Q E, sp_law_far K A ds M Q E → t_law_far K A (endsOf Q E) (start3 N_law_far ds) M := by
  rintro ds M Q E ⟨p, as, rfl, hb, rfl, h⟩
  unfold t_law_far
  repeat walk_at "rd"
  refine use_take hb (by omega) (by decide) fun i l i0 i1 hl => ?_
  repeat walk_at "rd"
  refine use_take (Bag.put hl) (by omega) (by decide) fun j l2 j0 j1 hl2 => ?_
  repeat walk_at "rd"
  rw [put_put]
  refine use_of (Bag.put hl2) (List.cons_ne_nil _ _) (by simp) fun r l3 hr hl3 => ?_
  repeat walk_at "rd"
  rw [put_put]
  refine h _ _ ?_ hl3
  simp only [List.mem_cons, List.not_mem_nil, or_false] at hr
  rcases hr with rfl | rfl | rfl | rfl <;> exact ⟨_, rfl⟩
theorem len_law_far : ∀ ds M Q E, sp_law_far K A ds M Q E → ds.length = (["bag"] : List Str).length := fun ds M Q E ⟨p, as, e, _, e2, _⟩ => by
  subst e e2
  rfl
theorem use_far {p : Addr} {M : Mem} {Q : VK3} {E : XK3} (b : Bag M p) (q : ∀ i l, Bag3 l → Q (.int i) (M.put p (.lst l))) : sp_law_far K A ([.ref p] ++ []) M Q E :=
  ⟨p, [], rfl, b, rfl, fun r l ⟨i, e⟩ hl => by subst e; exact q i l hl⟩
end
end K68

namespace K68
open PySem PySem.Spec PyProof.Rows L2 L3
local macro_rules | `(tactic| walk_at "rd") => `(tactic| first
  | (with_reducible refine rd_seq ?_) | (with_reducible refine rd_ifS ?_) | (with_reducible refine rd_asg ?_) | (with_reducible refine rd_ret ?_) | (with_reducible refine rd_drop ?_) | (with_reducible refine rd_next ?_)
  | (with_reducible refine rd_name ?_) | (with_reducible refine rd_cons ?_) | (with_reducible refine rd_nil ?_) | (with_reducible refine rd_c ?_) | (with_reducible refine rd_op ?_) | (with_reducible refine rd_un ?_)
  | (with_reducible refine rd_test ?_) | (with_reducible refine rd_chain ?_) | (with_reducible refine rd_and ?_) | (with_reducible refine rd_or ?_) | (with_reducible refine rd_not ?_) | (with_reducible refine rd_andV ?_) | (with_reducible refine rd_orV ?_) | (with_reducible refine rd_notV ?_)
  | (with_reducible refine rd_if ?_) | (with_reducible refine rd_exbl ?_) | (with_reducible refine rd_exint ?_) | (with_reducible refine rd_tup ?_) | (with_reducible refine rd_lst ?_) | (with_reducible refine rd_lstM ?_) | (with_reducible refine rd_cb ?_) | (with_reducible refine rd_call ?_) | (with_reducible refine rd_make ?_)
  | (with_reducible refine rd_sl ?_) | (with_reducible refine rd_part ?_) | (with_reducible refine rd_nopart ?_) | (with_reducible refine rd_par ?_) | (with_reducible refine rd_expar ?_) | (with_reducible refine rd_tru ?_)
  | (with_reducible refine rd_for ?_) | (with_reducible refine rd_raise ?_) | (with_reducible refine rd_fldS ?_) | (with_reducible refine rd_retN ?_) | (with_reducible refine rd_break ?_) | (with_reducible refine rd_cont ?_)
  | (with_reducible refine rd_endrt ?_) | (with_reducible refine rd_endnx ?_) | (with_reducible refine rd_endex ?_) | (with_reducible refine rd_nx ?_) | (with_reducible refine rd_rt ?_) | (with_reducible refine rd_bk ?_) | (with_reducible refine rd_ct ?_) | (with_reducible refine rd_ex ?_)
  | (with_reducible refine rd_I3 ?_) | (with_reducible refine rd_neg ?_) | (with_reducible refine rd_addI ?_) | (with_reducible refine rd_lt ?_) | (with_reducible refine rd_le ?_) | (with_reducible refine rd_gt ?_) | (with_reducible refine rd_ge ?_)
  | (with_reducible refine rd_isN ?_) | (with_reducible refine rd_notN ?_) | (with_reducible refine rd_eqI ?_) | (with_reducible refine rd_neI ?_) | (with_reducible refine rd_int1 ?_) | (with_reducible refine rd_intOf ?_)
  | (with_reducible refine rd_p6 ?_) | (with_reducible refine rd_p18 ?_) | (with_reducible refine rd_p20 ?_) | (with_reducible refine rd_p30 ?_)
  | ((with_reducible refine rd_IC3 ?cc ?_); (case cc => first | decide | exact Or.inr (Or.inr ⟨by decide, by decide⟩) | exact Or.inr (Or.inl ⟨by decide, by decide⟩) | exact ⟨by decide, by decide⟩))
  | ((with_reducible show tVar3 _ _ _ _ _); refine rd_var rfl ?_)
  | ((with_reducible show opIx3 _ (D.int _) _ _); refine rd_ix (by first | exact rfl | assumption) (by first | exact rfl | assumption) ?_)
  | ((with_reducible show aLen3 [_] _ _); refine rd_len (by first | exact rfl | assumption) ?_)
  | (with_reducible refine rd_le1 ?_) 
  | (with_reducible refine rd_iteTT ?_) | (with_reducible refine rd_iteFF ?_))
def Kind.same : Kind → Kind → Bool
  | .ba, .ba => true
  | .ro, .ro => true
  | .sh, .sh => true
  | .sp, .sp => true
  | _, _ => false
theorem sh_name {k : Kind} : SeqAt.shaped (.str k.name) = true := sh_str (by cases k <;> decide +kernel)
theorem name_same {k k' : Kind} : decide (k.name = k'.name) = k.same k' := by cases k <;> cases k' <;> decide +kernel
theorem rd_eqK {k k' : Kind} {M : Mem} {Q : VK3} (q : Q (.bl (k.same k')) M) : opEqD3 (.str k.name) (.str k'.name) M Q := rd_eqS sh_name sh_name (by rw [name_same]; exact q)
theorem rd_ifI {tA : TT3} {ta tb : TE3} {σ : St3} {M : Mem} {Q : VK3} {E : XK3} (hq : ∀ c : Int, Q (.int c) M) (k : ∀ Q' : VK3, (∀ c : Int, Q' (.int c) M) → tIf3 tA ta tb σ M Q' E) : tIf3 tA ta tb σ M Q E := k Q hq
theorem rd_enum {ta : TA3} {σ : St3} {M : Mem} {Q : List D → (Mem → Prop) → Mem → Prop} {E : XK3} (k : ta σ M (fun zs M1 => ∃ x xs, zs = [x] ∧ (x = .lst xs ∨ ∃ a, x = .ref a ∧ M1 a = some (.lst xs)) ∧ Q (enumD xs) (stays x xs) M1) E) : iEnum3 ta σ M Q E := k
theorem okA_int {i : Int} : okA (.int i) = true := rfl
theorem okA_bl {i : Bool} : okA (.bl i) = true := rfl
theorem okA_non : okA .non = true := rfl
theorem ok_s0 : okA (.str "0") = true := by decide +kernel
theorem ok_s1 : okA (.str "1") = true := by decide +kernel
theorem ok_sxy : okA (.str "xy") = true := by decide +kernel
theorem ok_se : okA (.str "") = true := by decide +kernel
theorem ok_sa : okA (.str "a") = true := by decide +kernel
theorem tA {a : D} (h : okA a = true) : okT a = true := okT_okA h
theorem tT {xs : List D} (h : xs.all okA = true) (l : xs.length ≤ 1000 := by simp only [List.length_cons, List.length_nil]; omega) : okT (.tup xs) = true := by simp only [okT, Bool.and_eq_true]; exact ⟨decide_eq_true l, h⟩
theorem tL {xs : List D} (h : xs.all okA = true) (l : xs.length ≤ 1000 := by simp only [List.length_cons, List.length_nil]; omega) : okT (.lst xs) = true := by simp only [okT, Bool.and_eq_true]; exact ⟨decide_eq_true l, h⟩
theorem a1 {x : D} (h : okA x = true) : [x].all okA = true := by simp [h]
theorem a2 {x y : D} (h : okA x = true) (h' : okA y = true) : [x, y].all okA = true := by simp [h, h']
theorem a3 {x y z : D} (h : okA x = true) (h' : okA y = true) (h'' : okA z = true) : [x, y, z].all okA = true := by simp [h, h', h'']
section
variable {P : Program} {w : World} {K : PySem.W.Frag} {mg : Str → Option Value} {base : Heap} {A : Adr}
theorem pure_law_point (T : Txt K mg A) : ∀ ds M Q E, sp_law_point K A ds M Q E → t_law_point K A (endsOf Q E) (start3 N_law_point ds) M := by
  rintro ds M Q E ⟨p, as, rfl, hb, rfl, h⟩
  unfold t_law_point
  repeat walk_at "rd"
  refine use_far hb fun i l hl => ?_
  repeat walk_at "rd"
  refine use_far (Bag.put hl) fun j l2 hl2 => ?_
  repeat walk_at "rd"
  rw [put_put]
  refine use_take (Bag.put hl2) (by omega) (by decide) fun n l3 _ _ hl3 => ?_
  rw [put_put]
  have rest : ∀ g : D, okT g = true → ∀ q : VK3, (∀ r l, okT r = true → Bag3 l → q r (M.put p (.lst l))) → ∀ E : XK3, sp_law_pick K A ([.ref p, g, .lst [.non, .tup [.int i], .tup [.int i, .int j, .int 0], .tup [.bl true, .int j], .tup [.int i, .non], .str "xy", .tup [.int (1000000 + 1), .int j], .tup [.int i, .int (-1000000 - 1)], .int 0, .tup [.int i, .str "0"], .lst [.bl false, .int j]]] ++ []) (M.put p (.lst l3)) q E := fun g hg q hq E => by
    refine use_pick (Bag.put hl3) (fun r => okT r = true) hg (fun y hy => ?_) fun r l4 hr hl4 => by rw [put_put]; exact hq r l4 hr hl4
    simp only [List.mem_cons, List.not_mem_nil, or_false] at hy
    rcases hy with rfl | rfl | rfl | rfl | rfl | rfl | rfl | rfl | rfl | rfl | rfl
    · rfl
    · exact tT (a1 rfl)
    · exact tT (a3 rfl rfl rfl)
    · exact tT (a2 rfl rfl)
    · exact tT (a2 rfl rfl)
    · exact tA ok_sxy
    · exact tT (a2 rfl rfl)
    · exact tT (a2 rfl rfl)
    · rfl
    · exact tT (a2 rfl ok_s0)
    · exact tL (a2 rfl rfl)
  repeat walk_at "rd"
  refine rd_ite (fun e => ?_) fun e => ?_
  · repeat walk_at "rd"
    refine rest _ (tL (a2 rfl rfl)) _ (fun r l4 hr hl4 => ?_) _
    repeat walk_at "rd"
    exact h r l4 hr hl4
  · repeat walk_at "rd"
    refine rest _ (tT (a2 rfl rfl)) _ (fun r l4 hr hl4 => ?_) _
    repeat walk_at "rd"
    exact h r l4 hr hl4
theorem len_law_point : ∀ ds M Q E, sp_law_point K A ds M Q E → ds.length = (["bag"] : List Str).length := fun ds M Q E ⟨p, as, e, _, e2, _⟩ => by
  subst e e2
  rfl
theorem use_pt {p : Addr} {M : Mem} {Q : VK3} {E : XK3} (b : Bag M p) (q : ∀ r l, okT r = true → Bag3 l → Q r (M.put p (.lst l))) : sp_law_point K A ([.ref p] ++ []) M Q E :=
  ⟨p, [], rfl, b, rfl, q⟩
theorem pure_law_bag (T : Txt K mg A) : ∀ ds M Q E, sp_law_bag K A ds M Q E → t_law_bag K A (endsOf Q E) (start3 N_law_bag ds) M := by
  rintro ds M Q E ⟨ns, i, rfl, hn, i0, i1, h⟩
  unfold t_law_bag
  have hlen : (ns.map D.int).length = ns.length := List.length_map _
  iterate 2 walk_at "rd"
  refine rd_ifI (fun c => ?_) fun Q' hq => ?_
  rotate_left
  · repeat walk_at "rd"
    refine rd_ite (fun e => ?_) fun e => ?_
    · obtain ⟨z, hz, hm⟩ := atI_get (xs := ns.map D.int) i0 (of_decide_eq_true e)
      obtain ⟨n, _, rfl⟩ := List.mem_map.mp hm
      repeat walk_at "rd"
      exact hq _
    · repeat walk_at "rd"
      exact hq _
  repeat walk_at "rd"
  refine rd_enum ?_
  repeat walk_at "rd"
  refine .inr ⟨ns.map D.int, .inl rfl, ?_⟩
  repeat walk_at "rd"
  obtain ⟨ms, hms⟩ : ∃ ms : List Int, L3.cutD (ns.map D.int) none (some 63) = ms.map D.int := ⟨_, by unfold L3.cutD; rw [← List.map_drop, ← List.map_take]⟩
  rw [hms]
  refine ⟨_, _, rfl, .inl rfl, ?_⟩
  refine rd_forP (fun j σ M' => M' = M ∧ ∃ (m : Int) (u v : Option D), σ = [some (.lst (ns.map D.int)), some (.int i), some (.int c), some (.int m), u, v]) ⟨rfl, _, _, _, rfl⟩ (fun _ _ _ _ => trivial) ?_ ?_
  · rintro j x σ M' hx ⟨rfl, m, u, v, rfl⟩
    obtain ⟨y, hy, rfl⟩ := enum_get hx
    rw [List.getElem?_map, Option.map_eq_some_iff] at hy
    obtain ⟨n, _, rfl⟩ := hy
    refine ⟨_, .inl rfl, rfl, _, _, rfl, _, _, rfl, rfl, ?_⟩
    repeat walk_at "rd"
    exact ⟨rfl, _, _, _, rfl⟩
  · rintro σ M' ⟨rfl, m, u, v, rfl⟩
    iterate 4 walk_at "rd"
    refine rd_ifI (fun d => ?_) fun Q' hq => ?_
    rotate_left
    · repeat walk_at "rd"
      refine rd_ite (fun e => ?_) fun e => ?_
      · repeat walk_at "rd"
        exact hq _
      · repeat walk_at "rd"
        exact hq _
    repeat walk_at "rd"
    intro p hp
    repeat walk_at "rd"
    exact h p _ hp ⟨_, _, _, rfl⟩
theorem len_law_bag : ∀ ds M Q E, sp_law_bag K A ds M Q E → ds.length = (["script", "at"] : List Str).length := fun ds M Q E ⟨ns, i, e, _⟩ => by
  subst e
  rfl
end
end K68

namespace K68
open PySem PySem.Spec PyProof.Rows L2 L3
local macro_rules | `(tactic| walk_at "rd") => `(tactic| first
  | (with_reducible refine rd_seq ?_) | (with_reducible refine rd_ifS ?_) | (with_reducible refine rd_asg ?_) | (with_reducible refine rd_ret ?_) | (with_reducible refine rd_drop ?_) | (with_reducible refine rd_next ?_)
  | (with_reducible refine rd_name ?_) | (with_reducible refine rd_cons ?_) | (with_reducible refine rd_nil ?_) | (with_reducible refine rd_c ?_) | (with_reducible refine rd_op ?_) | (with_reducible refine rd_un ?_)
  | (with_reducible refine rd_test ?_) | (with_reducible refine rd_chain ?_) | (with_reducible refine rd_and ?_) | (with_reducible refine rd_or ?_) | (with_reducible refine rd_not ?_) | (with_reducible refine rd_andV ?_) | (with_reducible refine rd_orV ?_) | (with_reducible refine rd_notV ?_)
  | (with_reducible refine rd_if ?_) | (with_reducible refine rd_exbl ?_) | (with_reducible refine rd_exint ?_) | (with_reducible refine rd_tup ?_) | (with_reducible refine rd_lst ?_) | (with_reducible refine rd_lstM ?_) | (with_reducible refine rd_cb ?_) | (with_reducible refine rd_call ?_) | (with_reducible refine rd_make ?_)
  | (with_reducible refine rd_sl ?_) | (with_reducible refine rd_part ?_) | (with_reducible refine rd_nopart ?_) | (with_reducible refine rd_par ?_) | (with_reducible refine rd_expar ?_) | (with_reducible refine rd_tru ?_)
  | (with_reducible refine rd_for ?_) | (with_reducible refine rd_raise ?_) | (with_reducible refine rd_fldS ?_) | (with_reducible refine rd_retN ?_) | (with_reducible refine rd_break ?_) | (with_reducible refine rd_cont ?_)
  | (with_reducible refine rd_endrt ?_) | (with_reducible refine rd_endnx ?_) | (with_reducible refine rd_endex ?_) | (with_reducible refine rd_nx ?_) | (with_reducible refine rd_rt ?_) | (with_reducible refine rd_bk ?_) | (with_reducible refine rd_ct ?_) | (with_reducible refine rd_ex ?_)
  | (with_reducible refine rd_I3 ?_) | (with_reducible refine rd_neg ?_) | (with_reducible refine rd_addI ?_) | (with_reducible refine rd_lt ?_) | (with_reducible refine rd_le ?_) | (with_reducible refine rd_gt ?_) | (with_reducible refine rd_ge ?_)
  | (with_reducible refine rd_isN ?_) | (with_reducible refine rd_notN ?_) | (with_reducible refine rd_eqI ?_) | (with_reducible refine rd_neI ?_) | (with_reducible refine rd_int1 ?_) | (with_reducible refine rd_intOf ?_)
  | (with_reducible refine rd_p6 ?_) | (with_reducible refine rd_p18 ?_) | (with_reducible refine rd_p20 ?_) | (with_reducible refine rd_p30 ?_)
  | ((with_reducible refine rd_IC3 ?cc ?_); (case cc => first | decide | exact Or.inr (Or.inr ⟨by decide, by decide⟩) | exact Or.inr (Or.inl ⟨by decide, by decide⟩) | exact ⟨by decide, by decide⟩))
  | ((with_reducible show tVar3 _ _ _ _ _); refine rd_var rfl ?_)
  | ((with_reducible show opIx3 _ (D.int _) _ _); refine rd_ix (by first | exact rfl | assumption) (by first | exact rfl | assumption) ?_)
  | ((with_reducible show aLen3 [_] _ _); refine rd_len (by first | exact rfl | assumption) ?_)
  | (with_reducible refine rd_le1 ?_) 
  | (with_reducible refine rd_iteTT ?_) | (with_reducible refine rd_iteFF ?_))
/-- what behind a statement is shown once, of all its ends -/
theorem rd_join {t u : TS3} {D : Ends3} {σ : St3} {M : Mem} (R : St3 → Mem → Prop) (hu : ∀ σ' M', R σ' M' → u D σ' M') (k : ∀ N : St3 → Mem → Prop, (∀ σ' M', R σ' M' → N σ' M') → t ⟨N, gRt D, gBk D, gCt D, gEx D⟩ σ M) : tSeq3 t u D σ M := k (u D) hu
theorem mem2 {a b x : D} (h : x ∈ [a, b]) : x = a ∨ x = b := by simpa using h
theorem mem3 {a b c x : D} (h : x ∈ [a, b, c]) : x = a ∨ x = b ∨ x = c := by simpa using h
theorem fzT {M : Mem} {x : D} (h : okT x = true) : x.fz M = x := by cases x <;> first | rfl | simp [okT, okA] at h
section
variable {P : Program} {w : World} {K : PySem.W.Frag} {mg : Str → Option Value} {base : Heap} {A : Adr}
theorem use_pointT {a : D} {M : Mem} {Q : VK3} {E : XK3} (h : okT a = true) (q : Q (.bl (point a)) M) : spF fPoint ([a] ++ []) M Q E := use_point (by rw [fzT h]; exact h) (by rw [fzT h]; exact q)
theorem pt_items {x : D} {M : Mem} (h : okT x = true) (hp : point x = true) : ∃ i j : Int, x.items M = some [.int i, .int j] := by
  obtain ⟨i, j, e, _⟩ := point_is hp
  exact ⟨i, j, items_fz (by rw [fzT h]; exact e)⟩
theorem pure_law_rod (T : Txt K mg A) : ∀ ds M Q E, sp_law_rod K A ds M Q E → t_law_rod K A (endsOf Q E) (start3 N_law_rod ds) M := by
  rintro ds M Q E ⟨p, as, rfl, hb, rfl, h⟩
  unfold t_law_rod
  repeat walk_at "rd"
  refine use_take hb (by omega) (by decide) fun it l _ _ hl => ?_
  repeat walk_at "rd"
  refine use_take (Bag.put hl) (by omega) (by decide) fun n2 l2 _ _ hl2 => ?_
  rw [put_put]
  repeat walk_at "rd"
  refine use_pt (Bag.put hl2) fun ne l3 hne hl3 => ?_
  rw [put_put]
  repeat walk_at "rd"
  refine use_pt (Bag.put hl3) fun fa l4 hfa hl4 => ?_
  rw [put_put]
  iterate 3 walk_at "rd"
  refine rd_join (fun σ' M' => M' = M.put p (.lst l4) ∧ ∃ f, okT f = true ∧ σ' = [some (.ref p), some (.int it), some (.int ((it + 1 + n2) % 8)), some ne, some f, none]) ?_ fun N hN => ?_
  rotate_left
  · repeat walk_at "rd"
    refine use_pointT hne ?_
    repeat walk_at "rd"
    refine rd_ite (fun e1 => ?_) fun e1 => ?_
    rotate_left
    · repeat walk_at "rd"
      exact hN _ _ ⟨rfl, fa, hfa, rfl⟩
    repeat walk_at "rd"
    refine use_pointT hfa ?_
    repeat walk_at "rd"
    refine rd_ite (fun e2 => ?_) fun e2 => ?_
    rotate_left
    · repeat walk_at "rd"
      exact hN _ _ ⟨rfl, fa, hfa, rfl⟩
    obtain ⟨i, j, hi⟩ := pt_items (M := M.put p (.lst l4)) hne e1
    obtain ⟨i', j', hi'⟩ := pt_items (M := M.put p (.lst l4)) hfa e2
    repeat walk_at "rd"
    refine rd_tuple hi ?_
    repeat walk_at "rd"
    refine rd_tuple hi' ?_
    refine rd_eq py2 py2 shp2 shp2 ?_
    repeat walk_at "rd"
    refine rd_ite (fun e3 => ?_) fun e3 => ?_
    · repeat walk_at "rd"
      refine rd_ite (fun e4 => ?_) fun e4 => ?_
      · repeat walk_at "rd"
        exact hN _ _ ⟨rfl, _, tT (a2 rfl rfl), rfl⟩
      · repeat walk_at "rd"
        exact hN _ _ ⟨rfl, _, tT (a2 rfl rfl), rfl⟩
    · repeat walk_at "rd"
      exact hN _ _ ⟨rfl, fa, hfa, rfl⟩
  rintro σ' M' ⟨rfl, f, hf, rfl⟩
  refine rd_join (fun σ' M' => ∃ l5, M' = M.put p (.lst l5) ∧ Bag3 l5 ∧ ∃ f, okT f = true ∧ σ' = [some (.ref p), some (.int it), some (.int ((it + 1 + n2) % 8)), some ne, some f, none]) ?_ fun N hN => ?_
  rotate_left
  · repeat walk_at "rd"
    refine use_pointT hne ?_
    repeat walk_at "rd"
    refine rd_ite (fun e1 => ?_) fun e1 => ?_
    rotate_left
    · repeat walk_at "rd"
      exact hN _ _ ⟨_, rfl, hl4, f, hf, rfl⟩
    repeat walk_at "rd"
    refine use_take (Bag.put hl4) (by omega) (by decide) fun n3 l5 _ _ hl5 => ?_
    rw [put_put]
    repeat walk_at "rd"
    refine rd_ite (fun e2 => ?_) fun e2 => ?_
    rotate_left
    · repeat walk_at "rd"
      exact hN _ _ ⟨_, rfl, hl5, f, hf, rfl⟩
    repeat walk_at "rd"
    refine use_take (Bag.put hl5) (by omega) (by decide) fun n4 l6 _ _ hl6 => ?_
    rw [put_put]
    obtain ⟨i, j, hi⟩ := pt_items (M := M.put p (.lst l6)) hne e1
    repeat walk_at "rd"
    refine rd_ite (fun e3 => ?_) fun e3 => ?_
    · repeat walk_at "rd"
      refine rd_tuple hi ?_
      repeat walk_at "rd"
      exact hN _ _ ⟨_, rfl, hl6, _, tT (a2 rfl rfl), rfl⟩
    · repeat walk_at "rd"
      refine rd_list hi ?_
      repeat walk_at "rd"
      exact hN _ _ ⟨_, rfl, hl6, _, tL (a2 rfl rfl), rfl⟩
  rintro σ' M' ⟨l5, rfl, hl5, f, hf, rfl⟩
  repeat walk_at "rd"
  refine use_take (Bag.put hl5) (by decide) (by decide) fun n5 l6 _ _ hl6 => ?_
  rw [put_put]
  repeat walk_at "rd"
  refine use_of (Bag.put hl6) (List.cons_ne_nil _ _) (by simp) fun s0 l7 hs0 hl7 => ?_
  rw [put_put]
  repeat walk_at "rd"
  have k0 : okT s0 = true := by rcases mem3 hs0 with rfl | rfl | rfl <;> rfl
  refine use_pick (Bag.put hl7) (fun r => okT r = true) k0 (fun y hy => ?_) fun st l8 hst hl8 => ?_
  · simp only [List.mem_cons, List.not_mem_nil, or_false] at hy
    rcases hy with rfl | rfl | rfl | rfl | rfl | rfl
    all_goals first | rfl | exact tA ok_s1
  rw [put_put]
  repeat walk_at "rd"
  refine use_pick (Bag.put hl8) (fun r => okT r = true) rfl (fun y hy => ?_) fun se l9 hse hl9 => ?_
  · simp only [List.mem_cons, List.not_mem_nil, or_false] at hy
    rcases hy with rfl | rfl | rfl | rfl | rfl | rfl
    all_goals first | rfl | exact tA ok_s1
  rw [put_put]
  repeat walk_at "rd"
  refine use_pick (Bag.put hl9) (fun r => okT r = true) rfl (fun y hy => ?_) fun it2 l10 hit hl10 => ?_
  · simp only [List.mem_cons, List.not_mem_nil, or_false] at hy
    rcases hy with rfl | rfl | rfl | rfl | rfl
    all_goals first | rfl | exact tA ok_s0
  rw [put_put]
  repeat walk_at "rd"
  exact h _ _ ⟨_, rfl, rfl, by simp [hit, hse, hne, hf, hst]⟩ hl10
theorem len_law_rod : ∀ ds M Q E, sp_law_rod K A ds M Q E → ds.length = (["bag"] : List Str).length := fun ds M Q E ⟨p, as, e, _, e2, _⟩ => by
  subst e e2
  rfl
end
end K68

namespace K68
open PySem PySem.Spec PyProof.Rows L2 L3
local macro_rules | `(tactic| walk_at "rd") => `(tactic| first
  | (with_reducible refine rd_seq ?_) | (with_reducible refine rd_ifS ?_) | (with_reducible refine rd_asg ?_) | (with_reducible refine rd_ret ?_) | (with_reducible refine rd_drop ?_) | (with_reducible refine rd_next ?_)
  | (with_reducible refine rd_name ?_) | (with_reducible refine rd_cons ?_) | (with_reducible refine rd_nil ?_) | (with_reducible refine rd_c ?_) | (with_reducible refine rd_op ?_) | (with_reducible refine rd_un ?_)
  | (with_reducible refine rd_test ?_) | (with_reducible refine rd_chain ?_) | (with_reducible refine rd_and ?_) | (with_reducible refine rd_or ?_) | (with_reducible refine rd_not ?_) | (with_reducible refine rd_andV ?_) | (with_reducible refine rd_orV ?_) | (with_reducible refine rd_notV ?_)
  | (with_reducible refine rd_if ?_) | (with_reducible refine rd_exbl ?_) | (with_reducible refine rd_exint ?_) | (with_reducible refine rd_tup ?_) | (with_reducible refine rd_lst ?_) | (with_reducible refine rd_lstM ?_) | (with_reducible refine rd_cb ?_) | (with_reducible refine rd_call ?_) | (with_reducible refine rd_make ?_)
  | (with_reducible refine rd_sl ?_) | (with_reducible refine rd_part ?_) | (with_reducible refine rd_nopart ?_) | (with_reducible refine rd_par ?_) | (with_reducible refine rd_expar ?_) | (with_reducible refine rd_tru ?_)
  | (with_reducible refine rd_for ?_) | (with_reducible refine rd_raise ?_) | (with_reducible refine rd_fldS ?_) | (with_reducible refine rd_retN ?_) | (with_reducible refine rd_break ?_) | (with_reducible refine rd_cont ?_)
  | (with_reducible refine rd_endrt ?_) | (with_reducible refine rd_endnx ?_) | (with_reducible refine rd_endex ?_) | (with_reducible refine rd_nx ?_) | (with_reducible refine rd_rt ?_) | (with_reducible refine rd_bk ?_) | (with_reducible refine rd_ct ?_) | (with_reducible refine rd_ex ?_)
  | (with_reducible refine rd_I3 ?_) | (with_reducible refine rd_neg ?_) | (with_reducible refine rd_addI ?_) | (with_reducible refine rd_lt ?_) | (with_reducible refine rd_le ?_) | (with_reducible refine rd_gt ?_) | (with_reducible refine rd_ge ?_)
  | (with_reducible refine rd_isN ?_) | (with_reducible refine rd_notN ?_) | (with_reducible refine rd_eqI ?_) | (with_reducible refine rd_neI ?_) | (with_reducible refine rd_int1 ?_) | (with_reducible refine rd_intOf ?_)
  | (with_reducible refine rd_p6 ?_) | (with_reducible refine rd_p18 ?_) | (with_reducible refine rd_p20 ?_) | (with_reducible refine rd_p30 ?_)
  | ((with_reducible refine rd_IC3 ?cc ?_); (case cc => first | decide | exact Or.inr (Or.inr ⟨by decide, by decide⟩) | exact Or.inr (Or.inl ⟨by decide, by decide⟩) | exact ⟨by decide, by decide⟩))
  | ((with_reducible show tVar3 _ _ _ _ _); refine rd_var rfl ?_)
  | ((with_reducible show opIx3 _ (D.int _) _ _); refine rd_ix (by first | exact rfl | assumption) (by first | exact rfl | assumption) ?_)
  | ((with_reducible show aLen3 [_] _ _); refine rd_len (by first | exact rfl | assumption) ?_)
  | (with_reducible refine rd_le1 ?_) 
  | (with_reducible refine rd_iteTT ?_) | (with_reducible refine rd_iteFF ?_))
def sok (z : Str) : Prop := ∀ c ∈ z.cps.toList, c < 0x110000
theorem strOk_of {z : Str} (h : sok z) : PyData.strOk z = true := by
  unfold PyData.strOk
  rw [← Array.all_toList, List.all_eq_true]
  exact fun c hc => decide_eq_true (h c hc)
theorem okA_of {z : Str} (h : sok z) (l : z.length ≤ 1000) : okA (.str z) = true := by simp only [okA, Bool.and_eq_true]; exact ⟨decide_eq_true l, strOk_of h⟩
theorem app_list (x y : Str) : (x ++ y).cps.toList = x.cps.toList ++ y.cps.toList := by
  show (x.cps ++ y.cps).toList = _
  simp
theorem app_len (x y : Str) : (x ++ y).length = x.length + y.length := by
  show (x.cps ++ y.cps).size = x.cps.size + y.cps.size
  simp
theorem sok_app {x y : Str} (a : sok x) (b : sok y) : sok (x ++ y) := fun c hc => by
  rw [app_list, List.mem_append] at hc
  exact hc.elim (a c) (b c)
theorem sok_slice {z : Str} {lo hi : Option Int} (a : sok z) : sok (Txt.slice z lo hi) := fun c hc => by
  rw [← C8.cutS_slice] at hc
  have hc' : c ∈ (((z.cps.toList.drop (HT.sIx z.length 0 lo)).take (HT.sIx z.length z.length hi - HT.sIx z.length 0 lo)).toArray).toList := hc
  rw [List.toList_toArray] at hc'
  exact a c (List.mem_of_mem_drop (List.mem_of_mem_take hc'))
theorem slice_len {z : Str} {lo hi : Option Int} : (Txt.slice z lo hi).length ≤ z.length := by
  rw [← C8.cutS_slice]
  exact cutS_length z lo hi
theorem abc_ok : ∀ c ∈ ("abcdefghijklmnopqrstuvwxyz" : Str).cps.toList, c < 0x110000 := by decide +kernel
theorem lett_mem {z : Str} (h : lett z = true) : ∀ c ∈ z.cps.toList, c ∈ ("abcdefghijklmnopqrstuvwxyz" : Str).cps.toList := fun c hc => by
  have := List.all_eq_true.mp h c hc
  exact of_decide_eq_true this
theorem sok_lett {z : Str} (h : lett z = true) : sok z := fun c hc => abc_ok c (lett_mem h c hc)
theorem lett_app {z : Str} {c : Nat} (h : lett z = true) (hc : c ∈ ("abcdefghijklmnopqrstuvwxyz" : Str).cps.toList) : lett (z ++ ⟨#[c]⟩) = true := by
  refine List.all_eq_true.mpr fun d hd => ?_
  rw [app_list, List.mem_append] at hd
  rcases hd with hd | hd
  · exact decide_eq_true (lett_mem h d hd)
  · have : d = c := by simpa using hd
    subst this
    exact decide_eq_true hc
theorem sok_lit {s : Str} (h : ∀ c ∈ s.cps.toList, c < 0x110000) : sok s := h
theorem rd_rng {ta : TA3} {σ : St3} {M : Mem} {Q : List D → (Mem → Prop) → Mem → Prop} {E : XK3} (k : ta σ M (fun xs M1 => ∃ j : Int, xs = [.int j] ∧ -(2 ^ 62) ≤ j ∧ j < 2 ^ 62 ∧ Q (rngD 0 j.toNat) (fun _ => True) M1) E) : iRng13 ta σ M Q E := k
theorem same_eq {k k' : Kind} (h : k.same k' = true) : k = k' := by cases k <;> cases k' <;> first | rfl | cases h
theorem same_ne {k k' : Kind} (h : k.same k' = false) : k ≠ k' := fun e => by subst e; cases k <;> cases h
theorem rd_tapp {to te : TE3} {σ : St3} {M : Mem} {Q : VK3} {E : XK3} (k : to σ M (fun o M1 => (∃ p xs, o = .ref p ∧ M1 p = some (.lst xs)) ∧ te σ M1 (fun y M2 => ∃ p xs, o = .ref p ∧ M2 p = some (.lst xs) ∧ xs.length < 1000000 ∧ Q .non (M2.put p (.lst (xs ++ [y])))) E) E) : tApp3 to te σ M Q E := k
section
variable {P : Program} {w : World} {K : PySem.W.Frag} {mg : Str → Option Value} {base : Heap} {A : Adr}
theorem use_rod {p : Addr} {M : Mem} {Q : VK3} {E : XK3} (b : Bag M p) (q : ∀ r l, okL 5 r → Bag3 l → Q r (M.put p (.lst l))) : sp_law_rod K A ([.ref p] ++ []) M Q E := ⟨p, [], rfl, b, rfl, q⟩
theorem pure_law_things (T : Txt K mg A) : ∀ ds M Q E, sp_law_things K A ds M Q E → t_law_things K A (endsOf Q E) (start3 N_law_things ds) M := by
  rintro ds M Q E ⟨p, as, rfl, hb, ⟨k, rfl⟩, h⟩
  have h' : ∀ xs l, xs.length = k.n → xs.all okT = true → Bag3 l → Q (.lst xs) (M.put p (.lst l)) := fun xs l h1 h2 hl => h _ _ ⟨k, rfl, xs, rfl, h1, h2⟩ hl
  clear h
  unfold t_law_things
  repeat walk_at "rd"
  refine rd_eqK (k' := .ro) ?_
  repeat walk_at "rd"
  refine rd_ite (fun e1 => ?_) fun e1 => ?_
  · have ek := same_eq e1
    subst ek
    repeat walk_at "rd"
    refine use_rod hb fun r l hr hl => ?_
    obtain ⟨xs, rfl, h1, h2⟩ := hr
    repeat walk_at "rd"
    exact h' xs l h1 h2 hl
  repeat walk_at "rd"
  refine rd_eqK (k' := .ba) ?_
  repeat walk_at "rd"
  refine rd_ite (fun e2 => ?_) fun e2 => ?_
  · have ek := same_eq e2
    subst ek
    repeat walk_at "rd"
    refine use_take hb (by decide) (by decide) fun n1 l1 _ _ hl1 => ?_
    repeat walk_at "rd"
    refine use_of (Bag.put hl1) (List.cons_ne_nil _ _) (by simp) fun s0 l2 hs0 hl2 => ?_
    rw [put_put]
    obtain ⟨m, rfl⟩ : ∃ m : Int, s0 = .int m := by rcases mem3 hs0 with rfl | rfl | rfl <;> exact ⟨_, rfl⟩
    repeat walk_at "rd"
    refine use_take (Bag.put hl2) (by decide) (by decide) fun n2 l3 _ _ hl3 => ?_
    rw [put_put]
    have rest : ∀ g : D, okT g = true → ∀ q : VK3, (∀ r l, okT r = true → Bag3 l → q r (M.put p (.lst l))) → ∀ E : XK3, sp_law_pick K A ([.ref p, g, .lst [.int 0, .int (big + 1), .int (-big - 1), .bl true, .bl false, .non, .str "1"]] ++ []) (M.put p (.lst l3)) q E := fun g hg q hq E => by
      refine use_pick (Bag.put hl3) (fun r => okT r = true) hg (fun y hy => ?_) fun r l4 hr hl4 => by rw [put_put]; exact hq r l4 hr hl4
      simp only [List.mem_cons, List.not_mem_nil, or_false] at hy
      rcases hy with rfl | rfl | rfl | rfl | rfl | rfl | rfl
      all_goals first | rfl | exact tA ok_s1
    have rest2 : ∀ (hv : D) (l4 : List D) (q : VK3) (E : XK3), okT hv = true → Bag3 l4 → (∀ xs l, xs.length = 3 → xs.all okT = true → Bag3 l → q (.lst xs) (M.put p (.lst l))) → True := fun _ _ _ _ _ _ _ => trivial
    repeat walk_at "rd"
    have hres : ∀ r l, okT r = true → Bag3 l → ∀ (u : D), u = r → True := fun _ _ _ _ _ _ => trivial
    refine rd_ite (fun e => ?_) fun e => ?_
    · repeat walk_at "rd"
      refine rest (.int m) rfl _ (fun hv l4 hhv hl4 => ?_) _
      repeat walk_at "rd"
      refine use_far (Bag.put hl4) fun fi l5 hl5 => ?_
      rw [put_put]
      repeat walk_at "rd"
      refine use_pick (Bag.put hl5) (fun r => okT r = true) rfl (fun y hy => ?_) fun pl l6 hpl hl6 => ?_
      · simp only [List.mem_cons, List.not_mem_nil, or_false] at hy
        rcases hy with rfl | rfl | rfl | rfl | rfl | rfl
        all_goals first | rfl | exact tA ok_s0 | exact tT (a2 rfl rfl)
      rw [put_put]
      repeat walk_at "rd"
      refine use_take (Bag.put hl6) (by decide) (by decide) fun n7 l7 _ _ hl7 => ?_
      rw [put_put]
      repeat walk_at "rd"
      refine use_pick (Bag.put hl7) (fun r => okT r = true) rfl (fun y hy => ?_) fun st l8 hst hl8 => ?_
      · simp only [List.mem_cons, List.not_mem_nil, or_false] at hy
        rcases hy with rfl | rfl | rfl | rfl | rfl | rfl
        all_goals first | rfl | exact tA ok_s0
      rw [put_put]
      repeat walk_at "rd"
      exact h' _ _ rfl (by simp [hst, hpl, hhv]) hl8
    · repeat walk_at "rd"
      refine rest (.int (-m)) rfl _ (fun hv l4 hhv hl4 => ?_) _
      repeat walk_at "rd"
      refine use_far (Bag.put hl4) fun fi l5 hl5 => ?_
      rw [put_put]
      repeat walk_at "rd"
      refine use_pick (Bag.put hl5) (fun r => okT r = true) rfl (fun y hy => ?_) fun pl l6 hpl hl6 => ?_
      · simp only [List.mem_cons, List.not_mem_nil, or_false] at hy
        rcases hy with rfl | rfl | rfl | rfl | rfl | rfl
        all_goals first | rfl | exact tA ok_s0 | exact tT (a2 rfl rfl)
      rw [put_put]
      repeat walk_at "rd"
      refine use_take (Bag.put hl6) (by decide) (by decide) fun n7 l7 _ _ hl7 => ?_
      rw [put_put]
      repeat walk_at "rd"
      refine use_pick (Bag.put hl7) (fun r => okT r = true) rfl (fun y hy => ?_) fun st l8 hst hl8 => ?_
      · simp only [List.mem_cons, List.not_mem_nil, or_false] at hy
        rcases hy with rfl | rfl | rfl | rfl | rfl | rfl
        all_goals first | rfl | exact tA ok_s0
      rw [put_put]
      repeat walk_at "rd"
      exact h' _ _ rfl (by simp [hst, hpl, hhv]) hl8
  repeat walk_at "rd"
  refine rd_eqK (k' := .sp) ?_
  repeat walk_at "rd"
  refine rd_ite (fun e3 => ?_) fun e3 => ?_
  · have ek := same_eq e3
    subst ek
    repeat walk_at "rd"
    refine use_take hb (by decide) (by decide) fun n1 l1 _ _ hl1 => ?_
    repeat walk_at "rd"
    refine use_pick (Bag.put hl1) (fun r => okT r = true) rfl (fun y hy => ?_) fun ex l2 hex hl2 => ?_
    · simp only [List.mem_cons, List.not_mem_nil, or_false] at hy
      rcases hy with rfl | rfl | rfl | rfl | rfl | rfl | rfl
      all_goals first | rfl | exact tA ok_s1
    rw [put_put]
    repeat walk_at "rd"
    exact h' _ _ rfl (by simp [hex]) hl2
  have ek : k = .sh := by cases k <;> first | rfl | exact absurd e1 (by decide) | exact absurd e2 (by decide) | exact absurd e3 (by decide)
  subst ek
  repeat walk_at "rd"
  refine rd_rng ?_
  repeat walk_at "rd"
  refine use_of hb (List.cons_ne_nil _ _) (by simp) fun r l1 hr hl1 => ?_
  obtain ⟨n, rfl, n0, n1⟩ : ∃ n : Int, r = .int n ∧ 0 ≤ n ∧ n ≤ 12 := by
    simp only [List.mem_cons, List.not_mem_nil, or_false] at hr
    rcases hr with rfl | rfl | rfl | rfl | rfl | rfl
    all_goals exact ⟨_, rfl, by decide, by decide⟩
  repeat walk_at "rd"
  refine ⟨n, rfl, by omega, by omega, ?_⟩
  refine rd_forP (fun i σ M' => ∃ l z u, M' = M.put p (.lst l) ∧ Bag3 l ∧ z.length ≤ i ∧ lett z = true ∧ i ≤ 12 ∧ σ = [some (.ref p), some (.str Kind.sh.name), none, none, none, none, some (.str z), u]) ⟨l1, "", none, rfl, hl1, by decide, by decide +kernel, by omega, rfl⟩ (fun _ _ _ _ => trivial) ?_ ?_
  · rintro i x σ M' hx ⟨l, z, u, rfl, hl, hz, hlt, hi, rfl⟩
    have hi2 : i < n.toNat := by
      have := (List.getElem?_eq_some_iff.mp hx).1
      unfold rngD at this
      rw [List.length_map, List.length_range] at this
      exact this
    repeat walk_at "rd"
    refine use_ofS (Bag.put hl) (by decide +kernel) (by decide +kernel) fun c l2 hc hl2 => ?_
    rw [put_put]
    refine rd_addS ?_ ?_
    · have : (⟨#[c]⟩ : Str).length = 1 := rfl
      omega
    repeat walk_at "rd"
    exact ⟨l2, _, _, rfl, hl2, by rw [app_len]; have : (⟨#[c]⟩ : Str).length = 1 := rfl; omega, lett_app hlt hc, by omega, rfl⟩
  · rintro σ M' ⟨l, z, u, rfl, hl, hz, hlt, hi, rfl⟩
    have hz12 : z.length ≤ 12 := by omega
    have sz := sok_lett hlt
    have ssl : sok (Txt.slice z (some 1) none) := sok_slice sz
    have lsl : (Txt.slice z (some 1) none).length ≤ 12 := Nat.le_trans slice_len hz12
    have lA : (("A" : Str)).length = 1 := by decide +kernel
    have lB : ((" " : Str)).length = 1 := by decide +kernel
    have l12 : (("abcdefghijkl" : Str)).length = 12 := by decide +kernel
    have sA : sok "A" := by unfold sok; decide +kernel
    have sB : sok " " := by unfold sok; decide +kernel
    have s12 : sok "abcdefghijkl" := by unfold sok; decide +kernel
    repeat walk_at "rd"
    refine rd_addS (by omega) ?_
    repeat walk_at "rd"
    refine .inl ⟨z, rfl, by omega, ?_⟩
    repeat walk_at "rd"
    refine rd_addS (by omega) ?_
    repeat walk_at "rd"
    refine .inl ⟨z, rfl, by omega, ?_⟩
    repeat walk_at "rd"
    refine rd_addS (by omega) ?_
    repeat walk_at "rd"
    refine use_pick (Bag.put hl) (fun r => okT r = true) (tA (okA_of sz (by omega))) (fun y hy => ?_) fun nm l2 hnm hl2 => ?_
    · simp only [List.mem_cons, List.not_mem_nil, or_false] at hy
      rcases hy with rfl | rfl | rfl | rfl | rfl | rfl | rfl | rfl | rfl
      · exact tA ok_se
      · exact tA (okA_of (sok_app sz s12) (by rw [app_len]; omega))
      · exact tA (okA_of (sok_app ssl sA) (by rw [app_len]; omega))
      · exact tA ok_s1
      · exact tA (okA_of (sok_app ssl sB) (by rw [app_len]; omega))
      · rfl
      · rfl
      · exact tL (a1 (okA_of sz (by omega)))
      · exact tT (a1 ok_sa)
    rw [put_put]
    repeat walk_at "rd"
    exact h' _ _ rfl (by simp [hnm]) hl2
theorem len_law_things : ∀ ds M Q E, sp_law_things K A ds M Q E → ds.length = (["bag", "kind"] : List Str).length := fun ds M Q E ⟨p, as, e, _, ⟨k, e2⟩, _⟩ => by
  subst e e2
  rfl
end
end K68

namespace K68
open PySem PySem.Spec PyProof.Rows L2 L3
local macro_rules | `(tactic| walk_at "rd") => `(tactic| first
  | (with_reducible refine rd_seq ?_) | (with_reducible refine rd_ifS ?_) | (with_reducible refine rd_asg ?_) | (with_reducible refine rd_ret ?_) | (with_reducible refine rd_drop ?_) | (with_reducible refine rd_next ?_)
  | (with_reducible refine rd_name ?_) | (with_reducible refine rd_cons ?_) | (with_reducible refine rd_nil ?_) | (with_reducible refine rd_c ?_) | (with_reducible refine rd_op ?_) | (with_reducible refine rd_un ?_)
  | (with_reducible refine rd_test ?_) | (with_reducible refine rd_chain ?_) | (with_reducible refine rd_and ?_) | (with_reducible refine rd_or ?_) | (with_reducible refine rd_not ?_) | (with_reducible refine rd_andV ?_) | (with_reducible refine rd_orV ?_) | (with_reducible refine rd_notV ?_)
  | (with_reducible refine rd_if ?_) | (with_reducible refine rd_exbl ?_) | (with_reducible refine rd_exint ?_) | (with_reducible refine rd_tup ?_) | (with_reducible refine rd_lst ?_) | (with_reducible refine rd_lstM ?_) | (with_reducible refine rd_cb ?_) | (with_reducible refine rd_call ?_) | (with_reducible refine rd_make ?_)
  | (with_reducible refine rd_sl ?_) | (with_reducible refine rd_part ?_) | (with_reducible refine rd_nopart ?_) | (with_reducible refine rd_par ?_) | (with_reducible refine rd_expar ?_) | (with_reducible refine rd_tru ?_)
  | (with_reducible refine rd_for ?_) | (with_reducible refine rd_raise ?_) | (with_reducible refine rd_fldS ?_) | (with_reducible refine rd_retN ?_) | (with_reducible refine rd_break ?_) | (with_reducible refine rd_cont ?_)
  | (with_reducible refine rd_endrt ?_) | (with_reducible refine rd_endnx ?_) | (with_reducible refine rd_endex ?_) | (with_reducible refine rd_nx ?_) | (with_reducible refine rd_rt ?_) | (with_reducible refine rd_bk ?_) | (with_reducible refine rd_ct ?_) | (with_reducible refine rd_ex ?_)
  | (with_reducible refine rd_I3 ?_) | (with_reducible refine rd_neg ?_) | (with_reducible refine rd_addI ?_) | (with_reducible refine rd_lt ?_) | (with_reducible refine rd_le ?_) | (with_reducible refine rd_gt ?_) | (with_reducible refine rd_ge ?_)
  | (with_reducible refine rd_isN ?_) | (with_reducible refine rd_notN ?_) | (with_reducible refine rd_eqI ?_) | (with_reducible refine rd_neI ?_) | (with_reducible refine rd_int1 ?_) | (with_reducible refine rd_intOf ?_)
  | (with_reducible refine rd_p6 ?_) | (with_reducible refine rd_p18 ?_) | (with_reducible refine rd_p20 ?_) | (with_reducible refine rd_p30 ?_)
  | ((with_reducible refine rd_IC3 ?cc ?_); (case cc => first | decide | exact Or.inr (Or.inr ⟨by decide, by decide⟩) | exact Or.inr (Or.inl ⟨by decide, by decide⟩) | exact ⟨by decide, by decide⟩))
  | ((with_reducible show tVar3 _ _ _ _ _); refine rd_var rfl ?_)
  | ((with_reducible show opIx3 _ (D.int _) _ _); refine rd_ix (by first | exact rfl | assumption) (by first | exact rfl | assumption) ?_)
  | ((with_reducible show aLen3 [_] _ _); refine rd_len (by first | exact rfl | assumption) ?_)
  | (with_reducible refine rd_le1 ?_) 
  | (with_reducible refine rd_iteTT ?_) | (with_reducible refine rd_iteFF ?_))
theorem atI_zero {α : Type} {x : α} {r : List α} : atI (x :: r) 0 = some x := by
  unfold atI ixN
  rw [if_pos (by decide), if_pos (by rw [List.length_cons]; omega)]
  rfl
theorem rd_andB {b : Bool} {ta tb : TE3} {σ : St3} {M : Mem} {Q : VK3} {E : XK3} (hq : Q (.bl b) M) (k : ∀ Q' : VK3, Q' (.bl b) M → tAndV3 ta tb σ M Q' E) : tAndV3 ta tb σ M Q E := k Q hq
def pr (p : Str × Bool) : D := .tup [.str p.1, .bl p.2]
/-- the first word whose test fails -/
def firstW : List (Str × Bool) → Option Str
  | [] => none
  | (w, b) :: r => if b then firstW r else some w
def keepW (y : D) : Bool := match y with
  | .tup [_, .bl b] => !b
  | _ => false
def wordW (y : D) : D := match y with
  | .tup [a, _] => a
  | _ => .non
def wrongs (ps : List (Str × Bool)) : List D := ((ps.map pr).filter keepW).map wordW
theorem wrongs_first : ∀ ps : List (Str × Bool), (wrongs ps = [] ∧ firstW ps = none) ∨ ∃ w r, wrongs ps = .str w :: r ∧ firstW ps = some w
  | [] => .inl ⟨rfl, rfl⟩
  | (w, true) :: r => by
    have e1 : wrongs ((w, true) :: r) = wrongs r := rfl
    have e2 : firstW ((w, true) :: r) = firstW r := rfl
    rw [e1, e2]
    exact wrongs_first r
  | (w, false) :: r => .inr ⟨w, wrongs r, rfl, rfl⟩
theorem eqv_pair {a b c d : Int} : PyData.eqv (.tuple [.int a, .int b]) (.tuple [.int c, .int d]) = (decide (a = c) && decide (b = d)) := by
  rw [PyData.eqv, PyData.eqvAll, PyData.eqvAll, PyData.eqvAll, PyData.eqv, PyData.eqv, Bool.and_true]
  rfl
theorem sok_strOk {z : Str} (h : PyData.strOk z = true) : sok z := fun c hc => by
  unfold PyData.strOk at h
  rw [← Array.all_toList, List.all_eq_true] at h
  exact of_decide_eq_true (h c hc)
theorem eqD_nil {ys : List D} (h : okT (.lst ys) = true) : eqD (.lst ys) (.lst []) = ys.isEmpty := by
  simp only [okT, Bool.and_eq_true] at h
  obtain ⟨ds, q1, _, _⟩ := okAs_py h.2
  have e : pyD (.lst ys) = .list ds := by unfold pyD; simp [D.py, q1]
  have e0 : pyD (.lst []) = .list [] := by rfl
  unfold eqD
  rw [e, e0, PyData.eqv]
  cases ys with
  | nil => simp [D.pys] at q1; subst q1; rw [PyData.eqvAll]; rfl
  | cons y r =>
    cases ds with
    | nil =>
      simp only [D.pys] at q1
      split at q1
      · cases q1
      · cases e2 : D.pys r <;> rw [e2] at q1 <;> simp at q1
    | cons d r2 => rw [PyData.eqvAll]; rfl
def plainS (x : D) : Bool := match x with
  | .str z => decide (1 ≤ (z.length : Int)) && decide ((z.length : Int) ≤ 12)
  | _ => false
theorem nameOk_plain {x : D} (h : plainS x = false) : nameOk x = false := by
  cases x with
  | str z =>
    have e' : (decide (1 ≤ (z.length : Int)) && decide ((z.length : Int) ≤ 12)) = false := h
    simp only [nameOk, e', Bool.false_and]
  | _ => rfl
def oddS (y : D) : Bool := match y with
  | .str s => xor true (decide (s.cps.toList.headD 0 ∈ ("abcdefghijklmnopqrstuvwxyz" : Str).cps.toList))
  | _ => false
theorem odd_empty0 : ∀ l : List Nat, (List.map id (List.filter oddS (l.map fun c => D.str ⟨#[c]⟩))).isEmpty = l.all fun c => decide (c ∈ ("abcdefghijklmnopqrstuvwxyz" : Str).cps.toList)
  | [] => rfl
  | c :: l => by
    have eo : oddS (.str ⟨#[c]⟩) = !decide (c ∈ ("abcdefghijklmnopqrstuvwxyz" : Str).cps.toList) := by
      exact Bool.true_xor _
    rw [List.map_cons, List.all_cons, ← odd_empty0 l]
    cases h : decide (c ∈ ("abcdefghijklmnopqrstuvwxyz" : Str).cps.toList) with
    | true =>
      rw [h] at eo
      rw [List.filter_cons_of_neg (by rw [eo]; decide), Bool.true_and]
    | false =>
      rw [h] at eo
      rw [List.filter_cons_of_pos (by rw [eo]; decide)]
      rfl
theorem odd_empty {z : Str} : (List.map id (List.filter oddS (signsD z))).isEmpty = lett z := odd_empty0 _
section
variable {P : Program} {w : World} {K : PySem.W.Frag} {mg : Str → Option Value} {base : Heap} {A : Adr}
theorem due_tail {M : Mem} {q : Addr} {ps : List (Str × Bool)} {k : Kind} {as : List D} {Q : VK3} {E : XK3} {u3 u4 u5 u6 u7 u8 u9 u10 u11 : Option D} (hl : ps.length ≤ 10) (hq : M q = none) (h : Q (whatD (firstW ps)) M) :
    tFrz3 2 (tSeq3 (tAsg3 (tLc3 (iSeq3 (tVar3 2)) (.one 3) [3] (tNot3 (tTest3 (tOp3 opIx3 (tVar3 3) (tC3 (.int 1))))) (tOp3 opIx3 (tVar3 3) (tC3 (.int 0)))) (gName3 11)) (tRet3 (tIf3 (tTru3 (tVar3 11)) (tOp3 opIx3 (tVar3 11) (tC3 (.int 0))) (tC3 .non))))
      (endsOf Q E) [some (.str k.name), some (.lst as), some (.ref q), u3, u4, u5, u6, u7, u8, u9, u10, u11] (M.put q (.lst (ps.map pr))) := by
  refine rd_frz rfl put_same ?_
  rw [del_put hq]
  have em : List.map (frz1 q (.lst (ps.map pr))) [some (.str k.name), some (.lst as), some (.ref q), u3, u4, u5, u6, u7, u8, u9, u10, u11] = [some (.str k.name), some (.lst as), some (.lst (ps.map pr)), frz1 q (.lst (ps.map pr)) u3, frz1 q (.lst (ps.map pr)) u4, frz1 q (.lst (ps.map pr)) u5, frz1 q (.lst (ps.map pr)) u6, frz1 q (.lst (ps.map pr)) u7, frz1 q (.lst (ps.map pr)) u8, frz1 q (.lst (ps.map pr)) u9, frz1 q (.lst (ps.map pr)) u10, frz1 q (.lst (ps.map pr)) u11] := by
    simp only [List.map_cons, List.map_nil]
    simp only [frz1, if_true]
  rw [em]
  repeat walk_at "rd"
  refine rd_lc (rd_iSeq ?_)
  repeat walk_at "rd"
  refine ⟨_, rfl, ?_⟩
  refine lcP_map keepW wordW (by rw [List.length_map]; omega) (fun _ _ _ => trivial) (fun y hy => ?_) ?_
  · obtain ⟨⟨wd, b⟩, _, rfl⟩ := List.mem_map.mp hy
    refine ⟨_, rfl, fun L acc Q' hL q => ?_, fun _ L acc Q' hL q => ?_⟩
    · repeat walk_at "rd"
      exact q
    · repeat walk_at "rd"
      exact q
  have hw : (List.map wordW (List.filter keepW (List.map pr ps))) = wrongs ps := rfl
  rw [hw]
  rcases wrongs_first ps with ⟨e1, e2⟩ | ⟨wd, r, e1, e2⟩
  · rw [e1]
    rw [e2] at h
    repeat walk_at "rd"
    refine ⟨false, rfl, ?_⟩
    repeat walk_at "rd"
    exact h
  · rw [e1]
    rw [e2] at h
    repeat walk_at "rd"
    refine ⟨true, rfl, ?_⟩
    repeat walk_at "rd"
    refine rd_ix rfl atI_zero ?_
    repeat walk_at "rd"
    exact h
theorem use_wT {a : D} {lo hi : Int} {M : Mem} {Q : VK3} {E : XK3} (h : okT a = true) (q : Q (.bl (whole a lo hi)) M) : spF fWhole ([a, .int lo, .int hi] ++ []) M Q E := use_whole (by rw [fzT h]; exact h) (by rw [fzT h]; exact q)
theorem pure_law_due (T : Txt K mg A) : ∀ ds M Q E, sp_law_due K A ds M Q E → t_law_due K A (endsOf Q E) (start3 N_law_due ds) M := by
  rintro ds M Q E ⟨k, as, rfl, hl, ho, h⟩
  unfold t_law_due
  refine rd_join (fun σ' M' => ∃ q ps u3 u4 u5 u6 u7 u8 u9 u10 u11, M q = none ∧ M' = M.put q (.lst (ps.map pr)) ∧ ps.length ≤ 10 ∧ firstW ps = chk k as ∧ σ' = [some (.str k.name), some (.lst as), some (.ref q), u3, u4, u5, u6, u7, u8, u9, u10, u11]) ?_ fun N hN => ?_
  · rintro σ' M' ⟨q, ps, u3, u4, u5, u6, u7, u8, u9, u10, u11, hq, rfl, hp, he, rfl⟩
    exact due_tail hp hq (by rw [he]; exact h)
  have fin : ∀ (q : Addr) (ps : List (Str × Bool)) u3 u4 u5 u6 u7 u8 u9 u10 u11, M q = none → ps.length ≤ 10 → firstW ps = chk k as → N [some (.str k.name), some (.lst as), some (.ref q), u3, u4, u5, u6, u7, u8, u9, u10, u11] (M.put q (.lst (ps.map pr))) :=
    fun q ps u3 u4 u5 u6 u7 u8 u9 u10 u11 hq hp he => hN _ _ ⟨q, ps, u3, u4, u5, u6, u7, u8, u9, u10, u11, hq, rfl, hp, he, rfl⟩
  clear hN h
  repeat walk_at "rd"
  refine rd_eqK (k' := .ba) ?_
  repeat walk_at "rd"
  refine rd_ite (fun e1 => ?_) fun e1 => ?_
  · have ek := same_eq e1
    subst ek
    match as, hl with
    | [s, x, v], _ =>
      obtain ⟨h1, h2, h3⟩ := all3 ho
      repeat walk_at "rd"
      refine use_wT h1 ?_
      repeat walk_at "rd"
      refine use_wT h2 ?_
      repeat walk_at "rd"
      intro q hq
      repeat walk_at "rd"
      refine rd_tapp ?_
      repeat walk_at "rd"
      refine ⟨⟨q, _, rfl, put_same⟩, ?_⟩
      iterate 4 walk_at "rd"
      refine rd_andB (b := whole v (-big) big && !eqD v (.int 0)) ?_ fun Q' hQ' => ?_
      rotate_left
      · repeat walk_at "rd"
        refine use_wT h3 ?_
        repeat walk_at "rd"
        refine rd_ite (fun e => ?_) fun e => ?_
        · repeat walk_at "rd"
          refine rd_neT h3 rfl ?_
          have e' : whole v (-big) big = true := e
          rw [e', Bool.true_and] at hQ'
          exact hQ'
        · repeat walk_at "rd"
          have e' : whole v (-big) big = false := e
          rw [e', Bool.false_and] at hQ'
          exact hQ'
      repeat walk_at "rd"
      refine ⟨q, _, rfl, put_same, by simp, ?_⟩
      repeat walk_at "rd"
      rw [put_put]
      refine fin q [("stone", whole s 0 7), ("x", whole x (-1000000) 1000000), ("weight", whole v (-big) big && !eqD v (.int 0))] _ _ _ _ _ _ _ _ _ hq (by simp) ?_
      simp only [firstW, chk, chkBa]
      cases whole s 0 7 <;> cases whole x (-1000000) 1000000 <;> cases whole v (-big) big <;> cases eqD v (.int 0) <;> rfl
  repeat walk_at "rd"
  refine rd_eqK (k' := .ro) ?_
  repeat walk_at "rd"
  refine rd_ite (fun e2 => ?_) fun e2 => ?_
  · have ek := same_eq e2
    subst ek
    match as, hl with
    | [a, b, s, f, v], _ =>
      obtain ⟨h1, h2, h3, h4, h5⟩ := all5 ho
      repeat walk_at "rd"
      refine ⟨_, .inr rfl, rfl, _, _, rfl, _, _, rfl, _, _, rfl, _, _, rfl, _, _, rfl, rfl, ?_⟩
      repeat walk_at "rd"
      refine use_wT h1 ?_
      iterate 4 walk_at "rd"
      refine rd_andB (b := whole b 0 7 && !eqD b a) ?_ fun Q' hQ' => ?_
      rotate_left
      · repeat walk_at "rd"
        refine use_wT h2 ?_
        repeat walk_at "rd"
        refine rd_ite (fun e => ?_) fun e => ?_
        · repeat walk_at "rd"
          refine rd_neT h2 h1 ?_
          rw [e, Bool.true_and] at hQ'
          exact hQ'
        · repeat walk_at "rd"
          rw [e, Bool.false_and] at hQ'
          exact hQ'
      repeat walk_at "rd"
      intro q hq
      iterate 4 walk_at "rd"
      refine rd_andB (b := point s && point f) ?_ fun Q' hQ' => ?_
      rotate_left
      · repeat walk_at "rd"
        refine use_pointT h3 ?_
        repeat walk_at "rd"
        refine rd_ite (fun e => ?_) fun e => ?_
        · repeat walk_at "rd"
          refine use_pointT h4 ?_
          rw [e, Bool.true_and] at hQ'
          exact hQ'
        · repeat walk_at "rd"
          rw [e, Bool.false_and] at hQ'
          exact hQ'
      repeat walk_at "rd"
      refine rd_tapp ?_
      repeat walk_at "rd"
      refine ⟨⟨q, _, rfl, put_same⟩, ?_⟩
      repeat walk_at "rd"
      refine use_pointT h3 ?_
      repeat walk_at "rd"
      refine ⟨q, _, rfl, put_same, by simp, ?_⟩
      rw [put_put]
      repeat walk_at "rd"
      refine rd_tapp ?_
      repeat walk_at "rd"
      refine ⟨⟨q, _, rfl, put_same⟩, ?_⟩
      iterate 4 walk_at "rd"
      refine rd_andB (b := (point s && point f) && !eqD (tupOf f) (tupOf s)) ?_ fun Q' hQ' => ?_
      rotate_left
      · repeat walk_at "rd"
        refine rd_ite (fun e => ?_) fun e => ?_
        · obtain ⟨ea, eb⟩ := Bool.and_eq_true_iff.mp e
          obtain ⟨i, j, hi, ti⟩ := point_is ea
          obtain ⟨i', j', hi', ti'⟩ := point_is eb
          repeat walk_at "rd"
          refine rd_tuple (items_fz (by rw [fzT h3]; exact hi)) ?_
          repeat walk_at "rd"
          refine rd_tuple (items_fz (by rw [fzT h4]; exact hi')) ?_
          refine rd_ne py2 py2 shp2 shp2 ?_
          have e3 : eqD (tupOf f) (tupOf s) = PyData.eqv (.tuple [.int i, .int j]) (.tuple [.int i', .int j']) := by
            rw [ti, ti']
            show PyData.eqv (.tuple [.int i', .int j']) (.tuple [.int i, .int j]) = _
            rw [eqv_pair, eqv_pair]
            congr 1 <;> exact decide_eq_decide.mpr eq_comm
          rw [e, Bool.true_and, e3] at hQ'
          exact hQ'
        · repeat walk_at "rd"
          rw [e, Bool.false_and] at hQ'
          exact hQ'
      repeat walk_at "rd"
      refine ⟨q, _, rfl, put_same, by simp, ?_⟩
      rw [put_put]
      repeat walk_at "rd"
      refine rd_tapp ?_
      repeat walk_at "rd"
      refine ⟨⟨q, _, rfl, put_same⟩, ?_⟩
      repeat walk_at "rd"
      refine use_wT h5 ?_
      repeat walk_at "rd"
      refine ⟨q, _, rfl, put_same, by simp, ?_⟩
      rw [put_put]
      repeat walk_at "rd"
      refine fin q [("one", whole a 0 7), ("other", whole b 0 7 && !eqD b a), ("start", point s), ("end", (point s && point f) && !eqD (tupOf f) (tupOf s)), ("pull", whole v 1 big)] _ _ _ _ _ _ _ _ _ hq (by simp) ?_
      simp only [firstW, chk, chkRo]
      cases whole a 0 7 <;> cases whole b 0 7 <;> cases eqD b a <;> cases point s <;> cases point f <;> cases eqD (tupOf f) (tupOf s) <;> cases whole v 1 big <;> rfl
  repeat walk_at "rd"
  refine rd_eqK (k' := .sp) ?_
  repeat walk_at "rd"
  refine rd_ite (fun e3 => ?_) fun e3 => ?_
  · have ek := same_eq e3
    subst ek
    match as, hl with
    | [x], _ =>
      have h1 := all1 ho
      repeat walk_at "rd"
      refine use_wT h1 ?_
      repeat walk_at "rd"
      intro q hq
      repeat walk_at "rd"
      refine fin q [("extra", whole x 1 100)] _ _ _ _ _ _ _ _ _ hq (by simp) ?_
      simp only [firstW, chk, chkSp]
      cases whole x 1 100 <;> rfl
  have ek : k = .sh := by cases k <;> first | rfl | exact absurd e1 (by decide) | exact absurd e2 (by decide) | exact absurd e3 (by decide)
  subst ek
  match as, hl with
  | [x], _ =>
    have h1 := all1 ho
    have h1' : okT (x.fz M) = true := by rw [fzT h1]; exact h1
    iterate 10 walk_at "rd"
    refine rd_andB (b := plainS x) ?_ fun Q' hQ' => ?_
    rotate_left
    · repeat walk_at "rd"
      refine isi_str h1' ?_
      repeat walk_at "rd"
      rw [fzT h1]
      refine rd_ite (fun e => ?_) fun e => ?_
      · obtain ⟨z, rfl⟩ := isX_str e
        repeat walk_at "rd"
        refine rd_lenS (okA_len h1) ?_
        repeat walk_at "rd"
        refine rd_ite (fun e4 => ?_) fun e4 => ?_
        · repeat walk_at "rd"
          have ep : plainS (.str z) = decide ((z.length : Int) ≤ 12) := by simp only [plainS, e4, Bool.true_and]
          rw [ep] at hQ'
          exact hQ'
        · repeat walk_at "rd"
          have ep : plainS (.str z) = false := by simp only [plainS, e4, Bool.false_and]
          rw [ep] at hQ'
          exact hQ'
      · repeat walk_at "rd"
        have ep : plainS x = false := by cases x <;> first | rfl | cases e
        rw [ep] at hQ'
        exact hQ'
    iterate 9 walk_at "rd"
    refine rd_andB (b := nameOk x) ?_ fun Q' hQ' => ?_
    rotate_left
    · repeat walk_at "rd"
      refine rd_ite (fun e => ?_) fun e => ?_
      · obtain ⟨z, rfl⟩ : ∃ z, x = .str z := by cases x <;> first | exact ⟨_, rfl⟩ | cases e
        have h1s : okA (.str z) = true := h1
        have h1z := h1s
        simp only [okA, Bool.and_eq_true, decide_eq_true_eq] at h1z
        have sz := sok_strOk h1z.2
        repeat walk_at "rd"
        refine rd_lc (rd_iStr ?_)
        repeat walk_at "rd"
        refine ⟨z, rfl, ?_⟩
        refine lcP_map oddS id (by unfold signsD; rw [List.length_map, Array.length_toList]; exact okA_len h1s) (fun _ _ _ => trivial) (fun y hy => ?_) ?_
        · unfold signsD at hy
          obtain ⟨c, _, rfl⟩ := List.mem_map.mp hy
          refine ⟨_, rfl, fun L acc Q' hL q => ?_, fun _ L acc Q' hL q => ?_⟩
          · repeat walk_at "rd"
            refine .inr ⟨c, _, rfl, rfl, ?_⟩
            repeat walk_at "rd"
            exact q
          · repeat walk_at "rd"
            exact q
        have hy : okT (.lst (List.map id (List.filter oddS (signsD z)))) = true := by
          refine tL ?_ ?_
          · rw [List.map_id, List.all_eq_true]
            intro y hy
            unfold signsD at hy
            obtain ⟨c, hc, rfl⟩ := List.mem_map.mp (List.mem_filter.mp hy).1
            exact okA_of (fun d hd => by
              have : d = c := by simpa using hd
              subst this
              exact sz d hc) (by show (1 : Nat) ≤ 1000; decide)
          · rw [List.map_id]
            refine Nat.le_trans (List.length_filter_le _ _) ?_
            unfold signsD
            rw [List.length_map, Array.length_toList]
            exact h1z.1
        repeat walk_at "rd"
        refine rd_eqT hy rfl ?_
        have en : nameOk (.str z) = eqD (.lst (List.map id (List.filter oddS (signsD z)))) (.lst []) := by
          rw [eqD_nil hy, odd_empty]
          have e' : (decide (1 ≤ (z.length : Int)) && decide ((z.length : Int) ≤ 12)) = true := e
          simp only [nameOk, e', Bool.true_and]
        rw [en] at hQ'
        exact hQ'
      · repeat walk_at "rd"
        have en : nameOk x = false := nameOk_plain e
        rw [en] at hQ'
        exact hQ'
    repeat walk_at "rd"
    intro q hq
    repeat walk_at "rd"
    refine fin q [("name", nameOk x)] _ _ _ _ _ _ _ _ _ hq (by simp) ?_
    simp only [firstW, chk, chkSh]
theorem len_law_due : ∀ ds M Q E, sp_law_due K A ds M Q E → ds.length = (["kind", "things"] : List Str).length := fun ds M Q E ⟨k, as, e, _⟩ => by
  subst e
  rfl
end
end K68

namespace K68
open PySem PySem.Spec PyProof.Rows L2 L3
local macro_rules | `(tactic| walk_at "rd") => `(tactic| first
  | (with_reducible refine rd_seq ?_) | (with_reducible refine rd_ifS ?_) | (with_reducible refine rd_asg ?_) | (with_reducible refine rd_ret ?_) | (with_reducible refine rd_drop ?_) | (with_reducible refine rd_next ?_)
  | (with_reducible refine rd_name ?_) | (with_reducible refine rd_cons ?_) | (with_reducible refine rd_nil ?_) | (with_reducible refine rd_c ?_) | (with_reducible refine rd_op ?_) | (with_reducible refine rd_un ?_)
  | (with_reducible refine rd_test ?_) | (with_reducible refine rd_chain ?_) | (with_reducible refine rd_and ?_) | (with_reducible refine rd_or ?_) | (with_reducible refine rd_not ?_) | (with_reducible refine rd_andV ?_) | (with_reducible refine rd_orV ?_) | (with_reducible refine rd_notV ?_)
  | (with_reducible refine rd_if ?_) | (with_reducible refine rd_exbl ?_) | (with_reducible refine rd_exint ?_) | (with_reducible refine rd_tup ?_) | (with_reducible refine rd_lst ?_) | (with_reducible refine rd_lstM ?_) | (with_reducible refine rd_cb ?_) | (with_reducible refine rd_call ?_) | (with_reducible refine rd_make ?_)
  | (with_reducible refine rd_sl ?_) | (with_reducible refine rd_part ?_) | (with_reducible refine rd_nopart ?_) | (with_reducible refine rd_par ?_) | (with_reducible refine rd_expar ?_) | (with_reducible refine rd_tru ?_)
  | (with_reducible refine rd_for ?_) | (with_reducible refine rd_raise ?_) | (with_reducible refine rd_fldS ?_) | (with_reducible refine rd_retN ?_) | (with_reducible refine rd_break ?_) | (with_reducible refine rd_cont ?_)
  | (with_reducible refine rd_endrt ?_) | (with_reducible refine rd_endnx ?_) | (with_reducible refine rd_endex ?_) | (with_reducible refine rd_nx ?_) | (with_reducible refine rd_rt ?_) | (with_reducible refine rd_bk ?_) | (with_reducible refine rd_ct ?_) | (with_reducible refine rd_ex ?_)
  | (with_reducible refine rd_I3 ?_) | (with_reducible refine rd_neg ?_) | (with_reducible refine rd_addI ?_) | (with_reducible refine rd_lt ?_) | (with_reducible refine rd_le ?_) | (with_reducible refine rd_gt ?_) | (with_reducible refine rd_ge ?_)
  | (with_reducible refine rd_isN ?_) | (with_reducible refine rd_notN ?_) | (with_reducible refine rd_eqI ?_) | (with_reducible refine rd_neI ?_) | (with_reducible refine rd_int1 ?_) | (with_reducible refine rd_intOf ?_)
  | (with_reducible refine rd_p6 ?_) | (with_reducible refine rd_p18 ?_) | (with_reducible refine rd_p20 ?_) | (with_reducible refine rd_p30 ?_)
  | ((with_reducible refine rd_IC3 ?cc ?_); (case cc => first | decide | exact Or.inr (Or.inr ⟨by decide, by decide⟩) | exact Or.inr (Or.inl ⟨by decide, by decide⟩) | exact ⟨by decide, by decide⟩))
  | ((with_reducible show tVar3 _ _ _ _ _); refine rd_var rfl ?_)
  | ((with_reducible show opIx3 _ (D.int _) _ _); refine rd_ix (by first | exact rfl | assumption) (by first | exact rfl | assumption) ?_)
  | ((with_reducible show aLen3 [_] _ _); refine rd_len (by first | exact rfl | assumption) ?_)
  | (with_reducible refine rd_le1 ?_) 
  | (with_reducible refine rd_iteTT ?_) | (with_reducible refine rd_iteFF ?_))
theorem fz_put {M : Mem} {x : Addr} {C : Addr} {fs : List (Str × D)} (hx : M x = none) (a : D) : a.fz (M.put x (.ins C fs)) = a.fz M := by
  cases a with
  | ref b =>
    by_cases e : b = x
    · subst e
      simp only [D.fz, put_same, hx]
    · simp only [D.fz, put_ne e]
  | _ => rfl
theorem maps_put {M : Mem} {x : Addr} {C : Addr} {fs : List (Str × D)} (hx : M x = none) (as : List D) : as.map (D.fz (M.put x (.ins C fs))) = as.map (D.fz M) := List.map_congr_left fun a _ => fz_put hx a
theorem use_make {A : Adr} {k : Kind} {as : List D} {M : Mem} {Q : VK3} {E : XK3} (hl : as.length = k.n) (ho : (as.map (D.fz M)).all okT = true)
    (h : match chk k (as.map (D.fz M)) with
      | some w => E (.ref A.C_BadChange) [("what", .str w)] M
      | none => Q (.ins (cls A k) (flds k (as.map (D.fz M)))) M) : spMake (cls A k) (spIni A k) as M Q E := by
  intro x hx
  refine ⟨x, as, rfl, put_same, hl, by rw [maps_put hx]; exact ho, ?_⟩
  rw [maps_put hx]
  cases hc : chk k (as.map (D.fz M)) with
  | some w =>
    rw [hc] at h
    show E _ _ ((M.put x _).del x)
    rw [del_put hx]
    exact h
  | none =>
    rw [hc] at h
    refine ⟨rfl, _, put_same, ?_⟩
    rw [put_put, del_put hx]
    exact h
theorem exm_self {K : PySem.W.Frag} {S : Addr} (h1 : PySem.W.subIn K (.ref S) (.type "BaseException") = some true) (h2 : ((PySem.W.clsIn K S).isSome && PySem.W.typeIn K (.ref S) == some (.type "type")) = true) (h4 : PySem.W.subIn K (.ref S) (.ref S) = some true) :
    PySem.W.exmOne K (.ref S) (.ref S) = some true := by
  have e1 : (PySem.W.subIn K (.ref S) (.type "BaseException") == some true) = true := by rw [h1] <;> rfl
  show (if (PySem.W.subIn K (.ref S) (.type "BaseException") == some true) = true then (if ((PySem.W.clsIn K S).isSome && PySem.W.typeIn K (.ref S) == some (.type "type")) = true then PySem.W.subIn K (.ref S) (.ref S) else none) else none) = some true
  rw [if_pos e1, if_pos h2]
  exact h4
theorem kit_cls1 {K : PySem.W.Frag} {t : Value} {S : Addr} {b : Bool} (hne : (t == Value.ref S) = false) (h2 : ((PySem.W.clsIn K S).isSome && PySem.W.typeIn K (.ref S) == some (.type "type")) = true) (h4 : PySem.W.subIn K t (.ref S) = some b) : PySem.W.kitOne K t (.ref S) = some b := by
  unfold PySem.W.kitOne
  rw [if_neg (by rw [hne]; decide)]
  show (if ((PySem.W.clsIn K S).isSome && PySem.W.typeIn K (.ref S) == some (.type "type")) = true then PySem.W.subIn K t (.ref S) else none) = some b
  rw [if_pos h2]
  exact h4
theorem kit_any {K : PySem.W.Frag} {t : Value} {S : Addr} {b : Bool} (h2 : ((PySem.W.clsIn K S).isSome && PySem.W.typeIn K (.ref S) == some (.type "type")) = true) (h4 : PySem.W.subIn K t (.ref S) = some b) (hs : t = .ref S → b = true) : PySem.W.kitOne K t (.ref S) = some b := by
  by_cases e : t = .ref S
  · rw [hs e, e]
    exact kit_self
  · exact kit_cls1 (beq_eq_false_iff_ne.mpr e) h2 h4
section
variable {P : Program} {w : World} {K : PySem.W.Frag} {mg : Str → Option Value} {base : Heap} {A : Adr}
/-- the clause: the word, under both names -/
theorem made_clause (T : Txt K mg A) {a : Addr} {d : Option Addr} {w : Str} {σ : St3} {M : Mem} {N B C : St3 → Mem → Prop} {R : VK3} {X : Value → List (Str × D) → St3 → Mem → Prop} (hσ : σ[2]? = some (some (.exc a d [("what", .str w)]))) (h : R (said w) M) :
    tRet3 (tTup3 (tCons3 (tC3 (.str "no")) (tCons3 (tXf3 a d "what" (tVar3 2)) (tCons3 (tCB3 (rIsE3 K A.C_BadChange a d) (tCons3 (tVar3 2) (tCons3 (tC3 (.ref A.C_BridgeError)) tNil3))) (tCons3 (tCB3 (rIsE3 K A.C_BadChange a d) (tCons3 (tVar3 2) (tCons3 (tC3 (.ty "ValueError")) tNil3))) tNil3))))) ⟨N, R, B, C, X⟩ σ M := by
  have k1 : PySem.W.kitOne K (.ref A.C_BadChange) (.ref A.C_BridgeError) = some true := kit_any T.ok_BridgeError T.sb_BadChange_BridgeError fun _ => rfl
  have k2 : PySem.W.kitOne K (.ref A.C_BadChange) (.type "ValueError") = some true := by
    unfold PySem.W.kitOne
    rw [if_neg (by rw [show (Value.ref A.C_BadChange == Value.type "ValueError") = false from rfl]; decide)]
    show (if PySem.W.kitMeta "ValueError" = true then PySem.W.subIn K (.ref A.C_BadChange) (.type "ValueError") else none) = some true
    rw [if_pos (by rfl)]
    exact T.sb_BadChange_ValueError
  repeat walk_at "rd"
  refine ⟨_, hσ, [("what", .str w)], .str w, rfl, by kernel_rfl, ?_⟩
  repeat walk_at "rd"
  refine ⟨_, hσ, ?_⟩
  repeat walk_at "rd"
  refine ⟨_, _, _, true, rfl, .inr ⟨_, rfl, rfl⟩, k1, ?_⟩
  repeat walk_at "rd"
  refine ⟨_, hσ, ?_⟩
  repeat walk_at "rd"
  refine ⟨_, _, _, true, rfl, .inl ⟨_, rfl, rfl⟩, k2, ?_⟩
  repeat walk_at "rd"
  exact h
theorem pure_law_made (T : Txt K mg A) : ∀ ds M Q E, sp_law_made K A ds M Q E → t_law_made K A (endsOf Q E) (start3 N_law_made ds) M := by
  rintro ds M Q E ⟨k, as, rfl, hl, ho, h⟩
  unfold t_law_made
  refine rd_try ?_
  have ex : PySem.W.exmOne K (.ref A.C_BadChange) (.ref A.C_BadChange) = some true := exm_self T.xf_BadChange.exC T.ok_BadChange T.sb_BadChange_BadChange
  -- what making gives
  have fin : ∀ (Qr : VK3) (X : XK3), (∀ r, madeOf A k (as.map (D.fz M)) = r → Q r M → Qr r M) → (∀ w, chk k (as.map (D.fz M)) = some w → X (.ref A.C_BadChange) [("what", .str w)] M) → spMake (cls A k) (spIni A k) as M Qr X := fun Qr X hr hx => by
    refine use_make hl ho ?_
    cases hc : chk k (as.map (D.fz M)) with
    | some w => exact hx w hc
    | none =>
      refine hr _ ?_ ?_
      · unfold madeOf
        rw [hc]
      · have e : madeOf A k (as.map (D.fz M)) = .ins (cls A k) (flds k (as.map (D.fz M))) := by unfold madeOf; rw [hc]
        rw [e] at h
        exact h
  have hx : ∀ w, chk k (as.map (D.fz M)) = some w → Q (said w) M := fun w hc => by
    have e : madeOf A k (as.map (D.fz M)) = said w := by unfold madeOf; rw [hc]
    rw [e] at h
    exact h
  repeat walk_at "rd"
  refine rd_eqK (k' := .ba) ?_
  repeat walk_at "rd"
  refine rd_ite (fun e1 => ?_) fun e1 => ?_
  · have ek := same_eq e1
    subst ek
    match as, hl with
    | [a1, a2, a3], _ =>
      repeat walk_at "rd"
      refine fin _ _ (fun r er q => ?_) fun w hw => ?_
      · repeat walk_at "rd"
        exact q
      · repeat walk_at "rd"
        refine ⟨true, ex, fun _ a d => rd_when rfl ?_, fun z => nomatch z⟩
        refine made_clause T rfl ?_
        repeat walk_at "rd"
        exact hx w hw
  repeat walk_at "rd"
  refine rd_eqK (k' := .ro) ?_
  repeat walk_at "rd"
  refine rd_ite (fun e2 => ?_) fun e2 => ?_
  · have ek := same_eq e2
    subst ek
    match as, hl with
    | [a1, a2, a3, a4, a5], _ =>
      repeat walk_at "rd"
      refine fin _ _ (fun r er q => ?_) fun w hw => ?_
      · repeat walk_at "rd"
        exact q
      · repeat walk_at "rd"
        refine ⟨true, ex, fun _ a d => rd_when rfl ?_, fun z => nomatch z⟩
        refine made_clause T rfl ?_
        repeat walk_at "rd"
        exact hx w hw
  repeat walk_at "rd"
  refine rd_eqK (k' := .sh) ?_
  repeat walk_at "rd"
  refine rd_ite (fun e3 => ?_) fun e3 => ?_
  · have ek := same_eq e3
    subst ek
    match as, hl with
    | [a1], _ =>
      repeat walk_at "rd"
      refine fin _ _ (fun r er q => ?_) fun w hw => ?_
      · repeat walk_at "rd"
        exact q
      · repeat walk_at "rd"
        refine ⟨true, ex, fun _ a d => rd_when rfl ?_, fun z => nomatch z⟩
        refine made_clause T rfl ?_
        repeat walk_at "rd"
        exact hx w hw
  have ek : k = .sp := by cases k <;> first | rfl | exact absurd e1 (by decide) | exact absurd e2 (by decide) | exact absurd e3 (by decide)
  subst ek
  match as, hl with
  | [a1], _ =>
    repeat walk_at "rd"
    refine fin _ _ (fun r er q => ?_) fun w hw => ?_
    · repeat walk_at "rd"
      exact q
    · repeat walk_at "rd"
      refine ⟨true, ex, fun _ a d => rd_when rfl ?_, fun z => nomatch z⟩
      refine made_clause T rfl ?_
      repeat walk_at "rd"
      exact hx w hw
end
end K68

namespace K68
open PySem PySem.Spec PyProof.Rows L2 L3
local macro_rules | `(tactic| walk_at "rd") => `(tactic| first
  | (with_reducible refine rd_seq ?_) | (with_reducible refine rd_ifS ?_) | (with_reducible refine rd_asg ?_) | (with_reducible refine rd_ret ?_) | (with_reducible refine rd_drop ?_) | (with_reducible refine rd_next ?_)
  | (with_reducible refine rd_name ?_) | (with_reducible refine rd_cons ?_) | (with_reducible refine rd_nil ?_) | (with_reducible refine rd_c ?_) | (with_reducible refine rd_op ?_) | (with_reducible refine rd_un ?_)
  | (with_reducible refine rd_test ?_) | (with_reducible refine rd_chain ?_) | (with_reducible refine rd_and ?_) | (with_reducible refine rd_or ?_) | (with_reducible refine rd_not ?_) | (with_reducible refine rd_andV ?_) | (with_reducible refine rd_orV ?_) | (with_reducible refine rd_notV ?_)
  | (with_reducible refine rd_if ?_) | (with_reducible refine rd_exbl ?_) | (with_reducible refine rd_exint ?_) | (with_reducible refine rd_tup ?_) | (with_reducible refine rd_lst ?_) | (with_reducible refine rd_lstM ?_) | (with_reducible refine rd_cb ?_) | (with_reducible refine rd_call ?_) | (with_reducible refine rd_make ?_)
  | (with_reducible refine rd_sl ?_) | (with_reducible refine rd_part ?_) | (with_reducible refine rd_nopart ?_) | (with_reducible refine rd_par ?_) | (with_reducible refine rd_expar ?_) | (with_reducible refine rd_tru ?_)
  | (with_reducible refine rd_for ?_) | (with_reducible refine rd_raise ?_) | (with_reducible refine rd_fldS ?_) | (with_reducible refine rd_retN ?_) | (with_reducible refine rd_break ?_) | (with_reducible refine rd_cont ?_)
  | (with_reducible refine rd_endrt ?_) | (with_reducible refine rd_endnx ?_) | (with_reducible refine rd_endex ?_) | (with_reducible refine rd_nx ?_) | (with_reducible refine rd_rt ?_) | (with_reducible refine rd_bk ?_) | (with_reducible refine rd_ct ?_) | (with_reducible refine rd_ex ?_)
  | (with_reducible refine rd_I3 ?_) | (with_reducible refine rd_neg ?_) | (with_reducible refine rd_addI ?_) | (with_reducible refine rd_lt ?_) | (with_reducible refine rd_le ?_) | (with_reducible refine rd_gt ?_) | (with_reducible refine rd_ge ?_)
  | (with_reducible refine rd_isN ?_) | (with_reducible refine rd_notN ?_) | (with_reducible refine rd_eqI ?_) | (with_reducible refine rd_neI ?_) | (with_reducible refine rd_int1 ?_) | (with_reducible refine rd_intOf ?_)
  | (with_reducible refine rd_p6 ?_) | (with_reducible refine rd_p18 ?_) | (with_reducible refine rd_p20 ?_) | (with_reducible refine rd_p30 ?_)
  | ((with_reducible refine rd_IC3 ?cc ?_); (case cc => first | decide | exact Or.inr (Or.inr ⟨by decide, by decide⟩) | exact Or.inr (Or.inl ⟨by decide, by decide⟩) | exact ⟨by decide, by decide⟩))
  | ((with_reducible show tVar3 _ _ _ _ _); refine rd_var rfl ?_)
  | ((with_reducible show opIx3 _ (D.int _) _ _); refine rd_ix (by first | exact rfl | assumption) (by first | exact rfl | assumption) ?_)
  | ((with_reducible show aLen3 [_] _ _); refine rd_len (by first | exact rfl | assumption) ?_)
  | (with_reducible refine rd_le1 ?_) 
  | (with_reducible refine rd_iteTT ?_) | (with_reducible refine rd_iteFF ?_))
section
variable {P : Program} {w : World} {K : PySem.W.Frag} {mg : Str → Option Value} {base : Heap} {A : Adr}
theorem pure_law_named (T : Txt K mg A) : ∀ ds M Q E, sp_law_named K A ds M Q E → t_law_named K A (endsOf Q E) (start3 N_law_named ds) M := by
  rintro ds M Q E ⟨k, as, rfl, hl, ho, h⟩
  unfold t_law_named
  refine rd_try ?_
  have ex : PySem.W.exmOne K (.ref A.C_BadChange) (.ref A.C_BadChange) = some true := exm_self T.xf_BadChange.exC T.ok_BadChange T.sb_BadChange_BadChange
  -- what making gives
  have fin : ∀ (Qr : VK3) (X : XK3), (∀ r, madeOf A k (as.map (D.fz M)) = r → Q r M → Qr r M) → (∀ w, chk k (as.map (D.fz M)) = some w → X (.ref A.C_BadChange) [("what", .str w)] M) → spMake (cls A k) (spIni A k) as M Qr X := fun Qr X hr hx => by
    refine use_make hl ho ?_
    cases hc : chk k (as.map (D.fz M)) with
    | some w => exact hx w hc
    | none =>
      refine hr _ ?_ ?_
      · unfold madeOf
        rw [hc]
      · have e : madeOf A k (as.map (D.fz M)) = .ins (cls A k) (flds k (as.map (D.fz M))) := by unfold madeOf; rw [hc]
        rw [e] at h
        exact h
  have hx : ∀ w, chk k (as.map (D.fz M)) = some w → Q (said w) M := fun w hc => by
    have e : madeOf A k (as.map (D.fz M)) = said w := by unfold madeOf; rw [hc]
    rw [e] at h
    exact h
  repeat walk_at "rd"
  refine rd_eqK (k' := .ba) ?_
  repeat walk_at "rd"
  refine rd_ite (fun e1 => ?_) fun e1 => ?_
  · have ek := same_eq e1
    subst ek
    match as, hl with
    | [a1, a2, a3], _ =>
      repeat walk_at "rd"
      refine ⟨rfl, ?_⟩
      refine fin _ _ (fun r er q => ?_) fun w hw => ?_
      · repeat walk_at "rd"
        exact q
      · repeat walk_at "rd"
        refine ⟨true, ex, fun _ a d => rd_when rfl ?_, fun z => nomatch z⟩
        refine made_clause T rfl ?_
        repeat walk_at "rd"
        exact hx w hw
  repeat walk_at "rd"
  refine rd_eqK (k' := .ro) ?_
  repeat walk_at "rd"
  refine rd_ite (fun e2 => ?_) fun e2 => ?_
  · have ek := same_eq e2
    subst ek
    match as, hl with
    | [a1, a2, a3, a4, a5], _ =>
      repeat walk_at "rd"
      refine ⟨rfl, ?_⟩
      refine fin _ _ (fun r er q => ?_) fun w hw => ?_
      · repeat walk_at "rd"
        exact q
      · repeat walk_at "rd"
        refine ⟨true, ex, fun _ a d => rd_when rfl ?_, fun z => nomatch z⟩
        refine made_clause T rfl ?_
        repeat walk_at "rd"
        exact hx w hw
  repeat walk_at "rd"
  refine rd_eqK (k' := .sh) ?_
  repeat walk_at "rd"
  refine rd_ite (fun e3 => ?_) fun e3 => ?_
  · have ek := same_eq e3
    subst ek
    match as, hl with
    | [a1], _ =>
      repeat walk_at "rd"
      refine ⟨rfl, ?_⟩
      refine fin _ _ (fun r er q => ?_) fun w hw => ?_
      · repeat walk_at "rd"
        exact q
      · repeat walk_at "rd"
        refine ⟨true, ex, fun _ a d => rd_when rfl ?_, fun z => nomatch z⟩
        refine made_clause T rfl ?_
        repeat walk_at "rd"
        exact hx w hw
  have ek : k = .sp := by cases k <;> first | rfl | exact absurd e1 (by decide) | exact absurd e2 (by decide) | exact absurd e3 (by decide)
  subst ek
  match as, hl with
  | [a1], _ =>
    repeat walk_at "rd"
    refine ⟨rfl, ?_⟩
    refine fin _ _ (fun r er q => ?_) fun w hw => ?_
    · repeat walk_at "rd"
      exact q
    · repeat walk_at "rd"
      refine ⟨true, ex, fun _ a d => rd_when rfl ?_, fun z => nomatch z⟩
      refine made_clause T rfl ?_
      repeat walk_at "rd"
      exact hx w hw
theorem len_law_made : ∀ ds M Q E, sp_law_made K A ds M Q E → ds.length = (["kind", "things"] : List Str).length := fun ds M Q E ⟨k, as, e, _⟩ => by
  subst e
  rfl
theorem len_law_named : ∀ ds M Q E, sp_law_named K A ds M Q E → ds.length = (["kind", "things"] : List Str).length := fun ds M Q E ⟨k, as, e, _⟩ => by
  subst e
  rfl
theorem pure_law_fields (T : Txt K mg A) : ∀ ds M Q E, sp_law_fields K A ds M Q E → t_law_fields K A (endsOf Q E) (start3 N_law_fields ds) M := by
  rintro ds M Q E ⟨k, vs, rfl, hl, h⟩
  unfold t_law_fields
  repeat walk_at "rd"
  refine rd_eqK (k' := .ba) ?_
  repeat walk_at "rd"
  refine rd_ite (fun e1 => ?_) fun e1 => ?_
  · have ek := same_eq e1
    subst ek
    match vs, hl with
    | [a, b, c], _ =>
      repeat walk_at "rd"
      refine rd_fld (z := a) T.cd_Ballast.cl T.na_Ballast_stone (by kernel_rfl) ?_
      repeat walk_at "rd"
      refine rd_fld (z := b) T.cd_Ballast.cl T.na_Ballast_x (by kernel_rfl) ?_
      repeat walk_at "rd"
      refine rd_fld (z := c) T.cd_Ballast.cl T.na_Ballast_weight (by kernel_rfl) ?_
      repeat walk_at "rd"
      exact h
  repeat walk_at "rd"
  refine rd_eqK (k' := .ro) ?_
  repeat walk_at "rd"
  refine rd_ite (fun e2 => ?_) fun e2 => ?_
  · have ek := same_eq e2
    subst ek
    match vs, hl with
    | [a, b, c, d, f], _ =>
      repeat walk_at "rd"
      refine rd_fld (z := a) T.cd_Rod.cl T.na_Rod_one (by kernel_rfl) ?_
      repeat walk_at "rd"
      refine rd_fld (z := b) T.cd_Rod.cl T.na_Rod_other (by kernel_rfl) ?_
      repeat walk_at "rd"
      refine rd_fld (z := c) T.cd_Rod.cl T.na_Rod_start (by kernel_rfl) ?_
      repeat walk_at "rd"
      refine rd_fld (z := d) T.cd_Rod.cl T.na_Rod_end (by kernel_rfl) ?_
      repeat walk_at "rd"
      refine rd_fld (z := f) T.cd_Rod.cl T.na_Rod_pull (by kernel_rfl) ?_
      repeat walk_at "rd"
      exact h
  repeat walk_at "rd"
  refine rd_eqK (k' := .sh) ?_
  repeat walk_at "rd"
  refine rd_ite (fun e3 => ?_) fun e3 => ?_
  · have ek := same_eq e3
    subst ek
    match vs, hl with
    | [a], _ =>
      repeat walk_at "rd"
      refine rd_fld (z := a) T.cd_Shut.cl T.na_Shut_name (by kernel_rfl) ?_
      repeat walk_at "rd"
      exact h
  have ek : k = .sp := by cases k <;> first | rfl | exact absurd e1 (by decide) | exact absurd e2 (by decide) | exact absurd e3 (by decide)
  subst ek
  match vs, hl with
  | [a], _ =>
    repeat walk_at "rd"
    refine rd_fld (z := a) T.cd_Spaced.cl T.na_Spaced_extra (by kernel_rfl) ?_
    repeat walk_at "rd"
    exact h
theorem len_law_fields : ∀ ds M Q E, sp_law_fields K A ds M Q E → ds.length = (["kind", "made"] : List Str).length := fun ds M Q E ⟨k, as, e, _⟩ => by
  subst e
  rfl
/-- a right attribute: a number, a text, a pair of numbers -/
def right (y : D) : Prop := (∃ i, y = .int i) ∨ (∃ z, y = .str z ∧ okA y = true) ∨ ∃ i j, y = .tup [.int i, .int j]
theorem vals_right {k : Kind} {as : List D} (hl : as.length = k.n) (ho : as.all okT = true) (hc : chk k as = none) : ∀ y ∈ vals as, right y := by
  have wi : ∀ {x : D} {lo hi : Int}, (!whole x lo hi) = false → right (tupOf x) := fun {x lo hi} h => by
    obtain ⟨i, e, _⟩ := whole_int (by simpa using h)
    rw [e]
    exact .inl ⟨i, rfl⟩
  have pi : ∀ {x : D}, (!point x) = false → right (tupOf x) := fun {x} h => by
    obtain ⟨i, j, _, e⟩ := point_is (by simpa using h)
    rw [e]
    exact .inr (.inr ⟨i, j, rfl⟩)
  cases k with
  | ba =>
    match as, hl with
    | [s, x, v], _ =>
      simp only [chk, chkBa] at hc
      split at hc; · cases hc
      split at hc; · cases hc
      split at hc; · cases hc
      rename_i h1 h2 h3
      simp only [Bool.or_eq_true, not_or, Bool.not_eq_true] at h1 h2 h3
      intro y hy
      rcases mem3 hy with rfl | rfl | rfl
      · exact wi h1
      · exact wi h2
      · exact wi h3.1
  | ro =>
    match as, hl with
    | [a, b, s, f, v], _ =>
      simp only [chk, chkRo] at hc
      split at hc; · cases hc
      split at hc; · cases hc
      split at hc; · cases hc
      split at hc; · cases hc
      split at hc; · cases hc
      rename_i h1 h2 h3 h4 h5
      simp only [Bool.or_eq_true, not_or, Bool.not_eq_true] at h1 h2 h3 h4 h5
      intro y hy
      simp only [vals, List.map_cons, List.map_nil, List.mem_cons, List.not_mem_nil, or_false] at hy
      rcases hy with rfl | rfl | rfl | rfl | rfl
      · exact wi h1
      · exact wi h2.1
      · exact pi h3
      · exact pi h4.1
      · exact wi h5
  | sh =>
    match as, hl with
    | [x], _ =>
      simp only [chk, chkSh] at hc
      split at hc
      · rename_i h1
        intro y hy
        simp only [vals, List.map_cons, List.map_nil, List.mem_cons, List.not_mem_nil, or_false] at hy
        subst hy
        obtain ⟨z, rfl⟩ : ∃ z, x = .str z := by cases x <;> first | exact ⟨_, rfl⟩ | cases h1
        exact .inr (.inl ⟨z, rfl, all1 ho⟩)
      · cases hc
  | sp =>
    match as, hl with
    | [x], _ =>
      simp only [chk, chkSp] at hc
      split at hc; · cases hc
      rename_i h1
      simp only [Bool.not_eq_true] at h1
      intro y hy
      simp only [vals, List.map_cons, List.map_nil, List.mem_cons, List.not_mem_nil, or_false] at hy
      subst hy
      exact wi h1
theorem right_okT {y : D} (h : right y) : okT y = true := by
  rcases h with ⟨i, rfl⟩ | ⟨z, rfl, h⟩ | ⟨i, j, rfl⟩
  · rfl
  · exact tA h
  · exact tT (a2 rfl rfl)
theorem use_numT {a : D} {M : Mem} {Q : VK3} {E : XK3} (h : okT a = true) (q : Q (.bl (isNum a)) M) : spF fNum ([a] ++ []) M Q E := use_num (by rw [fzT h]; exact h) (by rw [fzT h]; exact q)
theorem pure_law_kinds_right (T : Txt K mg A) : ∀ ds M Q E, sp_law_kinds_right K A ds M Q E → t_law_kinds_right K A (endsOf Q E) (start3 N_law_kinds_right ds) M := by
  rintro ds M Q E ⟨k, as, rfl, hl, ho, hc, h⟩
  have hr := vals_right hl ho hc
  generalize vals as = ys at hr h ⊢
  unfold t_law_kinds_right
  repeat walk_at "rd"
  refine rd_iSeq ?_
  repeat walk_at "rd"
  refine ⟨ys, rfl, ?_⟩
  refine rd_forP (fun i σ M' => M' = M ∧ ∃ u, σ = [some (.lst ys), u]) ⟨rfl, _, rfl⟩ (fun _ _ _ _ => trivial) ?_ ?_
  · rintro i y σ M' hy ⟨rfl, u, rfl⟩
    have hyr := hr y (List.mem_of_getElem? hy)
    have hok := right_okT hyr
    have hf : okT (y.fz M') = true := by rw [fzT hok]; exact hok
    repeat walk_at "rd"
    refine isi_tup hf ?_
    repeat walk_at "rd"
    rw [fzT hok]
    rcases hyr with ⟨n, rfl⟩ | ⟨z, rfl, hz⟩ | ⟨n, m, rfl⟩
    · refine rd_iteF rfl ?_
      repeat walk_at "rd"
      refine use_numT rfl ?_
      repeat walk_at "rd"
      refine rd_iteF rfl ?_
      refine rd_iteF rfl ?_
      repeat walk_at "rd"
      exact ⟨rfl, _, rfl⟩
    · refine rd_iteF rfl ?_
      repeat walk_at "rd"
      refine use_numT hok ?_
      repeat walk_at "rd"
      refine rd_iteT rfl ?_
      repeat walk_at "rd"
      refine isi_str hf ?_
      repeat walk_at "rd"
      refine rd_iteF rfl ?_
      repeat walk_at "rd"
      exact ⟨rfl, _, rfl⟩
    · refine rd_iteT rfl ?_
      repeat walk_at "rd"
      refine use_numT rfl ?_
      repeat walk_at "rd"
      refine rd_iteF rfl ?_
      repeat walk_at "rd"
      refine use_numT rfl ?_
      repeat walk_at "rd"
      refine rd_iteF rfl ?_
      repeat walk_at "rd"
      exact ⟨rfl, _, rfl⟩
  · rintro σ M' ⟨rfl, u, rfl⟩
    repeat walk_at "rd"
    exact h
theorem len_law_kinds_right : ∀ ds M Q E, sp_law_kinds_right K A ds M Q E → ds.length = (["fields"] : List Str).length := fun ds M Q E ⟨k, as, e, _⟩ => by
  subst e
  rfl
end
end K68

namespace K68
open PySem PySem.Spec PyProof.Rows L2 L3
local macro_rules | `(tactic| walk_at "rd") => `(tactic| first
  | (with_reducible refine rd_seq ?_) | (with_reducible refine rd_ifS ?_) | (with_reducible refine rd_asg ?_) | (with_reducible refine rd_ret ?_) | (with_reducible refine rd_drop ?_) | (with_reducible refine rd_next ?_)
  | (with_reducible refine rd_name ?_) | (with_reducible refine rd_cons ?_) | (with_reducible refine rd_nil ?_) | (with_reducible refine rd_c ?_) | (with_reducible refine rd_op ?_) | (with_reducible refine rd_un ?_)
  | (with_reducible refine rd_test ?_) | (with_reducible refine rd_chain ?_) | (with_reducible refine rd_and ?_) | (with_reducible refine rd_or ?_) | (with_reducible refine rd_not ?_) | (with_reducible refine rd_andV ?_) | (with_reducible refine rd_orV ?_) | (with_reducible refine rd_notV ?_)
  | (with_reducible refine rd_if ?_) | (with_reducible refine rd_exbl ?_) | (with_reducible refine rd_exint ?_) | (with_reducible refine rd_tup ?_) | (with_reducible refine rd_lst ?_) | (with_reducible refine rd_lstM ?_) | (with_reducible refine rd_cb ?_) | (with_reducible refine rd_call ?_) | (with_reducible refine rd_make ?_)
  | (with_reducible refine rd_sl ?_) | (with_reducible refine rd_part ?_) | (with_reducible refine rd_nopart ?_) | (with_reducible refine rd_par ?_) | (with_reducible refine rd_expar ?_) | (with_reducible refine rd_tru ?_)
  | (with_reducible refine rd_for ?_) | (with_reducible refine rd_raise ?_) | (with_reducible refine rd_fldS ?_) | (with_reducible refine rd_retN ?_) | (with_reducible refine rd_break ?_) | (with_reducible refine rd_cont ?_)
  | (with_reducible refine rd_endrt ?_) | (with_reducible refine rd_endnx ?_) | (with_reducible refine rd_endex ?_) | (with_reducible refine rd_nx ?_) | (with_reducible refine rd_rt ?_) | (with_reducible refine rd_bk ?_) | (with_reducible refine rd_ct ?_) | (with_reducible refine rd_ex ?_)
  | (with_reducible refine rd_I3 ?_) | (with_reducible refine rd_neg ?_) | (with_reducible refine rd_addI ?_) | (with_reducible refine rd_lt ?_) | (with_reducible refine rd_le ?_) | (with_reducible refine rd_gt ?_) | (with_reducible refine rd_ge ?_)
  | (with_reducible refine rd_isN ?_) | (with_reducible refine rd_notN ?_) | (with_reducible refine rd_eqI ?_) | (with_reducible refine rd_neI ?_) | (with_reducible refine rd_int1 ?_) | (with_reducible refine rd_intOf ?_)
  | (with_reducible refine rd_p6 ?_) | (with_reducible refine rd_p18 ?_) | (with_reducible refine rd_p20 ?_) | (with_reducible refine rd_p30 ?_)
  | ((with_reducible refine rd_IC3 ?cc ?_); (case cc => first | decide | exact Or.inr (Or.inr ⟨by decide, by decide⟩) | exact Or.inr (Or.inl ⟨by decide, by decide⟩) | exact ⟨by decide, by decide⟩))
  | ((with_reducible show tVar3 _ _ _ _ _); refine rd_var rfl ?_)
  | ((with_reducible show opIx3 _ (D.int _) _ _); refine rd_ix (by first | exact rfl | assumption) (by first | exact rfl | assumption) ?_)
  | ((with_reducible show aLen3 [_] _ _); refine rd_len (by first | exact rfl | assumption) ?_)
  | (with_reducible refine rd_le1 ?_) 
  | (with_reducible refine rd_iteTT ?_) | (with_reducible refine rd_iteFF ?_))
theorem put_comm {M : Mem} {a b : Addr} {o u : MO} (h : a ≠ b) : (M.put a o).put b u = (M.put b u).put a o := by
  funext c
  unfold Mem.put
  by_cases e1 : c = b
  · subst e1
    rw [if_pos rfl, if_neg (Ne.symm h), if_pos rfl]
  · rw [if_neg e1]
    by_cases e2 : c = a
    · rw [if_pos e2, if_pos e2]
    · rw [if_neg e2, if_neg e2, if_neg e1]
theorem pq_put {M : Mem} {p q : Addr} {X L L' : MO} (h : p ≠ q) : ((M.put p L).put q X).put p L' = (M.put p L').put q X := by rw [put_comm (Ne.symm h), put_put]
theorem Bag.keep {M : Mem} {p q : Addr} {o : MO} (h : p ≠ q) (b : Bag M p) : Bag (M.put q o) p := by
  obtain ⟨l, e, h3⟩ := b
  exact ⟨l, by rw [put_ne h]; exact e, h3⟩
theorem items_keep {M : Mem} {q L : Addr} {xs : List D} {o : MO} (hL : M L = none) (h : M q = some (.lst xs)) : (D.ref q).items (M.put L o) = some xs := itemsR (by rw [put_ne (fun e => by rw [e, hL] at h; cases h)]; exact h)
theorem eqD_str {x y : Str} : eqD (.str x) (.str y) = decide (x = y) := by
  show PyData.eqv (.str x) (.str y) = _
  rw [PyData.eqv]
  rfl
theorem str_ne {x y : Str} (h : x.length ≠ y.length) : decide (x = y) = false := decide_eq_false fun e => h (by rw [e])
theorem slice1 {z : Str} (h : 1 ≤ z.length) : (Txt.slice z (some 1) none).length + 1 = z.length := by
  rw [← C8.cutS_slice]
  show (((z.cps.toList.drop (HT.sIx z.length 0 (some 1))).take (HT.sIx z.length z.length none - HT.sIx z.length 0 (some 1))).toArray).size + 1 = z.cps.size
  have e1 : HT.sIx z.length 0 (some 1) = 1 := by
    unfold HT.sIx
    simp
    omega
  have e2 : HT.sIx z.length z.length none = z.length := rfl
  rw [e1, e2, List.size_toArray, List.length_take, List.length_drop, Array.length_toList]
  have h' : 1 ≤ z.cps.size := h
  show min (z.cps.size - 1) (z.cps.size - 1) + 1 = z.cps.size
  omega
theorem rd_tfrz2 {M' : Mem} {q : Addr} {ys : List D} {Q : VK3} {E : XK3} {u0 u1 u3 u4 u5 u6 u7 : Option D} (hq : M' q = none) (h : Q (.lst ys) M') :
    tFrz3 2 (tRet3 (tVar3 2)) (endsOf Q E) [u0, u1, some (.ref q), u3, u4, u5, u6, u7] (M'.put q (.lst ys)) := by
  refine rd_frz rfl put_same ?_
  rw [del_put hq]
  refine rd_ret (rd_var (x := .lst ys) ?_ (rd_endrt h))
  show some (frz1 q (.lst ys) (some (.ref q))) = some (some (.lst ys))
  simp only [frz1, if_true]
def notIn2 (a b : Int) (y : D) : Bool := match y with
  | .int v => xor true (List.any [PyData.int a, PyData.int b] fun z => PyData.eqv z (.int v))
  | _ => false
theorem notIn2_int {a b v : Int} : notIn2 a b (.int v) = !(decide (a = v) || decide (b = v)) := by
  show xor true (List.any [PyData.int a, PyData.int b] fun z => PyData.eqv z (.int v)) = _
  rw [Bool.true_xor, List.any_cons, List.any_cons, List.any_nil, Bool.or_false, PyData.eqv, PyData.eqv]
  rfl
theorem six0 : ∀ a b : Fin 8, a ≠ b → ((List.range 8).filter fun i => !(decide (a.val = i) || decide (b.val = i))).length = 6 := by decide
theorem six {a b : Int} (a0 : 0 ≤ a) (a1 : a ≤ 7) (b0 : 0 ≤ b) (b1 : b ≤ 7) (h : a ≠ b) : ((rngD 0 8).filter (notIn2 a b)).length = 6 := by
  have e : (rngD 0 8).filter (notIn2 a b) = ((List.range 8).filter fun i => !(decide (a.toNat = i) || decide (b.toNat = i))).map fun (i : Nat) => .int (0 + (i : Int)) := by
    unfold rngD
    rw [List.filter_map]
    congr 1
    refine List.filter_congr fun i _ => ?_
    show notIn2 a b (.int (0 + (i : Int))) = _
    rw [notIn2_int]
    congr 1
    congr 1 <;> exact decide_eq_decide.mpr (by omega)
  rw [e, List.length_map]
  have := six0 ⟨a.toNat, by omega⟩ ⟨b.toNat, by omega⟩ (fun q => h (by have := congrArg Fin.val q; simp at this; omega))
  exact this
/-- which of the three points is free -/
def notInP (s1 s2 f1 f2 : Int) (y : D) : Bool := match y with
  | .tup [.int a, .int b] => xor true (List.any [PyData.tuple [.int s1, .int s2], PyData.tuple [.int f1, .int f2]] fun z => PyData.eqv z (.tuple [.int a, .int b]))
  | _ => false
theorem notInP_eq {s1 s2 f1 f2 a b : Int} : notInP s1 s2 f1 f2 (.tup [.int a, .int b]) = !((decide (s1 = a) && decide (s2 = b)) || (decide (f1 = a) && decide (f2 = b))) := by
  show xor true (List.any [PyData.tuple [.int s1, .int s2], PyData.tuple [.int f1, .int f2]] fun z => PyData.eqv z (.tuple [.int a, .int b])) = _
  rw [Bool.true_xor, List.any_cons, List.any_cons, List.any_nil, Bool.or_false, eqv_pair, eqv_pair]
def pts3 : List D := [.tup [.int 0, .int 0], .tup [.int 1, .int 0], .tup [.int 0, .int 1]]
theorem free3 {s1 s2 f1 f2 : Int} : ∃ a b r, pts3.filter (notInP s1 s2 f1 f2) = .tup [.int a, .int b] :: r ∧ notInP s1 s2 f1 f2 (.tup [.int a, .int b]) = true := by
  unfold pts3
  by_cases h1 : notInP s1 s2 f1 f2 (.tup [.int 0, .int 0]) = true
  · exact ⟨0, 0, _, List.filter_cons_of_pos h1, h1⟩
  by_cases h2 : notInP s1 s2 f1 f2 (.tup [.int 1, .int 0]) = true
  · exact ⟨1, 0, _, by rw [List.filter_cons_of_neg h1, List.filter_cons_of_pos h2], h2⟩
  have h3 : notInP s1 s2 f1 f2 (.tup [.int 0, .int 1]) = true := by
    rw [notInP_eq] at h1 h2 ⊢
    simp only [Bool.not_eq_true', Bool.not_eq_true, Bool.not_eq_false', Bool.or_eq_true, Bool.and_eq_true, decide_eq_true_eq, Bool.or_eq_false_iff, Bool.and_eq_false_imp, decide_eq_false_iff_not] at h1 h2 ⊢
    omega
  exact ⟨0, 1, _, by rw [List.filter_cons_of_neg h1, List.filter_cons_of_neg h2, List.filter_cons_of_pos h3], h3⟩
/-- the values of a right row of things -/
theorem right_ba {s x v : D} (h : chk .ba [s, x, v] = none) : ∃ a b c : Int, s = .int a ∧ x = .int b ∧ v = .int c ∧ 0 ≤ a ∧ a ≤ 7 ∧ c ≠ 0 := by
  simp only [chk, chkBa] at h
  split at h; · cases h
  split at h; · cases h
  split at h; · cases h
  rename_i h1 h2 h3
  simp only [Bool.or_eq_true, not_or, Bool.not_eq_true] at h1 h2 h3
  obtain ⟨a, ea, a0, a1⟩ := whole_int (by simpa using h1)
  obtain ⟨b, eb, _⟩ := whole_int (by simpa using h2)
  have h31 := h3.1
  obtain ⟨c, ec, _⟩ := whole_int (by simpa using h31)
  refine ⟨a, b, c, ea, eb, ec, a0, a1, ?_⟩
  have h32 := h3.2
  rw [ec, eqD_int] at h32
  exact of_decide_eq_false h32
theorem right_ro {a b s f v : D} (h : chk .ro [a, b, s, f, v] = none) : ∃ i j n : Int, a = .int i ∧ b = .int j ∧ v = .int n ∧ 0 ≤ i ∧ i ≤ 7 ∧ 0 ≤ j ∧ j ≤ 7 ∧ i ≠ j ∧ point s = true ∧ point f = true ∧ 1 ≤ n := by
  simp only [chk, chkRo] at h
  split at h; · cases h
  split at h; · cases h
  split at h; · cases h
  split at h; · cases h
  split at h; · cases h
  rename_i h1 h2 h3 h4 h5
  simp only [Bool.or_eq_true, not_or, Bool.not_eq_true] at h1 h2 h3 h4 h5
  obtain ⟨i, ei, i0, i1⟩ := whole_int (by simpa using h1)
  have h21 := h2.1
  obtain ⟨j, ej, j0, j1⟩ := whole_int (by simpa using h21)
  obtain ⟨n, en, n0, _⟩ := whole_int (by simpa using h5)
  have h22 := h2.2
  have h41 := h4.1
  rw [ei, ej, eqD_int] at h22
  exact ⟨i, j, n, ei, ej, en, i0, i1, j0, j1, fun e => of_decide_eq_false h22 e.symm, by simpa using h3, by simpa using h41, n0⟩
theorem right_sh {x : D} (h : chk .sh [x] = none) (ho : okT x = true) : ∃ z, x = .str z ∧ 1 ≤ z.length ∧ z.length ≤ 12 ∧ lett z = true := by
  simp only [chk, chkSh] at h
  split at h
  · rename_i h1
    obtain ⟨z, rfl⟩ : ∃ z, x = .str z := by cases x <;> first | exact ⟨_, rfl⟩ | cases h1
    simp only [nameOk, Bool.and_eq_true, decide_eq_true_eq] at h1
    exact ⟨z, rfl, by omega, by omega, h1.2⟩
  · cases h
theorem right_sp {x : D} (h : chk .sp [x] = none) : ∃ i : Int, x = .int i ∧ 1 ≤ i ∧ i ≤ 100 := by
  simp only [chk, chkSp] at h
  split at h; · cases h
  rename_i h1
  obtain ⟨i, e, i0, i1⟩ := whole_int (by simpa using h1)
  exact ⟨i, e, i0, i1⟩
end K68

namespace K68
open PySem PySem.Spec PyProof.Rows L2 L3
local macro_rules | `(tactic| walk_at "rd") => `(tactic| first
  | (with_reducible refine rd_seq ?_) | (with_reducible refine rd_ifS ?_) | (with_reducible refine rd_asg ?_) | (with_reducible refine rd_ret ?_) | (with_reducible refine rd_drop ?_) | (with_reducible refine rd_next ?_)
  | (with_reducible refine rd_name ?_) | (with_reducible refine rd_cons ?_) | (with_reducible refine rd_nil ?_) | (with_reducible refine rd_c ?_) | (with_reducible refine rd_op ?_) | (with_reducible refine rd_un ?_)
  | (with_reducible refine rd_test ?_) | (with_reducible refine rd_chain ?_) | (with_reducible refine rd_and ?_) | (with_reducible refine rd_or ?_) | (with_reducible refine rd_not ?_) | (with_reducible refine rd_andV ?_) | (with_reducible refine rd_orV ?_) | (with_reducible refine rd_notV ?_)
  | (with_reducible refine rd_if ?_) | (with_reducible refine rd_exbl ?_) | (with_reducible refine rd_exint ?_) | (with_reducible refine rd_tup ?_) | (with_reducible refine rd_lst ?_) | (with_reducible refine rd_lstM ?_) | (with_reducible refine rd_cb ?_) | (with_reducible refine rd_call ?_) | (with_reducible refine rd_make ?_)
  | (with_reducible refine rd_sl ?_) | (with_reducible refine rd_part ?_) | (with_reducible refine rd_nopart ?_) | (with_reducible refine rd_par ?_) | (with_reducible refine rd_expar ?_) | (with_reducible refine rd_tru ?_)
  | (with_reducible refine rd_for ?_) | (with_reducible refine rd_raise ?_) | (with_reducible refine rd_fldS ?_) | (with_reducible refine rd_retN ?_) | (with_reducible refine rd_break ?_) | (with_reducible refine rd_cont ?_)
  | (with_reducible refine rd_endrt ?_) | (with_reducible refine rd_endnx ?_) | (with_reducible refine rd_endex ?_) | (with_reducible refine rd_nx ?_) | (with_reducible refine rd_rt ?_) | (with_reducible refine rd_bk ?_) | (with_reducible refine rd_ct ?_) | (with_reducible refine rd_ex ?_)
  | (with_reducible refine rd_I3 ?_) | (with_reducible refine rd_neg ?_) | (with_reducible refine rd_addI ?_) | (with_reducible refine rd_lt ?_) | (with_reducible refine rd_le ?_) | (with_reducible refine rd_gt ?_) | (with_reducible refine rd_ge ?_)
  | (with_reducible refine rd_isN ?_) | (with_reducible refine rd_notN ?_) | (with_reducible refine rd_eqI ?_) | (with_reducible refine rd_neI ?_) | (with_reducible refine rd_int1 ?_) | (with_reducible refine rd_intOf ?_)
  | (with_reducible refine rd_p6 ?_) | (with_reducible refine rd_p18 ?_) | (with_reducible refine rd_p20 ?_) | (with_reducible refine rd_p30 ?_)
  | ((with_reducible refine rd_IC3 ?cc ?_); (case cc => first | decide | exact Or.inr (Or.inr ⟨by decide, by decide⟩) | exact Or.inr (Or.inl ⟨by decide, by decide⟩) | exact ⟨by decide, by decide⟩))
  | ((with_reducible show tVar3 _ _ _ _ _); refine rd_var rfl ?_)
  | ((with_reducible show opIx3 _ (D.int _) _ _); refine rd_ix (by first | exact rfl | assumption) (by first | exact rfl | assumption) ?_)
  | ((with_reducible show aLen3 [_] _ _); refine rd_len (by first | exact rfl | assumption) ?_)
  | (with_reducible refine rd_le1 ?_) 
  | (with_reducible refine rd_iteTT ?_) | (with_reducible refine rd_iteFF ?_))
theorem all5m {a b c d e : D} (h1 : okT a = true) (h2 : okT b = true) (h3 : okT c = true) (h4 : okT d = true) (h5 : okT e = true) : [a, b, c, d, e].all okT = true := by simp [h1, h2, h3, h4, h5]
theorem len1 {xs : List D} (h : xs.length = 1) : ∃ x, xs = [x] := match xs, h with | [x], _ => ⟨x, rfl⟩
theorem len3 {xs : List D} (h : xs.length = 3) : ∃ x y z, xs = [x, y, z] := match xs, h with | [x, y, z], _ => ⟨x, y, z, rfl⟩
theorem len5 {xs : List D} (h : xs.length = 5) : ∃ x y z u v, xs = [x, y, z, u, v] := match xs, h with | [x, y, z, u, v], _ => ⟨x, y, z, u, v, rfl⟩
theorem eqD_ne {a b : Int} (h : a ≠ b) : eqD (.int a) (.int b) = false := by rw [eqD_int]; exact decide_eq_false h
theorem rd_inI {a b v : Int} {M : Mem} {Q : VK3} (q : Q (.bl (notIn2 a b (.int v))) M) : inD3 true (.int v) (.tup [.int a, .int b]) M Q :=
  .inl ⟨[.int a, .int b], .int v, [.int a, .int b], .inr rfl, rfl, rfl, rfl, rfl, rfl, q⟩
theorem rd_inP {s1 s2 f1 f2 a b : Int} {M : Mem} {Q : VK3} (q : Q (.bl (notInP s1 s2 f1 f2 (.tup [.int a, .int b]))) M) : inD3 true (.tup [.int a, .int b]) (.tup [.tup [.int s1, .int s2], .tup [.int f1, .int f2]]) M Q :=
  .inl ⟨[.tup [.int s1, .int s2], .tup [.int f1, .int f2]], .tuple [.int a, .int b], [.tuple [.int s1, .int s2], .tuple [.int f1, .int f2]], .inr rfl, rfl, rfl, rfl, rfl, rfl, q⟩
theorem tupOf_int {i : Int} : tupOf (.int i) = .int i := rfl
theorem pt_eq {y : D} {i j a b : Int} (h : tupOf y = .tup [.int i, .int j]) (hn : (decide (i = a) && decide (j = b)) = false) : eqD (tupOf y) (tupOf (.tup [.int a, .int b])) = false := by
  rw [h]
  show PyData.eqv (.tuple [.int i, .int j]) (.tuple [.int a, .int b]) = false
  rw [eqv_pair]
  exact hn
section
variable {P : Program} {w : World} {K : PySem.W.Frag} {mg : Str → Option Value} {base : Heap} {A : Adr}
theorem pure_law_other (T : Txt K mg A) : ∀ ds M Q E, sp_law_other K A ds M Q E → t_law_other K A (endsOf Q E) (start3 N_law_other ds) M := by
  rintro ds M Q E ⟨p, as, rfl, hb, ⟨k, xs, rfl, hl, ho, hc⟩, h⟩
  unfold t_law_other
  repeat walk_at "rd"
  refine rd_listM rfl fun q hq => ?_
  have hpq : p ≠ q := fun e => by
    obtain ⟨l, e1, _⟩ := hb
    rw [e, hq] at e1
    cases e1
  have hi : (D.ref q).items (M.put q (.lst xs)) = some xs := itemsR put_same
  have kn : 0 < k.n ∧ k.n ≤ 5 := by cases k <;> decide
  repeat walk_at "rd"
  refine use_take (hb.keep hpq) (by omega) (by show (xs.length : Int) ≤ 1000000000000000000000000000000; omega) fun at_ L a0 a1 hL => ?_
  rw [put_comm (Ne.symm hpq)]
  have hqL : (M.put p (.lst L)) q = none := by rw [put_ne (Ne.symm hpq)]; exact hq
  have hi2 : (D.ref q).items ((M.put p (.lst L)).put q (.lst xs)) = some xs := itemsR put_same
  iterate 2 walk_at "rd"
  refine rd_join (fun σ' M' => ∃ L' ys u3 u4 u5 u6 u7, M' = (M.put p (.lst L')).put q (.lst ys) ∧ Bag3 L' ∧ ys.length = k.n ∧ ys.all okT = true ∧ eqAll (vals xs) (vals ys) = false ∧ σ' = [some (.ref p), some (.str k.name), some (.ref q), u3, u4, u5, u6, u7]) ?_ fun N hN => ?_
  · rintro σ' M' ⟨L', ys, u3, u4, u5, u6, u7, rfl, hL', h1, h2, h3, rfl⟩
    refine rd_tfrz2 (by rw [put_ne (Ne.symm hpq)]; exact hq) ?_
    exact h _ _ ⟨k, xs, ys, rfl, rfl, h1, h2, h3⟩ hL'
  have fin : ∀ L' ys u3 u4 u5 u6 u7, Bag3 L' → ys.length = k.n → ys.all okT = true → eqAll (vals xs) (vals ys) = false → N [some (.ref p), some (.str k.name), some (.ref q), u3, u4, u5, u6, u7] ((M.put p (.lst L')).put q (.lst ys)) :=
    fun L' ys u3 u4 u5 u6 u7 h1 h2 h3 h4 => hN _ _ ⟨L', ys, u3, u4, u5, u6, u7, rfl, h1, h2, h3, h4, rfl⟩
  clear hN h
  repeat walk_at "rd"
  refine rd_eqK (k' := .sp) ?_
  repeat walk_at "rd"
  refine rd_ite (fun e1 => ?_) fun e1 => ?_
  · have ek := same_eq e1
    subst ek
    obtain ⟨x, rfl⟩ := len1 hl
    obtain ⟨i, rfl, i0, i1⟩ := right_sp hc
    repeat walk_at "rd"
    refine rd_gsub ?_
    repeat walk_at "rd"
    refine rd_exsub put_same rfl ?_
    repeat walk_at "rd"
    rw [put_put]
    refine fin L _ _ _ _ _ _ hL rfl rfl ?_
    show (eqD (.int i) (.int (i % 100 + 1)) && true) = false
    rw [eqD_ne (by omega)]
    rfl
  repeat walk_at "rd"
  refine rd_eqK (k' := .sh) ?_
  repeat walk_at "rd"
  refine rd_ite (fun e2 => ?_) fun e2 => ?_
  · have ek := same_eq e2
    subst ek
    obtain ⟨x, rfl⟩ := len1 hl
    obtain ⟨z, rfl, z0, z1, hz⟩ := right_sh hc (all1 ho)
    have sz := sok_lett hz
    repeat walk_at "rd"
    refine rd_lenS (by omega) ?_
    repeat walk_at "rd"
    refine rd_ite (fun e => ?_) fun e => ?_
    · repeat walk_at "rd"
      have l1 : (("a" : Str)).length = 1 := by decide +kernel
      refine rd_addS (by omega) ?_
      refine rd_gsub ?_
      repeat walk_at "rd"
      refine rd_exsub put_same rfl ?_
      repeat walk_at "rd"
      rw [put_put]
      have sa : sok "a" := by unfold sok; decide +kernel
      refine fin L _ _ _ _ _ _ hL rfl ?_ ?_
      · show (okT (.str (z ++ "a")) && true) = true
        rw [tA (okA_of (sok_app sz sa) (by rw [app_len]; omega))]
        rfl
      · show (eqD (.str z) (.str (z ++ "a")) && true) = false
        rw [eqD_str, str_ne (by rw [app_len]; omega)]
        rfl
    · repeat walk_at "rd"
      refine .inl ⟨z, rfl, by omega, ?_⟩
      refine rd_gsub ?_
      repeat walk_at "rd"
      refine rd_exsub put_same rfl ?_
      repeat walk_at "rd"
      rw [put_put]
      have l1 := slice1 z0
      refine fin L _ _ _ _ _ _ hL rfl ?_ ?_
      · show (okT (.str (Txt.slice z (some 1) none)) && true) = true
        rw [tA (okA_of (sok_slice sz) (by omega))]
        rfl
      · show (eqD (.str z) (.str (Txt.slice z (some 1) none)) && true) = false
        rw [eqD_str, str_ne (by omega)]
        rfl
  repeat walk_at "rd"
  refine rd_eqK (k' := .ba) ?_
  repeat walk_at "rd"
  refine rd_ite (fun e3 => ?_) fun e3 => ?_
  · have ek := same_eq e3
    subst ek
    obtain ⟨s, x, v, rfl⟩ := len3 hl
    obtain ⟨a, b, c, rfl, rfl, rfl, h0, h7, hc0⟩ := right_ba hc
    repeat walk_at "rd"
    have a1' : at_ < 3 := a1
    have rest : ∀ b' : Int, b' ≠ b → ∀ (u4 : Option D),
        opIx3 (.lst [.int ((a + 1) % 8), .int b', .int (-c)]) (.int at_) ((M.put p (.lst L)).put q (.lst [.int a, .int b, .int c])) (fun x M1 => gSub3 (tVar3 2) (tVar3 3) x [some (.ref p), some (.str Kind.ba.name), some (.ref q), some (.int at_), u4, none, none, none] M1 N) := fun b' hb' u4 => by
      rcases (by omega : at_ = 0 ∨ at_ = 1 ∨ at_ = 2) with rfl | rfl | rfl
      · repeat walk_at "rd"
        refine rd_gsub ?_
        repeat walk_at "rd"
        refine rd_exsub put_same rfl ?_
        rw [put_put]
        refine fin L _ _ _ _ _ _ hL rfl rfl ?_
        show (eqD (.int a) (.int ((a + 1) % 8)) && _) = false
        rw [eqD_ne (by omega)]
        rfl
      · repeat walk_at "rd"
        refine rd_gsub ?_
        repeat walk_at "rd"
        refine rd_exsub put_same rfl ?_
        rw [put_put]
        refine fin L _ _ _ _ _ _ hL rfl rfl ?_
        show (eqD (.int a) (.int a) && (eqD (.int b) (.int b') && _)) = false
        rw [eqD_ne (Ne.symm hb')]
        simp
      · repeat walk_at "rd"
        refine rd_gsub ?_
        repeat walk_at "rd"
        refine rd_exsub put_same rfl ?_
        rw [put_put]
        refine fin L _ _ _ _ _ _ hL rfl rfl ?_
        show (eqD (.int a) (.int a) && (eqD (.int b) (.int b) && (eqD (.int c) (.int (-c)) && true))) = false
        rw [eqD_ne (show c ≠ -c by omega)]
        simp
    refine rd_ite (fun e => ?_) fun e => ?_
    · repeat walk_at "rd"
      exact rest (b - 1) (by omega) _
    · repeat walk_at "rd"
      exact rest (b + 1) (by omega) _
  have ek : k = .ro := by cases k <;> first | rfl | exact absurd e1 (by decide) | exact absurd e2 (by decide) | exact absurd e3 (by decide)
  subst ek
  obtain ⟨da, db, s, f, dv, rfl⟩ := len5 hl
  obtain ⟨a, b, n, rfl, rfl, rfl, i0, i1, j0, j1, hab, ps, pf, n1⟩ := right_ro hc
  obtain ⟨_, _, hs, hf, _⟩ := all5 ho
  obtain ⟨s1, s2, es, ts⟩ := point_is ps
  obtain ⟨f1, f2, ef, tf⟩ := point_is pf
  have a1' : at_ < 5 := a1
  repeat walk_at "rd"
  refine rd_ite (fun e4 => ?_) fun e4 => ?_
  · -- one, other
    repeat walk_at "rd"
    refine rd_lc (rd_rng ?_)
    repeat walk_at "rd"
    refine ⟨8, rfl, by omega, by omega, ?_⟩
    refine lcP_map (notIn2 a b) id (by decide) (fun _ _ _ => trivial) (fun y hy => ?_) ?_
    · obtain ⟨v, rfl⟩ : ∃ v : Int, y = .int v := by
        unfold rngD at hy
        obtain ⟨m, _, rfl⟩ := List.mem_map.mp hy
        exact ⟨_, rfl⟩
      refine ⟨_, rfl, fun L2 acc Q' hL2 q' => ?_, fun _ L2 acc Q' hL2 q' => ?_⟩
      · have hi3 := items_keep (o := .lst acc) hL2 (put_same (M := M.put p (.lst L)) (a := q) (o := .lst [.int a, .int b, s, f, .int n]))
        repeat walk_at "rd"
        refine rd_inI ?_
        repeat walk_at "rd"
        exact q'
      · repeat walk_at "rd"
        exact q'
    have hlen := six i0 i1 j0 j1 hab
    repeat walk_at "rd"
    refine use_take ((Bag.put hL).keep hpq) (by omega) (by decide) fun m L2 m0 m1 hL2 => ?_
    rw [pq_put hpq]
    obtain ⟨y, hy, hm⟩ := atI_get (xs := List.map id (List.filter (notIn2 a b) (rngD 0 8))) m0 (by rw [List.length_map, hlen]; exact m1)
    rw [List.map_id] at hm
    obtain ⟨hm1, hm2⟩ := List.mem_filter.mp hm
    obtain ⟨v, rfl⟩ : ∃ v : Int, y = .int v := by
      unfold rngD at hm1
      obtain ⟨m, _, rfl⟩ := List.mem_map.mp hm1
      exact ⟨_, rfl⟩
    rw [notIn2_int] at hm2
    simp only [Bool.not_eq_true', Bool.or_eq_false_iff, decide_eq_false_iff_not] at hm2
    refine rd_ix rfl hy ?_
    refine rd_gsub ?_
    repeat walk_at "rd"
    have e4' : at_ < 2 := of_decide_eq_true e4
    rcases (by omega : at_ = 0 ∨ at_ = 1) with rfl | rfl
    · refine rd_exsub put_same rfl ?_
      rw [put_put]
      refine fin L2 _ _ _ _ _ _ hL2 rfl (all5m rfl rfl hs hf rfl) ?_
      show (eqD (.int a) (.int v) && _) = false
      rw [eqD_ne hm2.1]
      rfl
    · refine rd_exsub put_same rfl ?_
      rw [put_put]
      refine fin L2 _ _ _ _ _ _ hL2 rfl (all5m rfl rfl hs hf rfl) ?_
      show (eqD (.int a) (.int a) && (eqD (.int b) (.int v) && _)) = false
      rw [eqD_ne hm2.2]
      simp
  repeat walk_at "rd"
  refine rd_ite (fun e5 => ?_) fun e5 => ?_
  · -- start, end
    have e4' : ¬ at_ < 2 := of_decide_eq_false e4
    have e5' : at_ < 4 := of_decide_eq_true e5
    repeat walk_at "rd"
    refine rd_lc (rd_iSeq ?_)
    repeat walk_at "rd"
    refine ⟨pts3, rfl, ?_⟩
    refine lcP_map (notInP s1 s2 f1 f2) id (by decide) (fun _ _ _ => trivial) (fun y hy => ?_) ?_
    · obtain ⟨a', b', rfl⟩ : ∃ a' b' : Int, y = .tup [.int a', .int b'] := by
        rcases mem3 hy with rfl | rfl | rfl <;> exact ⟨_, _, rfl⟩
      refine ⟨_, rfl, fun L2 acc Q' hL2 q' => ?_, fun _ L2 acc Q' hL2 q' => ?_⟩
      · have hi3 := items_keep (o := .lst acc) hL2 (put_same (M := M.put p (.lst L)) (a := q) (o := .lst [.int a, .int b, s, f, .int n]))
        repeat walk_at "rd"
        refine rd_tuple (items_fz (by rw [fzT hs]; exact es)) ?_
        repeat walk_at "rd"
        refine rd_tuple (items_fz (by rw [fzT hf]; exact ef)) ?_
        repeat walk_at "rd"
        refine rd_inP ?_
        repeat walk_at "rd"
        exact q'
      · repeat walk_at "rd"
        exact q'
    obtain ⟨a', b', r, efr, hfr⟩ := free3 (s1 := s1) (s2 := s2) (f1 := f1) (f2 := f2)
    rw [efr, List.map_id]
    rw [notInP_eq] at hfr
    simp only [Bool.not_eq_true', Bool.or_eq_false_iff] at hfr
    repeat walk_at "rd"
    refine rd_ix rfl atI_zero ?_
    refine rd_gsub ?_
    repeat walk_at "rd"
    rcases (by omega : at_ = 2 ∨ at_ = 3) with rfl | rfl
    · refine rd_exsub put_same rfl ?_
      repeat walk_at "rd"
      rw [put_put]
      refine fin L _ _ _ _ _ _ hL rfl (all5m rfl rfl (tT (a2 rfl rfl)) hf rfl) ?_
      show (eqD (.int a) (.int a) && (eqD (.int b) (.int b) && (eqD (tupOf s) (tupOf (.tup [.int a', .int b'])) && _))) = false
      rw [pt_eq ts hfr.1]
      simp
    · refine rd_exsub put_same rfl ?_
      repeat walk_at "rd"
      rw [put_put]
      refine fin L _ _ _ _ _ _ hL rfl (all5m rfl rfl hs (tT (a2 rfl rfl)) rfl) ?_
      show (eqD (.int a) (.int a) && (eqD (.int b) (.int b) && (eqD (tupOf s) (tupOf s) && (eqD (tupOf f) (tupOf (.tup [.int a', .int b'])) && _)))) = false
      rw [pt_eq tf hfr.2]
      simp
  · -- pull
    repeat walk_at "rd"
    have rest : ∀ m : Int, m ≠ n → gSub3 (tVar3 2) (tC3 (.int 4)) (.int m) [some (.ref p), some (.str Kind.ro.name), some (.ref q), some (.int at_), none, none, none, none] ((M.put p (.lst L)).put q (.lst [.int a, .int b, s, f, .int n])) N := fun m hm => by
      refine rd_gsub ?_
      repeat walk_at "rd"
      refine rd_exsub put_same rfl ?_
      rw [put_put]
      refine fin L _ _ _ _ _ _ hL rfl (all5m rfl rfl hs hf rfl) ?_
      show (eqD (.int a) (.int a) && (eqD (.int b) (.int b) && (eqD (tupOf s) (tupOf s) && (eqD (tupOf f) (tupOf f) && (eqD (.int n) (.int m) && true))))) = false
      rw [eqD_ne (Ne.symm hm)]
      simp
    refine rd_ite (fun e => ?_) fun e => ?_
    · repeat walk_at "rd"
      exact rest (n - 1) (by omega)
    · have e' : ¬ 1 < n := of_decide_eq_false e
      repeat walk_at "rd"
      exact rest 2 (by omega)
theorem len_law_other : ∀ ds M Q E, sp_law_other K A ds M Q E → ds.length = (["bag", "kind", "things"] : List Str).length := fun ds M Q E ⟨p, as, e, _, ⟨k, xs, e2, _⟩, _⟩ => by
  subst e e2
  rfl
end
end K68

namespace K68
open PySem PySem.Spec PyProof.Rows L2 L3
local macro_rules | `(tactic| walk_at "rd") => `(tactic| first
  | (with_reducible refine rd_seq ?_) | (with_reducible refine rd_ifS ?_) | (with_reducible refine rd_asg ?_) | (with_reducible refine rd_ret ?_) | (with_reducible refine rd_drop ?_) | (with_reducible refine rd_next ?_)
  | (with_reducible refine rd_name ?_) | (with_reducible refine rd_cons ?_) | (with_reducible refine rd_nil ?_) | (with_reducible refine rd_c ?_) | (with_reducible refine rd_op ?_) | (with_reducible refine rd_un ?_)
  | (with_reducible refine rd_test ?_) | (with_reducible refine rd_chain ?_) | (with_reducible refine rd_and ?_) | (with_reducible refine rd_or ?_) | (with_reducible refine rd_not ?_) | (with_reducible refine rd_andV ?_) | (with_reducible refine rd_orV ?_) | (with_reducible refine rd_notV ?_)
  | (with_reducible refine rd_if ?_) | (with_reducible refine rd_exbl ?_) | (with_reducible refine rd_exint ?_) | (with_reducible refine rd_tup ?_) | (with_reducible refine rd_lst ?_) | (with_reducible refine rd_lstM ?_) | (with_reducible refine rd_cb ?_) | (with_reducible refine rd_call ?_) | (with_reducible refine rd_make ?_)
  | (with_reducible refine rd_sl ?_) | (with_reducible refine rd_part ?_) | (with_reducible refine rd_nopart ?_) | (with_reducible refine rd_par ?_) | (with_reducible refine rd_expar ?_) | (with_reducible refine rd_tru ?_)
  | (with_reducible refine rd_for ?_) | (with_reducible refine rd_raise ?_) | (with_reducible refine rd_fldS ?_) | (with_reducible refine rd_retN ?_) | (with_reducible refine rd_break ?_) | (with_reducible refine rd_cont ?_)
  | (with_reducible refine rd_endrt ?_) | (with_reducible refine rd_endnx ?_) | (with_reducible refine rd_endex ?_) | (with_reducible refine rd_nx ?_) | (with_reducible refine rd_rt ?_) | (with_reducible refine rd_bk ?_) | (with_reducible refine rd_ct ?_) | (with_reducible refine rd_ex ?_)
  | (with_reducible refine rd_I3 ?_) | (with_reducible refine rd_neg ?_) | (with_reducible refine rd_addI ?_) | (with_reducible refine rd_lt ?_) | (with_reducible refine rd_le ?_) | (with_reducible refine rd_gt ?_) | (with_reducible refine rd_ge ?_)
  | (with_reducible refine rd_isN ?_) | (with_reducible refine rd_notN ?_) | (with_reducible refine rd_eqI ?_) | (with_reducible refine rd_neI ?_) | (with_reducible refine rd_int1 ?_) | (with_reducible refine rd_intOf ?_)
  | (with_reducible refine rd_p6 ?_) | (with_reducible refine rd_p18 ?_) | (with_reducible refine rd_p20 ?_) | (with_reducible refine rd_p30 ?_)
  | ((with_reducible refine rd_IC3 ?cc ?_); (case cc => first | decide | exact Or.inr (Or.inr ⟨by decide, by decide⟩) | exact Or.inr (Or.inl ⟨by decide, by decide⟩) | exact ⟨by decide, by decide⟩))
  | ((with_reducible show tVar3 _ _ _ _ _); refine rd_var rfl ?_)
  | ((with_reducible show opIx3 _ (D.int _) _ _); refine rd_ix (by first | exact rfl | assumption) (by first | exact rfl | assumption) ?_)
  | ((with_reducible show aLen3 [_] _ _); refine rd_len (by first | exact rfl | assumption) ?_)
  | (with_reducible refine rd_le1 ?_) 
  | (with_reducible refine rd_iteTT ?_) | (with_reducible refine rd_iteFF ?_))
/-! ## comparisons of what was made -/
theorem okTs_py : ∀ {xs : List D}, xs.all okT = true → D.pys xs = some (xs.map pyD) ∧ PyData.canLayAll0 (xs.map pyD) = true ∧ PyData.depthAll (xs.map pyD) ≤ 1
  | [], _ => ⟨rfl, by rw [List.map_nil, PyData.canLayAll0], by rw [List.map_nil, PyData.depthAll]; decide⟩
  | x :: xs, h => by
    rw [List.all_cons, Bool.and_eq_true] at h
    obtain ⟨d, h1, h2, h3⟩ := okT_py0 h.1
    obtain ⟨q1, q2, q3⟩ := okTs_py h.2
    have e : pyD x = d := by unfold pyD; rw [h1]; rfl
    refine ⟨by simp [D.pys, h1, q1, e], by rw [List.map_cons, PyData.canLayAll0, e, h2, q2]; rfl, ?_⟩
    rw [List.map_cons, PyData.depthAll, e]
    omega
theorem lst_py {xs : List D} (h : xs.all okT = true) : (D.lst xs).py = some (.list (xs.map pyD)) ∧ SeqAt.shaped (.list (xs.map pyD)) = true := by
  obtain ⟨q1, q2, q3⟩ := okTs_py h
  refine ⟨by simp [D.py, q1], shp_of (by rw [PyData.canLay0]; exact q2) (by rw [PyData.depth]; omega)⟩
theorem eqvAll_map : ∀ {xs ys : List D}, xs.length = ys.length → PyData.eqvAll (xs.map pyD) (ys.map pyD) = eqAll xs ys
  | [], [], _ => by rw [List.map_nil, PyData.eqvAll]; rfl
  | x :: xs, y :: ys, h => by
    rw [List.map_cons, List.map_cons, PyData.eqvAll, eqvAll_map (by simpa using h)]
    rfl
  | [], _ :: _, h => by simp at h
  | _ :: _, [], h => by simp at h
theorem rd_eqL {xs ys : List D} {M : Mem} {Q : VK3} (hx : xs.all okT = true) (hy : ys.all okT = true) (hl : xs.length = ys.length) (q : Q (.bl (eqAll xs ys)) M) : opEqD3 (.lst xs) (.lst ys) M Q :=
  rd_eq (lst_py hx).1 (lst_py hy).1 (lst_py hx).2 (lst_py hy).2 (by rw [PyData.eqv, eqvAll_map hl]; exact q)
theorem rd_neL {xs ys : List D} {M : Mem} {Q : VK3} (hx : xs.all okT = true) (hy : ys.all okT = true) (hl : xs.length = ys.length) (q : Q (.bl (!eqAll xs ys)) M) : opNeD3 (.lst xs) (.lst ys) M Q :=
  rd_ne (lst_py hx).1 (lst_py hy).1 (lst_py hx).2 (lst_py hy).2 (by rw [PyData.eqv, eqvAll_map hl]; exact q)
theorem eqD_pair {a b c d : Int} : eqD (.tup [.int a, .int b]) (.tup [.int c, .int d]) = (decide (a = c) && decide (b = d)) := eqv_pair
theorem eqD_bl {a b : Bool} : eqD (.bl a) (.bl b) = (a == b) := by
  show PyData.eqv (.bool a) (.bool b) = _
  rw [PyData.eqv]
theorem pyD_pair {a b : Int} : pyD (.tup [.int a, .int b]) = .tuple [.int a, .int b] := rfl
theorem eqD_comm {x y : D} (hx : right x) (hy : right y) : eqD x y = eqD y x := by
  rcases hx with ⟨i, rfl⟩ | ⟨z, rfl, _⟩ | ⟨i, j, rfl⟩ <;> rcases hy with ⟨i', rfl⟩ | ⟨z', rfl, _⟩ | ⟨i', j', rfl⟩
  · rw [eqD_int, eqD_int]; exact decide_eq_decide.mpr eq_comm
  · show PyData.eqv (.int i) (.str z') = PyData.eqv (.str z') (.int i); rw [PyData.eqv, PyData.eqv]
  · show PyData.eqv (.int i) (.tuple [.int i', .int j']) = PyData.eqv (.tuple [.int i', .int j']) (.int i); rw [PyData.eqv, PyData.eqv]
  · show PyData.eqv (.str z) (.int i') = PyData.eqv (.int i') (.str z); rw [PyData.eqv, PyData.eqv]
  · rw [eqD_str, eqD_str]; exact decide_eq_decide.mpr eq_comm
  · show PyData.eqv (.str z) (.tuple [.int i', .int j']) = PyData.eqv (.tuple [.int i', .int j']) (.str z); rw [PyData.eqv, PyData.eqv]
  · show PyData.eqv (.tuple [.int i, .int j]) (.int i') = PyData.eqv (.int i') (.tuple [.int i, .int j]); rw [PyData.eqv, PyData.eqv]
  · show PyData.eqv (.tuple [.int i, .int j]) (.str z') = PyData.eqv (.str z') (.tuple [.int i, .int j]); rw [PyData.eqv, PyData.eqv]
  · rw [eqD_pair, eqD_pair]
    congr 1 <;> exact decide_eq_decide.mpr eq_comm
theorem eqD_refl {x : D} (hx : right x) : eqD x x = true := by
  rcases hx with ⟨i, rfl⟩ | ⟨z, rfl, _⟩ | ⟨i, j, rfl⟩
  · rw [eqD_int]; exact decide_eq_true rfl
  · rw [eqD_str]; exact decide_eq_true rfl
  · rw [eqD_pair]; simp
theorem eqAll_comm : ∀ {xs ys : List D}, (∀ x ∈ xs, right x) → (∀ y ∈ ys, right y) → eqAll xs ys = eqAll ys xs
  | [], [], _, _ => rfl
  | [], _ :: _, _, _ => rfl
  | _ :: _, [], _, _ => rfl
  | x :: xs, y :: ys, hx, hy => by
    show (eqD x y && eqAll xs ys) = (eqD y x && eqAll ys xs)
    rw [eqD_comm (hx x List.mem_cons_self) (hy y List.mem_cons_self), eqAll_comm (fun a h => hx a (List.mem_cons_of_mem _ h)) fun a h => hy a (List.mem_cons_of_mem _ h)]
theorem eqAll_refl : ∀ {xs : List D}, (∀ x ∈ xs, right x) → eqAll xs xs = true
  | [], _ => rfl
  | x :: xs, hx => by
    show (eqD x x && eqAll xs xs) = true
    rw [eqD_refl (hx x List.mem_cons_self), eqAll_refl fun a h => hx a (List.mem_cons_of_mem _ h)]
    rfl
theorem rights_okT {xs : List D} (h : ∀ x ∈ xs, right x) : xs.all okT = true := List.all_eq_true.mpr fun x hx => right_okT (h x hx)
theorem all_fz {M : Mem} {xs : List D} (h : xs.all okT = true) : xs.map (D.fz M) = xs := by
  rw [List.all_eq_true] at h
  rw [List.map_congr_left (fun x hx => fzT (M := M) (h x hx)), List.map_id']
/-- the words -/
theorem chk_word {k : Kind} {as : List D} {w : Str} (h : chk k as = some w) : okA (.str w) = true := by
  have m : w ∈ (["stone", "x", "weight", "one", "other", "start", "end", "pull", "name", "extra"] : List Str) := by
    cases k with
    | ba =>
      simp only [chk, chkBa] at h
      split at h
      · repeat' (split at h)
        all_goals first | (cases h; simp) | cases h
      · cases h
    | ro =>
      simp only [chk, chkRo] at h
      split at h
      · repeat' (split at h)
        all_goals first | (cases h; simp) | cases h
      · cases h
    | sh =>
      simp only [chk, chkSh] at h
      split at h
      · repeat' (split at h)
        all_goals first | (cases h; simp) | cases h
      · cases h
    | sp =>
      simp only [chk, chkSp] at h
      split at h
      · repeat' (split at h)
        all_goals first | (cases h; simp) | cases h
      · cases h
  have all : ∀ w ∈ (["stone", "x", "weight", "one", "other", "start", "end", "pull", "name", "extra"] : List Str), okA (.str w) = true := by decide +kernel
  exact all w m
theorem ok_no : okA (.str "no") = true := by decide +kernel
theorem eqv_strs {a b : Str} : PyData.eqv (.str a) (.str b) = decide (a = b) := by rw [PyData.eqv]; rfl
theorem said_eq {w : Str} : eqD (said w) (said w) = true := by
  show PyData.eqv (.tuple [.str "no", .str w, .bool true, .bool true]) (.tuple [.str "no", .str w, .bool true, .bool true]) = true
  simp only [PyData.eqv, PyData.eqvAll, beq_self_eq_true, Bool.and_self]
theorem said_ok {w : Str} (h : okA (.str w) = true) : okT (said w) = true := tT (by simp [h, ok_no, okA_bl])
def plain : Kind → List D
  | .ba => [.int 0, .int 0, .int 1]
  | .ro => [.int 0, .int 1, .tup [.int 0, .int 0], .tup [.int 1, .int 0], .int 1]
  | .sh => [.str "a"]
  | .sp => [.int 1]
theorem plain_right {k : Kind} : ∀ y ∈ plain k, right y := by
  cases k with
  | ba => intro y hy; rcases mem3 hy with rfl | rfl | rfl <;> exact .inl ⟨_, rfl⟩
  | ro =>
    intro y hy
    simp only [plain, List.mem_cons, List.not_mem_nil, or_false] at hy
    rcases hy with rfl | rfl | rfl | rfl | rfl <;> first | exact .inl ⟨_, rfl⟩ | exact .inr (.inr ⟨_, _, rfl⟩)
  | sh =>
    intro y hy
    simp only [plain, List.mem_cons, List.not_mem_nil, or_false] at hy
    subst hy
    exact .inr (.inl ⟨_, rfl, ok_sa⟩)
  | sp =>
    intro y hy
    simp only [plain, List.mem_cons, List.not_mem_nil, or_false] at hy
    subst hy
    exact .inl ⟨_, rfl⟩
theorem plain_vals {k : Kind} : vals (plain k) = plain k := by cases k <;> rfl
theorem plain_len {k : Kind} : (plain k).length = k.n := by cases k <;> rfl
theorem plain_chk {k : Kind} : chk k (plain k) = none := by
  cases k with
  | ba =>
    have e : eqD (.int 1) (.int 0) = false := eqD_ne (by decide)
    show (if !whole (.int 0) 0 7 then some ("stone" : Str) else if !whole (.int 0) (-1000000) 1000000 then some ("x" : Str) else if !whole (.int 1) (-big) big || eqD (.int 1) (.int 0) then some ("weight" : Str) else none) = none
    rw [e]
    rfl
  | ro =>
    have e1 : eqD (.int 1) (.int 0) = false := eqD_ne (by decide)
    have e2 : eqD (.tup [.int 1, .int 0]) (.tup [.int 0, .int 0]) = false := by rw [eqD_pair]; rfl
    show (if !whole (.int 0) 0 7 then some ("one" : Str) else if !whole (.int 1) 0 7 || eqD (.int 1) (.int 0) then some ("other" : Str) else if !point (.tup [.int 0, .int 0]) then some ("start" : Str) else if !point (.tup [.int 1, .int 0]) || eqD (.tup [.int 1, .int 0]) (.tup [.int 0, .int 0]) then some ("end" : Str) else if !whole (.int 1) 1 big then some ("pull" : Str) else none) = none
    rw [e1, e2]
    rfl
  | sh =>
    show (if nameOk (.str "a") then none else some ("name" : Str)) = none
    rw [if_pos (by decide +kernel)]
  | sp => rfl
section
variable {P : Program} {w : World} {K : PySem.W.Frag} {mg : Str → Option Value} {base : Heap} {A : Adr}
theorem cd_of (T : Txt K mg A) (k : Kind) : ClsD K (cls A k) := by
  cases k
  · exact T.cd_Ballast
  · exact T.cd_Rod
  · exact T.cd_Shut
  · exact T.cd_Spaced
theorem okc_of (T : Txt K mg A) (k : Kind) : ((PySem.W.clsIn K (cls A k)).isSome && PySem.W.typeIn K (.ref (cls A k)) == some (.type "type")) = true := by
  cases k
  · exact T.ok_Ballast
  · exact T.ok_Rod
  · exact T.ok_Shut
  · exact T.ok_Spaced
theorem sub_of (T : Txt K mg A) (k k' : Kind) : PySem.W.subIn K (.ref (cls A k)) (.ref (cls A k')) = some (k.same k') := by
  cases k <;> cases k'
  · exact T.sb_Ballast_Ballast
  · exact T.sb_Ballast_Rod
  · exact T.sb_Ballast_Shut
  · exact T.sb_Ballast_Spaced
  · exact T.sb_Rod_Ballast
  · exact T.sb_Rod_Rod
  · exact T.sb_Rod_Shut
  · exact T.sb_Rod_Spaced
  · exact T.sb_Shut_Ballast
  · exact T.sb_Shut_Rod
  · exact T.sb_Shut_Shut
  · exact T.sb_Shut_Spaced
  · exact T.sb_Spaced_Ballast
  · exact T.sb_Spaced_Rod
  · exact T.sb_Spaced_Shut
  · exact T.sb_Spaced_Spaced
theorem cls_inj (T : Txt K mg A) {k k' : Kind} (h : cls A k = cls A k') : k = k' := by
  have e := sub_of T k k'
  rw [h, sub_of T k' k'] at e
  have : k.same k' = true := by
    have z := Option.some.inj e
    rw [← z]
    cases k' <;> rfl
  exact same_eq this
theorem subC_of (T : Txt K mg A) (k : Kind) : PySem.W.subIn K (.ref (cls A k)) (.ref A.C_Change) = some true := by
  cases k
  · exact T.sb_Ballast_Change
  · exact T.sb_Rod_Change
  · exact T.sb_Shut_Change
  · exact T.sb_Spaced_Change
theorem subT_of (T : Txt K mg A) (k : Kind) : PySem.W.subIn K (.ref (cls A k)) (.type "tuple") = some false := by
  cases k
  · exact T.sb_Ballast_tuple
  · exact T.sb_Rod_tuple
  · exact T.sb_Shut_tuple
  · exact T.sb_Spaced_tuple
theorem same_refl (k : Kind) : k.same k = true := by cases k <;> rfl
theorem isi_madeT (T : Txt K mg A) {k : Kind} {fs : List (Str × D)} {M : Mem} {Q : VK3} (q : Q (.bl false) M) : aIsi3 K [.ins (cls A k) fs, .ty "tuple"] M Q :=
  rd_isi1 (t := .ref (cls A k)) rfl (fun C e => by cases e; exact cd_of T k) (by
    unfold PySem.W.kitOne
    rw [if_neg (by rw [show (Value.ref (cls A k) == Value.type "tuple") = false from rfl]; decide)]
    show (if PySem.W.kitMeta "tuple" = true then PySem.W.subIn K (.ref (cls A k)) (.type "tuple") else none) = some false
    rw [if_pos (by rfl)]
    exact subT_of T k) q
theorem isi_madeC (T : Txt K mg A) {k : Kind} {fs : List (Str × D)} {M : Mem} {Q : VK3} (q : Q (.bl true) M) : aIsi3 K [.ins (cls A k) fs, .ref A.C_Change] M Q :=
  rd_isiC (t := .ref (cls A k)) rfl (fun C e => by cases e; exact cd_of T k) (kit_any T.ok_Change (subC_of T k) fun _ => rfl) q
/-- made == another of its class -/
theorem own_ins (T : Txt K mg A) {k : Kind} {vs ws : List D} {neg : Bool} {M : Mem} {Q : VK3} (h1 : vs.length = k.n) (h2 : vs.all okT = true) (h3 : ws.length = k.n) (h4 : ws.all okT = true) (q : Q (.bl (xor (eqAll vs ws) neg)) M) :
    own3 K (okC A) (spE K A) neg (.ins (cls A k) ((keys k).zip vs)) (.ins (cls A k) ((keys k).zip ws)) M Q :=
  ⟨_, _, .ref (cls A k), rfl, ⟨k, rfl⟩, rfl, fun C e => by cases e; exact cd_of T k, by simp [PySem.W.notFirst], k, rfl, vs, _, rfl, h1, h2, .inl ⟨ws, rfl, h3, h4, _, rfl, q⟩⟩
theorem own_other (T : Txt K mg A) {k : Kind} {vs : List D} {y : D} {t : Value} {neg : Bool} {M : Mem} {Q : VK3} (h1 : vs.length = k.n) (h2 : vs.all okT = true) (ht : y.typ M = some t) (hC : ∀ C, t = .ref C → ClsD K C) (hne : t ≠ .ref (cls A k))
    (hs : PySem.W.subIn K t (.ref (cls A k)) = some false) (q : Q (.bl neg) M) : own3 K (okC A) (spE K A) neg (.ins (cls A k) ((keys k).zip vs)) y M Q :=
  ⟨_, _, t, rfl, ⟨k, rfl⟩, ht, hC, by unfold PySem.W.notFirst; rw [hs]; simp, k, rfl, vs, _, rfl, h1, h2, .inr ⟨t, ht, hC, kit_cls1 (beq_eq_false_iff_ne.mpr hne) (okc_of T k) hs, false, rfl, by rw [Bool.false_xor]; exact q⟩⟩
theorem own_ty (T : Txt K mg A) {k : Kind} {vs : List D} {y : D} {n : String} {neg : Bool} {M : Mem} {Q : VK3} (h1 : vs.length = k.n) (h2 : vs.all okT = true) (ht : y.typ M = some (.type n)) (hs : ∀ C, PySem.W.subIn K (.type n) (.ref C) = some false) (q : Q (.bl neg) M) :
    own3 K (okC A) (spE K A) neg (.ins (cls A k) ((keys k).zip vs)) y M Q := own_other T h1 h2 ht (fun C e => by cases e) (fun e => by cases e) (hs _) q
theorem sub_tuple (C : Addr) : PySem.W.subIn K (.type "tuple") (.ref C) = some false := by rfl
theorem sub_list (C : Addr) : PySem.W.subIn K (.type "list") (.ref C) = some false := by rfl
theorem sub_int (C : Addr) : PySem.W.subIn K (.type "int") (.ref C) = some false := by rfl
theorem sub_str (C : Addr) : PySem.W.subIn K (.type "str") (.ref C) = some false := by rfl
/-- made == what _law_made answers -/
theorem own_made (T : Txt K mg A) {k k' : Kind} {vs ys : List D} {neg b : Bool} {M : Mem} {Q : VK3} (h1 : vs.length = k.n) (h2 : vs.all okT = true) (h3 : ys.length = k'.n) (h4 : (vals ys).all okT = true)
    (hb : (match chk k' ys with | some _ => false | none => k.same k' && eqAll vs (vals ys)) = b) (q : Q (.bl (xor b neg)) M) : own3 K (okC A) (spE K A) neg (.ins (cls A k) ((keys k).zip vs)) (madeOf A k' ys) M Q := by
  unfold madeOf
  cases hc : chk k' ys with
  | some w =>
    rw [hc] at hb
    subst hb
    rw [Bool.false_xor] at q
    exact own_ty T h1 h2 rfl sub_tuple q
  | none =>
    rw [hc] at hb
    subst hb
    by_cases e : k = k'
    · subst e
      rw [same_refl, Bool.true_and] at q
      exact own_ins T h1 h2 (by unfold vals; rw [List.length_map]; exact h3) h4 q
    · have es : k.same k' = false := by
        cases hk : k.same k' with
        | false => rfl
        | true => exact absurd (same_eq hk) e
      have es' : k'.same k = false := by
        cases hk : k'.same k with
        | false => rfl
        | true => exact absurd (same_eq hk).symm e
      rw [es, Bool.false_and, Bool.false_xor] at q
      refine own_other T (t := .ref (cls A k')) h1 h2 rfl (fun C e => by cases e; exact cd_of T k') (fun e2 => e (cls_inj T (Value.ref.inj e2)).symm) (by rw [sub_of T, es']) q
end
end K68

namespace K68
open PySem PySem.Spec PyProof.Rows L2 L3
local macro_rules | `(tactic| walk_at "rd") => `(tactic| first
  | (with_reducible refine rd_seq ?_) | (with_reducible refine rd_ifS ?_) | (with_reducible refine rd_asg ?_) | (with_reducible refine rd_ret ?_) | (with_reducible refine rd_drop ?_) | (with_reducible refine rd_next ?_)
  | (with_reducible refine rd_name ?_) | (with_reducible refine rd_cons ?_) | (with_reducible refine rd_nil ?_) | (with_reducible refine rd_c ?_) | (with_reducible refine rd_op ?_) | (with_reducible refine rd_un ?_)
  | (with_reducible refine rd_test ?_) | (with_reducible refine rd_chain ?_) | (with_reducible refine rd_and ?_) | (with_reducible refine rd_or ?_) | (with_reducible refine rd_not ?_) | (with_reducible refine rd_andV ?_) | (with_reducible refine rd_orV ?_) | (with_reducible refine rd_notV ?_)
  | (with_reducible refine rd_if ?_) | (with_reducible refine rd_exbl ?_) | (with_reducible refine rd_exint ?_) | (with_reducible refine rd_tup ?_) | (with_reducible refine rd_lst ?_) | (with_reducible refine rd_lstM ?_) | (with_reducible refine rd_cb ?_) | (with_reducible refine rd_call ?_) | (with_reducible refine rd_make ?_)
  | (with_reducible refine rd_sl ?_) | (with_reducible refine rd_part ?_) | (with_reducible refine rd_nopart ?_) | (with_reducible refine rd_par ?_) | (with_reducible refine rd_expar ?_) | (with_reducible refine rd_tru ?_)
  | (with_reducible refine rd_for ?_) | (with_reducible refine rd_raise ?_) | (with_reducible refine rd_fldS ?_) | (with_reducible refine rd_retN ?_) | (with_reducible refine rd_break ?_) | (with_reducible refine rd_cont ?_)
  | (with_reducible refine rd_endrt ?_) | (with_reducible refine rd_endnx ?_) | (with_reducible refine rd_endex ?_) | (with_reducible refine rd_nx ?_) | (with_reducible refine rd_rt ?_) | (with_reducible refine rd_bk ?_) | (with_reducible refine rd_ct ?_) | (with_reducible refine rd_ex ?_)
  | (with_reducible refine rd_I3 ?_) | (with_reducible refine rd_neg ?_) | (with_reducible refine rd_addI ?_) | (with_reducible refine rd_lt ?_) | (with_reducible refine rd_le ?_) | (with_reducible refine rd_gt ?_) | (with_reducible refine rd_ge ?_)
  | (with_reducible refine rd_isN ?_) | (with_reducible refine rd_notN ?_) | (with_reducible refine rd_eqI ?_) | (with_reducible refine rd_neI ?_) | (with_reducible refine rd_int1 ?_) | (with_reducible refine rd_intOf ?_)
  | (with_reducible refine rd_p6 ?_) | (with_reducible refine rd_p18 ?_) | (with_reducible refine rd_p20 ?_) | (with_reducible refine rd_p30 ?_)
  | ((with_reducible refine rd_IC3 ?cc ?_); (case cc => first | decide | exact Or.inr (Or.inr ⟨by decide, by decide⟩) | exact Or.inr (Or.inl ⟨by decide, by decide⟩) | exact ⟨by decide, by decide⟩))
  | ((with_reducible show tVar3 _ _ _ _ _); refine rd_var rfl ?_)
  | ((with_reducible show opIx3 _ (D.int _) _ _); refine rd_ix (by first | exact rfl | assumption) (by first | exact rfl | assumption) ?_)
  | ((with_reducible show aLen3 [_] _ _); refine rd_len (by first | exact rfl | assumption) ?_)
  | (with_reducible refine rd_le1 ?_) 
  | (with_reducible refine rd_iteTT ?_) | (with_reducible refine rd_iteFF ?_))
/-- what was handed over, lists as new ones -/
structure Given (M : Mem) (p : Addr) (gs xs : List D) : Prop where
  bag : Bag M p
  fz : gs.map (D.fz M) = xs
  ok : ∀ g ∈ gs, (∃ a ys, g = .ref a ∧ a ≠ p ∧ M a = some (.lst ys) ∧ ys.length ≤ 1000) ∨ (okT g = true ∧ isLi g = false)
theorem Given.put {M : Mem} {p : Addr} {gs xs l : List D} (g : Given M p gs xs) (h : Bag3 l) : Given (M.put p (.lst l)) p gs xs where
  bag := Bag.put h
  fz := by
    rw [← g.fz]
    refine List.map_congr_left fun y hy => ?_
    rcases g.ok y hy with ⟨a, ys, rfl, ha, _⟩ | ⟨ho, _⟩
    · simp only [D.fz, put_ne ha]
    · rw [fzT ho, fzT ho]
  ok := fun y hy => by
    rcases g.ok y hy with ⟨a, ys, rfl, ha, e, hl⟩ | h
    · exact .inl ⟨a, ys, rfl, ha, by rw [put_ne ha]; exact e, hl⟩
    · exact .inr h
theorem rd_yes {σ : St3} {M : Mem} {Q : Bool → Mem → Prop} {E : XK3} (k : Q true M) : tYes3 σ M Q E := k
theorem rd_ifD {tA : TT3} {ta tb : TE3} {σ : St3} {M : Mem} {Q : VK3} {E : XK3} {d : D} (hq : Q d M) (k : ∀ Q' : VK3, Q' d M → tIf3 tA ta tb σ M Q' E) : tIf3 tA ta tb σ M Q E := k Q hq
theorem isLi_is {x : D} (h : isLi x = true) : ∃ ys, x = .lst ys := by cases x <;> first | exact ⟨_, rfl⟩ | cases h
section
variable {P : Program} {w : World} {K : PySem.W.Frag} {mg : Str → Option Value} {base : Heap} {A : Adr}
theorem given_lc {u0 u1 u2 u3 u5 u6 u7 u8 u9 u10 u11 u12 u13 u14 u15 u16 : Option D} {xs : List D} {M : Mem} {p : Addr} {Q : VK3} {E : XK3} (hb : Bag M p) (ho : xs.all okT = true) (hl : xs.length ≤ 10) (q : ∀ gs M', Given M' p gs xs → Q (.lst gs) M') :
    tLc3 (iSeq3 (tVar3 4)) (.one 6) [6] tYes3 (tIf3 (tTest3 (tCB3 (aIsi3 K) (tCons3 (tVar3 6) (tCons3 (tC3 (.ty "list")) tNil3)))) (tCB3 aListM3 (tCons3 (tVar3 6) tNil3)) (tVar3 6))
      [u0, u1, u2, u3, some (.lst xs), u5, u6, u7, u8, u9, u10, u11, u12, u13, u14, u15, u16] M Q E := by
  refine rd_lc (rd_iSeq ?_)
  repeat walk_at "rd"
  refine ⟨xs, rfl, ?_⟩
  intro L hL
  refine ⟨fun i acc M' => Given M' p acc (xs.take i), ⟨hb, rfl, fun g hg => by cases hg⟩, fun _ _ _ _ _ => trivial, ?_, ?_⟩
  · intro i acc x M' hx hL' g
    have hi : i < xs.length := (List.getElem?_eq_some_iff.mp hx).1
    have hm : x ∈ xs := List.mem_of_getElem? hx
    have hox : okT x = true := List.all_eq_true.mp ho x hm
    have ht : xs.take (i + 1) = xs.take i ++ [x] := by rw [List.take_add_one, hx]; rfl
    have hlen : acc.length ≤ i := by
      have := congrArg List.length g.fz
      rw [List.length_map, List.length_take] at this
      omega
    refine ⟨by omega, _, rfl, ?_⟩
    refine rd_yes (rd_iteTT ?_)
    repeat walk_at "rd"
    refine isi_lst (by rw [fzT hox]; exact hox) ?_
    repeat walk_at "rd"
    rw [fzT hox]
    refine rd_ite (fun e => ?_) fun e => ?_
    · obtain ⟨ys, rfl⟩ := isLi_is e
      repeat walk_at "rd"
      refine rd_listM rfl fun r hr => ?_
      have hrL : r ≠ L := fun e2 => by rw [e2, put_same] at hr; cases hr
      have hr' : M' r = none := by rw [put_ne hrL] at hr; exact hr
      have hrp : r ≠ p := fun e2 => by
        obtain ⟨l, e1, _⟩ := g.bag
        rw [← e2, hr'] at e1
        cases e1
      refine ⟨M'.put r (.lst ys), put_comm (Ne.symm hrL), by rw [put_ne (Ne.symm hrL)]; exact hL', ?_⟩
      have yl : ys.length ≤ 1000 := by
        simp only [okT, Bool.and_eq_true, decide_eq_true_eq] at hox
        exact hox.1
      have old : ∀ y ∈ acc, (∃ a zs, y = .ref a ∧ a ≠ p ∧ a ≠ r ∧ M' a = some (.lst zs) ∧ zs.length ≤ 1000) ∨ (okT y = true ∧ isLi y = false) := fun y hy => by
        rcases g.ok y hy with ⟨a, zs, rfl, ha, e1, hl1⟩ | h
        · exact .inl ⟨a, zs, rfl, ha, (fun e2 => by rw [e2, hr'] at e1; cases e1), e1, hl1⟩
        · exact .inr h
      refine ⟨g.bag.keep (Ne.symm hrp), ?_, fun y hy => ?_⟩
      · rw [ht, List.map_append, ← g.fz]
        congr 1
        · refine List.map_congr_left fun y hy => ?_
          rcases old y hy with ⟨a, zs, rfl, _, ha, _⟩ | ⟨h1, _⟩
          · simp only [D.fz, put_ne ha]
          · rw [fzT h1, fzT h1]
        · show [D.fz _ (.ref r)] = _
          simp only [D.fz, put_same]
      · rcases List.mem_append.mp hy with hy | hy
        · rcases old y hy with ⟨a, zs, rfl, ha, har, e1, hl1⟩ | h
          · exact .inl ⟨a, zs, rfl, ha, by rw [put_ne har]; exact e1, hl1⟩
          · exact .inr h
        · have ey : y = .ref r := by simpa using hy
          exact .inl ⟨r, ys, ey, hrp, put_same, yl⟩
    · repeat walk_at "rd"
      refine ⟨M', rfl, hL', g.bag, ?_, fun y hy => ?_⟩
      · rw [ht, List.map_append, ← g.fz]
        congr 1
        show [D.fz _ x] = _
        rw [fzT hox]
      · rcases List.mem_append.mp hy with hy | hy
        · exact g.ok y hy
        · have ey : y = x := by simpa using hy
          subst ey
          exact .inr ⟨hox, e⟩
  · intro acc M' hL' g
    rw [List.take_length] at g
    exact q acc M' g
theorem app_loop {u0 u1 u2 u3 u4 u6 u7 u8 u9 u10 u11 u12 u13 u14 u15 u16 : Option D} {gs xs : List D} {M : Mem} {p : Addr} {D' : Ends3} (g : Given M p gs xs) (hl : gs.length ≤ 10)
    (q : ∀ v M', Bag M' p → gNx D' [u0, u1, u2, u3, u4, some (.lst gs), v, u7, u8, u9, u10, u11, u12, u13, u14, u15, u16] M') :
    tFor3 (iSeq3 (tVar3 5)) (gName3 6) (tIfS3 (tTest3 (tCB3 (aIsi3 K) (tCons3 (tVar3 6) (tCons3 (tC3 (.ty "list")) tNil3)))) (tDrop3 (tApp3 (tVar3 6) (tC3 (.int 0)))) tNext3)
      D' [u0, u1, u2, u3, u4, some (.lst gs), u6, u7, u8, u9, u10, u11, u12, u13, u14, u15, u16] M := by
  refine rd_for (rd_iSeq ?_)
  repeat walk_at "rd"
  refine ⟨gs, rfl, ?_⟩
  refine rd_forP (fun i σ M' => ∃ v, σ = [u0, u1, u2, u3, u4, some (.lst gs), v, u7, u8, u9, u10, u11, u12, u13, u14, u15, u16] ∧ i ≤ 10 ∧ Bag M' p ∧ ∀ y ∈ gs, (∃ a ys, y = .ref a ∧ a ≠ p ∧ M' a = some (.lst ys) ∧ ys.length ≤ 1000 + i) ∨ (okT y = true ∧ isLi y = false))
    ⟨u6, rfl, by omega, g.bag, fun y hy => (g.ok y hy).imp (fun ⟨a, ys, h1, h2, h3, h4⟩ => ⟨a, ys, h1, h2, h3, by omega⟩) id⟩ (fun _ _ _ _ => trivial) ?_ ?_
  · rintro i y σ M' hy ⟨v, rfl, hi, hb, ok⟩
    have hil : i < gs.length := (List.getElem?_eq_some_iff.mp hy).1
    rcases ok y (List.mem_of_getElem? hy) with ⟨a, ys, rfl, ha, e1, hl1⟩ | ⟨h1, h2⟩
    · repeat walk_at "rd"
      refine rd_isi1 (t := .type "list") (b := true) (by simp [D.typ, e1]) (fun C e => by cases e) (by rfl) ?_
      repeat walk_at "rd"
      refine rd_tapp ?_
      repeat walk_at "rd"
      refine ⟨⟨a, ys, rfl, e1⟩, ?_⟩
      repeat walk_at "rd"
      refine ⟨a, ys, rfl, e1, by omega, ?_⟩
      repeat walk_at "rd"
      refine ⟨_, rfl, by omega, hb.keep (Ne.symm ha), fun z hz => ?_⟩
      rcases ok z hz with ⟨c, zs, rfl, hc, e2, hl2⟩ | h
      · by_cases ec : c = a
        · subst ec
          rw [e1] at e2
          cases e2
          exact .inl ⟨c, _, rfl, hc, put_same, by rw [List.length_append]; show ys.length + 1 ≤ _; omega⟩
        · exact .inl ⟨c, zs, rfl, hc, by rw [put_ne ec]; exact e2, by omega⟩
      · exact .inr h
    · repeat walk_at "rd"
      refine isi_lst (by rw [fzT h1]; exact h1) ?_
      repeat walk_at "rd"
      rw [fzT h1, h2]
      repeat walk_at "rd"
      exact ⟨_, rfl, by omega, hb, fun z hz => (ok z hz).imp (fun ⟨c, zs, a1, a2, a3, a4⟩ => ⟨c, zs, a1, a2, a3, by omega⟩) id⟩
  · rintro σ M' ⟨v, rfl, _, hb, _⟩
    exact q v M' hb
theorem wanted_lc {u0 u1 u2 u3 u5 u6 u7 u8 u9 u10 u11 u12 u13 u14 u15 u16 : Option D} {xs : List D} {M : Mem} {Q : VK3} {E : XK3} (ho : xs.all okT = true) (hl : xs.length ≤ 10) (q : Q (.lst (vals xs)) M) :
    tLc3 (iSeq3 (tVar3 4)) (.one 6) [6] tYes3 (tIf3 (tTest3 (tCB3 (aIsi3 K) (tCons3 (tVar3 6) (tCons3 (tC3 (.ty "list")) tNil3)))) (tCB3 aTup3 (tCons3 (tVar3 6) tNil3)) (tVar3 6))
      [u0, u1, u2, u3, some (.lst xs), u5, u6, u7, u8, u9, u10, u11, u12, u13, u14, u15, u16] M Q E := by
  refine rd_lc (rd_iSeq ?_)
  repeat walk_at "rd"
  refine ⟨xs, rfl, ?_⟩
  refine lcP_map (fun _ => true) tupOf (by omega) (fun _ _ _ => trivial) (fun x hx => ?_) ?_
  · have hox : okT x = true := List.all_eq_true.mp ho x hx
    refine ⟨_, rfl, fun L acc Q' hL q' => q', fun _ L acc Q' hL q' => ?_⟩
    repeat walk_at "rd"
    refine isi_lst (by rw [fzT hox]; exact hox) ?_
    repeat walk_at "rd"
    rw [fzT hox]
    refine rd_ite (fun e => ?_) fun e => ?_
    · obtain ⟨ys, rfl⟩ := isLi_is e
      repeat walk_at "rd"
      refine rd_tuple rfl ?_
      exact q'
    · repeat walk_at "rd"
      have et : tupOf x = x := by cases x <;> first | rfl | cases e
      rw [et] at q'
      exact q'
  · rw [List.filter_eq_self.mpr (fun _ _ => rfl)]
    exact q
end
end K68

namespace K68
open PySem PySem.Spec PyProof.Rows L2 L3
local macro_rules | `(tactic| walk_at "rd") => `(tactic| first
  | (with_reducible refine rd_seq ?_) | (with_reducible refine rd_ifS ?_) | (with_reducible refine rd_asg ?_) | (with_reducible refine rd_ret ?_) | (with_reducible refine rd_drop ?_) | (with_reducible refine rd_next ?_)
  | (with_reducible refine rd_name ?_) | (with_reducible refine rd_cons ?_) | (with_reducible refine rd_nil ?_) | (with_reducible refine rd_c ?_) | (with_reducible refine rd_op ?_) | (with_reducible refine rd_un ?_)
  | (with_reducible refine rd_test ?_) | (with_reducible refine rd_chain ?_) | (with_reducible refine rd_and ?_) | (with_reducible refine rd_or ?_) | (with_reducible refine rd_not ?_) | (with_reducible refine rd_andV ?_) | (with_reducible refine rd_orV ?_) | (with_reducible refine rd_notV ?_)
  | (with_reducible refine rd_if ?_) | (with_reducible refine rd_exbl ?_) | (with_reducible refine rd_exint ?_) | (with_reducible refine rd_tup ?_) | (with_reducible refine rd_lst ?_) | (with_reducible refine rd_lstM ?_) | (with_reducible refine rd_cb ?_) | (with_reducible refine rd_call ?_) | (with_reducible refine rd_make ?_)
  | (with_reducible refine rd_sl ?_) | (with_reducible refine rd_part ?_) | (with_reducible refine rd_nopart ?_) | (with_reducible refine rd_par ?_) | (with_reducible refine rd_expar ?_) | (with_reducible refine rd_tru ?_)
  | (with_reducible refine rd_for ?_) | (with_reducible refine rd_raise ?_) | (with_reducible refine rd_fldS ?_) | (with_reducible refine rd_retN ?_) | (with_reducible refine rd_break ?_) | (with_reducible refine rd_cont ?_)
  | (with_reducible refine rd_endrt ?_) | (with_reducible refine rd_endnx ?_) | (with_reducible refine rd_endex ?_) | (with_reducible refine rd_nx ?_) | (with_reducible refine rd_rt ?_) | (with_reducible refine rd_bk ?_) | (with_reducible refine rd_ct ?_) | (with_reducible refine rd_ex ?_)
  | (with_reducible refine rd_I3 ?_) | (with_reducible refine rd_neg ?_) | (with_reducible refine rd_addI ?_) | (with_reducible refine rd_lt ?_) | (with_reducible refine rd_le ?_) | (with_reducible refine rd_gt ?_) | (with_reducible refine rd_ge ?_)
  | (with_reducible refine rd_isN ?_) | (with_reducible refine rd_notN ?_) | (with_reducible refine rd_eqI ?_) | (with_reducible refine rd_neI ?_) | (with_reducible refine rd_int1 ?_) | (with_reducible refine rd_intOf ?_)
  | (with_reducible refine rd_p6 ?_) | (with_reducible refine rd_p18 ?_) | (with_reducible refine rd_p20 ?_) | (with_reducible refine rd_p30 ?_)
  | ((with_reducible refine rd_IC3 ?cc ?_); (case cc => first | decide | exact Or.inr (Or.inr ⟨by decide, by decide⟩) | exact Or.inr (Or.inl ⟨by decide, by decide⟩) | exact ⟨by decide, by decide⟩))
  | ((with_reducible show tVar3 _ _ _ _ _); refine rd_var rfl ?_)
  | ((with_reducible show opIx3 _ (D.int _) _ _); refine rd_ix (by first | exact rfl | assumption) (by first | exact rfl | assumption) ?_)
  | ((with_reducible show aLen3 [_] _ _); refine rd_len (by first | exact rfl | assumption) ?_)
  | (with_reducible refine rd_le1 ?_) 
  | (with_reducible refine rd_iteTT ?_) | (with_reducible refine rd_iteFF ?_))
section
variable {P : Program} {w : World} {K : PySem.W.Frag} {mg : Str → Option Value} {base : Heap} {A : Adr}
theorem use_things {p : Addr} {k : Kind} {M : Mem} {Q : VK3} {E : XK3} (b : Bag M p) (q : ∀ xs l, xs.length = k.n → xs.all okT = true → Bag3 l → Q (.lst xs) (M.put p (.lst l))) : sp_law_things K A ([.ref p, .str k.name] ++ []) M Q E :=
  ⟨p, _, rfl, b, ⟨k, rfl⟩, fun r l ⟨k', e, xs, er, h1, h2⟩ hl => by
    have ek : k.name = k'.name := by
      have := (List.cons.inj e).1
      injection this
    have e2 : k = k' := same_eq (by rw [← name_same]; exact decide_eq_true ek)
    subst e2 er
    exact q xs l h1 h2 hl⟩
theorem name_inj {k k' : Kind} (h : k.name = k'.name) : k = k' := same_eq (by rw [← name_same]; exact decide_eq_true h)
theorem use_other {p : Addr} {k : Kind} {xs : List D} {M : Mem} {Q : VK3} {E : XK3} (b : Bag M p) (h1 : xs.length = k.n) (h2 : xs.all okT = true) (h3 : chk k xs = none) (q : ∀ ys l, ys.length = k.n → ys.all okT = true → eqAll (vals xs) (vals ys) = false → Bag3 l → Q (.lst ys) (M.put p (.lst l))) :
    sp_law_other K A ([.ref p, .str k.name, .lst xs] ++ []) M Q E :=
  ⟨p, _, rfl, b, ⟨k, xs, rfl, h1, h2, h3⟩, fun r l ⟨k', xs', ys, e, er, a1, a2, a3⟩ hl => by
    have ek : k.name = k'.name := by
      have := (List.cons.inj e).1
      injection this
    have ex : xs = xs' := by
      have := (List.cons.inj (List.cons.inj e).2).1
      injection this
    have e2 := name_inj ek
    subst e2 ex er
    exact q ys l a1 a2 a3 hl⟩
theorem okT_tupOf {x : D} (h : okT x = true) : okT (tupOf x) = true := by cases x <;> exact h
theorem vals_okT {xs : List D} (h : xs.all okT = true) : (vals xs).all okT = true := by
  rw [List.all_eq_true] at h ⊢
  intro y hy
  obtain ⟨x, hx, rfl⟩ := List.mem_map.mp hy
  exact okT_tupOf (h x hx)
theorem vals_len {xs : List D} : (vals xs).length = xs.length := List.length_map _
theorem n_le {k : Kind} : k.n ≤ 5 := by cases k <;> decide
theorem own_same (T : Txt K mg A) {k : Kind} {vs : List D} {neg : Bool} {M : Mem} {Q : VK3} (h1 : vs.length = k.n) (h2 : vs.all okT = true) (hr : ∀ x ∈ vs, right x) (q : Q (.bl (!neg)) M) :
    own3 K (okC A) (spE K A) neg (.ins (cls A k) ((keys k).zip vs)) (.ins (cls A k) ((keys k).zip vs)) M Q := own_ins T h1 h2 h1 h2 (by rw [eqAll_refl hr, Bool.true_xor]; exact q)
def kindsL : List D := [.tup [.str Kind.ba.name, .lst (plain .ba)], .tup [.str Kind.ro.name, .lst (plain .ro)], .tup [.str Kind.sh.name, .lst (plain .sh)], .tup [.str Kind.sp.name, .lst (plain .sp)]]
theorem kinds_mem {y : D} (h : y ∈ kindsL) : ∃ k : Kind, y = .tup [.str k.name, .lst (plain k)] := by
  simp only [kindsL, List.mem_cons, List.not_mem_nil, or_false] at h
  rcases h with rfl | rfl | rfl | rfl
  · exact ⟨.ba, rfl⟩
  · exact ⟨.ro, rfl⟩
  · exact ⟨.sh, rfl⟩
  · exact ⟨.sp, rfl⟩
theorem rd_neB {a b : Bool} {M : Mem} {Q : VK3} (e : a = b) (q : Q (.bl false) M) : opNeD3 (.bl a) (.bl b) M Q := rd_neT rfl rfl (by rw [eqD_bl, e, beq_self_eq_true]; exact q)
theorem pure_law (T : Txt K mg A) : ∀ ds M Q E, sp_law K A ds M Q E → t_law K A (endsOf Q E) (start3 N_law ds) M := by
  rintro ds M Q E ⟨ns, rfl, hn, h⟩
  unfold t_law
  repeat walk_at "rd"
  refine rd_rng ?_
  repeat walk_at "rd"
  refine ⟨3, rfl, by omega, by omega, ?_⟩
  refine rd_forP (fun i σ M' => ∃ u1 u2 u3 u4 u5 u6 u7 u8 u9 u10 u11 u12 u13 u14 u15 u16, σ = [some (.lst (ns.map .int)), u1, u2, u3, u4, u5, u6, u7, u8, u9, u10, u11, u12, u13, u14, u15, u16]) ⟨_, _, _, _, _, _, _, _, _, _, _, _, _, _, _, _, rfl⟩ (fun _ _ _ _ => trivial) ?_ ?_
  rotate_left
  · rintro σ M' ⟨u1, u2, u3, u4, u5, u6, u7, u8, u9, u10, u11, u12, u13, u14, u15, u16, rfl⟩
    repeat walk_at "rd"
    exact h _
  rintro i x σ M1 hx ⟨u1, u2, u3, u4, u5, u6, u7, u8, u9, u10, u11, u12, u13, u14, u15, u16, rfl⟩
  obtain ⟨at_, rfl, a0, a1⟩ : ∃ at_ : Int, x = .int at_ ∧ 0 ≤ at_ ∧ at_ ≤ 1000 := by
    unfold rngD at hx
    rw [List.getElem?_map, Option.map_eq_some_iff] at hx
    obtain ⟨j, hj, ex⟩ := hx
    obtain ⟨hl, ej⟩ := List.getElem?_eq_some_iff.mp hj
    rw [List.getElem_range] at ej
    rw [List.length_range] at hl
    subst ej
    exact ⟨_, ex.symm, by omega, by have : (3 : Int).toNat = 3 := rfl; omega⟩
  clear hx
  repeat walk_at "rd"
  refine ⟨ns, at_, rfl, hn, a0, a1, fun p l0 hp hl0 => ?_⟩
  have hb0 : Bag (M1.put p (.lst l0)) p := Bag.put hl0
  repeat walk_at "rd"
  refine use_of hb0 (List.cons_ne_nil _ _) (by simp) fun r l1 hr hl1 => ?_
  rw [put_put]
  obtain ⟨k, rfl⟩ : ∃ k : Kind, r = .str k.name := by
    simp only [List.mem_cons, List.not_mem_nil, or_false] at hr
    rcases hr with rfl | rfl | rfl | rfl | rfl | rfl | rfl
    · exact ⟨.ba, rfl⟩
    · exact ⟨.ba, rfl⟩
    · exact ⟨.ro, rfl⟩
    · exact ⟨.ro, rfl⟩
    · exact ⟨.ro, rfl⟩
    · exact ⟨.sh, rfl⟩
    · exact ⟨.sp, rfl⟩
  clear hr
  repeat walk_at "rd"
  refine use_things (Bag.put hl1) fun xs l2 hxl hxo hl2 => ?_
  rw [put_put]
  have h10 : xs.length ≤ 10 := by have := n_le (k := k); omega
  iterate 4 walk_at "rd"
  refine given_lc (Bag.put hl2) hxo h10 fun gs M2 g => ?_
  have hgl : gs.length = xs.length := by rw [← g.fz, List.length_map]
  repeat walk_at "rd"
  refine ⟨k, xs, rfl, hxl, hxo, ?_⟩
  repeat walk_at "rd"
  refine use_take g.bag (by decide) (by decide) fun n3 l3 _ _ hl3 => ?_
  have g3 := g.put hl3
  iterate 6 walk_at "rd"
  have hmade : ∀ (Q' : VK3) (E' : XK3), Q' (madeOf A k xs) (M2.put p (.lst l3)) → spMade A ([.str k.name, .lst gs] ++ []) (M2.put p (.lst l3)) Q' E' := fun Q' E' q' => ⟨k, gs, rfl, by rw [hgl]; exact hxl, by rw [g3.fz]; exact hxo, by rw [g3.fz]; exact q'⟩
  refine rd_ifD (d := madeOf A k xs) ?_ fun Q' hQ' => ?_
  rotate_left
  · repeat walk_at "rd"
    refine rd_ite (fun e => ?_) fun e => ?_
    · repeat walk_at "rd"
      exact hmade _ _ hQ'
    · repeat walk_at "rd"
      exact hmade _ _ hQ'
  cases hc : chk k xs with
  | some w =>
    have hm : madeOf A k xs = said w := by unfold madeOf; rw [hc]
    have hw := chk_word hc
    rw [hm]
    repeat walk_at "rd"
    refine rd_iteT rfl ?_
    repeat walk_at "rd"
    refine rd_isi1 (t := .type "tuple") (b := true) rfl (fun C e => by cases e) (by rfl) ?_
    repeat walk_at "rd"
    refine rd_iteF rfl ?_
    repeat walk_at "rd"
    refine rd_neT (a := said w) (b := said w) (said_ok hw) (said_ok hw) ?_
    rw [said_eq]
    repeat walk_at "rd"
    refine rd_iteF rfl ?_
    repeat walk_at "rd"
    exact ⟨_, _, _, _, _, _, _, _, _, _, _, _, _, _, _, _, rfl⟩
  | none =>
    have hm : madeOf A k xs = .ins (cls A k) ((keys k).zip (vals xs)) := by unfold madeOf; rw [hc]; rfl
    have hv1 : (vals xs).length = k.n := by rw [vals_len]; exact hxl
    have hright := vals_right hxl hxo hc
    have hv2 := rights_okT hright
    rw [hm]
    repeat walk_at "rd"
    refine rd_iteF rfl ?_
    repeat walk_at "rd"
    refine isi_madeT T ?_
    repeat walk_at "rd"
    refine isi_madeC T ?_
    repeat walk_at "rd"
    refine rd_iteF rfl ?_
    iterate 2 walk_at "rd"
    refine app_loop g3 (by omega) fun v6 M4 hb4 => ?_
    repeat walk_at "rd"
    refine ⟨k, vals xs, rfl, hv1, ?_⟩
    iterate 1 walk_at "rd"
    refine wanted_lc hxo h10 ?_
    repeat walk_at "rd"
    refine rd_neL hv2 hv2 rfl ?_
    rw [eqAll_refl hright]
    repeat walk_at "rd"
    refine rd_iteF rfl ?_
    repeat walk_at "rd"
    refine ⟨k, xs, rfl, hxl, hxo, hc, ?_⟩
    repeat walk_at "rd"
    refine rd_iteF rfl ?_
    repeat walk_at "rd"
    refine ⟨k, xs, rfl, hxl, by rw [all_fz hxo]; exact hxo, ?_⟩
    rw [all_fz hxo, hm]
    repeat walk_at "rd"
    refine use_other hb4 hxl hxo hc fun ys l5 hyl hyo hne hl5 => ?_
    repeat walk_at "rd"
    refine ⟨k, ys, rfl, hyl, by rw [all_fz hyo]; exact hyo, ?_⟩
    rw [all_fz hyo]
    repeat walk_at "rd"
    refine own_same T hv1 hv2 hright ?_
    repeat walk_at "rd"
    refine rd_iteF rfl ?_
    repeat walk_at "rd"
    refine own_same T hv1 hv2 hright ?_
    repeat walk_at "rd"
    refine rd_iteF rfl ?_
    repeat walk_at "rd"
    have hun : (match chk k ys with | some _ => false | none => k.same k && eqAll (vals xs) (vals ys)) = false := by
      cases chk k ys with
      | some w => rfl
      | none => show (k.same k && eqAll (vals xs) (vals ys)) = false; rw [hne, Bool.and_false]
    refine own_made T (b := false) hv1 hv2 hyl (vals_okT hyo) hun ?_
    repeat walk_at "rd"
    refine rd_iteF rfl ?_
    repeat walk_at "rd"
    refine own_made T (b := false) hv1 hv2 hyl (vals_okT hyo) hun ?_
    repeat walk_at "rd"
    refine rd_iteF rfl ?_
    repeat walk_at "rd"
    refine rd_iSeq ?_
    repeat walk_at "rd"
    refine ⟨kindsL, rfl, ?_⟩
    refine rd_forP (fun i σ M' => M' = M4.put p (.lst l5) ∧ ∃ v15 v16, σ = [some (.lst (ns.map .int)), some (.int at_), some (.ref p), some (.str k.name), some (.lst xs), some (.lst gs), v6, some .non, some (.bl (decide (n3 = 0))), some (.ins (cls A k) ((keys k).zip (vals xs))), some (.lst (vals xs)), some (.lst (vals xs)),
      some (.ins (cls A k) ((keys k).zip (vals xs))), some (madeOf A k ys), some (.lst kindsL), v15, v16]) ⟨rfl, _, _, rfl⟩ (fun _ _ _ _ => trivial) ?_ ?_
    · rintro j y σ M' hy ⟨rfl, v15, v16, rfl⟩
      obtain ⟨k', rfl⟩ := kinds_mem (List.mem_of_getElem? hy)
      have hp := rights_okT (plain_right (k := k'))
      refine ⟨_, .inl rfl, rfl, _, _, rfl, _, _, rfl, rfl, ?_⟩
      repeat walk_at "rd"
      refine ⟨k', plain k', rfl, plain_len, by rw [all_fz hp]; exact hp, ?_⟩
      rw [all_fz hp]
      refine own_made T (b := k.same k' && eqAll (vals xs) (plain k')) hv1 hv2 plain_len (by rw [plain_vals]; exact hp) (by rw [plain_chk, plain_vals]) ?_
      repeat walk_at "rd"
      refine rd_eqK (k := k') (k' := k) ?_
      repeat walk_at "rd"
      refine rd_ite (fun e => ?_) fun e => ?_
      · have ek := same_eq e
        subst ek
        repeat walk_at "rd"
        refine rd_eqL hp hv2 (by rw [plain_len, hv1]) ?_
        refine rd_neB ?_ ?_
        · rw [same_refl, Bool.true_and, Bool.xor_false]
          exact eqAll_comm hright plain_right
        repeat walk_at "rd"
        exact ⟨rfl, _, _, rfl⟩
      · have e' : k.same k' = false := by
          cases hk : k.same k' with
          | false => rfl
          | true =>
            have := same_eq hk
            subst this
            rw [same_refl] at e
            cases e
        repeat walk_at "rd"
        refine rd_neB ?_ ?_
        · rw [e', Bool.false_and]
          rfl
        repeat walk_at "rd"
        exact ⟨rfl, _, _, rfl⟩
    · rintro σ M' ⟨rfl, v15, v16, rfl⟩
      repeat walk_at "rd"
      refine own_ty T hv1 hv2 (n := "list") rfl sub_list ?_
      repeat walk_at "rd"
      refine rd_tuple rfl ?_
      refine own_ty T hv1 hv2 (n := "tuple") rfl sub_tuple ?_
      repeat walk_at "rd"
      refine own_ty T hv1 hv2 (n := "int") rfl sub_int ?_
      repeat walk_at "rd"
      refine own_ty T hv1 hv2 (n := "str") rfl sub_str ?_
      repeat walk_at "rd"
      exact ⟨_, _, _, _, _, _, _, _, _, _, _, _, _, _, _, _, rfl⟩
theorem len_law : ∀ ds M Q E, sp_law K A ds M Q E → ds.length = (["script"] : List Str).length := fun ds M Q E ⟨ns, e, _⟩ => by
  subst e
  rfl
end
end K68

namespace K68
open PySem PySem.Spec PyProof.Rows L2 L3
section
variable {P : Program} {w : World} {K : PySem.W.Frag} {mg : Str → Option Value} {base : Heap} {A : Adr}
theorem ok_BadChange_init (T : Txt K mg A) : FnOk P w K mg base CX0 1 A.f_BadChange_init A.d_BadChange_init ["self", "what"] (spX A.C_BadChange ["what"]) := by
  obtain ⟨mc, BI⟩ := T.bi_BadChange
  refine L2.Fun.ok T.F_BadChange_init sc_BadChange_init (fun vs H Q E h => ?_) (fun cdv Ar outer s H vs Q E hr h => ?_)
  · obtain ⟨a, ys, rfl, hl, _⟩ := h
    simp [hl]
  · obtain ⟨a, ys, rfl, hl, hne, ha, q⟩ := h
    match ys, hl with
    | [y], _ =>
      refine ⟨tSeq (tDrop (tVeI K (tCons (tVar 0) (tCons (tC (.str "a change is wrong")) tNil)))) (tOst K "what" (tVar 0) (tVar 1)), pss_cons (ps_expr (pe_binit BI (pa_cons (pv 0) (pa_cons pe_str pa_nil))) rfl) (pss_one (ps_ost (pv 0) (pv 1) rfl)), ?_⟩
      exact xinit1 (f := "what") (y := y) (a := a) T.xo_BadChange T.xn_BadChange_what ⟨a, [y], rfl, rfl, hne, ha, q⟩
theorem eq_of_ok {k : Kind} {n : Nat} {f : Addr} {fd : FuncData} (T : Txt K mg A) (F : Ok3 P w K mg base n f fd ["self", "other"] (spCmp K A k)) (h : PySem.W.findIn K (.ref (cls A k)) "__eq__" = some (some (.ref f)) ∧ PySem.W.isFn K (.ref f) = true ∧ PySem.W.findIn K (.ref (cls A k)) "__ne__" = some (some (.builtin "object.__ne__")))
    (hb : Binds K fd ["self", "other"] []) : EqT P w K mg base n (cls A k) (spE K A (cls A k)) where
  ok := ⟨f, fd, ["self", "other"], FnOk.imp F fun vs H Q E ⟨ds, M, Q3, E3, m, r, ⟨k', e, z⟩, vl, el⟩ => by
    have ek := cls_inj T e
    subst ek
    exact ⟨ds, M, Q3, E3, m, r, z, vl, el⟩, h.1, h.2.1, hb⟩
  ne := h.2.2
  ob := (cd_of T k).hm
end
section
variable {P : Program} {w : World} {K : PySem.W.Frag} {mg : Str → Option Value} {base : Heap} {A : Adr}
/- levels: BadChange_init 1, is_number 1, is_whole 2, is_point 3, Ballast_init 3, Ballast_eq 1, Rod_init 4, Rod_eq 1, Shut_init 3, Shut_eq 1, Spaced_init 3, Spaced_eq 1, law_bag 1, law_take 1, law_of 2, law_is_number 1, law_within 2, law_is_point 3, law_pick 3, law_far 3, law_point 4, law_rod 5, law_things 6, law_due 4, law_made 6, law_named 6, law_fields 1, law_kinds_right 2, law_other 2, law 7 -/
theorem ok_is_number (T : Txt K mg A) : Ok3 P w K mg base 1 A.f_is_number A.d_is_number ["thing"] (sp_is_number K A) := ok3 (t := t_is_number K A) T.F_is_number sc_is_number len_is_number (fun cdv Ar outer s H E hr =>
    (s_one (s_ret (p_and (p_isi T.n_isinstance (a_cons (p_var (pv 0)) (a_cons (p_ty T.n_int (by decide +kernel)) a_nil))) (p_one (p_not (p_isi T.n_isinstance (a_cons (p_var (pv 0)) (a_cons (p_ty T.n_bool (by decide +kernel)) a_nil))))))))) (pure_is_number T)
theorem ok_is_whole (T : Txt K mg A) : Ok3 P w K mg base 2 A.f_is_whole A.d_is_whole ["thing", "low", "high"] (sp_is_whole K A) := ok3 (t := t_is_whole K A) T.F_is_whole sc_is_whole len_is_whole (fun cdv Ar outer s H E hr =>
    (s_one (s_ret (p_and (p_call (ok_is_number T) (hr.mono (by decide)) T.g_is_number T.F_is_number.kp T.b_is_number .nil rfl (takes_of rfl rfl rfl rfl) (a_cons (p_var (pv 0)) a_nil)) (p_one (p_leLe (p_var (pv 1)) (p_var (pv 0)) (p_var (pv 2)))))))) (pure_is_whole T)
theorem ok_is_point (T : Txt K mg A) : Ok3 P w K mg base 3 A.f_is_point A.d_is_point ["thing"] (sp_is_point K A) := ok3 (t := t_is_point K A) T.F_is_point sc_is_point len_is_point (fun cdv Ar outer s H E hr =>
    (s_one (s_ret (p_and (p_isi T.n_isinstance (a_cons (p_var (pv 0)) (a_cons (p_tup (a_cons (p_ty T.n_list (by decide +kernel)) (a_cons (p_ty T.n_tuple (by decide +kernel)) a_nil))) a_nil))) (p_and (p_eqD hr (p_len T.n_len (a_cons (p_var (pv 0)) a_nil)) p_int) (p_and (p_call (ok_is_whole T) (hr.mono (by decide)) T.g_is_whole T.F_is_whole.kp T.b_is_whole .nil rfl (takes_of rfl rfl rfl rfl) (a_cons (p_ix (p_var (pv 0)) p_int) (a_cons (p_neg (p_gint T.i_FARTHEST_rings)) (a_cons (p_gint T.i_FARTHEST_rings) a_nil)))) (p_one (p_call (ok_is_whole T) (hr.mono (by decide)) T.g_is_whole T.F_is_whole.kp T.b_is_whole .nil rfl (takes_of rfl rfl rfl rfl) (a_cons (p_ix (p_var (pv 0)) p_int) (a_cons (p_neg (p_gint T.i_FARTHEST_rings)) (a_cons (p_gint T.i_FARTHEST_rings) a_nil))))))))))) (pure_is_point T)
theorem ok_Ballast_init (T : Txt K mg A) : Ok3 P w K mg base 3 A.f_Ballast_init A.d_Ballast_init ["self", "stone", "x", "weight"] (sp_Ballast_init K A) := ok3 (t := t_Ballast_init K A) T.F_Ballast_init sc_Ballast_init len_Ballast_init (fun cdv Ar outer s H E hr =>
    (s_cons (s_if (t_not (t_val (p_call (ok_is_whole T) (hr.mono (by decide)) T.g_is_whole T.F_is_whole.kp T.b_is_whole .nil rfl (takes_of rfl rfl rfl rfl) (a_cons (p_var (pv 1)) (a_cons p_int (a_cons (p_gint T.i_LAST_STONE) a_nil)))))) (s_one (s_raise rfl T.xt_BadChange (ok_BadChange_init T) (hr.mono (by decide)) T.b_BadChange_init (takes_of rfl rfl rfl rfl) (by decide) (by decide) T.g_BadChange (a_cons p_str a_nil))) s_nil)
      (s_cons (s_if (t_not (t_val (p_call (ok_is_whole T) (hr.mono (by decide)) T.g_is_whole T.F_is_whole.kp T.b_is_whole .nil rfl (takes_of rfl rfl rfl rfl) (a_cons (p_var (pv 2)) (a_cons (p_neg (p_gint T.i_FARTHEST_changes)) (a_cons (p_gint T.i_FARTHEST_changes) a_nil)))))) (s_one (s_raise rfl T.xt_BadChange (ok_BadChange_init T) (hr.mono (by decide)) T.b_BadChange_init (takes_of rfl rfl rfl rfl) (by decide) (by decide) T.g_BadChange (a_cons p_str a_nil))) s_nil)
      (s_cons (s_if (w_t (w_or (t_not (t_val (p_call (ok_is_whole T) (hr.mono (by decide)) T.g_is_whole T.F_is_whole.kp T.b_is_whole .nil rfl (takes_of rfl rfl rfl rfl) (a_cons (p_var (pv 3)) (a_cons (p_neg (p_gint T.i_HEAVIEST)) (a_cons (p_gint T.i_HEAVIEST) a_nil)))))) (w_or1 (t_eqD hr (p_var (pv 3)) p_int)))) (s_one (s_raise rfl T.xt_BadChange (ok_BadChange_init T) (hr.mono (by decide)) T.b_BadChange_init (takes_of rfl rfl rfl rfl) (by decide) (by decide) T.g_BadChange (a_cons p_str a_nil))) s_nil)
      (s_cons (s_fld (p_var (pv 0)) (p_var (pv 1)))
      (s_cons (s_fld (p_var (pv 0)) (p_var (pv 2)))
      (s_one (s_fld (p_var (pv 0)) (p_var (pv 3)))))))))) (pure_Ballast_init T)
theorem ok_Ballast_eq (T : Txt K mg A) : Ok3 P w K mg base 1 A.f_Ballast_eq A.d_Ballast_eq ["self", "other"] (sp_Ballast_eq K A) := ok3 (t := t_Ballast_eq K A) T.F_Ballast_eq sc_Ballast_eq len_Ballast_eq (fun cdv Ar outer s H E hr =>
    (s_one (s_ret (p_and (p_isi T.n_isinstance (a_cons (p_var (pv 1)) (a_cons (p_gref T.g_Ballast) a_nil))) (p_and (p_eqD hr (p_fld (p_var (pv 0))) (p_fld (p_var (pv 1)))) (p_and (p_eqD hr (p_fld (p_var (pv 0))) (p_fld (p_var (pv 1)))) (p_one (p_eqD hr (p_fld (p_var (pv 0))) (p_fld (p_var (pv 1))))))))))) (pure_Ballast_eq T)
theorem ok_Rod_init (T : Txt K mg A) : Ok3 P w K mg base 4 A.f_Rod_init A.d_Rod_init ["self", "one", "other", "start", "end", "pull"] (sp_Rod_init K A) := ok3 (t := t_Rod_init K A) T.F_Rod_init sc_Rod_init len_Rod_init (fun cdv Ar outer s H E hr =>
    (s_cons (s_if (t_not (t_val (p_call (ok_is_whole T) (hr.mono (by decide)) T.g_is_whole T.F_is_whole.kp T.b_is_whole .nil rfl (takes_of rfl rfl rfl rfl) (a_cons (p_var (pv 1)) (a_cons p_int (a_cons (p_gint T.i_LAST_STONE) a_nil)))))) (s_one (s_raise rfl T.xt_BadChange (ok_BadChange_init T) (hr.mono (by decide)) T.b_BadChange_init (takes_of rfl rfl rfl rfl) (by decide) (by decide) T.g_BadChange (a_cons p_str a_nil))) s_nil)
      (s_cons (s_if (w_t (w_or (t_not (t_val (p_call (ok_is_whole T) (hr.mono (by decide)) T.g_is_whole T.F_is_whole.kp T.b_is_whole .nil rfl (takes_of rfl rfl rfl rfl) (a_cons (p_var (pv 2)) (a_cons p_int (a_cons (p_gint T.i_LAST_STONE) a_nil)))))) (w_or1 (t_eqD hr (p_var (pv 2)) (p_var (pv 1)))))) (s_one (s_raise rfl T.xt_BadChange (ok_BadChange_init T) (hr.mono (by decide)) T.b_BadChange_init (takes_of rfl rfl rfl rfl) (by decide) (by decide) T.g_BadChange (a_cons p_str a_nil))) s_nil)
      (s_cons (s_if (t_not (t_val (p_call (ok_is_point T) (hr.mono (by decide)) T.g_is_point T.F_is_point.kp T.b_is_point .nil rfl (takes_of rfl rfl rfl rfl) (a_cons (p_var (pv 3)) a_nil)))) (s_one (s_raise rfl T.xt_BadChange (ok_BadChange_init T) (hr.mono (by decide)) T.b_BadChange_init (takes_of rfl rfl rfl rfl) (by decide) (by decide) T.g_BadChange (a_cons p_str a_nil))) s_nil)
      (s_cons (s_if (w_t (w_or (t_not (t_val (p_call (ok_is_point T) (hr.mono (by decide)) T.g_is_point T.F_is_point.kp T.b_is_point .nil rfl (takes_of rfl rfl rfl rfl) (a_cons (p_var (pv 4)) a_nil)))) (w_or1 (t_eqD hr (p_tuple T.n_tuple (a_cons (p_var (pv 4)) a_nil)) (p_tuple T.n_tuple (a_cons (p_var (pv 3)) a_nil)))))) (s_one (s_raise rfl T.xt_BadChange (ok_BadChange_init T) (hr.mono (by decide)) T.b_BadChange_init (takes_of rfl rfl rfl rfl) (by decide) (by decide) T.g_BadChange (a_cons p_str a_nil))) s_nil)
      (s_cons (s_if (t_not (t_val (p_call (ok_is_whole T) (hr.mono (by decide)) T.g_is_whole T.F_is_whole.kp T.b_is_whole .nil rfl (takes_of rfl rfl rfl rfl) (a_cons (p_var (pv 5)) (a_cons p_int (a_cons (p_gint T.i_HEAVIEST) a_nil)))))) (s_one (s_raise rfl T.xt_BadChange (ok_BadChange_init T) (hr.mono (by decide)) T.b_BadChange_init (takes_of rfl rfl rfl rfl) (by decide) (by decide) T.g_BadChange (a_cons p_str a_nil))) s_nil)
      (s_cons (s_fld (p_var (pv 0)) (p_var (pv 1)))
      (s_cons (s_fld (p_var (pv 0)) (p_var (pv 2)))
      (s_cons (s_fld (p_var (pv 0)) (p_tuple T.n_tuple (a_cons (p_var (pv 3)) a_nil)))
      (s_cons (s_fld (p_var (pv 0)) (p_tuple T.n_tuple (a_cons (p_var (pv 4)) a_nil)))
      (s_one (s_fld (p_var (pv 0)) (p_var (pv 5)))))))))))))) (pure_Rod_init T)
theorem ok_Rod_eq (T : Txt K mg A) : Ok3 P w K mg base 1 A.f_Rod_eq A.d_Rod_eq ["self", "other"] (sp_Rod_eq K A) := ok3 (t := t_Rod_eq K A) T.F_Rod_eq sc_Rod_eq len_Rod_eq (fun cdv Ar outer s H E hr =>
    (s_one (s_ret (p_and (p_isi T.n_isinstance (a_cons (p_var (pv 1)) (a_cons (p_gref T.g_Rod) a_nil))) (p_and (p_eqD hr (p_fld (p_var (pv 0))) (p_fld (p_var (pv 1)))) (p_and (p_eqD hr (p_fld (p_var (pv 0))) (p_fld (p_var (pv 1)))) (p_and (p_eqD hr (p_fld (p_var (pv 0))) (p_fld (p_var (pv 1)))) (p_and (p_eqD hr (p_fld (p_var (pv 0))) (p_fld (p_var (pv 1)))) (p_one (p_eqD hr (p_fld (p_var (pv 0))) (p_fld (p_var (pv 1))))))))))))) (pure_Rod_eq T)
theorem ok_Shut_init (T : Txt K mg A) : Ok3 P w K mg base 3 A.f_Shut_init A.d_Shut_init ["self", "name"] (sp_Shut_init K A) := ok3 (t := t_Shut_init K A) T.F_Shut_init sc_Shut_init len_Shut_init (fun cdv Ar outer s H E hr =>
    (s_cons (s_if (w_t (w_or (t_not (t_val (p_isi T.n_isinstance (a_cons (p_var (pv 1)) (a_cons (p_ty T.n_str (by decide +kernel)) a_nil))))) (w_or1 (t_not (t_leLe p_int (p_len T.n_len (a_cons (p_var (pv 1)) a_nil)) (p_gint T.i_MOST_LETTERS)))))) (s_one (s_raise rfl T.xt_BadChange (ok_BadChange_init T) (hr.mono (by decide)) T.b_BadChange_init (takes_of rfl rfl rfl rfl) (by decide) (by decide) T.g_BadChange (a_cons p_str a_nil))) s_nil)
      (s_cons (s_if (t_val (p_any rfl T.n_any (a_cons (p_lc (own := [("letter", 2)]) (T := (.one 2)) rfl sc_Shut_init.nd (by refine blkOk_by (N := N_Shut_init) (sc := defScope s_Shut_init) ?_; decide +kernel) (by decide) (i_str (p_var (pv 1))) (fun s H C cl fp => (pg_name (i := 2) sc_Shut_init.nd rfl (by first | exact Or.inl rfl | exact Or.inr rfl) (by first | exact .inr rfl | exact .inl rfl))) (fun s H C cl fp => ts_nil) (fun s H C cl fp => (p_notInD hr (p_var (pv 2)) (p_gstr T.s_LETTERS)))) a_nil))) (s_one (s_raise rfl T.xt_BadChange (ok_BadChange_init T) (hr.mono (by decide)) T.b_BadChange_init (takes_of rfl rfl rfl rfl) (by decide) (by decide) T.g_BadChange (a_cons p_str a_nil))) s_nil)
      (s_one (s_fld (p_var (pv 0)) (p_var (pv 1))))))) (pure_Shut_init T)
theorem ok_Shut_eq (T : Txt K mg A) : Ok3 P w K mg base 1 A.f_Shut_eq A.d_Shut_eq ["self", "other"] (sp_Shut_eq K A) := ok3 (t := t_Shut_eq K A) T.F_Shut_eq sc_Shut_eq len_Shut_eq (fun cdv Ar outer s H E hr =>
    (s_one (s_ret (p_and (p_isi T.n_isinstance (a_cons (p_var (pv 1)) (a_cons (p_gref T.g_Shut) a_nil))) (p_one (p_eqD hr (p_fld (p_var (pv 0))) (p_fld (p_var (pv 1))))))))) (pure_Shut_eq T)
theorem ok_Spaced_init (T : Txt K mg A) : Ok3 P w K mg base 3 A.f_Spaced_init A.d_Spaced_init ["self", "extra"] (sp_Spaced_init K A) := ok3 (t := t_Spaced_init K A) T.F_Spaced_init sc_Spaced_init len_Spaced_init (fun cdv Ar outer s H E hr =>
    (s_cons (s_if (t_not (t_val (p_call (ok_is_whole T) (hr.mono (by decide)) T.g_is_whole T.F_is_whole.kp T.b_is_whole .nil rfl (takes_of rfl rfl rfl rfl) (a_cons (p_var (pv 1)) (a_cons p_int (a_cons (p_gint T.i_MOST_EXTRA) a_nil)))))) (s_one (s_raise rfl T.xt_BadChange (ok_BadChange_init T) (hr.mono (by decide)) T.b_BadChange_init (takes_of rfl rfl rfl rfl) (by decide) (by decide) T.g_BadChange (a_cons p_str a_nil))) s_nil)
      (s_one (s_fld (p_var (pv 0)) (p_var (pv 1)))))) (pure_Spaced_init T)
theorem ok_Spaced_eq (T : Txt K mg A) : Ok3 P w K mg base 1 A.f_Spaced_eq A.d_Spaced_eq ["self", "other"] (sp_Spaced_eq K A) := ok3 (t := t_Spaced_eq K A) T.F_Spaced_eq sc_Spaced_eq len_Spaced_eq (fun cdv Ar outer s H E hr =>
    (s_one (s_ret (p_and (p_isi T.n_isinstance (a_cons (p_var (pv 1)) (a_cons (p_gref T.g_Spaced) a_nil))) (p_one (p_eqD hr (p_fld (p_var (pv 0))) (p_fld (p_var (pv 1))))))))) (pure_Spaced_eq T)
theorem ok_law_bag (T : Txt K mg A) : Ok3 P w K mg base 1 A.f_law_bag A.d_law_bag ["script", "at"] (sp_law_bag K A) := ok3 (t := t_law_bag K A) T.F_law_bag sc_law_bag len_law_bag (fun cdv Ar outer s H E hr =>
    (s_cons (s_set (i := 2) sc_law_bag.nd (p_if (t_ltI (p_var (pv 1)) (p_len T.n_len (a_cons (p_var (pv 0)) a_nil))) (p_abs T.n_abs (a_cons (p_ix (p_var (pv 0)) (p_var (pv 1))) a_nil)) p_int))
      (s_cons (s_set (i := 3) sc_law_bag.nd (p_add p_int (p_mul p_int (p_var (pv 1)))))
      (s_cons (s_for (passes_of rfl) rfl (i_enum T.n_enumerate (a_cons (p_sl (p_var (pv 0)) o_none (o_some p_int)) a_nil)) (g_seq rfl (gs_cons (g_name (i := 4) sc_law_bag.nd) (gs_cons (g_name (i := 5) sc_law_bag.nd) gs_nil))) (s_one (s_set (i := 3) sc_law_bag.nd (p_mod (p_intOf T.n_int (a_cons (p_add (p_add (p_mul (p_var (pv 3)) p_int) (p_mod (p_intOf T.n_int (a_cons (p_var (pv 5)) a_nil)) p_int)) (p_mul p_int (p_var (pv 4)))) a_nil)) p_int))))
      (s_one (s_ret (p_lstM (a_cons (p_if (t_geI (p_var (pv 2)) (p_pow p_int p_int)) (p_var (pv 2)) p_int) (a_cons (p_var (pv 3)) (a_cons p_int a_nil)))))))))) (pure_law_bag T)
theorem ok_law_take (T : Txt K mg A) : Ok3 P w K mg base 1 A.f_law_take A.d_law_take ["bag", "many"] (sp_law_take K A) := ok3 (t := t_law_take K A) T.F_law_take sc_law_take len_law_take (fun cdv Ar outer s H E hr =>
    (s_cons (s_if (t_gtI (p_ix (p_var (pv 0)) p_int) p_int) (s_cons (s_set (i := 2) sc_law_take.nd (p_mod (p_intOf T.n_int (a_cons (p_ix (p_var (pv 0)) p_int) a_nil)) (p_var (pv 1))))
      (s_cons (s_asg (p_fdiv (p_ix (p_var (pv 0)) p_int) (p_var (pv 1))) (g_sub (W := noW) (p_var (pv 0)) p_int))
      (s_one (s_ret (p_var (pv 2)))))) s_nil)
      (s_cons (s_asg (p_add (p_ix (p_var (pv 0)) p_int) p_int) (g_sub (W := noW) (p_var (pv 0)) p_int))
      (s_cons (s_asg (p_mod (p_intOf T.n_int (a_cons (p_add (p_add (p_mul (p_ix (p_var (pv 0)) p_int) p_int) (p_mul p_int (p_ix (p_var (pv 0)) p_int))) p_int) a_nil)) p_int) (g_sub (W := noW) (p_var (pv 0)) p_int))
      (s_one (s_ret (p_mod (p_fdiv (p_mod (p_intOf T.n_int (a_cons (p_mul (p_ix (p_var (pv 0)) p_int) p_int) a_nil)) p_int) p_int) (p_var (pv 1))))))))) (pure_law_take T)
theorem ok_law_of (T : Txt K mg A) : Ok3 P w K mg base 2 A.f_law_of A.d_law_of ["bag", "some"] (sp_law_of K A) := ok3 (t := t_law_of K A) T.F_law_of sc_law_of len_law_of (fun cdv Ar outer s H E hr =>
    (s_one (s_ret (p_ix (p_var (pv 1)) (p_call (ok_law_take T) (hr.mono (by decide)) T.g_law_take T.F_law_take.kp T.b_law_take .nil rfl (takes_of rfl rfl rfl rfl) (a_cons (p_var (pv 0)) (a_cons (p_len T.n_len (a_cons (p_var (pv 1)) a_nil)) a_nil))))))) (pure_law_of T)
theorem ok_law_is_number (T : Txt K mg A) : Ok3 P w K mg base 1 A.f_law_is_number A.d_law_is_number ["thing"] (sp_law_is_number K A) := ok3 (t := t_law_is_number K A) T.F_law_is_number sc_law_is_number len_law_is_number (fun cdv Ar outer s H E hr =>
    (s_one (s_ret (p_and (p_isi T.n_isinstance (a_cons (p_var (pv 0)) (a_cons (p_ty T.n_int (by decide +kernel)) a_nil))) (p_one (p_not (p_isi T.n_isinstance (a_cons (p_var (pv 0)) (a_cons (p_ty T.n_bool (by decide +kernel)) a_nil))))))))) (pure_law_is_number T)
theorem ok_law_within (T : Txt K mg A) : Ok3 P w K mg base 2 A.f_law_within A.d_law_within ["thing", "low", "high"] (sp_law_within K A) := ok3 (t := t_law_within K A) T.F_law_within sc_law_within len_law_within (fun cdv Ar outer s H E hr =>
    (s_one (s_ret (p_and (p_call (ok_law_is_number T) (hr.mono (by decide)) T.g_law_is_number T.F_law_is_number.kp T.b_law_is_number .nil rfl (takes_of rfl rfl rfl rfl) (a_cons (p_var (pv 0)) a_nil)) (p_one (p_leLe (p_var (pv 1)) (p_var (pv 0)) (p_var (pv 2)))))))) (pure_law_within T)
theorem ok_law_is_point (T : Txt K mg A) : Ok3 P w K mg base 3 A.f_law_is_point A.d_law_is_point ["thing"] (sp_law_is_point K A) := ok3 (t := t_law_is_point K A) T.F_law_is_point sc_law_is_point len_law_is_point (fun cdv Ar outer s H E hr =>
    (s_cons (s_if (w_t (w_or (t_not (t_val (p_isi T.n_isinstance (a_cons (p_var (pv 0)) (a_cons (p_tup (a_cons (p_ty T.n_list (by decide +kernel)) (a_cons (p_ty T.n_tuple (by decide +kernel)) a_nil))) a_nil))))) (w_or1 (t_neD hr (p_len T.n_len (a_cons (p_var (pv 0)) a_nil)) p_int)))) (s_one (s_ret p_bl)) s_nil)
      (s_one (s_ret (p_and (p_call (ok_law_within T) (hr.mono (by decide)) T.g_law_within T.F_law_within.kp T.b_law_within .nil rfl (takes_of rfl rfl rfl rfl) (a_cons (p_ix (p_var (pv 0)) p_int) (a_cons (p_neg (p_pow p_int p_int)) (a_cons (p_pow p_int p_int) a_nil)))) (p_one (p_call (ok_law_within T) (hr.mono (by decide)) T.g_law_within T.F_law_within.kp T.b_law_within .nil rfl (takes_of rfl rfl rfl rfl) (a_cons (p_ix (p_var (pv 0)) p_int) (a_cons (p_neg (p_pow p_int p_int)) (a_cons (p_pow p_int p_int) a_nil)))))))))) (pure_law_is_point T)
theorem ok_law_pick (T : Txt K mg A) : Ok3 P w K mg base 3 A.f_law_pick A.d_law_pick ["bag", "good", "odd"] (sp_law_pick K A) := ok3 (t := t_law_pick K A) T.F_law_pick sc_law_pick len_law_pick (fun cdv Ar outer s H E hr =>
    (s_one (s_ret (p_if (t_eqD hr (p_call (ok_law_take T) (hr.mono (by decide)) T.g_law_take T.F_law_take.kp T.b_law_take .nil rfl (takes_of rfl rfl rfl rfl) (a_cons (p_var (pv 0)) (a_cons p_int a_nil))) p_int) (p_call (ok_law_of T) (hr.mono (by decide)) T.g_law_of T.F_law_of.kp T.b_law_of .nil rfl (takes_of rfl rfl rfl rfl) (a_cons (p_var (pv 0)) (a_cons (p_var (pv 2)) a_nil))) (p_var (pv 1)))))) (pure_law_pick T)
theorem ok_law_far (T : Txt K mg A) : Ok3 P w K mg base 3 A.f_law_far A.d_law_far ["bag"] (sp_law_far K A) := ok3 (t := t_law_far K A) T.F_law_far sc_law_far len_law_far (fun cdv Ar outer s H E hr =>
    (s_one (s_ret (p_call (ok_law_of T) (hr.mono (by decide)) T.g_law_of T.F_law_of.kp T.b_law_of .nil rfl (takes_of rfl rfl rfl rfl) (a_cons (p_var (pv 0)) (a_cons (p_lst (a_cons (p_pow p_int p_int) (a_cons (p_neg (p_pow p_int p_int)) (a_cons (p_sub (p_call (ok_law_take T) (hr.mono (by decide)) T.g_law_take T.F_law_take.kp T.b_law_take .nil rfl (takes_of rfl rfl rfl rfl) (a_cons (p_var (pv 0)) (a_cons (p_add (p_mul p_int (p_pow p_int p_int)) p_int) a_nil))) (p_pow p_int p_int)) (a_cons (p_sub (p_call (ok_law_take T) (hr.mono (by decide)) T.g_law_take T.F_law_take.kp T.b_law_take .nil rfl (takes_of rfl rfl rfl rfl) (a_cons (p_var (pv 0)) (a_cons p_int a_nil))) p_int) a_nil))))) a_nil)))))) (pure_law_far T)
theorem ok_law_point (T : Txt K mg A) : Ok3 P w K mg base 4 A.f_law_point A.d_law_point ["bag"] (sp_law_point K A) := ok3 (t := t_law_point K A) T.F_law_point sc_law_point len_law_point (fun cdv Ar outer s H E hr =>
    (s_cons (s_par (i := 1) (j := 2) rfl sc_law_point.nd (a_cons (p_call (ok_law_far T) (hr.mono (by decide)) T.g_law_far T.F_law_far.kp T.b_law_far .nil rfl (takes_of rfl rfl rfl rfl) (a_cons (p_var (pv 0)) a_nil)) (a_cons (p_call (ok_law_far T) (hr.mono (by decide)) T.g_law_far T.F_law_far.kp T.b_law_far .nil rfl (takes_of rfl rfl rfl rfl) (a_cons (p_var (pv 0)) a_nil)) a_nil)))
      (s_cons (s_set (i := 3) sc_law_point.nd (p_if (t_eqD hr (p_call (ok_law_take T) (hr.mono (by decide)) T.g_law_take T.F_law_take.kp T.b_law_take .nil rfl (takes_of rfl rfl rfl rfl) (a_cons (p_var (pv 0)) (a_cons p_int a_nil))) p_int) (p_lst (a_cons (p_var (pv 1)) (a_cons (p_var (pv 2)) a_nil))) (p_tup (a_cons (p_var (pv 1)) (a_cons (p_var (pv 2)) a_nil)))))
      (s_cons (s_set (i := 4) sc_law_point.nd (p_lst (a_cons p_non (a_cons (p_tup (a_cons (p_var (pv 1)) a_nil)) (a_cons (p_tup (a_cons (p_var (pv 1)) (a_cons (p_var (pv 2)) (a_cons p_int a_nil)))) (a_cons (p_tup (a_cons p_bl (a_cons (p_var (pv 2)) a_nil))) (a_cons (p_tup (a_cons (p_var (pv 1)) (a_cons p_non a_nil))) (a_cons p_str (a_cons (p_tup (a_cons (p_add (p_pow p_int p_int) p_int) (a_cons (p_var (pv 2)) a_nil))) (a_cons (p_tup (a_cons (p_var (pv 1)) (a_cons (p_sub (p_neg (p_pow p_int p_int)) p_int) a_nil))) (a_cons p_int (a_cons (p_tup (a_cons (p_var (pv 1)) (a_cons p_str a_nil))) (a_cons (p_lst (a_cons p_bl (a_cons (p_var (pv 2)) a_nil))) a_nil)))))))))))))
      (s_one (s_ret (p_call (ok_law_pick T) (hr.mono (by decide)) T.g_law_pick T.F_law_pick.kp T.b_law_pick .nil rfl (takes_of rfl rfl rfl rfl) (a_cons (p_var (pv 0)) (a_cons (p_var (pv 3)) (a_cons (p_var (pv 4)) a_nil)))))))))) (pure_law_point T)
theorem ok_law_rod (T : Txt K mg A) : Ok3 P w K mg base 5 A.f_law_rod A.d_law_rod ["bag"] (sp_law_rod K A) := ok3 (t := t_law_rod K A) T.F_law_rod sc_law_rod len_law_rod (fun cdv Ar outer s H E hr =>
    (s_cons (s_set (i := 1) sc_law_rod.nd (p_call (ok_law_take T) (hr.mono (by decide)) T.g_law_take T.F_law_take.kp T.b_law_take .nil rfl (takes_of rfl rfl rfl rfl) (a_cons (p_var (pv 0)) (a_cons p_int a_nil))))
      (s_cons (s_set (i := 2) sc_law_rod.nd (p_mod (p_intOf T.n_int (a_cons (p_add (p_add (p_var (pv 1)) p_int) (p_call (ok_law_take T) (hr.mono (by decide)) T.g_law_take T.F_law_take.kp T.b_law_take .nil rfl (takes_of rfl rfl rfl rfl) (a_cons (p_var (pv 0)) (a_cons p_int a_nil)))) a_nil)) p_int))
      (s_cons (s_par (i := 3) (j := 4) rfl sc_law_rod.nd (a_cons (p_call (ok_law_point T) (hr.mono (by decide)) T.g_law_point T.F_law_point.kp T.b_law_point .nil rfl (takes_of rfl rfl rfl rfl) (a_cons (p_var (pv 0)) a_nil)) (a_cons (p_call (ok_law_point T) (hr.mono (by decide)) T.g_law_point T.F_law_point.kp T.b_law_point .nil rfl (takes_of rfl rfl rfl rfl) (a_cons (p_var (pv 0)) a_nil)) a_nil)))
      (s_cons (s_if (w_t (w_and (t_val (p_call (ok_law_is_point T) (hr.mono (by decide)) T.g_law_is_point T.F_law_is_point.kp T.b_law_is_point .nil rfl (takes_of rfl rfl rfl rfl) (a_cons (p_var (pv 3)) a_nil))) (w_and (t_val (p_call (ok_law_is_point T) (hr.mono (by decide)) T.g_law_is_point T.F_law_is_point.kp T.b_law_is_point .nil rfl (takes_of rfl rfl rfl rfl) (a_cons (p_var (pv 4)) a_nil))) (w_and1 (t_eqD hr (p_tuple T.n_tuple (a_cons (p_var (pv 3)) a_nil)) (p_tuple T.n_tuple (a_cons (p_var (pv 4)) a_nil))))))) (s_one (s_set (i := 4) sc_law_rod.nd (p_tup (a_cons (p_ix (p_var (pv 4)) p_int) (a_cons (p_if (t_gtI (p_ix (p_var (pv 4)) p_int) p_int) (p_sub (p_ix (p_var (pv 4)) p_int) p_int) (p_add (p_ix (p_var (pv 4)) p_int) p_int)) a_nil))))) s_nil)
      (s_cons (s_if (w_t (w_and (t_val (p_call (ok_law_is_point T) (hr.mono (by decide)) T.g_law_is_point T.F_law_is_point.kp T.b_law_is_point .nil rfl (takes_of rfl rfl rfl rfl) (a_cons (p_var (pv 3)) a_nil))) (w_and1 (t_eqD hr (p_call (ok_law_take T) (hr.mono (by decide)) T.g_law_take T.F_law_take.kp T.b_law_take .nil rfl (takes_of rfl rfl rfl rfl) (a_cons (p_var (pv 0)) (a_cons p_int a_nil))) p_int)))) (s_one (s_set (i := 4) sc_law_rod.nd (p_if (t_eqD hr (p_call (ok_law_take T) (hr.mono (by decide)) T.g_law_take T.F_law_take.kp T.b_law_take .nil rfl (takes_of rfl rfl rfl rfl) (a_cons (p_var (pv 0)) (a_cons p_int a_nil))) p_int) (p_tuple T.n_tuple (a_cons (p_var (pv 3)) a_nil)) (p_list T.n_list (a_cons (p_var (pv 3)) a_nil))))) s_nil)
      (s_cons (s_set (i := 5) sc_law_rod.nd (p_call (ok_law_pick T) (hr.mono (by decide)) T.g_law_pick T.F_law_pick.kp T.b_law_pick .nil rfl (takes_of rfl rfl rfl rfl) (a_cons (p_var (pv 0)) (a_cons (p_call (ok_law_of T) (hr.mono (by decide)) T.g_law_of T.F_law_of.kp T.b_law_of .nil rfl (takes_of rfl rfl rfl rfl) (a_cons (p_var (pv 0)) (a_cons (p_lst (a_cons p_int (a_cons (p_pow p_int p_int) (a_cons (p_add p_int (p_call (ok_law_take T) (hr.mono (by decide)) T.g_law_take T.F_law_take.kp T.b_law_take .nil rfl (takes_of rfl rfl rfl rfl) (a_cons (p_var (pv 0)) (a_cons (p_pow p_int p_int) a_nil)))) a_nil)))) a_nil))) (a_cons (p_lst (a_cons p_int (a_cons (p_neg p_int) (a_cons (p_add (p_pow p_int p_int) p_int) (a_cons p_bl (a_cons p_non (a_cons p_str a_nil))))))) a_nil)))))
      (s_cons (s_set (i := 2) sc_law_rod.nd (p_call (ok_law_pick T) (hr.mono (by decide)) T.g_law_pick T.F_law_pick.kp T.b_law_pick .nil rfl (takes_of rfl rfl rfl rfl) (a_cons (p_var (pv 0)) (a_cons (p_var (pv 2)) (a_cons (p_lst (a_cons (p_var (pv 1)) (a_cons (p_neg p_int) (a_cons p_int (a_cons p_non (a_cons p_bl (a_cons p_str a_nil))))))) a_nil)))))
      (s_one (s_ret (p_lst (a_cons (p_call (ok_law_pick T) (hr.mono (by decide)) T.g_law_pick T.F_law_pick.kp T.b_law_pick .nil rfl (takes_of rfl rfl rfl rfl) (a_cons (p_var (pv 0)) (a_cons (p_var (pv 1)) (a_cons (p_lst (a_cons (p_neg p_int) (a_cons p_int (a_cons p_bl (a_cons p_non (a_cons p_str a_nil)))))) a_nil)))) (a_cons (p_var (pv 2)) (a_cons (p_var (pv 3)) (a_cons (p_var (pv 4)) (a_cons (p_var (pv 5)) a_nil)))))))))))))))) (pure_law_rod T)
theorem ok_law_things (T : Txt K mg A) : Ok3 P w K mg base 6 A.f_law_things A.d_law_things ["bag", "kind"] (sp_law_things K A) := ok3 (t := t_law_things K A) T.F_law_things sc_law_things len_law_things (fun cdv Ar outer s H E hr =>
    (s_cons (s_if (t_eqD hr (p_var (pv 1)) p_str) (s_one (s_ret (p_call (ok_law_rod T) (hr.mono (by decide)) T.g_law_rod T.F_law_rod.kp T.b_law_rod .nil rfl (takes_of rfl rfl rfl rfl) (a_cons (p_var (pv 0)) a_nil)))) s_nil)
      (s_cons (s_if (t_eqD hr (p_var (pv 1)) p_str) (s_cons (s_set (i := 2) sc_law_things.nd (p_call (ok_law_of T) (hr.mono (by decide)) T.g_law_of T.F_law_of.kp T.b_law_of .nil rfl (takes_of rfl rfl rfl rfl) (a_cons (p_var (pv 0)) (a_cons (p_lst (a_cons p_int (a_cons (p_pow p_int p_int) (a_cons (p_add p_int (p_call (ok_law_take T) (hr.mono (by decide)) T.g_law_take T.F_law_take.kp T.b_law_take .nil rfl (takes_of rfl rfl rfl rfl) (a_cons (p_var (pv 0)) (a_cons (p_pow p_int p_int) a_nil)))) a_nil)))) a_nil))))
      (s_cons (s_set (i := 3) sc_law_things.nd (p_lst (a_cons p_int (a_cons (p_add (p_pow p_int p_int) p_int) (a_cons (p_sub (p_neg (p_pow p_int p_int)) p_int) (a_cons p_bl (a_cons p_bl (a_cons p_non (a_cons p_str a_nil)))))))))
      (s_cons (s_set (i := 4) sc_law_things.nd (p_call (ok_law_pick T) (hr.mono (by decide)) T.g_law_pick T.F_law_pick.kp T.b_law_pick .nil rfl (takes_of rfl rfl rfl rfl) (a_cons (p_var (pv 0)) (a_cons (p_if (t_eqD hr (p_call (ok_law_take T) (hr.mono (by decide)) T.g_law_take T.F_law_take.kp T.b_law_take .nil rfl (takes_of rfl rfl rfl rfl) (a_cons (p_var (pv 0)) (a_cons p_int a_nil))) p_int) (p_var (pv 2)) (p_neg (p_var (pv 2)))) (a_cons (p_var (pv 3)) a_nil)))))
      (s_cons (s_set (i := 5) sc_law_things.nd (p_call (ok_law_pick T) (hr.mono (by decide)) T.g_law_pick T.F_law_pick.kp T.b_law_pick .nil rfl (takes_of rfl rfl rfl rfl) (a_cons (p_var (pv 0)) (a_cons (p_call (ok_law_far T) (hr.mono (by decide)) T.g_law_far T.F_law_far.kp T.b_law_far .nil rfl (takes_of rfl rfl rfl rfl) (a_cons (p_var (pv 0)) a_nil)) (a_cons (p_lst (a_cons (p_add (p_pow p_int p_int) p_int) (a_cons (p_sub (p_neg (p_pow p_int p_int)) p_int) (a_cons p_bl (a_cons p_non (a_cons p_str (a_cons (p_tup (a_cons p_int (a_cons p_int a_nil))) a_nil))))))) a_nil)))))
      (s_one (s_ret (p_lst (a_cons (p_call (ok_law_pick T) (hr.mono (by decide)) T.g_law_pick T.F_law_pick.kp T.b_law_pick .nil rfl (takes_of rfl rfl rfl rfl) (a_cons (p_var (pv 0)) (a_cons (p_call (ok_law_take T) (hr.mono (by decide)) T.g_law_take T.F_law_take.kp T.b_law_take .nil rfl (takes_of rfl rfl rfl rfl) (a_cons (p_var (pv 0)) (a_cons p_int a_nil))) (a_cons (p_lst (a_cons (p_neg p_int) (a_cons p_int (a_cons p_bl (a_cons p_non (a_cons p_str (a_cons (p_pow p_int p_int) a_nil))))))) a_nil)))) (a_cons (p_var (pv 5)) (a_cons (p_var (pv 4)) a_nil)))))))))) s_nil)
      (s_cons (s_if (t_eqD hr (p_var (pv 1)) p_str) (s_one (s_ret (p_lst (a_cons (p_call (ok_law_pick T) (hr.mono (by decide)) T.g_law_pick T.F_law_pick.kp T.b_law_pick .nil rfl (takes_of rfl rfl rfl rfl) (a_cons (p_var (pv 0)) (a_cons (p_add p_int (p_call (ok_law_take T) (hr.mono (by decide)) T.g_law_take T.F_law_take.kp T.b_law_take .nil rfl (takes_of rfl rfl rfl rfl) (a_cons (p_var (pv 0)) (a_cons p_int a_nil)))) (a_cons (p_lst (a_cons p_int (a_cons p_int (a_cons (p_neg p_int) (a_cons p_bl (a_cons p_non (a_cons p_str (a_cons (p_pow p_int p_int) a_nil)))))))) a_nil)))) a_nil)))) s_nil)
      (s_cons (s_set (i := 6) sc_law_things.nd p_str)
      (s_cons (s_for (passes_of rfl) rfl (i_range1 T.n_range (a_cons (p_call (ok_law_of T) (hr.mono (by decide)) T.g_law_of T.F_law_of.kp T.b_law_of .nil rfl (takes_of rfl rfl rfl rfl) (a_cons (p_var (pv 0)) (a_cons (p_lst (a_cons p_int (a_cons p_int (a_cons p_int (a_cons p_int (a_cons p_int (a_cons p_int a_nil))))))) a_nil))) a_nil)) (g_name (i := 7) sc_law_things.nd) (s_one (s_set (i := 6) sc_law_things.nd (p_add (p_var (pv 6)) (p_call (ok_law_of T) (hr.mono (by decide)) T.g_law_of T.F_law_of.kp T.b_law_of .nil rfl (takes_of rfl rfl rfl rfl) (a_cons (p_var (pv 0)) (a_cons p_str a_nil)))))))
      (s_one (s_ret (p_lst (a_cons (p_call (ok_law_pick T) (hr.mono (by decide)) T.g_law_pick T.F_law_pick.kp T.b_law_pick .nil rfl (takes_of rfl rfl rfl rfl) (a_cons (p_var (pv 0)) (a_cons (p_var (pv 6)) (a_cons (p_lst (a_cons p_str (a_cons (p_add (p_var (pv 6)) p_str) (a_cons (p_add (p_sl (p_var (pv 6)) (o_some p_int) o_none) p_str) (a_cons p_str (a_cons (p_add (p_sl (p_var (pv 6)) (o_some p_int) o_none) p_str) (a_cons p_non (a_cons p_int (a_cons (p_lst (a_cons (p_var (pv 6)) a_nil)) (a_cons (p_tup (a_cons p_str a_nil)) a_nil)))))))))) a_nil)))) a_nil)))))))))) (pure_law_things T)
theorem ok_law_due (T : Txt K mg A) : Ok3 P w K mg base 4 A.f_law_due A.d_law_due ["kind", "things"] (sp_law_due K A) := ok3 (t := t_law_due K A) T.F_law_due sc_law_due len_law_due (fun cdv Ar outer s H E hr =>
    (s_cons (s_if (t_eqD hr (p_var (pv 0)) p_str) (s_cons (s_set (i := 2) sc_law_due.nd (p_lstM (a_cons (p_tup (a_cons p_str (a_cons (p_call (ok_law_within T) (hr.mono (by decide)) T.g_law_within T.F_law_within.kp T.b_law_within .nil rfl (takes_of rfl rfl rfl rfl) (a_cons (p_ix (p_var (pv 1)) p_int) (a_cons p_int (a_cons p_int a_nil)))) a_nil))) (a_cons (p_tup (a_cons p_str (a_cons (p_call (ok_law_within T) (hr.mono (by decide)) T.g_law_within T.F_law_within.kp T.b_law_within .nil rfl (takes_of rfl rfl rfl rfl) (a_cons (p_ix (p_var (pv 1)) p_int) (a_cons (p_neg (p_pow p_int p_int)) (a_cons (p_pow p_int p_int) a_nil)))) a_nil))) a_nil))))
      (s_one (s_expr (p_app (p_var (pv 2)) (p_tup (a_cons p_str (a_cons (p_and (p_call (ok_law_within T) (hr.mono (by decide)) T.g_law_within T.F_law_within.kp T.b_law_within .nil rfl (takes_of rfl rfl rfl rfl) (a_cons (p_ix (p_var (pv 1)) p_int) (a_cons (p_neg (p_pow p_int p_int)) (a_cons (p_pow p_int p_int) a_nil)))) (p_one (p_neD hr (p_ix (p_var (pv 1)) p_int) p_int))) a_nil))))))) (s_one (s_if (t_eqD hr (p_var (pv 0)) p_str) (s_cons (s_asg (p_var (pv 1)) (g_seq rfl (gs_cons (g_name (i := 3) sc_law_due.nd) (gs_cons (g_name (i := 4) sc_law_due.nd) (gs_cons (g_name (i := 5) sc_law_due.nd) (gs_cons (g_name (i := 6) sc_law_due.nd) (gs_cons (g_name (i := 7) sc_law_due.nd) gs_nil)))))))
      (s_cons (s_set (i := 2) sc_law_due.nd (p_lstM (a_cons (p_tup (a_cons p_str (a_cons (p_call (ok_law_within T) (hr.mono (by decide)) T.g_law_within T.F_law_within.kp T.b_law_within .nil rfl (takes_of rfl rfl rfl rfl) (a_cons (p_var (pv 3)) (a_cons p_int (a_cons p_int a_nil)))) a_nil))) (a_cons (p_tup (a_cons p_str (a_cons (p_and (p_call (ok_law_within T) (hr.mono (by decide)) T.g_law_within T.F_law_within.kp T.b_law_within .nil rfl (takes_of rfl rfl rfl rfl) (a_cons (p_var (pv 4)) (a_cons p_int (a_cons p_int a_nil)))) (p_one (p_neD hr (p_var (pv 4)) (p_var (pv 3))))) a_nil))) a_nil))))
      (s_cons (s_set (i := 8) sc_law_due.nd (p_and (p_call (ok_law_is_point T) (hr.mono (by decide)) T.g_law_is_point T.F_law_is_point.kp T.b_law_is_point .nil rfl (takes_of rfl rfl rfl rfl) (a_cons (p_var (pv 5)) a_nil)) (p_one (p_call (ok_law_is_point T) (hr.mono (by decide)) T.g_law_is_point T.F_law_is_point.kp T.b_law_is_point .nil rfl (takes_of rfl rfl rfl rfl) (a_cons (p_var (pv 6)) a_nil)))))
      (s_cons (s_expr (p_app (p_var (pv 2)) (p_tup (a_cons p_str (a_cons (p_call (ok_law_is_point T) (hr.mono (by decide)) T.g_law_is_point T.F_law_is_point.kp T.b_law_is_point .nil rfl (takes_of rfl rfl rfl rfl) (a_cons (p_var (pv 5)) a_nil)) a_nil)))))
      (s_cons (s_expr (p_app (p_var (pv 2)) (p_tup (a_cons p_str (a_cons (p_and (p_var (pv 8)) (p_one (p_neD hr (p_tuple T.n_tuple (a_cons (p_var (pv 5)) a_nil)) (p_tuple T.n_tuple (a_cons (p_var (pv 6)) a_nil))))) a_nil)))))
      (s_one (s_expr (p_app (p_var (pv 2)) (p_tup (a_cons p_str (a_cons (p_call (ok_law_within T) (hr.mono (by decide)) T.g_law_within T.F_law_within.kp T.b_law_within .nil rfl (takes_of rfl rfl rfl rfl) (a_cons (p_var (pv 7)) (a_cons p_int (a_cons (p_pow p_int p_int) a_nil)))) a_nil))))))))))) (s_one (s_if (t_eqD hr (p_var (pv 0)) p_str) (s_one (s_set (i := 2) sc_law_due.nd (p_lstM (a_cons (p_tup (a_cons p_str (a_cons (p_call (ok_law_within T) (hr.mono (by decide)) T.g_law_within T.F_law_within.kp T.b_law_within .nil rfl (takes_of rfl rfl rfl rfl) (a_cons (p_ix (p_var (pv 1)) p_int) (a_cons p_int (a_cons p_int a_nil)))) a_nil))) a_nil)))) (s_cons (s_set (i := 9) sc_law_due.nd (p_ix (p_var (pv 1)) p_int))
      (s_cons (s_set (i := 10) sc_law_due.nd (p_and (p_isi T.n_isinstance (a_cons (p_var (pv 9)) (a_cons (p_ty T.n_str (by decide +kernel)) a_nil))) (p_one (p_leLe p_int (p_len T.n_len (a_cons (p_var (pv 9)) a_nil)) p_int))))
      (s_one (s_set (i := 2) sc_law_due.nd (p_lstM (a_cons (p_tup (a_cons p_str (a_cons (p_and (p_var (pv 10)) (p_one (p_eqD hr (p_lc (own := [("item", 3)]) (T := (.one 3)) rfl sc_law_due.nd (by refine blkOk_by (N := N_law_due) (sc := defScope s_law_due) ?_; decide +kernel) (by decide) (i_str (p_var (pv 9))) (fun s H C cl fp => (pg_name (i := 3) sc_law_due.nd rfl (by first | exact Or.inl rfl | exact Or.inr rfl) (by first | exact .inr rfl | exact .inl rfl))) (fun s H C cl fp => (ts_one (t_notInD hr (p_var (pv 3)) p_str))) (fun s H C cl fp => (p_var (pv 3)))) (p_lst a_nil)))) a_nil))) a_nil)))))))))))
      (ss_frz 2 (s_cons (s_setLc (i := 11) (own := [("item", 3)]) (T := (.one 3)) rfl sc_law_due.nd rfl rfl rfl (by refine blkOk_by (N := N_law_due) (sc := defScope s_law_due) ?_; decide +kernel) (by decide) (i_seq (p_var (pv 2))) (fun s H C cl fp => (pg_name (i := 3) sc_law_due.nd rfl (by first | exact Or.inl rfl | exact Or.inr rfl) (by first | exact .inr rfl | exact .inl rfl))) (fun s H C cl fp => (ts_one (t_not (t_val (p_ix (p_var (pv 3)) p_int))))) (fun s H C cl fp => (p_ix (p_var (pv 3)) p_int)))
      (s_one (s_ret (p_if (t_tru (p_var (pv 11))) (p_ix (p_var (pv 11)) p_int) p_non))))))) (pure_law_due T)
theorem ok_law_made (T : Txt K mg A) : Ok3 P w K mg base 6 A.f_law_made A.d_law_made ["kind", "things"] (sp_law_made K A) := ok3 (t := t_law_made K A) T.F_law_made sc_law_made len_law_made (fun cdv Ar outer s H E hr =>
    (s_one (s_try_as (i := 2) rfl rfl sc_law_made.nd rfl rfl ⟨rfl, by decide, .inl T.g_BadChange⟩ (takes_of rfl rfl rfl rfl) (fun W' pn xe tk hp => (s_cons (s_if (t_eqD hr (p_var (pv 0)) p_str) (s_one (s_ret (p_make T.mk_Ballast (ok_Ballast_init T) (hr.mono (by decide)) T.g_Ballast T.b_Ballast_init .nil rfl tk (a_cons (p_ix (p_var (pv 1)) p_int) (a_cons (p_ix (p_var (pv 1)) p_int) (a_cons (p_ix (p_var (pv 1)) p_int) a_nil)))))) s_nil)
      (s_cons (s_if (t_eqD hr (p_var (pv 0)) p_str) (s_one (s_ret (p_make T.mk_Rod (ok_Rod_init T) (hr.mono (by decide)) T.g_Rod T.b_Rod_init .nil rfl tk (a_cons (p_ix (p_var (pv 1)) p_int) (a_cons (p_ix (p_var (pv 1)) p_int) (a_cons (p_ix (p_var (pv 1)) p_int) (a_cons (p_ix (p_var (pv 1)) p_int) (a_cons (p_ix (p_var (pv 1)) p_int) a_nil)))))))) s_nil)
      (s_cons (s_if (t_eqD hr (p_var (pv 0)) p_str) (s_one (s_ret (p_make T.mk_Shut (ok_Shut_init T) (hr.mono (by decide)) T.g_Shut T.b_Shut_init .nil rfl tk (a_cons (p_ix (p_var (pv 1)) p_int) a_nil)))) s_nil)
      (s_one (s_ret (p_make T.mk_Spaced (ok_Spaced_init T) (hr.mono (by decide)) T.g_Spaced T.b_Spaced_init .nil rfl tk (a_cons (p_ix (p_var (pv 1)) p_int) a_nil)))))))) (fun a oe cls d pn hz hf => ss_when fun ec => by subst ec; exact (s_one (s_ret (p_tup (a_cons p_str (a_cons (p_xf T.xf_BadChange T.xn_BadChange_what hz hf (p_var (pv 2))) (a_cons (p_isE T.xc_BadChange hz hf T.n_isinstance (a_cons (p_var (pv 2)) (a_cons (p_gref T.g_BridgeError) a_nil))) (a_cons (p_isE T.xc_BadChange hz hf T.n_isinstance (a_cons (p_var (pv 2)) (a_cons (p_ty T.n_ValueError (by decide +kernel)) a_nil))) a_nil))))))))))) (pure_law_made T)
theorem ok_law_named (T : Txt K mg A) : Ok3 P w K mg base 6 A.f_law_named A.d_law_named ["kind", "things"] (sp_law_named K A) := ok3 (t := t_law_named K A) T.F_law_named sc_law_named len_law_named (fun cdv Ar outer s H E hr =>
    (s_one (s_try_as (i := 2) rfl rfl sc_law_named.nd rfl rfl ⟨rfl, by decide, .inl T.g_BadChange⟩ (takes_of rfl rfl rfl rfl) (fun W' pn xe tk hp => (s_cons (s_if (t_eqD hr (p_var (pv 0)) p_str) (s_one (s_ret (p_makeR (ks := ["weight", "x", "stone"]) T.mk_Ballast (ok_Ballast_init T) (hr.mono (by decide)) T.g_Ballast T.r_Ballast_init tk (k_cons (p_ix (p_var (pv 1)) p_int) (k_cons (p_ix (p_var (pv 1)) p_int) (k_cons (p_ix (p_var (pv 1)) p_int) k_nil)))))) s_nil)
      (s_cons (s_if (t_eqD hr (p_var (pv 0)) p_str) (s_one (s_ret (p_makeR (ks := ["pull", "end", "start", "other", "one"]) T.mk_Rod (ok_Rod_init T) (hr.mono (by decide)) T.g_Rod T.r_Rod_init tk (k_cons (p_ix (p_var (pv 1)) p_int) (k_cons (p_ix (p_var (pv 1)) p_int) (k_cons (p_ix (p_var (pv 1)) p_int) (k_cons (p_ix (p_var (pv 1)) p_int) (k_cons (p_ix (p_var (pv 1)) p_int) k_nil)))))))) s_nil)
      (s_cons (s_if (t_eqD hr (p_var (pv 0)) p_str) (s_one (s_ret (p_makeR (ks := ["name"]) T.mk_Shut (ok_Shut_init T) (hr.mono (by decide)) T.g_Shut T.r_Shut_init tk (k_cons (p_ix (p_var (pv 1)) p_int) k_nil)))) s_nil)
      (s_one (s_ret (p_makeR (ks := ["extra"]) T.mk_Spaced (ok_Spaced_init T) (hr.mono (by decide)) T.g_Spaced T.r_Spaced_init tk (k_cons (p_ix (p_var (pv 1)) p_int) k_nil)))))))) (fun a oe cls d pn hz hf => ss_when fun ec => by subst ec; exact (s_one (s_ret (p_tup (a_cons p_str (a_cons (p_xf T.xf_BadChange T.xn_BadChange_what hz hf (p_var (pv 2))) (a_cons (p_isE T.xc_BadChange hz hf T.n_isinstance (a_cons (p_var (pv 2)) (a_cons (p_gref T.g_BridgeError) a_nil))) (a_cons (p_isE T.xc_BadChange hz hf T.n_isinstance (a_cons (p_var (pv 2)) (a_cons (p_ty T.n_ValueError (by decide +kernel)) a_nil))) a_nil))))))))))) (pure_law_named T)
theorem ok_law_fields (T : Txt K mg A) : Ok3 P w K mg base 1 A.f_law_fields A.d_law_fields ["kind", "made"] (sp_law_fields K A) := ok3 (t := t_law_fields K A) T.F_law_fields sc_law_fields len_law_fields (fun cdv Ar outer s H E hr =>
    (s_cons (s_if (t_eqD hr (p_var (pv 0)) p_str) (s_one (s_ret (p_lst (a_cons (p_fld (p_var (pv 1))) (a_cons (p_fld (p_var (pv 1))) (a_cons (p_fld (p_var (pv 1))) a_nil)))))) s_nil)
      (s_cons (s_if (t_eqD hr (p_var (pv 0)) p_str) (s_one (s_ret (p_lst (a_cons (p_fld (p_var (pv 1))) (a_cons (p_fld (p_var (pv 1))) (a_cons (p_fld (p_var (pv 1))) (a_cons (p_fld (p_var (pv 1))) (a_cons (p_fld (p_var (pv 1))) a_nil)))))))) s_nil)
      (s_one (s_ret (p_if (t_eqD hr (p_var (pv 0)) p_str) (p_lst (a_cons (p_fld (p_var (pv 1))) a_nil)) (p_lst (a_cons (p_fld (p_var (pv 1))) a_nil)))))))) (pure_law_fields T)
theorem ok_law_kinds_right (T : Txt K mg A) : Ok3 P w K mg base 2 A.f_law_kinds_right A.d_law_kinds_right ["fields"] (sp_law_kinds_right K A) := ok3 (t := t_law_kinds_right K A) T.F_law_kinds_right sc_law_kinds_right len_law_kinds_right (fun cdv Ar outer s H E hr =>
    (s_cons (s_for (passes_of rfl) rfl (i_seq (p_var (pv 0))) (g_name (i := 1) sc_law_kinds_right.nd) (s_one (s_if (t_val (p_isi T.n_isinstance (a_cons (p_var (pv 1)) (a_cons (p_ty T.n_tuple (by decide +kernel)) a_nil)))) (s_one (s_if (w_t (w_or (t_not (t_val (p_call (ok_law_is_number T) (hr.mono (by decide)) T.g_law_is_number T.F_law_is_number.kp T.b_law_is_number .nil rfl (takes_of rfl rfl rfl rfl) (a_cons (p_ix (p_var (pv 1)) p_int) a_nil)))) (w_or1 (t_not (t_val (p_call (ok_law_is_number T) (hr.mono (by decide)) T.g_law_is_number T.F_law_is_number.kp T.b_law_is_number .nil rfl (takes_of rfl rfl rfl rfl) (a_cons (p_ix (p_var (pv 1)) p_int) a_nil))))))) (s_one (s_ret p_bl)) s_nil)) (s_one (s_if (w_t (w_and (t_not (t_val (p_call (ok_law_is_number T) (hr.mono (by decide)) T.g_law_is_number T.F_law_is_number.kp T.b_law_is_number .nil rfl (takes_of rfl rfl rfl rfl) (a_cons (p_var (pv 1)) a_nil)))) (w_and1 (t_not (t_val (p_isi T.n_isinstance (a_cons (p_var (pv 1)) (a_cons (p_ty T.n_str (by decide +kernel)) a_nil)))))))) (s_one (s_ret p_bl)) s_nil)))))
      (s_one (s_ret p_bl)))) (pure_law_kinds_right T)
theorem ok_law_other (T : Txt K mg A) : Ok3 P w K mg base 2 A.f_law_other A.d_law_other ["bag", "kind", "things"] (sp_law_other K A) := ok3 (t := t_law_other K A) T.F_law_other sc_law_other len_law_other (fun cdv Ar outer s H E hr =>
    (s_cons (s_set (i := 2) sc_law_other.nd (p_listM T.n_list (a_cons (p_var (pv 2)) a_nil)))
      (s_cons (s_set (i := 3) sc_law_other.nd (p_call (ok_law_take T) (hr.mono (by decide)) T.g_law_take T.F_law_take.kp T.b_law_take .nil rfl (takes_of rfl rfl rfl rfl) (a_cons (p_var (pv 0)) (a_cons (p_len T.n_len (a_cons (p_var (pv 2)) a_nil)) a_nil))))
      (s_cons (s_if (t_eqD hr (p_var (pv 1)) p_str) (s_one (s_asg (p_add (p_mod (p_intOf T.n_int (a_cons (p_ix (p_var (pv 2)) p_int) a_nil)) p_int) p_int) (g_sub (W := noW) (p_var (pv 2)) p_int))) (s_one (s_if (t_eqD hr (p_var (pv 1)) p_str) (s_one (s_asg (p_if (t_ltI (p_len T.n_len (a_cons (p_ix (p_var (pv 2)) p_int) a_nil)) p_int) (p_add (p_ix (p_var (pv 2)) p_int) p_str) (p_sl (p_ix (p_var (pv 2)) p_int) (o_some p_int) o_none)) (g_sub (W := noW) (p_var (pv 2)) p_int))) (s_one (s_if (t_eqD hr (p_var (pv 1)) p_str) (s_cons (s_set (i := 4) sc_law_other.nd (p_ix (p_var (pv 2)) p_int))
      (s_one (s_asg (p_ix (p_lst (a_cons (p_mod (p_intOf T.n_int (a_cons (p_add (p_ix (p_var (pv 2)) p_int) p_int) a_nil)) p_int) (a_cons (p_if (t_gtI (p_var (pv 4)) p_int) (p_sub (p_var (pv 4)) p_int) (p_add (p_var (pv 4)) p_int)) (a_cons (p_neg (p_ix (p_var (pv 2)) p_int)) a_nil)))) (p_var (pv 3))) (g_sub (W := noW) (p_var (pv 2)) (p_var (pv 3)))))) (s_one (s_if (t_ltI (p_var (pv 3)) p_int) (s_one (s_asg (p_ix (p_lc (own := [("k", 5)]) (T := (.one 5)) rfl sc_law_other.nd (by refine blkOk_by (N := N_law_other) (sc := defScope s_law_other) ?_; decide +kernel) (by decide) (i_range1 T.n_range (a_cons p_int a_nil)) (fun s H C cl fp => (pg_name (i := 5) sc_law_other.nd rfl (by first | exact Or.inl rfl | exact Or.inr rfl) (by first | exact .inr rfl | exact .inl rfl))) (fun s H C cl fp => (ts_one (t_notInD hr (p_var (pv 5)) (p_tup (a_cons (p_ix (p_var (pv 2)) p_int) (a_cons (p_ix (p_var (pv 2)) p_int) a_nil)))))) (fun s H C cl fp => (p_var (pv 5)))) (p_call (ok_law_take T) (hr.mono (by decide)) T.g_law_take T.F_law_take.kp T.b_law_take .nil rfl (takes_of rfl rfl rfl rfl) (a_cons (p_var (pv 0)) (a_cons p_int a_nil)))) (g_sub (W := noW) (p_var (pv 2)) (p_var (pv 3))))) (s_one (s_if (t_ltI (p_var (pv 3)) p_int) (s_cons (s_setLc (i := 6) (own := [("item", 7)]) (T := (.one 7)) rfl sc_law_other.nd rfl rfl rfl (by refine blkOk_by (N := N_law_other) (sc := defScope s_law_other) ?_; decide +kernel) (by decide) (i_seq (p_lst (a_cons (p_tup (a_cons p_int (a_cons p_int a_nil))) (a_cons (p_tup (a_cons p_int (a_cons p_int a_nil))) (a_cons (p_tup (a_cons p_int (a_cons p_int a_nil))) a_nil))))) (fun s H C cl fp => (pg_name (i := 7) sc_law_other.nd rfl (by first | exact Or.inl rfl | exact Or.inr rfl) (by first | exact .inr rfl | exact .inl rfl))) (fun s H C cl fp => (ts_one (t_notInD hr (p_var (pv 7)) (p_tup (a_cons (p_tuple T.n_tuple (a_cons (p_ix (p_var (pv 2)) p_int) a_nil)) (a_cons (p_tuple T.n_tuple (a_cons (p_ix (p_var (pv 2)) p_int) a_nil)) a_nil)))))) (fun s H C cl fp => (p_var (pv 7))))
      (s_one (s_asg (p_ix (p_var (pv 6)) p_int) (g_sub (W := noW) (p_var (pv 2)) (p_var (pv 3)))))) (s_one (s_asg (p_if (t_gtI (p_ix (p_var (pv 2)) p_int) p_int) (p_sub (p_ix (p_var (pv 2)) p_int) p_int) p_int) (g_sub (W := noW) (p_var (pv 2)) p_int))))))))))))
      (ss_frz 2 (s_one (s_ret (p_var (pv 2))))))))) (pure_law_other T)
theorem eqT (T : Txt K mg A) : ∀ C, okC A C → EqT P w K mg base 1 C (spE K A C) := by
  rintro C ⟨k, rfl⟩
  cases k
  · exact eq_of_ok T (ok_Ballast_eq T) T.eq_Ballast T.b_Ballast_eq
  · exact eq_of_ok T (ok_Rod_eq T) T.eq_Rod T.b_Rod_eq
  · exact eq_of_ok T (ok_Shut_eq T) T.eq_Shut T.b_Shut_eq
  · exact eq_of_ok T (ok_Spaced_eq T) T.eq_Spaced T.b_Spaced_eq
theorem ok_law (T : Txt K mg A) : Ok3 P w K mg base 7 A.f_law A.d_law ["script"] (sp_law K A) := ok3 (t := t_law K A) T.F_law sc_law len_law (fun cdv Ar outer s H E hr =>
    (s_cons (s_for (passes_of rfl) rfl (i_range1 T.n_range (a_cons p_int a_nil)) (g_name (i := 1) sc_law.nd) (s_cons (s_set (i := 2) sc_law.nd (p_call (ok_law_bag T) (hr.mono (by decide)) T.g_law_bag T.F_law_bag.kp T.b_law_bag .nil rfl (takes_of rfl rfl rfl rfl) (a_cons (p_var (pv 0)) (a_cons (p_var (pv 1)) a_nil))))
      (s_cons (s_set (i := 3) sc_law.nd (p_call (ok_law_of T) (hr.mono (by decide)) T.g_law_of T.F_law_of.kp T.b_law_of .nil rfl (takes_of rfl rfl rfl rfl) (a_cons (p_var (pv 2)) (a_cons (p_lst (a_cons p_str (a_cons p_str (a_cons p_str (a_cons p_str (a_cons p_str (a_cons p_str (a_cons p_str a_nil)))))))) a_nil))))
      (s_cons (s_set (i := 4) sc_law.nd (p_call (ok_law_things T) (hr.mono (by decide)) T.g_law_things T.F_law_things.kp T.b_law_things .nil rfl (takes_of rfl rfl rfl rfl) (a_cons (p_var (pv 2)) (a_cons (p_var (pv 3)) a_nil))))
      (s_cons (s_setLc (i := 5) (own := [("item", 6)]) (T := (.one 6)) rfl sc_law.nd rfl rfl rfl (by refine blkOk_by (N := N_law) (sc := defScope s_law) ?_; decide +kernel) (by decide) (i_seq (p_var (pv 4))) (fun s H C cl fp => (pg_name (i := 6) sc_law.nd rfl (by first | exact Or.inl rfl | exact Or.inr rfl) (by first | exact .inr rfl | exact .inl rfl))) (fun s H C cl fp => ts_nil) (fun s H C cl fp => (p_if (t_val (p_isi T.n_isinstance (a_cons (p_var (pv 6)) (a_cons (p_ty T.n_list (by decide +kernel)) a_nil)))) (p_listM T.n_list (a_cons (p_var (pv 6)) a_nil)) (p_var (pv 6)))))
      (s_cons (s_par (i := 7) (j := 8) rfl sc_law.nd (a_cons (p_call (ok_law_due T) (hr.mono (by decide)) T.g_law_due T.F_law_due.kp T.b_law_due .nil rfl (takes_of rfl rfl rfl rfl) (a_cons (p_var (pv 3)) (a_cons (p_var (pv 4)) a_nil))) (a_cons (p_eqD hr (p_call (ok_law_take T) (hr.mono (by decide)) T.g_law_take T.F_law_take.kp T.b_law_take .nil rfl (takes_of rfl rfl rfl rfl) (a_cons (p_var (pv 2)) (a_cons p_int a_nil))) p_int) a_nil)))
      (s_cons (s_set (i := 9) sc_law.nd (p_if (t_val (p_var (pv 8))) (p_call (ok_law_named T) (hr.mono (by decide)) T.g_law_named T.F_law_named.kp T.b_law_named .nil rfl (takes_of rfl rfl rfl rfl) (a_cons (p_var (pv 3)) (a_cons (p_var (pv 5)) a_nil))) (p_call (ok_law_made T) (hr.mono (by decide)) T.g_law_made T.F_law_made.kp T.b_law_made .nil rfl (takes_of rfl rfl rfl rfl) (a_cons (p_var (pv 3)) (a_cons (p_var (pv 5)) a_nil)))))
      (s_cons (s_if (t_notN (p_var (pv 7)) p_non) (s_cons (s_if (w_t (w_or (t_not (t_val (p_isi T.n_isinstance (a_cons (p_var (pv 9)) (a_cons (p_ty T.n_tuple (by decide +kernel)) a_nil))))) (w_or1 (t_neD hr (p_var (pv 9)) (p_tup (a_cons p_str (a_cons (p_var (pv 7)) (a_cons p_bl (a_cons p_bl a_nil))))))))) (s_one (s_ret p_bl)) s_nil)
      (s_one s_cont)) s_nil)
      (s_cons (s_if (w_t (w_or (t_val (p_isi T.n_isinstance (a_cons (p_var (pv 9)) (a_cons (p_ty T.n_tuple (by decide +kernel)) a_nil)))) (w_or1 (t_not (t_val (p_isi T.n_isinstance (a_cons (p_var (pv 9)) (a_cons (p_gref T.g_Change) a_nil)))))))) (s_one (s_ret p_bl)) s_nil)
      (s_cons (s_for (passes_of rfl) rfl (i_seq (p_var (pv 5))) (g_name (i := 6) sc_law.nd) (s_one (s_if (t_val (p_isi T.n_isinstance (a_cons (p_var (pv 6)) (a_cons (p_ty T.n_list (by decide +kernel)) a_nil)))) (s_one (s_expr (p_app (p_var (pv 6)) p_int))) s_nil)))
      (s_cons (s_par (i := 10) (j := 11) rfl sc_law.nd (a_cons (p_call (ok_law_fields T) (hr.mono (by decide)) T.g_law_fields T.F_law_fields.kp T.b_law_fields .nil rfl (takes_of rfl rfl rfl rfl) (a_cons (p_var (pv 3)) (a_cons (p_var (pv 9)) a_nil))) (a_cons (p_lc (own := [("item", 6)]) (T := (.one 6)) rfl sc_law.nd (by refine blkOk_by (N := N_law) (sc := defScope s_law) ?_; decide +kernel) (by decide) (i_seq (p_var (pv 4))) (fun s H C cl fp => (pg_name (i := 6) sc_law.nd rfl (by first | exact Or.inl rfl | exact Or.inr rfl) (by first | exact .inr rfl | exact .inl rfl))) (fun s H C cl fp => ts_nil) (fun s H C cl fp => (p_if (t_val (p_isi T.n_isinstance (a_cons (p_var (pv 6)) (a_cons (p_ty T.n_list (by decide +kernel)) a_nil)))) (p_tuple T.n_tuple (a_cons (p_var (pv 6)) a_nil)) (p_var (pv 6))))) a_nil)))
      (s_cons (s_if (w_t (w_or (t_neD hr (p_var (pv 10)) (p_var (pv 11))) (w_or1 (t_not (t_val (p_call (ok_law_kinds_right T) (hr.mono (by decide)) T.g_law_kinds_right T.F_law_kinds_right.kp T.b_law_kinds_right .nil rfl (takes_of rfl rfl rfl rfl) (a_cons (p_var (pv 10)) a_nil))))))) (s_one (s_ret p_bl)) s_nil)
      (s_cons (s_par (i := 12) (j := 13) rfl sc_law.nd (a_cons (p_call (ok_law_made T) (hr.mono (by decide)) T.g_law_made T.F_law_made.kp T.b_law_made .nil rfl (takes_of rfl rfl rfl rfl) (a_cons (p_var (pv 3)) (a_cons (p_var (pv 4)) a_nil))) (a_cons (p_call (ok_law_made T) (hr.mono (by decide)) T.g_law_made T.F_law_made.kp T.b_law_made .nil rfl (takes_of rfl rfl rfl rfl) (a_cons (p_var (pv 3)) (a_cons (p_call (ok_law_other T) (hr.mono (by decide)) T.g_law_other T.F_law_other.kp T.b_law_other .nil rfl (takes_of rfl rfl rfl rfl) (a_cons (p_var (pv 2)) (a_cons (p_var (pv 3)) (a_cons (p_var (pv 4)) a_nil)))) a_nil))) a_nil)))
      (s_cons (s_if (w_t (w_or (t_not (t_ownEq (eqT T) (hr.mono (by decide)) (p_var (pv 9)) (p_var (pv 12)))) (w_or (t_ownNe (eqT T) (hr.mono (by decide)) (p_var (pv 9)) (p_var (pv 12))) (w_or (t_ownEq (eqT T) (hr.mono (by decide)) (p_var (pv 9)) (p_var (pv 13))) (w_or1 (t_not (t_ownNe (eqT T) (hr.mono (by decide)) (p_var (pv 9)) (p_var (pv 13))))))))) (s_one (s_ret p_bl)) s_nil)
      (s_cons (s_set (i := 14) sc_law.nd (p_lst (a_cons (p_tup (a_cons p_str (a_cons (p_lst (a_cons p_int (a_cons p_int (a_cons p_int a_nil)))) a_nil))) (a_cons (p_tup (a_cons p_str (a_cons (p_lst (a_cons p_int (a_cons p_int (a_cons (p_tup (a_cons p_int (a_cons p_int a_nil))) (a_cons (p_tup (a_cons p_int (a_cons p_int a_nil))) (a_cons p_int a_nil)))))) a_nil))) (a_cons (p_tup (a_cons p_str (a_cons (p_lst (a_cons p_str a_nil)) a_nil))) (a_cons (p_tup (a_cons p_str (a_cons (p_lst (a_cons p_int a_nil)) a_nil))) a_nil))))))
      (s_cons (s_for (passes_of rfl) rfl (i_seq (p_var (pv 14))) (g_seq rfl (gs_cons (g_name (i := 15) sc_law.nd) (gs_cons (g_name (i := 16) sc_law.nd) gs_nil))) (s_one (s_if (t_neD hr (p_ownEq (eqT T) (hr.mono (by decide)) rfl (p_var (pv 9)) (p_call (ok_law_made T) (hr.mono (by decide)) T.g_law_made T.F_law_made.kp T.b_law_made .nil rfl (takes_of rfl rfl rfl rfl) (a_cons (p_var (pv 15)) (a_cons (p_var (pv 16)) a_nil)))) (p_and (p_eqD hr (p_var (pv 15)) (p_var (pv 3))) (p_one (p_eqD hr (p_var (pv 16)) (p_var (pv 11)))))) (s_one (s_ret p_bl)) s_nil)))
      (s_one (s_if (w_t (w_or (t_ownEq (eqT T) (hr.mono (by decide)) (p_var (pv 9)) (p_var (pv 4))) (w_or (t_ownEq (eqT T) (hr.mono (by decide)) (p_var (pv 9)) (p_tuple T.n_tuple (a_cons (p_var (pv 11)) a_nil))) (w_or (t_ownEq (eqT T) (hr.mono (by decide)) (p_var (pv 9)) p_int) (w_or1 (t_ownEq (eqT T) (hr.mono (by decide)) (p_var (pv 9)) p_str)))))) (s_one (s_ret p_bl)) s_nil))))))))))))))))))
      (s_one (s_ret p_bl)))) (pure_law T)
end
end K68

namespace K68
open PySem PySem.Spec PyProof.Rows L2 L3
def spLaw0 : Sp3 := fun xs M Q _ => ∃ ns : List Int, xs = [.lst (ns.map .int)] ∧ ns.length ≤ 63 ∧ ∀ M', Q (.bl true) M'
theorem cls_ok {K : PySem.W.Frag} {C : Addr} (h1 : PySem.W.isClsIn K C = true) (h2 : PySem.W.typeIn K (.ref C) = some (.type "type")) : ((PySem.W.clsIn K C).isSome && PySem.W.typeIn K (.ref C) == some (.type "type")) = true := by
  have e : (PySem.W.clsIn K C).isSome = true := h1
  rw [e, h2]
  rfl
theorem all_mk {K : PySem.W.Frag} {h : Heap} {mg : Str → Option Value} {fa : Addr} (X : K.In h) (G : h.Ns mainGlobals mg) (hfa : mg "law" = some (.ref fa))
    {C_BridgeError C_BadChange C_Change C_Ballast C_Rod C_Shut C_Spaced f_BadChange_init f_is_number f_is_whole f_is_point f_Ballast_init f_Ballast_eq f_Rod_init f_Rod_eq f_Shut_init f_Shut_eq f_Spaced_init f_Spaced_eq f_law_bag f_law_take f_law_of f_law_is_number f_law_within f_law_is_point f_law_pick f_law_far f_law_point f_law_rod f_law_things f_law_due f_law_made f_law_named f_law_fields f_law_kinds_right f_law_other f_law : Addr}
    {od_BadChange_init an_BadChange_init od_is_number an_is_number od_is_whole an_is_whole od_is_point an_is_point od_Ballast_init an_Ballast_init od_Ballast_eq an_Ballast_eq od_Rod_init an_Rod_init od_Rod_eq an_Rod_eq od_Shut_init an_Shut_init od_Shut_eq an_Shut_eq od_Spaced_init an_Spaced_init od_Spaced_eq an_Spaced_eq od_law_bag an_law_bag od_law_take an_law_take od_law_of an_law_of od_law_is_number an_law_is_number od_law_within an_law_within od_law_is_point an_law_is_point od_law_pick an_law_pick od_law_far an_law_far od_law_point an_law_point od_law_rod an_law_rod od_law_things an_law_things od_law_due an_law_due od_law_made an_law_made od_law_named an_law_named od_law_fields an_law_fields od_law_kinds_right an_law_kinds_right od_law_other an_law_other od_law an_law : Option Addr} {sl_BadChange_init sl_is_number sl_is_whole sl_is_point sl_Ballast_init sl_Ballast_eq sl_Rod_init sl_Rod_eq sl_Shut_init sl_Shut_eq sl_Spaced_init sl_Spaced_eq sl_law_bag sl_law_take sl_law_of sl_law_is_number sl_law_within sl_law_is_point sl_law_pick sl_law_far sl_law_point sl_law_rod sl_law_things sl_law_due sl_law_made sl_law_named sl_law_fields sl_law_kinds_right sl_law_other sl_law : Array (Option Value)} {oc_BadChange_init kV_BadChange_init dc_BadChange_init pm_BadChange_init cd_BadChange_init ct_BadChange_init oc_is_number kV_is_number dc_is_number pm_is_number cd_is_number ct_is_number oc_is_whole kV_is_whole dc_is_whole pm_is_whole cd_is_whole ct_is_whole oc_is_point kV_is_point dc_is_point pm_is_point cd_is_point ct_is_point oc_Ballast_init kV_Ballast_init dc_Ballast_init pm_Ballast_init cd_Ballast_init ct_Ballast_init oc_Ballast_eq kV_Ballast_eq dc_Ballast_eq pm_Ballast_eq cd_Ballast_eq ct_Ballast_eq oc_Rod_init kV_Rod_init dc_Rod_init pm_Rod_init cd_Rod_init ct_Rod_init oc_Rod_eq kV_Rod_eq dc_Rod_eq pm_Rod_eq cd_Rod_eq ct_Rod_eq oc_Shut_init kV_Shut_init dc_Shut_init pm_Shut_init cd_Shut_init ct_Shut_init oc_Shut_eq kV_Shut_eq dc_Shut_eq pm_Shut_eq cd_Shut_eq ct_Shut_eq oc_Spaced_init kV_Spaced_init dc_Spaced_init pm_Spaced_init cd_Spaced_init ct_Spaced_init oc_Spaced_eq kV_Spaced_eq dc_Spaced_eq pm_Spaced_eq cd_Spaced_eq ct_Spaced_eq oc_law_bag kV_law_bag dc_law_bag pm_law_bag cd_law_bag ct_law_bag oc_law_take kV_law_take dc_law_take pm_law_take cd_law_take ct_law_take oc_law_of kV_law_of dc_law_of pm_law_of cd_law_of ct_law_of oc_law_is_number kV_law_is_number dc_law_is_number pm_law_is_number cd_law_is_number ct_law_is_number oc_law_within kV_law_within dc_law_within pm_law_within cd_law_within ct_law_within oc_law_is_point kV_law_is_point dc_law_is_point pm_law_is_point cd_law_is_point ct_law_is_point oc_law_pick kV_law_pick dc_law_pick pm_law_pick cd_law_pick ct_law_pick oc_law_far kV_law_far dc_law_far pm_law_far cd_law_far ct_law_far oc_law_point kV_law_point dc_law_point pm_law_point cd_law_point ct_law_point oc_law_rod kV_law_rod dc_law_rod pm_law_rod cd_law_rod ct_law_rod oc_law_things kV_law_things dc_law_things pm_law_things cd_law_things ct_law_things oc_law_due kV_law_due dc_law_due pm_law_due cd_law_due ct_law_due oc_law_made kV_law_made dc_law_made pm_law_made cd_law_made ct_law_made oc_law_named kV_law_named dc_law_named pm_law_named cd_law_named ct_law_named oc_law_fields kV_law_fields dc_law_fields pm_law_fields cd_law_fields ct_law_fields oc_law_kinds_right kV_law_kinds_right dc_law_kinds_right pm_law_kinds_right cd_law_kinds_right ct_law_kinds_right oc_law_other kV_law_other dc_law_other pm_law_other cd_law_other ct_law_other oc_law kV_law dc_law pm_law cd_law ct_law : Value}
    {t_FARTHEST_rings t_FARTHEST_changes t_HEAVIEST t_LAST_STONE t_MOST_LETTERS t_MOST_EXTRA t_LETTERS : Tok}
    {nm_BadChange q_BadChange : Str} {N_BadChange : Addr} {bs_BadChange : List Value} {sn_BadChange : List Str} {su_BadChange : List Value} {ab_BadChange : Bool} {co_BadChange : Option Bool} {dd_BadChange : Option Addr} {m0_BadChange m1_BadChange m2_BadChange m3_BadChange m5_BadChange : Option Value}
    (g_BridgeError : PySem.W.nsIn K mainGlobals "BridgeError" = some (some (.ref C_BridgeError)))
    (g_BadChange : PySem.W.nsIn K mainGlobals "BadChange" = some (some (.ref C_BadChange)))
    (g_Change : PySem.W.nsIn K mainGlobals "Change" = some (some (.ref C_Change)))
    (g_Ballast : PySem.W.nsIn K mainGlobals "Ballast" = some (some (.ref C_Ballast)))
    (g_Rod : PySem.W.nsIn K mainGlobals "Rod" = some (some (.ref C_Rod)))
    (g_Shut : PySem.W.nsIn K mainGlobals "Shut" = some (some (.ref C_Shut)))
    (g_Spaced : PySem.W.nsIn K mainGlobals "Spaced" = some (some (.ref C_Spaced)))
    (a_Ballast_init : PySem.W.findIn K (.ref C_Ballast) "__init__" = some (some (.ref f_Ballast_init)))
    (a_Ballast_eq : PySem.W.findIn K (.ref C_Ballast) "__eq__" = some (some (.ref f_Ballast_eq)))
    (a_Rod_init : PySem.W.findIn K (.ref C_Rod) "__init__" = some (some (.ref f_Rod_init)))
    (a_Rod_eq : PySem.W.findIn K (.ref C_Rod) "__eq__" = some (some (.ref f_Rod_eq)))
    (a_Shut_init : PySem.W.findIn K (.ref C_Shut) "__init__" = some (some (.ref f_Shut_init)))
    (a_Shut_eq : PySem.W.findIn K (.ref C_Shut) "__eq__" = some (some (.ref f_Shut_eq)))
    (a_Spaced_init : PySem.W.findIn K (.ref C_Spaced) "__init__" = some (some (.ref f_Spaced_init)))
    (a_Spaced_eq : PySem.W.findIn K (.ref C_Spaced) "__eq__" = some (some (.ref f_Spaced_eq)))
    (a_BadChange_init : PySem.W.findIn K (.ref C_BadChange) "__init__" = some (some (.ref f_BadChange_init)))
    (a_is_number : PySem.W.nsIn K mainGlobals "is_number" = some (some (.ref f_is_number)))
    (a_is_whole : PySem.W.nsIn K mainGlobals "is_whole" = some (some (.ref f_is_whole)))
    (a_is_point : PySem.W.nsIn K mainGlobals "is_point" = some (some (.ref f_is_point)))
    (a_law_bag : PySem.W.nsIn K mainGlobals "_law_bag" = some (some (.ref f_law_bag)))
    (a_law_take : PySem.W.nsIn K mainGlobals "_law_take" = some (some (.ref f_law_take)))
    (a_law_of : PySem.W.nsIn K mainGlobals "_law_of" = some (some (.ref f_law_of)))
    (a_law_is_number : PySem.W.nsIn K mainGlobals "_law_is_number" = some (some (.ref f_law_is_number)))
    (a_law_within : PySem.W.nsIn K mainGlobals "_law_within" = some (some (.ref f_law_within)))
    (a_law_is_point : PySem.W.nsIn K mainGlobals "_law_is_point" = some (some (.ref f_law_is_point)))
    (a_law_pick : PySem.W.nsIn K mainGlobals "_law_pick" = some (some (.ref f_law_pick)))
    (a_law_far : PySem.W.nsIn K mainGlobals "_law_far" = some (some (.ref f_law_far)))
    (a_law_point : PySem.W.nsIn K mainGlobals "_law_point" = some (some (.ref f_law_point)))
    (a_law_rod : PySem.W.nsIn K mainGlobals "_law_rod" = some (some (.ref f_law_rod)))
    (a_law_things : PySem.W.nsIn K mainGlobals "_law_things" = some (some (.ref f_law_things)))
    (a_law_due : PySem.W.nsIn K mainGlobals "_law_due" = some (some (.ref f_law_due)))
    (a_law_made : PySem.W.nsIn K mainGlobals "_law_made" = some (some (.ref f_law_made)))
    (a_law_named : PySem.W.nsIn K mainGlobals "_law_named" = some (some (.ref f_law_named)))
    (a_law_fields : PySem.W.nsIn K mainGlobals "_law_fields" = some (some (.ref f_law_fields)))
    (a_law_kinds_right : PySem.W.nsIn K mainGlobals "_law_kinds_right" = some (some (.ref f_law_kinds_right)))
    (a_law_other : PySem.W.nsIn K mainGlobals "_law_other" = some (some (.ref f_law_other)))
    (a_law : PySem.W.nsIn K mainGlobals "law" = some (some (.ref f_law)))
    (n_ValueError : PySem.W.nsIn K mainGlobals "ValueError" = some none)
    (n_abs : PySem.W.nsIn K mainGlobals "abs" = some none)
    (n_any : PySem.W.nsIn K mainGlobals "any" = some none)
    (n_bool : PySem.W.nsIn K mainGlobals "bool" = some none)
    (n_enumerate : PySem.W.nsIn K mainGlobals "enumerate" = some none)
    (n_int : PySem.W.nsIn K mainGlobals "int" = some none)
    (n_isinstance : PySem.W.nsIn K mainGlobals "isinstance" = some none)
    (n_len : PySem.W.nsIn K mainGlobals "len" = some none)
    (n_list : PySem.W.nsIn K mainGlobals "list" = some none)
    (n_range : PySem.W.nsIn K mainGlobals "range" = some none)
    (n_str : PySem.W.nsIn K mainGlobals "str" = some none)
    (n_tuple : PySem.W.nsIn K mainGlobals "tuple" = some none)
    (i_FARTHEST_rings : PySem.W.nsIn K mainGlobals "FARTHEST_rings" = some (some (.int 1000000 t_FARTHEST_rings)))
    (i_FARTHEST_changes : PySem.W.nsIn K mainGlobals "FARTHEST_changes" = some (some (.int 1000000 t_FARTHEST_changes)))
    (i_HEAVIEST : PySem.W.nsIn K mainGlobals "HEAVIEST" = some (some (.int 1000000000000000000000000000000 t_HEAVIEST)))
    (i_LAST_STONE : PySem.W.nsIn K mainGlobals "LAST_STONE" = some (some (.int 7 t_LAST_STONE)))
    (i_MOST_LETTERS : PySem.W.nsIn K mainGlobals "MOST_LETTERS" = some (some (.int 12 t_MOST_LETTERS)))
    (i_MOST_EXTRA : PySem.W.nsIn K mainGlobals "MOST_EXTRA" = some (some (.int 100 t_MOST_EXTRA)))
    (s_LETTERS : PySem.W.nsIn K mainGlobals "LETTERS" = some (some (.str "abcdefghijklmnopqrstuvwxyz" t_LETTERS)))
    (ic_BridgeError : PySem.W.isClsIn K C_BridgeError = true)
    (ty_BridgeError : PySem.W.typeIn K (.ref C_BridgeError) = some (.type "type"))
    (ic_BadChange : PySem.W.isClsIn K C_BadChange = true)
    (ty_BadChange : PySem.W.typeIn K (.ref C_BadChange) = some (.type "type"))
    (ic_Change : PySem.W.isClsIn K C_Change = true)
    (ty_Change : PySem.W.typeIn K (.ref C_Change) = some (.type "type"))
    (ic_Ballast : PySem.W.isClsIn K C_Ballast = true)
    (ty_Ballast : PySem.W.typeIn K (.ref C_Ballast) = some (.type "type"))
    (ic_Rod : PySem.W.isClsIn K C_Rod = true)
    (ty_Rod : PySem.W.typeIn K (.ref C_Rod) = some (.type "type"))
    (ic_Shut : PySem.W.isClsIn K C_Shut = true)
    (ty_Shut : PySem.W.typeIn K (.ref C_Shut) = some (.type "type"))
    (ic_Spaced : PySem.W.isClsIn K C_Spaced = true)
    (ty_Spaced : PySem.W.typeIn K (.ref C_Spaced) = some (.type "type"))
    (pg_Ballast : PySem.W.plainGet K C_Ballast Str.empty = true)
    (hd_Ballast : PySem.W.hasDictIn K C_Ballast = true)
    (po_Ballast : PySem.W.plainOver K C_Ballast = true)
    (sa_Ballast : PySem.W.findIn K (.ref C_Ballast) "__setattr__" = some (some (.builtin "object.__setattr__")))
    (ha_Ballast : PySem.W.findIn K (.ref C_Ballast) "__class__" = some (some (.builtin "object.__class__")))
    (hn_Ballast : PySem.W.specialIn K (.builtin "object.__class__") "__get__" = some (some (.builtin "getset_descriptor.__get__")))
    (ht_Ballast : PySem.W.takesIn K (.builtin "object.__class__") = some true)
    (hm_Ballast : PySem.W.mroIn K C_Ballast (.type "object") = some true)
    (na_Ballast_stone : PySem.W.findIn K (.ref C_Ballast) "stone" = some none)
    (na_Ballast_x : PySem.W.findIn K (.ref C_Ballast) "x" = some none)
    (na_Ballast_weight : PySem.W.findIn K (.ref C_Ballast) "weight" = some none)
    (mm_Ballast : PySem.W.makesIn K C_Ballast = true)
    (fn_Ballast_init : PySem.W.isFn K (.ref f_Ballast_init) = true)
    (kc_Ballast : PySem.W.keepIn K (.ref C_Ballast) = true)
    (fn_Ballast_eq : PySem.W.isFn K (.ref f_Ballast_eq) = true)
    (ne_Ballast : PySem.W.findIn K (.ref C_Ballast) "__ne__" = some (some (.builtin "object.__ne__")))
    (pg_Rod : PySem.W.plainGet K C_Rod Str.empty = true)
    (hd_Rod : PySem.W.hasDictIn K C_Rod = true)
    (po_Rod : PySem.W.plainOver K C_Rod = true)
    (sa_Rod : PySem.W.findIn K (.ref C_Rod) "__setattr__" = some (some (.builtin "object.__setattr__")))
    (ha_Rod : PySem.W.findIn K (.ref C_Rod) "__class__" = some (some (.builtin "object.__class__")))
    (hn_Rod : PySem.W.specialIn K (.builtin "object.__class__") "__get__" = some (some (.builtin "getset_descriptor.__get__")))
    (ht_Rod : PySem.W.takesIn K (.builtin "object.__class__") = some true)
    (hm_Rod : PySem.W.mroIn K C_Rod (.type "object") = some true)
    (na_Rod_one : PySem.W.findIn K (.ref C_Rod) "one" = some none)
    (na_Rod_other : PySem.W.findIn K (.ref C_Rod) "other" = some none)
    (na_Rod_start : PySem.W.findIn K (.ref C_Rod) "start" = some none)
    (na_Rod_end : PySem.W.findIn K (.ref C_Rod) "end" = some none)
    (na_Rod_pull : PySem.W.findIn K (.ref C_Rod) "pull" = some none)
    (mm_Rod : PySem.W.makesIn K C_Rod = true)
    (fn_Rod_init : PySem.W.isFn K (.ref f_Rod_init) = true)
    (kc_Rod : PySem.W.keepIn K (.ref C_Rod) = true)
    (fn_Rod_eq : PySem.W.isFn K (.ref f_Rod_eq) = true)
    (ne_Rod : PySem.W.findIn K (.ref C_Rod) "__ne__" = some (some (.builtin "object.__ne__")))
    (pg_Shut : PySem.W.plainGet K C_Shut Str.empty = true)
    (hd_Shut : PySem.W.hasDictIn K C_Shut = true)
    (po_Shut : PySem.W.plainOver K C_Shut = true)
    (sa_Shut : PySem.W.findIn K (.ref C_Shut) "__setattr__" = some (some (.builtin "object.__setattr__")))
    (ha_Shut : PySem.W.findIn K (.ref C_Shut) "__class__" = some (some (.builtin "object.__class__")))
    (hn_Shut : PySem.W.specialIn K (.builtin "object.__class__") "__get__" = some (some (.builtin "getset_descriptor.__get__")))
    (ht_Shut : PySem.W.takesIn K (.builtin "object.__class__") = some true)
    (hm_Shut : PySem.W.mroIn K C_Shut (.type "object") = some true)
    (na_Shut_name : PySem.W.findIn K (.ref C_Shut) "name" = some none)
    (mm_Shut : PySem.W.makesIn K C_Shut = true)
    (fn_Shut_init : PySem.W.isFn K (.ref f_Shut_init) = true)
    (kc_Shut : PySem.W.keepIn K (.ref C_Shut) = true)
    (fn_Shut_eq : PySem.W.isFn K (.ref f_Shut_eq) = true)
    (ne_Shut : PySem.W.findIn K (.ref C_Shut) "__ne__" = some (some (.builtin "object.__ne__")))
    (pg_Spaced : PySem.W.plainGet K C_Spaced Str.empty = true)
    (hd_Spaced : PySem.W.hasDictIn K C_Spaced = true)
    (po_Spaced : PySem.W.plainOver K C_Spaced = true)
    (sa_Spaced : PySem.W.findIn K (.ref C_Spaced) "__setattr__" = some (some (.builtin "object.__setattr__")))
    (ha_Spaced : PySem.W.findIn K (.ref C_Spaced) "__class__" = some (some (.builtin "object.__class__")))
    (hn_Spaced : PySem.W.specialIn K (.builtin "object.__class__") "__get__" = some (some (.builtin "getset_descriptor.__get__")))
    (ht_Spaced : PySem.W.takesIn K (.builtin "object.__class__") = some true)
    (hm_Spaced : PySem.W.mroIn K C_Spaced (.type "object") = some true)
    (na_Spaced_extra : PySem.W.findIn K (.ref C_Spaced) "extra" = some none)
    (mm_Spaced : PySem.W.makesIn K C_Spaced = true)
    (fn_Spaced_init : PySem.W.isFn K (.ref f_Spaced_init) = true)
    (kc_Spaced : PySem.W.keepIn K (.ref C_Spaced) = true)
    (fn_Spaced_eq : PySem.W.isFn K (.ref f_Spaced_eq) = true)
    (ne_Spaced : PySem.W.findIn K (.ref C_Spaced) "__ne__" = some (some (.builtin "object.__ne__")))
    (sb_Ballast_Ballast : PySem.W.subIn K (.ref C_Ballast) (.ref C_Ballast) = some true)
    (sb_Ballast_Rod : PySem.W.subIn K (.ref C_Ballast) (.ref C_Rod) = some false)
    (sb_Ballast_Shut : PySem.W.subIn K (.ref C_Ballast) (.ref C_Shut) = some false)
    (sb_Ballast_Spaced : PySem.W.subIn K (.ref C_Ballast) (.ref C_Spaced) = some false)
    (sb_Rod_Ballast : PySem.W.subIn K (.ref C_Rod) (.ref C_Ballast) = some false)
    (sb_Rod_Rod : PySem.W.subIn K (.ref C_Rod) (.ref C_Rod) = some true)
    (sb_Rod_Shut : PySem.W.subIn K (.ref C_Rod) (.ref C_Shut) = some false)
    (sb_Rod_Spaced : PySem.W.subIn K (.ref C_Rod) (.ref C_Spaced) = some false)
    (sb_Shut_Ballast : PySem.W.subIn K (.ref C_Shut) (.ref C_Ballast) = some false)
    (sb_Shut_Rod : PySem.W.subIn K (.ref C_Shut) (.ref C_Rod) = some false)
    (sb_Shut_Shut : PySem.W.subIn K (.ref C_Shut) (.ref C_Shut) = some true)
    (sb_Shut_Spaced : PySem.W.subIn K (.ref C_Shut) (.ref C_Spaced) = some false)
    (sb_Spaced_Ballast : PySem.W.subIn K (.ref C_Spaced) (.ref C_Ballast) = some false)
    (sb_Spaced_Rod : PySem.W.subIn K (.ref C_Spaced) (.ref C_Rod) = some false)
    (sb_Spaced_Shut : PySem.W.subIn K (.ref C_Spaced) (.ref C_Shut) = some false)
    (sb_Spaced_Spaced : PySem.W.subIn K (.ref C_Spaced) (.ref C_Spaced) = some true)
    (sb_Ballast_Change : PySem.W.subIn K (.ref C_Ballast) (.ref C_Change) = some true)
    (sb_Rod_Change : PySem.W.subIn K (.ref C_Rod) (.ref C_Change) = some true)
    (sb_Shut_Change : PySem.W.subIn K (.ref C_Shut) (.ref C_Change) = some true)
    (sb_Spaced_Change : PySem.W.subIn K (.ref C_Spaced) (.ref C_Change) = some true)
    (sb_Ballast_tuple : PySem.W.subIn K (.ref C_Ballast) (.type "tuple") = some false)
    (sb_Rod_tuple : PySem.W.subIn K (.ref C_Rod) (.type "tuple") = some false)
    (sb_Shut_tuple : PySem.W.subIn K (.ref C_Shut) (.type "tuple") = some false)
    (sb_Spaced_tuple : PySem.W.subIn K (.ref C_Spaced) (.type "tuple") = some false)
    (sb_BadChange_BadChange : PySem.W.subIn K (.ref C_BadChange) (.ref C_BadChange) = some true)
    (sb_BadChange_BridgeError : PySem.W.subIn K (.ref C_BadChange) (.ref C_BridgeError) = some true)
    (sb_BadChange_ValueError : PySem.W.subIn K (.ref C_BadChange) (.type "ValueError") = some true)
    (xl_BadChange : K.lookup C_BadChange = some (excClassObj nm_BadChange q_BadChange C_BadChange N_BadChange bs_BadChange [.ref C_BridgeError, .type "ValueError", .type "Exception", .type "BaseException", .type "object"] true sn_BadChange su_BadChange ab_BadChange co_BadChange dd_BadChange m0_BadChange m1_BadChange m2_BadChange m3_BadChange m5_BadChange "ValueError.__new__"))
    (xs_BadChange : PySem.W.findIn K (.ref C_BadChange) "__setattr__" = some (some (.builtin "object.__setattr__")))
    (xe_BadChange : PySem.W.subIn K (.ref C_BadChange) (.type "BaseException") = some true)
    (xk_BadChange : PySem.W.keepIn K (.ref C_BadChange) = true)
    (tf_BadChange_init : PySem.W.typeIn K (.ref f_BadChange_init) = some (.type "function"))
    (xg_BadChange : PySem.W.findIn K (.ref C_BadChange) "__getattribute__" = some (some (.builtin "BaseException.__getattribute__")))
    (xh_BadChange : PySem.W.findIn K (.ref C_BadChange) "__getattr__" = some none)
    (xd_BadChange : PySem.W.hasDictIn K C_BadChange = true)
    (xa_BadChange : PySem.W.findIn K (.ref C_BadChange) "__class__" = some (some (.builtin "object.__class__")))
    (xn0_BadChange : PySem.W.specialIn K (.builtin "object.__class__") "__get__" = some (some (.builtin "getset_descriptor.__get__")))
    (xt0_BadChange : PySem.W.takesIn K (.builtin "object.__class__") = some true)
    (xm_BadChange : PySem.W.mroIn K C_BadChange (.type "object") = some true)
    (xn_BadChange_what : PySem.W.findIn K (.ref C_BadChange) "what" = some none)
    (br_BridgeError : PySem.W.readsIn K C_BridgeError (.type "type") = true)
    (bga_BridgeError : PySem.W.specialIn K (.ref C_BridgeError) "__getattribute__" = some (some (.builtin "type.__getattribute__")))
    (bat_BridgeError : PySem.W.findCls K (.ref C_BridgeError) (.type "type") "__init__" = some (.val (.builtin "ValueError.__init__")))
    (l_BadChange_init : K.lookup f_BadChange_init = some ⟨oc_BadChange_init, od_BadChange_init, .func (PySem.W.fnOf "__init__" "BadChange.__init__" (defArgs s_BadChange_init) (defBody s_BadChange_init) (defScope s_BadChange_init) .none kV_BadChange_init dc_BadChange_init pm_BadChange_init an_BadChange_init cd_BadChange_init ct_BadChange_init), sl_BadChange_init⟩)
    (c_BadChange_init : PySem.W.codeIn K cd_BadChange_init "BadChange.__init__" = true)
    (k_BadChange_init : PySem.W.keepIn K (.ref f_BadChange_init) = true)
    (l_is_number : K.lookup f_is_number = some ⟨oc_is_number, od_is_number, .func (PySem.W.fnOf "is_number" "is_number" (defArgs s_is_number) (defBody s_is_number) (defScope s_is_number) .none kV_is_number dc_is_number pm_is_number an_is_number cd_is_number ct_is_number), sl_is_number⟩)
    (c_is_number : PySem.W.codeIn K cd_is_number "is_number" = true)
    (k_is_number : PySem.W.keepIn K (.ref f_is_number) = true)
    (l_is_whole : K.lookup f_is_whole = some ⟨oc_is_whole, od_is_whole, .func (PySem.W.fnOf "is_whole" "is_whole" (defArgs s_is_whole) (defBody s_is_whole) (defScope s_is_whole) .none kV_is_whole dc_is_whole pm_is_whole an_is_whole cd_is_whole ct_is_whole), sl_is_whole⟩)
    (c_is_whole : PySem.W.codeIn K cd_is_whole "is_whole" = true)
    (k_is_whole : PySem.W.keepIn K (.ref f_is_whole) = true)
    (l_is_point : K.lookup f_is_point = some ⟨oc_is_point, od_is_point, .func (PySem.W.fnOf "is_point" "is_point" (defArgs s_is_point) (defBody s_is_point) (defScope s_is_point) .none kV_is_point dc_is_point pm_is_point an_is_point cd_is_point ct_is_point), sl_is_point⟩)
    (c_is_point : PySem.W.codeIn K cd_is_point "is_point" = true)
    (k_is_point : PySem.W.keepIn K (.ref f_is_point) = true)
    (l_Ballast_init : K.lookup f_Ballast_init = some ⟨oc_Ballast_init, od_Ballast_init, .func (PySem.W.fnOf "__init__" "Ballast.__init__" (defArgs s_Ballast_init) (defBody s_Ballast_init) (defScope s_Ballast_init) .none kV_Ballast_init dc_Ballast_init pm_Ballast_init an_Ballast_init cd_Ballast_init ct_Ballast_init), sl_Ballast_init⟩)
    (c_Ballast_init : PySem.W.codeIn K cd_Ballast_init "Ballast.__init__" = true)
    (k_Ballast_init : PySem.W.keepIn K (.ref f_Ballast_init) = true)
    (l_Ballast_eq : K.lookup f_Ballast_eq = some ⟨oc_Ballast_eq, od_Ballast_eq, .func (PySem.W.fnOf "__eq__" "Ballast.__eq__" (defArgs s_Ballast_eq) (defBody s_Ballast_eq) (defScope s_Ballast_eq) .none kV_Ballast_eq dc_Ballast_eq pm_Ballast_eq an_Ballast_eq cd_Ballast_eq ct_Ballast_eq), sl_Ballast_eq⟩)
    (c_Ballast_eq : PySem.W.codeIn K cd_Ballast_eq "Ballast.__eq__" = true)
    (k_Ballast_eq : PySem.W.keepIn K (.ref f_Ballast_eq) = true)
    (l_Rod_init : K.lookup f_Rod_init = some ⟨oc_Rod_init, od_Rod_init, .func (PySem.W.fnOf "__init__" "Rod.__init__" (defArgs s_Rod_init) (defBody s_Rod_init) (defScope s_Rod_init) .none kV_Rod_init dc_Rod_init pm_Rod_init an_Rod_init cd_Rod_init ct_Rod_init), sl_Rod_init⟩)
    (c_Rod_init : PySem.W.codeIn K cd_Rod_init "Rod.__init__" = true)
    (k_Rod_init : PySem.W.keepIn K (.ref f_Rod_init) = true)
    (l_Rod_eq : K.lookup f_Rod_eq = some ⟨oc_Rod_eq, od_Rod_eq, .func (PySem.W.fnOf "__eq__" "Rod.__eq__" (defArgs s_Rod_eq) (defBody s_Rod_eq) (defScope s_Rod_eq) .none kV_Rod_eq dc_Rod_eq pm_Rod_eq an_Rod_eq cd_Rod_eq ct_Rod_eq), sl_Rod_eq⟩)
    (c_Rod_eq : PySem.W.codeIn K cd_Rod_eq "Rod.__eq__" = true)
    (k_Rod_eq : PySem.W.keepIn K (.ref f_Rod_eq) = true)
    (l_Shut_init : K.lookup f_Shut_init = some ⟨oc_Shut_init, od_Shut_init, .func (PySem.W.fnOf "__init__" "Shut.__init__" (defArgs s_Shut_init) (defBody s_Shut_init) (defScope s_Shut_init) .none kV_Shut_init dc_Shut_init pm_Shut_init an_Shut_init cd_Shut_init ct_Shut_init), sl_Shut_init⟩)
    (c_Shut_init : PySem.W.codeIn K cd_Shut_init "Shut.__init__" = true)
    (k_Shut_init : PySem.W.keepIn K (.ref f_Shut_init) = true)
    (l_Shut_eq : K.lookup f_Shut_eq = some ⟨oc_Shut_eq, od_Shut_eq, .func (PySem.W.fnOf "__eq__" "Shut.__eq__" (defArgs s_Shut_eq) (defBody s_Shut_eq) (defScope s_Shut_eq) .none kV_Shut_eq dc_Shut_eq pm_Shut_eq an_Shut_eq cd_Shut_eq ct_Shut_eq), sl_Shut_eq⟩)
    (c_Shut_eq : PySem.W.codeIn K cd_Shut_eq "Shut.__eq__" = true)
    (k_Shut_eq : PySem.W.keepIn K (.ref f_Shut_eq) = true)
    (l_Spaced_init : K.lookup f_Spaced_init = some ⟨oc_Spaced_init, od_Spaced_init, .func (PySem.W.fnOf "__init__" "Spaced.__init__" (defArgs s_Spaced_init) (defBody s_Spaced_init) (defScope s_Spaced_init) .none kV_Spaced_init dc_Spaced_init pm_Spaced_init an_Spaced_init cd_Spaced_init ct_Spaced_init), sl_Spaced_init⟩)
    (c_Spaced_init : PySem.W.codeIn K cd_Spaced_init "Spaced.__init__" = true)
    (k_Spaced_init : PySem.W.keepIn K (.ref f_Spaced_init) = true)
    (l_Spaced_eq : K.lookup f_Spaced_eq = some ⟨oc_Spaced_eq, od_Spaced_eq, .func (PySem.W.fnOf "__eq__" "Spaced.__eq__" (defArgs s_Spaced_eq) (defBody s_Spaced_eq) (defScope s_Spaced_eq) .none kV_Spaced_eq dc_Spaced_eq pm_Spaced_eq an_Spaced_eq cd_Spaced_eq ct_Spaced_eq), sl_Spaced_eq⟩)
    (c_Spaced_eq : PySem.W.codeIn K cd_Spaced_eq "Spaced.__eq__" = true)
    (k_Spaced_eq : PySem.W.keepIn K (.ref f_Spaced_eq) = true)
    (l_law_bag : K.lookup f_law_bag = some ⟨oc_law_bag, od_law_bag, .func (PySem.W.fnOf "_law_bag" "_law_bag" (defArgs s_law_bag) (defBody s_law_bag) (defScope s_law_bag) .none kV_law_bag dc_law_bag pm_law_bag an_law_bag cd_law_bag ct_law_bag), sl_law_bag⟩)
    (c_law_bag : PySem.W.codeIn K cd_law_bag "_law_bag" = true)
    (k_law_bag : PySem.W.keepIn K (.ref f_law_bag) = true)
    (l_law_take : K.lookup f_law_take = some ⟨oc_law_take, od_law_take, .func (PySem.W.fnOf "_law_take" "_law_take" (defArgs s_law_take) (defBody s_law_take) (defScope s_law_take) .none kV_law_take dc_law_take pm_law_take an_law_take cd_law_take ct_law_take), sl_law_take⟩)
    (c_law_take : PySem.W.codeIn K cd_law_take "_law_take" = true)
    (k_law_take : PySem.W.keepIn K (.ref f_law_take) = true)
    (l_law_of : K.lookup f_law_of = some ⟨oc_law_of, od_law_of, .func (PySem.W.fnOf "_law_of" "_law_of" (defArgs s_law_of) (defBody s_law_of) (defScope s_law_of) .none kV_law_of dc_law_of pm_law_of an_law_of cd_law_of ct_law_of), sl_law_of⟩)
    (c_law_of : PySem.W.codeIn K cd_law_of "_law_of" = true)
    (k_law_of : PySem.W.keepIn K (.ref f_law_of) = true)
    (l_law_is_number : K.lookup f_law_is_number = some ⟨oc_law_is_number, od_law_is_number, .func (PySem.W.fnOf "_law_is_number" "_law_is_number" (defArgs s_law_is_number) (defBody s_law_is_number) (defScope s_law_is_number) .none kV_law_is_number dc_law_is_number pm_law_is_number an_law_is_number cd_law_is_number ct_law_is_number), sl_law_is_number⟩)
    (c_law_is_number : PySem.W.codeIn K cd_law_is_number "_law_is_number" = true)
    (k_law_is_number : PySem.W.keepIn K (.ref f_law_is_number) = true)
    (l_law_within : K.lookup f_law_within = some ⟨oc_law_within, od_law_within, .func (PySem.W.fnOf "_law_within" "_law_within" (defArgs s_law_within) (defBody s_law_within) (defScope s_law_within) .none kV_law_within dc_law_within pm_law_within an_law_within cd_law_within ct_law_within), sl_law_within⟩)
    (c_law_within : PySem.W.codeIn K cd_law_within "_law_within" = true)
    (k_law_within : PySem.W.keepIn K (.ref f_law_within) = true)
    (l_law_is_point : K.lookup f_law_is_point = some ⟨oc_law_is_point, od_law_is_point, .func (PySem.W.fnOf "_law_is_point" "_law_is_point" (defArgs s_law_is_point) (defBody s_law_is_point) (defScope s_law_is_point) .none kV_law_is_point dc_law_is_point pm_law_is_point an_law_is_point cd_law_is_point ct_law_is_point), sl_law_is_point⟩)
    (c_law_is_point : PySem.W.codeIn K cd_law_is_point "_law_is_point" = true)
    (k_law_is_point : PySem.W.keepIn K (.ref f_law_is_point) = true)
    (l_law_pick : K.lookup f_law_pick = some ⟨oc_law_pick, od_law_pick, .func (PySem.W.fnOf "_law_pick" "_law_pick" (defArgs s_law_pick) (defBody s_law_pick) (defScope s_law_pick) .none kV_law_pick dc_law_pick pm_law_pick an_law_pick cd_law_pick ct_law_pick), sl_law_pick⟩)
    (c_law_pick : PySem.W.codeIn K cd_law_pick "_law_pick" = true)
    (k_law_pick : PySem.W.keepIn K (.ref f_law_pick) = true)
    (l_law_far : K.lookup f_law_far = some ⟨oc_law_far, od_law_far, .func (PySem.W.fnOf "_law_far" "_law_far" (defArgs s_law_far) (defBody s_law_far) (defScope s_law_far) .none kV_law_far dc_law_far pm_law_far an_law_far cd_law_far ct_law_far), sl_law_far⟩)
    (c_law_far : PySem.W.codeIn K cd_law_far "_law_far" = true)
    (k_law_far : PySem.W.keepIn K (.ref f_law_far) = true)
    (l_law_point : K.lookup f_law_point = some ⟨oc_law_point, od_law_point, .func (PySem.W.fnOf "_law_point" "_law_point" (defArgs s_law_point) (defBody s_law_point) (defScope s_law_point) .none kV_law_point dc_law_point pm_law_point an_law_point cd_law_point ct_law_point), sl_law_point⟩)
    (c_law_point : PySem.W.codeIn K cd_law_point "_law_point" = true)
    (k_law_point : PySem.W.keepIn K (.ref f_law_point) = true)
    (l_law_rod : K.lookup f_law_rod = some ⟨oc_law_rod, od_law_rod, .func (PySem.W.fnOf "_law_rod" "_law_rod" (defArgs s_law_rod) (defBody s_law_rod) (defScope s_law_rod) .none kV_law_rod dc_law_rod pm_law_rod an_law_rod cd_law_rod ct_law_rod), sl_law_rod⟩)
    (c_law_rod : PySem.W.codeIn K cd_law_rod "_law_rod" = true)
    (k_law_rod : PySem.W.keepIn K (.ref f_law_rod) = true)
    (l_law_things : K.lookup f_law_things = some ⟨oc_law_things, od_law_things, .func (PySem.W.fnOf "_law_things" "_law_things" (defArgs s_law_things) (defBody s_law_things) (defScope s_law_things) .none kV_law_things dc_law_things pm_law_things an_law_things cd_law_things ct_law_things), sl_law_things⟩)
    (c_law_things : PySem.W.codeIn K cd_law_things "_law_things" = true)
    (k_law_things : PySem.W.keepIn K (.ref f_law_things) = true)
    (l_law_due : K.lookup f_law_due = some ⟨oc_law_due, od_law_due, .func (PySem.W.fnOf "_law_due" "_law_due" (defArgs s_law_due) (defBody s_law_due) (defScope s_law_due) .none kV_law_due dc_law_due pm_law_due an_law_due cd_law_due ct_law_due), sl_law_due⟩)
    (c_law_due : PySem.W.codeIn K cd_law_due "_law_due" = true)
    (k_law_due : PySem.W.keepIn K (.ref f_law_due) = true)
    (l_law_made : K.lookup f_law_made = some ⟨oc_law_made, od_law_made, .func (PySem.W.fnOf "_law_made" "_law_made" (defArgs s_law_made) (defBody s_law_made) (defScope s_law_made) .none kV_law_made dc_law_made pm_law_made an_law_made cd_law_made ct_law_made), sl_law_made⟩)
    (c_law_made : PySem.W.codeIn K cd_law_made "_law_made" = true)
    (k_law_made : PySem.W.keepIn K (.ref f_law_made) = true)
    (l_law_named : K.lookup f_law_named = some ⟨oc_law_named, od_law_named, .func (PySem.W.fnOf "_law_named" "_law_named" (defArgs s_law_named) (defBody s_law_named) (defScope s_law_named) .none kV_law_named dc_law_named pm_law_named an_law_named cd_law_named ct_law_named), sl_law_named⟩)
    (c_law_named : PySem.W.codeIn K cd_law_named "_law_named" = true)
    (k_law_named : PySem.W.keepIn K (.ref f_law_named) = true)
    (l_law_fields : K.lookup f_law_fields = some ⟨oc_law_fields, od_law_fields, .func (PySem.W.fnOf "_law_fields" "_law_fields" (defArgs s_law_fields) (defBody s_law_fields) (defScope s_law_fields) .none kV_law_fields dc_law_fields pm_law_fields an_law_fields cd_law_fields ct_law_fields), sl_law_fields⟩)
    (c_law_fields : PySem.W.codeIn K cd_law_fields "_law_fields" = true)
    (k_law_fields : PySem.W.keepIn K (.ref f_law_fields) = true)
    (l_law_kinds_right : K.lookup f_law_kinds_right = some ⟨oc_law_kinds_right, od_law_kinds_right, .func (PySem.W.fnOf "_law_kinds_right" "_law_kinds_right" (defArgs s_law_kinds_right) (defBody s_law_kinds_right) (defScope s_law_kinds_right) .none kV_law_kinds_right dc_law_kinds_right pm_law_kinds_right an_law_kinds_right cd_law_kinds_right ct_law_kinds_right), sl_law_kinds_right⟩)
    (c_law_kinds_right : PySem.W.codeIn K cd_law_kinds_right "_law_kinds_right" = true)
    (k_law_kinds_right : PySem.W.keepIn K (.ref f_law_kinds_right) = true)
    (l_law_other : K.lookup f_law_other = some ⟨oc_law_other, od_law_other, .func (PySem.W.fnOf "_law_other" "_law_other" (defArgs s_law_other) (defBody s_law_other) (defScope s_law_other) .none kV_law_other dc_law_other pm_law_other an_law_other cd_law_other ct_law_other), sl_law_other⟩)
    (c_law_other : PySem.W.codeIn K cd_law_other "_law_other" = true)
    (k_law_other : PySem.W.keepIn K (.ref f_law_other) = true)
    (l_law : K.lookup f_law = some ⟨oc_law, od_law, .func (PySem.W.fnOf "law" "law" (defArgs s_law) (defBody s_law) (defScope s_law) .none kV_law dc_law pm_law an_law cd_law ct_law), sl_law⟩)
    (c_law : PySem.W.codeIn K cd_law "law" = true)
    (k_law : PySem.W.keepIn K (.ref f_law) = true)
    : ∃ A : Adr, A.f_law = fa ∧ A.d_law = PySem.W.fnOf "law" "law" (defArgs s_law) (defBody s_law) (defScope s_law) .none kV_law dc_law pm_law an_law cd_law ct_law ∧ Txt K mg A := by
  have e := hfa.symm.trans (PySem.W.mg_of X G a_law)
  cases e
  refine ⟨{ C_BridgeError := C_BridgeError, C_BadChange := C_BadChange, C_Change := C_Change, C_Ballast := C_Ballast, C_Rod := C_Rod, C_Shut := C_Shut, C_Spaced := C_Spaced, f_BadChange_init := f_BadChange_init, d_BadChange_init := PySem.W.fnOf "__init__" "BadChange.__init__" (defArgs s_BadChange_init) (defBody s_BadChange_init) (defScope s_BadChange_init) .none kV_BadChange_init dc_BadChange_init pm_BadChange_init an_BadChange_init cd_BadChange_init ct_BadChange_init, f_is_number := f_is_number, d_is_number := PySem.W.fnOf "is_number" "is_number" (defArgs s_is_number) (defBody s_is_number) (defScope s_is_number) .none kV_is_number dc_is_number pm_is_number an_is_number cd_is_number ct_is_number, f_is_whole := f_is_whole, d_is_whole := PySem.W.fnOf "is_whole" "is_whole" (defArgs s_is_whole) (defBody s_is_whole) (defScope s_is_whole) .none kV_is_whole dc_is_whole pm_is_whole an_is_whole cd_is_whole ct_is_whole, f_is_point := f_is_point, d_is_point := PySem.W.fnOf "is_point" "is_point" (defArgs s_is_point) (defBody s_is_point) (defScope s_is_point) .none kV_is_point dc_is_point pm_is_point an_is_point cd_is_point ct_is_point, f_Ballast_init := f_Ballast_init, d_Ballast_init := PySem.W.fnOf "__init__" "Ballast.__init__" (defArgs s_Ballast_init) (defBody s_Ballast_init) (defScope s_Ballast_init) .none kV_Ballast_init dc_Ballast_init pm_Ballast_init an_Ballast_init cd_Ballast_init ct_Ballast_init, f_Ballast_eq := f_Ballast_eq, d_Ballast_eq := PySem.W.fnOf "__eq__" "Ballast.__eq__" (defArgs s_Ballast_eq) (defBody s_Ballast_eq) (defScope s_Ballast_eq) .none kV_Ballast_eq dc_Ballast_eq pm_Ballast_eq an_Ballast_eq cd_Ballast_eq ct_Ballast_eq, f_Rod_init := f_Rod_init, d_Rod_init := PySem.W.fnOf "__init__" "Rod.__init__" (defArgs s_Rod_init) (defBody s_Rod_init) (defScope s_Rod_init) .none kV_Rod_init dc_Rod_init pm_Rod_init an_Rod_init cd_Rod_init ct_Rod_init, f_Rod_eq := f_Rod_eq, d_Rod_eq := PySem.W.fnOf "__eq__" "Rod.__eq__" (defArgs s_Rod_eq) (defBody s_Rod_eq) (defScope s_Rod_eq) .none kV_Rod_eq dc_Rod_eq pm_Rod_eq an_Rod_eq cd_Rod_eq ct_Rod_eq, f_Shut_init := f_Shut_init, d_Shut_init := PySem.W.fnOf "__init__" "Shut.__init__" (defArgs s_Shut_init) (defBody s_Shut_init) (defScope s_Shut_init) .none kV_Shut_init dc_Shut_init pm_Shut_init an_Shut_init cd_Shut_init ct_Shut_init, f_Shut_eq := f_Shut_eq, d_Shut_eq := PySem.W.fnOf "__eq__" "Shut.__eq__" (defArgs s_Shut_eq) (defBody s_Shut_eq) (defScope s_Shut_eq) .none kV_Shut_eq dc_Shut_eq pm_Shut_eq an_Shut_eq cd_Shut_eq ct_Shut_eq, f_Spaced_init := f_Spaced_init, d_Spaced_init := PySem.W.fnOf "__init__" "Spaced.__init__" (defArgs s_Spaced_init) (defBody s_Spaced_init) (defScope s_Spaced_init) .none kV_Spaced_init dc_Spaced_init pm_Spaced_init an_Spaced_init cd_Spaced_init ct_Spaced_init, f_Spaced_eq := f_Spaced_eq, d_Spaced_eq := PySem.W.fnOf "__eq__" "Spaced.__eq__" (defArgs s_Spaced_eq) (defBody s_Spaced_eq) (defScope s_Spaced_eq) .none kV_Spaced_eq dc_Spaced_eq pm_Spaced_eq an_Spaced_eq cd_Spaced_eq ct_Spaced_eq, f_law_bag := f_law_bag, d_law_bag := PySem.W.fnOf "_law_bag" "_law_bag" (defArgs s_law_bag) (defBody s_law_bag) (defScope s_law_bag) .none kV_law_bag dc_law_bag pm_law_bag an_law_bag cd_law_bag ct_law_bag, f_law_take := f_law_take, d_law_take := PySem.W.fnOf "_law_take" "_law_take" (defArgs s_law_take) (defBody s_law_take) (defScope s_law_take) .none kV_law_take dc_law_take pm_law_take an_law_take cd_law_take ct_law_take, f_law_of := f_law_of, d_law_of := PySem.W.fnOf "_law_of" "_law_of" (defArgs s_law_of) (defBody s_law_of) (defScope s_law_of) .none kV_law_of dc_law_of pm_law_of an_law_of cd_law_of ct_law_of, f_law_is_number := f_law_is_number, d_law_is_number := PySem.W.fnOf "_law_is_number" "_law_is_number" (defArgs s_law_is_number) (defBody s_law_is_number) (defScope s_law_is_number) .none kV_law_is_number dc_law_is_number pm_law_is_number an_law_is_number cd_law_is_number ct_law_is_number, f_law_within := f_law_within, d_law_within := PySem.W.fnOf "_law_within" "_law_within" (defArgs s_law_within) (defBody s_law_within) (defScope s_law_within) .none kV_law_within dc_law_within pm_law_within an_law_within cd_law_within ct_law_within, f_law_is_point := f_law_is_point, d_law_is_point := PySem.W.fnOf "_law_is_point" "_law_is_point" (defArgs s_law_is_point) (defBody s_law_is_point) (defScope s_law_is_point) .none kV_law_is_point dc_law_is_point pm_law_is_point an_law_is_point cd_law_is_point ct_law_is_point, f_law_pick := f_law_pick, d_law_pick := PySem.W.fnOf "_law_pick" "_law_pick" (defArgs s_law_pick) (defBody s_law_pick) (defScope s_law_pick) .none kV_law_pick dc_law_pick pm_law_pick an_law_pick cd_law_pick ct_law_pick, f_law_far := f_law_far, d_law_far := PySem.W.fnOf "_law_far" "_law_far" (defArgs s_law_far) (defBody s_law_far) (defScope s_law_far) .none kV_law_far dc_law_far pm_law_far an_law_far cd_law_far ct_law_far, f_law_point := f_law_point, d_law_point := PySem.W.fnOf "_law_point" "_law_point" (defArgs s_law_point) (defBody s_law_point) (defScope s_law_point) .none kV_law_point dc_law_point pm_law_point an_law_point cd_law_point ct_law_point, f_law_rod := f_law_rod, d_law_rod := PySem.W.fnOf "_law_rod" "_law_rod" (defArgs s_law_rod) (defBody s_law_rod) (defScope s_law_rod) .none kV_law_rod dc_law_rod pm_law_rod an_law_rod cd_law_rod ct_law_rod, f_law_things := f_law_things, d_law_things := PySem.W.fnOf "_law_things" "_law_things" (defArgs s_law_things) (defBody s_law_things) (defScope s_law_things) .none kV_law_things dc_law_things pm_law_things an_law_things cd_law_things ct_law_things, f_law_due := f_law_due, d_law_due := PySem.W.fnOf "_law_due" "_law_due" (defArgs s_law_due) (defBody s_law_due) (defScope s_law_due) .none kV_law_due dc_law_due pm_law_due an_law_due cd_law_due ct_law_due, f_law_made := f_law_made, d_law_made := PySem.W.fnOf "_law_made" "_law_made" (defArgs s_law_made) (defBody s_law_made) (defScope s_law_made) .none kV_law_made dc_law_made pm_law_made an_law_made cd_law_made ct_law_made, f_law_named := f_law_named, d_law_named := PySem.W.fnOf "_law_named" "_law_named" (defArgs s_law_named) (defBody s_law_named) (defScope s_law_named) .none kV_law_named dc_law_named pm_law_named an_law_named cd_law_named ct_law_named, f_law_fields := f_law_fields, d_law_fields := PySem.W.fnOf "_law_fields" "_law_fields" (defArgs s_law_fields) (defBody s_law_fields) (defScope s_law_fields) .none kV_law_fields dc_law_fields pm_law_fields an_law_fields cd_law_fields ct_law_fields, f_law_kinds_right := f_law_kinds_right, d_law_kinds_right := PySem.W.fnOf "_law_kinds_right" "_law_kinds_right" (defArgs s_law_kinds_right) (defBody s_law_kinds_right) (defScope s_law_kinds_right) .none kV_law_kinds_right dc_law_kinds_right pm_law_kinds_right an_law_kinds_right cd_law_kinds_right ct_law_kinds_right, f_law_other := f_law_other, d_law_other := PySem.W.fnOf "_law_other" "_law_other" (defArgs s_law_other) (defBody s_law_other) (defScope s_law_other) .none kV_law_other dc_law_other pm_law_other an_law_other cd_law_other ct_law_other, f_law := fa, d_law := PySem.W.fnOf "law" "law" (defArgs s_law) (defBody s_law) (defScope s_law) .none kV_law dc_law pm_law an_law cd_law ct_law }, rfl, rfl, ?_⟩
  exact {
    n_ValueError := PySem.W.mg_none_of X G n_ValueError
    n_abs := PySem.W.mg_none_of X G n_abs
    n_any := PySem.W.mg_none_of X G n_any
    n_bool := PySem.W.mg_none_of X G n_bool
    n_enumerate := PySem.W.mg_none_of X G n_enumerate
    n_int := PySem.W.mg_none_of X G n_int
    n_isinstance := PySem.W.mg_none_of X G n_isinstance
    n_len := PySem.W.mg_none_of X G n_len
    n_list := PySem.W.mg_none_of X G n_list
    n_range := PySem.W.mg_none_of X G n_range
    n_str := PySem.W.mg_none_of X G n_str
    n_tuple := PySem.W.mg_none_of X G n_tuple
    i_FARTHEST_rings := ⟨t_FARTHEST_rings, PySem.W.mg_of X G i_FARTHEST_rings⟩
    i_FARTHEST_changes := ⟨t_FARTHEST_changes, PySem.W.mg_of X G i_FARTHEST_changes⟩
    i_HEAVIEST := ⟨t_HEAVIEST, PySem.W.mg_of X G i_HEAVIEST⟩
    i_LAST_STONE := ⟨t_LAST_STONE, PySem.W.mg_of X G i_LAST_STONE⟩
    i_MOST_LETTERS := ⟨t_MOST_LETTERS, PySem.W.mg_of X G i_MOST_LETTERS⟩
    i_MOST_EXTRA := ⟨t_MOST_EXTRA, PySem.W.mg_of X G i_MOST_EXTRA⟩
    s_LETTERS := ⟨t_LETTERS, PySem.W.mg_of X G s_LETTERS⟩
    g_BridgeError := PySem.W.mg_of X G g_BridgeError
    ok_BridgeError := cls_ok ic_BridgeError ty_BridgeError
    g_BadChange := PySem.W.mg_of X G g_BadChange
    ok_BadChange := cls_ok ic_BadChange ty_BadChange
    g_Change := PySem.W.mg_of X G g_Change
    ok_Change := cls_ok ic_Change ty_Change
    g_Ballast := PySem.W.mg_of X G g_Ballast
    ok_Ballast := cls_ok ic_Ballast ty_Ballast
    g_Rod := PySem.W.mg_of X G g_Rod
    ok_Rod := cls_ok ic_Rod ty_Rod
    g_Shut := PySem.W.mg_of X G g_Shut
    ok_Shut := cls_ok ic_Shut ty_Shut
    g_Spaced := PySem.W.mg_of X G g_Spaced
    ok_Spaced := cls_ok ic_Spaced ty_Spaced
    cd_Ballast := ⟨⟨pg_Ballast, hd_Ballast, po_Ballast, sa_Ballast⟩, ha_Ballast, hn_Ballast, ht_Ballast, hm_Ballast⟩
    na_Ballast_stone := na_Ballast_stone
    na_Ballast_x := na_Ballast_x
    na_Ballast_weight := na_Ballast_weight
    mk_Ballast := ⟨mm_Ballast, a_Ballast_init, fn_Ballast_init, kc_Ballast⟩
    eq_Ballast := ⟨a_Ballast_eq, fn_Ballast_eq, ne_Ballast⟩
    cd_Rod := ⟨⟨pg_Rod, hd_Rod, po_Rod, sa_Rod⟩, ha_Rod, hn_Rod, ht_Rod, hm_Rod⟩
    na_Rod_one := na_Rod_one
    na_Rod_other := na_Rod_other
    na_Rod_start := na_Rod_start
    na_Rod_end := na_Rod_end
    na_Rod_pull := na_Rod_pull
    mk_Rod := ⟨mm_Rod, a_Rod_init, fn_Rod_init, kc_Rod⟩
    eq_Rod := ⟨a_Rod_eq, fn_Rod_eq, ne_Rod⟩
    cd_Shut := ⟨⟨pg_Shut, hd_Shut, po_Shut, sa_Shut⟩, ha_Shut, hn_Shut, ht_Shut, hm_Shut⟩
    na_Shut_name := na_Shut_name
    mk_Shut := ⟨mm_Shut, a_Shut_init, fn_Shut_init, kc_Shut⟩
    eq_Shut := ⟨a_Shut_eq, fn_Shut_eq, ne_Shut⟩
    cd_Spaced := ⟨⟨pg_Spaced, hd_Spaced, po_Spaced, sa_Spaced⟩, ha_Spaced, hn_Spaced, ht_Spaced, hm_Spaced⟩
    na_Spaced_extra := na_Spaced_extra
    mk_Spaced := ⟨mm_Spaced, a_Spaced_init, fn_Spaced_init, kc_Spaced⟩
    eq_Spaced := ⟨a_Spaced_eq, fn_Spaced_eq, ne_Spaced⟩
    sb_Ballast_Ballast := sb_Ballast_Ballast
    sb_Ballast_Rod := sb_Ballast_Rod
    sb_Ballast_Shut := sb_Ballast_Shut
    sb_Ballast_Spaced := sb_Ballast_Spaced
    sb_Rod_Ballast := sb_Rod_Ballast
    sb_Rod_Rod := sb_Rod_Rod
    sb_Rod_Shut := sb_Rod_Shut
    sb_Rod_Spaced := sb_Rod_Spaced
    sb_Shut_Ballast := sb_Shut_Ballast
    sb_Shut_Rod := sb_Shut_Rod
    sb_Shut_Shut := sb_Shut_Shut
    sb_Shut_Spaced := sb_Shut_Spaced
    sb_Spaced_Ballast := sb_Spaced_Ballast
    sb_Spaced_Rod := sb_Spaced_Rod
    sb_Spaced_Shut := sb_Spaced_Shut
    sb_Spaced_Spaced := sb_Spaced_Spaced
    sb_Ballast_Change := sb_Ballast_Change
    sb_Rod_Change := sb_Rod_Change
    sb_Shut_Change := sb_Shut_Change
    sb_Spaced_Change := sb_Spaced_Change
    sb_Ballast_tuple := sb_Ballast_tuple
    sb_Rod_tuple := sb_Rod_tuple
    sb_Shut_tuple := sb_Shut_tuple
    sb_Spaced_tuple := sb_Spaced_tuple
    sb_BadChange_BadChange := sb_BadChange_BadChange
    sb_BadChange_BridgeError := sb_BadChange_BridgeError
    sb_BadChange_ValueError := sb_BadChange_ValueError
    xo_BadChange := ⟨⟨nm_BadChange, q_BadChange, N_BadChange, bs_BadChange, _, sn_BadChange, su_BadChange, ab_BadChange, co_BadChange, dd_BadChange, m0_BadChange, m1_BadChange, m2_BadChange, m3_BadChange, m5_BadChange, xl_BadChange, by first | decide +kernel | rfl⟩, xs_BadChange, xe_BadChange, ty_BadChange, xk_BadChange⟩
    xt_BadChange := ⟨⟨⟨nm_BadChange, q_BadChange, N_BadChange, bs_BadChange, _, sn_BadChange, su_BadChange, ab_BadChange, co_BadChange, dd_BadChange, m0_BadChange, m1_BadChange, m2_BadChange, m3_BadChange, m5_BadChange, xl_BadChange, by first | decide +kernel | rfl⟩, xs_BadChange, xe_BadChange, ty_BadChange, xk_BadChange⟩, a_BadChange_init, tf_BadChange_init⟩
    xf_BadChange := ⟨xg_BadChange, xh_BadChange, xe_BadChange, xd_BadChange⟩
    xc_BadChange := ⟨xg_BadChange, xh_BadChange, xe_BadChange, xd_BadChange, xa_BadChange, xn0_BadChange, xt0_BadChange, xm_BadChange⟩
    xn_BadChange_what := xn_BadChange_what
    bi_BadChange := ⟨.type "type", PySem.W.mg_of X G g_BridgeError, ⟨br_BridgeError, bga_BridgeError⟩, bat_BridgeError⟩
    F_BadChange_init := fun_mk (st := s_BadChange_init) l_BadChange_init c_BadChange_init k_BadChange_init
    b_BadChange_init := (fun_mk (st := s_BadChange_init) l_BadChange_init c_BadChange_init k_BadChange_init).binds (ps := ["self", "what"]) fun _ _ _ _ _ _ us hl => match us, hl with | [_, _], _ => rfl
    F_is_number := fun_mk (st := s_is_number) l_is_number c_is_number k_is_number
    b_is_number := (fun_mk (st := s_is_number) l_is_number c_is_number k_is_number).binds (ps := ["thing"]) fun _ _ _ _ _ _ us hl => match us, hl with | [_], _ => rfl
    g_is_number := PySem.W.mg_of X G a_is_number
    F_is_whole := fun_mk (st := s_is_whole) l_is_whole c_is_whole k_is_whole
    b_is_whole := (fun_mk (st := s_is_whole) l_is_whole c_is_whole k_is_whole).binds (ps := ["thing", "low", "high"]) fun _ _ _ _ _ _ us hl => match us, hl with | [_, _, _], _ => rfl
    g_is_whole := PySem.W.mg_of X G a_is_whole
    F_is_point := fun_mk (st := s_is_point) l_is_point c_is_point k_is_point
    b_is_point := (fun_mk (st := s_is_point) l_is_point c_is_point k_is_point).binds (ps := ["thing"]) fun _ _ _ _ _ _ us hl => match us, hl with | [_], _ => rfl
    g_is_point := PySem.W.mg_of X G a_is_point
    F_Ballast_init := fun_mk (st := s_Ballast_init) l_Ballast_init c_Ballast_init k_Ballast_init
    b_Ballast_init := (fun_mk (st := s_Ballast_init) l_Ballast_init c_Ballast_init k_Ballast_init).binds (ps := ["self", "stone", "x", "weight"]) fun _ _ _ _ _ _ us hl => match us, hl with | [_, _, _, _], _ => rfl
    r_Ballast_init := fun s a ws _ hl => match ws, hl with | [_, _, _], _ => .of_eq rfl
    F_Ballast_eq := fun_mk (st := s_Ballast_eq) l_Ballast_eq c_Ballast_eq k_Ballast_eq
    b_Ballast_eq := (fun_mk (st := s_Ballast_eq) l_Ballast_eq c_Ballast_eq k_Ballast_eq).binds (ps := ["self", "other"]) fun _ _ _ _ _ _ us hl => match us, hl with | [_, _], _ => rfl
    F_Rod_init := fun_mk (st := s_Rod_init) l_Rod_init c_Rod_init k_Rod_init
    b_Rod_init := (fun_mk (st := s_Rod_init) l_Rod_init c_Rod_init k_Rod_init).binds (ps := ["self", "one", "other", "start", "end", "pull"]) fun _ _ _ _ _ _ us hl => match us, hl with | [_, _, _, _, _, _], _ => rfl
    r_Rod_init := fun s a ws _ hl => match ws, hl with | [_, _, _, _, _], _ => .of_eq rfl
    F_Rod_eq := fun_mk (st := s_Rod_eq) l_Rod_eq c_Rod_eq k_Rod_eq
    b_Rod_eq := (fun_mk (st := s_Rod_eq) l_Rod_eq c_Rod_eq k_Rod_eq).binds (ps := ["self", "other"]) fun _ _ _ _ _ _ us hl => match us, hl with | [_, _], _ => rfl
    F_Shut_init := fun_mk (st := s_Shut_init) l_Shut_init c_Shut_init k_Shut_init
    b_Shut_init := (fun_mk (st := s_Shut_init) l_Shut_init c_Shut_init k_Shut_init).binds (ps := ["self", "name"]) fun _ _ _ _ _ _ us hl => match us, hl with | [_, _], _ => rfl
    r_Shut_init := fun s a ws _ hl => match ws, hl with | [_], _ => .of_eq rfl
    F_Shut_eq := fun_mk (st := s_Shut_eq) l_Shut_eq c_Shut_eq k_Shut_eq
    b_Shut_eq := (fun_mk (st := s_Shut_eq) l_Shut_eq c_Shut_eq k_Shut_eq).binds (ps := ["self", "other"]) fun _ _ _ _ _ _ us hl => match us, hl with | [_, _], _ => rfl
    F_Spaced_init := fun_mk (st := s_Spaced_init) l_Spaced_init c_Spaced_init k_Spaced_init
    b_Spaced_init := (fun_mk (st := s_Spaced_init) l_Spaced_init c_Spaced_init k_Spaced_init).binds (ps := ["self", "extra"]) fun _ _ _ _ _ _ us hl => match us, hl with | [_, _], _ => rfl
    r_Spaced_init := fun s a ws _ hl => match ws, hl with | [_], _ => .of_eq rfl
    F_Spaced_eq := fun_mk (st := s_Spaced_eq) l_Spaced_eq c_Spaced_eq k_Spaced_eq
    b_Spaced_eq := (fun_mk (st := s_Spaced_eq) l_Spaced_eq c_Spaced_eq k_Spaced_eq).binds (ps := ["self", "other"]) fun _ _ _ _ _ _ us hl => match us, hl with | [_, _], _ => rfl
    F_law_bag := fun_mk (st := s_law_bag) l_law_bag c_law_bag k_law_bag
    b_law_bag := (fun_mk (st := s_law_bag) l_law_bag c_law_bag k_law_bag).binds (ps := ["script", "at"]) fun _ _ _ _ _ _ us hl => match us, hl with | [_, _], _ => rfl
    g_law_bag := PySem.W.mg_of X G a_law_bag
    F_law_take := fun_mk (st := s_law_take) l_law_take c_law_take k_law_take
    b_law_take := (fun_mk (st := s_law_take) l_law_take c_law_take k_law_take).binds (ps := ["bag", "many"]) fun _ _ _ _ _ _ us hl => match us, hl with | [_, _], _ => rfl
    g_law_take := PySem.W.mg_of X G a_law_take
    F_law_of := fun_mk (st := s_law_of) l_law_of c_law_of k_law_of
    b_law_of := (fun_mk (st := s_law_of) l_law_of c_law_of k_law_of).binds (ps := ["bag", "some"]) fun _ _ _ _ _ _ us hl => match us, hl with | [_, _], _ => rfl
    g_law_of := PySem.W.mg_of X G a_law_of
    F_law_is_number := fun_mk (st := s_law_is_number) l_law_is_number c_law_is_number k_law_is_number
    b_law_is_number := (fun_mk (st := s_law_is_number) l_law_is_number c_law_is_number k_law_is_number).binds (ps := ["thing"]) fun _ _ _ _ _ _ us hl => match us, hl with | [_], _ => rfl
    g_law_is_number := PySem.W.mg_of X G a_law_is_number
    F_law_within := fun_mk (st := s_law_within) l_law_within c_law_within k_law_within
    b_law_within := (fun_mk (st := s_law_within) l_law_within c_law_within k_law_within).binds (ps := ["thing", "low", "high"]) fun _ _ _ _ _ _ us hl => match us, hl with | [_, _, _], _ => rfl
    g_law_within := PySem.W.mg_of X G a_law_within
    F_law_is_point := fun_mk (st := s_law_is_point) l_law_is_point c_law_is_point k_law_is_point
    b_law_is_point := (fun_mk (st := s_law_is_point) l_law_is_point c_law_is_point k_law_is_point).binds (ps := ["thing"]) fun _ _ _ _ _ _ us hl => match us, hl with | [_], _ => rfl
    g_law_is_point := PySem.W.mg_of X G a_law_is_point
    F_law_pick := fun_mk (st := s_law_pick) l_law_pick c_law_pick k_law_pick
    b_law_pick := (fun_mk (st := s_law_pick) l_law_pick c_law_pick k_law_pick).binds (ps := ["bag", "good", "odd"]) fun _ _ _ _ _ _ us hl => match us, hl with | [_, _, _], _ => rfl
    g_law_pick := PySem.W.mg_of X G a_law_pick
    F_law_far := fun_mk (st := s_law_far) l_law_far c_law_far k_law_far
    b_law_far := (fun_mk (st := s_law_far) l_law_far c_law_far k_law_far).binds (ps := ["bag"]) fun _ _ _ _ _ _ us hl => match us, hl with | [_], _ => rfl
    g_law_far := PySem.W.mg_of X G a_law_far
    F_law_point := fun_mk (st := s_law_point) l_law_point c_law_point k_law_point
    b_law_point := (fun_mk (st := s_law_point) l_law_point c_law_point k_law_point).binds (ps := ["bag"]) fun _ _ _ _ _ _ us hl => match us, hl with | [_], _ => rfl
    g_law_point := PySem.W.mg_of X G a_law_point
    F_law_rod := fun_mk (st := s_law_rod) l_law_rod c_law_rod k_law_rod
    b_law_rod := (fun_mk (st := s_law_rod) l_law_rod c_law_rod k_law_rod).binds (ps := ["bag"]) fun _ _ _ _ _ _ us hl => match us, hl with | [_], _ => rfl
    g_law_rod := PySem.W.mg_of X G a_law_rod
    F_law_things := fun_mk (st := s_law_things) l_law_things c_law_things k_law_things
    b_law_things := (fun_mk (st := s_law_things) l_law_things c_law_things k_law_things).binds (ps := ["bag", "kind"]) fun _ _ _ _ _ _ us hl => match us, hl with | [_, _], _ => rfl
    g_law_things := PySem.W.mg_of X G a_law_things
    F_law_due := fun_mk (st := s_law_due) l_law_due c_law_due k_law_due
    b_law_due := (fun_mk (st := s_law_due) l_law_due c_law_due k_law_due).binds (ps := ["kind", "things"]) fun _ _ _ _ _ _ us hl => match us, hl with | [_, _], _ => rfl
    g_law_due := PySem.W.mg_of X G a_law_due
    F_law_made := fun_mk (st := s_law_made) l_law_made c_law_made k_law_made
    b_law_made := (fun_mk (st := s_law_made) l_law_made c_law_made k_law_made).binds (ps := ["kind", "things"]) fun _ _ _ _ _ _ us hl => match us, hl with | [_, _], _ => rfl
    g_law_made := PySem.W.mg_of X G a_law_made
    F_law_named := fun_mk (st := s_law_named) l_law_named c_law_named k_law_named
    b_law_named := (fun_mk (st := s_law_named) l_law_named c_law_named k_law_named).binds (ps := ["kind", "things"]) fun _ _ _ _ _ _ us hl => match us, hl with | [_, _], _ => rfl
    g_law_named := PySem.W.mg_of X G a_law_named
    F_law_fields := fun_mk (st := s_law_fields) l_law_fields c_law_fields k_law_fields
    b_law_fields := (fun_mk (st := s_law_fields) l_law_fields c_law_fields k_law_fields).binds (ps := ["kind", "made"]) fun _ _ _ _ _ _ us hl => match us, hl with | [_, _], _ => rfl
    g_law_fields := PySem.W.mg_of X G a_law_fields
    F_law_kinds_right := fun_mk (st := s_law_kinds_right) l_law_kinds_right c_law_kinds_right k_law_kinds_right
    b_law_kinds_right := (fun_mk (st := s_law_kinds_right) l_law_kinds_right c_law_kinds_right k_law_kinds_right).binds (ps := ["fields"]) fun _ _ _ _ _ _ us hl => match us, hl with | [_], _ => rfl
    g_law_kinds_right := PySem.W.mg_of X G a_law_kinds_right
    F_law_other := fun_mk (st := s_law_other) l_law_other c_law_other k_law_other
    b_law_other := (fun_mk (st := s_law_other) l_law_other c_law_other k_law_other).binds (ps := ["bag", "kind", "things"]) fun _ _ _ _ _ _ us hl => match us, hl with | [_, _, _], _ => rfl
    g_law_other := PySem.W.mg_of X G a_law_other
    F_law := fun_mk (st := s_law) l_law c_law k_law
    b_law := (fun_mk (st := s_law) l_law c_law k_law).binds (ps := ["script"]) fun _ _ _ _ _ _ us hl => match us, hl with | [_], _ => rfl
    g_law := PySem.W.mg_of X G a_law
  }
theorem law_at {P : Program} {w : World} {K : PySem.W.Frag} {h : Heap} {mg : Str → Option Value} {fa : Addr} (X : K.In h) (G : h.Ns mainGlobals mg) (hfa : mg "law" = some (.ref fa))
    {C_BridgeError C_BadChange C_Change C_Ballast C_Rod C_Shut C_Spaced f_BadChange_init f_is_number f_is_whole f_is_point f_Ballast_init f_Ballast_eq f_Rod_init f_Rod_eq f_Shut_init f_Shut_eq f_Spaced_init f_Spaced_eq f_law_bag f_law_take f_law_of f_law_is_number f_law_within f_law_is_point f_law_pick f_law_far f_law_point f_law_rod f_law_things f_law_due f_law_made f_law_named f_law_fields f_law_kinds_right f_law_other f_law : Addr}
    {od_BadChange_init an_BadChange_init od_is_number an_is_number od_is_whole an_is_whole od_is_point an_is_point od_Ballast_init an_Ballast_init od_Ballast_eq an_Ballast_eq od_Rod_init an_Rod_init od_Rod_eq an_Rod_eq od_Shut_init an_Shut_init od_Shut_eq an_Shut_eq od_Spaced_init an_Spaced_init od_Spaced_eq an_Spaced_eq od_law_bag an_law_bag od_law_take an_law_take od_law_of an_law_of od_law_is_number an_law_is_number od_law_within an_law_within od_law_is_point an_law_is_point od_law_pick an_law_pick od_law_far an_law_far od_law_point an_law_point od_law_rod an_law_rod od_law_things an_law_things od_law_due an_law_due od_law_made an_law_made od_law_named an_law_named od_law_fields an_law_fields od_law_kinds_right an_law_kinds_right od_law_other an_law_other od_law an_law : Option Addr} {sl_BadChange_init sl_is_number sl_is_whole sl_is_point sl_Ballast_init sl_Ballast_eq sl_Rod_init sl_Rod_eq sl_Shut_init sl_Shut_eq sl_Spaced_init sl_Spaced_eq sl_law_bag sl_law_take sl_law_of sl_law_is_number sl_law_within sl_law_is_point sl_law_pick sl_law_far sl_law_point sl_law_rod sl_law_things sl_law_due sl_law_made sl_law_named sl_law_fields sl_law_kinds_right sl_law_other sl_law : Array (Option Value)} {oc_BadChange_init kV_BadChange_init dc_BadChange_init pm_BadChange_init cd_BadChange_init ct_BadChange_init oc_is_number kV_is_number dc_is_number pm_is_number cd_is_number ct_is_number oc_is_whole kV_is_whole dc_is_whole pm_is_whole cd_is_whole ct_is_whole oc_is_point kV_is_point dc_is_point pm_is_point cd_is_point ct_is_point oc_Ballast_init kV_Ballast_init dc_Ballast_init pm_Ballast_init cd_Ballast_init ct_Ballast_init oc_Ballast_eq kV_Ballast_eq dc_Ballast_eq pm_Ballast_eq cd_Ballast_eq ct_Ballast_eq oc_Rod_init kV_Rod_init dc_Rod_init pm_Rod_init cd_Rod_init ct_Rod_init oc_Rod_eq kV_Rod_eq dc_Rod_eq pm_Rod_eq cd_Rod_eq ct_Rod_eq oc_Shut_init kV_Shut_init dc_Shut_init pm_Shut_init cd_Shut_init ct_Shut_init oc_Shut_eq kV_Shut_eq dc_Shut_eq pm_Shut_eq cd_Shut_eq ct_Shut_eq oc_Spaced_init kV_Spaced_init dc_Spaced_init pm_Spaced_init cd_Spaced_init ct_Spaced_init oc_Spaced_eq kV_Spaced_eq dc_Spaced_eq pm_Spaced_eq cd_Spaced_eq ct_Spaced_eq oc_law_bag kV_law_bag dc_law_bag pm_law_bag cd_law_bag ct_law_bag oc_law_take kV_law_take dc_law_take pm_law_take cd_law_take ct_law_take oc_law_of kV_law_of dc_law_of pm_law_of cd_law_of ct_law_of oc_law_is_number kV_law_is_number dc_law_is_number pm_law_is_number cd_law_is_number ct_law_is_number oc_law_within kV_law_within dc_law_within pm_law_within cd_law_within ct_law_within oc_law_is_point kV_law_is_point dc_law_is_point pm_law_is_point cd_law_is_point ct_law_is_point oc_law_pick kV_law_pick dc_law_pick pm_law_pick cd_law_pick ct_law_pick oc_law_far kV_law_far dc_law_far pm_law_far cd_law_far ct_law_far oc_law_point kV_law_point dc_law_point pm_law_point cd_law_point ct_law_point oc_law_rod kV_law_rod dc_law_rod pm_law_rod cd_law_rod ct_law_rod oc_law_things kV_law_things dc_law_things pm_law_things cd_law_things ct_law_things oc_law_due kV_law_due dc_law_due pm_law_due cd_law_due ct_law_due oc_law_made kV_law_made dc_law_made pm_law_made cd_law_made ct_law_made oc_law_named kV_law_named dc_law_named pm_law_named cd_law_named ct_law_named oc_law_fields kV_law_fields dc_law_fields pm_law_fields cd_law_fields ct_law_fields oc_law_kinds_right kV_law_kinds_right dc_law_kinds_right pm_law_kinds_right cd_law_kinds_right ct_law_kinds_right oc_law_other kV_law_other dc_law_other pm_law_other cd_law_other ct_law_other oc_law kV_law dc_law pm_law cd_law ct_law : Value}
    {t_FARTHEST_rings t_FARTHEST_changes t_HEAVIEST t_LAST_STONE t_MOST_LETTERS t_MOST_EXTRA t_LETTERS : Tok}
    {nm_BadChange q_BadChange : Str} {N_BadChange : Addr} {bs_BadChange : List Value} {sn_BadChange : List Str} {su_BadChange : List Value} {ab_BadChange : Bool} {co_BadChange : Option Bool} {dd_BadChange : Option Addr} {m0_BadChange m1_BadChange m2_BadChange m3_BadChange m5_BadChange : Option Value}
    (g_BridgeError : PySem.W.nsIn K mainGlobals "BridgeError" = some (some (.ref C_BridgeError)))
    (g_BadChange : PySem.W.nsIn K mainGlobals "BadChange" = some (some (.ref C_BadChange)))
    (g_Change : PySem.W.nsIn K mainGlobals "Change" = some (some (.ref C_Change)))
    (g_Ballast : PySem.W.nsIn K mainGlobals "Ballast" = some (some (.ref C_Ballast)))
    (g_Rod : PySem.W.nsIn K mainGlobals "Rod" = some (some (.ref C_Rod)))
    (g_Shut : PySem.W.nsIn K mainGlobals "Shut" = some (some (.ref C_Shut)))
    (g_Spaced : PySem.W.nsIn K mainGlobals "Spaced" = some (some (.ref C_Spaced)))
    (a_Ballast_init : PySem.W.findIn K (.ref C_Ballast) "__init__" = some (some (.ref f_Ballast_init)))
    (a_Ballast_eq : PySem.W.findIn K (.ref C_Ballast) "__eq__" = some (some (.ref f_Ballast_eq)))
    (a_Rod_init : PySem.W.findIn K (.ref C_Rod) "__init__" = some (some (.ref f_Rod_init)))
    (a_Rod_eq : PySem.W.findIn K (.ref C_Rod) "__eq__" = some (some (.ref f_Rod_eq)))
    (a_Shut_init : PySem.W.findIn K (.ref C_Shut) "__init__" = some (some (.ref f_Shut_init)))
    (a_Shut_eq : PySem.W.findIn K (.ref C_Shut) "__eq__" = some (some (.ref f_Shut_eq)))
    (a_Spaced_init : PySem.W.findIn K (.ref C_Spaced) "__init__" = some (some (.ref f_Spaced_init)))
    (a_Spaced_eq : PySem.W.findIn K (.ref C_Spaced) "__eq__" = some (some (.ref f_Spaced_eq)))
    (a_BadChange_init : PySem.W.findIn K (.ref C_BadChange) "__init__" = some (some (.ref f_BadChange_init)))
    (a_is_number : PySem.W.nsIn K mainGlobals "is_number" = some (some (.ref f_is_number)))
    (a_is_whole : PySem.W.nsIn K mainGlobals "is_whole" = some (some (.ref f_is_whole)))
    (a_is_point : PySem.W.nsIn K mainGlobals "is_point" = some (some (.ref f_is_point)))
    (a_law_bag : PySem.W.nsIn K mainGlobals "_law_bag" = some (some (.ref f_law_bag)))
    (a_law_take : PySem.W.nsIn K mainGlobals "_law_take" = some (some (.ref f_law_take)))
    (a_law_of : PySem.W.nsIn K mainGlobals "_law_of" = some (some (.ref f_law_of)))
    (a_law_is_number : PySem.W.nsIn K mainGlobals "_law_is_number" = some (some (.ref f_law_is_number)))
    (a_law_within : PySem.W.nsIn K mainGlobals "_law_within" = some (some (.ref f_law_within)))
    (a_law_is_point : PySem.W.nsIn K mainGlobals "_law_is_point" = some (some (.ref f_law_is_point)))
    (a_law_pick : PySem.W.nsIn K mainGlobals "_law_pick" = some (some (.ref f_law_pick)))
    (a_law_far : PySem.W.nsIn K mainGlobals "_law_far" = some (some (.ref f_law_far)))
    (a_law_point : PySem.W.nsIn K mainGlobals "_law_point" = some (some (.ref f_law_point)))
    (a_law_rod : PySem.W.nsIn K mainGlobals "_law_rod" = some (some (.ref f_law_rod)))
    (a_law_things : PySem.W.nsIn K mainGlobals "_law_things" = some (some (.ref f_law_things)))
    (a_law_due : PySem.W.nsIn K mainGlobals "_law_due" = some (some (.ref f_law_due)))
    (a_law_made : PySem.W.nsIn K mainGlobals "_law_made" = some (some (.ref f_law_made)))
    (a_law_named : PySem.W.nsIn K mainGlobals "_law_named" = some (some (.ref f_law_named)))
    (a_law_fields : PySem.W.nsIn K mainGlobals "_law_fields" = some (some (.ref f_law_fields)))
    (a_law_kinds_right : PySem.W.nsIn K mainGlobals "_law_kinds_right" = some (some (.ref f_law_kinds_right)))
    (a_law_other : PySem.W.nsIn K mainGlobals "_law_other" = some (some (.ref f_law_other)))
    (a_law : PySem.W.nsIn K mainGlobals "law" = some (some (.ref f_law)))
    (n_ValueError : PySem.W.nsIn K mainGlobals "ValueError" = some none)
    (n_abs : PySem.W.nsIn K mainGlobals "abs" = some none)
    (n_any : PySem.W.nsIn K mainGlobals "any" = some none)
    (n_bool : PySem.W.nsIn K mainGlobals "bool" = some none)
    (n_enumerate : PySem.W.nsIn K mainGlobals "enumerate" = some none)
    (n_int : PySem.W.nsIn K mainGlobals "int" = some none)
    (n_isinstance : PySem.W.nsIn K mainGlobals "isinstance" = some none)
    (n_len : PySem.W.nsIn K mainGlobals "len" = some none)
    (n_list : PySem.W.nsIn K mainGlobals "list" = some none)
    (n_range : PySem.W.nsIn K mainGlobals "range" = some none)
    (n_str : PySem.W.nsIn K mainGlobals "str" = some none)
    (n_tuple : PySem.W.nsIn K mainGlobals "tuple" = some none)
    (i_FARTHEST_rings : PySem.W.nsIn K mainGlobals "FARTHEST_rings" = some (some (.int 1000000 t_FARTHEST_rings)))
    (i_FARTHEST_changes : PySem.W.nsIn K mainGlobals "FARTHEST_changes" = some (some (.int 1000000 t_FARTHEST_changes)))
    (i_HEAVIEST : PySem.W.nsIn K mainGlobals "HEAVIEST" = some (some (.int 1000000000000000000000000000000 t_HEAVIEST)))
    (i_LAST_STONE : PySem.W.nsIn K mainGlobals "LAST_STONE" = some (some (.int 7 t_LAST_STONE)))
    (i_MOST_LETTERS : PySem.W.nsIn K mainGlobals "MOST_LETTERS" = some (some (.int 12 t_MOST_LETTERS)))
    (i_MOST_EXTRA : PySem.W.nsIn K mainGlobals "MOST_EXTRA" = some (some (.int 100 t_MOST_EXTRA)))
    (s_LETTERS : PySem.W.nsIn K mainGlobals "LETTERS" = some (some (.str "abcdefghijklmnopqrstuvwxyz" t_LETTERS)))
    (ic_BridgeError : PySem.W.isClsIn K C_BridgeError = true)
    (ty_BridgeError : PySem.W.typeIn K (.ref C_BridgeError) = some (.type "type"))
    (ic_BadChange : PySem.W.isClsIn K C_BadChange = true)
    (ty_BadChange : PySem.W.typeIn K (.ref C_BadChange) = some (.type "type"))
    (ic_Change : PySem.W.isClsIn K C_Change = true)
    (ty_Change : PySem.W.typeIn K (.ref C_Change) = some (.type "type"))
    (ic_Ballast : PySem.W.isClsIn K C_Ballast = true)
    (ty_Ballast : PySem.W.typeIn K (.ref C_Ballast) = some (.type "type"))
    (ic_Rod : PySem.W.isClsIn K C_Rod = true)
    (ty_Rod : PySem.W.typeIn K (.ref C_Rod) = some (.type "type"))
    (ic_Shut : PySem.W.isClsIn K C_Shut = true)
    (ty_Shut : PySem.W.typeIn K (.ref C_Shut) = some (.type "type"))
    (ic_Spaced : PySem.W.isClsIn K C_Spaced = true)
    (ty_Spaced : PySem.W.typeIn K (.ref C_Spaced) = some (.type "type"))
    (pg_Ballast : PySem.W.plainGet K C_Ballast Str.empty = true)
    (hd_Ballast : PySem.W.hasDictIn K C_Ballast = true)
    (po_Ballast : PySem.W.plainOver K C_Ballast = true)
    (sa_Ballast : PySem.W.findIn K (.ref C_Ballast) "__setattr__" = some (some (.builtin "object.__setattr__")))
    (ha_Ballast : PySem.W.findIn K (.ref C_Ballast) "__class__" = some (some (.builtin "object.__class__")))
    (hn_Ballast : PySem.W.specialIn K (.builtin "object.__class__") "__get__" = some (some (.builtin "getset_descriptor.__get__")))
    (ht_Ballast : PySem.W.takesIn K (.builtin "object.__class__") = some true)
    (hm_Ballast : PySem.W.mroIn K C_Ballast (.type "object") = some true)
    (na_Ballast_stone : PySem.W.findIn K (.ref C_Ballast) "stone" = some none)
    (na_Ballast_x : PySem.W.findIn K (.ref C_Ballast) "x" = some none)
    (na_Ballast_weight : PySem.W.findIn K (.ref C_Ballast) "weight" = some none)
    (mm_Ballast : PySem.W.makesIn K C_Ballast = true)
    (fn_Ballast_init : PySem.W.isFn K (.ref f_Ballast_init) = true)
    (kc_Ballast : PySem.W.keepIn K (.ref C_Ballast) = true)
    (fn_Ballast_eq : PySem.W.isFn K (.ref f_Ballast_eq) = true)
    (ne_Ballast : PySem.W.findIn K (.ref C_Ballast) "__ne__" = some (some (.builtin "object.__ne__")))
    (pg_Rod : PySem.W.plainGet K C_Rod Str.empty = true)
    (hd_Rod : PySem.W.hasDictIn K C_Rod = true)
    (po_Rod : PySem.W.plainOver K C_Rod = true)
    (sa_Rod : PySem.W.findIn K (.ref C_Rod) "__setattr__" = some (some (.builtin "object.__setattr__")))
    (ha_Rod : PySem.W.findIn K (.ref C_Rod) "__class__" = some (some (.builtin "object.__class__")))
    (hn_Rod : PySem.W.specialIn K (.builtin "object.__class__") "__get__" = some (some (.builtin "getset_descriptor.__get__")))
    (ht_Rod : PySem.W.takesIn K (.builtin "object.__class__") = some true)
    (hm_Rod : PySem.W.mroIn K C_Rod (.type "object") = some true)
    (na_Rod_one : PySem.W.findIn K (.ref C_Rod) "one" = some none)
    (na_Rod_other : PySem.W.findIn K (.ref C_Rod) "other" = some none)
    (na_Rod_start : PySem.W.findIn K (.ref C_Rod) "start" = some none)
    (na_Rod_end : PySem.W.findIn K (.ref C_Rod) "end" = some none)
    (na_Rod_pull : PySem.W.findIn K (.ref C_Rod) "pull" = some none)
    (mm_Rod : PySem.W.makesIn K C_Rod = true)
    (fn_Rod_init : PySem.W.isFn K (.ref f_Rod_init) = true)
    (kc_Rod : PySem.W.keepIn K (.ref C_Rod) = true)
    (fn_Rod_eq : PySem.W.isFn K (.ref f_Rod_eq) = true)
    (ne_Rod : PySem.W.findIn K (.ref C_Rod) "__ne__" = some (some (.builtin "object.__ne__")))
    (pg_Shut : PySem.W.plainGet K C_Shut Str.empty = true)
    (hd_Shut : PySem.W.hasDictIn K C_Shut = true)
    (po_Shut : PySem.W.plainOver K C_Shut = true)
    (sa_Shut : PySem.W.findIn K (.ref C_Shut) "__setattr__" = some (some (.builtin "object.__setattr__")))
    (ha_Shut : PySem.W.findIn K (.ref C_Shut) "__class__" = some (some (.builtin "object.__class__")))
    (hn_Shut : PySem.W.specialIn K (.builtin "object.__class__") "__get__" = some (some (.builtin "getset_descriptor.__get__")))
    (ht_Shut : PySem.W.takesIn K (.builtin "object.__class__") = some true)
    (hm_Shut : PySem.W.mroIn K C_Shut (.type "object") = some true)
    (na_Shut_name : PySem.W.findIn K (.ref C_Shut) "name" = some none)
    (mm_Shut : PySem.W.makesIn K C_Shut = true)
    (fn_Shut_init : PySem.W.isFn K (.ref f_Shut_init) = true)
    (kc_Shut : PySem.W.keepIn K (.ref C_Shut) = true)
    (fn_Shut_eq : PySem.W.isFn K (.ref f_Shut_eq) = true)
    (ne_Shut : PySem.W.findIn K (.ref C_Shut) "__ne__" = some (some (.builtin "object.__ne__")))
    (pg_Spaced : PySem.W.plainGet K C_Spaced Str.empty = true)
    (hd_Spaced : PySem.W.hasDictIn K C_Spaced = true)
    (po_Spaced : PySem.W.plainOver K C_Spaced = true)
    (sa_Spaced : PySem.W.findIn K (.ref C_Spaced) "__setattr__" = some (some (.builtin "object.__setattr__")))
    (ha_Spaced : PySem.W.findIn K (.ref C_Spaced) "__class__" = some (some (.builtin "object.__class__")))
    (hn_Spaced : PySem.W.specialIn K (.builtin "object.__class__") "__get__" = some (some (.builtin "getset_descriptor.__get__")))
    (ht_Spaced : PySem.W.takesIn K (.builtin "object.__class__") = some true)
    (hm_Spaced : PySem.W.mroIn K C_Spaced (.type "object") = some true)
    (na_Spaced_extra : PySem.W.findIn K (.ref C_Spaced) "extra" = some none)
    (mm_Spaced : PySem.W.makesIn K C_Spaced = true)
    (fn_Spaced_init : PySem.W.isFn K (.ref f_Spaced_init) = true)
    (kc_Spaced : PySem.W.keepIn K (.ref C_Spaced) = true)
    (fn_Spaced_eq : PySem.W.isFn K (.ref f_Spaced_eq) = true)
    (ne_Spaced : PySem.W.findIn K (.ref C_Spaced) "__ne__" = some (some (.builtin "object.__ne__")))
    (sb_Ballast_Ballast : PySem.W.subIn K (.ref C_Ballast) (.ref C_Ballast) = some true)
    (sb_Ballast_Rod : PySem.W.subIn K (.ref C_Ballast) (.ref C_Rod) = some false)
    (sb_Ballast_Shut : PySem.W.subIn K (.ref C_Ballast) (.ref C_Shut) = some false)
    (sb_Ballast_Spaced : PySem.W.subIn K (.ref C_Ballast) (.ref C_Spaced) = some false)
    (sb_Rod_Ballast : PySem.W.subIn K (.ref C_Rod) (.ref C_Ballast) = some false)
    (sb_Rod_Rod : PySem.W.subIn K (.ref C_Rod) (.ref C_Rod) = some true)
    (sb_Rod_Shut : PySem.W.subIn K (.ref C_Rod) (.ref C_Shut) = some false)
    (sb_Rod_Spaced : PySem.W.subIn K (.ref C_Rod) (.ref C_Spaced) = some false)
    (sb_Shut_Ballast : PySem.W.subIn K (.ref C_Shut) (.ref C_Ballast) = some false)
    (sb_Shut_Rod : PySem.W.subIn K (.ref C_Shut) (.ref C_Rod) = some false)
    (sb_Shut_Shut : PySem.W.subIn K (.ref C_Shut) (.ref C_Shut) = some true)
    (sb_Shut_Spaced : PySem.W.subIn K (.ref C_Shut) (.ref C_Spaced) = some false)
    (sb_Spaced_Ballast : PySem.W.subIn K (.ref C_Spaced) (.ref C_Ballast) = some false)
    (sb_Spaced_Rod : PySem.W.subIn K (.ref C_Spaced) (.ref C_Rod) = some false)
    (sb_Spaced_Shut : PySem.W.subIn K (.ref C_Spaced) (.ref C_Shut) = some false)
    (sb_Spaced_Spaced : PySem.W.subIn K (.ref C_Spaced) (.ref C_Spaced) = some true)
    (sb_Ballast_Change : PySem.W.subIn K (.ref C_Ballast) (.ref C_Change) = some true)
    (sb_Rod_Change : PySem.W.subIn K (.ref C_Rod) (.ref C_Change) = some true)
    (sb_Shut_Change : PySem.W.subIn K (.ref C_Shut) (.ref C_Change) = some true)
    (sb_Spaced_Change : PySem.W.subIn K (.ref C_Spaced) (.ref C_Change) = some true)
    (sb_Ballast_tuple : PySem.W.subIn K (.ref C_Ballast) (.type "tuple") = some false)
    (sb_Rod_tuple : PySem.W.subIn K (.ref C_Rod) (.type "tuple") = some false)
    (sb_Shut_tuple : PySem.W.subIn K (.ref C_Shut) (.type "tuple") = some false)
    (sb_Spaced_tuple : PySem.W.subIn K (.ref C_Spaced) (.type "tuple") = some false)
    (sb_BadChange_BadChange : PySem.W.subIn K (.ref C_BadChange) (.ref C_BadChange) = some true)
    (sb_BadChange_BridgeError : PySem.W.subIn K (.ref C_BadChange) (.ref C_BridgeError) = some true)
    (sb_BadChange_ValueError : PySem.W.subIn K (.ref C_BadChange) (.type "ValueError") = some true)
    (xl_BadChange : K.lookup C_BadChange = some (excClassObj nm_BadChange q_BadChange C_BadChange N_BadChange bs_BadChange [.ref C_BridgeError, .type "ValueError", .type "Exception", .type "BaseException", .type "object"] true sn_BadChange su_BadChange ab_BadChange co_BadChange dd_BadChange m0_BadChange m1_BadChange m2_BadChange m3_BadChange m5_BadChange "ValueError.__new__"))
    (xs_BadChange : PySem.W.findIn K (.ref C_BadChange) "__setattr__" = some (some (.builtin "object.__setattr__")))
    (xe_BadChange : PySem.W.subIn K (.ref C_BadChange) (.type "BaseException") = some true)
    (xk_BadChange : PySem.W.keepIn K (.ref C_BadChange) = true)
    (tf_BadChange_init : PySem.W.typeIn K (.ref f_BadChange_init) = some (.type "function"))
    (xg_BadChange : PySem.W.findIn K (.ref C_BadChange) "__getattribute__" = some (some (.builtin "BaseException.__getattribute__")))
    (xh_BadChange : PySem.W.findIn K (.ref C_BadChange) "__getattr__" = some none)
    (xd_BadChange : PySem.W.hasDictIn K C_BadChange = true)
    (xa_BadChange : PySem.W.findIn K (.ref C_BadChange) "__class__" = some (some (.builtin "object.__class__")))
    (xn0_BadChange : PySem.W.specialIn K (.builtin "object.__class__") "__get__" = some (some (.builtin "getset_descriptor.__get__")))
    (xt0_BadChange : PySem.W.takesIn K (.builtin "object.__class__") = some true)
    (xm_BadChange : PySem.W.mroIn K C_BadChange (.type "object") = some true)
    (xn_BadChange_what : PySem.W.findIn K (.ref C_BadChange) "what" = some none)
    (br_BridgeError : PySem.W.readsIn K C_BridgeError (.type "type") = true)
    (bga_BridgeError : PySem.W.specialIn K (.ref C_BridgeError) "__getattribute__" = some (some (.builtin "type.__getattribute__")))
    (bat_BridgeError : PySem.W.findCls K (.ref C_BridgeError) (.type "type") "__init__" = some (.val (.builtin "ValueError.__init__")))
    (l_BadChange_init : K.lookup f_BadChange_init = some ⟨oc_BadChange_init, od_BadChange_init, .func (PySem.W.fnOf "__init__" "BadChange.__init__" (defArgs s_BadChange_init) (defBody s_BadChange_init) (defScope s_BadChange_init) .none kV_BadChange_init dc_BadChange_init pm_BadChange_init an_BadChange_init cd_BadChange_init ct_BadChange_init), sl_BadChange_init⟩)
    (c_BadChange_init : PySem.W.codeIn K cd_BadChange_init "BadChange.__init__" = true)
    (k_BadChange_init : PySem.W.keepIn K (.ref f_BadChange_init) = true)
    (l_is_number : K.lookup f_is_number = some ⟨oc_is_number, od_is_number, .func (PySem.W.fnOf "is_number" "is_number" (defArgs s_is_number) (defBody s_is_number) (defScope s_is_number) .none kV_is_number dc_is_number pm_is_number an_is_number cd_is_number ct_is_number), sl_is_number⟩)
    (c_is_number : PySem.W.codeIn K cd_is_number "is_number" = true)
    (k_is_number : PySem.W.keepIn K (.ref f_is_number) = true)
    (l_is_whole : K.lookup f_is_whole = some ⟨oc_is_whole, od_is_whole, .func (PySem.W.fnOf "is_whole" "is_whole" (defArgs s_is_whole) (defBody s_is_whole) (defScope s_is_whole) .none kV_is_whole dc_is_whole pm_is_whole an_is_whole cd_is_whole ct_is_whole), sl_is_whole⟩)
    (c_is_whole : PySem.W.codeIn K cd_is_whole "is_whole" = true)
    (k_is_whole : PySem.W.keepIn K (.ref f_is_whole) = true)
    (l_is_point : K.lookup f_is_point = some ⟨oc_is_point, od_is_point, .func (PySem.W.fnOf "is_point" "is_point" (defArgs s_is_point) (defBody s_is_point) (defScope s_is_point) .none kV_is_point dc_is_point pm_is_point an_is_point cd_is_point ct_is_point), sl_is_point⟩)
    (c_is_point : PySem.W.codeIn K cd_is_point "is_point" = true)
    (k_is_point : PySem.W.keepIn K (.ref f_is_point) = true)
    (l_Ballast_init : K.lookup f_Ballast_init = some ⟨oc_Ballast_init, od_Ballast_init, .func (PySem.W.fnOf "__init__" "Ballast.__init__" (defArgs s_Ballast_init) (defBody s_Ballast_init) (defScope s_Ballast_init) .none kV_Ballast_init dc_Ballast_init pm_Ballast_init an_Ballast_init cd_Ballast_init ct_Ballast_init), sl_Ballast_init⟩)
    (c_Ballast_init : PySem.W.codeIn K cd_Ballast_init "Ballast.__init__" = true)
    (k_Ballast_init : PySem.W.keepIn K (.ref f_Ballast_init) = true)
    (l_Ballast_eq : K.lookup f_Ballast_eq = some ⟨oc_Ballast_eq, od_Ballast_eq, .func (PySem.W.fnOf "__eq__" "Ballast.__eq__" (defArgs s_Ballast_eq) (defBody s_Ballast_eq) (defScope s_Ballast_eq) .none kV_Ballast_eq dc_Ballast_eq pm_Ballast_eq an_Ballast_eq cd_Ballast_eq ct_Ballast_eq), sl_Ballast_eq⟩)
    (c_Ballast_eq : PySem.W.codeIn K cd_Ballast_eq "Ballast.__eq__" = true)
    (k_Ballast_eq : PySem.W.keepIn K (.ref f_Ballast_eq) = true)
    (l_Rod_init : K.lookup f_Rod_init = some ⟨oc_Rod_init, od_Rod_init, .func (PySem.W.fnOf "__init__" "Rod.__init__" (defArgs s_Rod_init) (defBody s_Rod_init) (defScope s_Rod_init) .none kV_Rod_init dc_Rod_init pm_Rod_init an_Rod_init cd_Rod_init ct_Rod_init), sl_Rod_init⟩)
    (c_Rod_init : PySem.W.codeIn K cd_Rod_init "Rod.__init__" = true)
    (k_Rod_init : PySem.W.keepIn K (.ref f_Rod_init) = true)
    (l_Rod_eq : K.lookup f_Rod_eq = some ⟨oc_Rod_eq, od_Rod_eq, .func (PySem.W.fnOf "__eq__" "Rod.__eq__" (defArgs s_Rod_eq) (defBody s_Rod_eq) (defScope s_Rod_eq) .none kV_Rod_eq dc_Rod_eq pm_Rod_eq an_Rod_eq cd_Rod_eq ct_Rod_eq), sl_Rod_eq⟩)
    (c_Rod_eq : PySem.W.codeIn K cd_Rod_eq "Rod.__eq__" = true)
    (k_Rod_eq : PySem.W.keepIn K (.ref f_Rod_eq) = true)
    (l_Shut_init : K.lookup f_Shut_init = some ⟨oc_Shut_init, od_Shut_init, .func (PySem.W.fnOf "__init__" "Shut.__init__" (defArgs s_Shut_init) (defBody s_Shut_init) (defScope s_Shut_init) .none kV_Shut_init dc_Shut_init pm_Shut_init an_Shut_init cd_Shut_init ct_Shut_init), sl_Shut_init⟩)
    (c_Shut_init : PySem.W.codeIn K cd_Shut_init "Shut.__init__" = true)
    (k_Shut_init : PySem.W.keepIn K (.ref f_Shut_init) = true)
    (l_Shut_eq : K.lookup f_Shut_eq = some ⟨oc_Shut_eq, od_Shut_eq, .func (PySem.W.fnOf "__eq__" "Shut.__eq__" (defArgs s_Shut_eq) (defBody s_Shut_eq) (defScope s_Shut_eq) .none kV_Shut_eq dc_Shut_eq pm_Shut_eq an_Shut_eq cd_Shut_eq ct_Shut_eq), sl_Shut_eq⟩)
    (c_Shut_eq : PySem.W.codeIn K cd_Shut_eq "Shut.__eq__" = true)
    (k_Shut_eq : PySem.W.keepIn K (.ref f_Shut_eq) = true)
    (l_Spaced_init : K.lookup f_Spaced_init = some ⟨oc_Spaced_init, od_Spaced_init, .func (PySem.W.fnOf "__init__" "Spaced.__init__" (defArgs s_Spaced_init) (defBody s_Spaced_init) (defScope s_Spaced_init) .none kV_Spaced_init dc_Spaced_init pm_Spaced_init an_Spaced_init cd_Spaced_init ct_Spaced_init), sl_Spaced_init⟩)
    (c_Spaced_init : PySem.W.codeIn K cd_Spaced_init "Spaced.__init__" = true)
    (k_Spaced_init : PySem.W.keepIn K (.ref f_Spaced_init) = true)
    (l_Spaced_eq : K.lookup f_Spaced_eq = some ⟨oc_Spaced_eq, od_Spaced_eq, .func (PySem.W.fnOf "__eq__" "Spaced.__eq__" (defArgs s_Spaced_eq) (defBody s_Spaced_eq) (defScope s_Spaced_eq) .none kV_Spaced_eq dc_Spaced_eq pm_Spaced_eq an_Spaced_eq cd_Spaced_eq ct_Spaced_eq), sl_Spaced_eq⟩)
    (c_Spaced_eq : PySem.W.codeIn K cd_Spaced_eq "Spaced.__eq__" = true)
    (k_Spaced_eq : PySem.W.keepIn K (.ref f_Spaced_eq) = true)
    (l_law_bag : K.lookup f_law_bag = some ⟨oc_law_bag, od_law_bag, .func (PySem.W.fnOf "_law_bag" "_law_bag" (defArgs s_law_bag) (defBody s_law_bag) (defScope s_law_bag) .none kV_law_bag dc_law_bag pm_law_bag an_law_bag cd_law_bag ct_law_bag), sl_law_bag⟩)
    (c_law_bag : PySem.W.codeIn K cd_law_bag "_law_bag" = true)
    (k_law_bag : PySem.W.keepIn K (.ref f_law_bag) = true)
    (l_law_take : K.lookup f_law_take = some ⟨oc_law_take, od_law_take, .func (PySem.W.fnOf "_law_take" "_law_take" (defArgs s_law_take) (defBody s_law_take) (defScope s_law_take) .none kV_law_take dc_law_take pm_law_take an_law_take cd_law_take ct_law_take), sl_law_take⟩)
    (c_law_take : PySem.W.codeIn K cd_law_take "_law_take" = true)
    (k_law_take : PySem.W.keepIn K (.ref f_law_take) = true)
    (l_law_of : K.lookup f_law_of = some ⟨oc_law_of, od_law_of, .func (PySem.W.fnOf "_law_of" "_law_of" (defArgs s_law_of) (defBody s_law_of) (defScope s_law_of) .none kV_law_of dc_law_of pm_law_of an_law_of cd_law_of ct_law_of), sl_law_of⟩)
    (c_law_of : PySem.W.codeIn K cd_law_of "_law_of" = true)
    (k_law_of : PySem.W.keepIn K (.ref f_law_of) = true)
    (l_law_is_number : K.lookup f_law_is_number = some ⟨oc_law_is_number, od_law_is_number, .func (PySem.W.fnOf "_law_is_number" "_law_is_number" (defArgs s_law_is_number) (defBody s_law_is_number) (defScope s_law_is_number) .none kV_law_is_number dc_law_is_number pm_law_is_number an_law_is_number cd_law_is_number ct_law_is_number), sl_law_is_number⟩)
    (c_law_is_number : PySem.W.codeIn K cd_law_is_number "_law_is_number" = true)
    (k_law_is_number : PySem.W.keepIn K (.ref f_law_is_number) = true)
    (l_law_within : K.lookup f_law_within = some ⟨oc_law_within, od_law_within, .func (PySem.W.fnOf "_law_within" "_law_within" (defArgs s_law_within) (defBody s_law_within) (defScope s_law_within) .none kV_law_within dc_law_within pm_law_within an_law_within cd_law_within ct_law_within), sl_law_within⟩)
    (c_law_within : PySem.W.codeIn K cd_law_within "_law_within" = true)
    (k_law_within : PySem.W.keepIn K (.ref f_law_within) = true)
    (l_law_is_point : K.lookup f_law_is_point = some ⟨oc_law_is_point, od_law_is_point, .func (PySem.W.fnOf "_law_is_point" "_law_is_point" (defArgs s_law_is_point) (defBody s_law_is_point) (defScope s_law_is_point) .none kV_law_is_point dc_law_is_point pm_law_is_point an_law_is_point cd_law_is_point ct_law_is_point), sl_law_is_point⟩)
    (c_law_is_point : PySem.W.codeIn K cd_law_is_point "_law_is_point" = true)
    (k_law_is_point : PySem.W.keepIn K (.ref f_law_is_point) = true)
    (l_law_pick : K.lookup f_law_pick = some ⟨oc_law_pick, od_law_pick, .func (PySem.W.fnOf "_law_pick" "_law_pick" (defArgs s_law_pick) (defBody s_law_pick) (defScope s_law_pick) .none kV_law_pick dc_law_pick pm_law_pick an_law_pick cd_law_pick ct_law_pick), sl_law_pick⟩)
    (c_law_pick : PySem.W.codeIn K cd_law_pick "_law_pick" = true)
    (k_law_pick : PySem.W.keepIn K (.ref f_law_pick) = true)
    (l_law_far : K.lookup f_law_far = some ⟨oc_law_far, od_law_far, .func (PySem.W.fnOf "_law_far" "_law_far" (defArgs s_law_far) (defBody s_law_far) (defScope s_law_far) .none kV_law_far dc_law_far pm_law_far an_law_far cd_law_far ct_law_far), sl_law_far⟩)
    (c_law_far : PySem.W.codeIn K cd_law_far "_law_far" = true)
    (k_law_far : PySem.W.keepIn K (.ref f_law_far) = true)
    (l_law_point : K.lookup f_law_point = some ⟨oc_law_point, od_law_point, .func (PySem.W.fnOf "_law_point" "_law_point" (defArgs s_law_point) (defBody s_law_point) (defScope s_law_point) .none kV_law_point dc_law_point pm_law_point an_law_point cd_law_point ct_law_point), sl_law_point⟩)
    (c_law_point : PySem.W.codeIn K cd_law_point "_law_point" = true)
    (k_law_point : PySem.W.keepIn K (.ref f_law_point) = true)
    (l_law_rod : K.lookup f_law_rod = some ⟨oc_law_rod, od_law_rod, .func (PySem.W.fnOf "_law_rod" "_law_rod" (defArgs s_law_rod) (defBody s_law_rod) (defScope s_law_rod) .none kV_law_rod dc_law_rod pm_law_rod an_law_rod cd_law_rod ct_law_rod), sl_law_rod⟩)
    (c_law_rod : PySem.W.codeIn K cd_law_rod "_law_rod" = true)
    (k_law_rod : PySem.W.keepIn K (.ref f_law_rod) = true)
    (l_law_things : K.lookup f_law_things = some ⟨oc_law_things, od_law_things, .func (PySem.W.fnOf "_law_things" "_law_things" (defArgs s_law_things) (defBody s_law_things) (defScope s_law_things) .none kV_law_things dc_law_things pm_law_things an_law_things cd_law_things ct_law_things), sl_law_things⟩)
    (c_law_things : PySem.W.codeIn K cd_law_things "_law_things" = true)
    (k_law_things : PySem.W.keepIn K (.ref f_law_things) = true)
    (l_law_due : K.lookup f_law_due = some ⟨oc_law_due, od_law_due, .func (PySem.W.fnOf "_law_due" "_law_due" (defArgs s_law_due) (defBody s_law_due) (defScope s_law_due) .none kV_law_due dc_law_due pm_law_due an_law_due cd_law_due ct_law_due), sl_law_due⟩)
    (c_law_due : PySem.W.codeIn K cd_law_due "_law_due" = true)
    (k_law_due : PySem.W.keepIn K (.ref f_law_due) = true)
    (l_law_made : K.lookup f_law_made = some ⟨oc_law_made, od_law_made, .func (PySem.W.fnOf "_law_made" "_law_made" (defArgs s_law_made) (defBody s_law_made) (defScope s_law_made) .none kV_law_made dc_law_made pm_law_made an_law_made cd_law_made ct_law_made), sl_law_made⟩)
    (c_law_made : PySem.W.codeIn K cd_law_made "_law_made" = true)
    (k_law_made : PySem.W.keepIn K (.ref f_law_made) = true)
    (l_law_named : K.lookup f_law_named = some ⟨oc_law_named, od_law_named, .func (PySem.W.fnOf "_law_named" "_law_named" (defArgs s_law_named) (defBody s_law_named) (defScope s_law_named) .none kV_law_named dc_law_named pm_law_named an_law_named cd_law_named ct_law_named), sl_law_named⟩)
    (c_law_named : PySem.W.codeIn K cd_law_named "_law_named" = true)
    (k_law_named : PySem.W.keepIn K (.ref f_law_named) = true)
    (l_law_fields : K.lookup f_law_fields = some ⟨oc_law_fields, od_law_fields, .func (PySem.W.fnOf "_law_fields" "_law_fields" (defArgs s_law_fields) (defBody s_law_fields) (defScope s_law_fields) .none kV_law_fields dc_law_fields pm_law_fields an_law_fields cd_law_fields ct_law_fields), sl_law_fields⟩)
    (c_law_fields : PySem.W.codeIn K cd_law_fields "_law_fields" = true)
    (k_law_fields : PySem.W.keepIn K (.ref f_law_fields) = true)
    (l_law_kinds_right : K.lookup f_law_kinds_right = some ⟨oc_law_kinds_right, od_law_kinds_right, .func (PySem.W.fnOf "_law_kinds_right" "_law_kinds_right" (defArgs s_law_kinds_right) (defBody s_law_kinds_right) (defScope s_law_kinds_right) .none kV_law_kinds_right dc_law_kinds_right pm_law_kinds_right an_law_kinds_right cd_law_kinds_right ct_law_kinds_right), sl_law_kinds_right⟩)
    (c_law_kinds_right : PySem.W.codeIn K cd_law_kinds_right "_law_kinds_right" = true)
    (k_law_kinds_right : PySem.W.keepIn K (.ref f_law_kinds_right) = true)
    (l_law_other : K.lookup f_law_other = some ⟨oc_law_other, od_law_other, .func (PySem.W.fnOf "_law_other" "_law_other" (defArgs s_law_other) (defBody s_law_other) (defScope s_law_other) .none kV_law_other dc_law_other pm_law_other an_law_other cd_law_other ct_law_other), sl_law_other⟩)
    (c_law_other : PySem.W.codeIn K cd_law_other "_law_other" = true)
    (k_law_other : PySem.W.keepIn K (.ref f_law_other) = true)
    (l_law : K.lookup f_law = some ⟨oc_law, od_law, .func (PySem.W.fnOf "law" "law" (defArgs s_law) (defBody s_law) (defScope s_law) .none kV_law dc_law pm_law an_law cd_law ct_law), sl_law⟩)
    (c_law : PySem.W.codeIn K cd_law "law" = true)
    (k_law : PySem.W.keepIn K (.ref f_law) = true)
    : ∃ fd : FuncData, (∀ (s : Shared) (u : Value), BindsTo s fd ⟨[u], []⟩ [("script", u)]) ∧ ∀ base : Heap, K.In base → base.Ns mainGlobals mg → FnOk P w K mg base (L2.CX P w) 7 fa fd ["script"] (lowSp K (spLaw0)) := by
  obtain ⟨A, e1, e2, T⟩ := all_mk X G hfa g_BridgeError g_BadChange g_Change g_Ballast g_Rod g_Shut g_Spaced a_Ballast_init a_Ballast_eq a_Rod_init a_Rod_eq a_Shut_init a_Shut_eq a_Spaced_init a_Spaced_eq a_BadChange_init a_is_number a_is_whole a_is_point a_law_bag a_law_take a_law_of a_law_is_number a_law_within a_law_is_point a_law_pick a_law_far a_law_point a_law_rod a_law_things a_law_due a_law_made a_law_named a_law_fields a_law_kinds_right a_law_other a_law n_ValueError n_abs n_any n_bool n_enumerate n_int n_isinstance n_len n_list n_range n_str n_tuple i_FARTHEST_rings i_FARTHEST_changes i_HEAVIEST i_LAST_STONE i_MOST_LETTERS i_MOST_EXTRA s_LETTERS ic_BridgeError ty_BridgeError ic_BadChange ty_BadChange ic_Change ty_Change ic_Ballast ty_Ballast ic_Rod ty_Rod ic_Shut ty_Shut ic_Spaced ty_Spaced pg_Ballast hd_Ballast po_Ballast sa_Ballast ha_Ballast hn_Ballast ht_Ballast hm_Ballast na_Ballast_stone na_Ballast_x na_Ballast_weight mm_Ballast fn_Ballast_init kc_Ballast fn_Ballast_eq ne_Ballast pg_Rod hd_Rod po_Rod sa_Rod ha_Rod hn_Rod ht_Rod hm_Rod na_Rod_one na_Rod_other na_Rod_start na_Rod_end na_Rod_pull mm_Rod fn_Rod_init kc_Rod fn_Rod_eq ne_Rod pg_Shut hd_Shut po_Shut sa_Shut ha_Shut hn_Shut ht_Shut hm_Shut na_Shut_name mm_Shut fn_Shut_init kc_Shut fn_Shut_eq ne_Shut pg_Spaced hd_Spaced po_Spaced sa_Spaced ha_Spaced hn_Spaced ht_Spaced hm_Spaced na_Spaced_extra mm_Spaced fn_Spaced_init kc_Spaced fn_Spaced_eq ne_Spaced sb_Ballast_Ballast sb_Ballast_Rod sb_Ballast_Shut sb_Ballast_Spaced sb_Rod_Ballast sb_Rod_Rod sb_Rod_Shut sb_Rod_Spaced sb_Shut_Ballast sb_Shut_Rod sb_Shut_Shut sb_Shut_Spaced sb_Spaced_Ballast sb_Spaced_Rod sb_Spaced_Shut sb_Spaced_Spaced sb_Ballast_Change sb_Rod_Change sb_Shut_Change sb_Spaced_Change sb_Ballast_tuple sb_Rod_tuple sb_Shut_tuple sb_Spaced_tuple sb_BadChange_BadChange sb_BadChange_BridgeError sb_BadChange_ValueError xl_BadChange xs_BadChange xe_BadChange xk_BadChange tf_BadChange_init xg_BadChange xh_BadChange xd_BadChange xa_BadChange xn0_BadChange xt0_BadChange xm_BadChange xn_BadChange_what br_BridgeError bga_BridgeError bat_BridgeError l_BadChange_init c_BadChange_init k_BadChange_init l_is_number c_is_number k_is_number l_is_whole c_is_whole k_is_whole l_is_point c_is_point k_is_point l_Ballast_init c_Ballast_init k_Ballast_init l_Ballast_eq c_Ballast_eq k_Ballast_eq l_Rod_init c_Rod_init k_Rod_init l_Rod_eq c_Rod_eq k_Rod_eq l_Shut_init c_Shut_init k_Shut_init l_Shut_eq c_Shut_eq k_Shut_eq l_Spaced_init c_Spaced_init k_Spaced_init l_Spaced_eq c_Spaced_eq k_Spaced_eq l_law_bag c_law_bag k_law_bag l_law_take c_law_take k_law_take l_law_of c_law_of k_law_of l_law_is_number c_law_is_number k_law_is_number l_law_within c_law_within k_law_within l_law_is_point c_law_is_point k_law_is_point l_law_pick c_law_pick k_law_pick l_law_far c_law_far k_law_far l_law_point c_law_point k_law_point l_law_rod c_law_rod k_law_rod l_law_things c_law_things k_law_things l_law_due c_law_due k_law_due l_law_made c_law_made k_law_made l_law_named c_law_named k_law_named l_law_fields c_law_fields k_law_fields l_law_kinds_right c_law_kinds_right k_law_kinds_right l_law_other c_law_other k_law_other l_law c_law k_law
  refine ⟨A.d_law, fun s u => by rw [e2]; exact .of_eq rfl, fun base _ _ => ?_⟩
  rw [← e1]
  exact ok_law T
end K68

namespace K68
open PySem PySem.Spec PyProof.Rows L2 L3
theorem reps_ints {K : PySem.W.Frag} {N : Hp} : ∀ ns : List Int, Reps K N (ns.map D.int) (ns.map V.int)
  | [] => .nil
  | n :: ns => .cons .int (reps_ints ns)
theorem walk {l : PySem.W.OpenLaw} {q : Program} {loose : List Str} {XP : (Str → Option Value) → Heap → Prop} {YP : World → Heap → Prop} {d : DefRec} {K : Params → PySem.W.Frag} (hn : l.most = some 63) (hdf : d.params.defaults = [])
    (hY : ∀ (w : World) (h : Heap), YP w h → (K w.params).In h)
    (F : ∀ (w : World) (mg : Str → Option Value) (fa : Addr) (h : Heap), (K w.params).In h → h.Ns mainGlobals mg → mg d.name = some (.ref fa) →
      ∃ fd : FuncData, (∀ (s : Shared) (u : Value), BindsTo s fd ⟨[u], []⟩ [("script", u)]) ∧ ∀ base : Heap, (K w.params).In base → base.Ns mainGlobals mg → FnOk l.prog w (K w.params) mg base (L2.CX l.prog w) 7 fa fd ["script"] (lowSp (K w.params) spLaw0)) :
    PySem.W.WalkO q loose XP YP l.row.toRowW d [] (fun f vs => PySem.call f vs) :=
  L2.walk_of (n := 63) (k := 7) (x := "script") (CX := fun w => L2.CX l.prog w) (sp := fun w => lowSp (K w.params) spLaw0) hn (by decide) hdf ⟨rfl, by decide, by decide⟩ hY F
    (fun w H a ns hl _ hS => by
      have e : hid H (fun _ => none) = H := rfl
      exact ⟨[.lst (ns.map .int)], fun _ => none, fun x _ => x = .bl true, fun _ _ _ => False, (fun a o z => by cases z), .cons (.lst (by rw [e]; exact hS) (reps_ints ns)) .nil, ⟨ns, rfl, hl, fun _ => rfl⟩, fun x M H1 v _ _ r z => (by subst z; cases r; rfl), fun _ _ _ _ _ _ _ _ z => z⟩)
    (fun w H s e s' z => by obtain ⟨_, _, _, _, _, _, _, _, _, _, _, _, z⟩ := z; exact z)
end K68
open PySem PySem.W PyProof.Rows
set_option maxRecDepth 100000 in
set_option maxHeartbeats 0 in
theorem PySem.Challenge.cw_fourhinges_k68_changes_made_and_refused_holds : PySem.Challenge.rw_fourhinges_k68_changes_made_and_refused.Holds := by
  w_on; o_law; k_head; (case hw => w_witness2)
  k_fill
  refine K68.walk (l := PySem.Challenge.rw_fourhinges_k68_changes_made_and_refused) rfl rfl (fun w h Y => PySem.W.kIn_of Y) ?F
  case F =>
    intro w mg fa h KX G hmg
    refine' K68.law_at KX G hmg ?g_BridgeError ?g_BadChange ?g_Change ?g_Ballast ?g_Rod ?g_Shut ?g_Spaced ?a_Ballast_init ?a_Ballast_eq ?a_Rod_init ?a_Rod_eq ?a_Shut_init ?a_Shut_eq ?a_Spaced_init ?a_Spaced_eq ?a_BadChange_init ?a_is_number ?a_is_whole ?a_is_point ?a_law_bag ?a_law_take ?a_law_of ?a_law_is_number ?a_law_within ?a_law_is_point ?a_law_pick ?a_law_far ?a_law_point ?a_law_rod ?a_law_things ?a_law_due ?a_law_made ?a_law_named ?a_law_fields ?a_law_kinds_right ?a_law_other ?a_law ?n_ValueError ?n_abs ?n_any ?n_bool ?n_enumerate ?n_int ?n_isinstance ?n_len ?n_list ?n_range ?n_str ?n_tuple ?i_FARTHEST_rings ?i_FARTHEST_changes ?i_HEAVIEST ?i_LAST_STONE ?i_MOST_LETTERS ?i_MOST_EXTRA ?s_LETTERS ?ic_BridgeError ?ty_BridgeError ?ic_BadChange ?ty_BadChange ?ic_Change ?ty_Change ?ic_Ballast ?ty_Ballast ?ic_Rod ?ty_Rod ?ic_Shut ?ty_Shut ?ic_Spaced ?ty_Spaced ?pg_Ballast ?hd_Ballast ?po_Ballast ?sa_Ballast ?ha_Ballast ?hn_Ballast ?ht_Ballast ?hm_Ballast ?na_Ballast_stone ?na_Ballast_x ?na_Ballast_weight ?mm_Ballast ?fn_Ballast_init ?kc_Ballast ?fn_Ballast_eq ?ne_Ballast ?pg_Rod ?hd_Rod ?po_Rod ?sa_Rod ?ha_Rod ?hn_Rod ?ht_Rod ?hm_Rod ?na_Rod_one ?na_Rod_other ?na_Rod_start ?na_Rod_end ?na_Rod_pull ?mm_Rod ?fn_Rod_init ?kc_Rod ?fn_Rod_eq ?ne_Rod ?pg_Shut ?hd_Shut ?po_Shut ?sa_Shut ?ha_Shut ?hn_Shut ?ht_Shut ?hm_Shut ?na_Shut_name ?mm_Shut ?fn_Shut_init ?kc_Shut ?fn_Shut_eq ?ne_Shut ?pg_Spaced ?hd_Spaced ?po_Spaced ?sa_Spaced ?ha_Spaced ?hn_Spaced ?ht_Spaced ?hm_Spaced ?na_Spaced_extra ?mm_Spaced ?fn_Spaced_init ?kc_Spaced ?fn_Spaced_eq ?ne_Spaced ?sb_Ballast_Ballast ?sb_Ballast_Rod ?sb_Ballast_Shut ?sb_Ballast_Spaced ?sb_Rod_Ballast ?sb_Rod_Rod ?sb_Rod_Shut ?sb_Rod_Spaced ?sb_Shut_Ballast ?sb_Shut_Rod ?sb_Shut_Shut ?sb_Shut_Spaced ?sb_Spaced_Ballast ?sb_Spaced_Rod ?sb_Spaced_Shut ?sb_Spaced_Spaced ?sb_Ballast_Change ?sb_Rod_Change ?sb_Shut_Change ?sb_Spaced_Change ?sb_Ballast_tuple ?sb_Rod_tuple ?sb_Shut_tuple ?sb_Spaced_tuple ?sb_BadChange_BadChange ?sb_BadChange_BridgeError ?sb_BadChange_ValueError ?xl_BadChange ?xs_BadChange ?xe_BadChange ?xk_BadChange ?tf_BadChange_init ?xg_BadChange ?xh_BadChange ?xd_BadChange ?xa_BadChange ?xn0_BadChange ?xt0_BadChange ?xm_BadChange ?xn_BadChange_what ?br_BridgeError ?bga_BridgeError ?bat_BridgeError ?l_BadChange_init ?c_BadChange_init ?k_BadChange_init ?l_is_number ?c_is_number ?k_is_number ?l_is_whole ?c_is_whole ?k_is_whole ?l_is_point ?c_is_point ?k_is_point ?l_Ballast_init ?c_Ballast_init ?k_Ballast_init ?l_Ballast_eq ?c_Ballast_eq ?k_Ballast_eq ?l_Rod_init ?c_Rod_init ?k_Rod_init ?l_Rod_eq ?c_Rod_eq ?k_Rod_eq ?l_Shut_init ?c_Shut_init ?k_Shut_init ?l_Shut_eq ?c_Shut_eq ?k_Shut_eq ?l_Spaced_init ?c_Spaced_init ?k_Spaced_init ?l_Spaced_eq ?c_Spaced_eq ?k_Spaced_eq ?l_law_bag ?c_law_bag ?k_law_bag ?l_law_take ?c_law_take ?k_law_take ?l_law_of ?c_law_of ?k_law_of ?l_law_is_number ?c_law_is_number ?k_law_is_number ?l_law_within ?c_law_within ?k_law_within ?l_law_is_point ?c_law_is_point ?k_law_is_point ?l_law_pick ?c_law_pick ?k_law_pick ?l_law_far ?c_law_far ?k_law_far ?l_law_point ?c_law_point ?k_law_point ?l_law_rod ?c_law_rod ?k_law_rod ?l_law_things ?c_law_things ?k_law_things ?l_law_due ?c_law_due ?k_law_due ?l_law_made ?c_law_made ?k_law_made ?l_law_named ?c_law_named ?k_law_named ?l_law_fields ?c_law_fields ?k_law_fields ?l_law_kinds_right ?c_law_kinds_right ?k_law_kinds_right ?l_law_other ?c_law_other ?k_law_other ?l_law ?c_law ?k_law
    (case g_BridgeError => k_is)
    (case g_BadChange => k_is)
    (case g_Change => k_is)
    (case g_Ballast => k_is)
    (case g_Rod => k_is)
    (case g_Shut => k_is)
    (case g_Spaced => k_is)
    (case a_Ballast_init => k_is)
    (case a_Ballast_eq => k_is)
    (case a_Rod_init => k_is)
    (case a_Rod_eq => k_is)
    (case a_Shut_init => k_is)
    (case a_Shut_eq => k_is)
    (case a_Spaced_init => k_is)
    (case a_Spaced_eq => k_is)
    (case a_BadChange_init => k_is)
    (case a_is_number => k_is)
    (case a_is_whole => k_is)
    (case a_is_point => k_is)
    (case a_law_bag => k_is)
    (case a_law_take => k_is)
    (case a_law_of => k_is)
    (case a_law_is_number => k_is)
    (case a_law_within => k_is)
    (case a_law_is_point => k_is)
    (case a_law_pick => k_is)
    (case a_law_far => k_is)
    (case a_law_point => k_is)
    (case a_law_rod => k_is)
    (case a_law_things => k_is)
    (case a_law_due => k_is)
    (case a_law_made => k_is)
    (case a_law_named => k_is)
    (case a_law_fields => k_is)
    (case a_law_kinds_right => k_is)
    (case a_law_other => k_is)
    (case a_law => k_is)
    (case n_ValueError => k_is)
    (case n_abs => k_is)
    (case n_any => k_is)
    (case n_bool => k_is)
    (case n_enumerate => k_is)
    (case n_int => k_is)
    (case n_isinstance => k_is)
    (case n_len => k_is)
    (case n_list => k_is)
    (case n_range => k_is)
    (case n_str => k_is)
    (case n_tuple => k_is)
    (case i_FARTHEST_rings => k_is)
    (case i_FARTHEST_changes => k_is)
    (case i_HEAVIEST => k_is)
    (case i_LAST_STONE => k_is)
    (case i_MOST_LETTERS => k_is)
    (case i_MOST_EXTRA => k_is)
    (case s_LETTERS => k_is)
    (case ic_BridgeError => k_is)
    (case ty_BridgeError => k_is)
    (case ic_BadChange => k_is)
    (case ty_BadChange => k_is)
    (case ic_Change => k_is)
    (case ty_Change => k_is)
    (case ic_Ballast => k_is)
    (case ty_Ballast => k_is)
    (case ic_Rod => k_is)
    (case ty_Rod => k_is)
    (case ic_Shut => k_is)
    (case ty_Shut => k_is)
    (case ic_Spaced => k_is)
    (case ty_Spaced => k_is)
    (case pg_Ballast => k_is)
    (case hd_Ballast => k_is)
    (case po_Ballast => k_is)
    (case sa_Ballast => k_is)
    (case ha_Ballast => k_is)
    (case hn_Ballast => k_is)
    (case ht_Ballast => k_is)
    (case hm_Ballast => k_is)
    (case na_Ballast_stone => k_is)
    (case na_Ballast_x => k_is)
    (case na_Ballast_weight => k_is)
    (case mm_Ballast => k_is)
    (case fn_Ballast_init => k_is)
    (case kc_Ballast => k_is)
    (case fn_Ballast_eq => k_is)
    (case ne_Ballast => k_is)
    (case pg_Rod => k_is)
    (case hd_Rod => k_is)
    (case po_Rod => k_is)
    (case sa_Rod => k_is)
    (case ha_Rod => k_is)
    (case hn_Rod => k_is)
    (case ht_Rod => k_is)
    (case hm_Rod => k_is)
    (case na_Rod_one => k_is)
    (case na_Rod_other => k_is)
    (case na_Rod_start => k_is)
    (case na_Rod_end => k_is)
    (case na_Rod_pull => k_is)
    (case mm_Rod => k_is)
    (case fn_Rod_init => k_is)
    (case kc_Rod => k_is)
    (case fn_Rod_eq => k_is)
    (case ne_Rod => k_is)
    (case pg_Shut => k_is)
    (case hd_Shut => k_is)
    (case po_Shut => k_is)
    (case sa_Shut => k_is)
    (case ha_Shut => k_is)
    (case hn_Shut => k_is)
    (case ht_Shut => k_is)
    (case hm_Shut => k_is)
    (case na_Shut_name => k_is)
    (case mm_Shut => k_is)
    (case fn_Shut_init => k_is)
    (case kc_Shut => k_is)
    (case fn_Shut_eq => k_is)
    (case ne_Shut => k_is)
    (case pg_Spaced => k_is)
    (case hd_Spaced => k_is)
    (case po_Spaced => k_is)
    (case sa_Spaced => k_is)
    (case ha_Spaced => k_is)
    (case hn_Spaced => k_is)
    (case ht_Spaced => k_is)
    (case hm_Spaced => k_is)
    (case na_Spaced_extra => k_is)
    (case mm_Spaced => k_is)
    (case fn_Spaced_init => k_is)
    (case kc_Spaced => k_is)
    (case fn_Spaced_eq => k_is)
    (case ne_Spaced => k_is)
    (case sb_Ballast_Ballast => k_is)
    (case sb_Ballast_Rod => k_is)
    (case sb_Ballast_Shut => k_is)
    (case sb_Ballast_Spaced => k_is)
    (case sb_Rod_Ballast => k_is)
    (case sb_Rod_Rod => k_is)
    (case sb_Rod_Shut => k_is)
    (case sb_Rod_Spaced => k_is)
    (case sb_Shut_Ballast => k_is)
    (case sb_Shut_Rod => k_is)
    (case sb_Shut_Shut => k_is)
    (case sb_Shut_Spaced => k_is)
    (case sb_Spaced_Ballast => k_is)
    (case sb_Spaced_Rod => k_is)
    (case sb_Spaced_Shut => k_is)
    (case sb_Spaced_Spaced => k_is)
    (case sb_Ballast_Change => k_is)
    (case sb_Rod_Change => k_is)
    (case sb_Shut_Change => k_is)
    (case sb_Spaced_Change => k_is)
    (case sb_Ballast_tuple => k_is)
    (case sb_Rod_tuple => k_is)
    (case sb_Shut_tuple => k_is)
    (case sb_Spaced_tuple => k_is)
    (case sb_BadChange_BadChange => k_is)
    (case sb_BadChange_BridgeError => k_is)
    (case sb_BadChange_ValueError => k_is)
    (case xl_BadChange => k_is)
    (case xs_BadChange => k_is)
    (case xe_BadChange => k_is)
    (case xk_BadChange => k_is)
    (case tf_BadChange_init => k_is)
    (case xg_BadChange => k_is)
    (case xh_BadChange => k_is)
    (case xd_BadChange => k_is)
    (case xa_BadChange => k_is)
    (case xn0_BadChange => k_is)
    (case xt0_BadChange => k_is)
    (case xm_BadChange => k_is)
    (case xn_BadChange_what => k_is)
    (case br_BridgeError => k_is)
    (case bga_BridgeError => k_is)
    (case bat_BridgeError => k_is)
    (case l_BadChange_init => k_is)
    (case c_BadChange_init => k_is)
    (case k_BadChange_init => k_is)
    (case l_is_number => k_is)
    (case c_is_number => k_is)
    (case k_is_number => k_is)
    (case l_is_whole => k_is)
    (case c_is_whole => k_is)
    (case k_is_whole => k_is)
    (case l_is_point => k_is)
    (case c_is_point => k_is)
    (case k_is_point => k_is)
    (case l_Ballast_init => k_is)
    (case c_Ballast_init => k_is)
    (case k_Ballast_init => k_is)
    (case l_Ballast_eq => k_is)
    (case c_Ballast_eq => k_is)
    (case k_Ballast_eq => k_is)
    (case l_Rod_init => k_is)
    (case c_Rod_init => k_is)
    (case k_Rod_init => k_is)
    (case l_Rod_eq => k_is)
    (case c_Rod_eq => k_is)
    (case k_Rod_eq => k_is)
    (case l_Shut_init => k_is)
    (case c_Shut_init => k_is)
    (case k_Shut_init => k_is)
    (case l_Shut_eq => k_is)
    (case c_Shut_eq => k_is)
    (case k_Shut_eq => k_is)
    (case l_Spaced_init => k_is)
    (case c_Spaced_init => k_is)
    (case k_Spaced_init => k_is)
    (case l_Spaced_eq => k_is)
    (case c_Spaced_eq => k_is)
    (case k_Spaced_eq => k_is)
    (case l_law_bag => k_is)
    (case c_law_bag => k_is)
    (case k_law_bag => k_is)
    (case l_law_take => k_is)
    (case c_law_take => k_is)
    (case k_law_take => k_is)
    (case l_law_of => k_is)
    (case c_law_of => k_is)
    (case k_law_of => k_is)
    (case l_law_is_number => k_is)
    (case c_law_is_number => k_is)
    (case k_law_is_number => k_is)
    (case l_law_within => k_is)
    (case c_law_within => k_is)
    (case k_law_within => k_is)
    (case l_law_is_point => k_is)
    (case c_law_is_point => k_is)
    (case k_law_is_point => k_is)
    (case l_law_pick => k_is)
    (case c_law_pick => k_is)
    (case k_law_pick => k_is)
    (case l_law_far => k_is)
    (case c_law_far => k_is)
    (case k_law_far => k_is)
    (case l_law_point => k_is)
    (case c_law_point => k_is)
    (case k_law_point => k_is)
    (case l_law_rod => k_is)
    (case c_law_rod => k_is)
    (case k_law_rod => k_is)
    (case l_law_things => k_is)
    (case c_law_things => k_is)
    (case k_law_things => k_is)
    (case l_law_due => k_is)
    (case c_law_due => k_is)
    (case k_law_due => k_is)
    (case l_law_made => k_is)
    (case c_law_made => k_is)
    (case k_law_made => k_is)
    (case l_law_named => k_is)
    (case c_law_named => k_is)
    (case k_law_named => k_is)
    (case l_law_fields => k_is)
    (case c_law_fields => k_is)
    (case k_law_fields => k_is)
    (case l_law_kinds_right => k_is)
    (case c_law_kinds_right => k_is)
    (case k_law_kinds_right => k_is)
    (case l_law_other => k_is)
    (case c_law_other => k_is)
    (case k_law_other => k_is)
    (case l_law => k_is)
    (case c_law => k_is)
    (case k_law => k_is)
#print axioms PySem.Challenge.cw_fourhinges_k68_changes_made_and_refused_holds
