import PyProof.Rows.All
import HandS.ForMost
import HandS.ForExc
import HandS.Wide
import HandS.IsInst
import HandS.Flow
import HandS.Comp
import HandS.CallSlots
import HandS.Defaults
import HandS.More
import HandS.Words
import HandS.WordsExc
import HandS.Head0
import HandS.Head1
import HandS.Head2
import HandS.HeadEnd
import HandS.HeadHook1
import HandS.HeadHook2
import PySem.Challenge.RW_lagwedge_k02_parts_known
set_option Elab.async false
set_option linter.all false
set_option maxRecDepth 100000
set_option autoImplicit false
namespace L3
open PySem L2

/-- a value: tuples by value; lists, dicts and instances by a number; the script as a list by value that is only read -/
inductive D where
  | non | bl (b : Bool) | int (i : Int) | str (x : Str) | tup (xs : List D) | rol (xs : List D) | ref (n : Nat)

/-- an object -/
inductive O where
  | lst (xs : List D)
  | ins (c : Str) (fs : List (Str × D))
  | dK (kvs : List (Key × D))

abbrev Hh := List O

/-- what never changes -/
def Fixed : HO → Prop
  | .tup _ => True
  | .frz _ _ => True
  | .xd _ => True
  | .own _ => True
  | _ => False

def Keep (H H' : Hp) : Prop := ∀ a o, H a = some o → Fixed o → H' a = some o
theorem Keep.refl (H : Hp) : Keep H H := fun _ _ h _ => h
theorem Keep.trans {H H1 H2 : Hp} (a : Keep H H1) (b : Keep H1 H2) : Keep H H2 := fun c o h f => b c o (a c o h f) f
theorem Keep.new {H : Hp} {p : Addr} {o : HO} (h : H p = none) : Keep H (upd H p o) := fun a u e _ => by
  rw [upd_ne (ne_of_none e h)]; exact e
theorem Keep.write {H : Hp} {p : Addr} {o u : HO} (h : H p = some u) (hu : ¬ Fixed u) : Keep H (upd H p o) := fun a v e f => by
  by_cases c : a = p
  · subst c; rw [h] at e; cases e; exact absurd f hu
  · rw [upd_ne c]; exact e

/-- a list that is only read -/
def SqF (K : PySem.W.Frag) (H : Hp) (a : Addr) (xs : List V) : Prop :=
  (∃ o, H a = some (.frz o (.lst xs))) ∨
    ∃ (o : Obj) (its : Array Value) (n : Nat), K.lookup a = some o ∧ o.cls = .type "list" ∧ o.dict = none ∧ o.data = .seq its n ∧ its.size ≤ sizeLine ∧ Vals xs its.toList
theorem SqF.sq {K : PySem.W.Frag} {H : Hp} {a : Addr} {xs : List V} (h : SqF K H a xs) : SqL K H a xs := by
  rcases h with h | h
  · exact .inl (.inr h)
  · exact .inr h
theorem SqF.keep {K : PySem.W.Frag} {H H' : Hp} {a : Addr} {xs : List V} (h : SqF K H a xs) (k : Keep H H') : SqF K H' a xs := by
  rcases h with ⟨o, h⟩ | h
  · exact .inl ⟨o, k _ _ h trivial⟩
  · exact .inr h
theorem SqT_keep {K : PySem.W.Frag} {H H' : Hp} {a : Addr} {xs : List V} (h : SqT K H a xs) (k : Keep H H') : SqT K H' a xs := by
  rcases h with (h | ⟨o, h⟩) | h
  · exact .inl (.inl (k _ _ h trivial))
  · exact .inl (.inr ⟨o, k _ _ h trivial⟩)
  · exact .inr h

mutual
inductive RD (K : PySem.W.Frag) (ρ : List Addr) (H : Hp) : D → V → Prop where
  | non : RD K ρ H .non .non
  | bl (b : Bool) : RD K ρ H (.bl b) (.bl b)
  | int (i : Int) : RD K ρ H (.int i) (.int i)
  | str (x : Str) : RD K ρ H (.str x) (.str x)
  | tup {ds : List D} {vs : List V} {a : Addr} (h : SqT K H a vs) (r : RDs K ρ H ds vs) : RD K ρ H (.tup ds) (.ref a)
  | rol {ds : List D} {vs : List V} {a : Addr} (h : SqF K H a vs) (r : RDs K ρ H ds vs) : RD K ρ H (.rol ds) (.ref a)
  | ref {n : Nat} {a : Addr} (h : ρ[n]? = some a) : RD K ρ H (.ref n) (.ref a)
inductive RDs (K : PySem.W.Frag) (ρ : List Addr) (H : Hp) : List D → List V → Prop where
  | nil : RDs K ρ H [] []
  | cons {d : D} {v : V} {ds : List D} {vs : List V} (h : RD K ρ H d v) (r : RDs K ρ H ds vs) : RDs K ρ H (d :: ds) (v :: vs)
end

/-- the objects' addresses grow, what is fixed stays -/
structure Step (ρ : List Addr) (H : Hp) (ρ' : List Addr) (H' : Hp) : Prop where
  pre : ρ <+: ρ'
  keep : Keep H H'
theorem Step.refl (ρ : List Addr) (H : Hp) : Step ρ H ρ H := ⟨List.prefix_refl _, Keep.refl _⟩
theorem Step.trans {ρ ρ1 ρ2 : List Addr} {H H1 H2 : Hp} (a : Step ρ H ρ1 H1) (b : Step ρ1 H1 ρ2 H2) : Step ρ H ρ2 H2 := ⟨a.pre.trans b.pre, a.keep.trans b.keep⟩
theorem pre_get {ρ ρ' : List Addr} (p : ρ <+: ρ') {n : Nat} {a : Addr} (h : ρ[n]? = some a) : ρ'[n]? = some a := by
  obtain ⟨t, rfl⟩ := p
  rw [List.getElem?_append_left (List.getElem?_eq_some_iff.mp h).1]
  exact h

section
variable {K : PySem.W.Frag} {ρ ρ' : List Addr} {H H' : Hp}
mutual
theorem RD.mono {d : D} {v : V} (s : Step ρ H ρ' H') : RD K ρ H d v → RD K ρ' H' d v
  | .non => .non
  | .bl b => .bl b
  | .int i => .int i
  | .str x => .str x
  | .tup h r => .tup (SqT_keep h s.keep) (RDs.mono s r)
  | .rol h r => .rol (h.keep s.keep) (RDs.mono s r)
  | .ref h => .ref (pre_get s.pre h)
theorem RDs.mono {ds : List D} {vs : List V} (s : Step ρ H ρ' H') : RDs K ρ H ds vs → RDs K ρ' H' ds vs
  | .nil => .nil
  | .cons h r => .cons (RD.mono s h) (RDs.mono s r)
end
theorem RDs.length : ∀ {ds : List D} {vs : List V}, RDs K ρ H ds vs → ds.length = vs.length
  | _, _, .nil => rfl
  | _, _, .cons _ r => by simp [RDs.length r]
theorem RDs.get : ∀ {ds : List D} {vs : List V} {i : Nat} {d : D}, RDs K ρ H ds vs → ds[i]? = some d → ∃ v, vs[i]? = some v ∧ RD K ρ H d v
  | _, _, _, _, .nil, e => by simp at e
  | _, _, 0, _, .cons h _, e => by simp at e; subst e; exact ⟨_, rfl, h⟩
  | _, _, i + 1, d, .cons _ r, e => by
    obtain ⟨v, h1, h2⟩ := RDs.get (i := i) (d := d) r (by simpa using e)
    exact ⟨v, by simpa using h1, h2⟩
theorem RDs.append : ∀ {ds es : List D} {vs ws : List V}, RDs K ρ H ds vs → RDs K ρ H es ws → RDs K ρ H (ds ++ es) (vs ++ ws)
  | _, _, _, _, .nil, s => s
  | _, _, _, _, .cons h r, s => .cons h (RDs.append r s)
theorem RDs.set {d : D} {v : V} (h : RD K ρ H d v) : ∀ {ds : List D} {vs : List V} (i : Nat), RDs K ρ H ds vs → RDs K ρ H (ds.set i d) (vs.set i v)
  | _, _, _, .nil => .nil
  | _, _, 0, .cons _ r => .cons h r
  | _, _, i + 1, .cons q r => .cons q (RDs.set h i r)
theorem RDs.take : ∀ {ds : List D} {vs : List V} (n : Nat), RDs K ρ H ds vs → RDs K ρ H (ds.take n) (vs.take n)
  | _, _, 0, _ => .nil
  | _, _, _ + 1, .nil => .nil
  | _, _, n + 1, .cons h r => .cons h (RDs.take n r)
theorem RDs.drop : ∀ {ds : List D} {vs : List V} (n : Nat), RDs K ρ H ds vs → RDs K ρ H (ds.drop n) (vs.drop n)
  | _, _, 0, r => r
  | _, _, _ + 1, .nil => .nil
  | _, _, n + 1, .cons _ r => RDs.drop n r
theorem RDs.reverse : ∀ {ds : List D} {vs : List V}, RDs K ρ H ds vs → RDs K ρ H ds.reverse vs.reverse
  | _, _, .nil => .nil
  | _, _, .cons h r => by
    rw [List.reverse_cons, List.reverse_cons]
    exact (RDs.reverse r).append (.cons h .nil)
theorem RDs.ints : ∀ {ns : List Int}, RDs K ρ H (ns.map D.int) (ns.map V.int)
  | [] => .nil
  | _ :: _ => .cons (.int _) RDs.ints
end

/-- fields by name -/
inductive RFs (K : PySem.W.Frag) (ρ : List Addr) (H : Hp) : List (Str × D) → List (Str × V) → Prop where
  | nil : RFs K ρ H [] []
  | cons {f : Str} {d : D} {v : V} {fs : List (Str × D)} {vs : List (Str × V)} (h : RD K ρ H d v) (r : RFs K ρ H fs vs) : RFs K ρ H ((f, d) :: fs) ((f, v) :: vs)
/-- a dict's entries -/
inductive RKs (K : PySem.W.Frag) (ρ : List Addr) (H : Hp) : List (Key × D) → List (Key × V) → Prop where
  | nil : RKs K ρ H [] []
  | cons {k : Key} {d : D} {v : V} {fs : List (Key × D)} {vs : List (Key × V)} (h : RD K ρ H d v) (r : RKs K ρ H fs vs) : RKs K ρ H ((k, d) :: fs) ((k, v) :: vs)

section
variable {K : PySem.W.Frag} {ρ ρ' : List Addr} {H H' : Hp}
theorem RFs.mono (s : Step ρ H ρ' H') : ∀ {fs : List (Str × D)} {vs : List (Str × V)}, RFs K ρ H fs vs → RFs K ρ' H' fs vs
  | _, _, .nil => .nil
  | _, _, .cons h r => .cons (h.mono s) (RFs.mono s r)
theorem RKs.mono (s : Step ρ H ρ' H') : ∀ {fs : List (Key × D)} {vs : List (Key × V)}, RKs K ρ H fs vs → RKs K ρ' H' fs vs
  | _, _, .nil => .nil
  | _, _, .cons h r => .cons (h.mono s) (RKs.mono s r)
theorem RFs.length : ∀ {fs : List (Str × D)} {vs : List (Str × V)}, RFs K ρ H fs vs → fs.length = vs.length
  | _, _, .nil => rfl
  | _, _, .cons _ r => by simp [RFs.length r]
theorem RFs.some {f : Str} {d : D} : ∀ {fs : List (Str × D)} {vs : List (Str × V)}, RFs K ρ H fs vs → fs.lookup f = some d → ∃ v, vs.lookup f = some v ∧ RD K ρ H d v
  | _, _, .nil, e => by simp at e
  | _, _, .cons (f := g) h r, e => by
    rw [List.lookup_cons] at e ⊢
    cases c : f == g with
    | true => rw [c] at e; cases e; exact ⟨_, rfl, h⟩
    | false => rw [c] at e; exact RFs.some r e
theorem RFs.none {f : Str} : ∀ {fs : List (Str × D)} {vs : List (Str × V)}, RFs K ρ H fs vs → fs.lookup f = none → vs.lookup f = none
  | _, _, .nil, e => rfl
  | _, _, .cons (f := g) h r, e => by
    rw [List.lookup_cons] at e ⊢
    cases c : f == g with
    | true => rw [c] at e; cases e
    | false => rw [c] at e; exact RFs.none r e
/-- put a field -/
def putD (f : Str) (d : D) : List (Str × D) → List (Str × D)
  | [] => [(f, d)]
  | (g, e) :: r => if g = f then (g, d) :: r else (g, e) :: putD f d r
theorem RFs.put {f : Str} {d : D} {v : V} (h : RD K ρ H d v) : ∀ {fs : List (Str × D)} {vs : List (Str × V)}, RFs K ρ H fs vs → RFs K ρ H (putD f d fs) (putF f v vs)
  | _, _, .nil => .cons h .nil
  | _, _, .cons (f := g) q r => by
    unfold putD putF
    by_cases c : g = f
    · rw [if_pos c, if_pos c]; exact .cons h r
    · rw [if_neg c, if_neg c]; exact .cons q (RFs.put h r)
end

/-- the object at an address -/
def RO (K : PySem.W.Frag) (mg : Str → Option Value) (ρ : List Addr) (H : Hp) (a : Addr) : O → Prop
  | .lst ds => ∃ vs, H a = some (.lst vs) ∧ RDs K ρ H ds vs
  | .ins c fs => ∃ C dx vfs, H a = some (.ins C dx vfs) ∧ mg c = some (.ref C) ∧ RFs K ρ H fs vfs
  | .dK kvs => ∃ vks, H a = some (.dK vks) ∧ RKs K ρ H kvs vks
/-- the heap of numbers is borne -/
structure Rep (K : PySem.W.Frag) (mg : Str → Option Value) (ρ : List Addr) (h : Hh) (H : Hp) : Prop where
  len : ρ.length = h.length
  nd : ρ.Nodup
  obj : ∀ (n : Nat) (a : Addr) (o : O), ρ[n]? = some a → h[n]? = some o → RO K mg ρ H a o

theorem nodup_ix' {N : List Addr} (hN : N.Nodup) {i j : Nat} {x : Addr} (a : N[i]? = some x) (b : N[j]? = some x) : i = j := by
  obtain ⟨h1, e1⟩ := List.getElem?_eq_some_iff.mp a
  obtain ⟨h2, e2⟩ := List.getElem?_eq_some_iff.mp b
  exact (List.getElem_inj hN).mp (e1.trans e2.symm)
section
variable {K : PySem.W.Frag} {mg : Str → Option Value} {ρ ρ' : List Addr} {H H' : Hp} {h : Hh} {a p : Addr} {n : Nat} {o : O}
theorem RO.mono (r : RO K mg ρ H a o) (s : Step ρ H ρ' H') (e : H' a = H a) : RO K mg ρ' H' a o := by
  cases o with
  | lst ds => obtain ⟨vs, e1, q⟩ := r; exact ⟨vs, e.trans e1, q.mono s⟩
  | ins c fs => obtain ⟨C, dx, vfs, e1, m, q⟩ := r; exact ⟨C, dx, vfs, e.trans e1, m, q.mono s⟩
  | dK kvs => obtain ⟨vks, e1, q⟩ := r; exact ⟨vks, e.trans e1, q.mono s⟩
theorem RO.there (r : RO K mg ρ H a o) : ∃ u, H a = some u ∧ ¬ Fixed u := by
  cases o with
  | lst ds => obtain ⟨vs, e1, _⟩ := r; exact ⟨_, e1, fun z => z⟩
  | ins c fs => obtain ⟨C, dx, vfs, e1, _⟩ := r; exact ⟨_, e1, fun z => z⟩
  | dK kvs => obtain ⟨vks, e1, _⟩ := r; exact ⟨_, e1, fun z => z⟩
theorem Rep.at (R : Rep K mg ρ h H) (hn : ρ[n]? = some a) : ∃ o, h[n]? = some o ∧ RO K mg ρ H a o := by
  have hl : n < h.length := by rw [← R.len]; exact (List.getElem?_eq_some_iff.mp hn).1
  exact ⟨h[n], List.getElem?_eq_getElem hl, R.obj n a _ hn (List.getElem?_eq_getElem hl)⟩
theorem Rep.fresh (R : Rep K mg ρ h H) (hp : H p = none) : p ∉ ρ := fun hm => by
  obtain ⟨n, e⟩ := List.getElem?_of_mem hm
  obtain ⟨o, _, r⟩ := R.at e
  obtain ⟨u, e1, _⟩ := r.there
  rw [hp] at e1; cases e1
theorem Rep.ne (R : Rep K mg ρ h H) (hp : H p = none) (hn : ρ[n]? = some a) : a ≠ p := fun e => R.fresh hp (e ▸ List.mem_of_getElem? hn)
/-- the heap of addresses grows beside -/
theorem Rep.grow (R : Rep K mg ρ h H) (k : Keep H H') (e : ∀ b ∈ ρ, H' b = H b) : Rep K mg ρ h H' :=
  ⟨R.len, R.nd, fun n a o hn ho => (R.obj n a o hn ho).mono ⟨List.prefix_refl _, k⟩ (e a (List.mem_of_getElem? hn))⟩
/-- a new fixed thing -/
theorem Rep.beside {u : HO} (R : Rep K mg ρ h H) (hp : H p = none) : Rep K mg ρ h (upd H p u) :=
  R.grow (Keep.new hp) fun b hb => upd_ne fun e => R.fresh hp (e ▸ hb)
theorem Step.beside {u : HO} (hp : H p = none) : Step ρ H ρ (upd H p u) := ⟨List.prefix_refl _, Keep.new hp⟩
/-- a new object -/
theorem Rep.lay {u : HO} (R : Rep K mg ρ h H) (hp : H p = none) (hk : Keep H H') (hq : H' p = some u) (he : ∀ b ∈ ρ, H' b = H b) (r : RO K mg (ρ ++ [p]) H' p o) : Rep K mg (ρ ++ [p]) (h ++ [o]) H' where
  len := by simp [R.len]
  nd := by
    rw [List.nodup_append]
    refine ⟨R.nd, by simp, fun x hx y hy => ?_⟩
    rw [List.mem_singleton] at hy
    subst hy
    exact fun e => R.fresh hp (e ▸ hx)
  obj := fun n a o' hn ho => by
    by_cases c : n < ρ.length
    · rw [List.getElem?_append_left c] at hn
      rw [List.getElem?_append_left (by rw [← R.len]; exact c)] at ho
      exact (R.obj n a o' hn ho).mono ⟨List.prefix_append _ _, hk⟩ (he a (List.mem_of_getElem? hn))
    · have hl : n < (ρ ++ [p]).length := (List.getElem?_eq_some_iff.mp hn).1
      have e : n = ρ.length := by simp at hl; omega
      subst e
      rw [List.getElem?_append_right (Nat.le_refl _), Nat.sub_self] at hn
      rw [R.len, List.getElem?_append_right (Nat.le_refl _), Nat.sub_self] at ho
      have e1 : p = a := by simpa using hn
      have e2 : o = o' := by simpa using ho
      subst e1; subst e2
      exact r
theorem lay_step {u : HO} (hp : H p = none) : Step ρ H (ρ ++ [p]) (upd H p u) := ⟨List.prefix_append _ _, Keep.new hp⟩
theorem lay_at (R : Rep K mg ρ h H) : (ρ ++ [p])[h.length]? = some p := by
  rw [← R.len, List.getElem?_append_right (Nat.le_refl _), Nat.sub_self]; rfl
/-- a new list -/
theorem Rep.layL {ds : List D} {vs : List V} (R : Rep K mg ρ h H) (hp : H p = none) (r : RDs K ρ H ds vs) : Rep K mg (ρ ++ [p]) (h ++ [.lst ds]) (upd H p (.lst vs)) :=
  R.lay hp (Keep.new hp) upd_same (fun b hb => upd_ne fun e => R.fresh hp (e ▸ hb)) ⟨vs, upd_same, r.mono (lay_step hp)⟩
/-- an object is written -/
theorem Rep.put {u : HO} {o' : O} (R : Rep K mg ρ h H) (hn : ρ[n]? = some a) (r : Step ρ H ρ (upd H a u) → RO K mg ρ (upd H a u) a o') : Rep K mg ρ (h.set n o') (upd H a u) ∧ Step ρ H ρ (upd H a u) := by
  obtain ⟨o, ho, q⟩ := R.at hn
  obtain ⟨v, e1, nf⟩ := q.there
  have s : Step ρ H ρ (upd H a u) := ⟨List.prefix_refl _, Keep.write e1 nf⟩
  refine ⟨⟨by simp [R.len], R.nd, fun m b o2 hm ho2 => ?_⟩, s⟩
  by_cases c : m = n
  · subst c
    have e : b = a := by rw [hn] at hm; exact (Option.some.inj hm).symm
    subst e
    have hl : m < h.length := (List.getElem?_eq_some_iff.mp ho).1
    rw [List.getElem?_set_self hl] at ho2
    cases ho2
    exact r s
  · rw [List.getElem?_set_ne (Ne.symm c)] at ho2
    have hb : b ≠ a := fun e => c (nodup_ix' R.nd hm (e ▸ hn))
    exact (R.obj m b o2 hm ho2).mono s (upd_ne hb)
end
end L3

namespace L3
open PySem L2

inductive Res (α : Type) where
  | ok (a : α) (h : Hh)
  | exc (c : Str) (fs : List (Str × D)) (h : Hh)
  | bad
def Res.bind {α β : Type} (r : Res α) (f : α → Hh → Res β) : Res β := match r with
  | .ok a h => f a h
  | .exc c fs h => .exc c fs h
  | .bad => .bad
@[simp] theorem bind_ok {α β : Type} (a : α) (h : Hh) (f : α → Hh → Res β) : (Res.ok a h).bind f = f a h := rfl
@[simp] theorem bind_exc {α β : Type} (c : Str) (fs : List (Str × D)) (h : Hh) (f : α → Hh → Res β) : (Res.exc c fs h : Res α).bind f = .exc c fs h := rfl
@[simp] theorem bind_bad {α β : Type} (f : α → Hh → Res β) : (Res.bad : Res α).bind f = .bad := rfl

abbrev Fn := List D → Hh → Res D
abbrev Sl := List (Option D)
abbrev Gd := List (Nat × List D)

mutual
/-- the data that a value is, lists of the heap within -/
def datF : Nat → Hh → D → Option PyData
  | 0, _, _ => none
  | _ + 1, _, .non => some .none
  | _ + 1, _, .bl b => some (.bool b)
  | _ + 1, _, .int i => some (.int i)
  | _ + 1, _, .str x => some (.str x)
  | k + 1, h, .tup xs => (datsF k h xs).map .tuple
  | _ + 1, _, .rol _ => none
  | k + 1, h, .ref n => match h[n]? with
    | some (.lst xs) => (datsF k h xs).map .list
    | _ => none
def datsF : Nat → Hh → List D → Option (List PyData)
  | _, _, [] => some []
  | 0, _, _ :: _ => none
  | k + 1, h, d :: ds => match datF (k + 1) h d, datsF (k + 1) h ds with
    | some a, some b => some (a :: b)
    | _, _ => none
end
/-- the kind of a value, as isinstance asks it -/
inductive Kd where
  | non | bool | int | str | tuple | list | dict
  deriving DecidableEq
def Kd.name : Kd → String
  | .non => "NoneType" | .bool => "bool" | .int => "int" | .str => "str" | .tuple => "tuple" | .list => "list" | .dict => "dict"
def tyD : D → Hh → Option Kd
  | .non, _ => some .non
  | .bl _, _ => some .bool
  | .int _, _ => some .int
  | .str _, _ => some .str
  | .tup _, _ => some .tuple
  | .rol _, _ => some .list
  | .ref n, h => match h[n]? with
    | some (.lst _) => some .list
    | some (.dK _) => some .dict
    | _ => none
/-- the built-in classes asked for -/
inductive Ty where
  | int | bool | str | tuple | list | dict
  deriving DecidableEq
def Ty.name : Ty → String
  | .int => "int" | .bool => "bool" | .str => "str" | .tuple => "tuple" | .list => "list" | .dict => "dict"
def isTy : Kd → Ty → Bool
  | .int, .int => true
  | .bool, .int => true
  | .bool, .bool => true
  | .str, .str => true
  | .tuple, .tuple => true
  | .list, .list => true
  | .dict, .dict => true
  | _, _ => false

def truD : D → Hh → Option Bool
  | .non, _ => some false
  | .bl b, _ => some b
  | .int i, _ => some (i != 0)
  | .str y, _ => if y.length ≤ sizeLine then some ((y.length : Int) != 0) else none
  | .tup xs, _ => some (!xs.isEmpty)
  | .rol xs, _ => some (!xs.isEmpty)
  | .ref n, h => match h[n]? with
    | some (.lst xs) => some (!xs.isEmpty)
    | some (.dK kvs) => some (!kvs.isEmpty)
    | _ => none

def ofO (o : Option D) (h : Hh) : Res D := match o with
  | some d => .ok d h
  | none => .bad
def subD : D → D → Hh → Res D
  | .tup xs, .int i, h => ofO (atI xs i) h
  | .rol xs, .int i, h => ofO (atI xs i) h
  | .ref n, .int i, h => match h[n]? with
    | some (.lst xs) => ofO (atI xs i) h
    | _ => .bad
  | .str z, .int i, h => if z.length ≤ sizeLine then ofO ((atI z.cps.toList i).map fun c => .str ⟨#[c]⟩) h else .bad
  | _, _, _ => .bad
def cutD (xs : List D) (lo hi : Option Int) : List D := (xs.drop (HT.sIx xs.length 0 lo)).take (HT.sIx xs.length xs.length hi - HT.sIx xs.length 0 lo)
def slcD : D → Option Int → Option Int → Hh → Res D
  | .rol xs, lo, hi, h => .ok (.ref h.length) (h ++ [.lst (cutD xs lo hi)])
  | .ref n, lo, hi, h => match h[n]? with
    | some (.lst xs) => .ok (.ref h.length) (h ++ [.lst (cutD xs lo hi)])
    | _ => .bad
  | _, _, _, _ => .bad

def binD : Operator → D → D → Hh → Res D
  | .Add, .int i, .int j, h => .ok (.int (i + j)) h
  | .Add, .str a, .str b, h => if a.length + b.length ≤ sizeLine then .ok (.str (a ++ b)) h else .bad
  | .Add, .ref m, .ref n, h => match h[m]?, h[n]? with
    | some (.lst xs), some (.lst ys) => if xs.length + ys.length ≤ sizeLine then .ok (.ref h.length) (h ++ [.lst (xs ++ ys)]) else .bad
    | _, _ => .bad
  | .Sub, .int i, .int j, h => .ok (.int (i - j)) h
  | .Mult, .int i, .int j, h => if i.natAbs.log2 + j.natAbs.log2 < 1000000 then .ok (.int (i * j)) h else .bad
  | .FloorDiv, .int i, .int j, h => if j ≠ 0 ∧ j.natAbs.log2 < 9000 then .ok (.int (i.fdiv j)) h else .bad
  | .Mod, .int i, .int j, h => if j ≠ 0 then .ok (.int (i.fmod j)) h else .bad
  | .Pow, .int i, .int j, h => if 0 ≤ j ∧ j ≤ 1000000 ∧ i.natAbs < 2 ^ 64 then .ok (.int (i ^ j.toNat)) h else .bad
  | _, _, _, _ => .bad
/-- == -/
def eqData (x y : D) (h : Hh) : Option Bool := match datF 9 h x, datF 9 h y with
  | some a, some b => if SeqAt.shaped a = true ∧ SeqAt.shaped b = true then some (PyData.eqv a b) else none
  | _, _ => none
def eqD : D → D → Hh → Option Bool
  | .int i, .int j, _ => some (decide (i = j))
  | .str i, .str j, _ => some (decide (i = j))
  | .bl i, .bl j, _ => some (decide (i = j))
  | x, y, h => eqData x y h
def ofB (o : Option Bool) (h : Hh) : Res D := match o with
  | some b => .ok (.bl b) h
  | none => .bad
def cmpD : CmpOp → D → D → Hh → Res D
  | .Eq, x, y, h => ofB (eqD x y h) h
  | .NotEq, x, y, h => ofB ((eqD x y h).map not) h
  | .Is, .non, .non, h => .ok (.bl true) h
  | .Is, _, .non, h => .ok (.bl false) h
  | .IsNot, .non, .non, h => .ok (.bl false) h
  | .IsNot, _, .non, h => .ok (.bl true) h
  | .Lt, .int i, .int j, h => .ok (.bl (decide (i < j))) h
  | .LtE, .int i, .int j, h => .ok (.bl (decide (i ≤ j))) h
  | .Gt, .int i, .int j, h => .ok (.bl (decide (j < i))) h
  | .GtE, .int i, .int j, h => .ok (.bl (decide (j ≤ i))) h
  | _, _, _, _ => .bad

/-- built-ins called by name -/
inductive Bi where
  | abs | len | list | min | max
  deriving DecidableEq
def Bi.name : Bi → Str
  | .abs => "abs" | .len => "len" | .list => "list" | .min => "min" | .max => "max"
def lenD : D → Hh → Option Nat
  | .tup xs, _ => some xs.length
  | .rol xs, _ => some xs.length
  | .str z, _ => if z.length ≤ sizeLine then some z.length else none
  | .ref n, h => match h[n]? with
    | some (.lst xs) => some xs.length
    | _ => none
  | _, _ => none
def itemsD : D → Hh → Option (List D)
  | .tup xs, _ => some xs
  | .rol xs, _ => some xs
  | .ref n, h => match h[n]? with
    | some (.lst xs) => some xs
    | _ => none
  | _, _ => none
def biD : Bi → List D → Hh → Res D
  | .abs, [.int i], h => .ok (.int (if i < 0 then -i else i)) h
  | .len, [x], h => match lenD x h with
    | some n => .ok (.int n) h
    | none => .bad
  | .list, [x], h => match itemsD x h with
    | some xs => .ok (.ref h.length) (h ++ [.lst xs])
    | none => .bad
  | .min, [.int i, .int j], h => .ok (.int (if j < i then j else i)) h
  | .max, [.int i, .int j], h => .ok (.int (if j > i then j else i)) h
  | _, _, _ => .bad
/-- methods of built-in things -/
inductive Bm where
  | append | pop
  deriving DecidableEq
def Bm.name : Bm → Str
  | .append => "append" | .pop => "pop"
def bmD : Bm → D → List D → Hh → Res D
  | .append, .ref n, [y], h => match h[n]? with
    | some (.lst xs) => if xs.length < sizeLine then .ok .non (h.set n (.lst (xs ++ [y]))) else .bad
    | _ => .bad
  | .pop, .ref n, [], h => match h[n]? with
    | some (.lst xs) => match xs[xs.length - 1]? with
      | some y => .ok y (h.set n (.lst xs.dropLast))
      | none => .bad
    | _ => .bad
  | _, _, _, _ => .bad

/-- its receiver is of the right kind -/
def bmOk : Bm → D → Hh → Bool
  | _, .ref n, h => match h[n]? with
    | some (.lst _) => true
    | _ => false
  | _, _, _ => false

inductive Tg where
  | n (i : Nat) | tup (ts : Tg) | nil | cons (a b : Tg)
mutual
def asgT : Tg → D → Sl → Option Sl
  | .n i, d, σ => some (σ.set i (some d))
  | .tup ts, .tup ds, σ => asgTs ts ds σ
  | _, _, _ => none
def asgTs : Tg → List D → Sl → Option Sl
  | .nil, [], σ => some σ
  | .cons a b, d :: ds, σ => (asgT a d σ).bind fun σ' => asgTs b ds σ'
  | _, _, _ => none
end
def wipeD (σ : Sl) : List Nat → Sl
  | [] => σ
  | i :: r => (wipeD σ r).set i none

inductive E where
  | var (i : Nat) | cst (d : D) | glob (x : Str) (d : D)
  | bin (op : Operator) (a b : E) | neg (a : E) | not (a : E) | and (a b : E) | or (a b : E)
  | cmp (op : CmpOp) (a b : E) | chain (op op' : CmpOp) (a b c : E) | ife (c a b : E)
  | tup (es : E) | lst (es : E) | sub (a i : E) | slc (a lo hi : E)
  | call (f : Fn) (x : Str) (es : E) | bi (b : Bi) (es : E) | isi (a : E) (t : Ty) | bm (m : Bm) (o es : E)
  | comp (own : List (Str × Nat)) (g : Tg) (it test elt : E)
  | rng (es : E)
  | nil | cons (e es : E)

def E.isNil : E → Bool
  | .nil => true
  | _ => false
def gdOk (g : Gd) (h : Hh) : Prop := ∀ p ∈ g, ∃ xs, h[p.1]? = some (.lst xs) ∧ xs = p.2
open Classical in
/-- the turns of a comprehension: the list that is made stands at n -/
noncomputable def turns (f : D → Hh → Res (Option D)) (g : Gd) (n : Nat) : List D → Hh → Res Unit
  | [], h => if gdOk g h then .ok () h else .bad
  | d :: ds, h => if gdOk g h then (f d h).bind fun o h1 => match o with
      | none => turns f g n ds h1
      | some y => match h1[n]? with
        | some (.lst acc) => if acc.length < sizeLine then turns f g n ds (h1.set n (.lst (acc ++ [y]))) else .bad
        | _ => .bad
    else .bad
/-- what is raised within a comprehension isn't served -/
def noexc {α : Type} : Res α → Res α
  | .exc _ _ _ => .bad
  | r => r
def rngD : List D → Option (List D)
  | [.int j] => if -(2 ^ 62) ≤ j ∧ j < 2 ^ 62 then some ((List.range j.toNat).map fun (i : Nat) => .int i) else none
  | [.int i, .int j] => if -(2 ^ 62) ≤ i ∧ i < 2 ^ 62 ∧ -(2 ^ 62) ≤ j ∧ j < 2 ^ 62 then some ((List.range (j - i).toNat).map fun (k : Nat) => .int (i + k)) else none
  | _ => none
/-- what is walked: its items, and the lists that must stay -/
def seqD : D → Hh → Res (List D × Gd)
  | .tup xs, h => .ok (xs, []) h
  | .rol xs, h => .ok (xs, []) h
  | .ref n, h => match h[n]? with
    | some (.lst xs) => .ok (xs, [(n, xs)]) h
    | _ => .bad
  | _, _ => .bad
def oInt : D → Option (Option Int)
  | .int i => some (some i)
  | _ => none
/-- what an expression is worth: as a value, a test, arguments, a part of a slice, a thing walked -/
structure Den where
  v : Sl → Hh → Res D
  t : Sl → Hh → Res Bool
  a : Sl → Hh → Res (List D)
  o : Sl → Hh → Res (Option Int)
  i : Sl → Hh → Res (List D × Gd)
def truR (x : D) (h : Hh) : Res Bool := match truD x h with
  | some k => .ok k h
  | none => .bad
def intR (x : D) (h : Hh) : Res (Option Int) := match x with
  | .int i => .ok (some i) h
  | _ => .bad
def Den.of (v : Sl → Hh → Res D) : Den :=
  ⟨v, fun σ h => (v σ h).bind truR, fun _ _ => .bad, fun σ h => (v σ h).bind intR, fun σ h => (v σ h).bind seqD⟩
def negR (x : D) (h : Hh) : Res D := match x with
  | .int i => .ok (.int (-i)) h
  | _ => .bad
def boolR {α : Type} (x : D) (f g : Res α) : Res α := match x with
  | .bl true => f
  | .bl false => g
  | _ => .bad
def isiR (t : Ty) (x : D) (h : Hh) : Res D := match tyD x h with
  | some s => .ok (.bl (isTy s t)) h
  | none => .bad
/-- one turn of a comprehension -/
def turnC (g : Tg) (test : Sl → Hh → Res Bool) (elt : Sl → Hh → Res D) (σ : Sl) (d : D) (h : Hh) : Res (Option D) := match asgT g d σ with
  | none => .bad
  | some σ2 => (test σ2 h).bind fun k h3 => if k = true then (elt σ2 h3).bind fun y h4 => .ok (some y) h4 else .ok none h3
noncomputable def compR (f : D → Hh → Res (Option D)) (s : List D × Gd) (h : Hh) : Res D :=
  (noexc (turns f s.2 h.length s.1 (h ++ [.lst []]))).bind fun _ h2 => .ok (.ref h.length) h2
def rngR (ds : List D) (h : Hh) : Res (List D × Gd) := match rngD ds with
  | some xs => .ok (xs, []) h
  | none => .bad
def tupR (ds : List D) (h : Hh) : Res D := if ds.length ≤ 1000 then .ok (.tup ds) h else .bad
def lstR (ds : List D) (h : Hh) : Res D := if ds.length ≤ 1000 then .ok (.ref h.length) (h ++ [.lst ds]) else .bad
def varR (σ : Sl) (i : Nat) (h : Hh) : Res D := match σ[i]? with
  | some (some d) => .ok d h
  | _ => .bad
noncomputable def den : E → Den
  | .var i => .of fun σ h => varR σ i h
  | .cst d => .of fun _ h => .ok d h
  | .glob _ d => .of fun _ h => .ok d h
  | .bin op a b => .of fun σ h => ((den a).v σ h).bind fun x h1 => ((den b).v σ h1).bind fun y h2 => binD op x y h2
  | .neg a => .of fun σ h => ((den a).v σ h).bind negR
  | .not a => { Den.of (fun σ h => (((den a).v σ h).bind truR).bind fun b h1 => .ok (.bl (!b)) h1) with t := fun σ h => ((den a).t σ h).bind fun b h1 => .ok (!b) h1 }
  | .and a b => { Den.of (fun σ h => ((den a).v σ h).bind fun x h1 => boolR x ((den b).v σ h1) (.ok (.bl false) h1)) with
      t := fun σ h => ((den a).t σ h).bind fun k h1 => if k = true then (den b).t σ h1 else .ok false h1 }
  | .or a b => { Den.of (fun σ h => ((den a).v σ h).bind fun x h1 => boolR x (.ok (.bl true) h1) ((den b).v σ h1)) with
      t := fun σ h => ((den a).t σ h).bind fun k h1 => if k = true then .ok true h1 else (den b).t σ h1 }
  | .cmp op a b => .of fun σ h => ((den a).v σ h).bind fun x h1 => ((den b).v σ h1).bind fun y h2 => cmpD op x y h2
  | .chain op op' a b c => .of fun σ h => ((den a).v σ h).bind fun x h1 => ((den b).v σ h1).bind fun y h2 => (cmpD op x y h2).bind fun z h3 =>
      boolR z (((den c).v σ h3).bind fun w h4 => cmpD op' y w h4) (.ok (.bl false) h3)
  | .ife c a b => { Den.of (fun σ h => ((den c).t σ h).bind fun k h1 => if k = true then (den a).v σ h1 else (den b).v σ h1) with t := fun _ _ => .bad }
  | .tup es => .of fun σ h => ((den es).a σ h).bind tupR
  | .lst es => .of fun σ h => ((den es).a σ h).bind lstR
  | .sub a i => .of fun σ h => ((den a).v σ h).bind fun x h1 => ((den i).v σ h1).bind fun y h2 => subD x y h2
  | .slc a lo hi => .of fun σ h => ((den a).v σ h).bind fun x h1 => ((den lo).o σ h1).bind fun l h2 => ((den hi).o σ h2).bind fun u h3 => slcD x l u h3
  | .call f _ es => .of fun σ h => ((den es).a σ h).bind f
  | .bi b es => .of fun σ h => ((den es).a σ h).bind (biD b)
  | .isi a t => .of fun σ h => ((den a).v σ h).bind (isiR t)
  | .bm m o es => .of fun σ h => ((den o).v σ h).bind fun x h1 => if bmOk m x h1 = true then ((den es).a σ h1).bind fun ds h2 => bmD m x ds h2 else .bad
  | .comp own g it test elt => .of fun σ h => ((den it).i σ h).bind fun s h1 => compR (turnC g (den test).t (den elt).v (wipeD σ (own.map (·.2)))) s h1
  | .rng es => { Den.of (fun _ _ => .bad) with i := fun σ h => ((den es).a σ h).bind rngR }
  | .nil => ⟨fun _ _ => .bad, fun _ h => .ok true h, fun _ h => .ok [] h, fun _ h => .ok none h, fun _ _ => .bad⟩
  | .cons e es => { Den.of (fun _ _ => .bad) with a := fun σ h => ((den e).v σ h).bind fun d h1 => ((den es).a σ h1).bind fun ds h2 => .ok (d :: ds) h2 }

inductive S where
  | nil | cons (s r : S)
  | pass | expr (e : E) | asg (i : Nat) (e : E) | par (i j : Nat) (a b : E) | unp (g : Tg) (e : E) | sts (o i e : E)
  | ret (e : E) | retN | ife (c : E) (t u : S) | whl (c : E) (b : S) | fr (g : Tg) (it : E) (b : S)
  | brk | cnt | never
inductive Out where
  | next (σ : Sl) (h : Hh) | ret (d : D) (h : Hh) | brk (σ : Sl) (h : Hh) | cnt (σ : Sl) (h : Hh)
  | exc (c : Str) (fs : List (Str × D)) (σ : Sl) (h : Hh) | bad
/-- behind an expression -/
def Res.out {α : Type} (r : Res α) (σ : Sl) (f : α → Hh → Out) : Out := match r with
  | .ok a h => f a h
  | .exc c fs h => .exc c fs σ h
  | .bad => .bad
@[simp] theorem out_ok {α : Type} (a : α) (h : Hh) (σ : Sl) (f : α → Hh → Out) : (Res.ok a h).out σ f = f a h := rfl
@[simp] theorem out_exc {α : Type} (c : Str) (fs : List (Str × D)) (h : Hh) (σ : Sl) (f : α → Hh → Out) : (Res.exc c fs h : Res α).out σ f = .exc c fs σ h := rfl
@[simp] theorem out_bad {α : Type} (σ : Sl) (f : α → Hh → Out) : (Res.bad : Res α).out σ f = .bad := rfl
def Out.seq (o : Out) (f : Sl → Hh → Out) : Out := match o with
  | .next σ h => f σ h
  | o => o
@[simp] theorem seq_next (σ : Sl) (h : Hh) (f : Sl → Hh → Out) : (Out.next σ h).seq f = f σ h := rfl
@[simp] theorem seq_ret (d : D) (h : Hh) (f : Sl → Hh → Out) : (Out.ret d h).seq f = .ret d h := rfl
@[simp] theorem seq_brk (σ : Sl) (h : Hh) (f : Sl → Hh → Out) : (Out.brk σ h).seq f = .brk σ h := rfl
@[simp] theorem seq_cnt (σ : Sl) (h : Hh) (f : Sl → Hh → Out) : (Out.cnt σ h).seq f = .cnt σ h := rfl
@[simp] theorem seq_exc (c : Str) (fs : List (Str × D)) (σ : Sl) (h : Hh) (f : Sl → Hh → Out) : (Out.exc c fs σ h).seq f = .exc c fs σ h := rfl
@[simp] theorem seq_bad (f : Sl → Hh → Out) : Out.bad.seq f = .bad := rfl
/-- a turn's end: go on, or leave the loop -/
def Out.turn (o : Out) (f : Sl → Hh → Out) : Out := match o with
  | .next σ h => f σ h
  | .cnt σ h => f σ h
  | .brk σ h => .next σ h
  | o => o
@[simp] theorem turn_next (σ : Sl) (h : Hh) (f : Sl → Hh → Out) : (Out.next σ h).turn f = f σ h := rfl
@[simp] theorem turn_cnt (σ : Sl) (h : Hh) (f : Sl → Hh → Out) : (Out.cnt σ h).turn f = f σ h := rfl
@[simp] theorem turn_brk (σ : Sl) (h : Hh) (f : Sl → Hh → Out) : (Out.brk σ h).turn f = .next σ h := rfl
@[simp] theorem turn_ret (d : D) (h : Hh) (f : Sl → Hh → Out) : (Out.ret d h).turn f = .ret d h := rfl
@[simp] theorem turn_exc (c : Str) (fs : List (Str × D)) (σ : Sl) (h : Hh) (f : Sl → Hh → Out) : (Out.exc c fs σ h).turn f = .exc c fs σ h := rfl
@[simp] theorem turn_bad (f : Sl → Hh → Out) : Out.bad.turn f = .bad := rfl
/-- so many turns of a while at most -/
def iter (c : Sl → Hh → Res Bool) (b : Sl → Hh → Out) : Nat → Sl → Hh → Out
  | 0, _, _ => .bad
  | n + 1, σ, h => (c σ h).out σ fun k h1 => if k = true then (b σ h1).turn (iter c b n) else .next σ h1
open Classical in
noncomputable def whlR (c : Sl → Hh → Res Bool) (b : Sl → Hh → Out) (σ : Sl) (h : Hh) : Out :=
  if x : ∃ n, iter c b n σ h ≠ .bad then iter c b x.choose σ h else .bad
theorem iter_more {c : Sl → Hh → Res Bool} {b : Sl → Hh → Out} : ∀ {n : Nat} {σ : Sl} {h : Hh}, iter c b n σ h ≠ .bad → ∀ m, n ≤ m → iter c b m σ h = iter c b n σ h
  | 0, _, _, x, _, _ => absurd rfl x
  | n + 1, σ, h, x, m, hm => by
    obtain ⟨m, rfl⟩ : ∃ k, m = k + 1 := ⟨m - 1, by omega⟩
    unfold iter at x ⊢
    cases e : c σ h with
    | bad => rfl
    | exc _ _ _ => rfl
    | ok k h1 =>
      rw [e] at x
      simp only [out_ok] at x ⊢
      cases k with
      | false => rfl
      | true =>
        simp only [if_true] at x ⊢
        cases e2 : b σ h1 with
        | next σ2 h2 => rw [e2] at x; exact iter_more x m (by omega)
        | cnt σ2 h2 => rw [e2] at x; exact iter_more x m (by omega)
        | brk _ _ => rfl
        | ret _ _ => rfl
        | exc _ _ _ _ => rfl
        | bad => rfl
theorem whlR_of {c : Sl → Hh → Res Bool} {b : Sl → Hh → Out} {σ : Sl} {h : Hh} {o : Out} (n : Nat) (e : iter c b n σ h = o) (hb : o ≠ .bad) : whlR c b σ h = o := by
  have x : ∃ n, iter c b n σ h ≠ .bad := ⟨n, by rw [e]; exact hb⟩
  unfold whlR
  rw [dif_pos x]
  have y := x.choose_spec
  by_cases c : n ≤ x.choose
  · rw [iter_more (by rw [e]; exact hb) _ c]; exact e
  · rw [← iter_more y n (by omega)]; exact e
open Classical in
noncomputable def forR (g : Tg) (b : Sl → Hh → Out) (gd : Gd) : List D → Sl → Hh → Out
  | [], σ, h => if gdOk gd h then .next σ h else .bad
  | d :: ds, σ, h => if gdOk gd h then match asgT g d σ with
      | none => .bad
      | some σ2 => (b σ2 h).turn (forR g b gd ds)
    else .bad
/-- o[i] = v -/
def stsD : D → D → D → Hh → Res Unit
  | .ref n, .int k, v, h => match h[n]? with
    | some (.lst xs) => match ixN xs.length k with
      | some j => .ok () (h.set n (.lst (xs.set j v)))
      | none => .bad
    | _ => .bad
  | _, _, _, _ => .bad
def unpR (g : Tg) (d : D) (σ : Sl) (h : Hh) : Out := match asgT g d σ with
  | some σ2 => .next σ2 h
  | none => .bad
noncomputable def exec : S → Sl → Hh → Out
  | .nil, σ, h => .next σ h
  | .cons s r, σ, h => (exec s σ h).seq (exec r)
  | .pass, σ, h => .next σ h
  | .expr e, σ, h => ((den e).v σ h).out σ fun _ h1 => .next σ h1
  | .asg i e, σ, h => ((den e).v σ h).out σ fun d h1 => .next (σ.set i (some d)) h1
  | .par i j a b, σ, h => ((den a).v σ h).out σ fun x h1 => ((den b).v σ h1).out σ fun y h2 => .next ((σ.set i (some x)).set j (some y)) h2
  | .unp g e, σ, h => ((den e).v σ h).out σ fun d h1 => unpR g d σ h1
  | .sts o i e, σ, h => ((den e).v σ h).out σ fun v h1 => ((den o).v σ h1).out σ fun x h2 => ((den i).v σ h2).out σ fun y h3 => (stsD x y v h3).out σ fun _ h4 => .next σ h4
  | .ret e, σ, h => ((den e).v σ h).out σ fun d h1 => .ret d h1
  | .retN, _, h => .ret .non h
  | .ife c t u, σ, h => ((den c).t σ h).out σ fun k h1 => if k = true then exec t σ h1 else exec u σ h1
  | .whl c b, σ, h => whlR (den c).t (exec b) σ h
  | .fr g it b, σ, h => ((den it).i σ h).out σ fun s h1 => forR g (exec b) s.2 s.1 σ h1
  | .brk, σ, h => .brk σ h
  | .cnt, σ, h => .cnt σ h
  | .never, _, _ => .bad
/-- a def: so many parameters, so many names -/
def fnR (o : Out) : Res D := match o with
  | .next _ h => .ok .non h
  | .ret d h => .ok d h
  | .exc c fs _ h => .exc c fs h
  | _ => .bad
def startD (n : Nat) (ds : List D) : Sl := ds.map some ++ List.replicate (n - ds.length) none
noncomputable def fn (np n : Nat) (b : S) : Fn := fun ds h => if ds.length = np then fnR (exec b (startD n ds) h) else .bad
/-- defaults behind what is written -/
def dfl (f : Fn) (es : List D) : Fn := fun ds h => f (ds ++ es) h
end L3

namespace L3
open PySem L2

/-- an exception as it lies -/
def XR (K : PySem.W.Frag) (mg : Str → Option Value) (ρ : List Addr) (H : Hp) (c : Str) (fs : List (Str × D)) (cls : Value) (d : Option Addr) : Prop :=
  ∃ (C dd : Addr) (vfs : List (Str × V)), cls = .ref C ∧ mg c = some (.ref C) ∧ d = some dd ∧ H dd = some (.xd vfs) ∧ ∀ (f : Str) (x : D), fs.lookup f = some x → ∃ v, vfs.lookup f = some v ∧ RD K ρ H x v

/-- what is wanted behind a run -/
def Post {α β : Type} (K : PySem.W.Frag) (mg : Str → Option Value) (RA : List Addr → Hp → α → β → Prop) (ρ : List Addr) (H : Hp) (E : XK) (r : Res α) (Q : β → Hp → Prop) : Prop := match r with
  | .ok a h' => ∀ (ρ' : List Addr) (H' : Hp) (b : β), Step ρ H ρ' H' → Rep K mg ρ' h' H' → RA ρ' H' a b → Q b H'
  | .exc c fs h' => ∀ (ρ' : List Addr) (H' : Hp) (cls : Value) (d : Option Addr), Step ρ H ρ' H' → Rep K mg ρ' h' H' → XR K mg ρ' H' c fs cls d → E cls d H'
  | .bad => False
abbrev RV (K : PySem.W.Frag) : List Addr → Hp → D → V → Prop := fun ρ H d v => RD K ρ H d v
abbrev RL (K : PySem.W.Frag) : List Addr → Hp → List D → List V → Prop := fun ρ H d v => RDs K ρ H d v
abbrev RQ {α : Type} : List Addr → Hp → α → α → Prop := fun _ _ a b => a = b

section
variable {α β γ δ : Type} {K : PySem.W.Frag} {mg : Str → Option Value} {RA : List Addr → Hp → α → β → Prop} {RB : List Addr → Hp → γ → δ → Prop} {ρ ρ1 : List Addr} {H H1 : Hp} {E : XK} {r : Res α}
theorem Post.from {Q : β → Hp → Prop} (P : Post K mg RA ρ H E r Q) (s : Step ρ H ρ1 H1) : Post K mg RA ρ1 H1 E r Q := by
  cases r with
  | ok a h => exact fun ρ' H' b s' => P ρ' H' b (s.trans s')
  | exc c fs h => exact fun ρ' H' b d s' => P ρ' H' b d (s.trans s')
  | bad => exact P
theorem Post.imp {Q Q' : β → Hp → Prop} (P : Post K mg RA ρ H E r Q) (i : ∀ b H', Q b H' → Q' b H') : Post K mg RA ρ H E r Q' := by
  cases r with
  | ok a h => exact fun ρ' H' b s' rp ra => i b H' (P ρ' H' b s' rp ra)
  | exc c fs h => exact P
  | bad => exact P
theorem Post.bind {f : α → Hh → Res γ} {Q : δ → Hp → Prop} (P : Post K mg RB ρ H E (r.bind f) Q) :
    Post K mg RA ρ H E r fun b H1 => ∃ ρ1 a h1, Step ρ H ρ1 H1 ∧ Rep K mg ρ1 h1 H1 ∧ RA ρ1 H1 a b ∧ r = .ok a h1 ∧ Post K mg RB ρ1 H1 E (f a h1) Q := by
  cases r with
  | ok a h => exact fun ρ' H' b s rp ra => ⟨ρ', a, h, s, rp, ra, rfl, Post.from (r := f a h) P s⟩
  | exc c fs h => exact P
  | bad => exact P
/-- an end as it is -/
theorem Post.here {Q : β → Hp → Prop} {a : α} {h : Hh} {b : β} (P : Post K mg RA ρ H E (.ok a h) Q) (rp : Rep K mg ρ h H) (ra : RA ρ H a b) : Q b H := P ρ H b (Step.refl _ _) rp ra
theorem Post.to {Q : β → Hp → Prop} {a : α} {h : Hh} {b : β} (P : Post K mg RA ρ H E (.ok a h) Q) (s : Step ρ H ρ1 H1) (rp : Rep K mg ρ1 h H1) (ra : RA ρ1 H1 a b) : Q b H1 := P ρ1 H1 b s rp ra
end

/-- the slots -/
structure RS (K : PySem.W.Frag) (ρ : List Addr) (H : Hp) (σ3 : Sl) (σ : L2.St) : Prop where
  len : σ3.length = σ.length
  get : ∀ (i : Nat) (d : D), σ3[i]? = some (some d) → ∃ v, σ[i]? = some (some v) ∧ RD K ρ H d v
section
variable {K : PySem.W.Frag} {ρ ρ1 : List Addr} {H H1 : Hp} {σ3 : Sl} {σ : L2.St}
theorem RS.mono (r : RS K ρ H σ3 σ) (s : Step ρ H ρ1 H1) : RS K ρ1 H1 σ3 σ := ⟨r.len, fun i d e => let ⟨v, e1, q⟩ := r.get i d e; ⟨v, e1, q.mono s⟩⟩
theorem RS.set {d : D} {v : V} (r : RS K ρ H σ3 σ) (h : RD K ρ H d v) (i : Nat) : RS K ρ H (σ3.set i (some d)) (σ.set i (some v)) := by
  refine ⟨by simp [r.len], fun j e he => ?_⟩
  by_cases c : j = i
  · subst c
    by_cases hl : j < σ3.length
    · rw [List.getElem?_set_self hl] at he
      cases he
      exact ⟨v, by rw [List.getElem?_set_self (by rw [← r.len]; exact hl)], h⟩
    · rw [List.getElem?_eq_none (by simpa using hl)] at he
      cases he
  · rw [List.getElem?_set_ne (Ne.symm c)] at he ⊢
    exact r.get j e he
theorem RS.unset (r : RS K ρ H σ3 σ) (i : Nat) : RS K ρ H (σ3.set i none) (σ.set i none) := by
  refine ⟨by simp [r.len], fun j e he => ?_⟩
  by_cases c : j = i
  · subst c
    by_cases hl : j < σ3.length
    · rw [List.getElem?_set_self hl] at he
      cases he
    · rw [List.getElem?_eq_none (by simpa using hl)] at he
      cases he
  · rw [List.getElem?_set_ne (Ne.symm c)] at he ⊢
    exact r.get j e he
theorem RS.wipe (r : RS K ρ H σ3 σ) : ∀ (is : List Nat), RS K ρ H (wipeD σ3 is) (L2.wipe σ is) := by
  intro is
  induction is with
  | nil => exact r
  | cons i is ih => exact ih.unset i
theorem RS.start {ds : List D} {vs : List V} {N : List Str} (r : RDs K ρ H ds vs) : RS K ρ H (startD N.length ds) (L2.start N vs) := by
  unfold startD L2.start
  refine ⟨by simp [r.length], fun i d e => ?_⟩
  by_cases c : i < ds.length
  · rw [List.getElem?_append_left (by simpa using c), List.getElem?_map] at e
    cases q : ds[i]? with
    | none => rw [q] at e; cases e
    | some x =>
      rw [q] at e
      cases e
      obtain ⟨v, e1, rv⟩ := r.get q
      exact ⟨v, by rw [List.getElem?_append_left (by simpa [← r.length] using c), List.getElem?_map, e1]; rfl, rv⟩
  · rw [List.getElem?_append_right (by simpa using c), List.getElem?_replicate] at e
    split at e <;> cases e
end

section
variable (K : PySem.W.Frag) (mg : Str → Option Value)
def rE (m : Sl → Hh → Res D) (W : WX) : TE := fun σ H Q => ∃ ρ σ3 h, RS K ρ H σ3 σ ∧ Rep K mg ρ h H ∧ Post K mg (RV K) ρ H (fun c d H' => W c d σ H') (m σ3 h) Q
def rT (m : Sl → Hh → Res Bool) (W : WX) : TT := fun σ H Q => ∃ ρ σ3 h, RS K ρ H σ3 σ ∧ Rep K mg ρ h H ∧ Post K mg RQ ρ H (fun c d H' => W c d σ H') (m σ3 h) Q
def rA (m : Sl → Hh → Res (List D)) (W : WX) : TA := fun σ H Q => ∃ ρ σ3 h, RS K ρ H σ3 σ ∧ Rep K mg ρ h H ∧ Post K mg (RL K) ρ H (fun c d H' => W c d σ H') (m σ3 h) Q
def rO (m : Sl → Hh → Res (Option Int)) (W : WX) : TO := fun σ H Q => ∃ ρ σ3 h, RS K ρ H σ3 σ ∧ Rep K mg ρ h H ∧ Post K mg RQ ρ H (fun c d H' => W c d σ H') (m σ3 h) Q
end
theorem PEimp {X : Cx} {e : Expr} {t t' : TE} (h : PE X e t) (i : ∀ σ H Q, t' σ H Q → t σ H Q) : PE X e t' := ⟨fun pins s σ H Q I q => h.run pins s σ H Q I (i σ H Q q)⟩
theorem PTimp {X : Cx} {e : Expr} {t t' : TT} (h : PT X e t) (i : ∀ σ H Q, t' σ H Q → t σ H Q) : PT X e t' := ⟨fun pins s σ H Q I q => h.run pins s σ H Q I (i σ H Q q)⟩
theorem PWimp {X : Cx} {e : Expr} {t t' : TT} (h : PW X e t) (i : ∀ σ H Q, t' σ H Q → t σ H Q) : PW X e t' := ⟨fun wh pins s σ H Q I q => h.run wh pins s σ H Q I (i σ H Q q)⟩
theorem PAimp {X : Cx} {e : List Expr} {t t' : TA} (h : PA X e t) (i : ∀ σ H Q, t' σ H Q → t σ H Q) : PA X e t' := ⟨fun pos pins s σ H Q I q => h.run pos pins s σ H Q I (i σ H Q q)⟩
theorem PSimp {X : Cx} {e : Stmt} {t t' : TS} (h : PS X e t) (i : ∀ D σ H, t' D σ H → t D σ H) : PS X e t' := ⟨fun pins s σ H D I q => h.run pins s σ H D I (i D σ H q)⟩
theorem PSsimp {X : Cx} {e : List Stmt} {t t' : TS} (h : PSs X e t) (i : ∀ D σ H, t' D σ H → t D σ H) : PSs X e t' := ⟨fun pins s σ H D I q => h.run pins s σ H D I (i D σ H q)⟩

section
variable {X : Cx}
theorem op_fdivG : OpR X (binaryOp .FloorDiv) (rI (fun _ j => j ≠ 0 ∧ j.natAbs.log2 < 9000) fun i j => .int (i.fdiv j)) := opI fun i j _ _ _ _ _ hc q => PyProof.Rows.floordiv_int hc.1 q (.inl (PyProof.noPylong_of_log2 hc.2))
/-- what two values ask -/
def r2 (K : PySem.W.Frag) (mg : Str → Option Value) (g : D → D → Hh → Res D) : R2 := fun x y H Q => ∃ ρ a b h E, RD K ρ H a x ∧ RD K ρ H b y ∧ Rep K mg ρ h H ∧ Post K mg (RV K) ρ H E (g a b h) Q
theorem lst_at {K : PySem.W.Frag} {mg : Str → Option Value} {ρ : List Addr} {H : Hp} {h : Hh} {n : Nat} {v : V} {xs : List D} (rp : Rep K mg ρ h H) (rd : RD K ρ H (.ref n) v) (e : h[n]? = some (.lst xs)) :
    ∃ a vs, v = .ref a ∧ ρ[n]? = some a ∧ H a = some (.lst vs) ∧ RDs K ρ H xs vs := by
  cases rd with
  | ref hn =>
    obtain ⟨vs, e1, r⟩ := rp.obj _ _ _ hn e
    exact ⟨_, vs, rfl, hn, e1, r⟩
theorem op_bin (op : Operator) : OpR X (binaryOp op) (r2 X.K X.mg (binD op)) := by
  intro pins s σ H x y v u Q I rx ry hr
  obtain ⟨ρ, a, b, h, E, ra, rb, rp, P⟩ := hr
  unfold binD at P
  split at P
  · cases ra; cases rb
    exact op_add pins s σ H _ _ v u Q I rx ry ⟨_, _, rfl, rfl, P.here rp (.int _)⟩
  · split at P
    · cases ra; cases rb
      exact op_add_str pins s σ H _ _ v u Q I rx ry ⟨_, _, rfl, rfl, by assumption, P.here rp (.str _)⟩
    · exact P.elim
  · split at P
    · rename_i m n h1 xs ys e1 e2
      split at P
      · rename_i hl
        obtain ⟨l1, v1, rfl, n1, g1, q1⟩ := lst_at rp ra e1
        obtain ⟨l2, v2, rfl, n2, g2, q2⟩ := lst_at rp rb e2
        refine op_cat pins s σ H _ _ v u Q I rx ry ⟨l1, l2, v1, v2, rfl, rfl, g1, g2, by rw [← q1.length, ← q2.length]; exact hl, fun p hp => ?_⟩
        exact P.to (lay_step hp) (rp.layL hp (q1.append q2)) (.ref (lay_at rp))
      · exact P.elim
    · exact P.elim
  · cases ra; cases rb
    exact op_sub pins s σ H _ _ v u Q I rx ry ⟨_, _, rfl, rfl, P.here rp (.int _)⟩
  · split at P
    · cases ra; cases rb
      exact op_mulW pins s σ H _ _ v u Q I rx ry ⟨_, _, rfl, rfl, by assumption, P.here rp (.int _)⟩
    · exact P.elim
  · split at P
    · cases ra; cases rb
      exact op_fdivG pins s σ H _ _ v u Q I rx ry ⟨_, _, rfl, rfl, by assumption, P.here rp (.int _)⟩
    · exact P.elim
  · split at P
    · cases ra; cases rb
      exact op_modN pins s σ H _ _ v u Q I rx ry ⟨_, _, rfl, rfl, by assumption, P.here rp (.int _)⟩
    · exact P.elim
  · split at P
    · cases ra; cases rb
      exact op_pow pins s σ H _ _ v u Q I rx ry ⟨_, _, rfl, rfl, by assumption, P.here rp (.int _)⟩
    · exact P.elim
  · exact P.elim

mutual
theorem datF_dp {K : PySem.W.Frag} {mg : Str → Option Value} {ρ : List Addr} {H : Hp} {h : Hh} (rp : Rep K mg ρ h H) : ∀ (k : Nat) (x : D) (v : V) (d : PyData), RD K ρ H x v → datF k h x = some d → Dp K H v d
  | 0, _, _, _, _, e => by unfold datF at e; cases e
  | k + 1, .non, _, _, r, e => by unfold datF at e; cases e; cases r; exact .non
  | k + 1, .bl b, _, _, r, e => by unfold datF at e; cases e; cases r; exact .bl b
  | k + 1, .int b, _, _, r, e => by unfold datF at e; cases e; cases r; exact .int b
  | k + 1, .str b, _, _, r, e => by unfold datF at e; cases e; cases r; exact .str b
  | k + 1, .tup xs, _, _, r, e => by
    unfold datF at e
    cases q : datsF k h xs with
    | none => rw [q] at e; cases e
    | some ds =>
      rw [q] at e
      cases e
      cases r with
      | tup hq rs => exact .tup hq (datsF_dp rp k xs _ ds rs q)
  | k + 1, .rol _, _, _, _, e => by unfold datF at e; cases e
  | k + 1, .ref n, _, _, r, e => by
    unfold datF at e
    split at e
    · rename_i xs hx
      cases q : datsF k h xs with
      | none => rw [q] at e; cases e
      | some ds =>
        rw [q] at e
        cases e
        obtain ⟨a, vs, rfl, hn, g, rs⟩ := lst_at rp r hx
        exact .lst (SqL.of g) (datsF_dp rp k xs _ ds rs q)
    · cases e
termination_by k => (k, 0)
theorem datsF_dp {K : PySem.W.Frag} {mg : Str → Option Value} {ρ : List Addr} {H : Hp} {h : Hh} (rp : Rep K mg ρ h H) : ∀ (k : Nat) (xs : List D) (vs : List V) (ds : List PyData), RDs K ρ H xs vs → datsF k h xs = some ds → DpAll K H vs ds
  | k, [], _, _, r, e => by unfold datsF at e; cases e; cases r; exact .nil
  | 0, _ :: _, _, _, _, e => by unfold datsF at e; cases e
  | k + 1, x :: xs, _, _, r, e => by
    unfold datsF at e
    split at e
    · rename_i a b ea eb
      cases e
      cases r with
      | cons r1 r2 => exact .cons (datF_dp rp (k + 1) x _ a r1 ea) (datsF_dp rp (k + 1) xs _ b r2 eb)
    · cases e
termination_by k xs => (k, xs.length + 1)
end
theorem dec_int_eq {i j : Int} : decide (V.int i = V.int j) = decide (i = j) := by
  by_cases e : i = j
  · subst e; simp
  · rw [decide_eq_false e, decide_eq_false (fun q => e (V.int.inj q))]
theorem dec_str_eq {i j : Str} : decide (V.str i = V.str j) = decide (i = j) := by
  by_cases e : i = j
  · subst e; simp
  · rw [decide_eq_false e, decide_eq_false (fun q => e (V.str.inj q))]
theorem dec_bl_eq {i j : Bool} : decide (V.bl i = V.bl j) = decide (i = j) := by
  by_cases e : i = j
  · subst e; simp
  · rw [decide_eq_false e, decide_eq_false (fun q => e (V.bl.inj q))]
theorem op_cmp (hu : X.A.units + 64 < cLine) (op : CmpOp) : OpR X (compareOp op) (r2 X.K X.mg (cmpD op)) := by
  intro pins s σ H x y v u Q I rx ry hr
  obtain ⟨ρ, a, b, h, E, ra, rb, rp, P⟩ := hr
  unfold cmpD at P
  split at P
  · unfold eqD at P
    split at P
    · cases ra; cases rb
      exact op_eq pins s σ H _ _ v u Q I rx ry ⟨rfl, by rw [dec_int_eq]; exact P.here rp (.bl _)⟩
    · cases ra; cases rb
      exact op_eq pins s σ H _ _ v u Q I rx ry ⟨rfl, by rw [dec_str_eq]; exact P.here rp (.bl _)⟩
    · cases ra; cases rb
      exact op_eq pins s σ H _ _ v u Q I rx ry ⟨rfl, by rw [dec_bl_eq]; exact P.here rp (.bl _)⟩
    · unfold eqData at P
      split at P
      · rename_i da db ea eb
        split at P
        · rename_i hs
          exact op_eqD hu pins s σ H _ _ v u Q I rx ry ⟨da, db, datF_dp rp 9 _ _ _ ra ea, datF_dp rp 9 _ _ _ rb eb, hs.1, hs.2, P.here rp (.bl _)⟩
        · exact P.elim
      · exact P.elim
  · unfold eqD at P
    split at P
    · cases ra; cases rb
      exact op_ne pins s σ H _ _ v u Q I rx ry ⟨rfl, by rw [dec_int_eq]; exact P.here rp (.bl _)⟩
    · cases ra; cases rb
      exact op_ne pins s σ H _ _ v u Q I rx ry ⟨rfl, by rw [dec_str_eq]; exact P.here rp (.bl _)⟩
    · cases ra; cases rb
      exact op_ne pins s σ H _ _ v u Q I rx ry ⟨rfl, by rw [dec_bl_eq]; exact P.here rp (.bl _)⟩
    · unfold eqData at P
      split at P
      · rename_i da db ea eb
        split at P
        · rename_i hs
          exact op_neD hu pins s σ H _ _ v u Q I rx ry ⟨da, db, datF_dp rp 9 _ _ _ ra ea, datF_dp rp 9 _ _ _ rb eb, hs.1, hs.2, P.here rp (.bl _)⟩
        · exact P.elim
      · exact P.elim
  · cases ra; cases rb
    exact op_isN pins s σ H _ _ v u Q I rx ry ⟨rfl, P.here rp (.bl _)⟩
  · rename_i hx
    cases rb
    have e : decide (x = V.non) = false := by
      apply decide_eq_false
      intro z
      subst z
      cases ra
      exact hx rfl
    exact op_isN pins s σ H _ _ v u Q I rx ry ⟨rfl, by rw [e]; exact P.here rp (.bl _)⟩
  · cases ra; cases rb
    exact op_notN pins s σ H _ _ v u Q I rx ry ⟨rfl, P.here rp (.bl _)⟩
  · rename_i hx
    cases rb
    have e : decide (x = V.non) = false := by
      apply decide_eq_false
      intro z
      subst z
      cases ra
      exact hx rfl
    exact op_notN pins s σ H _ _ v u Q I rx ry ⟨rfl, by rw [e]; exact P.here rp (.bl _)⟩
  · cases ra; cases rb
    exact op_lt pins s σ H _ _ v u Q I rx ry ⟨_, _, rfl, rfl, P.here rp (.bl _)⟩
  · cases ra; cases rb
    exact op_le pins s σ H _ _ v u Q I rx ry ⟨_, _, rfl, rfl, P.here rp (.bl _)⟩
  · cases ra; cases rb
    exact op_gt pins s σ H _ _ v u Q I rx ry ⟨_, _, rfl, rfl, P.here rp (.bl _)⟩
  · cases ra; cases rb
    exact op_ge pins s σ H _ _ v u Q I rx ry ⟨_, _, rfl, rfl, P.here rp (.bl _)⟩
  · exact P.elim

theorem ixN_of_rds {K : PySem.W.Frag} {ρ : List Addr} {H : Hp} {xs : List D} {vs : List V} {i : Int} {d : D} (r : RDs K ρ H xs vs) (e : atI xs i = some d) : ∃ v, atI vs i = some v ∧ RD K ρ H d v := by
  unfold atI at e ⊢
  rw [← r.length]
  cases q : ixN xs.length i with
  | none => rw [q] at e; cases e
  | some j =>
    rw [q] at e
    obtain ⟨v, e1, rv⟩ := r.get (show xs[j]? = some d from e)
    exact ⟨v, e1, rv⟩
theorem ix_any : IxR X (r2 X.K X.mg subD) := by
  intro value slice pins s σ H x y v u Q I rx ry hr hs
  obtain ⟨ρ, a, b, h, E, ra, rb, rp, P⟩ := hr
  unfold subD ofO at P
  split at P
  · split at P
    · rename_i e
      cases rb
      cases ra with
      | tup hq rs =>
        obtain ⟨w, ew, rw'⟩ := ixN_of_rds rs e
        exact ix_tup value slice pins s σ H _ _ v u Q I rx ry ⟨_, _, _, w, rfl, rfl, hq, ew, P.here rp rw'⟩ hs
    · exact P.elim
  · split at P
    · rename_i e
      cases rb
      cases ra with
      | rol hq rs =>
        obtain ⟨w, ew, rw'⟩ := ixN_of_rds rs e
        exact ix_list value slice pins s σ H _ _ v u Q I rx ry ⟨_, _, _, w, rfl, rfl, hq.sq, ew, P.here rp rw'⟩ hs
    · exact P.elim
  · split at P
    · rename_i hx
      split at P
      · rename_i e
        obtain ⟨l, vs, rfl, hn, g, rs⟩ := lst_at rp ra hx
        cases rb
        obtain ⟨w, ew, rw'⟩ := ixN_of_rds rs e
        exact ix_list value slice pins s σ H _ _ v u Q I rx ry ⟨_, _, _, w, rfl, rfl, SqL.of g, ew, P.here rp rw'⟩ hs
      · exact P.elim
    · exact P.elim
  · split at P
    · rename_i hl
      split at P
      · rename_i d e
        cases ra; cases rb
        rw [Option.map_eq_some_iff] at e
        obtain ⟨c, ec, rfl⟩ := e
        exact ix_str value slice pins s σ H _ _ v u Q I rx ry ⟨_, _, c, rfl, rfl, hl, ec, P.here rp (.str _)⟩ hs
      · exact P.elim
    · exact P.elim
  · exact P.elim
def rSlc (K : PySem.W.Frag) (mg : Str → Option Value) : V → Option Int → Option Int → Hp → VK → Prop := fun x lo hi H Q => ∃ ρ a h E, RD K ρ H a x ∧ Rep K mg ρ h H ∧ Post K mg (RV K) ρ H E (slcD a lo hi h) Q
theorem cut_rds {K : PySem.W.Frag} {ρ : List Addr} {H : Hp} {xs : List D} {vs : List V} {lo hi : Option Int} (r : RDs K ρ H xs vs) : RDs K ρ H (cutD xs lo hi) (cutV vs lo hi) := by
  unfold cutD cutV
  rw [← r.length]
  exact (r.drop _).take _
theorem sl_any : SlR X (rSlc X.K X.mg) := by
  intro pins s σ H x v vl vu lo hi sl Q I rx hs pl pu hr
  obtain ⟨ρ, a, h, E, ra, rp, P⟩ := hr
  unfold slcD at P
  split at P
  · cases ra with
    | rol hq rs => exact sl_list pins s σ H _ v vl vu lo hi sl Q I rx hs pl pu ⟨_, _, rfl, hq.sq, fun p hp => P.to (lay_step hp) (rp.layL hp (cut_rds rs)) (.ref (lay_at rp))⟩
  · split at P
    · rename_i hx
      obtain ⟨l, vs, rfl, hn, g, rs⟩ := lst_at rp ra hx
      exact sl_list pins s σ H _ v vl vu lo hi sl Q I rx hs pl pu ⟨_, _, rfl, SqL.of g, fun p hp => P.to (lay_step hp) (rp.layL hp (cut_rds rs)) (.ref (lay_at rp))⟩
    · exact P.elim
  · exact P.elim

def rBi (K : PySem.W.Frag) (mg : Str → Option Value) (g : List D → Hh → Res D) : List V → Hp → VK → Prop := fun vs H Q => ∃ ρ ds h E, RDs K ρ H ds vs ∧ Rep K mg ρ h H ∧ Post K mg (RV K) ρ H E (g ds h) Q
theorem bi_abs : CallR X (.builtin "abs") (rBi X.K X.mg (biD .abs)) := by
  intro pins s σ H xs us Q I r hr
  obtain ⟨ρ, ds, h, E, rs, rp, P⟩ := hr
  unfold biD at P
  split at P <;> first | (exfalso; exact P.elim) | skip
  all_goals try (exfalso; simp at *; done)
  cases rs with
  | cons r1 r2 =>
    cases r2; cases r1
    exact call_abs pins s σ H _ us Q I r ⟨_, rfl, P.here rp (.int _)⟩
theorem itemsD_sq {K : PySem.W.Frag} {mg : Str → Option Value} {ρ : List Addr} {H : Hp} {h : Hh} {x : D} {v : V} {xs : List D} (rp : Rep K mg ρ h H) (r : RD K ρ H x v) (e : itemsD x h = some xs) :
    ∃ a vs, v = .ref a ∧ (SqL K H a vs ∨ SqT K H a vs) ∧ RDs K ρ H xs vs := by
  unfold itemsD at e
  split at e
  · cases e
    cases r with
    | tup hq rs => exact ⟨_, _, rfl, .inr hq, rs⟩
  · cases e
    cases r with
    | rol hq rs => exact ⟨_, _, rfl, .inl hq.sq, rs⟩
  · split at e
    · rename_i hx
      cases e
      obtain ⟨l, vs, rfl, hn, g, rs⟩ := lst_at rp r hx
      exact ⟨_, _, rfl, .inl (SqL.of g), rs⟩
    · cases e
  · cases e
theorem bi_len : CallR X (.builtin "len") (rBi X.K X.mg (biD .len)) := by
  intro pins s σ H xs us Q I r hr
  obtain ⟨ρ, ds, h, E, rs, rp, P⟩ := hr
  unfold biD at P
  split at P <;> first | (exfalso; exact P.elim) | skip
  all_goals try (exfalso; simp at *; done)
  cases rs with
  | cons r1 r2 =>
    cases r2
    split at P
    · rename_i n e
      unfold lenD at e
      split at e
      · cases e
        cases r1 with
        | tup hq rs => exact call_len_seq pins s σ H _ us Q I r ⟨_, _, rfl, .inr hq, by rw [← rs.length]; exact P.here rp (.int _)⟩
      · cases e
        cases r1 with
        | rol hq rs => exact call_len_seq pins s σ H _ us Q I r ⟨_, _, rfl, .inl hq.sq, by rw [← rs.length]; exact P.here rp (.int _)⟩
      · split at e
        · cases e
          cases r1
          exact call_len_str pins s σ H _ us Q I r ⟨_, rfl, by assumption, P.here rp (.int _)⟩
        · cases e
      · split at e
        · rename_i hx
          cases e
          obtain ⟨l, vs, rfl, hn, g, rs⟩ := lst_at rp r1 hx
          exact call_len_seq pins s σ H _ us Q I r ⟨_, _, rfl, .inl (SqL.of g), by rw [← rs.length]; exact P.here rp (.int _)⟩
        · cases e
      · cases e
    · exact P.elim
theorem bi_list : CallR X (.type "list") (rBi X.K X.mg (biD .list)) := by
  intro pins s σ H xs us Q I r hr
  obtain ⟨ρ, ds, h, E, rs, rp, P⟩ := hr
  unfold biD at P
  split at P <;> first | (exfalso; exact P.elim) | skip
  all_goals try (exfalso; simp at *; done)
  cases rs with
  | cons r1 r2 =>
    cases r2
    split at P
    · rename_i ys e
      obtain ⟨a, vs, rfl, hq, rs⟩ := itemsD_sq rp r1 e
      exact call_list_of pins s σ H _ us Q I r ⟨_, _, rfl, hq, fun p hp => P.to (lay_step hp) (rp.layL hp rs) (.ref (lay_at rp))⟩
    · exact P.elim
theorem bi_min (hc : X.calm = true) : CallR X (.builtin "min") (rBi X.K X.mg (biD .min)) := by
  intro pins s σ H xs us Q I r hr
  obtain ⟨ρ, ds, h, E, rs, rp, P⟩ := hr
  unfold biD at P
  split at P <;> first | (exfalso; exact P.elim) | skip
  all_goals try (exfalso; simp at *; done)
  cases rs with
  | cons r1 r2 =>
    cases r2 with
    | cons r2 r3 =>
      cases r3; cases r1; cases r2
      exact call_min2 hc pins s σ H _ us Q I r ⟨_, _, rfl, P.here rp (.int _)⟩
theorem bi_max (hc : X.calm = true) : CallR X (.builtin "max") (rBi X.K X.mg (biD .max)) := by
  intro pins s σ H xs us Q I r hr
  obtain ⟨ρ, ds, h, E, rs, rp, P⟩ := hr
  unfold biD at P
  split at P <;> first | (exfalso; exact P.elim) | skip
  all_goals try (exfalso; simp at *; done)
  cases rs with
  | cons r1 r2 =>
    cases r2 with
    | cons r2 r3 =>
      cases r3; cases r1; cases r2
      exact call_max2 hc pins s σ H _ us Q I r ⟨_, _, rfl, P.here rp (.int _)⟩
end
end L3

namespace L3
open PySem L2

def visB (sc : Scope) (x : Str) : Bool := match sc.names.lookup x with
  | some .local => true
  | some .cell => true
  | some .free => true
  | _ => false
def nameB (N : List Str) (sc : Scope) (i : Nat) (x : Str) : Bool := decide (N[i]? = some x) && visB sc x && !(x == ("__debug__" : Str)) && !(x == ("__classdict__" : Str))
def locB (N : List Str) (sc : Scope) (fb : Str → Bool) (i : Nat) (x : Str) : Bool := decide (N[i]? = some x) && (match sc.names.lookup x with
  | some .local => true
  | some .cell => fb x
  | _ => false)
def globB (sc : Scope) (x : Str) : Bool := (match sc.names.lookup x with
  | some .globalImplicit => true
  | _ => false) && !(x == ("__debug__" : Str)) && !(x == ("__name__" : Str))
def starB : Expr → Bool
  | .Starred _ _ => true
  | _ => false
def cstB : D → Const → Bool
  | .non, .none => true
  | .bl b, .bool c => b == c
  | .int i, .int j => decide (i = j)
  | .str x, .str y => decide (x = y)
  | _, _ => false
def sliceB : Expr → Bool
  | .Slice _ _ _ _ => true
  | _ => false
def compB : Expr → Bool
  | .ListComp _ _ _ _ => true
  | .SetComp _ _ _ _ => true
  | .DictComp _ _ _ _ _ => true
  | _ => false
def callB : Expr → Bool
  | .Call _ _ _ _ => true
  | _ => false
def setB : Expr → Bool
  | .Set _ _ _ => true
  | _ => false
mutual
def chkG (N : List Str) (sc : Scope) (fb : Str → Bool) : Tg → Expr → Bool
  | .n i, .Name x _ => locB N sc fb i x
  | .tup ts, .Tuple es _ _ => chkGs N sc fb ts es
  | _, _ => false
def chkGs (N : List Str) (sc : Scope) (fb : Str → Bool) : Tg → List Expr → Bool
  | .nil, [] => true
  | .cons a b, e :: es => !starB e && chkG N sc fb a e && chkGs N sc fb b es
  | _, _ => false
end
/-- the slots of a target -/
def Tg.slots : Tg → List Nat
  | .n i => [i]
  | .tup ts => ts.slots
  | .nil => []
  | .cons a b => a.slots ++ b.slots
mutual
def chk (N : List Str) (sc : Scope) (c : Bool) : E → Expr → Bool
  | .var i, .Name x _ => nameB N sc i x
  | .cst d, .Constant k _ _ => cstB d k
  | .glob x _, .Name y _ => decide (x = y) && globB sc y
  | .bin op a b, .BinOp l o r _ => decide (op = o) && chk N sc c a l && chk N sc c b r
  | .neg a, .UnaryOp .USub x _ => chk N sc c a x
  | .not a, .UnaryOp .Not x _ => chk N sc c a x
  | .and a b, .BoolOp .And (x :: xs) p => chk N sc c a x && (match xs with
    | [] => false
    | [y] => chk N sc c b y
    | y :: z :: r => chk N sc c b (.BoolOp .And (y :: z :: r) p))
  | .or a b, .BoolOp .Or (x :: xs) p => chk N sc c a x && (match xs with
    | [] => false
    | [y] => chk N sc c b y
    | y :: z :: r => chk N sc c b (.BoolOp .Or (y :: z :: r) p))
  | .cmp op a b, .Compare l [o] [r] _ => decide (op = o) && chk N sc c a l && chk N sc c b r && !setB r
  | .chain op op' a b d, .Compare l [o, o'] [m, r] _ => decide (op = o) && decide (op' = o') && chk N sc c a l && chk N sc c b m && chk N sc c d r && !setB r
  | .ife t a b, .IfExp ct x y _ => chk N sc c t ct && chk N sc c a x && chk N sc c b y
  | .tup es, .Tuple xs _ _ => chkA N sc c es xs
  | .lst es, .List xs _ => chkA N sc c es xs
  | .sub a i, .Subscript x y _ => chk N sc c a x && chk N sc c i y && !sliceB y
  | .slc a lo hi, .Subscript x (.Slice l u none _) _ => chk N sc c a x && (match l with
    | none => lo.isNil
    | some y => chk N sc c lo y) && (match u with
    | none => hi.isNil
    | some y => chk N sc c hi y)
  | .call _ x es, .Call (.Name y _) args [] _ => c && decide (x = y) && globB sc y && chkA N sc c es args
  | .bi b es, .Call (.Name y _) args [] _ => c && decide (b.name = y) && globB sc y && chkA N sc c es args && !args.isEmpty
  | .isi a t, .Call (.Name y _) [x, .Name z _] [] _ => decide (y = ("isinstance" : Str)) && globB sc y && decide (z = (Str.ofString t.name)) && globB sc z && chk N sc c a x && !starB x
  | .bm m o es, .Call (.Attribute x n ap) args [] cp => decide (m.name = n) && chk N sc c o x && !callB x && chkA N sc c es args && decide (ap.endLine = cp.line) && decide (args.length < 30)
  | .comp own g it test elt, .ListComp el [⟨tg, iter, ifs, as⟩] scope _ => c && decide (as = 0) && chk N sc c it iter && !setB iter && blkC N sc scope own && chkG N (relS scope sc) (fun x => decide (scope.names.lookup x = some .cell)) g tg &&
      (g.slots.all fun i => (own.map (·.2)).contains i) && (match ifs with
        | [] => test.isNil
        | [t] => chk N (relS scope sc) c test t
        | _ => false) && chk N (relS scope sc) c elt el
  | .rng es, .Call (.Name y _) args [] _ => decide (y = ("range" : Str)) && globB sc y && chkA N sc c es args && (decide (args.length = 1) || decide (args.length = 2))
  | _, _ => false
def chkA (N : List Str) (sc : Scope) (c : Bool) : E → List Expr → Bool
  | .nil, [] => true
  | .cons e es, x :: xs => chk N sc c e x && !starB x && chkA N sc c es xs
  | _, _ => false
end

def spF (K : PySem.W.Frag) (mg : Str → Option Value) (f : Fn) : Sp := fun vs H Q E => ∃ ρ ds h, RDs K ρ H ds vs ∧ Rep K mg ρ h H ∧ Post K mg (RV K) ρ H E (f ds h) Q
def Cal (P : Program) (w : World) (K : PySem.W.Frag) (mg : Str → Option Value) (base : Heap) (k : Nat) (x : Str) (f : Fn) : Prop :=
  ∃ (a : Addr) (fd : FuncData) (ps : List Str) (ws : List Value) (vs : List V) (es : List D) (f0 : Fn), mg x = some (.ref a) ∧ PySem.W.keepIn K (.ref a) = true ∧ Binds K fd ps ws ∧ Vals vs ws ∧
    (∀ (ρ : List Addr) (H : Hp), RDs K ρ H es vs) ∧ (∀ ds h, f ds h = f0 (ds ++ es) h) ∧ FnOk P w K mg base (L2.CX P w) k a fd ps (spF K mg f0)
def Glo (K : PySem.W.Frag) (mg : Str → Option Value) (x : Str) (d : D) : Prop := ∃ (u : Value) (v : V), mg x = some u ∧ RelV v u ∧ ∀ (ρ : List Addr) (H : Hp), RD K ρ H d v
section
variable (P : Program) (w : World) (K : PySem.W.Frag) (mg : Str → Option Value) (base : Heap) (k : Nat)
def E.need : E → Prop
  | .var _ => True
  | .cst _ => True
  | .glob x d => Glo K mg x d
  | .bin _ a b => a.need ∧ b.need
  | .neg a => a.need
  | .not a => a.need
  | .and a b => a.need ∧ b.need
  | .or a b => a.need ∧ b.need
  | .cmp _ a b => a.need ∧ b.need
  | .chain _ _ a b c => a.need ∧ b.need ∧ c.need
  | .ife c a b => c.need ∧ a.need ∧ b.need
  | .tup es => es.need
  | .lst es => es.need
  | .sub a i => a.need ∧ i.need
  | .slc a lo hi => a.need ∧ lo.need ∧ hi.need
  | .call f x es => Cal P w K mg base k x f ∧ es.need
  | .bi b es => mg b.name = none ∧ es.need
  | .isi a t => mg "isinstance" = none ∧ mg (Str.ofString t.name) = none ∧ a.need
  | .bm _ o es => o.need ∧ es.need
  | .comp _ _ it test elt => it.need ∧ test.need ∧ elt.need
  | .rng es => mg "range" = none ∧ es.need
  | .nil => True
  | .cons e es => e.need ∧ es.need
end
/-- where a body runs -/
structure Gx (X : Cx) (N : List Str) (sc : Scope) (k : Nat) (c : Bool) : Prop where
  hN : X.N = N
  nd : N.Nodup
  hsc : X.env.scope = sc
  un : X.A.units + 64 < cLine
  run : c = true → X.calm = true ∧ Room k X.A

theorem star_cons {e : Expr} {es : List Expr} {env : Env} (h : starB e = false) : starEach (e :: es) env = (false, eval e env) :: starEach es env := by
  cases e <;> first | rfl | cases h
theorem star_any {env : Env} {pos : Pos} : ∀ {es : List Expr}, (∀ e ∈ es, starB e = false) → (backTo pos (starEach es env)).any (·.1) = false
  | [], _ => rfl
  | e :: es, h => by
    rw [star_cons (h e List.mem_cons_self)]
    show (false || (backTo pos (starEach es env)).any (·.1)) = false
    rw [star_any fun x hx => h x (List.mem_cons_of_mem _ hx)]
    rfl
theorem chkA_star {N : List Str} {sc : Scope} {c : Bool} : ∀ {es : E} {xs : List Expr}, chkA N sc c es xs = true → ∀ e ∈ xs, starB e = false
  | .nil, [], _ => fun _ h => nomatch h
  | .cons e es, x :: xs, h => fun y hy => by
    unfold chkA at h
    simp only [Bool.and_eq_true, Bool.not_eq_true'] at h
    rcases List.mem_cons.mp hy with rfl | hy
    · exact h.1.2
    · exact chkA_star h.2 y hy
theorem plain_ix {b : Expr} (h : sliceB b = false) : PlainIx b := by
  intro o i
  cases b <;> first | rfl | cases h
theorem base_plain {o : Expr} {f : Str} {env : Env} (h : callB o = false) : attributeBase o f env (eval o env) = eval o env := by
  cases o <;> first | rfl | cases h
theorem sw_plain {e : Expr} {t : Option Expr} {l : Nat} {env : Env} (h : compB e = false) : swapsWith e t l env = pure false := by
  cases e <;> first | rfl | cases h
theorem fold_plain {e : Expr} {env : Env} (h : setB e = false) : ∀ x, foldedSetIterable e env x = pure x := by
  intro x
  cases e <;> first | rfl | cases h
theorem mark_plain {op : CmpOp} {e : Expr} (h : setB e = false) : behindInMarks op e = false := by
  cases e <;> first | rfl | cases h
theorem vis_of {sc : Scope} {x : Str} (h : visB sc x = true) : Vis sc x := by
  unfold visB at h
  split at h
  · exact .inl (by assumption)
  · exact .inr (.inl (by assumption))
  · exact .inr (.inr (by assumption))
  · cases h
section
variable {X : Cx} {N : List Str} {sc : Scope} {k : Nat} {c : Bool}
theorem Gx.vis (G : Gx X N sc k c) {i : Nat} {x : Str} (h : nameB N sc i x = true) : X.N[i]? = some x ∧ Vis X.env.scope x ∧ (x == ("__debug__" : Str)) = false ∧ (x == ("__classdict__" : Str)) = false := by
  unfold nameB at h
  simp only [Bool.and_eq_true, Bool.not_eq_true', decide_eq_true_eq] at h
  obtain ⟨⟨⟨h1, h2⟩, h3⟩, h4⟩ := h
  exact ⟨by rw [G.hN]; exact h1, by rw [G.hsc]; exact vis_of h2, h3, h4⟩
theorem Gx.glob (G : Gx X N sc k c) {x : Str} (h : globB sc x = true) : Gl X x ∧ (x == ("__debug__" : Str)) = false ∧ x ≠ "__name__" := by
  unfold globB at h
  simp only [Bool.and_eq_true, Bool.not_eq_true', decide_eq_true_eq] at h
  obtain ⟨⟨h1, h2⟩, h3⟩ := h
  refine ⟨?_, h2, by simpa using h3⟩
  show X.env.scope.names.lookup x = _
  rw [G.hsc]
  split at h1
  · assumption
  · cases h1
theorem Gx.loc (G : Gx X N sc k c) {fb : Str → Bool} (hf : ∀ x, fb x = true → X.fn x = true) {i : Nat} {x : Str} (h : locB N sc fb i x = true) : X.N[i]? = some x ∧ Loc X.env.scope x ∧ (X.fn x = true ∨ X.env.scope.names.lookup x = some .local) := by
  unfold locB at h
  simp only [Bool.and_eq_true, decide_eq_true_eq] at h
  obtain ⟨h1, h2⟩ := h
  rw [G.hN, G.hsc]
  split at h2
  · rename_i e
    exact ⟨h1, .inl e, .inr e⟩
  · rename_i e
    exact ⟨h1, .inr e, .inl (hf x h2)⟩
  · cases h2
end

def rG (K : PySem.W.Frag) (mg : Str → Option Value) (g : Tg) : TG := fun v σ H Q => ∃ d ρ σ3 h, RD K ρ H d v ∧ RS K ρ H σ3 σ ∧ Rep K mg ρ h H ∧ ∃ σ3', asgT g d σ3 = some σ3' ∧
  ∀ σ', RS K ρ H σ3' σ' → (∀ j, j ∉ g.slots → σ'[j]? = σ[j]?) → σ'.length = σ.length → Q σ' H
def rGs (K : PySem.W.Frag) (mg : Str → Option Value) (g : Tg) : TGs := fun vs σ H Q => ∃ ds ρ σ3 h, RDs K ρ H ds vs ∧ RS K ρ H σ3 σ ∧ Rep K mg ρ h H ∧ ∃ σ3', asgTs g ds σ3 = some σ3' ∧
  ∀ σ', RS K ρ H σ3' σ' → (∀ j, j ∉ g.slots → σ'[j]? = σ[j]?) → σ'.length = σ.length → Q σ' H
theorem PGimp {X : Cx} {e : Expr} {t t' : TG} (h : PG X e t) (i : ∀ v σ H Q, t' v σ H Q → t v σ H Q) : PG X e t' := ⟨fun pins s σ H v u Q I r q => h.run pins s σ H v u Q I r (i v σ H Q q)⟩
theorem PGsimp {X : Cx} {e : List Expr} {t t' : TGs} (h : PGs X e t) (i : ∀ v σ H Q, t' v σ H Q → t v σ H Q) : PGs X e t' := ⟨fun pins s σ H v u Q I r q => h.run pins s σ H v u Q I r (i v σ H Q q)⟩
theorem asg_each {e : Expr} {es : List Expr} {env : Env} (h : starB e = false) : assignEach (e :: es) env = (false, assign e env) :: assignEach es env := by
  cases e <;> first | rfl | cases h
theorem asg_star {env : Env} : ∀ {es : List Expr}, (∀ e ∈ es, starB e = false) → (assignEach es env).findIdx? (·.1) = none ∧ (assignEach es env).length = es.length
  | [], _ => ⟨rfl, rfl⟩
  | e :: es, h => by
    obtain ⟨h1, h2⟩ := asg_star (env := env) (es := es) fun x hx => h x (List.mem_cons_of_mem _ hx)
    rw [asg_each (h e List.mem_cons_self)]
    refine ⟨?_, by simp [h2]⟩
    rw [List.findIdx?_cons]
    simp [h1]
theorem chkGs_star {N : List Str} {sc : Scope} {fb : Str → Bool} : ∀ {g : Tg} {xs : List Expr}, chkGs N sc fb g xs = true → ∀ e ∈ xs, starB e = false
  | .nil, [], _ => fun _ h => nomatch h
  | .cons a b, x :: xs, h => fun y hy => by
    unfold chkGs at h
    simp only [Bool.and_eq_true, Bool.not_eq_true'] at h
    rcases List.mem_cons.mp hy with rfl | hy
    · exact h.1.1
    · exact chkGs_star h.2 y hy
theorem asgTs_len {K : PySem.W.Frag} {ρ : List Addr} {H : Hp} {N : List Str} {sc : Scope} {fb : Str → Bool} : ∀ {g : Tg} {xs : List Expr} {ds : List D} {σ σ' : Sl}, chkGs N sc fb g xs = true → asgTs g ds σ = some σ' → ds.length = xs.length
  | .nil, [], [], _, _, _, _ => rfl
  | .cons a b, x :: xs, d :: ds, σ, σ', h, e => by
    unfold chkGs at h
    simp only [Bool.and_eq_true] at h
    unfold asgTs at e
    cases q : asgT a d σ with
    | none => rw [q] at e; cases e
    | some σ1 =>
      rw [q] at e
      simp [asgTs_len (K := K) (ρ := ρ) (H := H) h.2 e]
theorem pg_all {X : Cx} {N : List Str} {sc : Scope} {k : Nat} {c : Bool} (G : Gx X N sc k c) {fb : Str → Bool} (hf : ∀ x, fb x = true → X.fn x = true) (hc : X.calm = true) (g : Tg) :
    (∀ e, chkG N sc fb g e = true → PG X e (rG X.K X.mg g)) ∧ (∀ es, chkGs N sc fb g es = true → PGs X es (rGs X.K X.mg g)) := by
  induction g with
  | n i =>
    refine ⟨fun e h => ?_, fun es h => ?_⟩
    · cases e <;> first | (unfold chkG at h; cases h; done) | skip
      rename_i x pos
      obtain ⟨h1, h2, h3⟩ := G.loc hf (show locB N sc fb i x = true from h)
      refine PGimp (pg_name (i := i) (by rw [G.hN]; exact G.nd) h1 h2 h3) fun v σ H Q q => ?_
      obtain ⟨d, ρ, σ3, hh, rd, rs, rp, σ3', e, q⟩ := q
      cases e
      exact q _ (rs.set rd i) (fun j hj => List.getElem?_set_ne (fun z => hj (by simp [Tg.slots, z]))) (by simp)
    · cases es <;> (unfold chkGs at h; cases h)
  | tup ts ih =>
    refine ⟨fun e h => ?_, fun es h => ?_⟩
    · cases e <;> first | (unfold chkG at h; cases h; done) | skip
      rename_i es kk pos
      have h' : chkGs N sc fb ts es = true := h
      obtain ⟨s1, s2⟩ := asg_star (env := X.env) (chkGs_star h')
      refine PGimp (pg_tup (n := es.length) hc (ih.2 es h') s2 s1) fun v σ H Q q => ?_
      obtain ⟨d, ρ, σ3, hh, rd, rs, rp, σ3', e, q⟩ := q
      cases rd with
      | @tup ds vs a hq rds =>
        have e' : asgTs ts ds σ3 = some σ3' := e
        exact ⟨_, _, rfl, hq, by rw [← rds.length]; exact asgTs_len (K := X.K) (ρ := ρ) (H := H) h' e', ds, ρ, σ3, hh, rds, rs, rp, σ3', e', q⟩
      | _ => exact absurd e (by simp [asgT])
    · cases es <;> (unfold chkGs at h; cases h)
  | nil =>
    refine ⟨fun e h => ?_, fun es h => ?_⟩
    · cases e <;> (unfold chkG at h; cases h)
    · cases es <;> first | (unfold chkGs at h; cases h; done) | skip
      refine PGsimp pgs_nil fun v σ H Q q => ?_
      obtain ⟨ds, ρ, σ3, hh, rd, rs, rp, σ3', e, q⟩ := q
      unfold asgTs at e
      split at e
      · cases e
        cases rd
        exact ⟨rfl, q σ rs (fun _ _ => rfl) rfl⟩
      · rename_i he; cases he
      · cases e
  | cons a b iha ihb =>
    refine ⟨fun e h => ?_, fun es h => ?_⟩
    · cases e <;> (unfold chkG at h; cases h)
    · cases es <;> first | (unfold chkGs at h; cases h; done) | skip
      rename_i e es
      unfold chkGs at h
      simp only [Bool.and_eq_true, Bool.not_eq_true'] at h
      refine PGsimp (pgs_cons (iha.1 e h.1.2) (ihb.2 es h.2) (by rw [asg_each h.1.1]; rfl)) fun v σ H Q q => ?_
      obtain ⟨ds, ρ, σ3, hh, rd, rs, rp, σ3', e, q⟩ := q
      cases rd with
      | nil => exact absurd e (by simp [asgTs])
      | @cons d v ds vs r1 r2 =>
          replace e : (asgT a d σ3).bind (fun σ' => asgTs b ds σ') = some σ3' := e
          cases q1 : asgT a d σ3 with
          | none => rw [q1] at e; cases e
          | some σ4 =>
            rw [q1] at e
            refine ⟨_, _, rfl, d, ρ, σ3, hh, r1, rs, rp, σ4, q1, fun σ' rs' hk hl => ?_⟩
            refine ⟨ds, ρ, σ4, hh, r2, rs', rp, σ3', e, fun σ2 rs2 hk2 hl2 => q σ2 rs2 (fun j hj => ?_) (hl2.trans hl)⟩
            have hj' : j ∉ a.slots ∧ j ∉ b.slots := by
              simp only [Tg.slots, List.mem_append, not_or] at hj
              exact hj
            rw [hk2 j hj'.2, hk j hj'.1]
end L3

set_option maxHeartbeats 1000000
namespace L3
open PySem L2

/-- what a loop walks: these items, while these lists stay -/
def Wk (K : PySem.W.Frag) (mg : Str → Option Value) (ρ : List Addr) (H : Hp) (s : List D × Gd) (J : It) : Prop :=
  ∀ (i : Nat) (ρ2 : List Addr) (H2 : Hp) (h2 : Hh), Step ρ H ρ2 H2 → Rep K mg ρ2 h2 H2 → gdOk s.2 h2 →
    (∀ d, s.1[i]? = some d → J.go i H2 ∧ ∀ x H3, J.yld i H2 x H3 → Step ρ2 H2 ρ2 H3 ∧ Rep K mg ρ2 h2 H3 ∧ RD K ρ2 H3 d x) ∧ (s.1.length ≤ i → J.stop i H2)
def rIt (K : PySem.W.Frag) (mg : Str → Option Value) (m : Sl → Hh → Res (List D × Gd)) (W : WX) : TI := fun σ H R => ∃ ρ σ3 h, RS K ρ H σ3 σ ∧ Rep K mg ρ h H ∧ Post K mg (Wk K mg) ρ H (fun c d H' => W c d σ H') (m σ3 h) R
theorem PIimp {X : Cx} {tg e : Expr} {t t' : TI} (h : PI X tg e t) (i : ∀ σ H R, t' σ H R → t σ H R) : PI X tg e t' := ⟨fun pins s σ H R I q => h.run pins s σ H R I (i σ H R q)⟩
theorem POimp {X : Cx} {e : Option Expr} {t t' : TO} (h : PO X e t) (i : ∀ σ H Q, t' σ H Q → t σ H Q) : PO X e t' := ⟨fun pins s σ H Q I q => h.run pins s σ H Q I (i σ H Q q)⟩

section
variable {X : Cx} {tg : Expr}
/-- over a list or a tuple -/
theorem pi_either {l : Expr} {tl : TE} (hl : PE X l tl) : PI X tg l (fun σ H R => tl σ H fun x H1 => ∃ a, x = .ref a ∧ ((∃ xs, SqL X.K H1 a xs) ∧ R (Itl X.K a) H1 ∨ (∃ xs, SqT X.K H1 a xs) ∧ R (Itt X.K a) H1)) := by
  refine ⟨fun pins s σ H R I h => thn (hl.run pins s σ H _ I h) ?_⟩
  rintro v s1 ⟨x, H1, I1, r1, a, rfl, q⟩
  obtain rfl : v = Value.ref a := r1
  have fr : ∀ b ∈ [s1.heap.objs.size], FpOk X pins H1 b := fun b hb => by
    obtain rfl : b = s1.heap.objs.size := by simpa using hb
    exact I1.fpOk (Nat.le_refl _) I1.fresh
  rcases q with ⟨⟨xs, hq⟩, q⟩ | ⟨⟨xs, hq⟩, q⟩
  · obtain ⟨its, rv, p, hz⟩ := I1.list hq
    exact wpAny_pyIter_list p.isList ⟨_, [s1.heap.objs.size], _, _, H1, rfl, I1.kept (t' := s1.toks) (fun b o e => Heap.get?_push_of_some _ e), turn_list a _, ⟨_, Heap.get?_push_size _ rfl, rfl, rfl⟩, fr, q⟩
  · obtain ⟨its, rv, p, hz⟩ := I1.tuple hq
    exact wpAny_pyIter_tuple (show s1.heap.IsTuple a its.toArray from p) ⟨_, [s1.heap.objs.size], _, _, H1, rfl, I1.kept (t' := s1.toks) (fun b o e => Heap.get?_push_of_some _ e), turn_tuple a _, ⟨_, Heap.get?_push_size _ rfl, rfl, rfl⟩, fr, q⟩
end

section
variable {K : PySem.W.Frag} {mg : Str → Option Value} {ρ : List Addr} {H : Hp} {h : Hh}
theorem wk_tup {ds : List D} {vs : List V} {a : Addr} (hq : SqT K H a vs) (r : RDs K ρ H ds vs) : Wk K mg ρ H (ds, []) (Itt K a) := fun i ρ2 H2 h2 s rp _ => by
  have hq2 := SqT_keep hq s.keep
  have r2 := r.mono s
  refine ⟨fun d hd => ?_, fun hl => ⟨vs, hq2, by rw [← r.length]; exact hl⟩⟩
  obtain ⟨v, ev, rv⟩ := r2.get hd
  refine ⟨⟨vs, v, hq2, ev⟩, fun x H3 y => ?_⟩
  obtain ⟨rfl, y⟩ := y
  have e := y vs hq2
  rw [ev] at e
  cases e
  exact ⟨Step.refl _ _, rp, rv⟩
theorem wk_rol {ds : List D} {vs : List V} {a : Addr} (hq : SqF K H a vs) (r : RDs K ρ H ds vs) : Wk K mg ρ H (ds, []) (Itl K a) := fun i ρ2 H2 h2 s rp _ => by
  have hq2 := hq.keep s.keep
  have r2 := r.mono s
  refine ⟨fun d hd => ?_, fun hl => ⟨vs, hq2.sq, by rw [← r.length]; exact hl⟩⟩
  obtain ⟨v, ev, rv⟩ := r2.get hd
  refine ⟨⟨vs, v, hq2.sq, ev⟩, fun x H3 y => ?_⟩
  obtain ⟨rfl, y⟩ := y
  have e := y vs hq2.sq
  rw [ev] at e
  cases e
  exact ⟨Step.refl _ _, rp, rv⟩
theorem wk_lst {n : Nat} {xs : List D} {a : Addr} (hn : ρ[n]? = some a) : Wk K mg ρ H (xs, [(n, xs)]) (Itl K a) := fun i ρ2 H2 h2 s rp g => by
  obtain ⟨ys, ey, rfl⟩ := g _ List.mem_cons_self
  have hn2 := pre_get s.pre hn
  obtain ⟨vs, e1, r⟩ := rp.obj _ _ _ hn2 ey
  have hq : SqL K H2 a vs := SqL.of e1
  refine ⟨fun d hd => ?_, fun hl => ⟨vs, hq, by rw [← r.length]; exact hl⟩⟩
  obtain ⟨v, ev, rv⟩ := r.get hd
  refine ⟨⟨vs, v, hq, ev⟩, fun x H3 y => ?_⟩
  obtain ⟨rfl, y⟩ := y
  have e := y vs hq
  rw [ev] at e
  cases e
  exact ⟨Step.refl _ _, rp, rv⟩
theorem wk_rng {lo : Int} {n : Nat} : Wk K mg ρ H ((List.range n).map (fun (j : Nat) => D.int (lo + j)), []) (Itr lo n) := fun i ρ2 H2 h2 s rp g => by
  refine ⟨fun d hd => ?_, fun hl => ?_⟩
  · rw [List.getElem?_map] at hd
    by_cases c : i < n
    · rw [List.getElem?_range c] at hd
      cases hd
      refine ⟨c, fun x H3 y => ?_⟩
      obtain ⟨rfl, rfl⟩ := y
      exact ⟨Step.refl _ _, rp, .int _⟩
    · rw [List.getElem?_eq_none (by simpa using c)] at hd
      cases hd
  · show n ≤ i
    simpa using hl
/-- the walk of a value -/
theorem seq_walk {x : D} {v : V} {s : List D × Gd} {R : It → Hp → Prop} {E : XK} (rp : Rep K mg ρ h H) (r : RD K ρ H x v) (P : Post K mg (Wk K mg) ρ H E (seqD x h) R) :
    ∃ a, v = .ref a ∧ ((∃ xs, SqL K H a xs) ∧ R (Itl K a) H ∨ (∃ xs, SqT K H a xs) ∧ R (Itt K a) H) := by
  unfold seqD at P
  split at P
  · cases r with
    | tup hq rs => exact ⟨_, rfl, .inr ⟨⟨_, hq⟩, P.here rp (wk_tup hq rs)⟩⟩
  · cases r with
    | rol hq rs => exact ⟨_, rfl, .inl ⟨⟨_, hq.sq⟩, P.here rp (wk_rol hq rs)⟩⟩
  · split at P
    · rename_i hx
      obtain ⟨a, vs, rfl, hn, g, rs⟩ := lst_at rp r hx
      exact ⟨_, rfl, .inl ⟨⟨_, SqL.of g⟩, P.here rp (wk_lst hn)⟩⟩
    · exact P.elim
  · exact P.elim
theorem tru_of {x : D} {v : V} {k : Bool} (rp : Rep K mg ρ h H) (r : RD K ρ H x v) (e : truD x h = some k) : TruV K v H k := by
  unfold truD at e
  split at e
  · cases e; cases r; rfl
  · cases e; cases r; rfl
  · cases e; cases r; rfl
  · split at e
    · cases e; cases r; exact ⟨by assumption, rfl⟩
    · cases e
  · cases e
    cases r with
    | tup hq rs => exact .inr (.inl ⟨_, hq, by cases rs <;> rfl⟩)
  · cases e
    cases r with
    | rol hq rs => exact .inl ⟨_, hq.sq, by cases rs <;> rfl⟩
  · split at e
    · rename_i hx
      cases e
      obtain ⟨a, vs, rfl, hn, g, rs⟩ := lst_at rp r hx
      exact .inl ⟨_, SqL.of g, by cases rs <;> rfl⟩
    · rename_i kvs hx
      cases e
      cases r with
      | ref hn =>
        obtain ⟨vks, e1, rk⟩ := rp.obj _ _ _ hn hx
        exact .inr (.inr ⟨vks, e1, by cases rk <;> rfl⟩)
    · cases e
end

structure Snd (X : Cx) (N : List Str) (sc : Scope) (c : Bool) (W : WX) (e : E) : Prop where
  pe : ∀ ast, chk N sc c e ast = true → PE X ast (rE X.K X.mg (den e).v W)
  pt : ∀ ast, chk N sc c e ast = true → PT X ast (rT X.K X.mg (den e).t W)
  pw : ∀ op xs p, chk N sc c e (.BoolOp op xs p) = true → PW X (.BoolOp op xs p) (rT X.K X.mg (den e).t W)
  pa : ∀ xs, chkA N sc c e xs = true → PA X xs (rA X.K X.mg (den e).a W)
  po : ∀ ast, chk N sc c e ast = true → PO X (some ast) (rO X.K X.mg (den e).o W)
  pi : ∀ tg ast, chk N sc c e ast = true → PI X tg ast (rIt X.K X.mg (den e).i W)
def plainT : Expr → Bool
  | .BoolOp _ _ _ => false
  | .UnaryOp .Not _ _ => false
  | .IfExp _ _ _ _ => false
  | .Compare _ _ _ _ => false
  | _ => true
theorem test_plain {e : Expr} {env : Env} (h : plainT e = true) : ∀ whole, isTrue e env whole = (do let v ← whole; standAt e.pos; holding [v] (truthy v)) := by
  intro whole
  cases e <;> first | rfl | (rename_i op _ _; cases op <;> first | rfl | cases h) | cases h
section
variable {X : Cx} {N : List Str} {sc : Scope} {c : Bool} {W : WX} {e : E}
theorem po_of {v : Sl → Hh → Res D} {ast : Expr} (pe : PE X ast (rE X.K X.mg v W)) : PO X (some ast) (rO X.K X.mg (fun σ h => (v σ h).bind intR) W) := by
  refine POimp (po_some pe) fun σ H Q q => ?_
  obtain ⟨ρ, σ3, h, rs, rp, P⟩ := q
  refine ⟨ρ, σ3, h, rs, rp, (Post.bind (RA := RV X.K) P).imp fun x H1 ⟨ρ1, d, h1, s1, rp1, rd, _, P1⟩ => ?_⟩
  unfold intR at P1
  split at P1
  · cases rd
    exact ⟨_, rfl, P1.here rp1 rfl⟩
  · exact P1.elim
theorem pi_of {tg : Expr} {v : Sl → Hh → Res D} {ast : Expr} (pe : PE X ast (rE X.K X.mg v W)) : PI X tg ast (rIt X.K X.mg (fun σ h => (v σ h).bind seqD) W) := by
  refine PIimp (pi_either pe) fun σ H R q => ?_
  obtain ⟨ρ, σ3, h, rs, rp, P⟩ := q
  refine ⟨ρ, σ3, h, rs, rp, (Post.bind (RA := RV X.K) P).imp fun x H1 ⟨ρ1, d, h1, s1, rp1, rd, _, P1⟩ => ?_⟩
  exact seq_walk (s := ([], [])) rp1 rd P1
theorem pt_of {v : Sl → Hh → Res D} {ast : Expr} (hp : plainT ast = true) (pe : PE X ast (rE X.K X.mg v W)) : PT X ast (rT X.K X.mg (fun σ h => (v σ h).bind truR) W) := by
  refine PTimp (pt_truth pe (test_plain hp)) fun σ H Q q => ?_
  obtain ⟨ρ, σ3, h, rs, rp, P⟩ := q
  refine ⟨ρ, σ3, h, rs, rp, (Post.bind (RA := RV X.K) P).imp fun x H1 ⟨ρ1, d, h1, s1, rp1, rd, _, P1⟩ => ?_⟩
  unfold truR at P1
  split at P1
  · rename_i k e
    exact ⟨k, tru_of rp1 rd e, P1.here rp1 rfl⟩
  · exact P1.elim
/-- an expression like most -/
theorem Snd.plain {v : Sl → Hh → Res D} (hd : den e = .of v) (hA : ∀ xs, chkA N sc c e xs = false) (hp : ∀ ast, chk N sc c e ast = true → plainT ast = true)
    (pe : ∀ ast, chk N sc c e ast = true → PE X ast (rE X.K X.mg v W)) : Snd X N sc c W e where
  pe := fun ast h => by rw [hd]; exact pe ast h
  pt := fun ast h => by rw [hd]; exact pt_of (hp ast h) (pe ast h)
  pw := fun op xs p h => by have := hp _ h; cases this
  pa := fun xs h => by rw [hA] at h; cases h
  po := fun ast h => by rw [hd]; exact po_of (pe ast h)
  pi := fun tg ast h => by rw [hd]; exact pi_of (pe ast h)
end
end L3

set_option maxHeartbeats 4000000
namespace L3
open PySem L2

section
variable {X : Cx} {N : List Str} {sc : Scope} {c : Bool} {W : WX} {k : Nat}
theorem bind_inv {α β : Type} {r : Res α} {f : α → Hh → Res β} {b : β} {h : Hh} (e : r.bind f = .ok b h) : ∃ a h1, r = .ok a h1 ∧ f a h1 = .ok b h := by
  cases r with
  | ok a h1 => exact ⟨a, h1, rfl, e⟩
  | exc _ _ _ => cases e
  | bad => cases e
/-- two parts in a row -/
theorem two {ma mb : Sl → Hh → Res D} {g : D → D → Hh → Res D} {σ : L2.St} {H : Hp} {Q : VK}
    (q : rE X.K X.mg (fun σ h => (ma σ h).bind fun x h1 => (mb σ h1).bind fun y h2 => g x y h2) W σ H Q) : tOp (r2 X.K X.mg g) (rE X.K X.mg ma W) (rE X.K X.mg mb W) σ H Q := by
  obtain ⟨ρ, σ3, h, rs, rp, P⟩ := q
  refine ⟨ρ, σ3, h, rs, rp, (Post.bind (RA := RV X.K) P).imp fun x H1 ⟨ρ1, a, h1, s1, rp1, ra, _, P1⟩ => ?_⟩
  refine ⟨ρ1, σ3, h1, rs.mono s1, rp1, (Post.bind (RA := RV X.K) P1).imp fun y H2 ⟨ρ2, b, h2, s2, rp2, rb, _, P2⟩ => ?_⟩
  exact ⟨ρ2, a, b, h2, _, ra.mono s2, rb, rp2, P2⟩
theorem snd_var (G : Gx X N sc k c) (i : Nat) : Snd X N sc c W (.var i) := by
  refine .plain rfl (fun xs => by cases xs <;> rfl) (fun ast h => ?_) (fun ast h => ?_)
  · cases ast <;> first | rfl | (simp only [chk] at h; cases h; done)
  · cases ast <;> first | (simp only [chk] at h; cases h; done) | skip
    rename_i x pos
    obtain ⟨h1, h2, h3, h4⟩ := G.vis (show nameB N sc i x = true from h)
    refine PEimp (pe_var h1 h2 h3 h4) fun σ H Q q => ?_
    obtain ⟨ρ, σ3, hh, rs, rp, P⟩ := q
    dsimp only [varR] at P
    split at P
    · rename_i d e
      obtain ⟨v, ev, rv⟩ := rs.get i d e
      exact ⟨v, ev, P.here rp rv⟩
    · exact P.elim
theorem snd_cst (d : D) : Snd X N sc c W (.cst d) := by
  refine .plain rfl (fun xs => by cases xs <;> rfl) (fun ast h => ?_) (fun ast h => ?_)
  · cases ast <;> first | rfl | (simp only [chk] at h; cases h; done)
  · cases ast <;> first | (simp only [chk] at h; cases h; done) | skip
    rename_i kk n pos
    have h' : cstB d kk = true := h
    unfold cstB at h'
    split at h'
    · exact PEimp pe_non fun σ H Q ⟨ρ, σ3, hh, rs, rp, P⟩ => P.here rp .non
    · have e := eq_of_beq h'
      subst e
      exact PEimp pe_bl fun σ H Q ⟨ρ, σ3, hh, rs, rp, P⟩ => P.here rp (.bl _)
    · have e := of_decide_eq_true h'
      subst e
      exact PEimp pe_int fun σ H Q ⟨ρ, σ3, hh, rs, rp, P⟩ => P.here rp (.int _)
    · have e := of_decide_eq_true h'
      subst e
      exact PEimp pe_str fun σ H Q ⟨ρ, σ3, hh, rs, rp, P⟩ => P.here rp (.str _)
    · cases h'
theorem snd_glob (G : Gx X N sc k c) {x : Str} {d : D} (g : Glo X.K X.mg x d) : Snd X N sc c W (.glob x d) := by
  refine .plain rfl (fun xs => by cases xs <;> rfl) (fun ast h => ?_) (fun ast h => ?_)
  · cases ast <;> first | rfl | (simp only [chk] at h; cases h; done)
  · cases ast <;> first | (simp only [chk] at h; cases h; done) | skip
    rename_i y pos
    have h' : (decide (x = y) && globB sc y) = true := h
    rw [Bool.and_eq_true] at h'
    have e := of_decide_eq_true h'.1
    subst e
    obtain ⟨u, v, hm, r, rd⟩ := g
    obtain ⟨g1, g2, g3⟩ := G.glob h'.2
    exact PEimp (pe_glob g1 hm r g2) fun σ H Q ⟨ρ, σ3, hh, rs, rp, P⟩ => P.here rp (rd _ _)
theorem snd_bin {op : Operator} {a b : E} (ia : Snd X N sc c W a) (ib : Snd X N sc c W b) : Snd X N sc c W (.bin op a b) := by
  refine .plain rfl (fun xs => by cases xs <;> rfl) (fun ast h => ?_) (fun ast h => ?_)
  · cases ast <;> first | rfl | (simp only [chk] at h; cases h; done)
  · cases ast <;> first | (simp only [chk] at h; cases h; done) | skip
    rename_i l o r pos
    simp only [chk, Bool.and_eq_true, decide_eq_true_eq] at h
    obtain ⟨⟨rfl, h1⟩, h2⟩ := h
    exact PEimp (pe_op (op_bin op) (ia.pe l h1) (ib.pe r h2)) fun σ H Q q => two q
theorem snd_neg {a : E} (ia : Snd X N sc c W a) : Snd X N sc c W (.neg a) := by
  refine .plain rfl (fun xs => by cases xs <;> rfl) (fun ast h => ?_) (fun ast h => ?_)
  · cases ast <;> first | rfl | (simp only [chk] at h; cases h; done) | skip
    rename_i op x pos
    cases op <;> first | rfl | (simp only [chk] at h; cases h; done)
  · cases ast <;> first | (simp only [chk] at h; cases h; done) | skip
    rename_i op x pos
    cases op <;> first | (simp only [chk] at h; cases h; done) | skip
    simp only [chk] at h
    refine PEimp (pe_un un_neg (ia.pe x h)) fun σ H Q q => ?_
    obtain ⟨ρ, σ3, hh, rs, rp, P⟩ := q
    refine ⟨ρ, σ3, hh, rs, rp, (Post.bind (RA := RV X.K) P).imp fun x H1 ⟨ρ1, d, h1, s1, rp1, rd, _, P1⟩ => ?_⟩
    unfold negR at P1
    split at P1
    · cases rd
      exact ⟨_, rfl, P1.here rp1 (.int _)⟩
    · exact P1.elim
theorem snd_not {a : E} (ia : Snd X N sc c W a) : Snd X N sc c W (.not a) := by
  have key : ∀ ast, chk N sc c (.not a) ast = true → ∃ x pos, ast = .UnaryOp .Not x pos ∧ chk N sc c a x = true := fun ast h => by
    cases ast <;> first | (simp only [chk] at h; cases h; done) | skip
    rename_i op x pos
    cases op <;> first | (simp only [chk] at h; cases h; done) | skip
    simp only [chk] at h
    exact ⟨x, pos, rfl, h⟩
  have pe : ∀ ast, chk N sc c (.not a) ast = true → PE X ast (rE X.K X.mg (den (.not a)).v W) := fun ast h => by
    obtain ⟨x, pos, rfl, h⟩ := key ast h
    refine PEimp (pe_notT (ia.pe x h)) fun σ H Q q => ?_
    obtain ⟨ρ, σ3, hh, rs, rp, P⟩ := q
    have P' : Post X.K X.mg (RV X.K) ρ H (fun c d H' => W c d σ H') ((((den a).v σ3 hh).bind truR).bind fun b h1 => .ok (.bl (!b)) h1) Q := P
    have e : (((den a).v σ3 hh).bind truR).bind (fun b h1 => Res.ok (D.bl (!b)) h1) = ((den a).v σ3 hh).bind fun x h1 => (truR x h1).bind fun b h1 => .ok (.bl (!b)) h1 := by
      cases (den a).v σ3 hh <;> rfl
    rw [e] at P'
    refine ⟨ρ, σ3, hh, rs, rp, (Post.bind (RA := RV X.K) P').imp fun x H1 ⟨ρ1, d, h1, s1, rp1, rd, _, P1⟩ => ?_⟩
    unfold truR at P1
    split at P1
    · rename_i kk e
      exact ⟨kk, tru_of rp1 rd e, P1.here rp1 (.bl _)⟩
    · exact P1.elim
  refine ⟨pe, fun ast h => ?_, fun op xs p h => ?_, fun xs h => ?_, fun ast h => po_of (pe ast h), fun tg ast h => pi_of (pe ast h)⟩
  · obtain ⟨x, pos, rfl, h⟩ := key ast h
    refine PTimp (pt_not (ia.pt x h)) fun σ H Q q => ?_
    obtain ⟨ρ, σ3, hh, rs, rp, P⟩ := q
    refine ⟨ρ, σ3, hh, rs, rp, (Post.bind (RA := RQ) (r := (den a).t σ3 hh) P).imp fun x H1 ⟨ρ1, d, h1, s1, rp1, rd, _, P1⟩ => ?_⟩
    subst rd
    exact P1.here rp1 rfl
  · obtain ⟨x, pos, e, _⟩ := key _ h
    cases e
  · cases xs <;> cases h

theorem and_key {a b : E} {ast : Expr} (h : chk N sc c (.and a b) ast = true) : ∃ x y r p, ast = .BoolOp .And (x :: y :: r) p ∧ chk N sc c a x = true ∧ ((r = [] ∧ chk N sc c b y = true) ∨ (r ≠ [] ∧ chk N sc c b (.BoolOp .And (y :: r) p) = true)) := by
  cases ast <;> first | (simp only [chk] at h; cases h; done) | skip
  rename_i op xs p
  cases op with
  | Or => simp only [chk] at h; cases h
  | And =>
    match xs, h with
    | [], h => simp only [chk] at h; cases h
    | [x], h => simp only [chk, Bool.and_eq_true] at h; exact absurd h.2 (by simp)
    | [x, y], h => simp only [chk, Bool.and_eq_true] at h; exact ⟨x, y, [], p, rfl, h.1, .inl ⟨rfl, h.2⟩⟩
    | x :: y :: z :: r, h => simp only [chk, Bool.and_eq_true] at h; exact ⟨x, y, z :: r, p, rfl, h.1, .inr ⟨by simp, h.2⟩⟩
theorem or_key {a b : E} {ast : Expr} (h : chk N sc c (.or a b) ast = true) : ∃ x y r p, ast = .BoolOp .Or (x :: y :: r) p ∧ chk N sc c a x = true ∧ ((r = [] ∧ chk N sc c b y = true) ∨ (r ≠ [] ∧ chk N sc c b (.BoolOp .Or (y :: r) p) = true)) := by
  cases ast <;> first | (simp only [chk] at h; cases h; done) | skip
  rename_i op xs p
  cases op with
  | And => simp only [chk] at h; cases h
  | Or =>
    match xs, h with
    | [], h => simp only [chk] at h; cases h
    | [x], h => simp only [chk, Bool.and_eq_true] at h; exact absurd h.2 (by simp)
    | [x, y], h => simp only [chk, Bool.and_eq_true] at h; exact ⟨x, y, [], p, rfl, h.1, .inl ⟨rfl, h.2⟩⟩
    | x :: y :: z :: r, h => simp only [chk, Bool.and_eq_true] at h; exact ⟨x, y, z :: r, p, rfl, h.1, .inr ⟨by simp, h.2⟩⟩
theorem bool_of {K : PySem.W.Frag} {mg : Str → Option Value} {ρ : List Addr} {H : Hp} {E : XK} {d : D} {x : V} {f g : Res D} {Q : VK} (r : RD K ρ H d x) (P : Post K mg (RV K) ρ H E (boolR d f g) Q) :
    ∃ kk, x = .bl kk ∧ if kk = true then Post K mg (RV K) ρ H E f Q else Post K mg (RV K) ρ H E g Q := by
  unfold boolR at P
  split at P
  · cases r; exact ⟨true, rfl, by rw [if_pos rfl]; exact P⟩
  · cases r; exact ⟨false, rfl, by rw [if_neg Bool.false_ne_true]; exact P⟩
  · exact P.elim
theorem snd_and {a b : E} (ia : Snd X N sc c W a) (ib : Snd X N sc c W b) : Snd X N sc c W (.and a b) := by
  have pe : ∀ ast, chk N sc c (.and a b) ast = true → PE X ast (rE X.K X.mg (den (.and a b)).v W) := fun ast h => by
    obtain ⟨x, y, r, p, rfl, h1, h2⟩ := and_key h
    have hb : PE X (.BoolOp .And (y :: r) p) (rE X.K X.mg (den b).v W) := by
      rcases h2 with ⟨rfl, h2⟩ | ⟨_, h2⟩
      · exact pe_one (ib.pe y h2)
      · exact ib.pe _ h2
    refine PEimp (pe_and (ia.pe x h1) hb) fun σ H Q q => ?_
    obtain ⟨ρ, σ3, hh, rs, rp, P⟩ := q
    refine ⟨ρ, σ3, hh, rs, rp, (Post.bind (RA := RV X.K) (r := (den a).v σ3 hh) P).imp fun x H1 ⟨ρ1, d, h1, s1, rp1, rd, _, P1⟩ => ?_⟩
    obtain ⟨kk, rfl, q⟩ := bool_of rd P1
    refine ⟨kk, rfl, ?_⟩
    cases kk with
    | true => rw [if_pos rfl] at q ⊢; exact ⟨ρ1, σ3, h1, rs.mono s1, rp1, q⟩
    | false => rw [if_neg Bool.false_ne_true] at q ⊢; exact q.here rp1 (.bl _)
  have pw : ∀ op xs p, chk N sc c (.and a b) (.BoolOp op xs p) = true → PW X (.BoolOp op xs p) (rT X.K X.mg (den (.and a b)).t W) := fun op xs p h => by
    obtain ⟨x, y, r, p', e, h1, h2⟩ := and_key h
    cases e
    have hb : PW X (.BoolOp .And (y :: r) p) (rT X.K X.mg (den b).t W) := by
      rcases h2 with ⟨rfl, h2⟩ | ⟨_, h2⟩
      · exact pw_and1 (ib.pt y h2)
      · exact ib.pw _ _ _ h2
    refine PWimp (pw_and (ia.pt x h1) hb) fun σ H Q q => ?_
    obtain ⟨ρ, σ3, hh, rs, rp, P⟩ := q
    refine ⟨ρ, σ3, hh, rs, rp, (Post.bind (RA := RQ) (r := (den a).t σ3 hh) P).imp fun x H1 ⟨ρ1, d, h1, s1, rp1, rd, _, P1⟩ => ?_⟩
    subst rd
    cases d with
    | true => rw [if_pos rfl] at P1 ⊢; exact ⟨ρ1, σ3, h1, rs.mono s1, rp1, P1⟩
    | false => rw [if_neg Bool.false_ne_true] at P1 ⊢; exact P1.here rp1 rfl
  refine ⟨pe, fun ast h => ?_, pw, fun xs h => ?_, fun ast h => po_of (pe ast h), fun tg ast h => pi_of (pe ast h)⟩
  · obtain ⟨x, y, r, p, rfl, _⟩ := and_key h
    exact (pw _ _ _ h).pt
  · cases xs <;> cases h
theorem snd_or {a b : E} (ia : Snd X N sc c W a) (ib : Snd X N sc c W b) : Snd X N sc c W (.or a b) := by
  have pe : ∀ ast, chk N sc c (.or a b) ast = true → PE X ast (rE X.K X.mg (den (.or a b)).v W) := fun ast h => by
    obtain ⟨x, y, r, p, rfl, h1, h2⟩ := or_key h
    have hb : PE X (.BoolOp .Or (y :: r) p) (rE X.K X.mg (den b).v W) := by
      rcases h2 with ⟨rfl, h2⟩ | ⟨_, h2⟩
      · exact pe_one (ib.pe y h2)
      · exact ib.pe _ h2
    refine PEimp (pe_or (ia.pe x h1) hb) fun σ H Q q => ?_
    obtain ⟨ρ, σ3, hh, rs, rp, P⟩ := q
    refine ⟨ρ, σ3, hh, rs, rp, (Post.bind (RA := RV X.K) (r := (den a).v σ3 hh) P).imp fun x H1 ⟨ρ1, d, h1, s1, rp1, rd, _, P1⟩ => ?_⟩
    obtain ⟨kk, rfl, q⟩ := bool_of rd P1
    refine ⟨kk, rfl, ?_⟩
    cases kk with
    | true => rw [if_pos rfl] at q ⊢; exact q.here rp1 (.bl _)
    | false => rw [if_neg Bool.false_ne_true] at q ⊢; exact ⟨ρ1, σ3, h1, rs.mono s1, rp1, q⟩
  have pw : ∀ op xs p, chk N sc c (.or a b) (.BoolOp op xs p) = true → PW X (.BoolOp op xs p) (rT X.K X.mg (den (.or a b)).t W) := fun op xs p h => by
    obtain ⟨x, y, r, p', e, h1, h2⟩ := or_key h
    cases e
    have hb : PW X (.BoolOp .Or (y :: r) p) (rT X.K X.mg (den b).t W) := by
      rcases h2 with ⟨rfl, h2⟩ | ⟨_, h2⟩
      · exact pw_or1 (ib.pt y h2)
      · exact ib.pw _ _ _ h2
    refine PWimp (pw_or (ia.pt x h1) hb) fun σ H Q q => ?_
    obtain ⟨ρ, σ3, hh, rs, rp, P⟩ := q
    refine ⟨ρ, σ3, hh, rs, rp, (Post.bind (RA := RQ) (r := (den a).t σ3 hh) P).imp fun x H1 ⟨ρ1, d, h1, s1, rp1, rd, _, P1⟩ => ?_⟩
    subst rd
    cases d with
    | true => rw [if_pos rfl] at P1 ⊢; exact P1.here rp1 rfl
    | false => rw [if_neg Bool.false_ne_true] at P1 ⊢; exact ⟨ρ1, σ3, h1, rs.mono s1, rp1, P1⟩
  refine ⟨pe, fun ast h => ?_, pw, fun xs h => ?_, fun ast h => po_of (pe ast h), fun tg ast h => pi_of (pe ast h)⟩
  · obtain ⟨x, y, r, p, rfl, _⟩ := or_key h
    exact (pw _ _ _ h).pt
  · cases xs <;> cases h
/-- what a comparison gives is a truth -/
theorem cmp_bl {op : CmpOp} {x y d : D} {h h' : Hh} (e : cmpD op x y h = .ok d h') : ∃ kk, d = .bl kk := by
  unfold cmpD ofB at e
  split at e <;> first | (cases e; exact ⟨_, rfl⟩) | (split at e <;> first | (cases e; exact ⟨_, rfl⟩) | cases e) | cases e
theorem Post.tru {K : PySem.W.Frag} {mg : Str → Option Value} {ρ : List Addr} {H : Hp} {E : XK} {r : Res D} {Q : Bool → Hp → Prop} (hb : ∀ d h, r = .ok d h → ∃ kk, d = .bl kk) (P : Post K mg RQ ρ H E (r.bind truR) Q) :
    Post K mg (RV K) ρ H E r fun x H' => ∃ kk, x = .bl kk ∧ Q kk H' := by
  cases r with
  | bad => exact P
  | exc _ _ _ => exact P
  | ok d h =>
    obtain ⟨kk, rfl⟩ := hb d h rfl
    intro ρ' H' x s rp rd
    cases rd
    exact ⟨kk, rfl, P ρ' H' kk s rp rfl⟩
theorem snd_cmp (G : Gx X N sc k c) {op : CmpOp} {a b : E} (ia : Snd X N sc c W a) (ib : Snd X N sc c W b) : Snd X N sc c W (.cmp op a b) := by
  have key : ∀ ast, chk N sc c (.cmp op a b) ast = true → ∃ l r p, ast = .Compare l [op] [r] p ∧ chk N sc c a l = true ∧ chk N sc c b r = true ∧ setB r = false := fun ast h => by
    cases ast <;> first | (simp only [chk] at h; cases h; done) | skip
    rename_i l os rs p
    match os, rs, h with
    | [], _, h => simp only [chk] at h; cases h
    | _ :: _ :: _, _, h => simp only [chk] at h; cases h
    | [o], [], h => simp only [chk] at h; cases h
    | [o], _ :: _ :: _, h => simp only [chk] at h; cases h
    | [o], [r], h =>
      simp only [chk, Bool.and_eq_true, decide_eq_true_eq, Bool.not_eq_true'] at h
      obtain ⟨⟨⟨rfl, h1⟩, h2⟩, h3⟩ := h
      exact ⟨l, r, p, rfl, h1, h2, h3⟩
  have pe : ∀ ast, chk N sc c (.cmp op a b) ast = true → PE X ast (rE X.K X.mg (den (.cmp op a b)).v W) := fun ast h => by
    obtain ⟨l, r, p, rfl, h1, h2, h3⟩ := key ast h
    exact PEimp (pe_cmpR (op_cmp G.un op) (ia.pe l h1) (ib.pe r h2) (mark_plain h3)) fun σ H Q q => two q
  refine ⟨pe, fun ast h => ?_, fun o xs p h => ?_, fun xs h => ?_, fun ast h => po_of (pe ast h), fun tg ast h => pi_of (pe ast h)⟩
  · obtain ⟨l, r, p, rfl, h1, h2, h3⟩ := key ast h
    refine PTimp (pt_cmpR (op_cmp G.un op) (ia.pe l h1) (ib.pe r h2) (mark_plain h3)) fun σ H Q q => ?_
    refine two (W := W) ?_
    obtain ⟨ρ, σ3, hh, rs, rp, P⟩ := q
    refine ⟨ρ, σ3, hh, rs, rp, Post.tru (fun d h' e => ?_) P⟩
    obtain ⟨x, h1, _, e⟩ := bind_inv e
    obtain ⟨y, h2, _, e⟩ := bind_inv e
    exact cmp_bl e
  · obtain ⟨l, r, p', e, _⟩ := key _ h
    cases e
  · cases xs <;> cases h

theorem mark2 {op op' : CmpOp} {m r : Expr} (h : setB r = false) : lastMarks [op, op'] [m, r] = false := by
  show behindInMarks op' r = false
  exact mark_plain h
theorem chain_of {op op' : CmpOp} {ma mb md : Sl → Hh → Res D} {σ : L2.St} {H : Hp} {Q : VK}
    (q : rE X.K X.mg (fun σ h => (ma σ h).bind fun x h1 => (mb σ h1).bind fun y h2 => (cmpD op x y h2).bind fun z h3 => boolR z ((md σ h3).bind fun w h4 => cmpD op' y w h4) (.ok (.bl false) h3)) W σ H Q) :
    tChain (r2 X.K X.mg (cmpD op)) (r2 X.K X.mg (cmpD op')) (rE X.K X.mg ma W) (rE X.K X.mg mb W) (rE X.K X.mg md W) σ H Q := by
  obtain ⟨ρ, σ3, h, rs, rp, P⟩ := q
  refine ⟨ρ, σ3, h, rs, rp, (Post.bind (RA := RV X.K) P).imp fun x H1 ⟨ρ1, a, h1, s1, rp1, ra, _, P1⟩ => ?_⟩
  refine ⟨ρ1, σ3, h1, rs.mono s1, rp1, (Post.bind (RA := RV X.K) P1).imp fun y H2 ⟨ρ2, b, h2, s2, rp2, rb, _, P2⟩ => ?_⟩
  refine ⟨ρ2, a, b, h2, _, ra.mono s2, rb, rp2, (Post.bind (RA := RV X.K) P2).imp fun z H3 ⟨ρ3, d, h3, s3, rp3, rd, _, P3⟩ => ?_⟩
  obtain ⟨kk, rfl, q⟩ := bool_of rd P3
  refine ⟨kk, rfl, ?_⟩
  cases kk with
  | false => rw [if_neg Bool.false_ne_true] at q ⊢; exact q.here rp3 (.bl _)
  | true =>
    rw [if_pos rfl] at q ⊢
    refine ⟨ρ3, σ3, h3, (rs.mono (s1.trans s2)).mono s3, rp3, (Post.bind (RA := RV X.K) q).imp fun w H4 ⟨ρ4, f, h4, s4, rp4, rf, _, P4⟩ => ?_⟩
    exact ⟨ρ4, b, f, h4, _, rb.mono (s3.trans s4), rf, rp4, P4⟩
theorem snd_chain (G : Gx X N sc k c) {op op' : CmpOp} {a b d : E} (ia : Snd X N sc c W a) (ib : Snd X N sc c W b) (id : Snd X N sc c W d) : Snd X N sc c W (.chain op op' a b d) := by
  have key : ∀ ast, chk N sc c (.chain op op' a b d) ast = true → ∃ l m r p, ast = .Compare l [op, op'] [m, r] p ∧ chk N sc c a l = true ∧ chk N sc c b m = true ∧ chk N sc c d r = true ∧ setB r = false := fun ast h => by
    cases ast <;> first | (simp only [chk] at h; cases h; done) | skip
    rename_i l os rs p
    match os, rs, h with
    | [], _, h => simp only [chk] at h; cases h
    | [_], _, h => simp only [chk] at h; cases h
    | _ :: _ :: _ :: _, _, h => simp only [chk] at h; cases h
    | [o, o'], [], h => simp only [chk] at h; cases h
    | [o, o'], [_], h => simp only [chk] at h; cases h
    | [o, o'], _ :: _ :: _ :: _, h => simp only [chk] at h; cases h
    | [o, o'], [m, r], h =>
      simp only [chk, Bool.and_eq_true, decide_eq_true_eq, Bool.not_eq_true'] at h
      obtain ⟨⟨⟨⟨⟨rfl, rfl⟩, h1⟩, h2⟩, h3⟩, h4⟩ := h
      exact ⟨l, m, r, p, rfl, h1, h2, h3, h4⟩
  have pe : ∀ ast, chk N sc c (.chain op op' a b d) ast = true → PE X ast (rE X.K X.mg (den (.chain op op' a b d)).v W) := fun ast h => by
    obtain ⟨l, m, r, p, rfl, h1, h2, h3, h4⟩ := key ast h
    exact PEimp (pe_chain (op_cmp G.un op) (op_cmp G.un op') (ia.pe l h1) (ib.pe m h2) (id.pe r h3) (mark2 h4)) fun σ H Q q => chain_of q
  refine ⟨pe, fun ast h => ?_, fun o xs p h => ?_, fun xs h => ?_, fun ast h => po_of (pe ast h), fun tg ast h => pi_of (pe ast h)⟩
  · obtain ⟨l, m, r, p, rfl, h1, h2, h3, h4⟩ := key ast h
    refine PTimp (pt_chain (op_cmp G.un op) (op_cmp G.un op') (ia.pe l h1) (ib.pe m h2) (id.pe r h3) (mark2 h4)) fun σ H Q q => ?_
    refine chain_of (W := W) ?_
    obtain ⟨ρ, σ3, hh, rs, rp, P⟩ := q
    refine ⟨ρ, σ3, hh, rs, rp, Post.tru (fun d h' e => ?_) P⟩
    obtain ⟨x, h1, _, e⟩ := bind_inv e
    obtain ⟨y, h2, _, e⟩ := bind_inv e
    obtain ⟨z, h3, _, e⟩ := bind_inv e
    unfold boolR at e
    split at e
    · obtain ⟨w, h4, _, e⟩ := bind_inv e
      exact cmp_bl e
    · cases e; exact ⟨_, rfl⟩
    · cases e
  · obtain ⟨l, m, r, p', e, _⟩ := key _ h
    cases e
  · cases xs <;> cases h
theorem snd_ife {t a b : E} (it : Snd X N sc c W t) (ia : Snd X N sc c W a) (ib : Snd X N sc c W b) : Snd X N sc c W (.ife t a b) := by
  have key : ∀ ast, chk N sc c (.ife t a b) ast = true → ∃ ct x y p, ast = .IfExp ct x y p ∧ chk N sc c t ct = true ∧ chk N sc c a x = true ∧ chk N sc c b y = true := fun ast h => by
    cases ast <;> first | (simp only [chk] at h; cases h; done) | skip
    rename_i ct x y p
    simp only [chk, Bool.and_eq_true] at h
    exact ⟨ct, x, y, p, rfl, h.1.1, h.1.2, h.2⟩
  have pe : ∀ ast, chk N sc c (.ife t a b) ast = true → PE X ast (rE X.K X.mg (den (.ife t a b)).v W) := fun ast h => by
    obtain ⟨ct, x, y, p, rfl, h1, h2, h3⟩ := key ast h
    refine PEimp (pe_ifExp (it.pt ct h1) (ia.pe x h2) (ib.pe y h3)) fun σ H Q q => ?_
    obtain ⟨ρ, σ3, hh, rs, rp, P⟩ := q
    refine ⟨ρ, σ3, hh, rs, rp, (Post.bind (RA := RQ) (r := (den t).t σ3 hh) P).imp fun kk H1 ⟨ρ1, d, h1, s1, rp1, rd, _, P1⟩ => ?_⟩
    subst rd
    cases d with
    | true => rw [if_pos rfl] at P1 ⊢; exact ⟨ρ1, σ3, h1, rs.mono s1, rp1, P1⟩
    | false => rw [if_neg Bool.false_ne_true] at P1 ⊢; exact ⟨ρ1, σ3, h1, rs.mono s1, rp1, P1⟩
  refine ⟨pe, fun ast h => ?_, fun o xs p h => ?_, fun xs h => ?_, fun ast h => po_of (pe ast h), fun tg ast h => pi_of (pe ast h)⟩
  · exact ⟨fun pins s σ H Q I q => by obtain ⟨_, _, _, _, _, P⟩ := q; exact P.elim⟩
  · obtain ⟨ct, x, y, p', e, _⟩ := key _ h
    cases e
  · cases xs <;> cases h
theorem lay_tup {K : PySem.W.Frag} {mg : Str → Option Value} {ρ : List Addr} {H : Hp} {h : Hh} {E : XK} {ds : List D} {vs : List V} {p : Addr} {Q : VK} (rp : Rep K mg ρ h H) (rd : RDs K ρ H ds vs) (hp : H p = none)
    (P : Post K mg (RV K) ρ H E (.ok (.tup ds) h) Q) : Q (.ref p) (upd H p (.tup vs)) :=
  P.to (Step.beside hp) (rp.beside hp) (.tup (SqT.of upd_same) (rd.mono (Step.beside hp)))
theorem le_line {n : Nat} (h : n ≤ 1000) : n ≤ sizeLine := Nat.le_of_lt (small1000 h)
theorem snd_tup {es : E} (ie : Snd X N sc c W es) : Snd X N sc c W (.tup es) := by
  refine .plain rfl (fun xs => by cases xs <;> rfl) (fun ast h => ?_) (fun ast h => ?_)
  · cases ast <;> first | rfl | (simp only [chk] at h; cases h; done)
  · cases ast <;> first | (simp only [chk] at h; cases h; done) | skip
    rename_i xs kk pos
    simp only [chk] at h
    refine PEimp (pe_tup (ie.pa xs h)) fun σ H Q q => ?_
    obtain ⟨ρ, σ3, hh, rs, rp, P⟩ := q
    refine ⟨ρ, σ3, hh, rs, rp, (Post.bind (RA := RL X.K) P).imp fun vs H1 ⟨ρ1, ds, h1, s1, rp1, rd, _, P1⟩ => ?_⟩
    unfold tupR at P1
    split at P1
    · rename_i hl
      exact ⟨by rw [← rd.length]; exact le_line hl, fun p hp => lay_tup rp1 rd hp P1⟩
    · exact P1.elim
theorem snd_lst {es : E} (ie : Snd X N sc c W es) : Snd X N sc c W (.lst es) := by
  refine .plain rfl (fun xs => by cases xs <;> rfl) (fun ast h => ?_) (fun ast h => ?_)
  · cases ast <;> first | rfl | (simp only [chk] at h; cases h; done)
  · cases ast <;> first | (simp only [chk] at h; cases h; done) | skip
    rename_i xs pos
    simp only [chk] at h
    refine PEimp (pe_lst (ie.pa xs h)) fun σ H Q q => ?_
    obtain ⟨ρ, σ3, hh, rs, rp, P⟩ := q
    refine ⟨ρ, σ3, hh, rs, rp, (Post.bind (RA := RL X.K) P).imp fun vs H1 ⟨ρ1, ds, h1, s1, rp1, rd, _, P1⟩ => ?_⟩
    unfold lstR at P1
    split at P1
    · rename_i hl
      exact ⟨by rw [← rd.length]; exact le_line hl, fun p hp => P1.to (lay_step hp) (rp1.layL hp rd) (.ref (lay_at rp1))⟩
    · exact P1.elim
theorem snd_sub {a i : E} (ia : Snd X N sc c W a) (ii : Snd X N sc c W i) : Snd X N sc c W (.sub a i) := by
  refine .plain rfl (fun xs => by cases xs <;> rfl) (fun ast h => ?_) (fun ast h => ?_)
  · cases ast <;> first | rfl | (simp only [chk] at h; cases h; done)
  · cases ast <;> first | (simp only [chk] at h; cases h; done) | skip
    rename_i x y pos
    simp only [chk, Bool.and_eq_true, Bool.not_eq_true'] at h
    exact PEimp (pe_ix ix_any (ia.pe x h.1.1) (ii.pe y h.1.2) (plain_ix h.2)) fun σ H Q q => two q
theorem po_any {e : E} (ie : Snd X N sc c W e) {o : Option Expr} (h : (match o with | none => e.isNil | some y => chk N sc c e y) = true) : PO X o (rO X.K X.mg (den e).o W) := by
  cases o with
  | none =>
    cases e <;> first | (cases h; done) | skip
    exact POimp po_none fun σ H Q ⟨ρ, σ3, hh, rs, rp, P⟩ => P.here rp rfl
  | some y => exact ie.po y h
theorem snd_slc {a lo hi : E} (ia : Snd X N sc c W a) (il : Snd X N sc c W lo) (ih : Snd X N sc c W hi) : Snd X N sc c W (.slc a lo hi) := by
  refine .plain rfl (fun xs => by cases xs <;> rfl) (fun ast h => ?_) (fun ast h => ?_)
  · cases ast <;> first | rfl | (simp only [chk] at h; cases h; done)
  · cases ast <;> first | (simp only [chk] at h; cases h; done) | skip
    rename_i x y pos
    cases y <;> first | (simp only [chk] at h; cases h; done) | skip
    rename_i l u st p
    cases st with
    | some _ => simp only [chk] at h; cases h
    | none =>
      simp only [chk, Bool.and_eq_true] at h
      refine PEimp (pe_slice sl_any (ia.pe x h.1.1) (po_any il h.1.2) (po_any ih h.2)) fun σ H Q q => ?_
      obtain ⟨ρ, σ3, hh, rs, rp, P⟩ := q
      refine ⟨ρ, σ3, hh, rs, rp, (Post.bind (RA := RV X.K) P).imp fun v H1 ⟨ρ1, d, h1, s1, rp1, rd, _, P1⟩ => ?_⟩
      refine ⟨ρ1, σ3, h1, rs.mono s1, rp1, (Post.bind (RA := RQ) P1).imp fun l H2 ⟨ρ2, l', h2, s2, rp2, e2, _, P2⟩ => ?_⟩
      subst e2
      refine ⟨ρ2, σ3, h2, rs.mono (s1.trans s2), rp2, (Post.bind (RA := RQ) P2).imp fun u H3 ⟨ρ3, u', h3, s3, rp3, e3, _, P3⟩ => ?_⟩
      subst e3
      exact ⟨ρ3, d, h3, _, rd.mono (s2.trans s3), rp3, P3⟩
theorem snd_nil : Snd X N sc c W .nil := by
  refine ⟨fun ast h => ?_, fun ast h => ?_, fun op xs p h => ?_, fun xs h => ?_, fun ast h => ?_, fun tg ast h => ?_⟩
  · cases ast <;> (simp only [chk] at h; cases h; done)
  · cases ast <;> (simp only [chk] at h; cases h; done)
  · simp only [chk] at h; cases h
  · cases xs with
    | nil => exact PAimp pa_nil fun σ H Q ⟨ρ, σ3, hh, rs, rp, P⟩ => P.here rp .nil
    | cons _ _ => simp only [chkA] at h; cases h
  · cases ast <;> (simp only [chk] at h; cases h; done)
  · cases ast <;> (simp only [chk] at h; cases h; done)
theorem snd_cons {e es : E} (i1 : Snd X N sc c W e) (i2 : Snd X N sc c W es) : Snd X N sc c W (.cons e es) := by
  refine ⟨fun ast h => ?_, fun ast h => ?_, fun op xs p h => ?_, fun xs h => ?_, fun ast h => ?_, fun tg ast h => ?_⟩
  · cases ast <;> (simp only [chk] at h; cases h; done)
  · cases ast <;> (simp only [chk] at h; cases h; done)
  · simp only [chk] at h; cases h
  · cases xs with
    | nil => simp only [chkA] at h; cases h
    | cons x xs =>
      simp only [chkA, Bool.and_eq_true, Bool.not_eq_true'] at h
      refine PAimp (pa_cons (i1.pe x h.1.1) (i2.pa xs h.2) (star_cons h.1.2)) fun σ H Q q => ?_
      obtain ⟨ρ, σ3, hh, rs, rp, P⟩ := q
      refine ⟨ρ, σ3, hh, rs, rp, (Post.bind (RA := RV X.K) (r := (den e).v σ3 hh) P).imp fun v H1 ⟨ρ1, d, h1, s1, rp1, rd, _, P1⟩ => ?_⟩
      refine ⟨ρ1, σ3, h1, rs.mono s1, rp1, (Post.bind (RA := RL X.K) P1).imp fun vs H2 ⟨ρ2, ds, h2, s2, rp2, rds, _, P2⟩ => ?_⟩
      exact P2.here rp2 (.cons (rd.mono s2) rds)
  · cases ast <;> (simp only [chk] at h; cases h; done)
  · cases ast <;> (simp only [chk] at h; cases h; done)
end
end L3

namespace L3
open PySem L2

section
variable {X : Cx} {N : List Str} {sc : Scope} {c : Bool} {W : WX} {k : Nat}
/-- f(), what is raised wished for at the slots -/
theorem pe_call0S {CX : CXT} {f : Addr} {fd : FuncData} {ps : List Str} {sp : Sp} {E : L2.St → XK} {x : Str} {p pos : Pos} (F : FnOk X.prog X.w X.K X.mg X.base CX k f fd ps sp) (hr : Room k X.A) (hg : Gl X x) (hm : X.mg x = some (.ref f))
    (hk : PySem.W.keepIn X.K (.ref f) = true) {ds : List Value} {dvs : List V} (hb : Binds X.K fd ps ds) (hd : Vals dvs ds) (hx : ∀ σ, PassesAt CX X σ (E σ)) (hdb : (x == ("__debug__" : Str)) = false) : PE X (.Call (.Name x p) [] [] pos) (tCallSD sp dvs E tNil) :=
  ⟨fun pins s σ H Q I h => wpAny_Call_Name_kw (ld_glob I hg hm (PySem.W.callWith_K0 I.kIn hk (run_fnSD (us := []) (vs := []) F hr hb hd (hx σ) I .nil h)) hdb)⟩
theorem snd_call (G : Gx X N sc k c) (tk : Takes X W) {f : Fn} {x : Str} {es : E} (cal : Cal X.prog X.w X.K X.mg X.base k x f) (ie : Snd X N sc c W es) : Snd X N sc c W (.call f x es) := by
  refine .plain rfl (fun xs => by cases xs <;> rfl) (fun ast h => ?_) (fun ast h => ?_)
  · cases ast <;> first | rfl | (simp only [chk] at h; cases h; done)
  · cases ast <;> first | (simp only [chk] at h; cases h; done) | skip
    rename_i fe args kws pos
    cases fe <;> first | (simp only [chk] at h; cases h; done) | skip
    rename_i y p
    cases kws with
    | cons _ _ => simp only [chk] at h; cases h
    | nil =>
      simp only [chk, Bool.and_eq_true, decide_eq_true_eq] at h
      obtain ⟨⟨⟨hc, rfl⟩, hg⟩, ha⟩ := h
      obtain ⟨a, fd, ps, ws, dv, dd, f0, hm, hk, hb, hv, hrd, hf, F⟩ := cal
      obtain ⟨g1, g2, g3⟩ := G.glob hg
      have hr := (G.run hc).2
      have fin : ∀ σ H Q, rE X.K X.mg (fun σ h => ((den es).a σ h).bind f) W σ H Q → tCallSD (spF X.K X.mg f0) dv (WE W) (rA X.K X.mg (den es).a W) σ H Q := fun σ H Q q => by
        obtain ⟨ρ, σ3, hh, rs, rp, P⟩ := q
        refine ⟨ρ, σ3, hh, rs, rp, (Post.bind (RA := RL X.K) P).imp fun vs H1 ⟨ρ1, ds, h1, s1, rp1, rd, _, P1⟩ => ?_⟩
        exact ⟨ρ1, ds ++ dd, h1, rd.append (hrd _ _), rp1, by rw [← hf]; exact P1⟩
      cases args with
      | nil =>
        refine PEimp (pe_call0S F hr g1 hm hk hb hv (fun σ => passAt tk σ) g2) fun σ H Q q => ?_
        cases es <;> first | (simp only [chkA] at ha; cases ha; done) | skip
        obtain ⟨ρ, σ3, hh, rs, rp, P⟩ := q
        exact ⟨ρ, [] ++ dd, hh, hrd _ _, rp, by rw [← hf]; exact P⟩
      | cons e es' =>
        have st := chkA_star ha
        exact PEimp (pe_callSD F hr g1 hm hk hb hv (fun σ => passAt tk σ) (ie.pa _ ha) g2 (star_cons (st e List.mem_cons_self)) (star_any fun z hz => st z (List.mem_cons_of_mem _ hz))) fin
theorem boot_bi (b : Bi) : (∃ id, bootBuiltins b.name = some (.builtin id) ∧ (X.calm = true → CallR X (.builtin id) (rBi X.K X.mg (biD b)))) ∨ ∃ T, bootBuiltins b.name = some (.type T) ∧ CallR X (.type T) (rBi X.K X.mg (biD b)) := by
  cases b with
  | abs => exact .inl ⟨"abs", by decide +kernel, fun _ => bi_abs⟩
  | len => exact .inl ⟨"len", by decide +kernel, fun _ => bi_len⟩
  | list => exact .inr ⟨"list", by decide +kernel, bi_list⟩
  | min => exact .inl ⟨"min", by decide +kernel, bi_min⟩
  | max => exact .inl ⟨"max", by decide +kernel, bi_max⟩
theorem snd_bi (G : Gx X N sc k c) {b : Bi} {es : E} (hm : X.mg b.name = none) (ie : Snd X N sc c W es) : Snd X N sc c W (.bi b es) := by
  refine .plain rfl (fun xs => by cases xs <;> rfl) (fun ast h => ?_) (fun ast h => ?_)
  · cases ast <;> first | rfl | (simp only [chk] at h; cases h; done)
  · cases ast <;> first | (simp only [chk] at h; cases h; done) | skip
    rename_i fe args kws pos
    cases fe <;> first | (simp only [chk] at h; cases h; done) | skip
    rename_i y p
    cases kws with
    | cons _ _ => simp only [chk] at h; cases h
    | nil =>
      simp only [chk, Bool.and_eq_true, decide_eq_true_eq, Bool.not_eq_true'] at h
      obtain ⟨⟨⟨⟨hc, rfl⟩, hg⟩, ha⟩, hne⟩ := h
      obtain ⟨g1, g2, g3⟩ := G.glob hg
      cases args with
      | nil => cases hne
      | cons e es' =>
        have st := chkA_star ha
        have fin : ∀ σ H Q, rE X.K X.mg (fun σ h => ((den es).a σ h).bind (biD b)) W σ H Q → tCB (rBi X.K X.mg (biD b)) (rA X.K X.mg (den es).a W) σ H Q := fun σ H Q q => by
          obtain ⟨ρ, σ3, hh, rs, rp, P⟩ := q
          refine ⟨ρ, σ3, hh, rs, rp, (Post.bind (RA := RL X.K) P).imp fun vs H1 ⟨ρ1, ds, h1, s1, rp1, rd, _, P1⟩ => ?_⟩
          exact ⟨ρ1, ds, h1, _, rd, rp1, P1⟩
        rcases boot_bi (X := X) b with ⟨id, hv, hr⟩ | ⟨T, hv, hr⟩
        · exact PEimp (pe_callB (hr (G.run hc).1) g1 hm hv (ie.pa _ ha) g3 g2 (star_cons (st e List.mem_cons_self)) (star_any fun z hz => st z (List.mem_cons_of_mem _ hz))) fin
        · exact PEimp (pe_callTy hr g1 hm hv (ie.pa _ ha) g3 g2 (star_cons (st e List.mem_cons_self)) (star_any fun z hz => st z (List.mem_cons_of_mem _ hz))) fin
theorem ty_of {K : PySem.W.Frag} {mg : Str → Option Value} {ρ : List Addr} {H : Hp} {h : Hh} {x : D} {v : V} {s : Kd} (T : Ty) (rp : Rep K mg ρ h H) (r : RD K ρ H x v) (e : tyD x h = some s) : TyX K H v (.type s.name) ∧ kitB s.name T.name = some (isTy s T) := by
  unfold tyD at e
  split at e
  · cases e; cases r; exact ⟨.base .non, by cases T <;> decide +kernel⟩
  · cases e; cases r; exact ⟨.base (.bl _), by cases T <;> decide +kernel⟩
  · cases e; cases r; exact ⟨.base (.int _), by cases T <;> decide +kernel⟩
  · cases e; cases r; exact ⟨.base (.str _), by cases T <;> decide +kernel⟩
  · cases e
    cases r with
    | tup hq rs =>
      refine ⟨?_, by cases T <;> decide +kernel⟩
      rcases hq with (hq | ⟨o, hq⟩) | ⟨o, its, n, hk, hc, _⟩
      · exact .base (.tup hq)
      · exact .fTuple hq
      · exact .kTuple hk hc
  · cases e
    cases r with
    | rol hq rs =>
      refine ⟨?_, by cases T <;> decide +kernel⟩
      rcases hq with ⟨o, hq⟩ | ⟨o, its, n, hk, hc, _⟩
      · exact .base (.frz hq)
      · exact .kList hk hc
  · split at e
    · rename_i hx
      cases e
      obtain ⟨a, vs, rfl, hn, g, rs⟩ := lst_at rp r hx
      exact ⟨.base (.lst g), by cases T <;> decide +kernel⟩
    · rename_i hx
      cases e
      cases r with
      | ref hn =>
        obtain ⟨vks, e1, rk⟩ := rp.obj _ _ _ hn hx
        exact ⟨.base (.dK e1), by cases T <;> decide +kernel⟩
    · cases e
theorem boot_ty (t : Ty) : bootBuiltins (Str.ofString t.name) = some (.type t.name) := by cases t <;> decide +kernel
theorem snd_isi (G : Gx X N sc k c) {a : E} {t : Ty} (hi : X.mg "isinstance" = none) (ht : X.mg (Str.ofString t.name) = none) (ia : Snd X N sc c W a) : Snd X N sc c W (.isi a t) := by
  refine .plain rfl (fun xs => by cases xs <;> rfl) (fun ast h => ?_) (fun ast h => ?_)
  · cases ast <;> first | rfl | (simp only [chk] at h; cases h; done)
  · cases ast <;> first | (simp only [chk] at h; cases h; done) | skip
    rename_i fe args kws pos
    cases fe <;> first | (simp only [chk] at h; cases h; done) | skip
    rename_i y p
    match args, kws, h with
    | [], _, h => simp only [chk] at h; cases h
    | [_], _, h => simp only [chk] at h; cases h
    | _ :: _ :: _ :: _, _, h => simp only [chk] at h; cases h
    | [x, z], _ :: _, h => cases z <;> (simp only [chk] at h; cases h; done)
    | [x, z], [], h =>
      cases z <;> first | (simp only [chk] at h; cases h; done) | skip
      rename_i z pz
      simp only [chk, Bool.and_eq_true, decide_eq_true_eq, Bool.not_eq_true'] at h
      obtain ⟨⟨⟨⟨⟨rfl, h1⟩, rfl⟩, h2⟩, h3⟩, h4⟩ := h
      obtain ⟨g1, g2, g3⟩ := G.glob h1
      obtain ⟨q1, q2, q3⟩ := G.glob h2
      refine PEimp (pe_callB call_isi g1 hi (by decide +kernel) (pa_cons (ia.pe x h3) (pa_cons (pe_bltn (v := .ty t.name) q1 ht (boot_ty t) rfl q3 q2) pa_nil) (star_cons h4)) g3 g2 (star_cons h4) rfl) fun σ H Q q => ?_
      obtain ⟨ρ, σ3, hh, rs, rp, P⟩ := q
      refine ⟨ρ, σ3, hh, rs, rp, (Post.bind (RA := RV X.K) P).imp fun v H1 ⟨ρ1, d, h1, s1, rp1, rd, _, P1⟩ => ?_⟩
      unfold isiR at P1
      split at P1
      · rename_i s es
        obtain ⟨ty, kb⟩ := ty_of t rp1 rd es
        exact ⟨v, _, _, _, _, rfl, .ty t.name, ty, kit_ty kb, P1.here rp1 (.bl _)⟩
      · exact P1.elim

/-- a method of a list, by values -/
def rBm (K : PySem.W.Frag) (mg : Str → Option Value) (m : Bm) : V → List V → Hp → VK → Prop := fun x vs H Q => ∃ ρ d ds h E, RD K ρ H d x ∧ RDs K ρ H ds vs ∧ Rep K mg ρ h H ∧ Post K mg (RV K) ρ H E (bmD m d ds h) Q
theorem rds_dropLast {K : PySem.W.Frag} {ρ : List Addr} {H : Hp} {ds : List D} {vs : List V} (r : RDs K ρ H ds vs) : RDs K ρ H ds.dropLast vs.dropLast := by
  rw [List.dropLast_eq_take, List.dropLast_eq_take, r.length]
  exact r.take _
theorem bm_append : MtR X "list.append" (rBm X.K X.mg .append) := by
  intro pins s σ H x xs v us Q I rx r hr
  obtain ⟨ρ, d, ds, h, E, rd, rs, rp, P⟩ := hr
  unfold bmD at P
  split at P
  · rename_i n y e1
    split at P
    · rename_i ys e2
      split at P
      · rename_i hl
        obtain ⟨a, vs, rfl, hn, g, rl⟩ := lst_at rp rd e2
        cases rs with
        | cons r1 r2 =>
          cases r2
          refine mt_append pins s σ H _ _ v us Q I rx r ⟨a, vs, _, rfl, rfl, g, by rw [← rl.length]; exact hl, ?_⟩
          obtain ⟨rp', st⟩ := rp.put (o' := .lst (ys ++ [y])) (u := .lst (vs ++ [_])) hn fun st => ⟨_, upd_same, (rl.append (.cons r1 .nil)).mono st⟩
          exact P.to st rp' .non
      · exact P.elim
    · exact P.elim
  · rename_i e1; cases e1
  · exact P.elim
theorem bm_pop : MtR X "list.pop" (rBm X.K X.mg .pop) := by
  intro pins s σ H x xs v us Q I rx r hr
  obtain ⟨ρ, d, ds, h, E, rd, rs, rp, P⟩ := hr
  unfold bmD at P
  split at P
  · rename_i e1; cases e1
  · rename_i n e1
    split at P
    · rename_i ys e2
      split at P
      · rename_i y ey
        obtain ⟨a, vs, rfl, hn, g, rl⟩ := lst_at rp rd e2
        cases rs
        obtain ⟨w, ew, rw'⟩ := rl.get ey
        refine mt_pop pins s σ H _ _ v us Q I rx r ⟨a, vs, w, rfl, rfl, g, by rw [← rl.length]; exact ew, ?_⟩
        obtain ⟨rp', st⟩ := rp.put (o' := .lst ys.dropLast) (u := .lst vs.dropLast) hn fun st => ⟨_, upd_same, (rds_dropLast rl).mono st⟩
        exact P.to st rp' (rw'.mono st)
      · exact P.elim
    · exact P.elim
  · exact P.elim
theorem bm_ty {K : PySem.W.Frag} {mg : Str → Option Value} {ρ : List Addr} {H : Hp} {h : Hh} {d : D} {v : V} {m : Bm} (rp : Rep K mg ρ h H) (r : RD K ρ H d v) (e : bmOk m d h = true) : tyV K "list" v H := by
  unfold bmOk at e
  split at e
  · split at e
    · rename_i hx
      obtain ⟨a, vs, rfl, hn, g, rs⟩ := lst_at rp r hx
      exact .inl ⟨rfl, _, SqL.of g⟩
    · cases e
  · cases e
theorem few_of {cp : Pos} {env : Env} {es : List Expr} (h : ∀ e ∈ es, starB e = false) (hl : es.length < 30) :
    ((backTo cp (starEach es env)).all (fun x => !x.1) && (backToKw cp (keywordEach [] env)).all (fun x => x.1.isSome) && decide (es.length + ([] : List Keyword).length + (if ([] : List Keyword).isEmpty then 0 else 1) < 30)) = true := by
  have h1 := star_any (env := env) (pos := cp) h
  have h2 : (backTo cp (starEach es env)).all (fun x => !x.1) = true := by
    rw [List.all_eq_true]
    intro x hx
    rw [List.any_eq_false] at h1
    have := h1 x hx
    simpa using this
  rw [h2]
  have h3 : decide (es.length + ([] : List Keyword).length + (if ([] : List Keyword).isEmpty then 0 else 1) < 30) = true := by
    simp only [List.length_nil, List.isEmpty_nil, if_true]
    exact decide_eq_true (by omega)
  rw [h3]
  rfl
theorem snd_bm (G : Gx X N sc k c) {m : Bm} {o es : E} (io : Snd X N sc c W o) (ie : Snd X N sc c W es) : Snd X N sc c W (.bm m o es) := by
  refine .plain rfl (fun xs => by cases xs <;> rfl) (fun ast h => ?_) (fun ast h => ?_)
  · cases ast <;> first | rfl | (simp only [chk] at h; cases h; done)
  · cases ast <;> first | (simp only [chk] at h; cases h; done) | skip
    rename_i fe args kws cp
    cases fe <;> first | (simp only [chk] at h; cases h; done) | skip
    rename_i x n ap
    cases kws with
    | cons _ _ => simp only [chk] at h; cases h
    | nil =>
      simp only [chk, Bool.and_eq_true, decide_eq_true_eq, Bool.not_eq_true'] at h
      obtain ⟨⟨⟨⟨⟨rfl, hx⟩, hcb⟩, ha⟩, hline⟩, hl⟩ := h
      have st := chkA_star ha
      have hline' : (ap.endLine == cp.line) = true := by rw [hline]; exact beq_self_eq_true _
      have fin : ∀ σ H Q, rE X.K X.mg (fun σ h => ((den o).v σ h).bind fun x h1 => if bmOk m x h1 = true then ((den es).a σ h1).bind fun ds h2 => bmD m x ds h2 else .bad) W σ H Q →
          tBM X.K "list" (rBm X.K X.mg m) (rE X.K X.mg (den o).v W) (rA X.K X.mg (den es).a W) σ H Q := fun σ H Q q => by
        obtain ⟨ρ, σ3, hh, rs, rp, P⟩ := q
        refine ⟨ρ, σ3, hh, rs, rp, (Post.bind (RA := RV X.K) P).imp fun v H1 ⟨ρ1, d, h1, s1, rp1, rd, _, P1⟩ => ?_⟩
        split at P1
        · rename_i hok
          refine ⟨bm_ty rp1 rd hok, ρ1, σ3, h1, rs.mono s1, rp1, (Post.bind (RA := RL X.K) P1).imp fun vs H2 ⟨ρ2, ds, h2, s2, rp2, rds, _, P2⟩ => ?_⟩
          exact ⟨ρ2, d, ds, h2, _, rd.mono s2, rds, rp2, P2⟩
        · exact P1.elim
      have fin0 : es = .nil → ∀ σ H Q, rE X.K X.mg (fun σ h => ((den o).v σ h).bind fun x h1 => if bmOk m x h1 = true then ((den es).a σ h1).bind fun ds h2 => bmD m x ds h2 else .bad) W σ H Q →
          tBM0 X.K "list" (rBm X.K X.mg m) (rE X.K X.mg (den o).v W) σ H Q := fun e σ H Q q => by
        subst e
        obtain ⟨ρ, σ3, hh, rs, rp, P⟩ := q
        refine ⟨ρ, σ3, hh, rs, rp, (Post.bind (RA := RV X.K) P).imp fun v H1 ⟨ρ1, d, h1, s1, rp1, rd, _, P1⟩ => ?_⟩
        split at P1
        · rename_i hok
          exact ⟨bm_ty rp1 rd hok, ρ1, d, [], h1, _, rd, .nil, rp1, P1⟩
        · exact P1.elim
      cases args with
      | nil =>
        have e : es = .nil := by cases es <;> first | rfl | (simp only [chkA] at ha; cases ha)
        cases m with
        | append => exact PEimp (pe_bm0 PySem.F.plainAttrs_list PySem.F.slot_list_append PySem.F.type_list_append bm_append (io.pe x hx) (base_plain hcb) hline') (fin0 e)
        | pop => exact PEimp (pe_bm0 PySem.F.plainAttrs_list PySem.F.slot_list_pop PySem.F.type_list_pop bm_pop (io.pe x hx) (base_plain hcb) hline') (fin0 e)
      | cons e es' =>
        have s1 := star_cons (es := es') (env := X.env) (st e List.mem_cons_self)
        have s2 := star_any (env := X.env) (pos := cp) (es := es') fun z hz => st z (List.mem_cons_of_mem _ hz)
        cases m with
        | append => exact PEimp (pe_bm PySem.F.plainAttrs_list PySem.F.slot_list_append PySem.F.type_list_append bm_append (io.pe x hx) (ie.pa _ ha) (base_plain hcb) (few_of st hl) hline' s1 s2) fin
        | pop => exact PEimp (pe_bm PySem.F.plainAttrs_list PySem.F.slot_list_pop PySem.F.type_list_pop bm_pop (io.pe x hx) (ie.pa _ ha) (base_plain hcb) (few_of st hl) hline' s1 s2) fin
theorem evA_len {N : List Str} {sc : Scope} {c : Bool} : ∀ {es : E} {xs : List Expr} {σ : Sl} {h h' : Hh} {ds : List D}, chkA N sc c es xs = true → (den es).a σ h = .ok ds h' → ds.length = xs.length
  | .nil, [], _, _, _, _, _, e => by cases e; rfl
  | .cons e es, x :: xs, σ, h, h', ds, hc, q => by
    simp only [chkA, Bool.and_eq_true] at hc
    obtain ⟨d, h1, _, q⟩ := bind_inv (show ((den e).v σ h).bind (fun d h1 => ((den es).a σ h1).bind fun ds h2 => .ok (d :: ds) h2) = .ok ds h' from q)
    obtain ⟨ds', h2, q1, q⟩ := bind_inv q
    cases q
    simp [evA_len hc.2 q1]
theorem snd_rng (G : Gx X N sc k c) {es : E} (hm : X.mg "range" = none) (ie : Snd X N sc c W es) : Snd X N sc c W (.rng es) := by
  have bad : ∀ ast, PE X ast (rE X.K X.mg (den (.rng es)).v W) := fun ast => ⟨fun pins s σ H Q I q => by obtain ⟨_, _, _, _, _, P⟩ := q; exact P.elim⟩
  refine ⟨fun ast h => bad ast, fun ast h => ⟨fun pins s σ H Q I q => by obtain ⟨_, _, _, _, _, P⟩ := q; exact P.elim⟩, fun o xs p h => ?_, fun xs h => ?_, fun ast h => po_of (bad ast), fun tg ast h => ?_⟩
  · simp only [chk] at h; cases h
  · cases xs <;> cases h
  · cases ast <;> first | (simp only [chk] at h; cases h; done) | skip
    rename_i fe args kws pos
    cases fe <;> first | (simp only [chk] at h; cases h; done) | skip
    rename_i y p
    cases kws with
    | cons _ _ => simp only [chk] at h; cases h
    | nil =>
      simp only [chk, Bool.and_eq_true, decide_eq_true_eq] at h
      rw [Bool.or_eq_true, decide_eq_true_eq, decide_eq_true_eq] at h
      obtain ⟨⟨⟨rfl, hg⟩, ha⟩, hl⟩ := h
      obtain ⟨g1, g2, g3⟩ := G.glob hg
      have st := chkA_star ha
      have never : ∀ σ H R, rIt X.K X.mg (den (.rng es)).i W σ H R → (rA X.K X.mg (den es).a W) σ H fun vs H1 => vs.length = args.length ∧ ((∃ j : Int, vs = [.int j] ∧ -(2 ^ 62) ≤ j ∧ j < 2 ^ 62 ∧ R (Itr 0 j.toNat) H1) ∨
          (∃ i j : Int, vs = [.int i, .int j] ∧ (-(2 ^ 62) ≤ i ∧ i < 2 ^ 62 ∧ -(2 ^ 62) ≤ j ∧ j < 2 ^ 62) ∧ R (Itr i (j - i).toNat) H1)) := fun σ H R q => by
        obtain ⟨ρ, σ3, hh, rs, rp, P⟩ := q
        refine ⟨ρ, σ3, hh, rs, rp, (Post.bind (RA := RL X.K) (r := (den es).a σ3 hh) P).imp fun vs H1 ⟨ρ1, ds, h1, s1, rp1, rds, eA, P1⟩ => ?_⟩
        refine ⟨by rw [← rds.length]; exact evA_len ha eA, ?_⟩
        unfold rngR rngD at P1
        split at P1
        · rename_i xs e
          split at e
          · split at e
            · rename_i j hb
              cases e
              cases rds with
              | cons r1 r2 =>
                cases r2; cases r1
                refine .inl ⟨_, rfl, hb.1, hb.2, P1.here rp1 ?_⟩
                have w := wk_rng (K := X.K) (mg := X.mg) (ρ := ρ1) (H := H1) (lo := 0) (n := j.toNat)
                simpa using w
            · cases e
          · split at e
            · rename_i hb
              cases e
              cases rds with
              | cons r1 r2 =>
                cases r2 with
                | cons r2 r3 =>
                  cases r3; cases r1; cases r2
                  exact .inr ⟨_, _, rfl, hb, P1.here rp1 wk_rng⟩
            · cases e
          · cases e
        · exact P1.elim
      match args, ha, st, hl, never with
      | [], ha, st, hl, never => simp at hl
      | [a], ha, st, hl, never =>
        refine PIimp (pi_range1 g1 hm (ie.pa _ ha) (star_cons (st a List.mem_cons_self))) fun σ H R q => ?_
        obtain ⟨ρ, σ3, hh, rs, rp, P⟩ := never σ H R q
        refine ⟨ρ, σ3, hh, rs, rp, P.imp fun vs H1 ⟨e, z⟩ => ?_⟩
        rcases z with z | ⟨i, j, rfl, _⟩
        · exact z
        · simp at e
      | [a, b], ha, st, hl, never =>
        have sb := st b (List.mem_cons_of_mem _ List.mem_cons_self)
        refine PIimp (pi_range2 g1 hm (ie.pa _ ha) (by rw [star_cons (st a List.mem_cons_self), star_cons sb]; rfl) (star_cons sb)) fun σ H R q => ?_
        obtain ⟨ρ, σ3, hh, rs, rp, P⟩ := never σ H R q
        refine ⟨ρ, σ3, hh, rs, rp, P.imp fun vs H1 ⟨e, z⟩ => ?_⟩
        rcases z with ⟨j, rfl, _⟩ | z
        · simp at e
        · exact z
      | a :: b :: d :: r, ha, st, hl, never => simp at hl
end
end L3

namespace L3
open PySem L2

theorem wipe_get (σ : L2.St) (j : Nat) : ∀ vs : List Nat, (L2.wipe σ vs)[j]? = if j ∈ vs then (σ[j]?).map (fun _ => none) else σ[j]?
  | [] => by simp [L2.wipe]
  | v :: vs => by
    unfold L2.wipe
    by_cases c : v = j
    · subst c
      rw [List.getElem?_set, if_pos rfl, if_pos List.mem_cons_self, wipe_length]
      by_cases hl : v < σ.length
      · rw [if_pos hl, List.getElem?_eq_getElem hl]; rfl
      · rw [if_neg hl, List.getElem?_eq_none (by omega)]; rfl
    · rw [List.getElem?_set_ne c, wipe_get σ j vs]
      by_cases h : j ∈ vs
      · rw [if_pos h, if_pos (List.mem_cons_of_mem _ h)]
      · rw [if_neg h, if_neg (by simp only [List.mem_cons, not_or]; exact ⟨fun e => c e.symm, h⟩)]
theorem wipe_same {σ σ' : L2.St} {vs ss : List Nat} (hs : ∀ i ∈ ss, i ∈ vs) (hk : ∀ j, j ∉ ss → σ'[j]? = (L2.wipe σ vs)[j]?) (hl : σ'.length = (L2.wipe σ vs).length) : L2.wipe σ' vs = L2.wipe σ vs := by
  apply List.ext_getElem?
  intro j
  rw [wipe_get, wipe_get]
  by_cases h : j ∈ vs
  · rw [if_pos h, if_pos h]
    by_cases hj : j < σ.length
    · have h1 : j < σ'.length := by rw [hl, wipe_length]; exact hj
      rw [List.getElem?_eq_getElem h1, List.getElem?_eq_getElem hj]; rfl
    · have h1 : ¬ j < σ'.length := by rw [hl, wipe_length]; exact hj
      rw [List.getElem?_eq_none (by omega), List.getElem?_eq_none (by omega)]
  · rw [if_neg h, if_neg h, hk j (fun z => h (hs j z)), wipe_get, if_neg h]

section
variable {K : PySem.W.Frag} {mg : Str → Option Value}
abbrev WF : WX := fun _ _ _ _ => False
theorem turns_go {f : D → Hh → Res (Option D)} {g : Gd} {n : Nat} {d : D} {ds : List D} {h h2 : Hh} (e : turns f g n (d :: ds) h = .ok () h2) :
    gdOk g h ∧ ((∃ h1, f d h = .ok none h1 ∧ turns f g n ds h1 = .ok () h2) ∨ ∃ y h1 acc, f d h = .ok (some y) h1 ∧ h1[n]? = some (.lst acc) ∧ acc.length < sizeLine ∧ turns f g n ds (h1.set n (.lst (acc ++ [y]))) = .ok () h2) := by
  unfold turns at e
  split at e
  · rename_i hg
    refine ⟨hg, ?_⟩
    obtain ⟨o, h1, e1, e⟩ := bind_inv e
    cases o with
    | none => exact .inl ⟨h1, e1, e⟩
    | some y =>
      refine .inr ⟨y, h1, ?_⟩
      dsimp only at e
      split at e
      · rename_i acc ea
        split at e
        · exact ⟨acc, e1, ea, by assumption, e⟩
        · cases e
      · cases e
  · cases e
theorem turns_end {f : D → Hh → Res (Option D)} {g : Gd} {n : Nat} {h h2 : Hh} (e : turns f g n [] h = .ok () h2) : gdOk g h ∧ h = h2 := by
  unfold turns at e
  split at e
  · cases e; exact ⟨by assumption, rfl⟩
  · cases e
theorem turnC_ok {g : Tg} {test : Sl → Hh → Res Bool} {elt : Sl → Hh → Res D} {σ : Sl} {d : D} {h h1 : Hh} {o : Option D} (e : turnC g test elt σ d h = .ok o h1) :
    ∃ σ2 kk h3, asgT g d σ = some σ2 ∧ test σ2 h = .ok kk h3 ∧ ((kk = true ∧ ∃ y, elt σ2 h3 = .ok y h1 ∧ o = some y) ∨ (kk = false ∧ o = none ∧ h3 = h1)) := by
  unfold turnC at e
  split at e
  · cases e
  · rename_i σ2 ea
    obtain ⟨kk, h3, e1, e⟩ := bind_inv e
    refine ⟨σ2, kk, h3, ea, e1, ?_⟩
    cases kk with
    | true =>
      rw [if_pos rfl] at e
      obtain ⟨y, h4, e2, e⟩ := bind_inv e
      cases e
      exact .inl ⟨rfl, y, e2, rfl⟩
    | false =>
      rw [if_neg Bool.false_ne_true] at e
      cases e
      exact .inr ⟨rfl, rfl, rfl⟩
/-- the reading of a comprehension -/
theorem comp_read {it : Sl → Hh → Res (List D × Gd)} {g : Tg} {test : Sl → Hh → Res Bool} {elt : Sl → Hh → Res D} {W : WX} {vs : List Nat} {σ : L2.St} {H : Hp} {Q : VK} (hs : ∀ i ∈ g.slots, i ∈ vs)
    (q : rE K mg (fun σ h => (it σ h).bind fun s h1 => compR (turnC g test elt (wipeD σ vs)) s h1) W σ H Q) :
    tLc (rIt K mg it W) (rG K mg g) (rT K mg test WF) (rE K mg elt WF) vs σ H Q := by
  obtain ⟨ρ, σ3, h, rs, rp, P⟩ := q
  refine ⟨ρ, σ3, h, rs, rp, (Post.bind (RA := Wk K mg) P).imp fun J H1 ⟨ρ1, s, h1, s1, rp1, wk, _, P1⟩ => ?_⟩
  intro Dd hD
  have rs1 := rs.mono s1
  unfold compR at P1
  -- the run has come to its end
  obtain ⟨hE, eT⟩ : ∃ h2, turns (turnC g test elt (wipeD σ3 vs)) s.2 h1.length s.1 (h1 ++ [.lst []]) = .ok () h2 := by
    cases e : turns (turnC g test elt (wipeD σ3 vs)) s.2 h1.length s.1 (h1 ++ [.lst []]) with
    | ok u h2 => exact ⟨h2, rfl⟩
    | exc _ _ _ => rw [e] at P1; exact P1.elim
    | bad => rw [e] at P1; exact P1.elim
  rw [eT] at P1
  have P2 : Post K mg (RV K) ρ1 H1 (fun c d H' => W c d σ H') (.ok (.ref h1.length) hE) Q := P1
  have st0 : Step ρ1 H1 (ρ1 ++ [Dd]) (upd H1 Dd (.lst [])) := lay_step hD
  have rp0 : Rep K mg (ρ1 ++ [Dd]) (h1 ++ [.lst []]) (upd H1 Dd (.lst [])) := rp1.layL hD .nil
  have atD : ∀ {ρ' : List Addr} {H' : Hp}, Step (ρ1 ++ [Dd]) (upd H1 Dd (.lst [])) ρ' H' → ρ'[h1.length]? = some Dd := fun st => pre_get st.pre (lay_at rp1)
  refine ⟨fun i m H' => m = s.1.length - i ∧ i ≤ s.1.length ∧ ∃ ρ' h', Step (ρ1 ++ [Dd]) (upd H1 Dd (.lst [])) ρ' H' ∧ Rep K mg ρ' h' H' ∧ turns (turnC g test elt (wipeD σ3 vs)) s.2 h1.length (s.1.drop i) h' = .ok () hE,
    ⟨_, rfl, Nat.zero_le _, _, _, Step.refl _ _, rp0, eT⟩, ?_⟩
  rintro i m H2 ⟨rfl, hi, ρ2, h2, st2, rp2, e2⟩
  by_cases hlt : i < s.1.length
  · obtain ⟨d, hd⟩ : ∃ d, s.1[i]? = some d := ⟨_, List.getElem?_eq_getElem hlt⟩
    have ed : s.1.drop i = d :: s.1.drop (i + 1) := by
      rw [List.drop_eq_getElem_cons hlt]
      rw [List.getElem?_eq_getElem hlt] at hd
      rw [Option.some.inj hd]
    rw [ed] at e2
    obtain ⟨gd, e3⟩ := turns_go e2
    obtain ⟨w1, w2⟩ := (wk i ρ2 H2 h2 (st0.trans st2) rp2 gd).1 d hd
    refine .inr ⟨w1, fun H' => ∃ ρ' h', Step (ρ1 ++ [Dd]) (upd H1 Dd (.lst [])) ρ' H' ∧ Rep K mg ρ' h' H' ∧ turns (turnC g test elt (wipeD σ3 vs)) s.2 h1.length (s.1.drop (i + 1)) h' = .ok () hE,
      fun H' z => ⟨_, by omega, rfl, hlt, z⟩, fun x H3 y => ?_⟩
    obtain ⟨st3, rp3, rd⟩ := w2 x H3 y
    have rs3 : RS K ρ2 H3 (wipeD σ3 vs) (L2.wipe σ vs) := (((rs1.mono st0).mono st2).mono st3).wipe vs
    have fin : ∀ {o : Option D} {h4 : Hh}, turnC g test elt (wipeD σ3 vs) d h2 = .ok o h4 → ((o = none ∧ turns (turnC g test elt (wipeD σ3 vs)) s.2 h1.length (s.1.drop (i + 1)) h4 = .ok () hE) ∨ ∃ y acc, o = some y ∧ h4[h1.length]? = some (.lst acc) ∧ acc.length < sizeLine ∧
        turns (turnC g test elt (wipeD σ3 vs)) s.2 h1.length (s.1.drop (i + 1)) (h4.set h1.length (.lst (acc ++ [y]))) = .ok () hE) →
        rG K mg g x (L2.wipe σ vs) H3 fun σ2 H2' => L2.wipe σ2 vs = L2.wipe σ vs ∧ rT K mg test WF σ2 H2' fun b H3' =>
          if b = true then rE K mg elt WF σ2 H3' fun y H4 => ∃ acc, H4 Dd = some (.lst acc) ∧ acc.length < sizeLine ∧
            (fun H' => ∃ ρ' h', Step (ρ1 ++ [Dd]) (upd H1 Dd (.lst [])) ρ' H' ∧ Rep K mg ρ' h' H' ∧ turns (turnC g test elt (wipeD σ3 vs)) s.2 h1.length (s.1.drop (i + 1)) h' = .ok () hE) (upd H4 Dd (.lst (acc ++ [y])))
          else (fun H' => ∃ ρ' h', Step (ρ1 ++ [Dd]) (upd H1 Dd (.lst [])) ρ' H' ∧ Rep K mg ρ' h' H' ∧ turns (turnC g test elt (wipeD σ3 vs)) s.2 h1.length (s.1.drop (i + 1)) h' = .ok () hE) H3' := by
      intro o h4 eC hE'
      obtain ⟨σ4, kk, h3, ea, et, hk⟩ := turnC_ok eC
      refine ⟨d, ρ2, wipeD σ3 vs, h2, rd, rs3, rp3, σ4, ea, fun σ' rs' hkp hlen => ⟨wipe_same hs hkp hlen, ρ2, σ4, h2, rs', rp3, ?_⟩⟩
      rw [et]
      intro ρ5 H5 b st5 rp5 eb
      subst eb
      rcases hk with ⟨rfl, y, ey, rfl⟩ | ⟨rfl, rfl, rfl⟩
      · rw [if_pos rfl]
        rcases hE' with ⟨z, _⟩ | ⟨y', acc, ey', ea', hl, eN⟩
        · cases z
        cases ey'
        refine ⟨ρ5, σ4, h3, rs'.mono st5, rp5, ?_⟩
        rw [ey]
        intro ρ6 H6 v st6 rp6 rv
        have stA := ((st2.trans st3).trans st5).trans st6
        obtain ⟨a, ws, e1, hn, gL, rl⟩ := lst_at rp6 (.ref (atD stA)) ea'
        cases e1
        obtain ⟨rp7, st7⟩ := rp6.put (o' := .lst (acc ++ [y])) (u := .lst (ws ++ [v])) hn fun st => ⟨_, upd_same, (rl.append (.cons rv .nil)).mono st⟩
        exact ⟨ws, gL, by rw [← rl.length]; exact hl, _, _, stA.trans st7, rp7, eN⟩
      · rw [if_neg Bool.false_ne_true]
        rcases hE' with ⟨_, eN⟩ | ⟨y', acc, ey', _⟩
        · exact ⟨_, _, (st2.trans st3).trans st5, rp5, eN⟩
        · cases ey'
    rcases e3 with ⟨h4, eC, eN⟩ | ⟨y, h4, acc, eC, ea, hl, eN⟩
    · exact fin eC (.inl ⟨rfl, eN⟩)
    · exact fin eC (.inr ⟨y, acc, rfl, ea, hl, eN⟩)
  · have ei : i = s.1.length := by omega
    subst ei
    rw [List.drop_length] at e2
    obtain ⟨gd, rfl⟩ := turns_end e2
    refine .inl ⟨(wk _ ρ2 H2 h2 (st0.trans st2) rp2 gd).2 (Nat.le_refl _), ?_⟩
    exact P2.to (st0.trans st2) rp2 (.ref (atD st2))
end

section
variable {X : Cx} {N : List Str} {sc : Scope} {c : Bool} {W : WX} {k : Nat}
theorem Gx.blk (G : Gx X N sc k c) (scope : Scope) (s : Shared) (H : Hp) (C : Addr) (cl : List (Str × Addr)) (fp : List Addr) : Gx (X.blk s H scope (compEnvC scope cl C X.env) fp) N (relS scope sc) k c :=
  ⟨G.hN, G.nd, by show relS scope X.env.scope = _; rw [G.hsc], G.un, G.run⟩
structure CompKey (X : Cx) (N : List Str) (sc : Scope) (c : Bool) (own : List (Str × Nat)) (g : Tg) (it test elt : E) (el tg iter : Expr) (ifs : List Expr) (scope : Scope) : Prop where
  hc : c = true
  hi : chk N sc c it iter = true
  hs : setB iter = false
  ok : blkC N sc scope own = true
  hg : chkG N (relS scope sc) (fun x => decide (scope.names.lookup x = some .cell)) g tg = true
  sl : ∀ i ∈ g.slots, i ∈ own.map (·.2)
  ht : (match ifs with | [] => test.isNil | [t] => chk N (relS scope sc) c test t | _ => false) = true
  he : chk N (relS scope sc) c elt el = true
theorem comp_key {own : List (Str × Nat)} {g : Tg} {it test elt : E} {ast : Expr} (h : chk N sc c (.comp own g it test elt) ast = true) :
    ∃ el tg iter ifs scope pos, ast = .ListComp el [⟨tg, iter, ifs, 0⟩] scope pos ∧ CompKey X N sc c own g it test elt el tg iter ifs scope := by
  cases ast <;> first | (simp only [chk] at h; cases h; done) | skip
  rename_i el gens scope pos
  match gens, h with
  | [], h => simp only [chk] at h; cases h
  | _ :: _ :: _, h => simp only [chk] at h; cases h
  | [⟨tg, iter, ifs, as⟩], h =>
    simp only [chk, Bool.and_eq_true, decide_eq_true_eq, Bool.not_eq_true', List.all_eq_true, List.contains_iff_mem] at h
    obtain ⟨⟨⟨⟨⟨⟨⟨⟨hc, rfl⟩, hi⟩, hs⟩, ok⟩, hg⟩, sl⟩, ht⟩, he⟩ := h
    exact ⟨el, tg, iter, ifs, scope, pos, rfl, hc, hi, hs, ok, hg, sl, ht, he⟩
/-- the parts that a comprehension's rules ask -/
theorem comp_parts (G : Gx X N sc k c) {own : List (Str × Nat)} {g : Tg} {it test elt : E} {el tg iter : Expr} {ifs : List Expr} {scope : Scope} (ck : CompKey X N sc c own g it test elt el tg iter ifs scope)
    (ii : Snd X N sc c W it) (i2 : ∀ s H C cl fp, Snd (X.blk s H scope (compEnvC scope cl C X.env) fp) N (relS scope sc) c WF test) (i3 : ∀ s H C cl fp, Snd (X.blk s H scope (compEnvC scope cl C X.env) fp) N (relS scope sc) c WF elt) :
    X.calm = true ∧ X.N.Nodup ∧ PI X tg iter (rIt X.K X.mg (den it).i W) ∧ BlkOk X.N X.env.scope scope own ∧ (∀ s H C cl fp, PG (X.blk s H scope (compEnvC scope cl C X.env) fp) tg (rG X.K X.mg g)) ∧
      (∀ s H C cl fp, PTs (X.blk s H scope (compEnvC scope cl C X.env) fp) ifs (rT X.K X.mg (den test).t WF)) ∧ (∀ s H C cl fp, PE (X.blk s H scope (compEnvC scope cl C X.env) fp) el (rE X.K X.mg (den elt).v WF)) := by
  refine ⟨(G.run ck.hc).1, by rw [G.hN]; exact G.nd, ii.pi tg iter ck.hi, by rw [G.hN, G.hsc]; exact blkOk_by ck.ok, fun s H C cl fp => ?_, fun s H C cl fp => ?_, fun s H C cl fp => (i3 s H C cl fp).pe el ck.he⟩
  · exact (pg_all (G.blk scope s H C cl fp) (fb := fun x => decide (scope.names.lookup x = some .cell)) (fun x hx => by
      show (scope.names.lookup x == some .cell) = true
      rw [of_decide_eq_true hx]; rfl) (G.run ck.hc).1 g).1 tg ck.hg
  · have ht := ck.ht
    split at ht
    · refine ⟨fun pins s' σ H' Q I q => ?_⟩
      refine pts_nil.run pins s' σ H' Q I ?_
      obtain ⟨ρ, σ3, hh, rs, rp, P⟩ := q
      cases test <;> first | (cases ht; done) | skip
      exact P.here rp rfl
    · exact pts_one ((i2 s H C cl fp).pt _ ht)
    · cases ht
theorem snd_comp (G : Gx X N sc k c) {own : List (Str × Nat)} {g : Tg} {it test elt : E} (ii : Snd X N sc c W it) (i2 : ∀ scope s H C cl fp, Snd (X.blk s H scope (compEnvC scope cl C X.env) fp) N (relS scope sc) c WF test)
    (i3 : ∀ scope s H C cl fp, Snd (X.blk s H scope (compEnvC scope cl C X.env) fp) N (relS scope sc) c WF elt) : Snd X N sc c W (.comp own g it test elt) := by
  refine .plain rfl (fun xs => by cases xs <;> rfl) (fun ast h => ?_) (fun ast h => ?_)
  · obtain ⟨el, tg, iter, ifs, scope, pos, rfl, _⟩ := comp_key (X := X) h
    rfl
  · obtain ⟨el, tg, iter, ifs, scope, pos, rfl, ck⟩ := comp_key (X := X) h
    obtain ⟨p1, p2, p3, p4, p5, p6, p7⟩ := comp_parts G ck ii (i2 scope) (i3 scope)
    exact PEimp (pe_lc p1 p2 p3 p4 p5 p6 p7 (fold_plain ck.hs)) fun σ H Q q => comp_read ck.sl q
/-- EVERY EXPRESSION -/
theorem snd_all (e : E) : ∀ {X : Cx} {N : List Str} {sc : Scope} {c : Bool} {W : WX} {k : Nat}, Gx X N sc k c → Takes X W → e.need X.prog X.w X.K X.mg X.base k → Snd X N sc c W e := by
  induction e with
  | var i => exact fun G tk n => snd_var G i
  | cst d => exact fun G tk n => snd_cst d
  | glob x d => exact fun G tk n => snd_glob G n
  | bin op a b ia ib => exact fun G tk n => snd_bin (ia G tk n.1) (ib G tk n.2)
  | neg a ia => exact fun G tk n => snd_neg (ia G tk n)
  | not a ia => exact fun G tk n => snd_not (ia G tk n)
  | and a b ia ib => exact fun G tk n => snd_and (ia G tk n.1) (ib G tk n.2)
  | or a b ia ib => exact fun G tk n => snd_or (ia G tk n.1) (ib G tk n.2)
  | cmp op a b ia ib => exact fun G tk n => snd_cmp G (ia G tk n.1) (ib G tk n.2)
  | chain op op' a b d ia ib id => exact fun G tk n => snd_chain G (ia G tk n.1) (ib G tk n.2.1) (id G tk n.2.2)
  | ife t a b it ia ib => exact fun G tk n => snd_ife (it G tk n.1) (ia G tk n.2.1) (ib G tk n.2.2)
  | tup es ie => exact fun G tk n => snd_tup (ie G tk n)
  | lst es ie => exact fun G tk n => snd_lst (ie G tk n)
  | sub a i ia ii => exact fun G tk n => snd_sub (ia G tk n.1) (ii G tk n.2)
  | slc a lo hi ia il ih => exact fun G tk n => snd_slc (ia G tk n.1) (il G tk n.2.1) (ih G tk n.2.2)
  | call f x es ie => exact fun G tk n => snd_call G tk n.1 (ie G tk n.2)
  | bi b es ie => exact fun G tk n => snd_bi G n.1 (ie G tk n.2)
  | isi a t ia => exact fun G tk n => snd_isi G n.1 n.2.1 (ia G tk n.2.2)
  | bm m o es io ie => exact fun G tk n => snd_bm G (io G tk n.1) (ie G tk n.2)
  | comp own g it test elt ii i2 i3 => exact fun G tk n => snd_comp G (ii G tk n.1) (fun scope s H C cl fp => i2 (G.blk scope s H C cl fp) takes0 n.2.1) (fun scope s H C cl fp => i3 (G.blk scope s H C cl fp) takes0 n.2.2)
  | rng es ie => exact fun G tk n => snd_rng G n.1 (ie G tk n.2)
  | nil => exact fun G tk n => snd_nil
  | cons e es i1 i2 => exact fun G tk n => snd_cons (i1 G tk n.1) (i2 G tk n.2)
end
end L3

namespace L3
open PySem L2

def PostS (K : PySem.W.Frag) (mg : Str → Option Value) (ρ : List Addr) (H : Hp) (W : WX) (o : Out) (D : Ends) : Prop := match o with
  | .next σ3 h => ∀ (ρ' : List Addr) (H' : Hp) (σ : L2.St), Step ρ H ρ' H' → RS K ρ' H' σ3 σ → Rep K mg ρ' h H' → D.nx σ H'
  | .ret d h => ∀ (ρ' : List Addr) (H' : Hp) (v : V), Step ρ H ρ' H' → Rep K mg ρ' h H' → RD K ρ' H' d v → D.rt v H'
  | .brk σ3 h => ∀ (ρ' : List Addr) (H' : Hp) (σ : L2.St), Step ρ H ρ' H' → RS K ρ' H' σ3 σ → Rep K mg ρ' h H' → D.bk σ H'
  | .cnt σ3 h => ∀ (ρ' : List Addr) (H' : Hp) (σ : L2.St), Step ρ H ρ' H' → RS K ρ' H' σ3 σ → Rep K mg ρ' h H' → D.ct σ H'
  | .exc c fs σ3 h => ∀ (ρ' : List Addr) (H' : Hp) (cls : Value) (dd : Option Addr) (σ : L2.St), Step ρ H ρ' H' → RS K ρ' H' σ3 σ → Rep K mg ρ' h H' → XR K mg ρ' H' c fs cls dd → W cls dd σ H'
  | .bad => False
def rS (K : PySem.W.Frag) (mg : Str → Option Value) (m : Sl → Hh → Out) (W : WX) : TS := fun D σ H => ∃ ρ σ3 h, RS K ρ H σ3 σ ∧ Rep K mg ρ h H ∧ PostS K mg ρ H W (m σ3 h) D
section
variable {K : PySem.W.Frag} {mg : Str → Option Value} {ρ ρ1 : List Addr} {H H1 : Hp} {W : WX} {D : Ends}
theorem PostS.from {o : Out} (P : PostS K mg ρ H W o D) (s : Step ρ H ρ1 H1) : PostS K mg ρ1 H1 W o D := by
  cases o with
  | next _ _ => exact fun ρ' H' σ s' => P ρ' H' σ (s.trans s')
  | ret _ _ => exact fun ρ' H' σ s' => P ρ' H' σ (s.trans s')
  | brk _ _ => exact fun ρ' H' σ s' => P ρ' H' σ (s.trans s')
  | cnt _ _ => exact fun ρ' H' σ s' => P ρ' H' σ (s.trans s')
  | exc _ _ _ _ => exact fun ρ' H' cls dd σ s' => P ρ' H' cls dd σ (s.trans s')
  | bad => exact P
/-- behind an expression -/
theorem PostS.out {α β : Type} {RA : List Addr → Hp → α → β → Prop} {r : Res α} {σ3 : Sl} {σ : L2.St} {f : α → Hh → Out} (P : PostS K mg ρ H W (r.out σ3 f) D) (rs : RS K ρ H σ3 σ) :
    Post K mg RA ρ H (fun c d H' => W c d σ H') r fun b H1 => ∃ ρ1 a h1, Step ρ H ρ1 H1 ∧ Rep K mg ρ1 h1 H1 ∧ RA ρ1 H1 a b ∧ r = .ok a h1 ∧ PostS K mg ρ1 H1 W (f a h1) D := by
  cases r with
  | ok a h => exact fun ρ' H' b s rp ra => ⟨ρ', a, h, s, rp, ra, rfl, PostS.from (o := f a h) P s⟩
  | exc c fs h => exact fun ρ' H' cls dd s rp x => P ρ' H' cls dd σ s (rs.mono s) rp x
  | bad => exact P
theorem PostS.seq {o : Out} {f : Sl → Hh → Out} (P : PostS K mg ρ H W (o.seq f) D) : PostS K mg ρ H W o { D with nx := rS K mg f W D } := by
  cases o with
  | next σ3 h => exact fun ρ' H' σ s rs rp => ⟨ρ', σ3, h, rs, rp, PostS.from (o := f σ3 h) P s⟩
  | ret _ _ => exact P
  | brk _ _ => exact P
  | cnt _ _ => exact P
  | exc _ _ _ _ => exact P
  | bad => exact P
theorem PostS.turn {o : Out} {f : Sl → Hh → Out} {Nx : L2.St → Hp → Prop} (P : PostS K mg ρ H W (o.turn f) D) (hN : ∀ σ' H', rS K mg f W D σ' H' → Nx σ' H') : PostS K mg ρ H W o { D with nx := Nx, ct := Nx, bk := D.nx } := by
  cases o with
  | next σ3 h => exact fun ρ' H' σ s rs rp => hN _ _ ⟨ρ', σ3, h, rs, rp, PostS.from (o := f σ3 h) P s⟩
  | cnt σ3 h => exact fun ρ' H' σ s rs rp => hN _ _ ⟨ρ', σ3, h, rs, rp, PostS.from (o := f σ3 h) P s⟩
  | ret _ _ => exact P
  | brk _ _ => exact P
  | exc _ _ _ _ => exact P
  | bad => exact P
theorem PostS.nx {σ3 : Sl} {σ : L2.St} {h : Hh} (P : PostS K mg ρ H W (.next σ3 h) D) (rs : RS K ρ H σ3 σ) (rp : Rep K mg ρ h H) : D.nx σ H := P ρ H σ (Step.refl _ _) rs rp
end

def tupB : Expr → Bool
  | .Tuple _ _ _ => true
  | _ => false
def funB (sc : Scope) : Bool := match sc.kind with
  | .function => true
  | _ => false
/-- the store of a comprehension's value goes by its own road -/
def swB (sc : Scope) (x : Str) (px : Pos) : Expr → Bool
  | .ListComp _ _ scope pos => (match sc.names.lookup x with | some .local => true | _ => false) && (px.line == pos.line) && !(scope.names.any fun (n, k) => n == x && (k == .local || k == .cell))
  | _ => false
def asgB (sc : Scope) (x : Str) (px : Pos) : Expr → Bool
  | .ListComp a b c d => funB sc
  | e => !compB e
def localB (sc : Scope) (x : Str) : Bool := match sc.names.lookup x with
  | some .local => true
  | _ => false
def parB (sc : Scope) (x y : Str) (px py : Pos) (u v : Expr) : Bool :=
  funB sc && localB sc x && localB sc y && !(x == y) && (px.line == py.line) && !starB u && !starB v && !([u, v].all (foldedForSure 8)) && !([u, v].all (constantsAlone 8))
abbrev allF : Str → Bool := fun _ => true
def oneName : List Expr → Option (Str × Pos)
  | [.Name x px] => some (x, px)
  | _ => none
def oneSub : List Expr → Option (Expr × Expr × Pos)
  | [.Subscript o i p] => some (o, i, p)
  | _ => none
def oneTup : List Expr → Option (List Expr × Nat × Pos)
  | [.Tuple es k p] => some (es, k, p)
  | _ => none
def twoNames : List Expr → Option (Str × Pos × Str × Pos)
  | [.Name x px, .Name y py] => some (x, px, y, py)
  | _ => none
def twoVals : Expr → Option (Expr × Expr × Nat × Pos)
  | .Tuple [u, v] k p => some (u, v, k, p)
  | _ => none
theorem oneName_eq {ts : List Expr} {x : Str} {px : Pos} (h : oneName ts = some (x, px)) : ts = [.Name x px] := by
  unfold oneName at h
  split at h <;> cases h
  rfl
theorem oneSub_eq {ts : List Expr} {o i : Expr} {p : Pos} (h : oneSub ts = some (o, i, p)) : ts = [.Subscript o i p] := by
  unfold oneSub at h
  split at h <;> cases h
  rfl
theorem oneTup_eq {ts : List Expr} {es : List Expr} {k : Nat} {p : Pos} (h : oneTup ts = some (es, k, p)) : ts = [.Tuple es k p] := by
  unfold oneTup at h
  split at h <;> cases h
  rfl
theorem twoNames_eq {ts : List Expr} {x y : Str} {px py : Pos} (h : twoNames ts = some (x, px, y, py)) : ts = [.Name x px, .Name y py] := by
  unfold twoNames at h
  split at h <;> cases h
  rfl
theorem twoVals_eq {e u v : Expr} {k : Nat} {p : Pos} (h : twoVals e = some (u, v, k, p)) : e = .Tuple [u, v] k p := by
  unfold twoVals at h
  split at h <;> cases h
  rfl
def parC (N : List Str) (sc : Scope) (i j : Nat) (t : Option (List Expr × Nat × Pos)) (w : Option (Expr × Expr × Nat × Pos)) (f : Expr → Expr → Bool) : Bool := match t, w with
  | some (es, _, _), some (u, v, _, _) => (match twoNames es with
    | some (x, px, y, py) => decide (N[i]? = some x) && decide (N[j]? = some y) && !(i == j) && f u v && parB sc x y px py u v
    | none => false)
  | _, _ => false
mutual
def chkS (N : List Str) (sc : Scope) (c : Bool) : S → Stmt → Bool
  | .pass, .Pass _ => true
  | .expr e, .Expr x _ => chk N sc c e x && !compB x
  | .asg i e, .Assign ts v _ => (match oneName ts with
    | some (x, px) => locB N sc allF i x && chk N sc c e v && asgB sc x px v
    | none => false)
  | .par i j a b, .Assign ts v _ => c && parC N sc i j (oneTup ts) (twoVals v) fun u v => chk N sc c a u && chk N sc c b v
  | .unp g e, .Assign ts v _ => (match oneTup ts with
    | some (es, k, p) => c && chkG N sc allF g (.Tuple es k p) && chk N sc c e v && !compB v && !tupB v
    | none => false)
  | .sts o i e, .Assign ts v _ => (match oneSub ts with
    | some (ox, ix, _) => chk N sc c o ox && chk N sc c i ix && chk N sc c e v && !compB v && !sliceB ix
    | none => false)
  | .ret e, .Return (some x) _ => chk N sc c e x
  | .retN, .Return none _ => true
  | .ife e t u, .If x a b _ => chk N sc c e x && chkB N sc c t a && chkB N sc c u b
  | .whl e b, .While x body [] _ => c && chk N sc c e x && chkB N sc c b body
  | .fr g it b, .For tg iter body [] _ => c && chkG N sc allF g tg && chk N sc c it iter && !setB iter && chkB N sc c b body
  | .brk, .Break _ => true
  | .cnt, .Continue _ => true
  | .never, _ => true
  | _, _ => false
def chkB (N : List Str) (sc : Scope) (c : Bool) : S → List Stmt → Bool
  | .nil, [] => true
  | .cons s r, st :: sts => chkS N sc c s st && chkB N sc c r sts
  | _, _ => false
end
section
variable (P : Program) (w : World) (K : PySem.W.Frag) (mg : Str → Option Value) (base : Heap) (k : Nat)
def S.need : S → Prop
  | .nil => True
  | .cons s r => s.need ∧ r.need
  | .pass => True
  | .expr e => e.need P w K mg base k
  | .asg _ e => e.need P w K mg base k
  | .par _ _ a b => a.need P w K mg base k ∧ b.need P w K mg base k
  | .unp _ e => e.need P w K mg base k
  | .sts o i e => o.need P w K mg base k ∧ i.need P w K mg base k ∧ e.need P w K mg base k
  | .ret e => e.need P w K mg base k
  | .retN => True
  | .ife e t u => e.need P w K mg base k ∧ t.need ∧ u.need
  | .whl e b => e.need P w K mg base k ∧ b.need
  | .fr _ it b => it.need P w K mg base k ∧ b.need
  | .brk => True
  | .cnt => True
  | .never => True
end
theorem swapped_plain {ts : List Expr} {kk : Nat} {p : Pos} {v : Expr} {env : Env} (h : tupB v = false) : swappedStores [.Tuple ts kk p] v env = pure none := by
  cases v <;> first | rfl | cases h
theorem swapped_sub {o i : Expr} {p : Pos} {v : Expr} {env : Env} : swappedStores [.Subscript o i p] v env = pure none := by
  cases v <;> rfl
theorem sole_plain {t v : Expr} {l : Nat} {env : Env} (h : compB v = false) : swapsWithSole [t] v l env = pure false := by
  show swapsWith v (some t) l env = _
  exact sw_plain h
theorem assign_sub {o i : Expr} {p : Pos} {env : Env} (h : sliceB i = false) : ∀ v, assign (.Subscript o i p) env v = (do
      let ov ← holding [v] (eval o env)
      let iv ← holding [v, ov] (eval i env)
      standAt p
      holding [v, ov, iv] (setItem ov iv v)
      release [v, ov, iv] []) := by
  intro v
  cases i <;> first | rfl | cases h
theorem block_fn {env : Env} (h : env.scope.kind = .function) : env.blockKind = .function := by
  unfold Env.blockKind
  rw [h]; rfl
theorem fun_of {sc : Scope} (h : funB sc = true) : sc.kind = .function := by
  unfold funB at h
  split at h
  · assumption
  · cases h
theorem local_of {sc : Scope} {x : Str} (h : localB sc x = true) : sc.names.lookup x = some .local := by
  unfold localB at h
  split at h
  · assumption
  · cases h
theorem swapped_par {x y : Str} {px py pt pt2 : Pos} {kt k2 : Nat} {u v : Expr} {env : Env} (h : parB env.scope x y px py u v = true) : swappedStores [.Tuple [.Name x px, .Name y py] kt pt] (.Tuple [u, v] k2 pt2) env = pure (some [x, y]) := by
  unfold parB at h
  simp only [Bool.and_eq_true, Bool.not_eq_true'] at h
  obtain ⟨⟨⟨⟨⟨⟨⟨⟨h1, h2⟩, h3⟩, h4⟩, h5⟩, h6⟩, h7⟩, h8⟩, h9⟩ := h
  have kx : env.kindOf x = some .local := local_of h2
  have ky : env.kindOf y = some .local := local_of h3
  have hd : ([x, y] : List Str).eraseDups.length = 2 := by
    have h4' : (y == x) = false := by
      rw [Bool.beq_comm]; exact h4
    simp [List.eraseDups_cons, h4']
  have h5' : (py.line == px.line) = true := by rw [Bool.beq_comm]; exact h5
  unfold swappedStores
  dsimp only
  simp only [block_fn (fun_of h1), List.length_cons, List.length_nil, h8, h9, List.head?_cons, Option.map_some, Option.getD_some, Expr.pos, List.filterMap_cons, kx, ky, h5', List.filterMap_nil, beq_self_eq_true, Bool.and_self, if_true]
  rw [if_neg (by decide), if_neg ?_, if_neg (by rw [hd]; decide), if_neg Bool.false_ne_true, if_neg Bool.false_ne_true]
  intro z
  rw [List.any_eq_true] at z
  obtain ⟨e, he, q⟩ := z
  have he' : e = u ∨ e = v := by simpa using he
  rcases he' with rfl | rfl
  · cases e <;> first | (cases q; done) | cases h6
  · cases e <;> first | (cases q; done) | cases h7

theorem sw_not {sc : Scope} {x : Str} {px : Pos} {v : Expr} {l : Nat} {env : Env} (hs : env.scope = sc) (h : asgB sc x px v = true) (hn : swB sc x px v = false) : swapsWith v (some (.Name x px)) l env = pure false := by
  unfold asgB at h
  split at h
  · rename_i a b scope d
    have hk : env.blockKind = .function := block_fn (by rw [hs]; exact fun_of h)
    unfold swapsWith
    simp only [hk, Expr.pos]
    have e : (ScopeKind.function == ScopeKind.function && env.kindOf x == some NameKind.local && px.line == d.line && !(scope.names.any fun (n, k) => n == x && (k == .local || k == .cell))) = false := by
      unfold swB at hn
      have kx : env.kindOf x = sc.names.lookup x := by show env.scope.names.lookup x = _; rw [hs]
      rw [kx]
      cases q : sc.names.lookup x with
      | none => rfl
      | some kd =>
        rw [q] at hn
        cases kd with
        | «local» => simpa using hn
        | _ => rfl
    rw [e]
  · exact sw_plain (by simpa using h)
theorem sw_yes {sc : Scope} {x : Str} {px : Pos} {el : Expr} {gs : List Comprehension} {scope : Scope} {pos : Pos} {l : Nat} {env : Env} (hs : env.scope = sc) (h : asgB sc x px (.ListComp el gs scope pos) = true) (hy : swB sc x px (.ListComp el gs scope pos) = true) :
    env.scope.names.lookup x = some .local ∧ swapsWith (.ListComp el gs scope pos) (some (.Name x px)) l env = pure true := by
  unfold swB at hy
  simp only [Bool.and_eq_true, Bool.not_eq_true'] at hy
  have h1 : env.scope.names.lookup x = some .local := by
    rw [hs]
    have := hy.1.1
    split at this
    · assumption
    · cases this
  exact ⟨h1, sw_true (by rw [hs]; exact fun_of h) h1 hy.1.2 hy.2⟩

structure Sts (X : Cx) (N : List Str) (sc : Scope) (c : Bool) (W : WX) (s : S) : Prop where
  ps : ∀ st, chkS N sc c s st = true → PS X st (rS X.K X.mg (exec s) W)
  pb : ∀ sts, chkB N sc c s sts = true → PSs X sts (rS X.K X.mg (exec s) W)
section
variable {X : Cx} {N : List Str} {sc : Scope} {c : Bool} {W : WX} {k : Nat} {s : S}
theorem Sts.one (hB : ∀ sts, chkB N sc c s sts = false) (ps : ∀ st, chkS N sc c s st = true → PS X st (rS X.K X.mg (exec s) W)) : Sts X N sc c W s := ⟨ps, fun sts h => by rw [hB] at h; cases h⟩
theorem set_any : PSet X (fun o i v H Q => ∃ ρ a b d h E, RD X.K ρ H a o ∧ RD X.K ρ H b i ∧ RD X.K ρ H d v ∧ Rep X.K X.mg ρ h H ∧ Post X.K X.mg (RQ (α := Unit)) ρ H E (stsD a b d h) fun _ H' => Q H') := by
  intro pins s σ H o i v ov iv u Q I ro ri rv hr
  obtain ⟨ρ, a, b, d, h, E, ra, rb, rd, rp, P⟩ := hr
  unfold stsD at P
  split at P
  · split at P
    · rename_i e2
      split at P
      · rename_i j ej
        obtain ⟨l, vs, rfl, hn, g, rl⟩ := lst_at rp ra e2
        cases rb
        refine set_list pins s σ H _ _ _ ov iv u Q I ro ri rv ⟨l, vs, _, j, rfl, rfl, g, by rw [← rl.length]; exact ej, ?_⟩
        obtain ⟨rp', st⟩ := rp.put (o' := .lst (_ : List D)) (u := .lst (vs.set j v)) hn fun st => ⟨_, upd_same, (rl.set rd j).mono st⟩
        exact P.to st rp' rfl
      · exact P.elim
    · exact P.elim
  · exact P.elim
theorem st_expr (ie : ∀ {e : E}, e.need X.prog X.w X.K X.mg X.base k → Snd X N sc c W e) {e : E} (n : e.need X.prog X.w X.K X.mg X.base k) : Sts X N sc c W (.expr e) := by
  refine .one (fun sts => by cases sts <;> rfl) fun st h => ?_
  cases st <;> first | (simp only [chkS] at h; cases h; done) | skip
  rename_i x pos
  simp only [chkS, Bool.and_eq_true, Bool.not_eq_true'] at h
  refine PSimp (ps_expr ((ie n).pe x h.1) (sw_plain h.2)) fun D σ H q => ?_
  obtain ⟨ρ, σ3, hh, rs, rp, P⟩ := q
  refine ⟨ρ, σ3, hh, rs, rp, (PostS.out (RA := RV X.K) (r := (den e).v σ3 hh) P rs).imp fun v H1 ⟨ρ1, d, h1, s1, rp1, rd, _, P1⟩ => ?_⟩
  exact P1.nx (rs.mono s1) rp1
theorem st_asg (G : Gx X N sc k c) (hf : ∀ x, X.fn x = true) (ie : ∀ {e : E}, e.need X.prog X.w X.K X.mg X.base k → Snd X N sc c W e)
    (i2 : ∀ {e : E} scope s H C cl fp, e.need X.prog X.w X.K X.mg X.base k → Snd (X.blk s H scope (compEnvC scope cl C X.env) fp) N (relS scope sc) c WF e) {i : Nat} {e : E} (n : e.need X.prog X.w X.K X.mg X.base k) : Sts X N sc c W (.asg i e) := by
  refine .one (fun sts => by cases sts <;> rfl) fun st h => ?_
  cases st <;> first | (simp only [chkS] at h; cases h; done) | skip
  rename_i ts v pos
  simp only [chkS] at h
  cases q : oneName ts with
  | none => rw [q] at h; cases h
  | some t =>
    obtain ⟨x, px⟩ := t
    rw [q] at h
    obtain rfl := oneName_eq q
    simp only [Bool.and_eq_true] at h
    obtain ⟨⟨h1, h2⟩, h3⟩ := h
    obtain ⟨l1, l2, l3⟩ := G.loc (fun x _ => hf x) h1
    have nd : X.N.Nodup := by rw [G.hN]; exact G.nd
    have fin : ∀ D σ H, rS X.K X.mg (exec (.asg i e)) W D σ H → tAsg (rE X.K X.mg (den e).v W) (gName i) D σ H := fun D σ H q => by
      obtain ⟨ρ, σ3, hh, rs, rp, P⟩ := q
      refine ⟨ρ, σ3, hh, rs, rp, (PostS.out (RA := RV X.K) (r := (den e).v σ3 hh) P rs).imp fun v H1 ⟨ρ1, d, h1, s1, rp1, rd, _, P1⟩ => ?_⟩
      exact P1.nx ((rs.mono s1).set rd i) rp1
    cases sw : swB sc x px v with
    | false => exact PSimp (ps_set (i := i) nd l1 l2 ((ie n).pe v h2) (sw_not G.hsc h3 sw) l3) fin
    | true =>
      cases v <;> first | (cases sw; done) | skip
      rename_i el gs scope p
      obtain ⟨y1, y2⟩ := sw_yes (l := pos.line) G.hsc h3 sw
      cases e <;> first | (simp only [chk] at h2; cases h2; done) | skip
      rename_i own g it test elt
      obtain ⟨el', tg, iter, ifs, scope', pos', e1, ck⟩ := comp_key (X := X) h2
      cases e1
      obtain ⟨p1, p2, p3, p4, p5, p6, p7⟩ := comp_parts G ck (ie n.1) (fun s H C cl fp => i2 scope s H C cl fp n.2.1) (fun s H C cl fp => i2 scope s H C cl fp n.2.2)
      refine PSimp (ps_setLc (i := i) p1 p2 l1 y1 y2 p3 p4 p5 p6 p7 (fold_plain ck.hs)) fun D σ H q => ?_
      exact comp_read (Q := fun y H1 => gName i y σ H1 D.nx) ck.sl (fin D σ H q)
theorem st_par (G : Gx X N sc k c) (ie : ∀ {e : E}, e.need X.prog X.w X.K X.mg X.base k → Snd X N sc c W e) {i j : Nat} {a b : E} (na : a.need X.prog X.w X.K X.mg X.base k) (nb : b.need X.prog X.w X.K X.mg X.base k) : Sts X N sc c W (.par i j a b) := by
  refine .one (fun sts => by cases sts <;> rfl) fun st h => ?_
  cases st <;> first | (simp only [chkS] at h; cases h; done) | skip
  rename_i ts v pos
  simp only [chkS, Bool.and_eq_true] at h
  obtain ⟨hc, h⟩ := h
  unfold parC at h
  split at h
  · rename_i es kt pt u v k2 pt2 e1 e2
    split at h
    · rename_i x px y py e3
      obtain rfl := oneTup_eq e1
      obtain rfl := twoVals_eq e2
      obtain rfl := twoNames_eq e3
      · simp only [Bool.and_eq_true, decide_eq_true_eq, Bool.not_eq_true'] at h
        obtain ⟨⟨⟨⟨h1, h2⟩, h3⟩, h4, h5⟩, h6⟩ := h
        have pb := h6
        unfold parB at pb
        simp only [Bool.and_eq_true, Bool.not_eq_true'] at pb
        obtain ⟨⟨⟨⟨⟨⟨⟨⟨_, b2⟩, b3⟩, _⟩, _⟩, b6⟩, b7⟩, _⟩, _⟩ := pb
        have hx : X.env.scope.names.lookup x = some .local := by rw [G.hsc]; exact local_of b2
        have hy : X.env.scope.names.lookup y = some .local := by rw [G.hsc]; exact local_of b3
        refine PSimp (ps_par (i := i) (j := j) (G.run hc).1 (by rw [G.hN]; exact G.nd) (by rw [G.hN]; exact h1) (by rw [G.hN]; exact h2) (by intro z; rw [z] at h3; simp at h3) hx hy
          (pa_cons ((ie na).pe u h4) (pa_cons ((ie nb).pe v h5) pa_nil (star_cons b7)) (star_cons b6)) (swapped_par (by rw [G.hsc]; exact h6))) fun D σ H q => ?_
        obtain ⟨ρ, σ3, hh, rs, rp, P⟩ := q
        refine ⟨ρ, σ3, hh, rs, rp, (PostS.out (RA := RV X.K) (r := (den a).v σ3 hh) P rs).imp fun v H1 ⟨ρ1, d, h1, s1, rp1, rd, _, P1⟩ => ?_⟩
        refine ⟨ρ1, σ3, h1, rs.mono s1, rp1, (PostS.out (RA := RV X.K) (r := (den b).v σ3 h1) P1 (rs.mono s1)).imp fun v H2 ⟨ρ2, d2, h2, s2, rp2, rd2, _, P2⟩ => ?_⟩
        exact ⟨_, _, rfl, P2.nx (((rs.mono (s1.trans s2)).set (rd.mono s2) i).set rd2 j) rp2⟩
    · cases h
  · cases h
theorem st_unp (G : Gx X N sc k c) (hf : ∀ x, X.fn x = true) (ie : ∀ {e : E}, e.need X.prog X.w X.K X.mg X.base k → Snd X N sc c W e) {g : Tg} {e : E} (n : e.need X.prog X.w X.K X.mg X.base k) : Sts X N sc c W (.unp g e) := by
  refine .one (fun sts => by cases sts <;> rfl) fun st h => ?_
  cases st <;> first | (simp only [chkS] at h; cases h; done) | skip
  rename_i ts v pos
  simp only [chkS] at h
  cases q : oneTup ts with
  | none => rw [q] at h; cases h
  | some t =>
    obtain ⟨es, kt, pt⟩ := t
    rw [q] at h
    obtain rfl := oneTup_eq q
    simp only [Bool.and_eq_true, Bool.not_eq_true'] at h
    obtain ⟨⟨⟨⟨hc, h1⟩, h2⟩, h3⟩, h4⟩ := h
    refine PSimp (ps_asg ((ie n).pe v h2) ((pg_all G (fb := allF) (fun x _ => hf x) (G.run hc).1 g).1 _ h1) (sole_plain h3) (swapped_plain h4) rfl) fun D σ H q => ?_
    obtain ⟨ρ, σ3, hh, rs, rp, P⟩ := q
    refine ⟨ρ, σ3, hh, rs, rp, (PostS.out (RA := RV X.K) (r := (den e).v σ3 hh) P rs).imp fun v H1 ⟨ρ1, d, h1, s1, rp1, rd, _, P1⟩ => ?_⟩
    unfold unpR at P1
    split at P1
    · rename_i σ4 ea
      exact ⟨d, ρ1, σ3, h1, rd, rs.mono s1, rp1, σ4, ea, fun σ' rs' _ _ => P1.nx rs' rp1⟩
    · exact P1.elim
theorem st_sts (ie : ∀ {e : E}, e.need X.prog X.w X.K X.mg X.base k → Snd X N sc c W e) {o i e : E} (no : o.need X.prog X.w X.K X.mg X.base k) (ni : i.need X.prog X.w X.K X.mg X.base k) (n : e.need X.prog X.w X.K X.mg X.base k) : Sts X N sc c W (.sts o i e) := by
  refine .one (fun sts => by cases sts <;> rfl) fun st h => ?_
  cases st <;> first | (simp only [chkS] at h; cases h; done) | skip
  rename_i ts v pos
  simp only [chkS] at h
  cases q : oneSub ts with
  | none => rw [q] at h; cases h
  | some t =>
    obtain ⟨ox, ix, p⟩ := t
    rw [q] at h
    obtain rfl := oneSub_eq q
    simp only [Bool.and_eq_true, Bool.not_eq_true'] at h
    obtain ⟨⟨⟨⟨h1, h2⟩, h3⟩, h4⟩, h5⟩ := h
    refine PSimp (ps_asg ((ie n).pe v h3) (pg_sub ((ie no).pe ox h1) ((ie ni).pe ix h2) set_any (assign_sub h5)) (sole_plain h4) swapped_sub rfl) fun D σ H q => ?_
    obtain ⟨ρ, σ3, hh, rs, rp, P⟩ := q
    refine ⟨ρ, σ3, hh, rs, rp, (PostS.out (RA := RV X.K) (r := (den e).v σ3 hh) P rs).imp fun v H1 ⟨ρ1, d, h1, s1, rp1, rd, _, P1⟩ => ?_⟩
    refine ⟨ρ1, σ3, h1, rs.mono s1, rp1, (PostS.out (RA := RV X.K) (r := (den o).v σ3 h1) P1 (rs.mono s1)).imp fun x H2 ⟨ρ2, d2, h2, s2, rp2, rd2, _, P2⟩ => ?_⟩
    refine ⟨ρ2, σ3, h2, rs.mono (s1.trans s2), rp2, (PostS.out (RA := RV X.K) (r := (den i).v σ3 h2) P2 (rs.mono (s1.trans s2))).imp fun y H3 ⟨ρ3, d3, h3, s3, rp3, rd3, _, P3⟩ => ?_⟩
    have rs3 := rs.mono ((s1.trans s2).trans s3)
    refine ⟨ρ3, d2, d3, d, h3, _, rd2.mono s3, rd3, rd.mono (s2.trans s3), rp3, (PostS.out (RA := RQ) P3 rs3).imp fun _ H4 ⟨ρ4, _, h4, s4, rp4, _, _, P4⟩ => ?_⟩
    exact P4.nx (rs3.mono s4) rp4
theorem st_ret (ie : ∀ {e : E}, e.need X.prog X.w X.K X.mg X.base k → Snd X N sc c W e) {e : E} (n : e.need X.prog X.w X.K X.mg X.base k) : Sts X N sc c W (.ret e) := by
  refine .one (fun sts => by cases sts <;> rfl) fun st h => ?_
  cases st <;> first | (simp only [chkS] at h; cases h; done) | skip
  rename_i x pos
  cases x with
  | none => simp only [chkS] at h; cases h
  | some x =>
    simp only [chkS] at h
    refine PSimp (ps_ret ((ie n).pe x h)) fun D σ H q => ?_
    obtain ⟨ρ, σ3, hh, rs, rp, P⟩ := q
    refine ⟨ρ, σ3, hh, rs, rp, (PostS.out (RA := RV X.K) (r := (den e).v σ3 hh) P rs).imp fun v H1 ⟨ρ1, d, h1, s1, rp1, rd, _, P1⟩ => ?_⟩
    exact P1 ρ1 H1 v (Step.refl _ _) rp1 rd
theorem st_ife (ie : ∀ {e : E}, e.need X.prog X.w X.K X.mg X.base k → Snd X N sc c W e) {e : E} {t u : S} (n : e.need X.prog X.w X.K X.mg X.base k) (it : Sts X N sc c W t) (iu : Sts X N sc c W u) : Sts X N sc c W (.ife e t u) := by
  refine .one (fun sts => by cases sts <;> rfl) fun st h => ?_
  cases st <;> first | (simp only [chkS] at h; cases h; done) | skip
  rename_i x a b pos
  simp only [chkS, Bool.and_eq_true] at h
  refine PSimp (ps_if ((ie n).pt x h.1.1) (it.pb a h.1.2) (iu.pb b h.2)) fun D σ H q => ?_
  obtain ⟨ρ, σ3, hh, rs, rp, P⟩ := q
  refine ⟨ρ, σ3, hh, rs, rp, (PostS.out (RA := RQ) (r := (den e).t σ3 hh) P rs).imp fun kk H1 ⟨ρ1, d, h1, s1, rp1, ek, _, P1⟩ => ?_⟩
  subst ek
  cases d with
  | true => rw [if_pos rfl] at P1 ⊢; exact ⟨ρ1, σ3, h1, rs.mono s1, rp1, P1⟩
  | false => rw [if_neg Bool.false_ne_true] at P1 ⊢; exact ⟨ρ1, σ3, h1, rs.mono s1, rp1, P1⟩
theorem st_whl (hp : c = true → PassesOwn (model X.prog X.w) X.A X.env X.xe) (ie : ∀ {e : E}, e.need X.prog X.w X.K X.mg X.base k → Snd X N sc c W e) {e : E} {b : S} (n : e.need X.prog X.w X.K X.mg X.base k) (ib : Sts X N sc c W b) : Sts X N sc c W (.whl e b) := by
  refine .one (fun sts => by cases sts <;> rfl) fun st h => ?_
  cases st <;> first | (simp only [chkS] at h; cases h; done) | skip
  rename_i x body orelse pos
  cases orelse with
  | cons _ _ => simp only [chkS] at h; cases h
  | nil =>
    simp only [chkS, Bool.and_eq_true] at h
    refine PSimp (ps_while (hp h.1.1) ((ie n).pt x h.1.2) (ib.pb body h.2)) fun D σ H q => ?_
    obtain ⟨ρ, σ3, hh, rs, rp, P⟩ := q
    obtain ⟨m, hm⟩ : ∃ m, PostS X.K X.mg ρ H W (iter (den e).t (exec b) m σ3 hh) D := by
      have P' : PostS X.K X.mg ρ H W (whlR (den e).t (exec b) σ3 hh) D := P
      unfold whlR at P'
      split at P'
      · exact ⟨_, P'⟩
      · exact P'.elim
    refine ⟨fun m σ H => ∃ ρ σ3 h, RS X.K ρ H σ3 σ ∧ Rep X.K X.mg ρ h H ∧ PostS X.K X.mg ρ H W (iter (den e).t (exec b) m σ3 h) D, ⟨m, ρ, σ3, hh, rs, rp, hm⟩, ?_⟩
    rintro m σ H ⟨ρ, σ3, hh, rs, rp, P⟩
    cases m with
    | zero => exact P.elim
    | succ m =>
      refine ⟨ρ, σ3, hh, rs, rp, (PostS.out (RA := RQ) (r := (den e).t σ3 hh) P rs).imp fun kk H1 ⟨ρ1, d, h1, s1, rp1, ek, _, P1⟩ => ?_⟩
      subst ek
      cases d with
      | true =>
        rw [if_pos rfl] at P1 ⊢
        exact ⟨_, fun σ' H' z => ⟨m, Nat.lt_succ_self _, z⟩, ρ1, σ3, h1, rs.mono s1, rp1, P1.turn fun σ' H' z => z⟩
      | false => rw [if_neg Bool.false_ne_true] at P1 ⊢; exact P1.nx (rs.mono s1) rp1
theorem st_fr (G : Gx X N sc k c) (hf : ∀ x, X.fn x = true) (hp : c = true → PassesOwn (model X.prog X.w) X.A X.env X.xe) (ie : ∀ {e : E}, e.need X.prog X.w X.K X.mg X.base k → Snd X N sc c W e) {g : Tg} {it : E} {b : S} (n : it.need X.prog X.w X.K X.mg X.base k) (ib : Sts X N sc c W b) : Sts X N sc c W (.fr g it b) := by
  refine .one (fun sts => by cases sts <;> rfl) fun st h => ?_
  cases st <;> first | (simp only [chkS] at h; cases h; done) | skip
  rename_i tg iter body orelse pos
  cases orelse with
  | cons _ _ => simp only [chkS] at h; cases h
  | nil =>
    simp only [chkS, Bool.and_eq_true, Bool.not_eq_true'] at h
    obtain ⟨⟨⟨⟨hc, h1⟩, h2⟩, h3⟩, h4⟩ := h
    refine PSimp (ps_for (hp hc) (G.run hc).1 ((ie n).pi tg iter h2) ((pg_all G (fb := allF) (fun x _ => hf x) (G.run hc).1 g).1 _ h1) (ib.pb body h4) (fold_plain h3)) fun D σ H q => ?_
    obtain ⟨ρ, σ3, hh, rs, rp, P⟩ := q
    refine ⟨ρ, σ3, hh, rs, rp, (PostS.out (RA := Wk X.K X.mg) (r := (den it).i σ3 hh) P rs).imp fun J H1 ⟨ρ1, s, h1, s1, rp1, wk, _, P1⟩ => ?_⟩
    refine ⟨fun i m σ H => m = s.1.length - i ∧ i ≤ s.1.length ∧ ∃ ρ σ3 h, Step ρ1 H1 ρ H ∧ RS X.K ρ H σ3 σ ∧ Rep X.K X.mg ρ h H ∧ PostS X.K X.mg ρ H W (forR g (exec b) s.2 (s.1.drop i) σ3 h) D,
      ⟨_, rfl, Nat.zero_le _, ρ1, σ3, h1, Step.refl _ _, rs.mono s1, rp1, P1⟩, ?_⟩
    rintro i m σ H ⟨rfl, hi, ρ, σ3, hh, st, rs, rp, P⟩
    by_cases hlt : i < s.1.length
    · obtain ⟨d, hd⟩ : ∃ d, s.1[i]? = some d := ⟨_, List.getElem?_eq_getElem hlt⟩
      have ed : s.1.drop i = d :: s.1.drop (i + 1) := by
        rw [List.drop_eq_getElem_cons hlt]
        rw [List.getElem?_eq_getElem hlt] at hd
        rw [Option.some.inj hd]
      rw [ed] at P
      unfold forR at P
      split at P
      · rename_i gd
        split at P
        · exact P.elim
        · rename_i σ4 ea
          obtain ⟨w1, w2⟩ := (wk i ρ H hh st rp gd).1 d hd
          refine .inr ⟨w1, fun σ' H' => ∃ ρ σ3 h, Step ρ1 H1 ρ H' ∧ RS X.K ρ H' σ3 σ' ∧ Rep X.K X.mg ρ h H' ∧ PostS X.K X.mg ρ H' W (forR g (exec b) s.2 (s.1.drop (i + 1)) σ3 h) D,
            fun σ' H' z => ⟨_, by omega, rfl, hlt, z⟩, fun x H3 y => ?_⟩
          obtain ⟨st3, rp3, rd⟩ := w2 x H3 y
          refine ⟨d, ρ, σ3, hh, rd, rs.mono st3, rp3, σ4, ea, fun σ' rs' _ _ => ⟨ρ, σ4, hh, rs', rp3, ?_⟩⟩
          have P' := PostS.from P st3
          -- the turn's end
          have key : ∀ {o : Out}, PostS X.K X.mg ρ H3 W (o.turn (forR g (exec b) s.2 (s.1.drop (i + 1)))) D → PostS X.K X.mg ρ H3 W o { D with
              nx := fun σ' H' => ∃ ρ σ3 h, Step ρ1 H1 ρ H' ∧ RS X.K ρ H' σ3 σ' ∧ Rep X.K X.mg ρ h H' ∧ PostS X.K X.mg ρ H' W (forR g (exec b) s.2 (s.1.drop (i + 1)) σ3 h) D,
              ct := fun σ' H' => ∃ ρ σ3 h, Step ρ1 H1 ρ H' ∧ RS X.K ρ H' σ3 σ' ∧ Rep X.K X.mg ρ h H' ∧ PostS X.K X.mg ρ H' W (forR g (exec b) s.2 (s.1.drop (i + 1)) σ3 h) D, bk := D.nx } := by
            intro o P
            cases o with
            | next σ5 h5 => exact fun ρ' H' σ s5 rs5 rp5 => ⟨ρ', σ5, h5, (st.trans st3).trans s5, rs5, rp5, PostS.from P s5⟩
            | cnt σ5 h5 => exact fun ρ' H' σ s5 rs5 rp5 => ⟨ρ', σ5, h5, (st.trans st3).trans s5, rs5, rp5, PostS.from P s5⟩
            | ret _ _ => exact P
            | brk _ _ => exact P
            | exc _ _ _ _ => exact P
            | bad => exact P
          exact key P'
      · exact P.elim
    · have ei : i = s.1.length := by omega
      subst ei
      rw [List.drop_length] at P
      unfold forR at P
      split at P
      · rename_i gd
        exact .inl ⟨(wk _ ρ H hh st rp gd).2 (Nat.le_refl _), P.nx rs rp⟩
      · exact P.elim
/-- EVERY STATEMENT -/
theorem st_all (G : Gx X N sc k c) (tk : Takes X W) (hf : ∀ x, X.fn x = true) (hp : c = true → PassesOwn (model X.prog X.w) X.A X.env X.xe) : ∀ (s : S), s.need X.prog X.w X.K X.mg X.base k → Sts X N sc c W s := by
  have ie : ∀ {e : E}, e.need X.prog X.w X.K X.mg X.base k → Snd X N sc c W e := fun {e} n => snd_all e G tk n
  have i2 : ∀ {e : E} scope s H C cl fp, e.need X.prog X.w X.K X.mg X.base k → Snd (X.blk s H scope (compEnvC scope cl C X.env) fp) N (relS scope sc) c WF e := fun {e} scope s H C cl fp n => snd_all e (G.blk scope s H C cl fp) takes0 n
  intro s
  induction s with
  | nil =>
    refine fun _ => ⟨fun st h => (by cases st <;> cases h), fun sts h => ?_⟩
    cases sts with
    | cons _ _ => cases h
    | nil => exact PSsimp pss_nil fun D σ H ⟨ρ, σ3, hh, rs, rp, P⟩ => P.nx rs rp
  | cons s r is ir =>
    refine fun n => ⟨fun st h => (by cases st <;> cases h), fun sts h => ?_⟩
    cases sts with
    | nil => cases h
    | cons st sts =>
      simp only [chkB, Bool.and_eq_true] at h
      refine PSsimp (pss_cons ((is n.1).ps st h.1) ((ir n.2).pb sts h.2)) fun D σ H ⟨ρ, σ3, hh, rs, rp, P⟩ => ?_
      exact ⟨ρ, σ3, hh, rs, rp, PostS.seq (o := exec s σ3 hh) P⟩
  | pass =>
    refine fun _ => .one (fun sts => by cases sts <;> rfl) fun st h => ?_
    cases st <;> first | (simp only [chkS] at h; cases h; done) | skip
    exact PSimp ps_pass fun D σ H ⟨ρ, σ3, hh, rs, rp, P⟩ => P.nx rs rp
  | expr e => exact fun n => st_expr ie n
  | asg i e => exact fun n => st_asg G hf ie i2 n
  | par i j a b => exact fun n => st_par G ie n.1 n.2
  | unp g e => exact fun n => st_unp G hf ie n
  | sts o i e => exact fun n => st_sts ie n.1 n.2.1 n.2.2
  | ret e => exact fun n => st_ret ie n
  | retN =>
    refine fun _ => .one (fun sts => by cases sts <;> rfl) fun st h => ?_
    cases st <;> first | (simp only [chkS] at h; cases h; done) | skip
    rename_i x pos
    cases x with
    | some _ => simp only [chkS] at h; cases h
    | none => exact PSimp ps_retN fun D σ H ⟨ρ, σ3, hh, rs, rp, P⟩ => P ρ H .non (Step.refl _ _) rp .non
  | ife e t u it iu => exact fun n => st_ife ie n.1 (it n.2.1) (iu n.2.2)
  | whl e b ib => exact fun n => st_whl hp ie n.1 (ib n.2)
  | fr g it b ib => exact fun n => st_fr G hf hp ie n.1 (ib n.2)
  | brk =>
    refine fun _ => .one (fun sts => by cases sts <;> rfl) fun st h => ?_
    cases st <;> first | (simp only [chkS] at h; cases h; done) | skip
    exact PSimp ps_break fun D σ H ⟨ρ, σ3, hh, rs, rp, P⟩ => P ρ H σ (Step.refl _ _) rs rp
  | cnt =>
    refine fun _ => .one (fun sts => by cases sts <;> rfl) fun st h => ?_
    cases st <;> first | (simp only [chkS] at h; cases h; done) | skip
    exact PSimp ps_continue fun D σ H ⟨ρ, σ3, hh, rs, rp, P⟩ => P ρ H σ (Step.refl _ _) rs rp
  | never =>
    refine fun _ => .one (fun sts => by cases sts <;> rfl) fun st h => ?_
    exact PSimp ps_never fun D σ H ⟨ρ, σ3, hh, rs, rp, P⟩ => P.elim
end
end L3

namespace L3
open PySem L2

def scB (N ps : List Str) (sc : Scope) : Bool :=
  funB sc && !sc.isCoroutine && !sc.isGenerator && decide N.Nodup && decide (N.take ps.length = ps) && (ps.all fun x => match sc.names.lookup x with | some .local => true | some .cell => true | _ => false) && (sc.names.all fun y => !decide (y.2 = .free))
theorem sc_of {N ps : List Str} {sc : Scope} (h : scB N ps sc = true) : FnScope N ps sc := by
  unfold scB at h
  simp only [Bool.and_eq_true, Bool.not_eq_true', decide_eq_true_eq, List.all_eq_true] at h
  obtain ⟨⟨⟨⟨⟨⟨h1, h2⟩, h3⟩, h4⟩, h5⟩, h6⟩, h7⟩ := h
  refine ⟨fun_of h1, h2, h3, h4, h5, fun x hx => ?_, fun y hy => ?_⟩
  · have := h6 x hx
    split at this
    · exact .inl (by assumption)
    · exact .inr (by assumption)
    · cases this
  · have := h7 y hy
    simpa using this
section
variable {P : Program} {w : World} {K : PySem.W.Frag} {mg : Str → Option Value} {base : Heap} {x qual : Str} {params : Arguments} {body : List Stmt} {scope : Scope} {dvs : List V} {kws : List (Str × V)} {f : Addr} {fd : FuncData} {N ps : List Str} {k : Nat} {b : S}
theorem Post.of_fn {ρ : List Addr} {H : Hp} {E : XK} {o : Out} {Q : VK} (p : Post K mg (RV K) ρ H E (fnR o) Q) : PostS K mg ρ H (fun cls d _ H => E cls d H) o { nx := fun _ H' => Q .non H', rt := Q } := by
  cases o with
  | next σ3 h => exact fun ρ' H' σ s rs rp => p ρ' H' .non s rp .non
  | ret d h => exact fun ρ' H' v s rp rd => p ρ' H' v s rp rd
  | brk _ _ => exact p.elim
  | cnt _ _ => exact p.elim
  | exc c fs σ3 h => exact fun ρ' H' cls dd σ s rs rp x => p ρ' H' cls dd s rp x
  | bad => exact p.elim
theorem fn_ok (F : FunD K x qual params body scope dvs kws f fd) (S : FnScope N ps scope) (hc : chkB N scope true b body = true) (n : b.need P w K mg base k) : FnOk P w K mg base (L2.CX P w) (k + 1) f fd ps (spF K mg (fn ps.length N.length b)) := by
  refine F.ok S (fun vs H Q E h => ?_) (fun cdv A outer s H vs Q E hr h => ⟨rS K mg (exec b) (fun cls d _ H => E cls d H), ?_, ?_⟩)
  · obtain ⟨ρ, ds, hh, rd, rp, p⟩ := h
    unfold fn at p
    split at p
    · rename_i hl
      rw [← rd.length]; exact hl
    · exact p.elim
  · have G : Gx (cxOf (L2.CX P w) P w K mg base N qual scope f cdv A outer s H E) N scope k true := ⟨rfl, S.nd, rfl, hr.units, fun _ => ⟨rfl, hr⟩⟩
    exact (st_all G (takes_of rfl rfl rfl rfl) (fun _ => rfl) (fun _ => PassesOwn.leaving) b n).pb body hc
  · obtain ⟨ρ, ds, hh, rd, rp, p⟩ := h
    unfold fn at p
    split at p
    · exact ⟨ρ, startD N.length ds, hh, RS.start rd, rp, p.of_fn⟩
    · exact p.elim
theorem cal_of (hm : mg x = some (.ref f)) (F : FunD K x qual params body scope dvs kws f fd) (hb : Binds K fd ps []) {g : Fn} (ok : FnOk P w K mg base (L2.CX P w) k f fd ps (spF K mg g)) : Cal P w K mg base k x g :=
  ⟨f, fd, ps, [], [], [], g, hm, F.kp, hb, .nil, fun _ _ => .nil, fun ds h => by rw [List.append_nil], ok⟩
theorem ok_bad : FnOk P w K mg base (L2.CX P w) k f fd ps (spF K mg fun _ _ => .bad) :=
  ⟨fun vs H Q E h => by obtain ⟨_, _, _, _, _, p⟩ := h; exact p.elim, fun A outer s H args us vs Q E _ _ _ _ h => by obtain ⟨_, _, _, _, _, p⟩ := h; exact p.elim⟩
theorem Cal.mono {k' : Nat} {g : Fn} (c : Cal P w K mg base k x g) (h : k ≤ k') : Cal P w K mg base k' x g := by
  obtain ⟨a, fd, ps, ws, vs, es, f0, h1, h2, h3, h4, h5, h6, h7⟩ := c
  exact ⟨a, fd, ps, ws, vs, es, f0, h1, h2, h3, h4, h5, h6, h7.mono h⟩
end
end L3

namespace L3
open PySem L2
abbrev Frag := PySem.W.Frag

def obsX (ok : Frag → Bool) (fn : List He.DefD) (K : Frag) : He.AlD := (ok K && fn.all fun d => d.ok K, fn.map fun d => He.fnW K d.at_)
def SaysX (ok : Frag → Bool) (fn : List He.DefD) (K : Frag) : Prop := obsX ok fn K = He.valD fn
def obsXG (n : Nat) (ok : Frag → Bool) (fn : List He.DefD) (g : Addr → Option Obj) : He.AlD := obsX ok fn (He.frG g (He.asD g n))
def hookX (n : Nat) (ok : Frag → Bool) (fn : List He.DefD) : PySem.W.Hook where
  α := He.AlD
  obs := fun s => obsXG n ok fn s.heap.get?
  val := fun _ => He.valD fn
  says := fun _ h => ∃ K : Frag, K.In h ∧ SaysX ok fn K
  of := fun _ _ e => ⟨_, He.frG_in, e⟩
  keeps := fun _ _ _ ⟨K, hK, c⟩ k => ⟨K, PySem.W.Frag.In.keeps hK k, c⟩
theorem obsXG_eq {n : Nat} {ok : Frag → Bool} {fn : List He.DefD} {g : Addr → Option Obj} {s : Shared} (h : ∀ a, g a = s.heap.get? a) : obsXG n ok fn g = (hookX n ok fn).obs s := by
  have e : g = s.heap.get? := funext h
  rw [e] <;> rfl
section
variable {ok : Frag → Bool} {fn : List He.DefD} {K : Frag}
theorem SaysX.oks (c : SaysX ok fn K) : ok K = true := (He.ba (show (ok K && fn.all fun d => d.ok K) = true from congrArg (fun z : He.AlD => z.1) c)).1
theorem SaysX.def_ (c : SaysX ok fn K) (i : Nat) {d : He.DefD} (h : fn[i]? = some d) : ∃ fd, FunD K d.name d.qual d.params d.body d.scope (d.dvs K) (d.kws K) (He.fAd K d.at_) fd := by
  have c2 := (He.ba (show (ok K && fn.all fun d => d.ok K) = true from congrArg (fun z : He.AlD => z.1) c)).2
  have e : fn.map (fun d => He.fnW K d.at_) = fn.map He.DefD.val := congrArg (fun z : He.AlD => z.2) c
  have e2 : (fn.map fun d => He.fnW K d.at_)[i]? = (fn.map He.DefD.val)[i]? := by rw [e]
  rw [List.getElem?_map, List.getElem?_map, h] at e2
  exact He.DefD.funD (Option.some.inj e2) (List.all_eq_true.mp c2 d (List.mem_of_getElem? h))
end
/-- a fact of a list -/
theorem fact_at {fa : List He.Fa} {K : Frag} (c : (fa.all fun f => f.ok K) = true) {f : He.Fa} (h : f ∈ fa) : f.ok K = true := List.all_eq_true.mp c f h
/-- a module's tuple of written things -/
theorem glo_tup {K : Frag} {h : Heap} {mg : Str → Option Value} (X : K.In h) (G : h.Ns mainGlobals mg) {x : Str} {ds : List D} {vs : List He.Dv} (c : (He.Fa.glo x).ok K = true) (t : He.tupB K x vs = true)
    (r : ∀ (ρ : List Addr) (H : Hp), RDs K ρ H ds (vs.map (He.Dv.v K))) : Glo K mg x (.tup ds) :=
  ⟨_, .ref (He.ga K x), He.glo_ok X G c, rfl, fun ρ H => .tup (He.tupB_ok t H) (r ρ H)⟩
theorem glo_int {K : Frag} {h : Heap} {mg : Str → Option Value} (X : K.In h) (G : h.Ns mainGlobals mg) {x : Str} {i : Int} (c : (He.Fa.int x i).ok K = true) : Glo K mg x (.int i) := by
  obtain ⟨t, e⟩ := He.int_ok X G c
  exact ⟨_, .int i, e, ⟨t, rfl⟩, fun ρ H => .int i⟩
/-- a def that lets nothing out -/
theorem ok_cx0 {P : Program} {w : World} {K : Frag} {mg : Str → Option Value} {base : Heap} {k : Nat} {f : Addr} {fd : FuncData} {ps : List Str} {sp : Sp} (F : FnOk P w K mg base (L2.CX P w) k f fd ps sp) :
    FnOk P w K mg base CX0 k f fd ps (fun vs H Q _ => sp vs H Q fun _ _ _ => False) :=
  ⟨fun vs H Q E h => F.len vs H Q _ h, fun A outer s H args us vs Q E hr he hb hv hs => codeAny_mono (F.run A outer s H args us vs Q _ hr he hb hv hs) fun r s' hq => by
    cases r with
    | ok fl => cases fl <;> exact hq
    | error e =>
      obtain ⟨_, _, _, _, _, _, _, _, _, _, _, _, z⟩ := (show L2.CX P w outer H s (fun _ _ _ => False) e s' from hq)
      exact z⟩
/-- the law's entry -/
theorem entry {K : Frag} {mg : Str → Option Value} {f : Fn} {H : Hp} {a : Addr} {ns : List Int} (hO : Only H) (hS : SqL K H a (ns.map V.int)) (p : ∃ h', f [.rol (ns.map D.int)] [] = .ok (.bl true) h') :
    spF K mg f [.ref a] H (fun v _ => v = .bl true) fun _ _ _ => False := by
  obtain ⟨h', e⟩ := p
  refine ⟨[], [.rol (ns.map D.int)], [], .cons (.rol ?_ RDs.ints) .nil, ⟨rfl, by simp, fun n a o h1 => by simp at h1⟩, ?_⟩
  · rcases hS with (hS | hS) | hS
    · rcases hO a with z | ⟨o, xs, z⟩
      · rw [z] at hS; cases hS
      · rw [z] at hS; cases hS
    · exact .inl hS
    · exact .inr hS
  · rw [e]
    intro ρ' H' v s rp rd
    cases rd
    rfl
end L3

namespace L3
open PySem L2

section
variable (σ : Sl) (h : Hh)
theorem v_var (i : Nat) : (den (.var i)).v σ h = varR σ i h := rfl
theorem v_cst (d : D) : (den (.cst d)).v σ h = .ok d h := rfl
theorem v_glob (x : Str) (d : D) : (den (.glob x d)).v σ h = .ok d h := rfl
theorem v_bin (op : Operator) (a b : E) : (den (.bin op a b)).v σ h = ((den a).v σ h).bind fun x h1 => ((den b).v σ h1).bind fun y h2 => binD op x y h2 := rfl
theorem v_neg (a : E) : (den (.neg a)).v σ h = ((den a).v σ h).bind negR := rfl
theorem v_not (a : E) : (den (.not a)).v σ h = (((den a).v σ h).bind truR).bind fun b h1 => .ok (.bl (!b)) h1 := rfl
theorem v_and (a b : E) : (den (.and a b)).v σ h = ((den a).v σ h).bind fun x h1 => boolR x ((den b).v σ h1) (.ok (.bl false) h1) := rfl
theorem v_or (a b : E) : (den (.or a b)).v σ h = ((den a).v σ h).bind fun x h1 => boolR x (.ok (.bl true) h1) ((den b).v σ h1) := rfl
theorem v_cmp (op : CmpOp) (a b : E) : (den (.cmp op a b)).v σ h = ((den a).v σ h).bind fun x h1 => ((den b).v σ h1).bind fun y h2 => cmpD op x y h2 := rfl
theorem v_chain (op op' : CmpOp) (a b c : E) : (den (.chain op op' a b c)).v σ h = ((den a).v σ h).bind fun x h1 => ((den b).v σ h1).bind fun y h2 => (cmpD op x y h2).bind fun z h3 =>
      boolR z (((den c).v σ h3).bind fun w h4 => cmpD op' y w h4) (.ok (.bl false) h3) := rfl
theorem v_ife (c a b : E) : (den (.ife c a b)).v σ h = ((den c).t σ h).bind fun k h1 => if k = true then (den a).v σ h1 else (den b).v σ h1 := rfl
theorem v_tup (es : E) : (den (.tup es)).v σ h = ((den es).a σ h).bind tupR := rfl
theorem v_lst (es : E) : (den (.lst es)).v σ h = ((den es).a σ h).bind lstR := rfl
theorem v_sub (a i : E) : (den (.sub a i)).v σ h = ((den a).v σ h).bind fun x h1 => ((den i).v σ h1).bind fun y h2 => subD x y h2 := rfl
theorem v_slc (a lo hi : E) : (den (.slc a lo hi)).v σ h = ((den a).v σ h).bind fun x h1 => ((den lo).o σ h1).bind fun l h2 => ((den hi).o σ h2).bind fun u h3 => slcD x l u h3 := rfl
theorem v_call (f : Fn) (x : Str) (es : E) : (den (.call f x es)).v σ h = ((den es).a σ h).bind f := rfl
theorem v_bi (b : Bi) (es : E) : (den (.bi b es)).v σ h = ((den es).a σ h).bind (biD b) := rfl
theorem v_isi (a : E) (t : Ty) : (den (.isi a t)).v σ h = ((den a).v σ h).bind (isiR t) := rfl
theorem v_bm (m : Bm) (o es : E) : (den (.bm m o es)).v σ h = ((den o).v σ h).bind fun x h1 => if bmOk m x h1 = true then ((den es).a σ h1).bind fun ds h2 => bmD m x ds h2 else .bad := rfl
theorem v_comp (own : List (Str × Nat)) (g : Tg) (it test elt : E) : (den (.comp own g it test elt)).v σ h = ((den it).i σ h).bind fun s h1 => compR (turnC g (den test).t (den elt).v (wipeD σ (own.map (·.2)))) s h1 := rfl
theorem t_not (a : E) : (den (.not a)).t σ h = ((den a).t σ h).bind fun b h1 => .ok (!b) h1 := rfl
theorem t_and (a b : E) : (den (.and a b)).t σ h = ((den a).t σ h).bind fun k h1 => if k = true then (den b).t σ h1 else .ok false h1 := rfl
theorem t_or (a b : E) : (den (.or a b)).t σ h = ((den a).t σ h).bind fun k h1 => if k = true then .ok true h1 else (den b).t σ h1 := rfl
theorem t_var (i : Nat) : (den (.var i)).t σ h = (varR σ i h).bind truR := rfl
theorem t_cmp (op : CmpOp) (a b : E) : (den (.cmp op a b)).t σ h = ((den (.cmp op a b)).v σ h).bind truR := rfl
theorem t_chain (op op' : CmpOp) (a b c : E) : (den (.chain op op' a b c)).t σ h = ((den (.chain op op' a b c)).v σ h).bind truR := rfl
theorem t_sub (a i : E) : (den (.sub a i)).t σ h = ((den (.sub a i)).v σ h).bind truR := rfl
theorem t_call (f : Fn) (x : Str) (es : E) : (den (.call f x es)).t σ h = (((den es).a σ h).bind f).bind truR := rfl
theorem t_bi (b : Bi) (es : E) : (den (.bi b es)).t σ h = (((den es).a σ h).bind (biD b)).bind truR := rfl
theorem t_isi (a : E) (t : Ty) : (den (.isi a t)).t σ h = ((den (.isi a t)).v σ h).bind truR := rfl
theorem t_nil : (den .nil).t σ h = .ok true h := rfl
theorem a_nil : (den .nil).a σ h = .ok [] h := rfl
theorem a_cons (e es : E) : (den (.cons e es)).a σ h = ((den e).v σ h).bind fun d h1 => ((den es).a σ h1).bind fun ds h2 => .ok (d :: ds) h2 := rfl
theorem o_nil : (den .nil).o σ h = .ok none h := rfl
theorem o_cst (d : D) : (den (.cst d)).o σ h = intR d h := rfl
theorem o_var (i : Nat) : (den (.var i)).o σ h = (varR σ i h).bind intR := rfl
theorem o_bin (op : Operator) (a b : E) : (den (.bin op a b)).o σ h = ((den (.bin op a b)).v σ h).bind intR := rfl
theorem o_neg (a : E) : (den (.neg a)).o σ h = ((den (.neg a)).v σ h).bind intR := rfl
theorem o_bi (b : Bi) (es : E) : (den (.bi b es)).o σ h = ((den (.bi b es)).v σ h).bind intR := rfl
theorem i_rng (es : E) : (den (.rng es)).i σ h = ((den es).a σ h).bind rngR := rfl
theorem i_var (i : Nat) : (den (.var i)).i σ h = (varR σ i h).bind seqD := rfl
theorem i_sub (a i : E) : (den (.sub a i)).i σ h = ((den (.sub a i)).v σ h).bind seqD := rfl
theorem i_lst (es : E) : (den (.lst es)).i σ h = ((den (.lst es)).v σ h).bind seqD := rfl
theorem i_slc (a lo hi : E) : (den (.slc a lo hi)).i σ h = ((den (.slc a lo hi)).v σ h).bind seqD := rfl
theorem i_call (f : Fn) (x : Str) (es : E) : (den (.call f x es)).i σ h = ((den (.call f x es)).v σ h).bind seqD := rfl
theorem x_nil : exec .nil σ h = .next σ h := rfl
theorem x_cons (s r : S) : exec (.cons s r) σ h = (exec s σ h).seq (exec r) := rfl
theorem x_pass : exec .pass σ h = .next σ h := rfl
theorem x_expr (e : E) : exec (.expr e) σ h = ((den e).v σ h).out σ fun _ h1 => .next σ h1 := rfl
theorem x_asg (i : Nat) (e : E) : exec (.asg i e) σ h = ((den e).v σ h).out σ fun d h1 => .next (σ.set i (some d)) h1 := rfl
theorem x_par (i j : Nat) (a b : E) : exec (.par i j a b) σ h = ((den a).v σ h).out σ fun x h1 => ((den b).v σ h1).out σ fun y h2 => .next ((σ.set i (some x)).set j (some y)) h2 := rfl
theorem x_unp (g : Tg) (e : E) : exec (.unp g e) σ h = ((den e).v σ h).out σ fun d h1 => unpR g d σ h1 := rfl
theorem x_sts (o i e : E) : exec (.sts o i e) σ h = ((den e).v σ h).out σ fun v h1 => ((den o).v σ h1).out σ fun x h2 => ((den i).v σ h2).out σ fun y h3 => (stsD x y v h3).out σ fun _ h4 => .next σ h4 := rfl
theorem x_ret (e : E) : exec (.ret e) σ h = ((den e).v σ h).out σ fun d h1 => .ret d h1 := rfl
theorem x_retN : exec .retN σ h = .ret .non h := rfl
theorem x_ife (c : E) (t u : S) : exec (.ife c t u) σ h = ((den c).t σ h).out σ fun k h1 => if k = true then exec t σ h1 else exec u σ h1 := rfl
theorem x_whl (c : E) (b : S) : exec (.whl c b) σ h = whlR (den c).t (exec b) σ h := rfl
theorem x_fr (g : Tg) (it : E) (b : S) : exec (.fr g it b) σ h = ((den it).i σ h).out σ fun s h1 => forR g (exec b) s.2 s.1 σ h1 := rfl
theorem x_brk : exec .brk σ h = .brk σ h := rfl
theorem x_cnt : exec .cnt σ h = .cnt σ h := rfl
end
section
variable (h : Hh)
theorem var_z (d : D) (σ : Sl) : varR (some d :: σ) 0 h = .ok d h := rfl
theorem var_s (o : Option D) (σ : Sl) (i : Nat) : varR (o :: σ) (i + 1) h = varR σ i h := rfl
theorem b_add (i j : Int) : binD .Add (.int i) (.int j) h = .ok (.int (i + j)) h := rfl
theorem b_sub (i j : Int) : binD .Sub (.int i) (.int j) h = .ok (.int (i - j)) h := rfl
theorem b_mul (i j : Int) : binD .Mult (.int i) (.int j) h = if i.natAbs.log2 + j.natAbs.log2 < 1000000 then .ok (.int (i * j)) h else .bad := rfl
theorem b_fdiv (i j : Int) : binD .FloorDiv (.int i) (.int j) h = if j ≠ 0 ∧ j.natAbs.log2 < 9000 then .ok (.int (i.fdiv j)) h else .bad := rfl
theorem b_mod (i j : Int) : binD .Mod (.int i) (.int j) h = if j ≠ 0 then .ok (.int (i.fmod j)) h else .bad := rfl
theorem b_pow (i j : Int) : binD .Pow (.int i) (.int j) h = if 0 ≤ j ∧ j ≤ 1000000 ∧ i.natAbs < 2 ^ 64 then .ok (.int (i ^ j.toNat)) h else .bad := rfl
theorem c_lt (i j : Int) : cmpD .Lt (.int i) (.int j) h = .ok (.bl (decide (i < j))) h := rfl
theorem c_le (i j : Int) : cmpD .LtE (.int i) (.int j) h = .ok (.bl (decide (i ≤ j))) h := rfl
theorem c_gt (i j : Int) : cmpD .Gt (.int i) (.int j) h = .ok (.bl (decide (j < i))) h := rfl
theorem c_ge (i j : Int) : cmpD .GtE (.int i) (.int j) h = .ok (.bl (decide (j ≤ i))) h := rfl
theorem c_eq (x y : D) : cmpD .Eq x y h = ofB (eqD x y h) h := rfl
theorem c_ne (x y : D) : cmpD .NotEq x y h = ofB ((eqD x y h).map Bool.not) h := rfl
theorem eq_int (i j : Int) : eqD (.int i) (.int j) h = some (decide (i = j)) := rfl
theorem eq_str (i j : Str) : eqD (.str i) (.str j) h = some (decide (i = j)) := rfl
theorem eq_bl (i j : Bool) : eqD (.bl i) (.bl j) h = some (decide (i = j)) := rfl
theorem abs_int (i : Int) : biD .abs [.int i] h = .ok (.int (i.natAbs : Int)) h := by
  show Res.ok (D.int (if i < 0 then -i else i)) h = _
  congr 2
  split <;> omega
theorem min_int (i j : Int) : biD .min [.int i, .int j] h = .ok (.int (min i j)) h := by
  show Res.ok (D.int (if j < i then j else i)) h = _
  congr 2
  split <;> omega
theorem max_int (i j : Int) : biD .max [.int i, .int j] h = .ok (.int (max i j)) h := by
  show Res.ok (D.int (if j > i then j else i)) h = _
  congr 2
  split <;> omega
theorem len_tup (xs : List D) : biD .len [.tup xs] h = .ok (.int xs.length) h := rfl
theorem len_ref (n : Nat) (xs : List D) (e : h[n]? = some (.lst xs)) : biD .len [.ref n] h = .ok (.int xs.length) h := by
  show (match lenD (.ref n) h with | some n => Res.ok (D.int n) h | none => .bad) = _
  have q : lenD (.ref n) h = some xs.length := by show (match h[n]? with | some (.lst xs) => some xs.length | _ => none) = _; rw [e]
  rw [q]
theorem list_ref (n : Nat) (xs : List D) (e : h[n]? = some (.lst xs)) : biD .list [.ref n] h = .ok (.ref h.length) (h ++ [.lst xs]) := by
  show (match itemsD (.ref n) h with | some xs => Res.ok (D.ref h.length) (h ++ [O.lst xs]) | none => .bad) = _
  have q : itemsD (.ref n) h = some xs := by show (match h[n]? with | some (.lst xs) => some xs | _ => none) = _; rw [e]
  rw [q]
theorem sub_tup (xs : List D) (i : Int) : subD (.tup xs) (.int i) h = ofO (atI xs i) h := rfl
theorem sub_ref (n : Nat) (xs : List D) (i : Int) (e : h[n]? = some (.lst xs)) : subD (.ref n) (.int i) h = ofO (atI xs i) h := by
  show (match h[n]? with | some (.lst xs) => ofO (atI xs i) h | _ => .bad) = _
  rw [e]
theorem sts_ref (n j : Nat) (xs : List D) (i : Int) (v : D) (e : h[n]? = some (.lst xs)) (q : ixN xs.length i = some j) : stsD (.ref n) (.int i) v h = .ok () (h.set n (.lst (xs.set j v))) := by
  show (match h[n]? with | some (.lst xs) => (match ixN xs.length i with | some j => Res.ok () (h.set n (.lst (xs.set j v))) | none => .bad) | _ => .bad) = _
  rw [e]
  dsimp only
  rw [q]
theorem bool_R {α : Type} (b : Bool) (f g : Res α) : boolR (.bl b) f g = if b = true then f else g := by cases b <;> rfl
theorem tru_bl (b : Bool) : truR (.bl b) h = .ok b h := rfl
theorem tru_int (i : Int) : truR (.int i) h = .ok (i != 0) h := rfl
theorem tru_non : truR .non h = .ok false h := rfl
theorem tru_tup (xs : List D) : truR (.tup xs) h = .ok (!xs.isEmpty) h := rfl
theorem tru_ref (n : Nat) (xs : List D) (e : h[n]? = some (.lst xs)) : truR (.ref n) h = .ok (!xs.isEmpty) h := by
  unfold truR
  have q : truD (.ref n) h = some (!xs.isEmpty) := by show (match h[n]? with | some (.lst xs) => some (!xs.isEmpty) | some (.dK kvs) => some (!kvs.isEmpty) | _ => none) = _; rw [e]
  rw [q]
theorem isi_non (t : Ty) : isiR t .non h = .ok (.bl (isTy .non t)) h := rfl
theorem isi_bl (t : Ty) (b : Bool) : isiR t (.bl b) h = .ok (.bl (isTy .bool t)) h := rfl
theorem isi_int (t : Ty) (b : Int) : isiR t (.int b) h = .ok (.bl (isTy .int t)) h := rfl
theorem isi_str (t : Ty) (b : Str) : isiR t (.str b) h = .ok (.bl (isTy .str t)) h := rfl
theorem isi_tup (t : Ty) (b : List D) : isiR t (.tup b) h = .ok (.bl (isTy .tuple t)) h := rfl
theorem isi_ref (t : Ty) (n : Nat) (xs : List D) (e : h[n]? = some (.lst xs)) : isiR t (.ref n) h = .ok (.bl (isTy .list t)) h := by
  unfold isiR
  have q : tyD (.ref n) h = some .list := by show (match h[n]? with | some (.lst _) => some Kd.list | some (.dK _) => some Kd.dict | _ => none) = _; rw [e]
  rw [q]
theorem tup_ok (ds : List D) (e : ds.length ≤ 1000) : tupR ds h = .ok (.tup ds) h := if_pos e
theorem lst_ok (ds : List D) (e : ds.length ≤ 1000) : lstR ds h = .ok (.ref h.length) (h ++ [.lst ds]) := if_pos e
theorem neg_int (i : Int) : negR (.int i) h = .ok (.int (-i)) h := rfl
theorem int_int (i : Int) : intR (.int i) h = .ok (some i) h := rfl
theorem fnR_ret (d : D) : fnR (.ret d h) = .ok d h := rfl
theorem fnR_next (σ : Sl) : fnR (.next σ h) = .ok .non h := rfl
theorem fnR_exc (c : Str) (fs : List (Str × D)) (σ : Sl) : fnR (.exc c fs σ h) = .exc c fs h := rfl
theorem ofO_some (d : D) : ofO (some d) h = .ok d h := rfl
theorem ofB_some (b : Bool) : ofB (some b) h = .ok (.bl b) h := rfl
theorem mul_small {i j : Int} (e : i.natAbs.log2 + j.natAbs.log2 < 1000000) : binD .Mult (.int i) (.int j) h = .ok (.int (i * j)) h := if_pos e
theorem fdiv_ok {i j : Int} (e : j ≠ 0 ∧ j.natAbs.log2 < 9000) : binD .FloorDiv (.int i) (.int j) h = .ok (.int (i.fdiv j)) h := if_pos e
theorem mod_ok {i j : Int} (e : j ≠ 0) : binD .Mod (.int i) (.int j) h = .ok (.int (i.fmod j)) h := if_pos e
theorem pow_ok {i j : Int} (e : 0 ≤ j ∧ j ≤ 1000000 ∧ i.natAbs < 2 ^ 64) : binD .Pow (.int i) (.int j) h = .ok (.int (i ^ j.toNat)) h := if_pos e
end
theorem atI_z {α : Type} (x : α) (xs : List α) : atI (x :: xs) 0 = some x := by simp [atI, ixN]
/-- a def's run -/
theorem fn_run {np n : Nat} {b : S} {ds : List D} {h : Hh} (e : ds.length = np) : fn np n b ds h = fnR (exec b (startD n ds) h) := if_pos e
end L3

namespace L3
open PySem L2
def gl (h : Hh) (n : Nat) : Option (List D) := match h[n]? with
  | some (.lst xs) => some xs
  | _ => none
theorem gl_at {h : Hh} {n : Nat} {xs : List D} (e : gl h n = some xs) : h[n]? = some (.lst xs) := by
  unfold gl at e
  split at e
  · rename_i ys q; cases e; exact q
  · exact absurd e (by simp)
theorem at_gl {h : Hh} {n : Nat} {xs : List D} (e : h[n]? = some (.lst xs)) : gl h n = some xs := by
  unfold gl; rw [e]
theorem gl_lt {h : Hh} {n : Nat} {xs : List D} (e : gl h n = some xs) : n < h.length := by
  have q := gl_at e
  exact (List.getElem?_eq_some_iff.mp q).1
theorem gl_set_same (h : Hh) (n : Nat) (xs : List D) (e : n < h.length) : gl (h.set n (.lst xs)) n = some xs := by
  apply at_gl; rw [List.getElem?_set_self e]
theorem gl_set_ne (h : Hh) (m n : Nat) (o : O) (e : m ≠ n) : gl (h.set m o) n = gl h n := by
  unfold gl; rw [List.getElem?_set_ne e]
theorem gl_new (h : Hh) (xs : List D) : gl (h ++ [.lst xs]) h.length = some xs := by
  apply at_gl; simp
theorem gl_old {h : Hh} {n : Nat} (o : O) (e : n < h.length) : gl (h ++ [o]) n = gl h n := by
  unfold gl; rw [List.getElem?_append_left e]
theorem gl_olds {h : Hh} {n : Nat} (os : List O) (e : n < h.length) : gl (h ++ os) n = gl h n := by
  unfold gl; rw [List.getElem?_append_left e]
theorem gl_app (h os : Hh) (k : Nat) : gl (h ++ os) (h.length + k) = gl os k := by
  unfold gl; rw [List.getElem?_append_right (by omega)]; simp
theorem gl_app0 (h os : Hh) : gl (h ++ os) h.length = gl os 0 := gl_app h os 0
theorem gl_c0 (xs : List D) (os : Hh) : gl (.lst xs :: os) 0 = some xs := rfl
theorem gl_cs (o : O) (os : Hh) (k : Nat) : gl (o :: os) (k + 1) = gl os k := rfl
theorem sizeLine_eq : sizeLine = 16777216 := rfl
theorem gl_congr {h h' : Hh} {n : Nat} (e : h'[n]? = h[n]?) : gl h' n = gl h n := by unfold gl; rw [e]
def onL {α : Type} (o : Option (List D)) (f : List D → Res α) : Res α := match o with
  | some xs => f xs
  | none => .bad
theorem onL_some {α : Type} (xs : List D) (f : List D → Res α) : onL (some xs) f = f xs := rfl
section
variable (h : Hh)
theorem r_sub (n : Nat) (i : Int) : subD (.ref n) (.int i) h = onL (gl h n) fun xs => ofO (atI xs i) h := by
  show (match h[n]? with | some (.lst xs) => ofO (atI xs i) h | _ => .bad) = _
  unfold gl onL
  cases h[n]? with
  | none => rfl
  | some o => cases o <;> rfl
theorem r_len (n : Nat) : biD .len [.ref n] h = onL (gl h n) fun xs => .ok (.int xs.length) h := by
  show (match (match h[n]? with | some (.lst xs) => some xs.length | _ => none) with | some n => Res.ok (D.int n) h | none => .bad) = _
  unfold gl onL
  cases h[n]? with
  | none => rfl
  | some o => cases o <;> rfl
theorem r_list (n : Nat) : biD .list [.ref n] h = onL (gl h n) fun xs => .ok (.ref h.length) (h ++ [.lst xs]) := by
  show (match (match h[n]? with | some (.lst xs) => some xs | _ => none) with | some xs => Res.ok (D.ref h.length) (h ++ [O.lst xs]) | none => .bad) = _
  unfold gl onL
  cases h[n]? with
  | none => rfl
  | some o => cases o <;> rfl
theorem l_tup (xs : List D) : biD .list [.tup xs] h = .ok (.ref h.length) (h ++ [.lst xs]) := rfl
def stsL (h : Hh) (n : Nat) (xs : List D) (v : D) : Option Nat → Res Unit
  | some j => .ok () (h.set n (.lst (xs.set j v)))
  | none => .bad
theorem stsL_some (n : Nat) (xs : List D) (v : D) (j : Nat) : stsL h n xs v (some j) = .ok () (h.set n (.lst (xs.set j v))) := rfl
theorem r_sts (n : Nat) (i : Int) (v : D) : stsD (.ref n) (.int i) v h = onL (gl h n) fun xs => stsL h n xs v (ixN xs.length i) := by
  show (match h[n]? with | some (.lst xs) => (match ixN xs.length i with | some j => Res.ok () (h.set n (.lst (xs.set j v))) | none => .bad) | _ => .bad) = _
  unfold gl onL
  cases h[n]? with
  | none => rfl
  | some o => cases o with
    | lst xs => cases q : ixN xs.length i <;> simp only [q, stsL]
    | _ => rfl
theorem r_slc (n : Nat) (lo hi : Option Int) : slcD (.ref n) lo hi h = onL (gl h n) fun xs => .ok (.ref h.length) (h ++ [.lst (cutD xs lo hi)]) := by
  show (match h[n]? with | some (.lst xs) => Res.ok (D.ref h.length) (h ++ [O.lst (cutD xs lo hi)]) | _ => .bad) = _
  unfold gl onL
  cases h[n]? with
  | none => rfl
  | some o => cases o <;> rfl
theorem s_slc (xs : List D) (lo hi : Option Int) : slcD (.rol xs) lo hi h = .ok (.ref h.length) (h ++ [.lst (cutD xs lo hi)]) := rfl
theorem r_seq (n : Nat) : seqD (.ref n) h = onL (gl h n) fun xs => .ok (xs, [(n, xs)]) h := by
  show (match h[n]? with | some (.lst xs) => Res.ok (xs, [(n, xs)]) h | _ => .bad) = _
  unfold gl onL
  cases h[n]? with
  | none => rfl
  | some o => cases o <;> rfl
theorem t_seq (xs : List D) : seqD (.tup xs) h = .ok (xs, []) h := rfl
theorem r_add (m n : Nat) : binD .Add (.ref m) (.ref n) h = onL (gl h m) fun xs => onL (gl h n) fun ys => if xs.length + ys.length ≤ sizeLine then .ok (.ref h.length) (h ++ [.lst (xs ++ ys)]) else .bad := by
  show (match h[m]?, h[n]? with | some (.lst xs), some (.lst ys) => (if xs.length + ys.length ≤ sizeLine then Res.ok (D.ref h.length) (h ++ [O.lst (xs ++ ys)]) else .bad) | _, _ => .bad) = _
  unfold gl onL
  cases h[m]? with
  | none => rfl
  | some o => cases o with
    | lst xs => cases h[n]? with
      | none => rfl
      | some o => cases o <;> rfl
    | _ => rfl
theorem r_isi (t : Ty) (n : Nat) (e : (gl h n).isSome = true) : isiR t (.ref n) h = .ok (.bl (isTy .list t)) h := by
  obtain ⟨xs, q⟩ := Option.isSome_iff_exists.mp e
  exact isi_ref h t n xs (gl_at q)
theorem r_tru (n : Nat) : truR (.ref n) h = (match gl h n with | some xs => .ok (!xs.isEmpty) h | none => truR (.ref n) h) := by
  cases q : gl h n with
  | none => rfl
  | some xs => exact tru_ref h n xs (gl_at q)
theorem at_of {α : Type} (xs : List α) (i : Nat) (e : i < xs.length) : atI xs (i : Int) = some xs[i] := by
  unfold atI ixN
  rw [if_pos (by omega), if_pos (by omega)]
  simp [e]
theorem at_z {α : Type} (x : α) (xs : List α) : atI (x :: xs) 0 = some x := at_of _ 0 (by simp)
theorem at_1 {α : Type} (a x : α) (xs : List α) : atI (a :: x :: xs) 1 = some x := at_of _ 1 (by simp)
theorem at_2 {α : Type} (a b x : α) (xs : List α) : atI (a :: b :: x :: xs) 2 = some x := at_of _ 2 (by simp)
theorem at_3 {α : Type} (a b c x : α) (xs : List α) : atI (a :: b :: c :: x :: xs) 3 = some x := at_of _ 3 (by simp)
theorem at_4 {α : Type} (a b c d x : α) (xs : List α) : atI (a :: b :: c :: d :: x :: xs) 4 = some x := at_of _ 4 (by simp)
theorem ix_of (n i : Nat) (e : i < n) : ixN n (i : Int) = some i := by
  unfold ixN
  rw [if_pos (by omega), if_pos (by omega)]
  simp
theorem p10_6 : binD .Pow (.int 10) (.int 6) h = .ok (.int 1000000) h := rfl
theorem p10_9 : binD .Pow (.int 10) (.int 9) h = .ok (.int 1000000000) h := rfl
theorem p10_18 : binD .Pow (.int 10) (.int 18) h = .ok (.int 1000000000000000000) h := rfl
theorem p10_30 : binD .Pow (.int 10) (.int 30) h = .ok (.int 1000000000000000000000000000000) h := rfl
end
theorem log_lt {i : Int} {k : Nat} (e : i.natAbs < 2 ^ (k + 1)) : i.natAbs.log2 ≤ k := by
  by_cases c : i.natAbs = 0
  · rw [c]; exact Nat.zero_le _
  · have := (Nat.log2_lt c).mpr e; omega
mutual
theorem dat_depth : ∀ (k : Nat) (h : Hh) (d : D) (a : PyData), datF k h d = some a → a.depth ≤ k
  | 0, _, _, _, e => by simp [datF] at e
  | k + 1, _, .non, _, e => by simp only [datF, Option.some.injEq] at e; subst e; simp [PyData.depth]
  | k + 1, _, .bl _, _, e => by simp only [datF, Option.some.injEq] at e; subst e; simp [PyData.depth]
  | k + 1, _, .int _, _, e => by simp only [datF, Option.some.injEq] at e; subst e; simp [PyData.depth]
  | k + 1, _, .str _, _, e => by simp only [datF, Option.some.injEq] at e; subst e; simp [PyData.depth]
  | k + 1, h, .tup xs, a, e => by
    rw [datF] at e
    obtain ⟨as, q, rfl⟩ := Option.map_eq_some_iff.mp e
    have := dats_depth k h xs as q
    simp only [PyData.depth]; omega
  | k + 1, _, .rol _, _, e => by simp [datF] at e
  | k + 1, h, .ref n, a, e => by
    rw [datF] at e
    split at e
    · obtain ⟨as, q, rfl⟩ := Option.map_eq_some_iff.mp e
      have := dats_depth k h _ as q
      simp only [PyData.depth]; omega
    · exact absurd e (by simp)
termination_by k _ d => (k, sizeOf d)
theorem dats_depth : ∀ (k : Nat) (h : Hh) (d : List D) (a : List PyData), datsF k h d = some a → PyData.depthAll a ≤ k
  | _, _, [], _, e => by rw [datsF] at e; cases e; simp [PyData.depthAll]
  | 0, _, _ :: _, _, e => by simp [datsF] at e
  | k + 1, h, d :: ds, a, e => by
    rw [datsF] at e
    split at e
    · rename_i x y q1 q2
      cases e
      have := dat_depth (k + 1) h d x q1
      have := dats_depth (k + 1) h ds y q2
      simp only [PyData.depthAll]; omega
    · exact absurd e (by simp)
termination_by k _ d => (k, sizeOf d)
end
theorem eqD_of {h : Hh} {x y : D} {a b : PyData} (ha : datF 9 h x = some a) (hb : datF 9 h y = some b) (ka : a.canLay0 = true) (kb : b.canLay0 = true) : eqD x y h = some (PyData.eqv a b) := by
  have q : eqData x y h = some (PyData.eqv a b) := by
    unfold eqData
    rw [ha, hb]
    dsimp only
    rw [if_pos]
    have d1 := dat_depth 9 h x a ha
    have d2 := dat_depth 9 h y b hb
    constructor
    · unfold SeqAt.shaped; simp only [ka, Bool.true_and, decide_eq_true_eq]; omega
    · unfold SeqAt.shaped; simp only [kb, Bool.true_and, decide_eq_true_eq]; omega
  unfold eqD
  split
  · simp only [datF, Option.some.injEq] at ha hb; subst ha; subst hb; simp only [PyData.eqv]; congr 1
  · simp only [datF, Option.some.injEq] at ha hb; subst ha; subst hb; simp only [PyData.eqv]; congr 1
  · simp only [datF, Option.some.injEq] at ha hb; subst ha; subst hb; simp only [PyData.eqv]; congr 1
  · exact q
end L3

namespace L3
open PySem L2
noncomputable def ir_law_flow : S :=
  (.cons (.ret (.lst (.cons (.bi .list (.cons (.slc (.var 0) .nil (.cst (.int 63))) .nil)) (.cons (.cst (.int 0)) (.cons (.cst (.int 0)) (.cons (.cst (.int 7)) .nil))))))
  .nil)
noncomputable def m_law_flow : Fn := fn 1 1 ir_law_flow

noncomputable def ir_law_draw : S :=
  (.cons (.ife (.cmp .Gt (.sub (.var 0) (.cst (.int 2))) (.cst (.int 0)))
    (.cons (.asg 2 (.bin .Mod (.sub (.var 0) (.cst (.int 2))) (.var 1)))
    (.cons (.sts (.var 0) (.cst (.int 2)) (.bin .FloorDiv (.sub (.var 0) (.cst (.int 2))) (.var 1)))
    (.cons (.ret (.var 2))
    .nil)))
    .nil)
  (.cons (.asg 3 (.cst (.int 0)))
  (.cons (.ife (.cmp .Lt (.sub (.var 0) (.cst (.int 1))) (.bi .len (.cons (.sub (.var 0) (.cst (.int 0))) .nil)))
    (.cons (.asg 3 (.sub (.sub (.var 0) (.cst (.int 0))) (.sub (.var 0) (.cst (.int 1)))))
    .nil)
    .nil)
  (.cons (.sts (.var 0) (.cst (.int 1)) (.bin .Add (.sub (.var 0) (.cst (.int 1))) (.cst (.int 1))))
  (.cons (.ife (.cmp .GtE (.bi .abs (.cons (.var 3) .nil)) (.bin .Pow (.cst (.int 10)) (.cst (.int 18))))
    (.cons (.asg 2 (.bin .Mod (.bi .abs (.cons (.var 3) .nil)) (.var 1)))
    (.cons (.sts (.var 0) (.cst (.int 2)) (.bin .FloorDiv (.bi .abs (.cons (.var 3) .nil)) (.var 1)))
    (.cons (.ret (.var 2))
    .nil)))
    .nil)
  (.cons (.asg 4 (.bin .Add (.bin .Add (.bin .Mult (.sub (.var 0) (.cst (.int 3))) (.cst (.int 1103515245))) (.bin .Mult (.var 3) (.cst (.int 48271)))) (.cst (.int 12345))))
  (.cons (.asg 4 (.bin .Mod (.bin .Add (.var 4) (.sub (.var 0) (.cst (.int 1)))) (.cst (.int 2305843009213693951))))
  (.cons (.sts (.var 0) (.cst (.int 3)) (.var 4))
  (.cons (.asg 5 (.bin .Add (.bin .Mult (.var 4) (.cst (.int 69069))) (.bin .Mult (.bin .FloorDiv (.var 4) (.cst (.int 65536))) (.cst (.int 40503)))))
  (.cons (.ife (.cmp .Gt (.var 1) (.bin .Pow (.cst (.int 10)) (.cst (.int 6))))
    (.cons (.ret (.bin .Mod (.bin .Mult (.var 5) (.var 4)) (.var 1)))
    .nil)
    .nil)
  (.cons (.ret (.bin .Mod (.bin .FloorDiv (.bin .Mod (.var 5) (.cst (.int 2147483647))) (.cst (.int 64))) (.var 1)))
  .nil)))))))))))
noncomputable def m_law_draw : Fn := fn 2 6 ir_law_draw

noncomputable def ir_law_low : S :=
  (.cons (.asg 2 (.bi .abs (.cons (.var 0) .nil)))
  (.cons (.asg 3 (.bi .abs (.cons (.var 1) .nil)))
  (.cons (.whl (.var 3)
    (.cons (.par 2 3 (.var 3) (.bin .Mod (.var 2) (.var 3)))
    .nil))
  (.cons (.ife (.cmp .Lt (.var 1) (.cst (.int 0)))
    (.cons (.asg 2 (.neg (.var 2)))
    .nil)
    .nil)
  (.cons (.ret (.tup (.cons (.bin .FloorDiv (.var 0) (.var 2)) (.cons (.bin .FloorDiv (.var 1) (.var 2)) .nil))))
  .nil)))))
noncomputable def m_law_low : Fn := fn 2 4 ir_law_low

noncomputable def ir_law_great : S :=
  (.cons (.asg 1 (.sub (.lst (.cons (.cst (.int 3)) (.cons (.cst (.int 13)) (.cons (.cst (.int 1000)) (.cons (.bin .Pow (.cst (.int 10)) (.cst (.int 9))) (.cons (.bin .Pow (.cst (.int 10)) (.cst (.int 30))) .nil)))))) (.call m_law_draw "_law_draw" (.cons (.var 0) (.cons (.cst (.int 5)) .nil)))))
  (.cons (.ret (.bin .Sub (.call m_law_draw "_law_draw" (.cons (.var 0) (.cons (.bin .Add (.bin .Mult (.cst (.int 2)) (.var 1)) (.cst (.int 1))) .nil))) (.var 1)))
  .nil))
noncomputable def m_law_great : Fn := fn 1 2 ir_law_great

noncomputable def ir_law_any_part : S :=
  (.cons (.asg 1 (.sub (.lst (.cons (.cst (.int 1)) (.cons (.cst (.int 2)) (.cons (.cst (.int 3)) (.cons (.cst (.int 12)) (.cons (.cst (.int 1000)) (.cons (.bin .Pow (.cst (.int 10)) (.cst (.int 9))) (.cons (.bin .Pow (.cst (.int 10)) (.cst (.int 30))) .nil)))))))) (.call m_law_draw "_law_draw" (.cons (.var 0) (.cons (.cst (.int 7)) .nil)))))
  (.cons (.ret (.call m_law_low "_law_low" (.cons (.call m_law_great "_law_great" (.cons (.var 0) .nil)) (.cons (.bin .Add (.cst (.int 1)) (.call m_law_draw "_law_draw" (.cons (.var 0) (.cons (.var 1) .nil)))) .nil))))
  .nil))
noncomputable def m_law_any_part : Fn := fn 1 2 ir_law_any_part

noncomputable def ir_law_strange : S :=
  (.cons (.ret (.sub (.lst (.cons (.cst (.bl true)) (.cons (.cst (.bl false)) (.cons (.cst .non) (.cons (.cst (.str "3")) (.cons (.lst (.cons (.cst (.int 1)) .nil)) (.cons (.tup (.cons (.cst (.int 1)) (.cons (.cst (.int 1)) .nil))) (.cons (.cst (.str "")) (.cons (.lst .nil) .nil))))))))) (.bin .Mod (.var 0) (.cst (.int 8)))))
  .nil)
noncomputable def m_law_strange : Fn := fn 1 1 ir_law_strange

noncomputable def ir_law_is_part : S :=
  (.cons (.ife (.or (.not (.isi (.var 0) .tuple)) (.cmp .NotEq (.bi .len (.cons (.var 0) .nil)) (.cst (.int 2))))
    (.cons (.ret (.cst (.bl false)))
    .nil)
    .nil)
  (.cons (.ife (.or (.not (.isi (.sub (.var 0) (.cst (.int 0))) .int)) (.isi (.sub (.var 0) (.cst (.int 0))) .bool))
    (.cons (.ret (.cst (.bl false)))
    .nil)
    .nil)
  (.cons (.ife (.or (.not (.isi (.sub (.var 0) (.cst (.int 1))) .int)) (.isi (.sub (.var 0) (.cst (.int 1))) .bool))
    (.cons (.ret (.cst (.bl false)))
    .nil)
    .nil)
  (.cons (.ret (.and (.cmp .Gt (.sub (.var 0) (.cst (.int 1))) (.cst (.int 0))) (.cmp .Eq (.call m_law_low "_law_low" (.cons (.sub (.var 0) (.cst (.int 0))) (.cons (.sub (.var 0) (.cst (.int 1))) .nil))) (.var 0))))
  .nil))))
noncomputable def m_law_is_part : Fn := fn 1 1 ir_law_is_part

def ir_law_same (rec : Fn) : S :=
  (.cons (.ife (.isi (.var 1) .bool)
    (.cons (.ret (.and (.isi (.var 0) .bool) (.cmp .Eq (.var 0) (.var 1))))
    .nil)
    .nil)
  (.cons (.ife (.cmp .Is (.var 1) (.cst .non))
    (.cons (.ret (.cmp .Is (.var 0) (.cst .non)))
    .nil)
    .nil)
  (.cons (.ife (.isi (.var 1) .int)
    (.cons (.ret (.and (.isi (.var 0) .int) (.and (.not (.isi (.var 0) .bool)) (.cmp .Eq (.var 0) (.var 1)))))
    .nil)
    .nil)
  (.cons (.ife (.isi (.var 1) .str)
    (.cons (.ret (.and (.isi (.var 0) .str) (.cmp .Eq (.var 0) (.var 1))))
    .nil)
    .nil)
  (.cons (.ife (.and (.isi (.var 1) .tuple) (.not (.isi (.var 0) .tuple)))
    (.cons (.ret (.cst (.bl false)))
    .nil)
    .nil)
  (.cons (.ife (.and (.isi (.var 1) .list) (.not (.isi (.var 0) .list)))
    (.cons (.ret (.cst (.bl false)))
    .nil)
    .nil)
  (.cons (.ife (.cmp .NotEq (.bi .len (.cons (.var 0) .nil)) (.bi .len (.cons (.var 1) .nil)))
    (.cons (.ret (.cst (.bl false)))
    .nil)
    .nil)
  (.cons (.fr (.n 2) (.rng (.cons (.bi .len (.cons (.var 1) .nil)) .nil))
    (.cons (.ife (.not (.call rec "_law_same" (.cons (.sub (.var 0) (.var 2)) (.cons (.sub (.var 1) (.var 2)) .nil))))
      (.cons (.ret (.cst (.bl false)))
      .nil)
      .nil)
    .nil))
  (.cons (.ret (.cst (.bl true)))
  .nil)))))))))
noncomputable def m_law_same : Nat → Fn
  | 0 => fun _ _ => .bad
  | d + 1 => fn 2 3 (ir_law_same (m_law_same d))

noncomputable def ir_is_whole : S :=
  (.cons (.ret (.and (.isi (.var 0) .int) (.not (.isi (.var 0) .bool))))
  .nil)
noncomputable def m_is_whole : Fn := fn 1 1 ir_is_whole

noncomputable def ir_common : S :=
  (.cons (.par 0 1 (.bi .abs (.cons (.var 0) .nil)) (.bi .abs (.cons (.var 1) .nil)))
  (.cons (.whl (.var 1)
    (.cons (.par 0 1 (.var 1) (.bin .Mod (.var 0) (.var 1)))
    .nil))
  (.cons (.ret (.var 0))
  .nil)))
noncomputable def m_common : Fn := fn 2 2 ir_common

noncomputable def ir_is_part : S :=
  (.cons (.ife (.or (.not (.isi (.var 0) .tuple)) (.cmp .NotEq (.bi .len (.cons (.var 0) .nil)) (.cst (.int 2))))
    (.cons (.ret (.cst (.bl false)))
    .nil)
    .nil)
  (.cons (.unp (.tup (.cons (.n 1) (.cons (.n 2) .nil))) (.var 0))
  (.cons (.ife (.or (.not (.call m_is_whole "is_whole" (.cons (.var 1) .nil))) (.not (.call m_is_whole "is_whole" (.cons (.var 2) .nil))))
    (.cons (.ret (.cst (.bl false)))
    .nil)
    .nil)
  (.cons (.ret (.and (.cmp .Gt (.var 2) (.cst (.int 0))) (.cmp .Eq (.call m_common "common" (.cons (.var 1) (.cons (.var 2) .nil))) (.cst (.int 1)))))
  .nil))))
noncomputable def m_is_part : Fn := fn 1 3 ir_is_part

noncomputable def ir_law : S :=
  (.cons (.asg 1 (.call m_law_flow "_law_flow" (.cons (.var 0) .nil)))
  (.cons (.asg 2 (.call m_law_any_part "_law_any_part" (.cons (.var 1) .nil)))
  (.cons (.asg 3 (.call m_law_great "_law_great" (.cons (.var 1) .nil)))
  (.cons (.asg 4 (.call m_law_great "_law_great" (.cons (.var 1) .nil)))
  (.cons (.asg 5 (.call m_law_strange "_law_strange" (.cons (.call m_law_draw "_law_draw" (.cons (.var 1) (.cons (.cst (.int 8)) .nil))) .nil)))
  (.cons (.asg 6 (.bin .Add (.cst (.int 2)) (.call m_law_draw "_law_draw" (.cons (.var 1) (.cons (.cst (.int 5)) .nil)))))
  (.cons (.asg 7 (.lst (.cons (.var 2) (.cons (.tup (.cons (.var 3) (.cons (.var 4) .nil))) (.cons (.tup (.cons (.bin .Mult (.sub (.var 2) (.cst (.int 0))) (.var 6)) (.cons (.bin .Mult (.sub (.var 2) (.cst (.int 1))) (.var 6)) .nil))) (.cons (.tup (.cons (.sub (.var 2) (.cst (.int 0))) (.cons (.neg (.sub (.var 2) (.cst (.int 1)))) .nil))) (.cons (.tup (.cons (.sub (.var 2) (.cst (.int 0))) (.cons (.cst (.int 0)) .nil))) (.cons (.tup (.cons (.sub (.var 2) (.cst (.int 0))) .nil)) .nil))))))))
  (.cons (.asg 7 (.bin .Add (.var 7) (.lst (.cons (.tup (.cons (.sub (.var 2) (.cst (.int 0))) (.cons (.sub (.var 2) (.cst (.int 1))) (.cons (.sub (.var 2) (.cst (.int 1))) .nil)))) (.cons (.lst (.cons (.sub (.var 2) (.cst (.int 0))) (.cons (.sub (.var 2) (.cst (.int 1))) .nil))) (.cons (.sub (.var 2) (.cst (.int 0))) (.cons (.var 5) (.cons (.tup (.cons (.var 5) (.cons (.cst (.int 1)) .nil))) (.cons (.tup (.cons (.sub (.var 2) (.cst (.int 0))) (.cons (.var 5) .nil))) .nil)))))))))
  (.cons (.asg 7 (.bin .Add (.var 7) (.lst (.cons (.tup .nil) (.cons (.tup (.cons (.cst (.bl true)) (.cons (.cst (.int 1)) .nil))) (.cons (.tup (.cons (.cst (.int 1)) (.cons (.cst (.bl true)) .nil))) (.cons (.tup (.cons (.cst (.int 0)) (.cons (.cst (.int 1)) .nil))) (.cons (.tup (.cons (.cst (.int 0)) (.cons (.cst (.int 2)) .nil))) (.cons (.tup (.cons (.cst (.int 1)) (.cons (.cst (.int 0)) .nil))) (.cons (.tup (.cons (.cst (.int 0)) (.cons (.cst (.int 0)) .nil))) (.cons (.var 2) .nil)))))))))))
  (.cons (.fr (.n 8) (.var 7)
    (.cons (.asg 9 (.cst (.bl false)))
    (.cons (.ife (.and (.isi (.var 8) .tuple) (.and (.cmp .Eq (.bi .len (.cons (.var 8) .nil)) (.cst (.int 2))) (.cmp .NotEq (.var 8) (.tup (.cons (.cst (.int 0)) (.cons (.cst (.int 0)) .nil))))))
      (.cons (.asg 9 (.call m_law_is_part "_law_is_part" (.cons (.var 8) .nil)))
      .nil)
      .nil)
    (.cons (.ife (.not (.call (m_law_same 8) "_law_same" (.cons (.call m_is_part "is_part" (.cons (.var 8) .nil)) (.cons (.var 9) .nil))))
      (.cons (.ret (.cst (.bl false)))
      .nil)
      .nil)
    .nil))))
  (.cons (.ret (.cst (.bl true)))
  .nil)))))))))))
noncomputable def m_law : Fn := fn 1 10 ir_law
end L3

namespace L3
open PySem L2
local macro_rules | `(tactic| walk_at "ev") => `(tactic| simp only [fn, startD, List.length_cons, List.length_nil, List.map_cons, List.map_nil, List.replicate, List.cons_append, List.nil_append, List.append_nil, Nat.reduceSub, Nat.reduceAdd, Nat.reduceLeDiff, if_true, if_false, reduceIte, v_var, v_cst, v_glob, v_bin, v_neg, v_not, v_and, v_or, v_cmp, v_chain, v_ife, v_tup, v_lst, v_sub, v_slc, v_call, v_bi, v_isi, v_bm, t_not, t_and, t_or, t_var, t_cmp, t_chain, t_sub, t_call, t_bi, t_isi, t_nil, a_nil, a_cons, o_nil, o_cst, o_var, o_bin, o_neg, o_bi, i_rng, i_var, i_sub, i_lst, i_slc, i_call, x_nil, x_cons, x_pass, x_expr, x_asg, x_par, x_unp, x_sts, x_ret, x_retN, x_ife, x_brk, x_cnt, var_z, var_s, b_add, b_sub, c_lt, c_le, c_gt, c_ge, c_eq, c_ne, eq_int, eq_str, eq_bl, ofB_some, ofO_some, Option.map_some, bind_ok, bind_exc, bind_bad, out_ok, out_exc, out_bad, seq_next, seq_ret, seq_brk, seq_cnt, seq_exc, seq_bad, turn_next, turn_ret, turn_brk, turn_cnt, turn_exc, turn_bad, tru_bl, tru_int, tru_non, tru_tup, bool_R, isi_non, isi_bl, isi_int, isi_str, isi_tup, isTy, tup_ok, lst_ok, neg_int, int_int, abs_int, min_int, max_int, len_tup, sub_tup, fnR_ret, fnR_next, fnR_exc, List.set_cons_zero, List.set_cons_succ, Bool.not_true, Bool.not_false, Bool.false_eq_true, decide_eq_true_eq, List.append_assoc, Nat.add_assoc, List.length_append, gl_app, gl_app0, gl_c0, gl_cs, r_add, sizeLine_eq, gl_set_same, onL_some, r_sub, r_len, r_list, l_tup, stsL_some, r_sts, r_slc, s_slc, r_seq, t_seq, r_isi, Option.isSome_some, at_z, at_1, at_2, at_3, at_4, p10_6, p10_9, p10_18, p10_30, Int.cast_ofNat_Int, Int.natCast_zero, Int.natCast_one, Int.reduceEq, Int.reduceNe, Int.reduceLT, Int.reduceLE, Int.reduceAdd, Int.reduceSub, Int.reduceMul, Int.reduceNeg, Int.reduceToNat, decide_true, decide_false, unpR, asgT, asgTs, Option.bind_some, ite_true, ite_false, not_true_eq_false, not_false_eq_true, *])
def gcdW (i j : Nat) : S := .whl (.var j) (.cons (.par i j (.var j) (.bin .Mod (.var i) (.var j))) .nil)
theorem gcd_iter (i j : Nat) (hij : i ≠ j) (h : Hh) (σ : Sl) (hi : i < σ.length) (hj : j < σ.length) : ∀ (b a : Nat), ∃ n, iter (den (.var j)).t (exec (.cons (.par i j (.var j) (.bin .Mod (.var i) (.var j))) .nil)) n ((σ.set i (some (.int a))).set j (some (.int b))) h = .next ((σ.set i (some (.int (Nat.gcd a b : Nat)))).set j (some (.int 0))) h := by
  intro b
  induction b using Nat.strongRecOn with
  | ind b ih =>
    intro a
    have ej : ∀ (x y : Option D) , ((σ.set i x).set j y)[j]? = some y := by
      intro x y; rw [List.getElem?_set_self (by simp [hj])]
    have ei : ∀ (x y : Option D) , ((σ.set i x).set j y)[i]? = some x := by
      intro x y; rw [List.getElem?_set_ne (Ne.symm hij), List.getElem?_set_self hi]
    have vj : ∀ (x : Option D) (y : D) , varR ((σ.set i x).set j (some y)) j h = .ok y h := by
      intro x y; unfold varR; rw [ej]
    have vi : ∀ (x : D) (y : Option D) , varR ((σ.set i (some x)).set j y) i h = .ok x h := by
      intro x y; unfold varR; rw [ei]
    by_cases c : b = 0
    · subst c
      refine ⟨1, ?_⟩
      unfold iter
      rw [t_var, vj]
      simp [tru_int]
    · obtain ⟨n, e⟩ := ih (a % b) (Nat.mod_lt _ (by omega)) b
      refine ⟨n + 1, ?_⟩
      unfold iter
      rw [t_var, vj]
      have q : (((b : Int) != 0)) = true := by simp [c]
      simp only [bind_ok, tru_int, q, out_ok, if_true, x_cons, x_par, v_var, v_bin, vj, vi]
      rw [mod_ok _ (by omega)]
      simp only [bind_ok, out_ok, seq_next, x_nil, turn_next]
      have w : (((σ.set i (some (.int a))).set j (some (.int b))).set i (some (.int b))).set j (some (.int ((a : Int).fmod b))) = (σ.set i (some (.int b))).set j (some (.int ((a % b : Nat) : Int))) := by
        have q2 : (a : Int).fmod b = ((a % b : Nat) : Int) := by
          rw [Int.fmod_eq_emod_of_nonneg _ (by omega)]; simp
        rw [q2, List.set_comm _ _ (Ne.symm hij), List.set_set, List.set_set]
      rw [w, e, Nat.gcd_comm b (a % b), ← Nat.gcd_rec, Nat.gcd_comm]
theorem gcd_whl (i j : Nat) (hij : i ≠ j) (h : Hh) (σ : Sl) (hi : i < σ.length) (hj : j < σ.length) (a b : Nat) : exec (gcdW i j) ((σ.set i (some (.int a))).set j (some (.int b))) h = .next ((σ.set i (some (.int (Nat.gcd a b : Nat)))).set j (some (.int 0))) h := by
  obtain ⟨n, e⟩ := gcd_iter i j hij h σ hi hj b a
  exact whlR_of n e (by simp)
theorem gcd_01 (h : Hh) (a b : Nat) : exec (.whl (.var 1) (.cons (.par 0 1 (.var 1) (.bin .Mod (.var 0) (.var 1))) .nil)) [some (.int a), some (.int b)] h = .next [some (.int (Nat.gcd a b : Nat)), some (.int 0)] h :=
  gcd_whl 0 1 (by decide) h [none, none] (by decide) (by decide) a b
theorem gcd_23 (h : Hh) (x y : Option D) (a b : Nat) : exec (.whl (.var 3) (.cons (.par 2 3 (.var 3) (.bin .Mod (.var 2) (.var 3))) .nil)) [x, y, some (.int a), some (.int b)] h = .next [x, y, some (.int (Nat.gcd a b : Nat)), some (.int 0)] h :=
  gcd_whl 2 3 (by decide) h [x, y, none, none] (by simp) (by simp) a b
theorem common_spec (a b : Int) (h : Hh) : m_common [.int a, .int b] h = .ok (.int (Int.gcd a b : Nat)) h := by
  unfold m_common ir_common
  walk_at "ev"
  rw [gcd_01]
  walk_at "ev"
  rfl
theorem is_whole_int (i : Int) (h : Hh) : m_is_whole [.int i] h = .ok (.bl true) h := by
  unfold m_is_whole ir_is_whole
  walk_at "ev"
theorem is_whole_bl (i : Bool) (h : Hh) : m_is_whole [.bl i] h = .ok (.bl false) h := by
  unfold m_is_whole ir_is_whole
  walk_at "ev"
theorem gcd_pos_r (t b : Int) (hb : b ≠ 0) : 0 < Int.gcd t b := by
  rcases Nat.eq_zero_or_pos (Int.gcd t b) with q | q
  · rw [Int.gcd_eq_zero_iff] at q; exact absurd q.2 hb
  · exact q
def pq (q : Rat) : D := .tup [.int q.num, .int q.den]
theorem fdiv_pos_num (t b : Int) (hb : 0 < b) : t.fdiv (Int.gcd t b : Nat) = (Rat.divInt t b).num ∧ b.fdiv (Int.gcd t b : Nat) = ((Rat.divInt t b).den : Int) := by
  have hne : b ≠ 0 := by omega
  have g0 := gcd_pos_r t b hne
  have d1 : ((Int.gcd t b : Nat) : Int) ∣ t := Int.gcd_dvd_left ..
  have d2 : ((Int.gcd t b : Nat) : Int) ∣ b := Int.gcd_dvd_right ..
  constructor
  · rw [Rat.num_divInt, Int.sign_eq_one_of_pos hb, Int.one_mul, Int.gcd_comm b t, Int.fdiv_eq_ediv_of_dvd d1]
  · rw [Rat.den_divInt, if_neg hne, Int.gcd_comm b t, Int.fdiv_eq_ediv_of_dvd d2]
    have : b = (b.natAbs : Int) := by omega
    generalize Int.gcd t b = g at *
    rw [this, Int.natAbs_natCast]; norm_cast
theorem fdiv_neg_num (t b : Int) (hb : b < 0) : t.fdiv (-(Int.gcd t b : Nat)) = (Rat.divInt t b).num ∧ b.fdiv (-(Int.gcd t b : Nat)) = ((Rat.divInt t b).den : Int) := by
  have q : Rat.divInt t b = Rat.divInt (-t) (-b) := by
    rw [Rat.divInt_eq_divInt_iff (by omega) (by omega)]; grind
  have w := fdiv_pos_num (-t) (-b) (by omega)
  rw [← q] at w
  have e : Int.gcd (-t) (-b) = Int.gcd t b := by simp
  rw [e] at w
  have u := fun (a g : Int) => Int.neg_fdiv_neg (-a) g
  simp only [Int.neg_neg] at u
  rw [u, u]
  exact w
theorem low_spec (t b : Int) (h : Hh) (hb : b ≠ 0) (hs : b.natAbs < 2 ^ 9000) : m_law_low [.int t, .int b] h = .ok (pq (Rat.divInt t b)) h := by
  have g0 := gcd_pos_r t b hb
  have gl : Int.gcd t b ≤ b.natAbs := Nat.gcd_le_right _ (by omega)
  unfold m_law_low ir_law_low
  walk_at "ev"
  rw [gcd_23]
  walk_at "ev"
  have e : Nat.gcd t.natAbs b.natAbs = Int.gcd t b := rfl
  have gs : (Int.gcd t b).log2 < 9000 := by
    rw [Nat.log2_lt (by omega)]; exact Nat.lt_of_le_of_lt gl hs
  by_cases c : b < 0
  · have q := fdiv_neg_num t b c
    have k : -((Int.gcd t b : Nat) : Int) ≠ 0 ∧ (-((Int.gcd t b : Nat) : Int)).natAbs.log2 < 9000 := ⟨by omega, by rw [Int.natAbs_neg]; exact gs⟩
    have k2 := fun i (h : Hh) => fdiv_ok h (i := i) k
    walk_at "ev"
    rw [pq]
  · have q := fdiv_pos_num t b (by omega)
    have k : ((Int.gcd t b : Nat) : Int) ≠ 0 ∧ (((Int.gcd t b : Nat) : Int)).natAbs.log2 < 9000 := ⟨by omega, gs⟩
    have k2 := fun i (h : Hh) => fdiv_ok h (i := i) k
    walk_at "ev"
    rw [pq]
structure Flow (f l : Nat) (h : Hh) : Prop where
  ne : l ≠ f
  st : ∃ i c s : Int, gl h f = some [.ref l, .int i, .int c, .int s] ∧ 0 ≤ i ∧ 0 ≤ c ∧ 0 ≤ s ∧ s < 2305843009213693951
  li : ∃ xs : List Int, gl h l = some (xs.map .int)
/-- only f may have changed -/
def But (f : Nat) (h h' : Hh) : Prop := h'.length = h.length ∧ ∀ n, n ≠ f → h'[n]? = h[n]?
theorem but_refl (f : Nat) (h : Hh) : But f h h := ⟨rfl, fun _ _ => rfl⟩
theorem but_trans {f : Nat} {h1 h2 h3 : Hh} (a : But f h1 h2) (b : But f h2 h3) : But f h1 h3 := ⟨b.1.trans a.1, fun n q => (b.2 n q).trans (a.2 n q)⟩
theorem but_set (f : Nat) (h : Hh) (o : O) : But f h (h.set f o) := ⟨by simp, fun n q => by rw [List.getElem?_set_ne (Ne.symm q)]⟩
theorem but_gl {f n : Nat} {h h' : Hh} (b : But f h h') (q : n ≠ f) : gl h' n = gl h n := gl_congr (b.2 n q)
theorem draw_spec (f l : Nat) (h : Hh) (n : Int) (F : Flow f l h) (h0 : 0 < n) (hn : n.natAbs < 2 ^ 9000) :
    ∃ (r : Int) (h' : Hh), m_law_draw [.ref f, .int n] h = .ok (.int r) h' ∧ 0 ≤ r ∧ r < n ∧ Flow f l h' ∧ But f h h' := by
  obtain ⟨ne, ⟨i, c, s, e, i0, c0, s0, s1⟩, ⟨xs, ex⟩⟩ := F
  have lf := gl_lt e
  have nn : n ≠ 0 ∧ n.natAbs.log2 < 9000 := ⟨by omega, (Nat.log2_lt (by omega)).mpr hn⟩
  have kd := fun i (h : Hh) => fdiv_ok h (i := i) nn
  have km := fun i (h : Hh) => mod_ok h (i := i) nn.1
  have m0 := fun i => Int.fmod_nonneg_of_pos i h0
  have m1 := fun i => Int.fmod_lt_of_pos i h0
  have q0 := fun (i : Int) (z : 0 ≤ i) => Int.fdiv_nonneg z (Int.le_of_lt h0)
  have i1 : ixN 4 1 = some 1 := rfl
  have i2 : ixN 4 2 = some 2 := rfl
  have i3 : ixN 4 3 = some 3 := rfl
  have gs : ∀ (g : Hh) ys, g.length = h.length → gl (g.set f (.lst ys)) f = some ys := fun g ys z => gl_set_same g f ys (by rw [z]; exact lf)
  have gs1 : ∀ ys, gl (h.set f (.lst ys)) f = some ys := fun ys => gs h ys rfl
  have gs2 : ∀ ys zs, gl ((h.set f (.lst ys)).set f (.lst zs)) f = some zs := fun ys zs => gs _ zs (by simp)
  have fin : ∀ (i' c' s' : Int), 0 ≤ i' → 0 ≤ c' → 0 ≤ s' → s' < 2305843009213693951 → Flow f l (h.set f (.lst [.ref l, .int i', .int c', .int s'])) := fun i' c' s' z1 z2 z3 z4 =>
    ⟨ne, ⟨i', c', s', gs1 _, z1, z2, z3, z4⟩, ⟨xs, by rw [gl_set_ne _ _ _ _ (Ne.symm ne)]; exact ex⟩⟩
  unfold m_law_draw ir_law_draw
  walk_at "ev"
  by_cases cc : 0 < c
  · walk_at "ev"
    exact ⟨_, _, rfl, m0 _, m1 _, fin _ _ _ i0 (q0 _ c0) s0 s1, but_set ..⟩
  · walk_at "ev"
    have hcell : ∃ cell : Int, (if i < ((List.map D.int xs).length : Int) then
                ((ofO (atI (List.map D.int xs) i) h).out
                      [some (D.ref f), some (D.int n), none, some (D.int 0), none, none] fun d h1 =>
                      Out.next [some (D.ref f), some (D.int n), none, some d, none, none] h1).seq
                  (exec S.nil)
              else Out.next [some (D.ref f), some (D.int n), none, some (D.int 0), none, none] h) = Out.next [some (D.ref f), some (D.int n), none, some (.int cell), none, none] h := by
      by_cases ci : i < ((List.map D.int xs).length : Int)
      · obtain ⟨j, rfl⟩ := Int.eq_ofNat_of_zero_le i0
        have cj : j < (List.map D.int xs).length := by omega
        refine ⟨xs[j]'(by simpa using cj), ?_⟩
        rw [if_pos ci, at_of _ _ cj]
        simp [ofO_some, x_nil]
      · exact ⟨0, if_neg ci⟩
    obtain ⟨cell, hc⟩ := hcell
    rw [hc]
    walk_at "ev"
    by_cases cg : (1000000000000000000 : Int) ≤ (cell.natAbs : Int)
    · walk_at "ev"
      rw [List.set_set]
      exact ⟨_, _, rfl, m0 _, m1 _, fin _ _ _ (by omega) (q0 _ (by omega)) s0 s1, but_set ..⟩
    · have k1 := fun (g : Hh) => mul_small g (i := s) (j := 1103515245) (by
        have := log_lt (i := s) (k := 60) (by omega)
        have := log_lt (i := 1103515245) (k := 60) (by decide)
        omega)
      have k2 := fun (g : Hh) => mul_small g (i := cell) (j := 48271) (by
        have := log_lt (i := cell) (k := 60) (by omega)
        have := log_lt (i := 48271) (k := 60) (by decide)
        omega)
      have k3 := fun i (g : Hh) => mod_ok g (i := i) (j := 2305843009213693951) (by decide)
      walk_at "ev"
      generalize hw : (s * 1103515245 + cell * 48271 + 12345 + (i + 1)).fmod 2305843009213693951 = w
      have w0 : 0 ≤ w := by rw [← hw]; exact Int.fmod_nonneg_of_pos _ (by decide)
      have w1 : w < 2305843009213693951 := by rw [← hw]; exact Int.fmod_lt_of_pos _ (by decide)
      have k4 := fun (g : Hh) => mul_small g (i := w) (j := 69069) (by
        have := log_lt (i := w) (k := 60) (by omega)
        have := log_lt (i := 69069) (k := 60) (by decide)
        omega)
      have k5 := fun (g : Hh) => fdiv_ok g (i := w) (j := 65536) (by decide)
      have ew : w.fdiv 65536 = w / 65536 := Int.fdiv_eq_ediv_of_nonneg _ (by decide)
      have k6 := fun (g : Hh) => mul_small g (i := w / 65536) (j := 40503) (by
        have := log_lt (i := w / 65536) (k := 60) (by omega)
        have := log_lt (i := 40503) (k := 60) (by decide)
        omega)
      have k7 := fun (g : Hh) => mul_small g (i := w * 69069 + w / 65536 * 40503) (j := w) (by
        have := log_lt (i := w) (k := 60) (by omega)
        have := log_lt (i := w * 69069 + w / 65536 * 40503) (k := 90) (by omega)
        omega)
      have k8 := fun i (g : Hh) => mod_ok g (i := i) (j := 2147483647) (by decide)
      have k9 := fun i (g : Hh) => fdiv_ok g (i := i) (j := 64) (by decide)
      walk_at "ev"
      rw [List.set_set]
      by_cases cs : 1000000 < n
      · walk_at "ev"
        exact ⟨_, _, rfl, m0 _, m1 _, fin _ _ _ (by omega) c0 w0 w1, but_set ..⟩
      · walk_at "ev"
        exact ⟨_, _, rfl, m0 _, m1 _, fin _ _ _ (by omega) c0 w0 w1, but_set ..⟩
end L3

namespace L3
open PySem L2
local macro_rules | `(tactic| walk_at "ev") => `(tactic| simp only [fn, startD, List.length_cons, List.length_nil, List.map_cons, List.map_nil, List.replicate, List.cons_append, List.nil_append, List.append_nil, Nat.reduceSub, Nat.reduceAdd, Nat.reduceLeDiff, if_true, if_false, reduceIte, v_var, v_cst, v_glob, v_bin, v_neg, v_not, v_and, v_or, v_cmp, v_chain, v_ife, v_tup, v_lst, v_sub, v_slc, v_call, v_bi, v_isi, v_bm, t_not, t_and, t_or, t_var, t_cmp, t_chain, t_sub, t_call, t_bi, t_isi, t_nil, a_nil, a_cons, o_nil, o_cst, o_var, o_bin, o_neg, o_bi, i_rng, i_var, i_sub, i_lst, i_slc, i_call, x_nil, x_cons, x_pass, x_expr, x_asg, x_par, x_unp, x_sts, x_ret, x_retN, x_ife, x_brk, x_cnt, var_z, var_s, b_add, b_sub, c_lt, c_le, c_gt, c_ge, c_eq, c_ne, eq_int, eq_str, eq_bl, ofB_some, ofO_some, Option.map_some, bind_ok, bind_exc, bind_bad, out_ok, out_exc, out_bad, seq_next, seq_ret, seq_brk, seq_cnt, seq_exc, seq_bad, turn_next, turn_ret, turn_brk, turn_cnt, turn_exc, turn_bad, tru_bl, tru_int, tru_non, tru_tup, bool_R, isi_non, isi_bl, isi_int, isi_str, isi_tup, isTy, tup_ok, lst_ok, neg_int, int_int, abs_int, min_int, max_int, len_tup, sub_tup, fnR_ret, fnR_next, fnR_exc, List.set_cons_zero, List.set_cons_succ, Bool.not_true, Bool.not_false, Bool.false_eq_true, decide_eq_true_eq, List.append_assoc, Nat.add_assoc, List.length_append, gl_app, gl_app0, gl_c0, gl_cs, r_add, sizeLine_eq, gl_set_same, onL_some, r_sub, r_len, r_list, l_tup, stsL_some, r_sts, r_slc, s_slc, r_seq, t_seq, r_isi, Option.isSome_some, at_z, at_1, at_2, at_3, at_4, p10_6, p10_9, p10_18, p10_30, Int.cast_ofNat_Int, Int.natCast_zero, Int.natCast_one, Int.reduceEq, Int.reduceNe, Int.reduceLT, Int.reduceLE, Int.reduceAdd, Int.reduceSub, Int.reduceMul, Int.reduceNeg, Int.reduceToNat, decide_true, decide_false, unpR, asgT, asgTs, Option.bind_some, ite_true, ite_false, not_true_eq_false, not_false_eq_true, *])
/-- what was there is there, but f -/
def Ext (f : Nat) (h h' : Hh) : Prop := h.length ≤ h'.length ∧ ∀ n, n < h.length → n ≠ f → h'[n]? = h[n]?
theorem ext_refl (f : Nat) (h : Hh) : Ext f h h := ⟨Nat.le_refl _, fun _ _ _ => rfl⟩
theorem ext_trans {f : Nat} {h1 h2 h3 : Hh} (a : Ext f h1 h2) (b : Ext f h2 h3) : Ext f h1 h3 :=
  ⟨Nat.le_trans a.1 b.1, fun n q z => (b.2 n (Nat.lt_of_lt_of_le q a.1) z).trans (a.2 n q z)⟩
theorem but_ext {f : Nat} {h h' : Hh} (b : But f h h') : Ext f h h' := ⟨by rw [b.1]; exact Nat.le_refl _, fun n _ z => b.2 n z⟩
theorem ext_new (f : Nat) (h : Hh) (os : List O) : Ext f h (h ++ os) := ⟨by simp, fun n q _ => List.getElem?_append_left q⟩
theorem ext_gl {f n : Nat} {h h' : Hh} {xs : List D} (b : Ext f h h') (q : n ≠ f) (e : gl h n = some xs) : gl h' n = some xs := by
  rw [gl_congr (b.2 n (gl_lt e) q)]; exact e
theorem flow_lt {f l : Nat} {h : Hh} (F : Flow f l h) : f < h.length ∧ l < h.length := by
  obtain ⟨ne, ⟨i, c, s, e, _⟩, ⟨xs, ex⟩⟩ := F
  exact ⟨gl_lt e, gl_lt ex⟩
theorem flow_new {f l : Nat} {h : Hh} (F : Flow f l h) (os : List O) : Flow f l (h ++ os) := by
  have q := flow_lt F
  obtain ⟨ne, ⟨i, c, s, e, r⟩, ⟨xs, ex⟩⟩ := F
  exact ⟨ne, ⟨i, c, s, by rw [gl_olds _ q.1]; exact e, r⟩, ⟨xs, by rw [gl_olds _ q.2]; exact ex⟩⟩
theorem flow_spec (ns : List Int) (h : Hh) : ∃ h', m_law_flow [.rol (ns.map .int)] h = .ok (.ref (h.length + 2)) h' ∧ Flow (h.length + 2) (h.length + 1) h' ∧ Ext (h.length + 2) h h' := by
  unfold m_law_flow ir_law_flow
  walk_at "ev"
  have e : ∀ xs, gl (h ++ [O.lst xs]) h.length = some xs := fun xs => gl_new h xs
  refine ⟨_, by simp; rfl, ?_, ?_⟩
  · refine ⟨by omega, ⟨0, 0, 7, ?_, by decide, by decide, by decide, by decide⟩, ⟨((ns.drop (HT.sIx (ns.map D.int).length 0 none)).take (HT.sIx (ns.map D.int).length (ns.map D.int).length (some 63) - HT.sIx (ns.map D.int).length 0 none)), ?_⟩⟩
    · apply at_gl; simp
    · apply at_gl; simp [cutD]
  · exact ext_new ..
theorem at_mem {α : Type} (xs : List α) (r : Int) (h0 : 0 ≤ r) (h1 : r < xs.length) : ∃ v, atI xs r = some v ∧ v ∈ xs := by
  obtain ⟨j, rfl⟩ := Int.eq_ofNat_of_zero_le h0
  have cj : j < xs.length := by omega
  exact ⟨xs[j], at_of xs j cj, List.getElem_mem cj⟩
theorem draw_new (f l : Nat) (h : Hh) (n : Int) (F : Flow f l h) (h0 : 0 < n) (hn : n.natAbs < 2 ^ 9000) :
    ∃ (r : Int) (h' : Hh), m_law_draw [.ref f, .int n] h = .ok (.int r) h' ∧ 0 ≤ r ∧ r < n ∧ Flow f l h' ∧ Ext f h h' := by
  obtain ⟨r, h', a, b, c, d, e⟩ := draw_spec f l h n F h0 hn
  exact ⟨r, h', a, b, c, d, but_ext e⟩
theorem great_spec (f l : Nat) (h : Hh) (F : Flow f l h) : ∃ (v : Int) (h' : Hh), m_law_great [.ref f] h = .ok (.int v) h' ∧ v.natAbs ≤ 10 ^ 30 ∧ Flow f l h' ∧ Ext f h h' := by
  unfold m_law_great ir_law_great
  walk_at "ev"
  have lf := flow_lt F
  obtain ⟨r, h1, e1, r0, r1, F1, X1⟩ := draw_new f l _ 5 (flow_new F [.lst [.int 3, .int 13, .int 1000, .int 1000000000, .int 1000000000000000000000000000000]]) (by decide) (by decide)
  walk_at "ev"
  have g1 := ext_gl X1 (n := h.length) (by omega) (gl_new h _)
  obtain ⟨v, ev, mv⟩ := at_mem [D.int 3, .int 13, .int 1000, .int 1000000000, .int 1000000000000000000000000000000] r r0 (by simpa using r1)
  have hv : ∃ k : Int, v = .int k ∧ 0 < k ∧ k ≤ 1000000000000000000000000000000 := by
    simp only [List.mem_cons, List.not_mem_nil, or_false] at mv
    rcases mv with q | q | q | q | q <;> exact ⟨_, q, by decide, by decide⟩
  obtain ⟨k, rfl, k0, k1⟩ := hv
  have km := fun (g : Hh) => mul_small g (i := 2) (j := k) (by
    have := log_lt (i := k) (k := 120) (by omega)
    have := log_lt (i := 2) (k := 60) (by decide)
    omega)
  walk_at "ev"
  obtain ⟨r', h2, e2, r0', r1', F2, X2⟩ := draw_new f l h1 (2 * k + 1) F1 (by omega) (by
    have : (2 * k + 1).natAbs < 2 ^ 110 := by omega
    exact Nat.lt_of_lt_of_le this (Nat.pow_le_pow_right (by decide) (by decide)))
  walk_at "ev"
  exact ⟨_, _, rfl, by omega, F2, ext_trans (ext_new f h _) (ext_trans X1 X2)⟩
theorem any_part_spec (f l : Nat) (h : Hh) (F : Flow f l h) : ∃ (q : Rat) (h' : Hh), m_law_any_part [.ref f] h = .ok (pq q) h' ∧ (q.num.natAbs ≤ 10 ^ 30 ∧ q.den ≤ 10 ^ 30) ∧ Flow f l h' ∧ Ext f h h' := by
  unfold m_law_any_part ir_law_any_part
  walk_at "ev"
  have lf := flow_lt F
  obtain ⟨r, h1, e1, r0, r1, F1, X1⟩ := draw_new f l _ 7 (flow_new F [.lst [.int 1, .int 2, .int 3, .int 12, .int 1000, .int 1000000000, .int 1000000000000000000000000000000]]) (by decide) (by decide)
  walk_at "ev"
  have g1 := ext_gl X1 (n := h.length) (by omega) (gl_new h _)
  obtain ⟨v, ev, mv⟩ := at_mem [D.int 1, .int 2, .int 3, .int 12, .int 1000, .int 1000000000, .int 1000000000000000000000000000000] r r0 (by simpa using r1)
  have hv : ∃ k : Int, v = .int k ∧ 0 < k ∧ k ≤ 1000000000000000000000000000000 := by
    simp only [List.mem_cons, List.not_mem_nil, or_false] at mv
    rcases mv with q | q | q | q | q | q | q <;> exact ⟨_, q, by decide, by decide⟩
  obtain ⟨k, rfl, k0, k1⟩ := hv
  obtain ⟨t, h2, e2, t1, F2, X2⟩ := great_spec f l h1 F1
  obtain ⟨b, h3, e3, b0, b1, F3, X3⟩ := draw_new f l h2 k F2 (by omega) (by
    have : k.natAbs < 2 ^ 110 := by omega
    exact Nat.lt_of_lt_of_le this (Nat.pow_le_pow_right (by decide) (by decide)))
  have e4 := low_spec t (1 + b) h3 (by omega) (by
    have : (1 + b).natAbs < 2 ^ 110 := by omega
    exact Nat.lt_of_lt_of_le this (Nat.pow_le_pow_right (by decide) (by decide)))
  walk_at "ev"
  refine ⟨_, _, rfl, ?_, F3, ext_trans (ext_new f h _) (ext_trans X1 (ext_trans X2 X3))⟩
  have w := fdiv_pos_num t (1 + b) (by omega)
  constructor
  · rw [← w.1]
    have : (t.fdiv (t.gcd (1 + b) : Nat)).natAbs ≤ t.natAbs := by
      rw [Int.fdiv_eq_ediv_of_dvd (Int.gcd_dvd_left ..)]
      exact Int.natAbs_ediv_le_natAbs ..
    omega
  · rw [Rat.den_divInt, if_neg (by omega)]
    have := Nat.div_le_self (1 + b).natAbs ((1 + b).gcd t)
    omega
end L3

namespace L3
open PySem L2
local macro_rules | `(tactic| walk_at "ev") => `(tactic| simp only [fn, startD, List.length_cons, List.length_nil, List.map_cons, List.map_nil, List.replicate, List.cons_append, List.nil_append, List.append_nil, Nat.reduceSub, Nat.reduceAdd, Nat.reduceLeDiff, if_true, if_false, reduceIte, v_var, v_cst, v_glob, v_bin, v_neg, v_not, v_and, v_or, v_cmp, v_chain, v_ife, v_tup, v_lst, v_sub, v_slc, v_call, v_bi, v_isi, v_bm, t_not, t_and, t_or, t_var, t_cmp, t_chain, t_sub, t_call, t_bi, t_isi, t_nil, a_nil, a_cons, o_nil, o_cst, o_var, o_bin, o_neg, o_bi, i_rng, i_var, i_sub, i_lst, i_slc, i_call, x_nil, x_cons, x_pass, x_expr, x_asg, x_par, x_unp, x_sts, x_ret, x_retN, x_ife, x_brk, x_cnt, var_z, var_s, b_add, b_sub, c_lt, c_le, c_gt, c_ge, c_eq, c_ne, eq_int, eq_str, eq_bl, ofB_some, ofO_some, Option.map_some, bind_ok, bind_exc, bind_bad, out_ok, out_exc, out_bad, seq_next, seq_ret, seq_brk, seq_cnt, seq_exc, seq_bad, turn_next, turn_ret, turn_brk, turn_cnt, turn_exc, turn_bad, tru_bl, tru_int, tru_non, tru_tup, bool_R, isi_non, isi_bl, isi_int, isi_str, isi_tup, isTy, tup_ok, lst_ok, neg_int, int_int, abs_int, min_int, max_int, len_tup, sub_tup, fnR_ret, fnR_next, fnR_exc, List.set_cons_zero, List.set_cons_succ, Bool.not_true, Bool.not_false, Bool.false_eq_true, decide_eq_true_eq, List.append_assoc, Nat.add_assoc, List.length_append, gl_app, gl_app0, gl_c0, gl_cs, r_add, sizeLine_eq, gl_set_same, onL_some, r_sub, r_len, r_list, l_tup, stsL_some, r_sts, r_slc, s_slc, r_seq, t_seq, r_isi, Option.isSome_some, at_z, at_1, at_2, at_3, at_4, p10_6, p10_9, p10_18, p10_30, Int.cast_ofNat_Int, Int.natCast_zero, Int.natCast_one, Int.reduceEq, Int.reduceNe, Int.reduceLT, Int.reduceLE, Int.reduceAdd, Int.reduceSub, Int.reduceMul, Int.reduceNeg, Int.reduceToNat, decide_true, decide_false, unpR, asgT, asgTs, Option.bind_some, ite_true, ite_false, not_true_eq_false, not_false_eq_true, *])
/-- a drawn strange thing -/
def Strange (h : Hh) (d : D) : Prop := (∃ b, d = .bl b) ∨ d = .non ∨ d = .str "3" ∨ d = .str "" ∨ d = .tup [.int 1, .int 1] ∨ (∃ n, d = .ref n ∧ gl h n = some [.int 1]) ∨ (∃ n, d = .ref n ∧ gl h n = some [])
theorem strange_spec (f l : Nat) (h : Hh) (F : Flow f l h) (k : Int) (k0 : 0 ≤ k) : ∃ (d : D) (h' : Hh), m_law_strange [.int k] h = .ok d h' ∧ Strange h' d ∧ Flow f l h' ∧ Ext f h h' := by
  unfold m_law_strange ir_law_strange
  have km := fun (g : Hh) => mod_ok g (i := k) (j := 8) (by decide)
  walk_at "ev"
  have m0 := Int.fmod_nonneg_of_pos k (b := 8) (by decide)
  have m1 := Int.fmod_lt_of_pos k (b := 8) (by decide)
  have g1 : gl (h ++ [O.lst [.int 1], O.lst [], O.lst [.bl true, .bl false, .non, .str "3", .ref h.length, .tup [.int 1, .int 1], .str "", .ref (h.length + 1)]]) (h.length + 2) = some [.bl true, .bl false, .non, .str "3", .ref h.length, .tup [.int 1, .int 1], .str "", .ref (h.length + 1)] := by apply at_gl; simp
  obtain ⟨v, ev, mv⟩ := at_mem [D.bl true, .bl false, .non, .str "3", .ref h.length, .tup [.int 1, .int 1], .str "", .ref (h.length + 1)] (k.fmod 8) m0 (by simpa using m1)
  simp only [g1, onL_some, ev]
  walk_at "ev"
  refine ⟨_, _, rfl, ?_, flow_new F _, ext_new ..⟩
  simp only [List.mem_cons, List.not_mem_nil, or_false] at mv
  rcases mv with q | q | q | q | q | q | q | q
  · exact .inl ⟨_, q⟩
  · exact .inl ⟨_, q⟩
  · exact .inr (.inl q)
  · exact .inr (.inr (.inl q))
  · exact .inr (.inr (.inr (.inr (.inr (.inl ⟨_, q, by apply at_gl; simp⟩)))))
  · exact .inr (.inr (.inr (.inr (.inl q))))
  · exact .inr (.inr (.inr (.inl q)))
  · exact .inr (.inr (.inr (.inr (.inr (.inr ⟨_, q, by apply at_gl; simp⟩)))))
theorem strange_ext {f : Nat} {h h' : Hh} {d : D} (X : Ext f h h') (hf : ∀ n, d = .ref n → n ≠ f) (s : Strange h d) : Strange h' d := by
  unfold Strange at *
  rcases s with q | q | q | q | q | ⟨n, q, e⟩ | ⟨n, q, e⟩
  · exact .inl q
  · exact .inr (.inl q)
  · exact .inr (.inr (.inl q))
  · exact .inr (.inr (.inr (.inl q)))
  · exact .inr (.inr (.inr (.inr (.inl q))))
  · exact .inr (.inr (.inr (.inr (.inr (.inl ⟨n, q, ext_gl X (hf n q) e⟩)))))
  · exact .inr (.inr (.inr (.inr (.inr (.inr ⟨n, q, ext_gl X (hf n q) e⟩)))))
/-- its kind can be asked -/
def Kn (h : Hh) : D → Prop
  | .ref n => ∃ xs, gl h n = some xs
  | .rol _ => False
  | _ => True
def isI : D → Bool
  | .int _ => true
  | _ => false
theorem is_whole_spec (d : D) (h : Hh) (k : Kn h d) : m_is_whole [d] h = .ok (.bl (isI d)) h := by
  cases d with
  | ref n => obtain ⟨xs, e⟩ := k; unfold m_is_whole ir_is_whole; walk_at "ev"; rfl
  | rol _ => exact k.elim
  | _ => unfold m_is_whole ir_is_whole; walk_at "ev"; rfl
def isP : D → Bool
  | .tup [.int a, .int b] => decide (0 < b) && decide (Int.gcd a b = 1)
  | _ => false
theorem isi_tuple (d : D) (h : Hh) (k : Kn h d) (nt : ∀ xs, d ≠ .tup xs) : isiR .tuple d h = .ok (.bl false) h := by
  cases d with
  | ref n => obtain ⟨xs, e⟩ := k; walk_at "ev"
  | rol _ => exact k.elim
  | tup xs => exact absurd rfl (nt xs)
  | _ => rfl
theorem isP_no (d : D) (nt : ∀ xs, d ≠ .tup xs) : isP d = false := by
  cases d with
  | tup xs => exact absurd rfl (nt xs)
  | _ => rfl
theorem isP_len (xs : List D) (nt : xs.length ≠ 2) : isP (.tup xs) = false := by
  unfold isP
  split
  · rename_i q; cases q; exact absurd rfl nt
  · rfl
theorem is_part_spec (d : D) (h : Hh) (k : Kn h d) (ks : ∀ xs, d = .tup xs → ∀ x ∈ xs, Kn h x) : m_is_part [d] h = .ok (.bl (isP d)) h := by
  unfold m_is_part ir_is_part
  by_cases nt : ∃ xs, d = .tup xs
  · obtain ⟨xs, rfl⟩ := nt
    have ks := ks xs rfl
    walk_at "ev"
    by_cases c : xs.length = 2
    · match xs, c with
      | [a, b], _ =>
        have wa := is_whole_spec a h (ks a (by simp))
        have wb := is_whole_spec b h (ks b (by simp))
        walk_at "ev"
        cases a with
        | int a => cases b with
          | int b =>
            have wc := common_spec a b h
            simp only [isI]
            walk_at "ev"
            by_cases cb : 0 < b
            · walk_at "ev"
              have e : decide (((Int.gcd a b : Nat) : Int) = 1) = isP (.tup [.int a, .int b]) := by
                simp only [isP, cb, decide_true, Bool.true_and]
                congr 1
                rw [eq_iff_iff]; omega
              rw [e]
            · walk_at "ev"
              simp [cb, isP]
          | _ => simp [isI, isP, fnR_ret]
        | _ => simp [isI, isP, fnR_ret]
    · rw [isP_len xs c]
      have c : ¬ ((xs.length : Int) = 2) := by omega
      walk_at "ev"
  · have nt : ∀ xs, d ≠ .tup xs := fun xs e => nt ⟨xs, e⟩
    have e := isi_tuple d h k nt
    rw [isP_no d nt]
    walk_at "ev"
theorem eq_pair (a b c d : Int) (h : Hh) : eqD (.tup [.int a, .int b]) (.tup [.int c, .int d]) h = some (decide (a = c) && decide (b = d)) := by
  rw [eqD_of (a := .tuple [.int a, .int b]) (b := .tuple [.int c, .int d]) (by simp [datF, datsF]) (by simp [datF, datsF]) (by simp [PyData.canLay0, PyData.canLayAll0]) (by simp [PyData.canLay0, PyData.canLayAll0])]
  simp only [PyData.eqv, PyData.eqvAll, Bool.and_true]
  rfl
theorem isi_intb (d : D) (h : Hh) (k : Kn h d) : ∃ b c : Bool, isiR .int d h = .ok (.bl b) h ∧ isiR .bool d h = .ok (.bl c) h ∧ (b && !c) = isI d := by
  cases d with
  | ref n => obtain ⟨xs, e⟩ := k; exact ⟨false, false, by walk_at "ev", by walk_at "ev", rfl⟩
  | rol _ => exact k.elim
  | _ => exact ⟨_, _, rfl, rfl, rfl⟩
theorem low_same (a b : Int) (hb : 0 < b) : (decide ((Rat.divInt a b).num = a) && decide (((Rat.divInt a b).den : Int) = b)) = decide (Int.gcd a b = 1) := by
  have w := fdiv_pos_num a b hb
  rw [Bool.eq_iff_iff]
  simp only [Bool.and_eq_true, decide_eq_true_eq]
  constructor
  · intro ⟨q1, q2⟩
    have r := (Rat.divInt a b).reduced
    rw [q1] at r
    have e : (Rat.divInt a b).den = b.natAbs := by omega
    rw [e] at r
    exact r
  · intro g
    rw [← w.1, ← w.2, g]
    simp
theorem law_is_part_spec (d : D) (h : Hh) (k : Kn h d) (ks : ∀ xs, d = .tup xs → ∀ x ∈ xs, Kn h x) (kb : ∀ a b, d = .tup [.int a, .int b] → b.natAbs < 2 ^ 9000) : m_law_is_part [d] h = .ok (.bl (isP d)) h := by
  unfold m_law_is_part ir_law_is_part
  by_cases nt : ∃ xs, d = .tup xs
  · obtain ⟨xs, rfl⟩ := nt
    have ks := ks xs rfl
    walk_at "ev"
    by_cases c : xs.length = 2
    · match xs, c with
      | [a, b], _ =>
        obtain ⟨a1, a2, ea1, ea2, ea⟩ := isi_intb a h (ks a (by simp))
        obtain ⟨b1, b2, eb1, eb2, eb⟩ := isi_intb b h (ks b (by simp))
        walk_at "ev"
        by_cases ia : isI a = true
        · rw [ia] at ea
          simp only [Bool.and_eq_true, Bool.not_eq_true'] at ea
          obtain ⟨rfl, rfl⟩ := ea
          by_cases ib : isI b = true
          · rw [ib] at eb
            simp only [Bool.and_eq_true, Bool.not_eq_true'] at eb
            obtain ⟨rfl, rfl⟩ := eb
            walk_at "ev"
            cases a with
            | int a => cases b with
              | int b =>
                walk_at "ev"
                by_cases cb : 0 < b
                · have e := low_spec a b h (by omega) (kb a b rfl)
                  have e2 := low_same a b cb
                  rw [pq] at e
                  walk_at "ev"
                  rw [eq_pair, e2]
                  simp [cb, isP, ofB_some, fnR_ret]
                · walk_at "ev"
                  simp [cb, isP]
              | _ => simp [isI] at ib
            | _ => simp [isI] at ia
          · have ep : isP (.tup [a, b]) = false := by
              unfold isP; split
              · rename_i q; cases q; simp [isI] at ib
              · rfl
            rw [ep]
            have ib : isI b = false := by simpa using ib
            rw [ib] at eb
            cases b1 <;> cases b2 <;> simp at eb <;> walk_at "ev"
        · have ep : isP (.tup [a, b]) = false := by
            unfold isP; split
            · rename_i q; cases q; simp [isI] at ia
            · rfl
          rw [ep]
          have ia : isI a = false := by simpa using ia
          rw [ia] at ea
          cases a1 <;> cases a2 <;> simp at ea <;> walk_at "ev"
    · rw [isP_len xs c]
      have c : ¬ ((xs.length : Int) = 2) := by omega
      walk_at "ev"
  · have nt : ∀ xs, d ≠ .tup xs := fun xs e => nt ⟨xs, e⟩
    have e := isi_tuple d h k nt
    rw [isP_no d nt]
    walk_at "ev"
theorem same_bool (k : Nat) (a b : Bool) (h : Hh) : m_law_same (k + 1) [.bl a, .bl b] h = .ok (.bl (decide (a = b))) h := by
  show fn 2 3 (ir_law_same (m_law_same k)) _ _ = _
  unfold ir_law_same
  walk_at "ev"
end L3

namespace L3
open PySem L2
local macro_rules | `(tactic| walk_at "ev") => `(tactic| simp only [fn, startD, List.length_cons, List.length_nil, List.map_cons, List.map_nil, List.replicate, List.cons_append, List.nil_append, List.append_nil, Nat.reduceSub, Nat.reduceAdd, Nat.reduceLeDiff, if_true, if_false, reduceIte, v_var, v_cst, v_glob, v_bin, v_neg, v_not, v_and, v_or, v_cmp, v_chain, v_ife, v_tup, v_lst, v_sub, v_slc, v_call, v_bi, v_isi, v_bm, t_not, t_and, t_or, t_var, t_cmp, t_chain, t_sub, t_call, t_bi, t_isi, t_nil, a_nil, a_cons, o_nil, o_cst, o_var, o_bin, o_neg, o_bi, i_rng, i_var, i_sub, i_lst, i_slc, i_call, x_nil, x_cons, x_pass, x_expr, x_asg, x_par, x_unp, x_sts, x_ret, x_retN, x_ife, x_brk, x_cnt, var_z, var_s, b_add, b_sub, c_lt, c_le, c_gt, c_ge, c_eq, c_ne, eq_int, eq_str, eq_bl, ofB_some, ofO_some, Option.map_some, bind_ok, bind_exc, bind_bad, out_ok, out_exc, out_bad, seq_next, seq_ret, seq_brk, seq_cnt, seq_exc, seq_bad, turn_next, turn_ret, turn_brk, turn_cnt, turn_exc, turn_bad, tru_bl, tru_int, tru_non, tru_tup, bool_R, isi_non, isi_bl, isi_int, isi_str, isi_tup, isTy, tup_ok, lst_ok, neg_int, int_int, abs_int, min_int, max_int, len_tup, sub_tup, fnR_ret, fnR_next, fnR_exc, List.set_cons_zero, List.set_cons_succ, Bool.not_true, Bool.not_false, Bool.false_eq_true, decide_eq_true_eq, List.append_assoc, Nat.add_assoc, List.length_append, gl_app, gl_app0, gl_c0, gl_cs, r_add, sizeLine_eq, gl_set_same, onL_some, r_sub, r_len, r_list, l_tup, stsL_some, r_sts, r_slc, s_slc, r_seq, t_seq, r_isi, Option.isSome_some, at_z, at_1, at_2, at_3, at_4, p10_6, p10_9, p10_18, p10_30, Int.cast_ofNat_Int, Int.natCast_zero, Int.natCast_one, Int.reduceEq, Int.reduceNe, Int.reduceLT, Int.reduceLE, Int.reduceAdd, Int.reduceSub, Int.reduceMul, Int.reduceNeg, Int.reduceToNat, decide_true, decide_false, unpR, asgT, asgTs, Option.bind_some, ite_true, ite_false, not_true_eq_false, not_false_eq_true, *])
/-- a thing asked -/
structure Good (h : Hh) (d : D) : Prop where
  k : Kn h d
  ks : ∀ xs, d = .tup xs → ∀ x ∈ xs, Kn h x
  kb : ∀ a b, d = .tup [.int a, .int b] → b.natAbs < 2 ^ 9000
  dt : ∀ xs, d = .tup xs → xs.length = 2 → ∃ a, datF 9 h d = some a ∧ a.canLay0 = true
noncomputable def body : S := (.cons (.asg 9 (.cst (.bl false)))
    (.cons (.ife (.and (.isi (.var 8) .tuple) (.and (.cmp .Eq (.bi .len (.cons (.var 8) .nil)) (.cst (.int 2))) (.cmp .NotEq (.var 8) (.tup (.cons (.cst (.int 0)) (.cons (.cst (.int 0)) .nil))))))
      (.cons (.asg 9 (.call m_law_is_part "_law_is_part" (.cons (.var 8) .nil)))
      .nil)
      .nil)
    (.cons (.ife (.not (.call (m_law_same 8) "_law_same" (.cons (.call m_is_part "is_part" (.cons (.var 8) .nil)) (.cons (.var 9) .nil))))
      (.cons (.ret (.cst (.bl false)))
      .nil)
      .nil)
    .nil)))
theorem body_run (d : D) (h : Hh) (G : Good h d) (a0 a1 a2 a3 a4 a5 a6 a7 x : Option D) : ∃ y, exec body [a0, a1, a2, a3, a4, a5, a6, a7, some d, x] h = .next [a0, a1, a2, a3, a4, a5, a6, a7, some d, y] h := by
  obtain ⟨k, ks, kb, dt⟩ := G
  have e1 := is_part_spec d h k ks
  have e2 := law_is_part_spec d h k ks kb
  have e3 := fun a b => same_bool 7 a b h
  unfold body
  by_cases nt : ∃ xs, d = .tup xs
  · obtain ⟨xs, rfl⟩ := nt
    walk_at "ev"
    by_cases c : xs.length = 2
    · obtain ⟨a, ea, la⟩ := dt xs rfl c
      have ez : datF 9 h (.tup [.int 0, .int 0]) = some (.tuple [.int 0, .int 0]) := by simp [datF, datsF]
      have eq := eqD_of ea ez la (by simp [PyData.canLay0, PyData.canLayAll0])
      walk_at "ev"
      cases q : PyData.eqv a (.tuple [.int 0, .int 0]) with
      | false =>
        walk_at "ev"
        exact ⟨_, rfl⟩
      | true =>
        have ip : isP (.tup xs) = false := by
          rw [isP.eq_def]
          split
          · rename_i a' b' w
            cases w
            simp only [datF, datsF, Option.map_some, Option.some.injEq] at ea
            subst ea
            simp only [PyData.eqv, PyData.eqvAll, Bool.and_true, Bool.and_eq_true, beq_iff_eq] at q
            have : b' = 0 := q.2
            simp [this]
          · rfl
        rw [ip] at e1
        walk_at "ev"
        exact ⟨_, rfl⟩
    · have c' : ¬ ((xs.length : Int) = 2) := by omega
      rw [isP_len xs c] at e1
      walk_at "ev"
      exact ⟨_, rfl⟩
  · have nt : ∀ xs, d ≠ .tup xs := fun xs e => nt ⟨xs, e⟩
    have e := isi_tuple d h k nt
    rw [isP_no d nt] at e1
    walk_at "ev"
    exact ⟨_, rfl⟩
theorem loop_run (h : Hh) (n : Nat) (all : List D) (eg : gl h n = some all) (a0 a1 a2 a3 a4 a5 a6 a7 : Option D) : ∀ (ds : List D) (x y : Option D), (∀ d ∈ ds, Good h d) →
    ∃ x' y', forR (.n 8) (exec body) [(n, all)] ds [a0, a1, a2, a3, a4, a5, a6, a7, x, y] h = .next [a0, a1, a2, a3, a4, a5, a6, a7, x', y'] h := by
  have og : gdOk [(n, all)] h := by
    intro p hp
    simp only [List.mem_singleton] at hp
    subst hp
    exact ⟨all, gl_at eg, rfl⟩
  intro ds
  induction ds with
  | nil => intro x y _; exact ⟨x, y, by unfold forR; rw [if_pos og]⟩
  | cons d ds ih =>
    intro x y G
    obtain ⟨y1, e1⟩ := body_run d h (G d (by simp)) a0 a1 a2 a3 a4 a5 a6 a7 y
    obtain ⟨x2, y2, e2⟩ := ih (some d) y1 (fun z hz => G z (by simp [hz]))
    refine ⟨x2, y2, ?_⟩
    unfold forR
    rw [if_pos og]
    simp only [asgT, List.set_cons_succ, List.set_cons_zero, e1, turn_next, e2]
theorem loop_all (h : Hh) (n : Nat) (all : List D) (eg : gl h n = some all) (a0 a1 a2 a3 a4 a5 a6 a7 : Option D) (G : ∀ d ∈ all, Good h d) :
    ∃ x' y', forR (.n 8) (exec body) [(n, all)] all [a0, a1, a2, a3, a4, a5, a6, a7, none, none] h = .next [a0, a1, a2, a3, a4, a5, a6, a7, x', y'] h :=
  loop_run h n all eg a0 a1 a2 a3 a4 a5 a6 a7 all none none G
/-- a thing within a pair -/
def Fd (h : Hh) (d : D) : Prop := Kn h d ∧ ∃ a, datF 8 h d = some a ∧ a.canLay0 = true
theorem fd_int (h : Hh) (i : Int) : Fd h (.int i) := ⟨trivial, _, by rw [datF], rfl⟩
theorem fd_bl (h : Hh) (i : Bool) : Fd h (.bl i) := ⟨trivial, _, by rw [datF], rfl⟩
theorem fd_strange (h : Hh) (d : D) (s : Strange h d) : Fd h d := by
  unfold Strange at s
  rcases s with ⟨b, rfl⟩ | rfl | rfl | rfl | rfl | ⟨n, rfl, e⟩ | ⟨n, rfl, e⟩
  · exact fd_bl h b
  · exact ⟨trivial, _, by rw [datF], rfl⟩
  · exact ⟨trivial, _, by rw [datF], by rw [PyData.canLay0]; decide +kernel⟩
  · exact ⟨trivial, _, by rw [datF], by rw [PyData.canLay0]; decide +kernel⟩
  · exact ⟨trivial, .tuple [.int 1, .int 1], by simp [datF, datsF], by simp [PyData.canLay0, PyData.canLayAll0]⟩
  · exact ⟨⟨_, e⟩, .list [.int 1], by simp [datF, datsF, gl_at e], by simp [PyData.canLay0, PyData.canLayAll0]⟩
  · exact ⟨⟨_, e⟩, .list [], by simp [datF, datsF, gl_at e], by simp [PyData.canLay0, PyData.canLayAll0]⟩
theorem good_flat (h : Hh) (d : D) (k : Kn h d) (nt : ∀ xs, d ≠ .tup xs) : Good h d :=
  ⟨k, fun xs e => absurd e (nt xs), fun a b e => absurd e (nt _), fun xs e => absurd e (nt xs)⟩
theorem good_pair (h : Hh) (x y : D) (fx : Fd h x) (fy : Fd h y) (kb : ∀ a b, x = .int a → y = .int b → b.natAbs < 2 ^ 9000) : Good h (.tup [x, y]) := by
  refine ⟨trivial, fun xs e z hz => ?_, fun a b e => ?_, fun xs e _ => ?_⟩
  · cases e
    simp only [List.mem_cons, List.not_mem_nil, or_false] at hz
    rcases hz with rfl | rfl
    · exact fx.1
    · exact fy.1
  · cases e; exact kb a b rfl rfl
  · obtain ⟨_, a, ea, la⟩ := fx
    obtain ⟨_, b, eb, lb⟩ := fy
    exact ⟨.tuple [a, b], by simp [datF, datsF, ea, eb], by simp [PyData.canLay0, PyData.canLayAll0, la, lb]⟩
theorem good_ints (h : Hh) (a b : Int) (kb : b.natAbs < 2 ^ 200) : Good h (.tup [.int a, .int b]) :=
  good_pair h _ _ (fd_int ..) (fd_int ..) (fun a' b' _ e => by cases e; exact Nat.lt_of_lt_of_le kb (Nat.pow_le_pow_right (by decide) (by decide)))
theorem good_else (h : Hh) (xs : List D) (ne : xs.length ≠ 2) (ks : ∀ x ∈ xs, Kn h x) : Good h (.tup xs) :=
  ⟨trivial, fun ys e => by cases e; exact ks, fun a b e => by cases e; exact absurd rfl ne, fun ys e l => by cases e; exact absurd l ne⟩
theorem good_strange (h : Hh) (d : D) (s : Strange h d) : Good h d := by
  have f := fd_strange h d s
  unfold Strange at s
  rcases s with ⟨b, rfl⟩ | rfl | rfl | rfl | rfl | ⟨n, rfl, e⟩ | ⟨n, rfl, e⟩
  · exact good_flat _ _ f.1 (by simp)
  · exact good_flat _ _ f.1 (by simp)
  · exact good_flat _ _ f.1 (by simp)
  · exact good_flat _ _ f.1 (by simp)
  · exact good_ints h 1 1 (by decide)
  · exact good_flat _ _ f.1 (by simp)
  · exact good_flat _ _ f.1 (by simp)
theorem strange_ref {f l : Nat} {h : Hh} {d : D} (F : Flow f l h) (s : Strange h d) : ∀ n, d = .ref n → n ≠ f := by
  obtain ⟨ne, ⟨i, c, s', e, r⟩, ⟨xs, ex⟩⟩ := F
  intro n hd hn
  subst hn
  unfold Strange at s
  rcases s with ⟨b, q⟩ | q | q | q | q | ⟨m, q, w⟩ | ⟨m, q, w⟩ <;> rw [hd] at q <;> cases q
  · rw [e] at w; simp at w
  · rw [e] at w; simp at w
theorem law_true (ns : List Int) (hl : ns.length ≤ 63) : ∃ h', m_law [.rol (ns.map D.int)] [] = .ok (.bl true) h' := by
  unfold m_law ir_law
  obtain ⟨h0, e0, F0, X0⟩ := flow_spec ns []
  simp only [List.length_nil, Nat.zero_add] at e0 F0 X0
  obtain ⟨q, h1, e1, qs, F1, X1⟩ := any_part_spec _ _ h0 F0
  obtain ⟨t, h2, e2, ts, F2, X2⟩ := great_spec _ _ h1 F1
  obtain ⟨b, h3, e3, bs, F3, X3⟩ := great_spec _ _ h2 F2
  obtain ⟨k, h4, e4, k0, k1, F4, X4⟩ := draw_new _ _ h3 8 F3 (by decide) (by decide)
  obtain ⟨d, h5, e5, S5, F5, X5⟩ := strange_spec _ _ h4 F4 k k0
  obtain ⟨y, h6, e6, y0, y1, F6, X6⟩ := draw_new _ _ h5 5 F5 (by decide) (by decide)
  rw [pq] at e1
  have m1 := fun (g : Hh) => mul_small g (i := q.num) (j := 2 + y) (by
    have := log_lt (i := q.num) (k := 120) (by omega)
    have := log_lt (i := 2 + y) (k := 60) (by omega)
    omega)
  have m2 := fun (g : Hh) => mul_small g (i := (q.den : Int)) (j := 2 + y) (by
    have := log_lt (i := q.den) (k := 120) (by omega)
    have := log_lt (i := 2 + y) (k := 60) (by omega)
    omega)
  walk_at "ev"
  have S6 := strange_ext X6 (strange_ref F5 S5) S5
  generalize hH : h6 ++ _ = H
  have eg := (congrArg (fun H => gl H (h6.length + 5)) hH.symm).trans (gl_app h6 _ 5)
  have er := (congrArg (fun H => gl H (h6.length + 1)) hH.symm).trans (gl_app h6 _ 1)
  simp only [gl_cs, gl_c0] at eg er
  have SH : Strange H d := by
    rw [← hH]
    exact strange_ext (ext_new 2 h6 _) (strange_ref F6 S6) S6
  have q1 := qs.1
  have q2 := qs.2
  obtain ⟨x', y', el⟩ := loop_all H _ _ eg (some (D.rol (List.map D.int ns))) (some (D.ref 2)) (some (D.tup [D.int q.num, D.int q.den])) (some (D.int t)) (some (D.int b)) (some d) (some (D.int (2 + y))) (some (D.ref (h6.length + 5))) (fun z hz => by
    simp only [List.mem_cons, List.not_mem_nil, or_false] at hz
    have y2 : ((q.den : Int) * (2 + y)).natAbs < 2 ^ 200 := by
      rw [Int.natAbs_mul]
      have a1 : (2 + y).natAbs ≤ 7 := by omega
      have a2 : (q.den : Int).natAbs ≤ 10 ^ 30 := by omega
      exact Nat.lt_of_le_of_lt (Nat.mul_le_mul a2 a1) (by decide)
    rcases hz with rfl | rfl | rfl | rfl | rfl | rfl | rfl | rfl | rfl | rfl | rfl | rfl | rfl | rfl | rfl | rfl | rfl | rfl | rfl | rfl
    · exact good_ints _ _ _ (by omega)
    · exact good_ints _ _ _ (by omega)
    · exact good_ints _ _ _ y2
    · exact good_ints _ _ _ (by omega)
    · exact good_ints _ _ _ (by omega)
    · exact good_else _ _ (by simp) (by intro x hx; simp at hx; subst hx; trivial)
    · exact good_else _ _ (by simp) (by intro x hx; simp at hx; rcases hx with rfl | rfl <;> trivial)
    · exact good_flat _ _ ⟨_, er⟩ (by simp)
    · exact good_flat _ _ trivial (by simp)
    · exact good_strange _ _ SH
    · exact good_pair _ _ _ (fd_strange _ _ SH) (fd_int ..) (fun a b _ e => by cases e; exact Nat.one_lt_two_pow (by decide))
    · exact good_pair _ _ _ (fd_int ..) (fd_strange _ _ SH) (fun a b _ e => by
        subst e
        exact absurd SH (by simp [Strange]))
    · exact good_else _ _ (by simp) (by intro x hx; simp at hx)
    · exact good_pair _ _ _ (fd_bl ..) (fd_int ..) (fun a b e => by cases e)
    · exact good_pair _ _ _ (fd_int ..) (fd_bl ..) (fun a b _ e => by cases e)
    · exact good_ints _ _ _ (by decide)
    · exact good_ints _ _ _ (by decide)
    · exact good_ints _ _ _ (by decide)
    · exact good_ints _ _ _ (by decide)
    · exact good_ints _ _ _ (by omega))
  rw [x_fr]
  walk_at "ev"
  unfold body at el
  rw [el]
  walk_at "ev"
  exact ⟨_, rfl⟩
end L3

set_option maxHeartbeats 0
namespace Glue
open PySem L2 L3
def top (i : Nat) : Stmt := PySem.Challenge.pw_lagwedge_k02_parts_known.main.body.getD i (.Pass ⟨0, 0, 0, 0⟩)
def d__law_flow : He.DefD := ⟨("_law_flow", none), "_law_flow", "_law_flow", defArgs (top 5), defBody (top 5), defScope (top 5), [], []⟩
def d__law_draw : He.DefD := ⟨("_law_draw", none), "_law_draw", "_law_draw", defArgs (top 6), defBody (top 6), defScope (top 6), [], []⟩
def d__law_low : He.DefD := ⟨("_law_low", none), "_law_low", "_law_low", defArgs (top 7), defBody (top 7), defScope (top 7), [], []⟩
def d__law_great : He.DefD := ⟨("_law_great", none), "_law_great", "_law_great", defArgs (top 8), defBody (top 8), defScope (top 8), [], []⟩
def d__law_any_part : He.DefD := ⟨("_law_any_part", none), "_law_any_part", "_law_any_part", defArgs (top 9), defBody (top 9), defScope (top 9), [], []⟩
def d__law_strange : He.DefD := ⟨("_law_strange", none), "_law_strange", "_law_strange", defArgs (top 10), defBody (top 10), defScope (top 10), [], []⟩
def d__law_is_part : He.DefD := ⟨("_law_is_part", none), "_law_is_part", "_law_is_part", defArgs (top 11), defBody (top 11), defScope (top 11), [], []⟩
def d__law_same : He.DefD := ⟨("_law_same", none), "_law_same", "_law_same", defArgs (top 12), defBody (top 12), defScope (top 12), [], []⟩
def d_is_whole : He.DefD := ⟨("is_whole", none), "is_whole", "is_whole", defArgs (top 1), defBody (top 1), defScope (top 1), [], []⟩
def d_common : He.DefD := ⟨("common", none), "common", "common", defArgs (top 2), defBody (top 2), defScope (top 2), [], []⟩
def d_is_part : He.DefD := ⟨("is_part", none), "is_part", "is_part", defArgs (top 3), defBody (top 3), defScope (top 3), [], []⟩
def d_law : He.DefD := ⟨("law", none), "law", "law", defArgs (top 13), defBody (top 13), defScope (top 13), [], []⟩
def fnL : List He.DefD := [d__law_flow, d__law_draw, d__law_low, d__law_great, d__law_any_part, d__law_strange, d__law_is_part, d__law_same, d_is_whole, d_common, d_is_part, d_law]
def faL : List He.Fa := [.glo "_law_flow", .glo "_law_draw", .glo "_law_low", .glo "_law_great", .glo "_law_any_part", .glo "_law_strange", .glo "_law_is_part", .glo "_law_same", .glo "is_whole", .glo "common", .glo "is_part", .glo "law", .free "abs", .free "bool", .free "int", .free "isinstance", .free "len", .free "list", .free "range", .free "str", .free "tuple"]
def okL (K : Frag) : Bool := (faL.all fun f => f.ok K)
abbrev R : PySem.W.OpenRow := PySem.W.OpenLaw.row PySem.Challenge.rw_lagwedge_k02_parts_known
abbrev hk : PySem.W.Hook := hookX 5 okL fnL
def ob (s : PySem.W.SharedT) : He.AlD := obsXG 5 okL fnL (HandSHeadRun.getT s)
theorem ob_eq (s : PySem.W.SharedT) : ob s = hk.obs s.abs := obsXG_eq (HandSHeadRun.getT_eq s)
def loose : List PySem.Str := (["is_whole", "common", "is_part", "_law_flow", "_law_draw", "_law_low", "_law_great", "_law_any_part", "_law_strange", "_law_is_part", "_law_same"] : List PySem.Str)
theorem run (w : World) : HandSHeadRun.RunEq R (PySem.W.view R.prog [13]) hk ob 6000 loose w := by
  intro os
  kernel_rfl
abbrev N__law_flow : List Str := ["_law_script"]
theorem sc__law_flow : FnScope N__law_flow ["_law_script"] (defScope (top 5)) := sc_of (by decide +kernel)
theorem ck__law_flow : chkB N__law_flow (defScope (top 5)) true ir_law_flow (defBody (top 5)) = true := by decide +kernel
abbrev N__law_draw : List Str := ["_law_flow_here", "_law_size", "_law_found", "_law_cell", "_law_here", "_law_mixed"]
theorem sc__law_draw : FnScope N__law_draw ["_law_flow_here", "_law_size"] (defScope (top 6)) := sc_of (by decide +kernel)
theorem ck__law_draw : chkB N__law_draw (defScope (top 6)) true ir_law_draw (defBody (top 6)) = true := by decide +kernel
abbrev N__law_low : List Str := ["_law_top", "_law_bottom", "_law_one", "_law_two"]
theorem sc__law_low : FnScope N__law_low ["_law_top", "_law_bottom"] (defScope (top 7)) := sc_of (by decide +kernel)
theorem ck__law_low : chkB N__law_low (defScope (top 7)) true ir_law_low (defBody (top 7)) = true := by decide +kernel
abbrev N__law_great : List Str := ["_law_flow_here", "_law_size"]
theorem sc__law_great : FnScope N__law_great ["_law_flow_here"] (defScope (top 8)) := sc_of (by decide +kernel)
theorem ck__law_great : chkB N__law_great (defScope (top 8)) true ir_law_great (defBody (top 8)) = true := by decide +kernel
abbrev N__law_any_part : List Str := ["_law_flow_here", "_law_bottom"]
theorem sc__law_any_part : FnScope N__law_any_part ["_law_flow_here"] (defScope (top 9)) := sc_of (by decide +kernel)
theorem ck__law_any_part : chkB N__law_any_part (defScope (top 9)) true ir_law_any_part (defBody (top 9)) = true := by decide +kernel
abbrev N__law_strange : List Str := ["_law_k"]
theorem sc__law_strange : FnScope N__law_strange ["_law_k"] (defScope (top 10)) := sc_of (by decide +kernel)
theorem ck__law_strange : chkB N__law_strange (defScope (top 10)) true ir_law_strange (defBody (top 10)) = true := by decide +kernel
abbrev N__law_is_part : List Str := ["_law_found"]
theorem sc__law_is_part : FnScope N__law_is_part ["_law_found"] (defScope (top 11)) := sc_of (by decide +kernel)
theorem ck__law_is_part : chkB N__law_is_part (defScope (top 11)) true ir_law_is_part (defBody (top 11)) = true := by decide +kernel
abbrev N__law_same : List Str := ["_law_found", "_law_due", "_law_k"]
theorem sc__law_same : FnScope N__law_same ["_law_found", "_law_due"] (defScope (top 12)) := sc_of (by decide +kernel)
theorem ck__law_same (rec : Fn) : chkB N__law_same (defScope (top 12)) true (ir_law_same rec) (defBody (top 12)) = true := by kernel_rfl
abbrev N_is_whole : List Str := ["thing"]
theorem sc_is_whole : FnScope N_is_whole ["thing"] (defScope (top 1)) := sc_of (by decide +kernel)
theorem ck_is_whole : chkB N_is_whole (defScope (top 1)) true ir_is_whole (defBody (top 1)) = true := by decide +kernel
abbrev N_common : List Str := ["one", "other"]
theorem sc_common : FnScope N_common ["one", "other"] (defScope (top 2)) := sc_of (by decide +kernel)
theorem ck_common : chkB N_common (defScope (top 2)) true ir_common (defBody (top 2)) = true := by decide +kernel
abbrev N_is_part : List Str := ["thing", "top", "bottom"]
theorem sc_is_part : FnScope N_is_part ["thing"] (defScope (top 3)) := sc_of (by decide +kernel)
theorem ck_is_part : chkB N_is_part (defScope (top 3)) true ir_is_part (defBody (top 3)) = true := by decide +kernel
abbrev N_law : List Str := ["_law_script", "_law_flow_here", "_law_one", "_law_top", "_law_bottom", "_law_strange_here", "_law_by", "_law_things", "_law_thing", "_law_due"]
theorem sc_law : FnScope N_law ["_law_script"] (defScope (top 13)) := sc_of (by decide +kernel)
theorem ck_law : chkB N_law (defScope (top 13)) true ir_law (defBody (top 13)) = true := by decide +kernel
section
variable {P : Program} {w : World} {K : Frag} {mg : Str → Option Value} {base : Heap}
theorem ok__law_flow {a : Addr} {fd : FuncData} (F : FunD K "_law_flow" "_law_flow" (defArgs (top 5)) (defBody (top 5)) (defScope (top 5)) (d__law_flow.dvs K) (d__law_flow.kws K) a fd) (f_list : mg "list" = none) : FnOk P w K mg base (L2.CX P w) 1 a fd ["_law_script"] (spF K mg m_law_flow) := by
  have n : ir_law_flow.need P w K mg base 0 := by
    unfold ir_law_flow
    simp only [S.need, E.need, and_true, true_and, Bi.name, Ty.name]
    repeat' (first | apply And.intro | (first | exact True.intro | exact f_list))
  exact fn_ok F sc__law_flow ck__law_flow n
theorem ok__law_draw {a : Addr} {fd : FuncData} (F : FunD K "_law_draw" "_law_draw" (defArgs (top 6)) (defBody (top 6)) (defScope (top 6)) (d__law_draw.dvs K) (d__law_draw.kws K) a fd) (f_abs : mg "abs" = none) (f_len : mg "len" = none) : FnOk P w K mg base (L2.CX P w) 1 a fd ["_law_flow_here", "_law_size"] (spF K mg m_law_draw) := by
  have n : ir_law_draw.need P w K mg base 0 := by
    unfold ir_law_draw
    simp only [S.need, E.need, and_true, true_and, Bi.name, Ty.name]
    repeat' (first | apply And.intro | (first | exact True.intro | exact f_abs | exact f_len))
  exact fn_ok F sc__law_draw ck__law_draw n
theorem ok__law_low {a : Addr} {fd : FuncData} (F : FunD K "_law_low" "_law_low" (defArgs (top 7)) (defBody (top 7)) (defScope (top 7)) (d__law_low.dvs K) (d__law_low.kws K) a fd) (f_abs : mg "abs" = none) : FnOk P w K mg base (L2.CX P w) 1 a fd ["_law_top", "_law_bottom"] (spF K mg m_law_low) := by
  have n : ir_law_low.need P w K mg base 0 := by
    unfold ir_law_low
    simp only [S.need, E.need, and_true, true_and, Bi.name, Ty.name]
    repeat' (first | apply And.intro | (first | exact True.intro | exact f_abs))
  exact fn_ok F sc__law_low ck__law_low n
theorem ok__law_great {a : Addr} {fd : FuncData} (F : FunD K "_law_great" "_law_great" (defArgs (top 8)) (defBody (top 8)) (defScope (top 8)) (d__law_great.dvs K) (d__law_great.kws K) a fd) (c__law_draw : Cal P w K mg base 1 "_law_draw" m_law_draw) : FnOk P w K mg base (L2.CX P w) 2 a fd ["_law_flow_here"] (spF K mg m_law_great) := by
  have n : ir_law_great.need P w K mg base 1 := by
    unfold ir_law_great
    simp only [S.need, E.need, and_true, true_and, Bi.name, Ty.name]
    repeat' (first | apply And.intro | (first | exact True.intro | with_reducible exact c__law_draw.mono (by decide)))
  exact fn_ok F sc__law_great ck__law_great n
theorem ok__law_any_part {a : Addr} {fd : FuncData} (F : FunD K "_law_any_part" "_law_any_part" (defArgs (top 9)) (defBody (top 9)) (defScope (top 9)) (d__law_any_part.dvs K) (d__law_any_part.kws K) a fd) (c__law_draw : Cal P w K mg base 1 "_law_draw" m_law_draw) (c__law_low : Cal P w K mg base 1 "_law_low" m_law_low) (c__law_great : Cal P w K mg base 2 "_law_great" m_law_great) : FnOk P w K mg base (L2.CX P w) 3 a fd ["_law_flow_here"] (spF K mg m_law_any_part) := by
  have n : ir_law_any_part.need P w K mg base 2 := by
    unfold ir_law_any_part
    simp only [S.need, E.need, and_true, true_and, Bi.name, Ty.name]
    repeat' (first | apply And.intro | (first | exact True.intro | with_reducible exact c__law_draw.mono (by decide) | with_reducible exact c__law_low.mono (by decide) | with_reducible exact c__law_great.mono (by decide)))
  exact fn_ok F sc__law_any_part ck__law_any_part n
theorem ok__law_strange {a : Addr} {fd : FuncData} (F : FunD K "_law_strange" "_law_strange" (defArgs (top 10)) (defBody (top 10)) (defScope (top 10)) (d__law_strange.dvs K) (d__law_strange.kws K) a fd)  : FnOk P w K mg base (L2.CX P w) 1 a fd ["_law_k"] (spF K mg m_law_strange) := by
  have n : ir_law_strange.need P w K mg base 0 := by
    unfold ir_law_strange
    simp only [S.need, E.need, and_true, true_and, Bi.name, Ty.name]
    repeat' (first | apply And.intro | (first | exact True.intro))
  exact fn_ok F sc__law_strange ck__law_strange n
theorem ok__law_is_part {a : Addr} {fd : FuncData} (F : FunD K "_law_is_part" "_law_is_part" (defArgs (top 11)) (defBody (top 11)) (defScope (top 11)) (d__law_is_part.dvs K) (d__law_is_part.kws K) a fd) (c__law_low : Cal P w K mg base 1 "_law_low" m_law_low) (f_bool : mg "bool" = none) (f_int : mg "int" = none) (f_isinstance : mg "isinstance" = none) (f_len : mg "len" = none) (f_tuple : mg "tuple" = none) : FnOk P w K mg base (L2.CX P w) 2 a fd ["_law_found"] (spF K mg m_law_is_part) := by
  have n : ir_law_is_part.need P w K mg base 1 := by
    unfold ir_law_is_part
    simp only [S.need, E.need, and_true, true_and, Bi.name, Ty.name]
    repeat' (first | apply And.intro | (first | exact True.intro | with_reducible exact c__law_low.mono (by decide) | exact f_bool | exact f_int | exact f_isinstance | exact f_len | exact f_tuple))
  exact fn_ok F sc__law_is_part ck__law_is_part n
theorem nd__law_same {rec : Fn} {k : Nat} (hk : 0 ≤ k) (cr : Cal P w K mg base k "_law_same" rec) (f_bool : mg "bool" = none) (f_int : mg "int" = none) (f_isinstance : mg "isinstance" = none) (f_len : mg "len" = none) (f_list : mg "list" = none) (f_range : mg "range" = none) (f_str : mg "str" = none) (f_tuple : mg "tuple" = none) : (ir_law_same rec).need P w K mg base k := by
  unfold ir_law_same
  simp only [S.need, E.need, and_true, true_and, Bi.name, Ty.name]
  repeat' (first | apply And.intro | (first | exact True.intro | exact f_bool | exact f_int | exact f_isinstance | exact f_len | exact f_list | exact f_range | exact f_str | exact f_tuple | with_reducible exact cr))
theorem ok__law_same {a : Addr} {fd : FuncData} (F : FunD K "_law_same" "_law_same" (defArgs (top 12)) (defBody (top 12)) (defScope (top 12)) (d__law_same.dvs K) (d__law_same.kws K) a fd) (hm : mg "_law_same" = some (.ref a)) (hb : Binds K fd ["_law_found", "_law_due"] []) (f_bool : mg "bool" = none) (f_int : mg "int" = none) (f_isinstance : mg "isinstance" = none) (f_len : mg "len" = none) (f_list : mg "list" = none) (f_range : mg "range" = none) (f_str : mg "str" = none) (f_tuple : mg "tuple" = none) : ∀ d, FnOk P w K mg base (L2.CX P w) (1 + d) a fd ["_law_found", "_law_due"] (spF K mg (m_law_same d))
  | 0 => ok_bad
  | d + 1 => fn_ok F sc__law_same (ck__law_same _) (nd__law_same (by omega) (cal_of hm F hb (ok__law_same F hm hb f_bool f_int f_isinstance f_len f_list f_range f_str f_tuple d)) f_bool f_int f_isinstance f_len f_list f_range f_str f_tuple)
theorem ok_is_whole {a : Addr} {fd : FuncData} (F : FunD K "is_whole" "is_whole" (defArgs (top 1)) (defBody (top 1)) (defScope (top 1)) (d_is_whole.dvs K) (d_is_whole.kws K) a fd) (f_bool : mg "bool" = none) (f_int : mg "int" = none) (f_isinstance : mg "isinstance" = none) : FnOk P w K mg base (L2.CX P w) 1 a fd ["thing"] (spF K mg m_is_whole) := by
  have n : ir_is_whole.need P w K mg base 0 := by
    unfold ir_is_whole
    simp only [S.need, E.need, and_true, true_and, Bi.name, Ty.name]
    repeat' (first | apply And.intro | (first | exact True.intro | exact f_bool | exact f_int | exact f_isinstance))
  exact fn_ok F sc_is_whole ck_is_whole n
theorem ok_common {a : Addr} {fd : FuncData} (F : FunD K "common" "common" (defArgs (top 2)) (defBody (top 2)) (defScope (top 2)) (d_common.dvs K) (d_common.kws K) a fd) (f_abs : mg "abs" = none) : FnOk P w K mg base (L2.CX P w) 1 a fd ["one", "other"] (spF K mg m_common) := by
  have n : ir_common.need P w K mg base 0 := by
    unfold ir_common
    simp only [S.need, E.need, and_true, true_and, Bi.name, Ty.name]
    repeat' (first | apply And.intro | (first | exact True.intro | exact f_abs))
  exact fn_ok F sc_common ck_common n
theorem ok_is_part {a : Addr} {fd : FuncData} (F : FunD K "is_part" "is_part" (defArgs (top 3)) (defBody (top 3)) (defScope (top 3)) (d_is_part.dvs K) (d_is_part.kws K) a fd) (c_is_whole : Cal P w K mg base 1 "is_whole" m_is_whole) (c_common : Cal P w K mg base 1 "common" m_common) (f_isinstance : mg "isinstance" = none) (f_len : mg "len" = none) (f_tuple : mg "tuple" = none) : FnOk P w K mg base (L2.CX P w) 2 a fd ["thing"] (spF K mg m_is_part) := by
  have n : ir_is_part.need P w K mg base 1 := by
    unfold ir_is_part
    simp only [S.need, E.need, and_true, true_and, Bi.name, Ty.name]
    repeat' (first | apply And.intro | (first | exact True.intro | with_reducible exact c_is_whole.mono (by decide) | with_reducible exact c_common.mono (by decide) | exact f_isinstance | exact f_len | exact f_tuple))
  exact fn_ok F sc_is_part ck_is_part n
theorem ok_law {a : Addr} {fd : FuncData} (F : FunD K "law" "law" (defArgs (top 13)) (defBody (top 13)) (defScope (top 13)) (d_law.dvs K) (d_law.kws K) a fd) (c__law_flow : Cal P w K mg base 1 "_law_flow" m_law_flow) (c__law_any_part : Cal P w K mg base 3 "_law_any_part" m_law_any_part) (c__law_great : Cal P w K mg base 2 "_law_great" m_law_great) (c__law_strange : Cal P w K mg base 1 "_law_strange" m_law_strange) (c__law_draw : Cal P w K mg base 1 "_law_draw" m_law_draw) (c__law_is_part : Cal P w K mg base 2 "_law_is_part" m_law_is_part) (c__law_same : Cal P w K mg base 9 "_law_same" (m_law_same 8)) (c_is_part : Cal P w K mg base 2 "is_part" m_is_part) (f_isinstance : mg "isinstance" = none) (f_len : mg "len" = none) (f_tuple : mg "tuple" = none) : FnOk P w K mg base (L2.CX P w) 10 a fd ["_law_script"] (spF K mg m_law) := by
  have n : ir_law.need P w K mg base 9 := by
    unfold ir_law
    simp only [S.need, E.need, and_true, true_and, Bi.name, Ty.name]
    repeat' (first | apply And.intro | (first | exact True.intro | with_reducible exact c__law_flow.mono (by decide) | with_reducible exact c__law_any_part.mono (by decide) | with_reducible exact c__law_great.mono (by decide) | with_reducible exact c__law_strange.mono (by decide) | with_reducible exact c__law_draw.mono (by decide) | with_reducible exact c__law_is_part.mono (by decide) | with_reducible exact c__law_same.mono (by decide) | with_reducible exact c_is_part.mono (by decide) | exact f_isinstance | exact f_len | exact f_tuple))
  exact fn_ok F sc_law ck_law n
end
theorem facts {P : Program} {w : World} {K : Frag} {h : Heap} {mg : Str → Option Value} {f : Addr} (X : K.In h) (G : h.Ns mainGlobals mg) (hfa : mg ("law" : Str) = some (.ref f)) (c : SaysX okL fnL K) :
    ∃ fd : FuncData, (∀ (s : Shared) (v : Value), BindsTo s fd ⟨[v], []⟩ [("_law_script", v)]) ∧ ∀ base : Heap, K.In base → base.Ns mainGlobals mg → FnOk P w K mg base CX0 10 f fd ["_law_script"] (fun vs H Q _ => spF K mg m_law vs H Q fun _ _ _ => False) := by
  have cc := c.oks
  unfold okL at cc
  have fa := fun {f : He.Fa} (h : f ∈ faL) => fact_at cc h
  have f_abs : mg "abs" = none := He.free_ok X G (fa (f := .free "abs") (by unfold faL; simp))
  have f_bool : mg "bool" = none := He.free_ok X G (fa (f := .free "bool") (by unfold faL; simp))
  have f_int : mg "int" = none := He.free_ok X G (fa (f := .free "int") (by unfold faL; simp))
  have f_isinstance : mg "isinstance" = none := He.free_ok X G (fa (f := .free "isinstance") (by unfold faL; simp))
  have f_len : mg "len" = none := He.free_ok X G (fa (f := .free "len") (by unfold faL; simp))
  have f_list : mg "list" = none := He.free_ok X G (fa (f := .free "list") (by unfold faL; simp))
  have f_range : mg "range" = none := He.free_ok X G (fa (f := .free "range") (by unfold faL; simp))
  have f_str : mg "str" = none := He.free_ok X G (fa (f := .free "str") (by unfold faL; simp))
  have f_tuple : mg "tuple" = none := He.free_ok X G (fa (f := .free "tuple") (by unfold faL; simp))
  obtain ⟨fd__law_flow, F__law_flow⟩ := c.def_ 0 (d := d__law_flow) rfl
  have mm__law_flow : mg "_law_flow" = some (.ref (He.ga K "_law_flow")) := He.glo_ok X G (fa (f := .glo "_law_flow") (by unfold faL; simp))
  obtain ⟨fd__law_draw, F__law_draw⟩ := c.def_ 1 (d := d__law_draw) rfl
  have mm__law_draw : mg "_law_draw" = some (.ref (He.ga K "_law_draw")) := He.glo_ok X G (fa (f := .glo "_law_draw") (by unfold faL; simp))
  obtain ⟨fd__law_low, F__law_low⟩ := c.def_ 2 (d := d__law_low) rfl
  have mm__law_low : mg "_law_low" = some (.ref (He.ga K "_law_low")) := He.glo_ok X G (fa (f := .glo "_law_low") (by unfold faL; simp))
  obtain ⟨fd__law_great, F__law_great⟩ := c.def_ 3 (d := d__law_great) rfl
  have mm__law_great : mg "_law_great" = some (.ref (He.ga K "_law_great")) := He.glo_ok X G (fa (f := .glo "_law_great") (by unfold faL; simp))
  obtain ⟨fd__law_any_part, F__law_any_part⟩ := c.def_ 4 (d := d__law_any_part) rfl
  have mm__law_any_part : mg "_law_any_part" = some (.ref (He.ga K "_law_any_part")) := He.glo_ok X G (fa (f := .glo "_law_any_part") (by unfold faL; simp))
  obtain ⟨fd__law_strange, F__law_strange⟩ := c.def_ 5 (d := d__law_strange) rfl
  have mm__law_strange : mg "_law_strange" = some (.ref (He.ga K "_law_strange")) := He.glo_ok X G (fa (f := .glo "_law_strange") (by unfold faL; simp))
  obtain ⟨fd__law_is_part, F__law_is_part⟩ := c.def_ 6 (d := d__law_is_part) rfl
  have mm__law_is_part : mg "_law_is_part" = some (.ref (He.ga K "_law_is_part")) := He.glo_ok X G (fa (f := .glo "_law_is_part") (by unfold faL; simp))
  obtain ⟨fd__law_same, F__law_same⟩ := c.def_ 7 (d := d__law_same) rfl
  have mm__law_same : mg "_law_same" = some (.ref (He.ga K "_law_same")) := He.glo_ok X G (fa (f := .glo "_law_same") (by unfold faL; simp))
  obtain ⟨fd_is_whole, F_is_whole⟩ := c.def_ 8 (d := d_is_whole) rfl
  have mm_is_whole : mg "is_whole" = some (.ref (He.ga K "is_whole")) := He.glo_ok X G (fa (f := .glo "is_whole") (by unfold faL; simp))
  obtain ⟨fd_common, F_common⟩ := c.def_ 9 (d := d_common) rfl
  have mm_common : mg "common" = some (.ref (He.ga K "common")) := He.glo_ok X G (fa (f := .glo "common") (by unfold faL; simp))
  obtain ⟨fd_is_part, F_is_part⟩ := c.def_ 10 (d := d_is_part) rfl
  have mm_is_part : mg "is_part" = some (.ref (He.ga K "is_part")) := He.glo_ok X G (fa (f := .glo "is_part") (by unfold faL; simp))
  obtain ⟨fd_law, F_law⟩ := c.def_ 11 (d := d_law) rfl
  have mm_law : mg "law" = some (.ref (He.ga K "law")) := He.glo_ok X G (fa (f := .glo "law") (by unfold faL; simp))
  have e := hfa.symm.trans mm_law
  cases e
  have b__law_flow : Binds K fd__law_flow ["_law_script"] [] := FunD.bindsN F__law_flow fun _ _ _ _ _ _ us hl => match us, hl with | [_], _ => rfl
  have b__law_draw : Binds K fd__law_draw ["_law_flow_here", "_law_size"] [] := FunD.bindsN F__law_draw fun _ _ _ _ _ _ us hl => match us, hl with | [_, _], _ => rfl
  have b__law_low : Binds K fd__law_low ["_law_top", "_law_bottom"] [] := FunD.bindsN F__law_low fun _ _ _ _ _ _ us hl => match us, hl with | [_, _], _ => rfl
  have b__law_great : Binds K fd__law_great ["_law_flow_here"] [] := FunD.bindsN F__law_great fun _ _ _ _ _ _ us hl => match us, hl with | [_], _ => rfl
  have b__law_any_part : Binds K fd__law_any_part ["_law_flow_here"] [] := FunD.bindsN F__law_any_part fun _ _ _ _ _ _ us hl => match us, hl with | [_], _ => rfl
  have b__law_strange : Binds K fd__law_strange ["_law_k"] [] := FunD.bindsN F__law_strange fun _ _ _ _ _ _ us hl => match us, hl with | [_], _ => rfl
  have b__law_is_part : Binds K fd__law_is_part ["_law_found"] [] := FunD.bindsN F__law_is_part fun _ _ _ _ _ _ us hl => match us, hl with | [_], _ => rfl
  have b__law_same : Binds K fd__law_same ["_law_found", "_law_due"] [] := FunD.bindsN F__law_same fun _ _ _ _ _ _ us hl => match us, hl with | [_, _], _ => rfl
  have b_is_whole : Binds K fd_is_whole ["thing"] [] := FunD.bindsN F_is_whole fun _ _ _ _ _ _ us hl => match us, hl with | [_], _ => rfl
  have b_common : Binds K fd_common ["one", "other"] [] := FunD.bindsN F_common fun _ _ _ _ _ _ us hl => match us, hl with | [_, _], _ => rfl
  have b_is_part : Binds K fd_is_part ["thing"] [] := FunD.bindsN F_is_part fun _ _ _ _ _ _ us hl => match us, hl with | [_], _ => rfl
  have b := FunD.bindsA (ps := ["_law_script"]) F_law fun _ _ _ _ _ _ us hl => match us, hl with | [_], _ => rfl
  refine ⟨fd_law, fun s v => b s [v] rfl, fun base _ _ => ?_⟩
  have c__law_flow : Cal P w K mg base 1 "_law_flow" m_law_flow := cal_of mm__law_flow F__law_flow b__law_flow (ok__law_flow F__law_flow f_list)
  have c__law_draw : Cal P w K mg base 1 "_law_draw" m_law_draw := cal_of mm__law_draw F__law_draw b__law_draw (ok__law_draw F__law_draw f_abs f_len)
  have c__law_low : Cal P w K mg base 1 "_law_low" m_law_low := cal_of mm__law_low F__law_low b__law_low (ok__law_low F__law_low f_abs)
  have c__law_great : Cal P w K mg base 2 "_law_great" m_law_great := cal_of mm__law_great F__law_great b__law_great (ok__law_great F__law_great c__law_draw)
  have c__law_any_part : Cal P w K mg base 3 "_law_any_part" m_law_any_part := cal_of mm__law_any_part F__law_any_part b__law_any_part (ok__law_any_part F__law_any_part c__law_draw c__law_low c__law_great)
  have c__law_strange : Cal P w K mg base 1 "_law_strange" m_law_strange := cal_of mm__law_strange F__law_strange b__law_strange (ok__law_strange F__law_strange )
  have c__law_is_part : Cal P w K mg base 2 "_law_is_part" m_law_is_part := cal_of mm__law_is_part F__law_is_part b__law_is_part (ok__law_is_part F__law_is_part c__law_low f_bool f_int f_isinstance f_len f_tuple)
  have c__law_same : Cal P w K mg base 9 "_law_same" (m_law_same 8) := cal_of mm__law_same F__law_same b__law_same (ok__law_same F__law_same mm__law_same b__law_same f_bool f_int f_isinstance f_len f_list f_range f_str f_tuple 8)
  have c_is_whole : Cal P w K mg base 1 "is_whole" m_is_whole := cal_of mm_is_whole F_is_whole b_is_whole (ok_is_whole F_is_whole f_bool f_int f_isinstance)
  have c_common : Cal P w K mg base 1 "common" m_common := cal_of mm_common F_common b_common (ok_common F_common f_abs)
  have c_is_part : Cal P w K mg base 2 "is_part" m_is_part := cal_of mm_is_part F_is_part b_is_part (ok_is_part F_is_part c_is_whole c_common f_isinstance f_len f_tuple)
  exact ok_cx0 (ok_law F_law c__law_flow c__law_any_part c__law_great c__law_strange c__law_draw c__law_is_part c__law_same c_is_part f_isinstance f_len f_tuple)
end Glue
open PySem PySem.W PySem.Calls PyProof.Rows
theorem PySem.Challenge.cw_lagwedge_k02_parts_known_holds : PySem.Challenge.rw_lagwedge_k02_parts_known.Holds := by
  w_on; o_law
  refine HandSHeadRun.head_any (r := OpenLaw.row PySem.Challenge.rw_lagwedge_k02_parts_known) (q := view (OpenLaw.row PySem.Challenge.rw_lagwedge_k02_parts_known).prog [13]) (H := Glue.hk) (ob := Glue.ob) (M := 6000) (loose := Glue.loose) (d := HandSHeadRun.topDef (OpenLaw.row PySem.Challenge.rw_lagwedge_k02_parts_known).prog 13) (kwd := []) Glue.ob_eq
    (by kernel_rfl) (fun s => by kernel_rfl) Glue.run (by kernel_rfl) (by kernel_rfl) (by kernel_rfl) (by rfl) (by first | assumption | decide +kernel) (by decide +kernel) ⟨rfl, rfl, rfl, rfl, rfl, by decide +kernel⟩ ?hw ?hc
  case hw => w_witness2
  case hc =>
    refine L2.walk_ofE (l := PySem.Challenge.rw_lagwedge_k02_parts_known) (n := 63) (k := 10) (x := "_law_script") (CX := L2.CX0) rfl (by decide) (by kernel_rfl) ⟨rfl, by decide, by decide⟩ ?F (fun _ _ _ _ z => z)
    intro w mg fa h Y G hmg0
    obtain ⟨K, KX, c⟩ := Y
    have hmg : mg ("law" : PySem.Str) = some (.ref fa) := by
      have e : (HandSHeadRun.topDef (OpenLaw.row PySem.Challenge.rw_lagwedge_k02_parts_known).prog 13).name = ("law" : PySem.Str) := by kernel_rfl
      rw [← e]
      exact hmg0
    obtain ⟨fd, hb, hF⟩ := Glue.facts (P := (PySem.Challenge.rw_lagwedge_k02_parts_known).prog) (w := w) KX G hmg c
    exact ⟨K, fd, fun vs H Q _ => L3.spF K mg L3.m_law vs H Q fun _ _ _ => False, KX, hb, fun H a ns hl hO hS => L3.entry hO hS (L3.law_true ns hl), hF⟩

