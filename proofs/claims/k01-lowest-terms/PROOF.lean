import PyProof.Rows.All
import HandS.ForMost
import HandS.ForExc
import HandS.Wide
import HandS.IsInst
import HandS.Flow
import HandS.Deep
import HandS.Comp
import HandS.CallSlots
import HandS.Iter
import HandS.Rev
import HandS.Conv
import HandS.Style
import HandS.ExcInit
import HandS.ExcField
import HandS.ExcIs
import KE.KExcInit
import PyProof.ExcBaseAll.LookupError
import PyProof.ExcBaseAll.IndexError
import PyProof.ExcBaseAll.RuntimeError
import PyProof.ExcBaseAll.ZeroDivisionError
import HandS.Defaults
import KE.KTryMore
import HandS.More
import HandS.Words
import HandS.WordsExc
import HandS.Head0
import HandS.Head1
import HandS.Head2
import HandS.HeadEnd
import HandS.HeadHook1
import HandS.HeadHook2
import PySem.Challenge.RW_lagwedge_k01_lowest_terms
set_option Elab.async false
set_option linter.all false
set_option autoImplicit false
namespace L3
open PySem L2
/-- the own classes: name, fields in the order in which they are first set, classes above -/
def clsTab : List (String × List String × List String) := [
  ("Ahead", ["word", "at", "year"], ["Ahead", "LagError", "ValueError", "Exception", "BaseException", "object"]),
  ("BadDeed", ["word"], ["BadDeed", "LagError", "ValueError", "Exception", "BaseException", "object"]),
  ("BadPage", ["word", "row"], ["BadPage", "LagError", "ValueError", "Exception", "BaseException", "object"]),
  ("BadPart", ["word"], ["BadPart", "LagError", "ValueError", "Exception", "BaseException", "object"]),
  ("BadPlan", ["word"], ["BadPlan", "LagError", "ValueError", "Exception", "BaseException", "object"]),
  ("BadSizes", ["word", "row"], ["BadSizes", "LagError", "ValueError", "Exception", "BaseException", "object"]),
  ("BadWedge", ["word", "row"], ["BadWedge", "LagError", "ValueError", "Exception", "BaseException", "object"]),
  ("Book", ["first", "depth", "log", "again", "stand"], ["Book", "object"]),
  ("Damage", ["number", "branch", "year", "is_open", "into"], ["Damage", "object"]),
  ("Desk", ["held_book"], ["Desk", "object"]),
  ("Few", ["word", "count", "least"], ["Few", "LagError", "ValueError", "Exception", "BaseException", "object"]),
  ("Full", ["word", "most"], ["Full", "LagError", "ValueError", "Exception", "BaseException", "object"]),
  ("Gone", ["word", "number"], ["Gone", "LagError", "ValueError", "Exception", "BaseException", "object"]),
  ("Keeper", ["chain", "grid", "held", "moves", "anew"], ["Keeper", "object"]),
  ("LagError", ["word"], ["LagError", "ValueError", "Exception", "BaseException", "object"]),
  ("Ledger", ["book", "branch", "measure", "closings"], ["Ledger", "object"]),
  ("NoCell", ["word", "year", "lag"], ["NoCell", "KeyError", "LookupError", "Exception", "BaseException", "object"]),
  ("NoDamage", ["word", "number"], ["NoDamage", "KeyError", "LookupError", "Exception", "BaseException", "object"]),
  ("NoFactor", ["word", "step", "below", "above"], ["NoFactor", "LagError", "ValueError", "Exception", "BaseException", "object"]),
  ("NoKind", ["word", "kind"], ["NoKind", "LookupError", "Exception", "BaseException", "object"]),
  ("NoMethod", ["word"], ["NoMethod", "LagError", "ValueError", "Exception", "BaseException", "object"]),
  ("NoMiss", ["word", "year", "lag"], ["NoMiss", "LagError", "ValueError", "Exception", "BaseException", "object"]),
  ("NoRate", ["word"], ["NoRate", "LagError", "ValueError", "Exception", "BaseException", "object"]),
  ("NoRow", ["word", "row"], ["NoRow", "IndexError", "LookupError", "Exception", "BaseException", "object"]),
  ("NoShare", ["word"], ["NoShare", "ZeroDivisionError", "ArithmeticError", "Exception", "BaseException", "object"]),
  ("NoSplit", ["word", "step"], ["NoSplit", "LagError", "ValueError", "Exception", "BaseException", "object"]),
  ("NoStep", ["word", "step"], ["NoStep", "IndexError", "LookupError", "Exception", "BaseException", "object"]),
  ("NotShut", ["word", "number"], ["NotShut", "LagError", "ValueError", "Exception", "BaseException", "object"]),
  ("NothingBack", ["word"], ["NothingBack", "RuntimeError", "Exception", "BaseException", "object"]),
  ("Plan", ["last", "free", "without", "chosen", "past"], ["Plan", "object"]),
  ("Shut", ["word", "number"], ["Shut", "LagError", "ValueError", "Exception", "BaseException", "object"]),
  ("Stand", ["folk", "struck", "entries"], ["Stand", "object"]),
  ("Twice", ["word", "row"], ["Twice", "LagError", "ValueError", "Exception", "BaseException", "object"]),
  ("Unlike", ["word"], ["Unlike", "LagError", "ValueError", "Exception", "BaseException", "object"]),
  ("Wedge", ["first", "depth", "look", "lines"], ["Wedge", "object"])]
def clsN (c : Nat) : Str := match clsTab[c]? with | some p => Str.ofString p.1 | none => ""
def fldN (c : Nat) : List Str := match clsTab[c]? with | some p => p.2.1.map Str.ofString | none => []
def mroN (c : Nat) : List String := match clsTab[c]? with | some p => p.2.2 | none => []
/-- class c is a kind of the named one -/
def subN (c : Nat) (x : String) : Bool := (mroN c).contains x
def tabOk : Bool := clsTab.all fun p => decide (p.2.1.map Str.ofString).Nodup && decide ((p.2.1.map Str.ofString).length < 900)
theorem tab_ok : tabOk = true := by decide +kernel
theorem fld_ok (c : Nat) : (fldN c).Nodup ∧ (fldN c).length < 900 := by
  unfold fldN
  cases e : clsTab[c]? with
  | none => exact ⟨List.nodup_nil, by decide⟩
  | some p =>
    have h := tab_ok
    unfold tabOk at h
    rw [List.all_eq_true] at h
    have := h p (List.mem_of_getElem? e)
    simpa using this
end L3

set_option maxRecDepth 100000
namespace L3
open PySem L2

/-- a value: tuples by value; lists, dicts and instances by a number; the script as a list by value that is only read -/
inductive D where
  | non | bl (b : Bool) | int (i : Int) | str (x : Str) | tup (xs : List D) | rol (xs : List D) | ref (n : Nat)
  | xcp (a dd : Addr) (c : Nat) (ds : List D)

/-- an object -/
inductive O where
  | lst (xs : List D)
  | ins (c : Nat) (ds : List D)
  | dK (kvs : List (Key × D))

abbrev Hh := List O

/-- what never changes -/
def Fixed : HO → Prop
  | .tup _ => True
  | .frz _ _ => True
  | .xd _ => True
  | .own _ => True
  | _ => False

def Keep (H H' : Hp) : Prop := ∀ a o, H a = some o → Fixed o → H' a = some o
theorem Keep.refl (H : Hp) : Keep H H := fun _ _ h _ => h
theorem Keep.trans {H H1 H2 : Hp} (a : Keep H H1) (b : Keep H1 H2) : Keep H H2 := fun c o h f => b c o (a c o h f) f
theorem Keep.new {H : Hp} {p : Addr} {o : HO} (h : H p = none) : Keep H (upd H p o) := fun a u e _ => by
  rw [upd_ne (ne_of_none e h)]; exact e
theorem Keep.write {H : Hp} {p : Addr} {o u : HO} (h : H p = some u) (hu : ¬ Fixed u) : Keep H (upd H p o) := fun a v e f => by
  by_cases c : a = p
  · subst c; rw [h] at e; cases e; exact absurd f hu
  · rw [upd_ne c]; exact e

/-- a list that is only read -/
def SqF (K : PySem.W.Frag) (H : Hp) (a : Addr) (xs : List V) : Prop :=
  (∃ o, H a = some (.frz o (.lst xs))) ∨
    ∃ (o : Obj) (its : Array Value) (n : Nat), K.lookup a = some o ∧ o.cls = .type "list" ∧ o.dict = none ∧ o.data = .seq its n ∧ its.size ≤ sizeLine ∧ Vals xs its.toList
theorem SqF.sq {K : PySem.W.Frag} {H : Hp} {a : Addr} {xs : List V} (h : SqF K H a xs) : SqL K H a xs := by
  rcases h with h | h
  · exact .inl (.inr h)
  · exact .inr h
theorem SqF.keep {K : PySem.W.Frag} {H H' : Hp} {a : Addr} {xs : List V} (h : SqF K H a xs) (k : Keep H H') : SqF K H' a xs := by
  rcases h with ⟨o, h⟩ | h
  · exact .inl ⟨o, k _ _ h trivial⟩
  · exact .inr h
theorem SqT_keep {K : PySem.W.Frag} {H H' : Hp} {a : Addr} {xs : List V} (h : SqT K H a xs) (k : Keep H H') : SqT K H' a xs := by
  rcases h with (h | ⟨o, h⟩) | h
  · exact .inl (.inl (k _ _ h trivial))
  · exact .inl (.inr ⟨o, k _ _ h trivial⟩)
  · exact .inr h

mutual
inductive RD (K : PySem.W.Frag) (ρ : List Addr) (H : Hp) : D → V → Prop where
  | non : RD K ρ H .non .non
  | bl (b : Bool) : RD K ρ H (.bl b) (.bl b)
  | int (i : Int) : RD K ρ H (.int i) (.int i)
  | str (x : Str) : RD K ρ H (.str x) (.str x)
  | tup {ds : List D} {vs : List V} {a : Addr} (h : SqT K H a vs) (r : RDs K ρ H ds vs) : RD K ρ H (.tup ds) (.ref a)
  | rol {ds : List D} {vs : List V} {a : Addr} (h : SqF K H a vs) (r : RDs K ρ H ds vs) : RD K ρ H (.rol ds) (.ref a)
  | ref {n : Nat} {a : Addr} (h : ρ[n]? = some a) : RD K ρ H (.ref n) (.ref a)
  | xcp {a dd : Addr} {c : Nat} {ds : List D} {vfs : List (Str × V)} (h : H dd = some (.xd vfs)) (r : RXs K ρ H (fldN c) ds vfs) : RD K ρ H (.xcp a dd c ds) (.ref a)
/-- the fields of an exception that is held -/
inductive RXs (K : PySem.W.Frag) (ρ : List Addr) (H : Hp) : List Str → List D → List (Str × V) → Prop where
  | nil {fl : List Str} {vfs : List (Str × V)} : RXs K ρ H fl [] vfs
  | cons {f : Str} {fl : List Str} {d : D} {v : V} {ds : List D} {vfs : List (Str × V)} (e : vfs.lookup f = some v) (h : RD K ρ H d v) (r : RXs K ρ H fl ds vfs) : RXs K ρ H (f :: fl) (d :: ds) vfs
inductive RDs (K : PySem.W.Frag) (ρ : List Addr) (H : Hp) : List D → List V → Prop where
  | nil : RDs K ρ H [] []
  | cons {d : D} {v : V} {ds : List D} {vs : List V} (h : RD K ρ H d v) (r : RDs K ρ H ds vs) : RDs K ρ H (d :: ds) (v :: vs)
end

/-- the objects' addresses grow, what is fixed stays -/
structure Step (ρ : List Addr) (H : Hp) (ρ' : List Addr) (H' : Hp) : Prop where
  pre : ρ <+: ρ'
  keep : Keep H H'
theorem Step.refl (ρ : List Addr) (H : Hp) : Step ρ H ρ H := ⟨List.prefix_refl _, Keep.refl _⟩
theorem Step.trans {ρ ρ1 ρ2 : List Addr} {H H1 H2 : Hp} (a : Step ρ H ρ1 H1) (b : Step ρ1 H1 ρ2 H2) : Step ρ H ρ2 H2 := ⟨a.pre.trans b.pre, a.keep.trans b.keep⟩
theorem pre_get {ρ ρ' : List Addr} (p : ρ <+: ρ') {n : Nat} {a : Addr} (h : ρ[n]? = some a) : ρ'[n]? = some a := by
  obtain ⟨t, rfl⟩ := p
  rw [List.getElem?_append_left (List.getElem?_eq_some_iff.mp h).1]
  exact h

section
variable {K : PySem.W.Frag} {ρ ρ' : List Addr} {H H' : Hp}
mutual
theorem RD.mono {d : D} {v : V} (s : Step ρ H ρ' H') : RD K ρ H d v → RD K ρ' H' d v
  | .non => .non
  | .bl b => .bl b
  | .int i => .int i
  | .str x => .str x
  | .tup h r => .tup (SqT_keep h s.keep) (RDs.mono s r)
  | .rol h r => .rol (h.keep s.keep) (RDs.mono s r)
  | .ref h => .ref (pre_get s.pre h)
  | .xcp h r => .xcp (s.keep _ _ h trivial) (RXs.mono s r)
theorem RXs.mono {fl : List Str} {ds : List D} {vfs : List (Str × V)} (s : Step ρ H ρ' H') : RXs K ρ H fl ds vfs → RXs K ρ' H' fl ds vfs
  | .nil => .nil
  | .cons e h r => .cons e (RD.mono s h) (RXs.mono s r)
theorem RDs.mono {ds : List D} {vs : List V} (s : Step ρ H ρ' H') : RDs K ρ H ds vs → RDs K ρ' H' ds vs
  | .nil => .nil
  | .cons h r => .cons (RD.mono s h) (RDs.mono s r)
end
theorem RDs.length : ∀ {ds : List D} {vs : List V}, RDs K ρ H ds vs → ds.length = vs.length
  | _, _, .nil => rfl
  | _, _, .cons _ r => by simp [RDs.length r]
theorem RXs.get : ∀ {fl : List Str} {ds : List D} {vfs : List (Str × V)} {i : Nat} {f : Str} {d : D}, RXs K ρ H fl ds vfs → fl[i]? = some f → ds[i]? = some d → ∃ v, vfs.lookup f = some v ∧ RD K ρ H d v
  | _, _, _, _, _, _, .nil, _, e => by simp at e
  | _, _, _, 0, _, _, .cons e h _, e1, e2 => by simp at e1 e2; subst e1; subst e2; exact ⟨_, e, h⟩
  | _, _, _, i + 1, _, _, .cons _ _ r, e1, e2 => RXs.get (i := i) r (by simpa using e1) (by simpa using e2)
theorem RDs.get : ∀ {ds : List D} {vs : List V} {i : Nat} {d : D}, RDs K ρ H ds vs → ds[i]? = some d → ∃ v, vs[i]? = some v ∧ RD K ρ H d v
  | _, _, _, _, .nil, e => by simp at e
  | _, _, 0, _, .cons h _, e => by simp at e; subst e; exact ⟨_, rfl, h⟩
  | _, _, i + 1, d, .cons _ r, e => by
    obtain ⟨v, h1, h2⟩ := RDs.get (i := i) (d := d) r (by simpa using e)
    exact ⟨v, by simpa using h1, h2⟩
theorem RDs.append : ∀ {ds es : List D} {vs ws : List V}, RDs K ρ H ds vs → RDs K ρ H es ws → RDs K ρ H (ds ++ es) (vs ++ ws)
  | _, _, _, _, .nil, s => s
  | _, _, _, _, .cons h r, s => .cons h (RDs.append r s)
theorem RDs.set {d : D} {v : V} (h : RD K ρ H d v) : ∀ {ds : List D} {vs : List V} (i : Nat), RDs K ρ H ds vs → RDs K ρ H (ds.set i d) (vs.set i v)
  | _, _, _, .nil => .nil
  | _, _, 0, .cons _ r => .cons h r
  | _, _, i + 1, .cons q r => .cons q (RDs.set h i r)
theorem RDs.take : ∀ {ds : List D} {vs : List V} (n : Nat), RDs K ρ H ds vs → RDs K ρ H (ds.take n) (vs.take n)
  | _, _, 0, _ => .nil
  | _, _, _ + 1, .nil => .nil
  | _, _, n + 1, .cons h r => .cons h (RDs.take n r)
theorem RDs.drop : ∀ {ds : List D} {vs : List V} (n : Nat), RDs K ρ H ds vs → RDs K ρ H (ds.drop n) (vs.drop n)
  | _, _, 0, r => r
  | _, _, _ + 1, .nil => .nil
  | _, _, n + 1, .cons _ r => RDs.drop n r
theorem RDs.reverse : ∀ {ds : List D} {vs : List V}, RDs K ρ H ds vs → RDs K ρ H ds.reverse vs.reverse
  | _, _, .nil => .nil
  | _, _, .cons h r => by
    rw [List.reverse_cons, List.reverse_cons]
    exact (RDs.reverse r).append (.cons h .nil)
theorem RDs.ints : ∀ {ns : List Int}, RDs K ρ H (ns.map D.int) (ns.map V.int)
  | [] => .nil
  | _ :: _ => .cons (.int _) RDs.ints
end

/-- a dict's entries -/
inductive RKs (K : PySem.W.Frag) (ρ : List Addr) (H : Hp) : List (Key × D) → List (Key × V) → Prop where
  | nil : RKs K ρ H [] []
  | cons {k : Key} {d : D} {v : V} {fs : List (Key × D)} {vs : List (Key × V)} (h : RD K ρ H d v) (r : RKs K ρ H fs vs) : RKs K ρ H ((k, d) :: fs) ((k, v) :: vs)

section
variable {K : PySem.W.Frag} {ρ ρ' : List Addr} {H H' : Hp}
theorem RKs.mono (s : Step ρ H ρ' H') : ∀ {fs : List (Key × D)} {vs : List (Key × V)}, RKs K ρ H fs vs → RKs K ρ' H' fs vs
  | _, _, .nil => .nil
  | _, _, .cons h r => .cons (h.mono s) (RKs.mono s r)
end
theorem zip_look {f : Str} {v : V} : ∀ {ns : List Str} {vs : List V} {i : Nat}, ns.Nodup → ns[i]? = some f → vs[i]? = some v → (ns.zip vs).lookup f = some v
  | [], _, _, _, h, _ => by simp at h
  | _ :: _, [], _, _, _, h => by simp at h
  | n :: ns, w :: vs, 0, _, h1, h2 => by
    simp at h1 h2
    subst h1; subst h2
    simp [List.zip_cons_cons, List.lookup_cons]
  | n :: ns, w :: vs, i + 1, nd, h1, h2 => by
    rw [List.zip_cons_cons, List.lookup_cons]
    have h1' : ns[i]? = some f := by simpa using h1
    have ne : (f == n) = false := by
      apply beq_eq_false_iff_ne.mpr
      intro e
      subst e
      exact (List.nodup_cons.mp nd).1 (List.mem_of_getElem? h1')
    rw [ne]
    exact zip_look (List.nodup_cons.mp nd).2 h1' (by simpa using h2)
theorem zip_none {f : Str} : ∀ {ns : List Str} {vs : List V}, f ∉ ns → (ns.zip vs).lookup f = none
  | [], _, _ => rfl
  | _ :: _, [], _ => rfl
  | n :: ns, w :: vs, h => by
    rw [List.zip_cons_cons, List.lookup_cons]
    have ne : (f == n) = false := beq_eq_false_iff_ne.mpr fun e => h (by simp [e])
    rw [ne]
    exact zip_none fun z => h (List.mem_cons_of_mem _ z)
theorem zip_put {f : Str} {v : V} : ∀ {ns : List Str} {vs : List V} {i : Nat}, ns.Nodup → ns[i]? = some f → i < vs.length → putF f v (ns.zip vs) = ns.zip (vs.set i v)
  | [], _, _, _, h, _ => by simp at h
  | _ :: _, [], _, _, _, h => by simp at h
  | n :: ns, w :: vs, 0, _, h1, _ => by
    simp at h1
    subst h1
    simp [putF]
  | n :: ns, w :: vs, i + 1, nd, h1, h2 => by
    have h1' : ns[i]? = some f := by simpa using h1
    have ne : n ≠ f := fun e => (List.nodup_cons.mp nd).1 (e ▸ List.mem_of_getElem? h1')
    rw [List.zip_cons_cons, putF, if_neg ne, zip_put (List.nodup_cons.mp nd).2 h1' (by simpa using h2)]
    rfl
theorem zip_more {f : Str} {v : V} : ∀ {ns : List Str} {vs : List V}, ns.Nodup → ns[vs.length]? = some f → putF f v (ns.zip vs) = ns.zip (vs ++ [v])
  | [], _, _, h => by simp at h
  | n :: ns, [], _, h => by
    simp at h
    subst h
    simp [putF]
  | n :: ns, w :: vs, nd, h1 => by
    have h1' : ns[vs.length]? = some f := by simpa using h1
    have ne : n ≠ f := fun e => (List.nodup_cons.mp nd).1 (e ▸ List.mem_of_getElem? h1')
    rw [List.zip_cons_cons, putF, if_neg ne, zip_more (List.nodup_cons.mp nd).2 h1']
    rfl

/-- the object at an address -/
def RO (K : PySem.W.Frag) (mg : Str → Option Value) (ρ : List Addr) (H : Hp) (a : Addr) : O → Prop
  | .lst ds => ∃ vs, H a = some (.lst vs) ∧ RDs K ρ H ds vs
  | .ins c ds => ∃ C dx vs, H a = some (.ins C dx ((fldN c).zip vs)) ∧ mg (clsN c) = some (.ref C) ∧ RDs K ρ H ds vs ∧ ds.length ≤ (fldN c).length
  | .dK kvs => ∃ vks, H a = some (.dK vks) ∧ RKs K ρ H kvs vks
/-- the heap of numbers is borne -/
structure Rep (K : PySem.W.Frag) (mg : Str → Option Value) (ρ : List Addr) (h : Hh) (H : Hp) : Prop where
  len : ρ.length = h.length
  nd : ρ.Nodup
  obj : ∀ (n : Nat) (a : Addr) (o : O), ρ[n]? = some a → h[n]? = some o → RO K mg ρ H a o

theorem nodup_ix' {N : List Addr} (hN : N.Nodup) {i j : Nat} {x : Addr} (a : N[i]? = some x) (b : N[j]? = some x) : i = j := by
  obtain ⟨h1, e1⟩ := List.getElem?_eq_some_iff.mp a
  obtain ⟨h2, e2⟩ := List.getElem?_eq_some_iff.mp b
  exact (List.getElem_inj hN).mp (e1.trans e2.symm)
section
variable {K : PySem.W.Frag} {mg : Str → Option Value} {ρ ρ' : List Addr} {H H' : Hp} {h : Hh} {a p : Addr} {n : Nat} {o : O}
theorem RO.mono (r : RO K mg ρ H a o) (s : Step ρ H ρ' H') (e : H' a = H a) : RO K mg ρ' H' a o := by
  cases o with
  | lst ds => obtain ⟨vs, e1, q⟩ := r; exact ⟨vs, e.trans e1, q.mono s⟩
  | ins c ds => obtain ⟨C, dx, vs, e1, m, q, l⟩ := r; exact ⟨C, dx, vs, e.trans e1, m, q.mono s, l⟩
  | dK kvs => obtain ⟨vks, e1, q⟩ := r; exact ⟨vks, e.trans e1, q.mono s⟩
theorem RO.there (r : RO K mg ρ H a o) : ∃ u, H a = some u ∧ ¬ Fixed u := by
  cases o with
  | lst ds => obtain ⟨vs, e1, _⟩ := r; exact ⟨_, e1, fun z => z⟩
  | ins c ds => obtain ⟨C, dx, vs, e1, _⟩ := r; exact ⟨_, e1, fun z => z⟩
  | dK kvs => obtain ⟨vks, e1, _⟩ := r; exact ⟨_, e1, fun z => z⟩
theorem Rep.at (R : Rep K mg ρ h H) (hn : ρ[n]? = some a) : ∃ o, h[n]? = some o ∧ RO K mg ρ H a o := by
  have hl : n < h.length := by rw [← R.len]; exact (List.getElem?_eq_some_iff.mp hn).1
  exact ⟨h[n], List.getElem?_eq_getElem hl, R.obj n a _ hn (List.getElem?_eq_getElem hl)⟩
theorem Rep.fresh (R : Rep K mg ρ h H) (hp : H p = none) : p ∉ ρ := fun hm => by
  obtain ⟨n, e⟩ := List.getElem?_of_mem hm
  obtain ⟨o, _, r⟩ := R.at e
  obtain ⟨u, e1, _⟩ := r.there
  rw [hp] at e1; cases e1
theorem Rep.ne (R : Rep K mg ρ h H) (hp : H p = none) (hn : ρ[n]? = some a) : a ≠ p := fun e => R.fresh hp (e ▸ List.mem_of_getElem? hn)
/-- the heap of addresses grows beside -/
theorem Rep.grow (R : Rep K mg ρ h H) (k : Keep H H') (e : ∀ b ∈ ρ, H' b = H b) : Rep K mg ρ h H' :=
  ⟨R.len, R.nd, fun n a o hn ho => (R.obj n a o hn ho).mono ⟨List.prefix_refl _, k⟩ (e a (List.mem_of_getElem? hn))⟩
/-- a new fixed thing -/
theorem Rep.beside {u : HO} (R : Rep K mg ρ h H) (hp : H p = none) : Rep K mg ρ h (upd H p u) :=
  R.grow (Keep.new hp) fun b hb => upd_ne fun e => R.fresh hp (e ▸ hb)
theorem Step.beside {u : HO} (hp : H p = none) : Step ρ H ρ (upd H p u) := ⟨List.prefix_refl _, Keep.new hp⟩
/-- a new object -/
theorem Rep.lay {u : HO} (R : Rep K mg ρ h H) (hp : H p = none) (hk : Keep H H') (hq : H' p = some u) (he : ∀ b ∈ ρ, H' b = H b) (r : RO K mg (ρ ++ [p]) H' p o) : Rep K mg (ρ ++ [p]) (h ++ [o]) H' where
  len := by simp [R.len]
  nd := by
    rw [List.nodup_append]
    refine ⟨R.nd, by simp, fun x hx y hy => ?_⟩
    rw [List.mem_singleton] at hy
    subst hy
    exact fun e => R.fresh hp (e ▸ hx)
  obj := fun n a o' hn ho => by
    by_cases c : n < ρ.length
    · rw [List.getElem?_append_left c] at hn
      rw [List.getElem?_append_left (by rw [← R.len]; exact c)] at ho
      exact (R.obj n a o' hn ho).mono ⟨List.prefix_append _ _, hk⟩ (he a (List.mem_of_getElem? hn))
    · have hl : n < (ρ ++ [p]).length := (List.getElem?_eq_some_iff.mp hn).1
      have e : n = ρ.length := by simp at hl; omega
      subst e
      rw [List.getElem?_append_right (Nat.le_refl _), Nat.sub_self] at hn
      rw [R.len, List.getElem?_append_right (Nat.le_refl _), Nat.sub_self] at ho
      have e1 : p = a := by simpa using hn
      have e2 : o = o' := by simpa using ho
      subst e1; subst e2
      exact r
theorem lay_step {u : HO} (hp : H p = none) : Step ρ H (ρ ++ [p]) (upd H p u) := ⟨List.prefix_append _ _, Keep.new hp⟩
theorem lay_at (R : Rep K mg ρ h H) : (ρ ++ [p])[h.length]? = some p := by
  rw [← R.len, List.getElem?_append_right (Nat.le_refl _), Nat.sub_self]; rfl
/-- a new list -/
theorem Rep.layL {ds : List D} {vs : List V} (R : Rep K mg ρ h H) (hp : H p = none) (r : RDs K ρ H ds vs) : Rep K mg (ρ ++ [p]) (h ++ [.lst ds]) (upd H p (.lst vs)) :=
  R.lay hp (Keep.new hp) upd_same (fun b hb => upd_ne fun e => R.fresh hp (e ▸ hb)) ⟨vs, upd_same, r.mono (lay_step hp)⟩
/-- an object is written -/
theorem Rep.put {u : HO} {o' : O} (R : Rep K mg ρ h H) (hn : ρ[n]? = some a) (r : Step ρ H ρ (upd H a u) → RO K mg ρ (upd H a u) a o') : Rep K mg ρ (h.set n o') (upd H a u) ∧ Step ρ H ρ (upd H a u) := by
  obtain ⟨o, ho, q⟩ := R.at hn
  obtain ⟨v, e1, nf⟩ := q.there
  have s : Step ρ H ρ (upd H a u) := ⟨List.prefix_refl _, Keep.write e1 nf⟩
  refine ⟨⟨by simp [R.len], R.nd, fun m b o2 hm ho2 => ?_⟩, s⟩
  by_cases c : m = n
  · subst c
    have e : b = a := by rw [hn] at hm; exact (Option.some.inj hm).symm
    subst e
    have hl : m < h.length := (List.getElem?_eq_some_iff.mp ho).1
    rw [List.getElem?_set_self hl] at ho2
    cases ho2
    exact r s
  · rw [List.getElem?_set_ne (Ne.symm c)] at ho2
    have hb : b ≠ a := fun e => c (nodup_ix' R.nd hm (e ▸ hn))
    exact (R.obj m b o2 hm ho2).mono s (upd_ne hb)
end
end L3

namespace L3
open PySem L2

inductive Res (α : Type) where
  | ok (a : α) (h : Hh)
  | exc (c : Nat) (ds : List D) (h : Hh)
  | bad
def Res.bind {α β : Type} (r : Res α) (f : α → Hh → Res β) : Res β := match r with
  | .ok a h => f a h
  | .exc c fs h => .exc c fs h
  | .bad => .bad
@[simp] theorem bind_ok {α β : Type} (a : α) (h : Hh) (f : α → Hh → Res β) : (Res.ok a h).bind f = f a h := rfl
@[simp] theorem bind_exc {α β : Type} (c : Nat) (fs : List D) (h : Hh) (f : α → Hh → Res β) : (Res.exc c fs h : Res α).bind f = .exc c fs h := rfl
@[simp] theorem bind_bad {α β : Type} (f : α → Hh → Res β) : (Res.bad : Res α).bind f = .bad := rfl

abbrev Fn := List D → Hh → Res D
abbrev Sl := List (Option D)
abbrev Gd := List (Nat × List D)

mutual
/-- the data that a value is, lists of the heap within -/
def datF : Nat → Hh → D → Option PyData
  | 0, _, _ => none
  | _ + 1, _, .non => some .none
  | _ + 1, _, .bl b => some (.bool b)
  | _ + 1, _, .int i => some (.int i)
  | _ + 1, _, .str x => some (.str x)
  | k + 1, h, .tup xs => (datsF k h xs).map .tuple
  | _ + 1, _, .rol _ => none
  | _ + 1, _, .xcp _ _ _ _ => none
  | k + 1, h, .ref n => match h[n]? with
    | some (.lst xs) => (datsF k h xs).map .list
    | _ => none
def datsF : Nat → Hh → List D → Option (List PyData)
  | _, _, [] => some []
  | 0, _, _ :: _ => none
  | k + 1, h, d :: ds => match datF (k + 1) h d, datsF (k + 1) h ds with
    | some a, some b => some (a :: b)
    | _, _ => none
end
/-- the kind of a value, as isinstance asks it -/
inductive Kd where
  | non | bool | int | str | tuple | list | dict
  deriving DecidableEq
def Kd.name : Kd → String
  | .non => "NoneType" | .bool => "bool" | .int => "int" | .str => "str" | .tuple => "tuple" | .list => "list" | .dict => "dict"
def tyD : D → Hh → Option Kd
  | .non, _ => some .non
  | .bl _, _ => some .bool
  | .int _, _ => some .int
  | .str _, _ => some .str
  | .tup _, _ => some .tuple
  | .rol _, _ => some .list
  | .xcp _ _ _ _, _ => none
  | .ref n, h => match h[n]? with
    | some (.lst _) => some .list
    | some (.dK _) => some .dict
    | _ => none
/-- the built-in classes asked for -/
inductive Ty where
  | int | bool | str | tuple | list | dict
  deriving DecidableEq
def Ty.name : Ty → String
  | .int => "int" | .bool => "bool" | .str => "str" | .tuple => "tuple" | .list => "list" | .dict => "dict"
def isTy : Kd → Ty → Bool
  | .int, .int => true
  | .bool, .int => true
  | .bool, .bool => true
  | .str, .str => true
  | .tuple, .tuple => true
  | .list, .list => true
  | .dict, .dict => true
  | _, _ => false

def truD : D → Hh → Option Bool
  | .non, _ => some false
  | .bl b, _ => some b
  | .int i, _ => some (i != 0)
  | .str y, _ => if y.length ≤ sizeLine then some ((y.length : Int) != 0) else none
  | .tup xs, _ => some (!xs.isEmpty)
  | .rol xs, _ => some (!xs.isEmpty)
  | .xcp _ _ _ _, _ => none
  | .ref n, h => match h[n]? with
    | some (.lst xs) => some (!xs.isEmpty)
    | some (.dK kvs) => some (!kvs.isEmpty)
    | _ => none

def ofO (o : Option D) (h : Hh) : Res D := match o with
  | some d => .ok d h
  | none => .bad
def subD : D → D → Hh → Res D
  | .tup xs, .int i, h => ofO (atI xs i) h
  | .rol xs, .int i, h => ofO (atI xs i) h
  | .ref n, .int i, h => match h[n]? with
    | some (.lst xs) => ofO (atI xs i) h
    | _ => .bad
  | .str z, .int i, h => if z.length ≤ sizeLine then ofO ((atI z.cps.toList i).map fun c => .str ⟨#[c]⟩) h else .bad
  | _, _, _ => .bad
def cutD (xs : List D) (lo hi : Option Int) : List D := (xs.drop (HT.sIx xs.length 0 lo)).take (HT.sIx xs.length xs.length hi - HT.sIx xs.length 0 lo)
def slcD : D → Option Int → Option Int → Hh → Res D
  | .rol xs, lo, hi, h => .ok (.ref h.length) (h ++ [.lst (cutD xs lo hi)])
  | .ref n, lo, hi, h => match h[n]? with
    | some (.lst xs) => .ok (.ref h.length) (h ++ [.lst (cutD xs lo hi)])
    | _ => .bad
  | _, _, _, _ => .bad

def binD : Operator → D → D → Hh → Res D
  | .Add, .int i, .int j, h => .ok (.int (i + j)) h
  | .Add, .str a, .str b, h => if a.length + b.length ≤ sizeLine then .ok (.str (a ++ b)) h else .bad
  | .Add, .ref m, .ref n, h => match h[m]?, h[n]? with
    | some (.lst xs), some (.lst ys) => if xs.length + ys.length ≤ sizeLine then .ok (.ref h.length) (h ++ [.lst (xs ++ ys)]) else .bad
    | _, _ => .bad
  | .Sub, .int i, .int j, h => .ok (.int (i - j)) h
  | .Mult, .int i, .int j, h => if i.natAbs.log2 + j.natAbs.log2 < 1000000 then .ok (.int (i * j)) h else .bad
  | .FloorDiv, .int i, .int j, h => if j ≠ 0 ∧ j.natAbs.log2 < 9000 then .ok (.int (i.fdiv j)) h else .bad
  | .Mod, .int i, .int j, h => if j ≠ 0 then .ok (.int (i.fmod j)) h else .bad
  | .Pow, .int i, .int j, h => if 0 ≤ j ∧ j ≤ 1000000 ∧ i.natAbs < 2 ^ 64 then .ok (.int (i ^ j.toNat)) h else .bad
  | _, _, _, _ => .bad
/-- == -/
def eqData (x y : D) (h : Hh) : Option Bool := match datF 9 h x, datF 9 h y with
  | some a, some b => if SeqAt.shaped a = true ∧ SeqAt.shaped b = true then some (PyData.eqv a b) else none
  | _, _ => none
def eqD : D → D → Hh → Option Bool
  | .int i, .int j, _ => some (decide (i = j))
  | .str i, .str j, _ => some (decide (i = j))
  | .bl i, .bl j, _ => some (decide (i = j))
  | x, y, h => eqData x y h
/-- x in a list -/
def inData (x y : D) (h : Hh) : Option Bool := match datF 9 h x, datF 9 h y with
  | some a, some (.list bs) => if SeqAt.shaped a = true ∧ SeqAt.shaped (.list bs) = true then some (bs.any fun z => PyData.eqv z a) else none
  | _, _ => none
def ofB (o : Option Bool) (h : Hh) : Res D := match o with
  | some b => .ok (.bl b) h
  | none => .bad
def cmpD : CmpOp → D → D → Hh → Res D
  | .Eq, x, y, h => ofB (eqD x y h) h
  | .NotEq, x, y, h => ofB ((eqD x y h).map not) h
  | .Is, .non, .non, h => .ok (.bl true) h
  | .Is, _, .non, h => .ok (.bl false) h
  | .IsNot, .non, .non, h => .ok (.bl false) h
  | .IsNot, _, .non, h => .ok (.bl true) h
  | .In, x, .ref n, h => match h[n]? with
    | some (.lst _) => ofB (inData x (.ref n) h) h
    | _ => .bad
  | .NotIn, x, .ref n, h => match h[n]? with
    | some (.lst _) => ofB ((inData x (.ref n) h).map not) h
    | _ => .bad
  | .Lt, .int i, .int j, h => .ok (.bl (decide (i < j))) h
  | .LtE, .int i, .int j, h => .ok (.bl (decide (i ≤ j))) h
  | .Gt, .int i, .int j, h => .ok (.bl (decide (j < i))) h
  | .GtE, .int i, .int j, h => .ok (.bl (decide (j ≤ i))) h
  | _, _, _, _ => .bad

/-- built-ins called by name -/
inductive Bi where
  | abs | len | list | min | max | all | any | tuple
  deriving DecidableEq
def Bi.name : Bi → Str
  | .abs => "abs" | .len => "len" | .list => "list" | .min => "min" | .max => "max" | .all => "all" | .any => "any" | .tuple => "tuple"
def lenD : D → Hh → Option Nat
  | .tup xs, _ => some xs.length
  | .rol xs, _ => some xs.length
  | .str z, _ => if z.length ≤ sizeLine then some z.length else none
  | .ref n, h => match h[n]? with
    | some (.lst xs) => some xs.length
    | _ => none
  | _, _ => none
def itemsD : D → Hh → Option (List D)
  | .tup xs, _ => some xs
  | .rol xs, _ => some xs
  | .ref n, h => match h[n]? with
    | some (.lst xs) => some xs
    | _ => none
  | _, _ => none
/-- a list of truths -/
def blsD : List D → Option (List Bool)
  | [] => some []
  | .bl b :: r => (blsD r).map (b :: ·)
  | _ :: _ => none
def biD : Bi → List D → Hh → Res D
  | .abs, [.int i], h => .ok (.int (if i < 0 then -i else i)) h
  | .len, [x], h => match lenD x h with
    | some n => .ok (.int n) h
    | none => .bad
  | .list, [x], h => match itemsD x h with
    | some xs => .ok (.ref h.length) (h ++ [.lst xs])
    | none => .bad
  | .min, [.int i, .int j], h => .ok (.int (if j < i then j else i)) h
  | .max, [.int i, .int j], h => .ok (.int (if j > i then j else i)) h
  | .all, [.ref n], h => match h[n]? with
    | some (.lst xs) => match blsD xs with
      | some bs => .ok (.bl (bs.all id)) h
      | none => .bad
    | _ => .bad
  | .any, [.ref n], h => match h[n]? with
    | some (.lst xs) => match blsD xs with
      | some bs => .ok (.bl (bs.any id)) h
      | none => .bad
    | _ => .bad
  | .tuple, [.ref n], h => match h[n]? with
    | some (.lst xs) => .ok (.tup xs) h
    | _ => .bad
  | _, _, _ => .bad
/-- methods of built-in things -/
inductive Bm where
  | append | pop
  deriving DecidableEq
def Bm.name : Bm → Str
  | .append => "append" | .pop => "pop"
def bmD : Bm → D → List D → Hh → Res D
  | .append, .ref n, [y], h => match h[n]? with
    | some (.lst xs) => if xs.length < sizeLine then .ok .non (h.set n (.lst (xs ++ [y]))) else .bad
    | _ => .bad
  | .pop, .ref n, [], h => match h[n]? with
    | some (.lst xs) => match xs[xs.length - 1]? with
      | some y => .ok y (h.set n (.lst xs.dropLast))
      | none => .bad
    | _ => .bad
  | _, _, _, _ => .bad

/-- its receiver is of the right kind -/
def bmOk : Bm → D → Hh → Bool
  | _, .ref n, h => match h[n]? with
    | some (.lst _) => true
    | _ => false
  | _, _, _ => false

inductive Tg where
  | n (i : Nat) | tup (ts : Tg) | nil | cons (a b : Tg)
mutual
def asgT : Tg → D → Sl → Option Sl
  | .n i, d, σ => some (σ.set i (some d))
  | .tup ts, .tup ds, σ => asgTs ts ds σ
  | _, _, _ => none
def asgTs : Tg → List D → Sl → Option Sl
  | .nil, [], σ => some σ
  | .cons a b, d :: ds, σ => (asgT a d σ).bind fun σ' => asgTs b ds σ'
  | _, _, _ => none
end
def wipeD (σ : Sl) : List Nat → Sl
  | [] => σ
  | i :: r => (wipeD σ r).set i none

/-- where a parameter's value comes from: a place, a keyword, a default -/
inductive Ar where
  | p (i : Nat) | k (j : Nat) | d (x : D)
def pickD : List Ar → List D → List D → Option (List D)
  | [], _, _ => some []
  | .p i :: r, ds, zs => match ds[i]? with
    | some x => (pickD r ds zs).map (x :: ·)
    | none => none
  | .k j :: r, ds, zs => match zs[j]? with
    | some x => (pickD r ds zs).map (x :: ·)
    | none => none
  | .d x :: r, ds, zs => (pickD r ds zs).map (x :: ·)
def argsR {α : Type} (b : Option (List Ar)) (ds zs : List D) (f : List D → Hh → Res α) (h : Hh) : Res α := match b with
  | none => f ds h
  | some b => match pickD b ds zs with
    | some xs => f xs h
    | none => .bad
/-- the instance that a value is -/
def insD (x : D) (h : Hh) : Option (Nat × List D) := match x with
  | .ref n => match h[n]? with
    | some (.ins c ds) => some (c, ds)
    | _ => none
  | _ => none
def fldR (tb : List (Nat × Nat)) (x : D) (h : Hh) : Res D := match insD x h with
  | some (c, ds) => match tb.lookup c with
    | some i => ofO ds[i]? h
    | none => .bad
  | none => .bad
def makeR (c : Nat) (f : Fn) (b : Option (List Ar)) (ds zs : List D) (h : Hh) : Res D :=
  (argsR b (.ref h.length :: ds) zs f (h ++ [.ins c []])).bind fun r h1 => match r with
    | .non => .ok (.ref h.length) h1
    | _ => .bad
/-- a field is put -/
def putD (i : Nat) (d : D) (ds : List D) : List D := if i < ds.length then ds.set i d else ds ++ [d]
def stfR (tb : List (Nat × Nat)) (x v : D) (h : Hh) : Res Unit := match x with
  | .ref n => match h[n]? with
    | some (.ins c ds) => match tb.lookup c with
      | some i => if i ≤ ds.length then .ok () (h.set n (.ins c (putD i v ds))) else .bad
      | none => .bad
    | _ => .bad
  | _ => .bad
/-- the items of a list with their numbers -/
def numD (n : Nat) : List D → List D
  | [] => []
  | x :: r => .tup [.int n, x] :: numD (n + 1) r
def zipD : List D → List D → List D
  | x :: xs, y :: ys => .tup [x, y] :: zipD xs ys
  | _, _ => []
/-- a field of a caught exception -/
def xfD (tb : List (Nat × Nat)) (c : Nat) (ds : List D) : Option D := match tb.lookup c with
  | some i => ds[i]?
  | none => none

/-- the fields of the exception that a slot holds -/
def heldD (σ : Sl) (v : Nat) (a dd : Addr) (c : Nat) : Option (List D) := match σ[v]? with
  | some (some (.xcp a' dd' c' ds)) => if a' = a ∧ dd' = dd ∧ c' = c then some ds else none
  | _ => none

inductive E where
  | var (i : Nat) | cst (d : D) | glob (x : Str) (d : D)
  | bin (op : Operator) (a b : E) | neg (a : E) | not (a : E) | and (a b : E) | or (a b : E)
  | cmp (op : CmpOp) (a b : E) | chain (op op' : CmpOp) (a b c : E) | ife (c a b : E)
  | tup (es : E) | lst (es : E) | sub (a i : E) | slc (a lo hi : E)
  | call (f : Fn) (x : Str) (b : Option (List Ar)) (es : E) (ks : List Str) (kes : E)
  | meth (tb : List (Nat × Fn)) (m : Str) (b : Option (List Ar)) (o es : E) (ks : List Str) (kes : E)
  | make (c : Nat) (f : Fn) (b : Option (List Ar)) (es : E) (ks : List Str) (kes : E)
  | fld (tb : List (Nat × Nat)) (f : Str) (a : E)
  | bi (b : Bi) (es : E) | isi (a : E) (t : Ty) | bm (m : Bm) (o es : E)
  | comp (own : List (Str × Nat)) (g : Tg) (it test elt : E)
  | rng (es : E) | enum (a : E) | zip (a b : E) | rev (a : E) | lrng (a b : E) | rsl (a : E) | leno (tb : List (Nat × Fn)) (o : E)
  | xf (v : Nat) (f : Str) (tb : List (Nat × Nat)) (c : Nat) (ds : List D) | xis (v : Nat) (t : String) (b : Bool)
  | xfs (v : Nat) (f : Str) (tb : List (Nat × Nat)) (a dd : Addr) (c : Nat) | xiss (v : Nat) (t : String) (a dd : Addr) (c : Nat)
  | nil | cons (e es : E)

def E.isNil : E → Bool
  | .nil => true
  | _ => false
def gdOk (g : Gd) (h : Hh) : Prop := ∀ p ∈ g, ∃ xs, h[p.1]? = some (.lst xs) ∧ xs = p.2
open Classical in
/-- the turns of a comprehension: the list that is made stands at n -/
noncomputable def turns (f : D → Hh → Res (Option D)) (g : Gd) (n : Nat) : List D → Hh → Res Unit
  | [], h => if gdOk g h then .ok () h else .bad
  | d :: ds, h => if gdOk g h then (f d h).bind fun o h1 => match o with
      | none => turns f g n ds h1
      | some y => match h1[n]? with
        | some (.lst acc) => if acc.length < sizeLine then turns f g n ds (h1.set n (.lst (acc ++ [y]))) else .bad
        | _ => .bad
    else .bad
/-- what is raised within a comprehension isn't served -/
def noexc {α : Type} : Res α → Res α
  | .exc _ _ _ => .bad
  | r => r
def rngD : List D → Option (List D)
  | [.int j] => if -(2 ^ 62) ≤ j ∧ j < 2 ^ 62 then some ((List.range j.toNat).map fun (i : Nat) => .int i) else none
  | [.int i, .int j] => if -(2 ^ 62) ≤ i ∧ i < 2 ^ 62 ∧ -(2 ^ 62) ≤ j ∧ j < 2 ^ 62 then some ((List.range (j - i).toNat).map fun (k : Nat) => .int (i + k)) else none
  | _ => none
/-- what is walked: its items, and the lists that must stay -/
def seqD : D → Hh → Res (List D × Gd)
  | .tup xs, h => .ok (xs, []) h
  | .rol xs, h => .ok (xs, []) h
  | .ref n, h => match h[n]? with
    | some (.lst xs) => .ok (xs, [(n, xs)]) h
    | _ => .bad
  | _, _ => .bad
def oInt : D → Option (Option Int)
  | .int i => some (some i)
  | _ => none
/-- what an expression is worth: as a value, a test, arguments, a part of a slice, a thing walked -/
structure Den where
  v : Sl → Hh → Res D
  t : Sl → Hh → Res Bool
  a : Sl → Hh → Res (List D)
  o : Sl → Hh → Res (Option Int)
  i : Sl → Hh → Res (List D × Gd)
def truR (x : D) (h : Hh) : Res Bool := match truD x h with
  | some k => .ok k h
  | none => .bad
def intR (x : D) (h : Hh) : Res (Option Int) := match x with
  | .int i => .ok (some i) h
  | _ => .bad
def Den.of (v : Sl → Hh → Res D) : Den :=
  ⟨v, fun σ h => (v σ h).bind truR, fun _ _ => .bad, fun σ h => (v σ h).bind intR, fun σ h => (v σ h).bind seqD⟩
def negR (x : D) (h : Hh) : Res D := match x with
  | .int i => .ok (.int (-i)) h
  | _ => .bad
def boolR {α : Type} (x : D) (f g : Res α) : Res α := match x with
  | .bl true => f
  | .bl false => g
  | _ => .bad
def isiR (t : Ty) (x : D) (h : Hh) : Res D := match tyD x h with
  | some s => .ok (.bl (isTy s t)) h
  | none => .bad
/-- one turn of a comprehension -/
def turnC (g : Tg) (test : Sl → Hh → Res Bool) (elt : Sl → Hh → Res D) (σ : Sl) (d : D) (h : Hh) : Res (Option D) := match asgT g d σ with
  | none => .bad
  | some σ2 => (test σ2 h).bind fun k h3 => if k = true then (elt σ2 h3).bind fun y h4 => .ok (some y) h4 else .ok none h3
noncomputable def compR (f : D → Hh → Res (Option D)) (s : List D × Gd) (h : Hh) : Res D :=
  (noexc (turns f s.2 h.length s.1 (h ++ [.lst []]))).bind fun _ h2 => .ok (.ref h.length) h2
def rngR (ds : List D) (h : Hh) : Res (List D × Gd) := match rngD ds with
  | some xs => .ok (xs, []) h
  | none => .bad
def tupR (ds : List D) (h : Hh) : Res D := if ds.length ≤ 1000 then .ok (.tup ds) h else .bad
def lstR (ds : List D) (h : Hh) : Res D := if ds.length ≤ 1000 then .ok (.ref h.length) (h ++ [.lst ds]) else .bad
def varR (σ : Sl) (i : Nat) (h : Hh) : Res D := match σ[i]? with
  | some (some d) => .ok d h
  | _ => .bad
def methR {α : Type} (tb : List (Nat × Fn)) (x : D) (h : Hh) (g : Fn → Res α) : Res α := match insD x h with
  | some (c, _) => match tb.lookup c with
    | some f => g f
    | none => .bad
  | none => .bad
def lenR (x : D) (h : Hh) : Res D := match x with
  | .int i => if 0 ≤ i ∧ i < 2 ^ 62 then .ok (.int i) h else .bad
  | _ => .bad
def lrngR (x y : D) (h : Hh) : Res D := match x, y with
  | .int i, .int j => if -(2 ^ 62) ≤ i ∧ i < 2 ^ 62 ∧ -(2 ^ 62) ≤ j ∧ j < 2 ^ 62 ∧ (j - i).toNat ≤ 16777216 then .ok (.ref h.length) (h ++ [.lst ((List.range (j - i).toNat).map fun (k : Nat) => .int (i + k))]) else .bad
  | _, _ => .bad
def lstA (x : D) (h : Hh) : Option (Nat × List D) := match x with
  | .ref n => match h[n]? with
    | some (.lst xs) => some (n, xs)
    | _ => none
  | _ => none
def rslR (x : D) (h : Hh) : Res D := match lstA x h with
  | some (_, xs) => .ok (.ref h.length) (h ++ [.lst xs.reverse])
  | none => .bad
def enumR (x : D) (h : Hh) : Res (List D × Gd) := match lstA x h with
  | some (n, xs) => .ok (numD 0 xs, [(n, xs)]) h
  | none => .bad
def revR (x : D) (h : Hh) : Res (List D × Gd) := match lstA x h with
  | some (n, xs) => .ok (xs.reverse, [(n, xs)]) h
  | none => .bad
def zipR (x y : D) (h : Hh) : Res (List D × Gd) := match lstA x h, lstA y h with
  | some (n, xs), some (m, ys) => if xs.length = ys.length then .ok (zipD xs ys, [(n, xs), (m, ys)]) h else .bad
  | _, _ => .bad
noncomputable def den : E → Den
  | .var i => .of fun σ h => varR σ i h
  | .cst d => .of fun _ h => .ok d h
  | .glob _ d => .of fun _ h => .ok d h
  | .bin op a b => .of fun σ h => ((den a).v σ h).bind fun x h1 => ((den b).v σ h1).bind fun y h2 => binD op x y h2
  | .neg a => .of fun σ h => ((den a).v σ h).bind negR
  | .not a => { Den.of (fun σ h => (((den a).v σ h).bind truR).bind fun b h1 => .ok (.bl (!b)) h1) with t := fun σ h => ((den a).t σ h).bind fun b h1 => .ok (!b) h1 }
  | .and a b => { Den.of (fun σ h => ((den a).v σ h).bind fun x h1 => boolR x ((den b).v σ h1) (.ok (.bl false) h1)) with
      t := fun σ h => ((den a).t σ h).bind fun k h1 => if k = true then (den b).t σ h1 else .ok false h1 }
  | .or a b => { Den.of (fun σ h => ((den a).v σ h).bind fun x h1 => boolR x (.ok (.bl true) h1) ((den b).v σ h1)) with
      t := fun σ h => ((den a).t σ h).bind fun k h1 => if k = true then .ok true h1 else (den b).t σ h1 }
  | .cmp op a b => .of fun σ h => ((den a).v σ h).bind fun x h1 => ((den b).v σ h1).bind fun y h2 => cmpD op x y h2
  | .chain op op' a b c => .of fun σ h => ((den a).v σ h).bind fun x h1 => ((den b).v σ h1).bind fun y h2 => (cmpD op x y h2).bind fun z h3 =>
      boolR z (((den c).v σ h3).bind fun w h4 => cmpD op' y w h4) (.ok (.bl false) h3)
  | .ife c a b => { Den.of (fun σ h => ((den c).t σ h).bind fun k h1 => if k = true then (den a).v σ h1 else (den b).v σ h1) with t := fun _ _ => .bad }
  | .tup es => .of fun σ h => ((den es).a σ h).bind tupR
  | .lst es => .of fun σ h => ((den es).a σ h).bind lstR
  | .sub a i => .of fun σ h => ((den a).v σ h).bind fun x h1 => ((den i).v σ h1).bind fun y h2 => subD x y h2
  | .slc a lo hi => .of fun σ h => ((den a).v σ h).bind fun x h1 => ((den lo).o σ h1).bind fun l h2 => ((den hi).o σ h2).bind fun u h3 => slcD x l u h3
  | .call f _ b es _ kes => .of fun σ h => ((den es).a σ h).bind fun ds h1 => ((den kes).a σ h1).bind fun zs h2 => argsR b ds zs f h2
  | .meth tb _ b o es _ kes => .of fun σ h => ((den o).v σ h).bind fun x h1 => methR tb x h1 fun f => ((den es).a σ h1).bind fun ds h2 => ((den kes).a σ h2).bind fun zs h3 => argsR b (x :: ds) zs f h3
  | .make c f b es _ kes => .of fun σ h => ((den es).a σ h).bind fun ds h1 => ((den kes).a σ h1).bind fun zs h2 => makeR c f b ds zs h2
  | .fld tb _ a => .of fun σ h => ((den a).v σ h).bind (fldR tb)
  | .bi b es => .of fun σ h => ((den es).a σ h).bind (biD b)
  | .isi a t => .of fun σ h => ((den a).v σ h).bind (isiR t)
  | .bm m o es => .of fun σ h => ((den o).v σ h).bind fun x h1 => if bmOk m x h1 = true then ((den es).a σ h1).bind fun ds h2 => bmD m x ds h2 else .bad
  | .comp own g it test elt => .of fun σ h => ((den it).i σ h).bind fun s h1 => compR (turnC g (den test).t (den elt).v (wipeD σ (own.map (·.2)))) s h1
  | .rng es => { Den.of (fun _ _ => .bad) with i := fun σ h => ((den es).a σ h).bind rngR }
  | .enum a => { Den.of (fun _ _ => .bad) with i := fun σ h => ((den a).v σ h).bind enumR }
  | .zip a b => { Den.of (fun _ _ => .bad) with i := fun σ h => ((den a).v σ h).bind fun x h1 => ((den b).v σ h1).bind fun y h2 => zipR x y h2 }
  | .rev a => { Den.of (fun _ _ => .bad) with i := fun σ h => ((den a).v σ h).bind revR }
  | .lrng a b => .of fun σ h => ((den a).v σ h).bind fun x h1 => ((den b).v σ h1).bind fun y h2 => lrngR x y h2
  | .rsl a => .of fun σ h => ((den a).v σ h).bind rslR
  | .leno tb o => .of fun σ h => ((den o).v σ h).bind fun x h1 => methR tb x h1 fun f => (f [x] h1).bind lenR
  | .xf _ _ tb c ds => .of fun _ h => ofO (xfD tb c ds) h
  | .xis _ _ b => .of fun _ h => .ok (.bl b) h
  | .xfs v _ tb a dd c => .of fun σ h => match heldD σ v a dd c with
    | some ds => ofO (xfD tb c ds) h
    | none => .bad
  | .xiss v t a dd c => .of fun σ h => match heldD σ v a dd c with
    | some _ => .ok (.bl (subN c t)) h
    | none => .bad
  | .nil => ⟨fun _ _ => .bad, fun _ h => .ok true h, fun _ h => .ok [] h, fun _ h => .ok none h, fun _ _ => .bad⟩
  | .cons e es => { Den.of (fun _ _ => .bad) with a := fun σ h => ((den e).v σ h).bind fun d h1 => ((den es).a σ h1).bind fun ds h2 => .ok (d :: ds) h2 }

inductive S where
  | nil | cons (s r : S)
  | pass | expr (e : E) | asg (i : Nat) (e : E) | par (i j : Nat) (a b : E) | unp (g : Tg) (e : E) | sts (o i e : E)
  | ret (e : E) | retN | ife (c : E) (t u : S) | whl (c : E) (b : S) | fr (g : Tg) (it : E) (b : S)
  | brk | cnt | never
  | stf (tb : List (Nat × Nat)) (f : Str) (o e : E)
  | rais (c : Nat) (b : List Ar) (es : E)
  | tr (b hs : S) | hnd (cs : List String) (v : Option Nat) (f : Nat → List D → S)
inductive Out where
  | next (σ : Sl) (h : Hh) | ret (d : D) (h : Hh) | brk (σ : Sl) (h : Hh) | cnt (σ : Sl) (h : Hh)
  | exc (c : Nat) (fs : List D) (σ : Sl) (h : Hh) | bad
/-- behind an expression -/
def Res.out {α : Type} (r : Res α) (σ : Sl) (f : α → Hh → Out) : Out := match r with
  | .ok a h => f a h
  | .exc c fs h => .exc c fs σ h
  | .bad => .bad
@[simp] theorem out_ok {α : Type} (a : α) (h : Hh) (σ : Sl) (f : α → Hh → Out) : (Res.ok a h).out σ f = f a h := rfl
@[simp] theorem out_exc {α : Type} (c : Nat) (fs : List D) (h : Hh) (σ : Sl) (f : α → Hh → Out) : (Res.exc c fs h : Res α).out σ f = .exc c fs σ h := rfl
@[simp] theorem out_bad {α : Type} (σ : Sl) (f : α → Hh → Out) : (Res.bad : Res α).out σ f = .bad := rfl
def Out.seq (o : Out) (f : Sl → Hh → Out) : Out := match o with
  | .next σ h => f σ h
  | o => o
@[simp] theorem seq_next (σ : Sl) (h : Hh) (f : Sl → Hh → Out) : (Out.next σ h).seq f = f σ h := rfl
@[simp] theorem seq_ret (d : D) (h : Hh) (f : Sl → Hh → Out) : (Out.ret d h).seq f = .ret d h := rfl
@[simp] theorem seq_brk (σ : Sl) (h : Hh) (f : Sl → Hh → Out) : (Out.brk σ h).seq f = .brk σ h := rfl
@[simp] theorem seq_cnt (σ : Sl) (h : Hh) (f : Sl → Hh → Out) : (Out.cnt σ h).seq f = .cnt σ h := rfl
@[simp] theorem seq_exc (c : Nat) (fs : List D) (σ : Sl) (h : Hh) (f : Sl → Hh → Out) : (Out.exc c fs σ h).seq f = .exc c fs σ h := rfl
@[simp] theorem seq_bad (f : Sl → Hh → Out) : Out.bad.seq f = .bad := rfl
/-- a turn's end: go on, or leave the loop -/
def Out.turn (o : Out) (f : Sl → Hh → Out) : Out := match o with
  | .next σ h => f σ h
  | .cnt σ h => f σ h
  | .brk σ h => .next σ h
  | o => o
@[simp] theorem turn_next (σ : Sl) (h : Hh) (f : Sl → Hh → Out) : (Out.next σ h).turn f = f σ h := rfl
@[simp] theorem turn_cnt (σ : Sl) (h : Hh) (f : Sl → Hh → Out) : (Out.cnt σ h).turn f = f σ h := rfl
@[simp] theorem turn_brk (σ : Sl) (h : Hh) (f : Sl → Hh → Out) : (Out.brk σ h).turn f = .next σ h := rfl
@[simp] theorem turn_ret (d : D) (h : Hh) (f : Sl → Hh → Out) : (Out.ret d h).turn f = .ret d h := rfl
@[simp] theorem turn_exc (c : Nat) (fs : List D) (σ : Sl) (h : Hh) (f : Sl → Hh → Out) : (Out.exc c fs σ h).turn f = .exc c fs σ h := rfl
@[simp] theorem turn_bad (f : Sl → Hh → Out) : Out.bad.turn f = .bad := rfl
/-- so many turns of a while at most -/
def iter (c : Sl → Hh → Res Bool) (b : Sl → Hh → Out) : Nat → Sl → Hh → Out
  | 0, _, _ => .bad
  | n + 1, σ, h => (c σ h).out σ fun k h1 => if k = true then (b σ h1).turn (iter c b n) else .next σ h1
open Classical in
noncomputable def whlR (c : Sl → Hh → Res Bool) (b : Sl → Hh → Out) (σ : Sl) (h : Hh) : Out :=
  if x : ∃ n, iter c b n σ h ≠ .bad then iter c b x.choose σ h else .bad
theorem iter_more {c : Sl → Hh → Res Bool} {b : Sl → Hh → Out} : ∀ {n : Nat} {σ : Sl} {h : Hh}, iter c b n σ h ≠ .bad → ∀ m, n ≤ m → iter c b m σ h = iter c b n σ h
  | 0, _, _, x, _, _ => absurd rfl x
  | n + 1, σ, h, x, m, hm => by
    obtain ⟨m, rfl⟩ : ∃ k, m = k + 1 := ⟨m - 1, by omega⟩
    unfold iter at x ⊢
    cases e : c σ h with
    | bad => rfl
    | exc _ _ _ => rfl
    | ok k h1 =>
      rw [e] at x
      simp only [out_ok] at x ⊢
      cases k with
      | false => rfl
      | true =>
        simp only [if_true] at x ⊢
        cases e2 : b σ h1 with
        | next σ2 h2 => rw [e2] at x; exact iter_more x m (by omega)
        | cnt σ2 h2 => rw [e2] at x; exact iter_more x m (by omega)
        | brk _ _ => rfl
        | ret _ _ => rfl
        | exc _ _ _ _ => rfl
        | bad => rfl
theorem whlR_of {c : Sl → Hh → Res Bool} {b : Sl → Hh → Out} {σ : Sl} {h : Hh} {o : Out} (n : Nat) (e : iter c b n σ h = o) (hb : o ≠ .bad) : whlR c b σ h = o := by
  have x : ∃ n, iter c b n σ h ≠ .bad := ⟨n, by rw [e]; exact hb⟩
  unfold whlR
  rw [dif_pos x]
  have y := x.choose_spec
  by_cases c : n ≤ x.choose
  · rw [iter_more (by rw [e]; exact hb) _ c]; exact e
  · rw [← iter_more y n (by omega)]; exact e
open Classical in
noncomputable def forR (g : Tg) (b : Sl → Hh → Out) (gd : Gd) : List D → Sl → Hh → Out
  | [], σ, h => if gdOk gd h then .next σ h else .bad
  | d :: ds, σ, h => if gdOk gd h then match asgT g d σ with
      | none => .bad
      | some σ2 => (b σ2 h).turn (forR g b gd ds)
    else .bad
/-- o[i] = v -/
def stsD : D → D → D → Hh → Res Unit
  | .ref n, .int k, v, h => match h[n]? with
    | some (.lst xs) => match ixN xs.length k with
      | some j => .ok () (h.set n (.lst (xs.set j v)))
      | none => .bad
    | _ => .bad
  | _, _, _, _ => .bad
def unpR (g : Tg) (d : D) (σ : Sl) (h : Hh) : Out := match asgT g d σ with
  | some σ2 => .next σ2 h
  | none => .bad
/-- the name of a caught exception goes -/
def unsetD (v : Option Nat) (σ : Sl) : Sl := match v with
  | some i => σ.set i none
  | none => σ
def Out.unset (v : Option Nat) (o : Out) : Out := match o with
  | .next σ h => .next (unsetD v σ) h
  | .brk σ h => .brk (unsetD v σ) h
  | .cnt σ h => .cnt (unsetD v σ) h
  | .exc c ds σ h => .exc c ds (unsetD v σ) h
  | o => o
def Out.catch (o : Out) (f : Nat → List D → Sl → Hh → Out) : Out := match o with
  | .exc c ds σ h => f c ds σ h
  | o => o
def raisR (c : Nat) (b : List Ar) (ds : List D) (σ : Sl) (h : Hh) : Out := match pickD b ds [] with
  | some xs => .exc c xs σ h
  | none => .bad
mutual
/-- no object within -/
def flD : D → Bool
  | .tup xs => flDs xs
  | .rol _ => false
  | .ref _ => false
  | .xcp _ _ _ _ => false
  | _ => true
def flDs : List D → Bool
  | [] => true
  | d :: ds => flD d && flDs ds
end
mutual
noncomputable def exec : S → Sl → Hh → Out
  | .nil, σ, h => .next σ h
  | .cons s r, σ, h => (exec s σ h).seq (exec r)
  | .pass, σ, h => .next σ h
  | .expr e, σ, h => ((den e).v σ h).out σ fun _ h1 => .next σ h1
  | .asg i e, σ, h => ((den e).v σ h).out σ fun d h1 => .next (σ.set i (some d)) h1
  | .par i j a b, σ, h => ((den a).v σ h).out σ fun x h1 => ((den b).v σ h1).out σ fun y h2 => .next ((σ.set i (some x)).set j (some y)) h2
  | .unp g e, σ, h => ((den e).v σ h).out σ fun d h1 => unpR g d σ h1
  | .sts o i e, σ, h => ((den e).v σ h).out σ fun v h1 => ((den o).v σ h1).out σ fun x h2 => ((den i).v σ h2).out σ fun y h3 => (stsD x y v h3).out σ fun _ h4 => .next σ h4
  | .ret e, σ, h => ((den e).v σ h).out σ fun d h1 => .ret d h1
  | .retN, _, h => .ret .non h
  | .ife c t u, σ, h => ((den c).t σ h).out σ fun k h1 => if k = true then exec t σ h1 else exec u σ h1
  | .whl c b, σ, h => whlR (den c).t (exec b) σ h
  | .fr g it b, σ, h => ((den it).i σ h).out σ fun s h1 => forR g (exec b) s.2 s.1 σ h1
  | .brk, σ, h => .brk σ h
  | .cnt, σ, h => .cnt σ h
  | .never, _, _ => .bad
  | .stf tb _ o e, σ, h => ((den e).v σ h).out σ fun v h1 => ((den o).v σ h1).out σ fun x h2 => (stfR tb x v h2).out σ fun _ h3 => .next σ h3
  | .rais c b es, σ, h => ((den es).a σ h).out σ fun ds h1 => raisR c b ds σ h1
  | .tr b hs, σ, h => (exec b σ h).catch fun c ds σ h => if flDs ds = true then execH hs c ds σ h else .bad
  | .hnd _ _ _, _, _ => .bad
noncomputable def execH : S → Nat → List D → Sl → Hh → Out
  | .cons (.hnd cs v f) r, c, ds, σ, h => if (cs.any fun x => subN c x) = true then (exec (f c ds) (unsetD v σ) h).unset v else execH r c ds σ h
  | .nil, c, ds, σ, h => .exc c ds σ h
  | _, _, _, _, _ => .bad
end
/-- a def: so many parameters, so many names -/
def fnR (o : Out) : Res D := match o with
  | .next _ h => .ok .non h
  | .ret d h => .ok d h
  | .exc c fs _ h => .exc c fs h
  | _ => .bad
def startD (n : Nat) (ds : List D) : Sl := ds.map some ++ List.replicate (n - ds.length) none
noncomputable def fn (np n : Nat) (b : S) : Fn := fun ds h => if ds.length = np then fnR (exec b (startD n ds) h) else .bad
/-- defaults behind what is written -/
def dfl (f : Fn) (es : List D) : Fn := fun ds h => f (ds ++ es) h
end L3

namespace L3
open PySem L2

/-- an exception as it lies -/
def XR (K : PySem.W.Frag) (mg : Str → Option Value) (ρ : List Addr) (H : Hp) (c : Nat) (ds : List D) (cls : Value) (d : Option Addr) : Prop :=
  subN c "BaseException" = true ∧ ds.length ≤ (fldN c).length ∧ ∃ (C dd : Addr) (vfs : List (Str × V)), cls = .ref C ∧ mg (clsN c) = some (.ref C) ∧ d = some dd ∧ H dd = some (.xd vfs) ∧ ∀ (i : Nat) (f : Str) (x : D), (fldN c)[i]? = some f → ds[i]? = some x → ∃ v, vfs.lookup f = some v ∧ RD K ρ H x v

/-- what is wanted behind a run -/
def Post {α β : Type} (K : PySem.W.Frag) (mg : Str → Option Value) (RA : List Addr → Hp → α → β → Prop) (ρ : List Addr) (H : Hp) (E : XK) (r : Res α) (Q : β → Hp → Prop) : Prop := match r with
  | .ok a h' => ∀ (ρ' : List Addr) (H' : Hp) (b : β), Step ρ H ρ' H' → Rep K mg ρ' h' H' → RA ρ' H' a b → Q b H'
  | .exc c fs h' => ∀ (ρ' : List Addr) (H' : Hp) (cls : Value) (d : Option Addr), Step ρ H ρ' H' → Rep K mg ρ' h' H' → XR K mg ρ' H' c fs cls d → E cls d H'
  | .bad => False
abbrev RV (K : PySem.W.Frag) : List Addr → Hp → D → V → Prop := fun ρ H d v => RD K ρ H d v
abbrev RL (K : PySem.W.Frag) : List Addr → Hp → List D → List V → Prop := fun ρ H d v => RDs K ρ H d v
abbrev RQ {α : Type} : List Addr → Hp → α → α → Prop := fun _ _ a b => a = b

section
variable {α β γ δ : Type} {K : PySem.W.Frag} {mg : Str → Option Value} {RA : List Addr → Hp → α → β → Prop} {RB : List Addr → Hp → γ → δ → Prop} {ρ ρ1 : List Addr} {H H1 : Hp} {E : XK} {r : Res α}
theorem Post.from {Q : β → Hp → Prop} (P : Post K mg RA ρ H E r Q) (s : Step ρ H ρ1 H1) : Post K mg RA ρ1 H1 E r Q := by
  cases r with
  | ok a h => exact fun ρ' H' b s' => P ρ' H' b (s.trans s')
  | exc c fs h => exact fun ρ' H' b d s' => P ρ' H' b d (s.trans s')
  | bad => exact P
theorem Post.imp {Q Q' : β → Hp → Prop} (P : Post K mg RA ρ H E r Q) (i : ∀ b H', Q b H' → Q' b H') : Post K mg RA ρ H E r Q' := by
  cases r with
  | ok a h => exact fun ρ' H' b s' rp ra => i b H' (P ρ' H' b s' rp ra)
  | exc c fs h => exact P
  | bad => exact P
theorem Post.bind {f : α → Hh → Res γ} {Q : δ → Hp → Prop} (P : Post K mg RB ρ H E (r.bind f) Q) :
    Post K mg RA ρ H E r fun b H1 => ∃ ρ1 a h1, Step ρ H ρ1 H1 ∧ Rep K mg ρ1 h1 H1 ∧ RA ρ1 H1 a b ∧ r = .ok a h1 ∧ Post K mg RB ρ1 H1 E (f a h1) Q := by
  cases r with
  | ok a h => exact fun ρ' H' b s rp ra => ⟨ρ', a, h, s, rp, ra, rfl, Post.from (r := f a h) P s⟩
  | exc c fs h => exact P
  | bad => exact P
/-- an end as it is -/
theorem Post.here {Q : β → Hp → Prop} {a : α} {h : Hh} {b : β} (P : Post K mg RA ρ H E (.ok a h) Q) (rp : Rep K mg ρ h H) (ra : RA ρ H a b) : Q b H := P ρ H b (Step.refl _ _) rp ra
theorem Post.to {Q : β → Hp → Prop} {a : α} {h : Hh} {b : β} (P : Post K mg RA ρ H E (.ok a h) Q) (s : Step ρ H ρ1 H1) (rp : Rep K mg ρ1 h H1) (ra : RA ρ1 H1 a b) : Q b H1 := P ρ1 H1 b s rp ra
end

/-- the slots -/
structure RS (K : PySem.W.Frag) (ρ : List Addr) (H : Hp) (σ3 : Sl) (σ : L2.St) : Prop where
  len : σ3.length = σ.length
  get : ∀ (i : Nat) (d : D), σ3[i]? = some (some d) → ∃ v, σ[i]? = some (some v) ∧ RD K ρ H d v
section
variable {K : PySem.W.Frag} {ρ ρ1 : List Addr} {H H1 : Hp} {σ3 : Sl} {σ : L2.St}
theorem RS.mono (r : RS K ρ H σ3 σ) (s : Step ρ H ρ1 H1) : RS K ρ1 H1 σ3 σ := ⟨r.len, fun i d e => let ⟨v, e1, q⟩ := r.get i d e; ⟨v, e1, q.mono s⟩⟩
theorem RS.set {d : D} {v : V} (r : RS K ρ H σ3 σ) (h : RD K ρ H d v) (i : Nat) : RS K ρ H (σ3.set i (some d)) (σ.set i (some v)) := by
  refine ⟨by simp [r.len], fun j e he => ?_⟩
  by_cases c : j = i
  · subst c
    by_cases hl : j < σ3.length
    · rw [List.getElem?_set_self hl] at he
      cases he
      exact ⟨v, by rw [List.getElem?_set_self (by rw [← r.len]; exact hl)], h⟩
    · rw [List.getElem?_eq_none (by simpa using hl)] at he
      cases he
  · rw [List.getElem?_set_ne (Ne.symm c)] at he ⊢
    exact r.get j e he
theorem RS.unset (r : RS K ρ H σ3 σ) (i : Nat) : RS K ρ H (σ3.set i none) (σ.set i none) := by
  refine ⟨by simp [r.len], fun j e he => ?_⟩
  by_cases c : j = i
  · subst c
    by_cases hl : j < σ3.length
    · rw [List.getElem?_set_self hl] at he
      cases he
    · rw [List.getElem?_eq_none (by simpa using hl)] at he
      cases he
  · rw [List.getElem?_set_ne (Ne.symm c)] at he ⊢
    exact r.get j e he
theorem RS.wipe (r : RS K ρ H σ3 σ) : ∀ (is : List Nat), RS K ρ H (wipeD σ3 is) (L2.wipe σ is) := by
  intro is
  induction is with
  | nil => exact r
  | cons i is ih => exact ih.unset i
theorem RS.start {ds : List D} {vs : List V} {N : List Str} (r : RDs K ρ H ds vs) : RS K ρ H (startD N.length ds) (L2.start N vs) := by
  unfold startD L2.start
  refine ⟨by simp [r.length], fun i d e => ?_⟩
  by_cases c : i < ds.length
  · rw [List.getElem?_append_left (by simpa using c), List.getElem?_map] at e
    cases q : ds[i]? with
    | none => rw [q] at e; cases e
    | some x =>
      rw [q] at e
      cases e
      obtain ⟨v, e1, rv⟩ := r.get q
      exact ⟨v, by rw [List.getElem?_append_left (by simpa [← r.length] using c), List.getElem?_map, e1]; rfl, rv⟩
  · rw [List.getElem?_append_right (by simpa using c), List.getElem?_replicate] at e
    split at e <;> cases e
end

section
variable (K : PySem.W.Frag) (mg : Str → Option Value)
def rE (m : Sl → Hh → Res D) (W : WX) : TE := fun σ H Q => ∃ ρ σ3 h, RS K ρ H σ3 σ ∧ Rep K mg ρ h H ∧ Post K mg (RV K) ρ H (fun c d H' => W c d σ H') (m σ3 h) Q
def rT (m : Sl → Hh → Res Bool) (W : WX) : TT := fun σ H Q => ∃ ρ σ3 h, RS K ρ H σ3 σ ∧ Rep K mg ρ h H ∧ Post K mg RQ ρ H (fun c d H' => W c d σ H') (m σ3 h) Q
def rA (m : Sl → Hh → Res (List D)) (W : WX) : TA := fun σ H Q => ∃ ρ σ3 h, RS K ρ H σ3 σ ∧ Rep K mg ρ h H ∧ Post K mg (RL K) ρ H (fun c d H' => W c d σ H') (m σ3 h) Q
def rO (m : Sl → Hh → Res (Option Int)) (W : WX) : TO := fun σ H Q => ∃ ρ σ3 h, RS K ρ H σ3 σ ∧ Rep K mg ρ h H ∧ Post K mg RQ ρ H (fun c d H' => W c d σ H') (m σ3 h) Q
end
theorem PEimp {X : Cx} {e : Expr} {t t' : TE} (h : PE X e t) (i : ∀ σ H Q, t' σ H Q → t σ H Q) : PE X e t' := ⟨fun pins s σ H Q I q => h.run pins s σ H Q I (i σ H Q q)⟩
theorem PTimp {X : Cx} {e : Expr} {t t' : TT} (h : PT X e t) (i : ∀ σ H Q, t' σ H Q → t σ H Q) : PT X e t' := ⟨fun pins s σ H Q I q => h.run pins s σ H Q I (i σ H Q q)⟩
theorem PWimp {X : Cx} {e : Expr} {t t' : TT} (h : PW X e t) (i : ∀ σ H Q, t' σ H Q → t σ H Q) : PW X e t' := ⟨fun wh pins s σ H Q I q => h.run wh pins s σ H Q I (i σ H Q q)⟩
theorem PAimp {X : Cx} {e : List Expr} {t t' : TA} (h : PA X e t) (i : ∀ σ H Q, t' σ H Q → t σ H Q) : PA X e t' := ⟨fun pos pins s σ H Q I q => h.run pos pins s σ H Q I (i σ H Q q)⟩
theorem PSimp {X : Cx} {e : Stmt} {t t' : TS} (h : PS X e t) (i : ∀ D σ H, t' D σ H → t D σ H) : PS X e t' := ⟨fun pins s σ H D I q => h.run pins s σ H D I (i D σ H q)⟩
theorem PSsimp {X : Cx} {e : List Stmt} {t t' : TS} (h : PSs X e t) (i : ∀ D σ H, t' D σ H → t D σ H) : PSs X e t' := ⟨fun pins s σ H D I q => h.run pins s σ H D I (i D σ H q)⟩

section
variable {X : Cx}
theorem op_fdivG : OpR X (binaryOp .FloorDiv) (rI (fun _ j => j ≠ 0 ∧ j.natAbs.log2 < 9000) fun i j => .int (i.fdiv j)) := opI fun i j _ _ _ _ _ hc q => PyProof.Rows.floordiv_int hc.1 q (.inl (PyProof.noPylong_of_log2 hc.2))
/-- what two values ask -/
def r2 (K : PySem.W.Frag) (mg : Str → Option Value) (g : D → D → Hh → Res D) : R2 := fun x y H Q => ∃ ρ a b h E, RD K ρ H a x ∧ RD K ρ H b y ∧ Rep K mg ρ h H ∧ Post K mg (RV K) ρ H E (g a b h) Q
theorem lst_at {K : PySem.W.Frag} {mg : Str → Option Value} {ρ : List Addr} {H : Hp} {h : Hh} {n : Nat} {v : V} {xs : List D} (rp : Rep K mg ρ h H) (rd : RD K ρ H (.ref n) v) (e : h[n]? = some (.lst xs)) :
    ∃ a vs, v = .ref a ∧ ρ[n]? = some a ∧ H a = some (.lst vs) ∧ RDs K ρ H xs vs := by
  cases rd with
  | ref hn =>
    obtain ⟨vs, e1, r⟩ := rp.obj _ _ _ hn e
    exact ⟨_, vs, rfl, hn, e1, r⟩
theorem op_bin (op : Operator) : OpR X (binaryOp op) (r2 X.K X.mg (binD op)) := by
  intro pins s σ H x y v u Q I rx ry hr
  obtain ⟨ρ, a, b, h, E, ra, rb, rp, P⟩ := hr
  unfold binD at P
  split at P
  · cases ra; cases rb
    exact op_add pins s σ H _ _ v u Q I rx ry ⟨_, _, rfl, rfl, P.here rp (.int _)⟩
  · split at P
    · cases ra; cases rb
      exact op_add_str pins s σ H _ _ v u Q I rx ry ⟨_, _, rfl, rfl, by assumption, P.here rp (.str _)⟩
    · exact P.elim
  · split at P
    · rename_i m n h1 xs ys e1 e2
      split at P
      · rename_i hl
        obtain ⟨l1, v1, rfl, n1, g1, q1⟩ := lst_at rp ra e1
        obtain ⟨l2, v2, rfl, n2, g2, q2⟩ := lst_at rp rb e2
        refine op_cat pins s σ H _ _ v u Q I rx ry ⟨l1, l2, v1, v2, rfl, rfl, g1, g2, by rw [← q1.length, ← q2.length]; exact hl, fun p hp => ?_⟩
        exact P.to (lay_step hp) (rp.layL hp (q1.append q2)) (.ref (lay_at rp))
      · exact P.elim
    · exact P.elim
  · cases ra; cases rb
    exact op_sub pins s σ H _ _ v u Q I rx ry ⟨_, _, rfl, rfl, P.here rp (.int _)⟩
  · split at P
    · cases ra; cases rb
      exact op_mulW pins s σ H _ _ v u Q I rx ry ⟨_, _, rfl, rfl, by assumption, P.here rp (.int _)⟩
    · exact P.elim
  · split at P
    · cases ra; cases rb
      exact op_fdivG pins s σ H _ _ v u Q I rx ry ⟨_, _, rfl, rfl, by assumption, P.here rp (.int _)⟩
    · exact P.elim
  · split at P
    · cases ra; cases rb
      exact op_modN pins s σ H _ _ v u Q I rx ry ⟨_, _, rfl, rfl, by assumption, P.here rp (.int _)⟩
    · exact P.elim
  · split at P
    · cases ra; cases rb
      exact op_pow pins s σ H _ _ v u Q I rx ry ⟨_, _, rfl, rfl, by assumption, P.here rp (.int _)⟩
    · exact P.elim
  · exact P.elim

mutual
theorem datF_dp {K : PySem.W.Frag} {mg : Str → Option Value} {ρ : List Addr} {H : Hp} {h : Hh} (rp : Rep K mg ρ h H) : ∀ (k : Nat) (x : D) (v : V) (d : PyData), RD K ρ H x v → datF k h x = some d → Dp K H v d
  | 0, _, _, _, _, e => by unfold datF at e; cases e
  | k + 1, .non, _, _, r, e => by unfold datF at e; cases e; cases r; exact .non
  | k + 1, .bl b, _, _, r, e => by unfold datF at e; cases e; cases r; exact .bl b
  | k + 1, .int b, _, _, r, e => by unfold datF at e; cases e; cases r; exact .int b
  | k + 1, .str b, _, _, r, e => by unfold datF at e; cases e; cases r; exact .str b
  | k + 1, .tup xs, _, _, r, e => by
    unfold datF at e
    cases q : datsF k h xs with
    | none => rw [q] at e; cases e
    | some ds =>
      rw [q] at e
      cases e
      cases r with
      | tup hq rs => exact .tup hq (datsF_dp rp k xs _ ds rs q)
  | k + 1, .rol _, _, _, _, e => by unfold datF at e; cases e
  | k + 1, .xcp _ _ _ _, _, _, _, e => by unfold datF at e; cases e
  | k + 1, .ref n, _, _, r, e => by
    unfold datF at e
    split at e
    · rename_i xs hx
      cases q : datsF k h xs with
      | none => rw [q] at e; cases e
      | some ds =>
        rw [q] at e
        cases e
        obtain ⟨a, vs, rfl, hn, g, rs⟩ := lst_at rp r hx
        exact .lst (SqL.of g) (datsF_dp rp k xs _ ds rs q)
    · cases e
termination_by k => (k, 0)
theorem datsF_dp {K : PySem.W.Frag} {mg : Str → Option Value} {ρ : List Addr} {H : Hp} {h : Hh} (rp : Rep K mg ρ h H) : ∀ (k : Nat) (xs : List D) (vs : List V) (ds : List PyData), RDs K ρ H xs vs → datsF k h xs = some ds → DpAll K H vs ds
  | k, [], _, _, r, e => by unfold datsF at e; cases e; cases r; exact .nil
  | 0, _ :: _, _, _, _, e => by unfold datsF at e; cases e
  | k + 1, x :: xs, _, _, r, e => by
    unfold datsF at e
    split at e
    · rename_i a b ea eb
      cases e
      cases r with
      | cons r1 r2 => exact .cons (datF_dp rp (k + 1) x _ a r1 ea) (datsF_dp rp (k + 1) xs _ b r2 eb)
    · cases e
termination_by k xs => (k, xs.length + 1)
end
theorem dec_int_eq {i j : Int} : decide (V.int i = V.int j) = decide (i = j) := by
  by_cases e : i = j
  · subst e; simp
  · rw [decide_eq_false e, decide_eq_false (fun q => e (V.int.inj q))]
theorem dec_str_eq {i j : Str} : decide (V.str i = V.str j) = decide (i = j) := by
  by_cases e : i = j
  · subst e; simp
  · rw [decide_eq_false e, decide_eq_false (fun q => e (V.str.inj q))]
theorem dec_bl_eq {i j : Bool} : decide (V.bl i = V.bl j) = decide (i = j) := by
  by_cases e : i = j
  · subst e; simp
  · rw [decide_eq_false e, decide_eq_false (fun q => e (V.bl.inj q))]
theorem in_data {K : PySem.W.Frag} {mg : Str → Option Value} {ρ : List Addr} {H : Hp} {h : Hh} {a b : D} {x y : V} {r : Bool} (rp : Rep K mg ρ h H) (ra : RD K ρ H a x) (rb : RD K ρ H b y) (e : inData a b h = some r) :
    ∃ d ds, Dp K H x d ∧ Dp K H y (.list ds) ∧ SeqAt.shaped d = true ∧ SeqAt.shaped (.list ds) = true ∧ r = (ds.any fun z => PyData.eqv z d) := by
  unfold inData at e
  split at e
  · rename_i da db ea eb
    split at e
    · rename_i hs
      cases e
      exact ⟨da, db, datF_dp rp 9 _ _ _ ra ea, datF_dp rp 9 _ _ _ rb eb, hs.1, hs.2, rfl⟩
    · cases e
  · cases e
theorem op_cmp (hu : X.A.units + 65 < cLine) (op : CmpOp) : OpR X (compareOp op) (r2 X.K X.mg (cmpD op)) := by
  intro pins s σ H x y v u Q I rx ry hr
  obtain ⟨ρ, a, b, h, E, ra, rb, rp, P⟩ := hr
  unfold cmpD at P
  split at P
  · unfold eqD at P
    split at P
    · cases ra; cases rb
      exact op_eq pins s σ H _ _ v u Q I rx ry ⟨rfl, by rw [dec_int_eq]; exact P.here rp (.bl _)⟩
    · cases ra; cases rb
      exact op_eq pins s σ H _ _ v u Q I rx ry ⟨rfl, by rw [dec_str_eq]; exact P.here rp (.bl _)⟩
    · cases ra; cases rb
      exact op_eq pins s σ H _ _ v u Q I rx ry ⟨rfl, by rw [dec_bl_eq]; exact P.here rp (.bl _)⟩
    · unfold eqData at P
      split at P
      · rename_i da db ea eb
        split at P
        · rename_i hs
          exact op_eqD (by omega) pins s σ H _ _ v u Q I rx ry ⟨da, db, datF_dp rp 9 _ _ _ ra ea, datF_dp rp 9 _ _ _ rb eb, hs.1, hs.2, P.here rp (.bl _)⟩
        · exact P.elim
      · exact P.elim
  · unfold eqD at P
    split at P
    · cases ra; cases rb
      exact op_ne pins s σ H _ _ v u Q I rx ry ⟨rfl, by rw [dec_int_eq]; exact P.here rp (.bl _)⟩
    · cases ra; cases rb
      exact op_ne pins s σ H _ _ v u Q I rx ry ⟨rfl, by rw [dec_str_eq]; exact P.here rp (.bl _)⟩
    · cases ra; cases rb
      exact op_ne pins s σ H _ _ v u Q I rx ry ⟨rfl, by rw [dec_bl_eq]; exact P.here rp (.bl _)⟩
    · unfold eqData at P
      split at P
      · rename_i da db ea eb
        split at P
        · rename_i hs
          exact op_neD (by omega) pins s σ H _ _ v u Q I rx ry ⟨da, db, datF_dp rp 9 _ _ _ ra ea, datF_dp rp 9 _ _ _ rb eb, hs.1, hs.2, P.here rp (.bl _)⟩
        · exact P.elim
      · exact P.elim
  · cases ra; cases rb
    exact op_isN pins s σ H _ _ v u Q I rx ry ⟨rfl, P.here rp (.bl _)⟩
  · rename_i hx
    cases rb
    have e : decide (x = V.non) = false := by
      apply decide_eq_false
      intro z
      subst z
      cases ra
      exact hx rfl
    exact op_isN pins s σ H _ _ v u Q I rx ry ⟨rfl, by rw [e]; exact P.here rp (.bl _)⟩
  · cases ra; cases rb
    exact op_notN pins s σ H _ _ v u Q I rx ry ⟨rfl, P.here rp (.bl _)⟩
  · rename_i hx
    cases rb
    have e : decide (x = V.non) = false := by
      apply decide_eq_false
      intro z
      subst z
      cases ra
      exact hx rfl
    exact op_notN pins s σ H _ _ v u Q I rx ry ⟨rfl, by rw [e]; exact P.here rp (.bl _)⟩
  · split at P
    · cases q : inData a (.ref _) h with
      | none => rw [q] at P; exact P.elim
      | some r =>
        rw [q] at P
        obtain ⟨d, ds, h1, h2, h3, h4, rfl⟩ := in_data rp ra rb q
        exact op_inD hu pins s σ H _ _ v u Q I rx ry ⟨d, ds, h1, h2, h3, h4, P.here rp (.bl _)⟩
    · exact P.elim
  · split at P
    · cases q : inData a (.ref _) h with
      | none => rw [q] at P; exact P.elim
      | some r =>
        rw [q] at P
        obtain ⟨d, ds, h1, h2, h3, h4, rfl⟩ := in_data rp ra rb q
        exact op_notInD hu pins s σ H _ _ v u Q I rx ry ⟨d, ds, h1, h2, h3, h4, P.here rp (.bl _)⟩
    · exact P.elim
  · cases ra; cases rb
    exact op_lt pins s σ H _ _ v u Q I rx ry ⟨_, _, rfl, rfl, P.here rp (.bl _)⟩
  · cases ra; cases rb
    exact op_le pins s σ H _ _ v u Q I rx ry ⟨_, _, rfl, rfl, P.here rp (.bl _)⟩
  · cases ra; cases rb
    exact op_gt pins s σ H _ _ v u Q I rx ry ⟨_, _, rfl, rfl, P.here rp (.bl _)⟩
  · cases ra; cases rb
    exact op_ge pins s σ H _ _ v u Q I rx ry ⟨_, _, rfl, rfl, P.here rp (.bl _)⟩
  · exact P.elim

theorem ixN_of_rds {K : PySem.W.Frag} {ρ : List Addr} {H : Hp} {xs : List D} {vs : List V} {i : Int} {d : D} (r : RDs K ρ H xs vs) (e : atI xs i = some d) : ∃ v, atI vs i = some v ∧ RD K ρ H d v := by
  unfold atI at e ⊢
  rw [← r.length]
  cases q : ixN xs.length i with
  | none => rw [q] at e; cases e
  | some j =>
    rw [q] at e
    obtain ⟨v, e1, rv⟩ := r.get (show xs[j]? = some d from e)
    exact ⟨v, e1, rv⟩
theorem ix_any : IxR X (r2 X.K X.mg subD) := by
  intro value slice pins s σ H x y v u Q I rx ry hr hs
  obtain ⟨ρ, a, b, h, E, ra, rb, rp, P⟩ := hr
  unfold subD ofO at P
  split at P
  · split at P
    · rename_i e
      cases rb
      cases ra with
      | tup hq rs =>
        obtain ⟨w, ew, rw'⟩ := ixN_of_rds rs e
        exact ix_tup value slice pins s σ H _ _ v u Q I rx ry ⟨_, _, _, w, rfl, rfl, hq, ew, P.here rp rw'⟩ hs
    · exact P.elim
  · split at P
    · rename_i e
      cases rb
      cases ra with
      | rol hq rs =>
        obtain ⟨w, ew, rw'⟩ := ixN_of_rds rs e
        exact ix_list value slice pins s σ H _ _ v u Q I rx ry ⟨_, _, _, w, rfl, rfl, hq.sq, ew, P.here rp rw'⟩ hs
    · exact P.elim
  · split at P
    · rename_i hx
      split at P
      · rename_i e
        obtain ⟨l, vs, rfl, hn, g, rs⟩ := lst_at rp ra hx
        cases rb
        obtain ⟨w, ew, rw'⟩ := ixN_of_rds rs e
        exact ix_list value slice pins s σ H _ _ v u Q I rx ry ⟨_, _, _, w, rfl, rfl, SqL.of g, ew, P.here rp rw'⟩ hs
      · exact P.elim
    · exact P.elim
  · split at P
    · rename_i hl
      split at P
      · rename_i d e
        cases ra; cases rb
        rw [Option.map_eq_some_iff] at e
        obtain ⟨c, ec, rfl⟩ := e
        exact ix_str value slice pins s σ H _ _ v u Q I rx ry ⟨_, _, c, rfl, rfl, hl, ec, P.here rp (.str _)⟩ hs
      · exact P.elim
    · exact P.elim
  · exact P.elim
def rSlc (K : PySem.W.Frag) (mg : Str → Option Value) : V → Option Int → Option Int → Hp → VK → Prop := fun x lo hi H Q => ∃ ρ a h E, RD K ρ H a x ∧ Rep K mg ρ h H ∧ Post K mg (RV K) ρ H E (slcD a lo hi h) Q
theorem cut_rds {K : PySem.W.Frag} {ρ : List Addr} {H : Hp} {xs : List D} {vs : List V} {lo hi : Option Int} (r : RDs K ρ H xs vs) : RDs K ρ H (cutD xs lo hi) (cutV vs lo hi) := by
  unfold cutD cutV
  rw [← r.length]
  exact (r.drop _).take _
theorem sl_any : SlR X (rSlc X.K X.mg) := by
  intro pins s σ H x v vl vu lo hi sl Q I rx hs pl pu hr
  obtain ⟨ρ, a, h, E, ra, rp, P⟩ := hr
  unfold slcD at P
  split at P
  · cases ra with
    | rol hq rs => exact sl_list pins s σ H _ v vl vu lo hi sl Q I rx hs pl pu ⟨_, _, rfl, hq.sq, fun p hp => P.to (lay_step hp) (rp.layL hp (cut_rds rs)) (.ref (lay_at rp))⟩
  · split at P
    · rename_i hx
      obtain ⟨l, vs, rfl, hn, g, rs⟩ := lst_at rp ra hx
      exact sl_list pins s σ H _ v vl vu lo hi sl Q I rx hs pl pu ⟨_, _, rfl, SqL.of g, fun p hp => P.to (lay_step hp) (rp.layL hp (cut_rds rs)) (.ref (lay_at rp))⟩
    · exact P.elim
  · exact P.elim

def rBi (K : PySem.W.Frag) (mg : Str → Option Value) (g : List D → Hh → Res D) : List V → Hp → VK → Prop := fun vs H Q => ∃ ρ ds h E, RDs K ρ H ds vs ∧ Rep K mg ρ h H ∧ Post K mg (RV K) ρ H E (g ds h) Q
theorem bi_abs : CallR X (.builtin "abs") (rBi X.K X.mg (biD .abs)) := by
  intro pins s σ H xs us Q I r hr
  obtain ⟨ρ, ds, h, E, rs, rp, P⟩ := hr
  unfold biD at P
  split at P <;> first | (exfalso; exact P.elim) | skip
  all_goals try (exfalso; simp at *; done)
  cases rs with
  | cons r1 r2 =>
    cases r2; cases r1
    exact call_abs pins s σ H _ us Q I r ⟨_, rfl, P.here rp (.int _)⟩
theorem itemsD_sq {K : PySem.W.Frag} {mg : Str → Option Value} {ρ : List Addr} {H : Hp} {h : Hh} {x : D} {v : V} {xs : List D} (rp : Rep K mg ρ h H) (r : RD K ρ H x v) (e : itemsD x h = some xs) :
    ∃ a vs, v = .ref a ∧ (SqL K H a vs ∨ SqT K H a vs) ∧ RDs K ρ H xs vs := by
  unfold itemsD at e
  split at e
  · cases e
    cases r with
    | tup hq rs => exact ⟨_, _, rfl, .inr hq, rs⟩
  · cases e
    cases r with
    | rol hq rs => exact ⟨_, _, rfl, .inl hq.sq, rs⟩
  · split at e
    · rename_i hx
      cases e
      obtain ⟨l, vs, rfl, hn, g, rs⟩ := lst_at rp r hx
      exact ⟨_, _, rfl, .inl (SqL.of g), rs⟩
    · cases e
  · cases e
theorem bi_len : CallR X (.builtin "len") (rBi X.K X.mg (biD .len)) := by
  intro pins s σ H xs us Q I r hr
  obtain ⟨ρ, ds, h, E, rs, rp, P⟩ := hr
  unfold biD at P
  split at P <;> first | (exfalso; exact P.elim) | skip
  all_goals try (exfalso; simp at *; done)
  cases rs with
  | cons r1 r2 =>
    cases r2
    split at P
    · rename_i n e
      unfold lenD at e
      split at e
      · cases e
        cases r1 with
        | tup hq rs => exact call_len_seq pins s σ H _ us Q I r ⟨_, _, rfl, .inr hq, by rw [← rs.length]; exact P.here rp (.int _)⟩
      · cases e
        cases r1 with
        | rol hq rs => exact call_len_seq pins s σ H _ us Q I r ⟨_, _, rfl, .inl hq.sq, by rw [← rs.length]; exact P.here rp (.int _)⟩
      · split at e
        · cases e
          cases r1
          exact call_len_str pins s σ H _ us Q I r ⟨_, rfl, by assumption, P.here rp (.int _)⟩
        · cases e
      · split at e
        · rename_i hx
          cases e
          obtain ⟨l, vs, rfl, hn, g, rs⟩ := lst_at rp r1 hx
          exact call_len_seq pins s σ H _ us Q I r ⟨_, _, rfl, .inl (SqL.of g), by rw [← rs.length]; exact P.here rp (.int _)⟩
        · cases e
      · cases e
    · exact P.elim
theorem bi_list : CallR X (.type "list") (rBi X.K X.mg (biD .list)) := by
  intro pins s σ H xs us Q I r hr
  obtain ⟨ρ, ds, h, E, rs, rp, P⟩ := hr
  unfold biD at P
  split at P <;> first | (exfalso; exact P.elim) | skip
  all_goals try (exfalso; simp at *; done)
  cases rs with
  | cons r1 r2 =>
    cases r2
    split at P
    · rename_i ys e
      obtain ⟨a, vs, rfl, hq, rs⟩ := itemsD_sq rp r1 e
      exact call_list_of pins s σ H _ us Q I r ⟨_, _, rfl, hq, fun p hp => P.to (lay_step hp) (rp.layL hp rs) (.ref (lay_at rp))⟩
    · exact P.elim
theorem bi_min (hc : X.calm = true) : CallR X (.builtin "min") (rBi X.K X.mg (biD .min)) := by
  intro pins s σ H xs us Q I r hr
  obtain ⟨ρ, ds, h, E, rs, rp, P⟩ := hr
  unfold biD at P
  split at P <;> first | (exfalso; exact P.elim) | skip
  all_goals try (exfalso; simp at *; done)
  cases rs with
  | cons r1 r2 =>
    cases r2 with
    | cons r2 r3 =>
      cases r3; cases r1; cases r2
      exact call_min2 hc pins s σ H _ us Q I r ⟨_, _, rfl, P.here rp (.int _)⟩
theorem bi_max (hc : X.calm = true) : CallR X (.builtin "max") (rBi X.K X.mg (biD .max)) := by
  intro pins s σ H xs us Q I r hr
  obtain ⟨ρ, ds, h, E, rs, rp, P⟩ := hr
  unfold biD at P
  split at P <;> first | (exfalso; exact P.elim) | skip
  all_goals try (exfalso; simp at *; done)
  cases rs with
  | cons r1 r2 =>
    cases r2 with
    | cons r2 r3 =>
      cases r3; cases r1; cases r2
      exact call_max2 hc pins s σ H _ us Q I r ⟨_, _, rfl, P.here rp (.int _)⟩
theorem bls_of {K : PySem.W.Frag} {ρ : List Addr} {H : Hp} : ∀ {ds : List D} {vs : List V} {bs : List Bool}, RDs K ρ H ds vs → blsD ds = some bs → vs = bs.map V.bl
  | [], _, _, .nil, e => by cases e; rfl
  | .bl b :: ds, _, bs, .cons r rr, e => by
    unfold blsD at e
    obtain ⟨cs, q, rfl⟩ := Option.map_eq_some_iff.mp e
    cases r
    rw [bls_of rr q]; rfl
  | .non :: _, _, _, .cons _ _, e => by unfold blsD at e; cases e
  | .int _ :: _, _, _, .cons _ _, e => by unfold blsD at e; cases e
  | .str _ :: _, _, _, .cons _ _, e => by unfold blsD at e; cases e
  | .tup _ :: _, _, _, .cons _ _, e => by unfold blsD at e; cases e
  | .rol _ :: _, _, _, .cons _ _, e => by unfold blsD at e; cases e
  | .xcp _ _ _ _ :: _, _, _, .cons _ _, e => by unfold blsD at e; cases e
  | .ref _ :: _, _, _, .cons _ _, e => by unfold blsD at e; cases e
theorem bi_all (hc : X.calm = true) : CallR X (.builtin "all") (rBi X.K X.mg (biD .all)) := by
  intro pins s σ H xs us Q I r hr
  obtain ⟨ρ, ds, h, E, rs, rp, P⟩ := hr
  unfold biD at P
  split at P <;> first | (exfalso; exact P.elim) | skip
  all_goals try (exfalso; simp at *; done)
  split at P
  · rename_i e
    split at P
    · rename_i bs eb
      cases rs with
      | cons r1 r2 =>
        cases r2
        obtain ⟨a, vs, rfl, hn, g, rl⟩ := lst_at rp r1 e
        exact cr_all hc pins s σ H _ us Q I r ⟨a, bs, rfl, by rw [← bls_of rl eb]; exact SqL.of g, P.here rp (.bl _)⟩
    · exact P.elim
  · exact P.elim
theorem bi_any (hc : X.calm = true) : CallR X (.builtin "any") (rBi X.K X.mg (biD .any)) := by
  intro pins s σ H xs us Q I r hr
  obtain ⟨ρ, ds, h, E, rs, rp, P⟩ := hr
  unfold biD at P
  split at P <;> first | (exfalso; exact P.elim) | skip
  all_goals try (exfalso; simp at *; done)
  split at P
  · rename_i e
    split at P
    · rename_i bs eb
      cases rs with
      | cons r1 r2 =>
        cases r2
        obtain ⟨a, vs, rfl, hn, g, rl⟩ := lst_at rp r1 e
        exact cr_any hc pins s σ H _ us Q I r ⟨a, bs, rfl, by rw [← bls_of rl eb]; exact SqL.of g, P.here rp (.bl _)⟩
    · exact P.elim
  · exact P.elim
theorem bi_tuple : CallR X (.type "tuple") (rBi X.K X.mg (biD .tuple)) := by
  intro pins s σ H xs us Q I r hr
  obtain ⟨ρ, ds, h, E, rs, rp, P⟩ := hr
  unfold biD at P
  split at P <;> first | (exfalso; exact P.elim) | skip
  all_goals try (exfalso; simp at *; done)
  split at P
  · rename_i e
    cases rs with
    | cons r1 r2 =>
      cases r2
      obtain ⟨a, vs, rfl, hn, g, rl⟩ := lst_at rp r1 e
      refine call_tuple_of pins s σ H _ us Q I r ⟨a, vs, rfl, .inl ⟨SqL.of g, fun l hl => ?_⟩⟩
      exact P.to (Step.beside hl) (rp.beside hl) (.tup (.inl (.inl upd_same)) (rl.mono (Step.beside hl)))
  · exact P.elim
end
end L3

namespace L3
open PySem L2

def visB (sc : Scope) (x : Str) : Bool := match sc.names.lookup x with
  | some .local => true
  | some .cell => true
  | some .free => true
  | _ => false
def nameB (N : List Str) (sc : Scope) (i : Nat) (x : Str) : Bool := decide (N[i]? = some x) && visB sc x && !(x == ("__debug__" : Str)) && !(x == ("__classdict__" : Str))
def locB (N : List Str) (sc : Scope) (fb : Str → Bool) (i : Nat) (x : Str) : Bool := decide (N[i]? = some x) && (match sc.names.lookup x with
  | some .local => true
  | some .cell => fb x
  | _ => false)
def globB (sc : Scope) (x : Str) : Bool := (match sc.names.lookup x with
  | some .globalImplicit => true
  | _ => false) && !(x == ("__debug__" : Str)) && !(x == ("__name__" : Str))
def starB : Expr → Bool
  | .Starred _ _ => true
  | _ => false
def cstB : D → Const → Bool
  | .non, .none => true
  | .bl b, .bool c => b == c
  | .int i, .int j => decide (i = j)
  | .str x, .str y => decide (x = y)
  | _, _ => false
def sliceB : Expr → Bool
  | .Slice _ _ _ _ => true
  | _ => false
def compB : Expr → Bool
  | .ListComp _ _ _ _ => true
  | .SetComp _ _ _ _ => true
  | .DictComp _ _ _ _ _ => true
  | _ => false
/-- it may be super() -/
def callB : Expr → Bool
  | .Call (.Name _ _) [] [] _ => true
  | _ => false
def setB : Expr → Bool
  | .Set _ _ _ => true
  | _ => false
mutual
def chkG (N : List Str) (sc : Scope) (fb : Str → Bool) : Tg → Expr → Bool
  | .n i, .Name x _ => locB N sc fb i x
  | .tup ts, .Tuple es _ _ => chkGs N sc fb ts es
  | _, _ => false
def chkGs (N : List Str) (sc : Scope) (fb : Str → Bool) : Tg → List Expr → Bool
  | .nil, [] => true
  | .cons a b, e :: es => !starB e && chkG N sc fb a e && chkGs N sc fb b es
  | _, _ => false
end
/-- the slots of a target -/
def Tg.slots : Tg → List Nat
  | .n i => [i]
  | .tup ts => ts.slots
  | .nil => []
  | .cons a b => a.slots ++ b.slots
/-- targets are asked for that are tuples -/
def E.tupIt : E → Bool
  | .enum _ => true
  | .zip _ _ => true
  | _ => false
def tupB : Expr → Bool
  | .Tuple _ _ _ => true
  | _ => false
def E.alen : E → Nat
  | .cons _ es => es.alen + 1
  | _ => 0
/-- x[::-1] -/
def revB : Expr → Option Expr
  | .Subscript e (.Slice none none (some (.UnaryOp .USub (.Constant (.int 1) _ _) _)) _) _ => some e
  | _ => none
/-- f(x) -/
def one1 : Expr → Option (Str × Expr)
  | .Call (.Name y _) [x] [] _ => some (y, x)
  | _ => none
mutual
def chk (N : List Str) (sc : Scope) (c : Bool) : E → Expr → Bool
  | .var i, .Name x _ => nameB N sc i x
  | .cst d, .Constant k _ _ => cstB d k
  | .glob x _, .Name y _ => decide (x = y) && globB sc y
  | .bin op a b, .BinOp l o r _ => decide (op = o) && chk N sc c a l && chk N sc c b r
  | .neg a, .UnaryOp .USub x _ => chk N sc c a x
  | .not a, .UnaryOp .Not x _ => chk N sc c a x
  | .and a b, .BoolOp .And (x :: xs) p => chk N sc c a x && (match xs with
    | [] => false
    | [y] => chk N sc c b y
    | y :: z :: r => chk N sc c b (.BoolOp .And (y :: z :: r) p))
  | .or a b, .BoolOp .Or (x :: xs) p => chk N sc c a x && (match xs with
    | [] => false
    | [y] => chk N sc c b y
    | y :: z :: r => chk N sc c b (.BoolOp .Or (y :: z :: r) p))
  | .cmp op a b, .Compare l [o] [r] _ => decide (op = o) && chk N sc c a l && chk N sc c b r && !setB r
  | .chain op op' a b d, .Compare l [o, o'] [m, r] _ => decide (op = o) && decide (op' = o') && chk N sc c a l && chk N sc c b m && chk N sc c d r && !setB r
  | .ife t a b, .IfExp ct x y _ => chk N sc c t ct && chk N sc c a x && chk N sc c b y
  | .tup es, .Tuple xs _ _ => chkA N sc c es xs
  | .lst es, .List xs _ => chkA N sc c es xs
  | .sub a i, .Subscript x y _ => chk N sc c a x && chk N sc c i y && !sliceB y
  | .slc a lo hi, .Subscript x (.Slice l u none _) _ => chk N sc c a x && (match l with
    | none => lo.isNil
    | some y => chk N sc c lo y) && (match u with
    | none => hi.isNil
    | some y => chk N sc c hi y)
  | .call _ x b es ks kes, .Call (.Name y _) args kws _ => c && decide (x = y) && globB sc y && chkA N sc c es args && chkK N sc c ks kes kws && (b.isSome || kws.isEmpty)
  | .meth _ m b o es ks kes, .Call (.Attribute x n ap) args kws cp => c && decide (m = n) && chk N sc c o x && !callB x && chkA N sc c es args && chkK N sc c ks kes kws && (b.isSome || kws.isEmpty) && (ap.endLine == cp.line) && decide (args.length + kws.length < 28)
  | .make cl _ b es ks kes, .Call (.Name y _) args kws _ => c && decide (clsN cl = y) && globB sc y && chkA N sc c es args && chkK N sc c ks kes kws && (b.isSome || kws.isEmpty)
  | .fld _ f a, .Attribute x g _ => decide (f = g) && chk N sc c a x && !callB x
  | .leno _ o, .Call (.Name y _) [x] [] _ => c && decide (y = ("len" : Str)) && globB sc y && chk N sc c o x && !starB x
  | .enum a, .Call (.Name y _) [x] [] _ => decide (y = ("enumerate" : Str)) && globB sc y && chk N sc c a x && !starB x
  | .rev a, .Call (.Name y _) [x] [] _ => decide (y = ("reversed" : Str)) && globB sc y && chk N sc c a x && !starB x
  | .rsl a, .Subscript x (.Slice none none (some (.UnaryOp .USub (.Constant (.int 1) _ _) _)) _) _ => chk N sc c a x
  | .lrng a b, .Call (.Name y _) [.Call (.Name z _) [u, v] [] _] [] _ => c && decide (y = ("list" : Str)) && globB sc y && decide (z = ("range" : Str)) && globB sc z && chk N sc c a u && chk N sc c b v && !starB u && !starB v
  | .bi b es, .Call (.Name y _) args [] _ => c && decide (b.name = y) && globB sc y && chkA N sc c es args && !args.isEmpty
  | .isi a t, .Call (.Name y _) [x, .Name z _] [] _ => decide (y = ("isinstance" : Str)) && globB sc y && decide (z = (Str.ofString t.name)) && globB sc z && chk N sc c a x && !starB x
  | .bm m o es, .Call (.Attribute x n ap) args [] cp => decide (m.name = n) && chk N sc c o x && !callB x && chkA N sc c es args && decide (ap.endLine = cp.line) && decide (args.length < 30)
  | .comp own g it test elt, .ListComp el [⟨tg, iter, ifs, as⟩] scope _ => c && decide (as = 0) && (!it.tupIt || tupB tg) && chk N sc c it iter && !setB iter && blkC N sc scope own && chkG N (relS scope sc) (fun x => decide (scope.names.lookup x = some .cell)) g tg &&
      (g.slots.all fun i => (own.map (·.2)).contains i) && (match ifs with
        | [] => test.isNil
        | [t] => chk N (relS scope sc) c test t
        | _ => false) && chk N (relS scope sc) c elt el
  | .xfs v f _ _ _ _, .Attribute x g _ => (match x with
    | .Name y _ => nameB N sc v y && decide (f = g)
    | _ => false)
  | .xiss v t _ _ _, .Call (.Name y _) [x, .Name z _] [] _ => (match x with
    | .Name u _ => decide (y = ("isinstance" : Str)) && globB sc y && nameB N sc v u && decide (z = Str.ofString t) && globB sc z
    | _ => false)
  | .rng es, .Call (.Name y _) args [] _ => decide (y = ("range" : Str)) && globB sc y && chkA N sc c es args && (decide (args.length = 1) || decide (args.length = 2))
  | _, _ => false
def chkA (N : List Str) (sc : Scope) (c : Bool) : E → List Expr → Bool
  | .nil, [] => true
  | .cons e es, x :: xs => chk N sc c e x && !starB x && chkA N sc c es xs
  | _, _ => false
def chkK (N : List Str) (sc : Scope) (c : Bool) : List Str → E → List Keyword → Bool
  | [], .nil, [] => true
  | k :: ks, .cons e es, ⟨some nm, x, _⟩ :: r => decide (k = nm) && chk N sc c e x && chkK N sc c ks es r
  | _, _, _ => false
end

def spF (K : PySem.W.Frag) (mg : Str → Option Value) (f : Fn) : Sp := fun vs H Q E => ∃ ρ ds h, RDs K ρ H ds vs ∧ Rep K mg ρ h H ∧ Post K mg (RV K) ρ H E (f ds h) Q
/-- where the arguments come from -/
inductive Pk (K : PySem.W.Frag) (us ws : List Value) : List Ar → List Value → Prop where
  | nil : Pk K us ws [] []
  | p {i : Nat} {u : Value} {r : List Ar} {as : List Value} (h : us[i]? = some u) (t : Pk K us ws r as) : Pk K us ws (.p i :: r) (u :: as)
  | k {j : Nat} {u : Value} {r : List Ar} {as : List Value} (h : ws[j]? = some u) (t : Pk K us ws r as) : Pk K us ws (.k j :: r) (u :: as)
  | d {x : D} {v : V} {u : Value} {r : List Ar} {as : List Value} (h : RelV v u) (hd : ∀ (ρ : List Addr) (H : Hp), RD K ρ H x v) (t : Pk K us ws r as) : Pk K us ws (.d x :: r) (u :: as)
def PkO (K : PySem.W.Frag) (us ws : List Value) (b : Option (List Ar)) (as : List Value) : Prop := match b with
  | none => as = us
  | some b => Pk K us ws b as
def Bnd (K : PySem.W.Frag) (fd : FuncData) (ps : List Str) (n : Nat) (ks : List Str) (b : Option (List Ar)) : Prop :=
  ∀ (s : Shared) (us ws : List Value), K.In s.heap → us.length = n → ws.length = ks.length → ∃ as, BindsTo s fd ⟨us, ks.zip ws⟩ (ps.zip as) ∧ PkO K us ws b as
section
variable (P : Program) (w : World) (K : PySem.W.Frag) (mg : Str → Option Value) (base : Heap) (k : Nat)
def Cal (x : Str) (n : Nat) (ks : List Str) (b : Option (List Ar)) (f : Fn) : Prop :=
  ∃ (a : Addr) (fd : FuncData) (ps : List Str), mg x = some (.ref a) ∧ PySem.W.keepIn K (.ref a) = true ∧ Bnd K fd ps n ks b ∧ FnOk P w K mg base (L2.CX P w) k a fd ps (spF K mg f)
/-- a method -/
def Mth (cl : Nat) (m : Str) (n : Nat) (ks : List Str) (b : Option (List Ar)) (f : Fn) : Prop :=
  ∃ (C a : Addr) (fd : FuncData) (ps : List Str), mg (clsN cl) = some (.ref C) ∧ Cls K C ∧ Meth K C m a ∧ m ∉ fldN cl ∧ Bnd K fd ps (n + 1) ks b ∧ FnOk P w K mg base (L2.CX P w) k a fd ps (spF K mg f)
/-- a class is called -/
def Mak (cl : Nat) (n : Nat) (ks : List Str) (b : Option (List Ar)) (f : Fn) : Prop :=
  ∃ (C a : Addr) (fd : FuncData) (ps : List Str) (j : Nat), k = j + 1 ∧ mg (clsN cl) = some (.ref C) ∧ Mk K C a ∧ Bnd K fd ps (n + 1) ks b ∧ FnOk P w K mg base (L2.CX P w) j a fd ps (spF K mg f)
/-- len(..) of an instance -/
def Lno (cl : Nat) (f : Fn) : Prop :=
  ∃ (C a : Addr) (fd : FuncData) (ps : List Str) (j : Nat), k = j + 1 ∧ mg (clsN cl) = some (.ref C) ∧ Meth K C "__len__" a ∧ Bnd K fd ps 1 [] none ∧ FnOk P w K mg base (L2.CX P w) j a fd ps (spF K mg f)
/-- a field is there -/
def Fld (cl i : Nat) (f : Str) : Prop := (fldN cl)[i]? = some f ∧ ∃ C, mg (clsN cl) = some (.ref C) ∧ Cls K C ∧ NoAttr K C f
end
def Glo (K : PySem.W.Frag) (mg : Str → Option Value) (x : Str) (d : D) : Prop := ∃ (u : Value) (v : V), mg x = some u ∧ RelV v u ∧ ∀ (ρ : List Addr) (H : Hp), RD K ρ H d v
section
variable (P : Program) (w : World) (K : PySem.W.Frag) (mg : Str → Option Value) (base : Heap) (k : Nat)
def E.need : E → Prop
  | .var _ => True
  | .cst _ => True
  | .glob x d => Glo K mg x d
  | .bin _ a b => a.need ∧ b.need
  | .neg a => a.need
  | .not a => a.need
  | .and a b => a.need ∧ b.need
  | .or a b => a.need ∧ b.need
  | .cmp _ a b => a.need ∧ b.need
  | .chain _ _ a b c => a.need ∧ b.need ∧ c.need
  | .ife c a b => c.need ∧ a.need ∧ b.need
  | .tup es => es.need
  | .lst es => es.need
  | .sub a i => a.need ∧ i.need
  | .slc a lo hi => a.need ∧ lo.need ∧ hi.need
  | .call f x b es ks kes => Cal P w K mg base k x es.alen ks b f ∧ es.need ∧ kes.need
  | .meth tb m b o es ks kes => (∀ q ∈ tb, Mth P w K mg base k q.1 m es.alen ks b q.2) ∧ o.need ∧ es.need ∧ kes.need
  | .make cl f b es ks kes => Mak P w K mg base k cl es.alen ks b f ∧ es.need ∧ kes.need
  | .fld tb f a => (∀ q ∈ tb, Fld K mg q.1 q.2 f) ∧ a.need
  | .enum a => mg "enumerate" = none ∧ a.need
  | .zip a b => mg "zip" = none ∧ a.need ∧ b.need
  | .rev a => mg "reversed" = none ∧ a.need
  | .lrng a b => mg "list" = none ∧ mg "range" = none ∧ a.need ∧ b.need
  | .rsl a => a.need
  | .leno tb o => mg "len" = none ∧ (∀ q ∈ tb, Lno P w K mg base k q.1 q.2) ∧ o.need
  | .xf _ _ _ _ _ => True
  | .xis _ _ _ => True
  | .xfs _ _ _ _ _ _ => False
  | .xiss _ _ _ _ _ => False
  | .bi b es => mg b.name = none ∧ es.need
  | .isi a t => mg "isinstance" = none ∧ mg (Str.ofString t.name) = none ∧ a.need
  | .bm _ o es => o.need ∧ es.need
  | .comp _ _ it test elt => it.need ∧ test.need ∧ elt.need
  | .rng es => mg "range" = none ∧ es.need
  | .nil => True
  | .cons e es => e.need ∧ es.need
end
/-- where a body runs -/
structure Gx (X : Cx) (N : List Str) (sc : Scope) (k : Nat) (c : Bool) : Prop where
  hN : X.N = N
  nd : N.Nodup
  hsc : X.env.scope = sc
  un : X.A.units + 65 < cLine
  run : c = true → X.calm = true ∧ Room k X.A

theorem star_cons {e : Expr} {es : List Expr} {env : Env} (h : starB e = false) : starEach (e :: es) env = (false, eval e env) :: starEach es env := by
  cases e <;> first | rfl | cases h
theorem star_any {env : Env} {pos : Pos} : ∀ {es : List Expr}, (∀ e ∈ es, starB e = false) → (backTo pos (starEach es env)).any (·.1) = false
  | [], _ => rfl
  | e :: es, h => by
    rw [star_cons (h e List.mem_cons_self)]
    show (false || (backTo pos (starEach es env)).any (·.1)) = false
    rw [star_any fun x hx => h x (List.mem_cons_of_mem _ hx)]
    rfl
theorem chkA_star {N : List Str} {sc : Scope} {c : Bool} : ∀ {es : E} {xs : List Expr}, chkA N sc c es xs = true → ∀ e ∈ xs, starB e = false
  | .nil, [], _ => fun _ h => nomatch h
  | .cons e es, x :: xs, h => fun y hy => by
    unfold chkA at h
    simp only [Bool.and_eq_true, Bool.not_eq_true'] at h
    rcases List.mem_cons.mp hy with rfl | hy
    · exact h.1.2
    · exact chkA_star h.2 y hy
theorem plain_ix {b : Expr} (h : sliceB b = false) : PlainIx b := by
  intro o i
  cases b <;> first | rfl | cases h
theorem base_plain {o : Expr} {f : Str} {env : Env} (h : callB o = false) : attributeBase o f env (eval o env) = eval o env := by
  unfold attributeBase
  split
  · cases h
  · rfl
theorem sw_plain {e : Expr} {t : Option Expr} {l : Nat} {env : Env} (h : compB e = false) : swapsWith e t l env = pure false := by
  cases e <;> first | rfl | cases h
theorem fold_plain {e : Expr} {env : Env} (h : setB e = false) : ∀ x, foldedSetIterable e env x = pure x := by
  intro x
  cases e <;> first | rfl | cases h
theorem mark_plain {op : CmpOp} {e : Expr} (h : setB e = false) : behindInMarks op e = false := by
  cases e <;> first | rfl | cases h
theorem vis_of {sc : Scope} {x : Str} (h : visB sc x = true) : Vis sc x := by
  unfold visB at h
  split at h
  · exact .inl (by assumption)
  · exact .inr (.inl (by assumption))
  · exact .inr (.inr (by assumption))
  · cases h
section
variable {X : Cx} {N : List Str} {sc : Scope} {k : Nat} {c : Bool}
theorem Gx.vis (G : Gx X N sc k c) {i : Nat} {x : Str} (h : nameB N sc i x = true) : X.N[i]? = some x ∧ Vis X.env.scope x ∧ (x == ("__debug__" : Str)) = false ∧ (x == ("__classdict__" : Str)) = false := by
  unfold nameB at h
  simp only [Bool.and_eq_true, Bool.not_eq_true', decide_eq_true_eq] at h
  obtain ⟨⟨⟨h1, h2⟩, h3⟩, h4⟩ := h
  exact ⟨by rw [G.hN]; exact h1, by rw [G.hsc]; exact vis_of h2, h3, h4⟩
theorem Gx.glob (G : Gx X N sc k c) {x : Str} (h : globB sc x = true) : Gl X x ∧ (x == ("__debug__" : Str)) = false ∧ x ≠ "__name__" := by
  unfold globB at h
  simp only [Bool.and_eq_true, Bool.not_eq_true', decide_eq_true_eq] at h
  obtain ⟨⟨h1, h2⟩, h3⟩ := h
  refine ⟨?_, h2, by simpa using h3⟩
  show X.env.scope.names.lookup x = _
  rw [G.hsc]
  split at h1
  · assumption
  · cases h1
theorem Gx.loc (G : Gx X N sc k c) {fb : Str → Bool} (hf : ∀ x, fb x = true → X.fn x = true) {i : Nat} {x : Str} (h : locB N sc fb i x = true) : X.N[i]? = some x ∧ Loc X.env.scope x ∧ (X.fn x = true ∨ X.env.scope.names.lookup x = some .local) := by
  unfold locB at h
  simp only [Bool.and_eq_true, decide_eq_true_eq] at h
  obtain ⟨h1, h2⟩ := h
  rw [G.hN, G.hsc]
  split at h2
  · rename_i e
    exact ⟨h1, .inl e, .inr e⟩
  · rename_i e
    exact ⟨h1, .inr e, .inl (hf x h2)⟩
  · cases h2
end

def rG (K : PySem.W.Frag) (mg : Str → Option Value) (g : Tg) : TG := fun v σ H Q => ∃ d ρ σ3 h, RD K ρ H d v ∧ RS K ρ H σ3 σ ∧ Rep K mg ρ h H ∧ ∃ σ3', asgT g d σ3 = some σ3' ∧
  ∀ σ', RS K ρ H σ3' σ' → (∀ j, j ∉ g.slots → σ'[j]? = σ[j]?) → σ'.length = σ.length → Q σ' H
def rGs (K : PySem.W.Frag) (mg : Str → Option Value) (g : Tg) : TGs := fun vs σ H Q => ∃ ds ρ σ3 h, RDs K ρ H ds vs ∧ RS K ρ H σ3 σ ∧ Rep K mg ρ h H ∧ ∃ σ3', asgTs g ds σ3 = some σ3' ∧
  ∀ σ', RS K ρ H σ3' σ' → (∀ j, j ∉ g.slots → σ'[j]? = σ[j]?) → σ'.length = σ.length → Q σ' H
theorem PGimp {X : Cx} {e : Expr} {t t' : TG} (h : PG X e t) (i : ∀ v σ H Q, t' v σ H Q → t v σ H Q) : PG X e t' := ⟨fun pins s σ H v u Q I r q => h.run pins s σ H v u Q I r (i v σ H Q q)⟩
theorem PGsimp {X : Cx} {e : List Expr} {t t' : TGs} (h : PGs X e t) (i : ∀ v σ H Q, t' v σ H Q → t v σ H Q) : PGs X e t' := ⟨fun pins s σ H v u Q I r q => h.run pins s σ H v u Q I r (i v σ H Q q)⟩
theorem asg_each {e : Expr} {es : List Expr} {env : Env} (h : starB e = false) : assignEach (e :: es) env = (false, assign e env) :: assignEach es env := by
  cases e <;> first | rfl | cases h
theorem asg_star {env : Env} : ∀ {es : List Expr}, (∀ e ∈ es, starB e = false) → (assignEach es env).findIdx? (·.1) = none ∧ (assignEach es env).length = es.length
  | [], _ => ⟨rfl, rfl⟩
  | e :: es, h => by
    obtain ⟨h1, h2⟩ := asg_star (env := env) (es := es) fun x hx => h x (List.mem_cons_of_mem _ hx)
    rw [asg_each (h e List.mem_cons_self)]
    refine ⟨?_, by simp [h2]⟩
    rw [List.findIdx?_cons]
    simp [h1]
theorem chkGs_star {N : List Str} {sc : Scope} {fb : Str → Bool} : ∀ {g : Tg} {xs : List Expr}, chkGs N sc fb g xs = true → ∀ e ∈ xs, starB e = false
  | .nil, [], _ => fun _ h => nomatch h
  | .cons a b, x :: xs, h => fun y hy => by
    unfold chkGs at h
    simp only [Bool.and_eq_true, Bool.not_eq_true'] at h
    rcases List.mem_cons.mp hy with rfl | hy
    · exact h.1.1
    · exact chkGs_star h.2 y hy
theorem asgTs_len {K : PySem.W.Frag} {ρ : List Addr} {H : Hp} {N : List Str} {sc : Scope} {fb : Str → Bool} : ∀ {g : Tg} {xs : List Expr} {ds : List D} {σ σ' : Sl}, chkGs N sc fb g xs = true → asgTs g ds σ = some σ' → ds.length = xs.length
  | .nil, [], [], _, _, _, _ => rfl
  | .cons a b, x :: xs, d :: ds, σ, σ', h, e => by
    unfold chkGs at h
    simp only [Bool.and_eq_true] at h
    unfold asgTs at e
    cases q : asgT a d σ with
    | none => rw [q] at e; cases e
    | some σ1 =>
      rw [q] at e
      simp [asgTs_len (K := K) (ρ := ρ) (H := H) h.2 e]
theorem pg_all {X : Cx} {N : List Str} {sc : Scope} {k : Nat} {c : Bool} (G : Gx X N sc k c) {fb : Str → Bool} (hf : ∀ x, fb x = true → X.fn x = true) (hc : X.calm = true) (g : Tg) :
    (∀ e, chkG N sc fb g e = true → PG X e (rG X.K X.mg g)) ∧ (∀ es, chkGs N sc fb g es = true → PGs X es (rGs X.K X.mg g)) := by
  induction g with
  | n i =>
    refine ⟨fun e h => ?_, fun es h => ?_⟩
    · cases e <;> first | (unfold chkG at h; cases h; done) | skip
      rename_i x pos
      obtain ⟨h1, h2, h3⟩ := G.loc hf (show locB N sc fb i x = true from h)
      refine PGimp (pg_name (i := i) (by rw [G.hN]; exact G.nd) h1 h2 h3) fun v σ H Q q => ?_
      obtain ⟨d, ρ, σ3, hh, rd, rs, rp, σ3', e, q⟩ := q
      cases e
      exact q _ (rs.set rd i) (fun j hj => List.getElem?_set_ne (fun z => hj (by simp [Tg.slots, z]))) (by simp)
    · cases es <;> (unfold chkGs at h; cases h)
  | tup ts ih =>
    refine ⟨fun e h => ?_, fun es h => ?_⟩
    · cases e <;> first | (unfold chkG at h; cases h; done) | skip
      rename_i es kk pos
      have h' : chkGs N sc fb ts es = true := h
      obtain ⟨s1, s2⟩ := asg_star (env := X.env) (chkGs_star h')
      refine PGimp (pg_tup (n := es.length) hc (ih.2 es h') s2 s1) fun v σ H Q q => ?_
      obtain ⟨d, ρ, σ3, hh, rd, rs, rp, σ3', e, q⟩ := q
      cases rd with
      | @tup ds vs a hq rds =>
        have e' : asgTs ts ds σ3 = some σ3' := e
        exact ⟨_, _, rfl, hq, by rw [← rds.length]; exact asgTs_len (K := X.K) (ρ := ρ) (H := H) h' e', ds, ρ, σ3, hh, rds, rs, rp, σ3', e', q⟩
      | _ => exact absurd e (by simp [asgT])
    · cases es <;> (unfold chkGs at h; cases h)
  | nil =>
    refine ⟨fun e h => ?_, fun es h => ?_⟩
    · cases e <;> (unfold chkG at h; cases h)
    · cases es <;> first | (unfold chkGs at h; cases h; done) | skip
      refine PGsimp pgs_nil fun v σ H Q q => ?_
      obtain ⟨ds, ρ, σ3, hh, rd, rs, rp, σ3', e, q⟩ := q
      unfold asgTs at e
      split at e
      · cases e
        cases rd
        exact ⟨rfl, q σ rs (fun _ _ => rfl) rfl⟩
      · rename_i he; cases he
      · cases e
  | cons a b iha ihb =>
    refine ⟨fun e h => ?_, fun es h => ?_⟩
    · cases e <;> (unfold chkG at h; cases h)
    · cases es <;> first | (unfold chkGs at h; cases h; done) | skip
      rename_i e es
      unfold chkGs at h
      simp only [Bool.and_eq_true, Bool.not_eq_true'] at h
      refine PGsimp (pgs_cons (iha.1 e h.1.2) (ihb.2 es h.2) (by rw [asg_each h.1.1]; rfl)) fun v σ H Q q => ?_
      obtain ⟨ds, ρ, σ3, hh, rd, rs, rp, σ3', e, q⟩ := q
      cases rd with
      | nil => exact absurd e (by simp [asgTs])
      | @cons d v ds vs r1 r2 =>
          replace e : (asgT a d σ3).bind (fun σ' => asgTs b ds σ') = some σ3' := e
          cases q1 : asgT a d σ3 with
          | none => rw [q1] at e; cases e
          | some σ4 =>
            rw [q1] at e
            refine ⟨_, _, rfl, d, ρ, σ3, hh, r1, rs, rp, σ4, q1, fun σ' rs' hk hl => ?_⟩
            refine ⟨ds, ρ, σ4, hh, r2, rs', rp, σ3', e, fun σ2 rs2 hk2 hl2 => q σ2 rs2 (fun j hj => ?_) (hl2.trans hl)⟩
            have hj' : j ∉ a.slots ∧ j ∉ b.slots := by
              simp only [Tg.slots, List.mem_append, not_or] at hj
              exact hj
            rw [hk2 j hj'.2, hk j hj'.1]
end L3

set_option maxHeartbeats 1000000
namespace L3
open PySem L2

/-- what a loop walks: these items, while these lists stay -/
def Wk (K : PySem.W.Frag) (mg : Str → Option Value) (ρ : List Addr) (H : Hp) (s : List D × Gd) (J : It) : Prop :=
  ∀ (i : Nat) (ρ2 : List Addr) (H2 : Hp) (h2 : Hh), Step ρ H ρ2 H2 → Rep K mg ρ2 h2 H2 → gdOk s.2 h2 →
    (∀ d, s.1[i]? = some d → J.go i H2 ∧ ∀ x H3, J.yld i H2 x H3 → Step ρ2 H2 ρ2 H3 ∧ Rep K mg ρ2 h2 H3 ∧ RD K ρ2 H3 d x) ∧ (s.1.length ≤ i → J.stop i H2)
def rIt (K : PySem.W.Frag) (mg : Str → Option Value) (m : Sl → Hh → Res (List D × Gd)) (W : WX) : TI := fun σ H R => ∃ ρ σ3 h, RS K ρ H σ3 σ ∧ Rep K mg ρ h H ∧ Post K mg (Wk K mg) ρ H (fun c d H' => W c d σ H') (m σ3 h) R
theorem PIimp {X : Cx} {tg e : Expr} {t t' : TI} (h : PI X tg e t) (i : ∀ σ H R, t' σ H R → t σ H R) : PI X tg e t' := ⟨fun pins s σ H R I q => h.run pins s σ H R I (i σ H R q)⟩
theorem POimp {X : Cx} {e : Option Expr} {t t' : TO} (h : PO X e t) (i : ∀ σ H Q, t' σ H Q → t σ H Q) : PO X e t' := ⟨fun pins s σ H Q I q => h.run pins s σ H Q I (i σ H Q q)⟩

section
variable {X : Cx} {tg : Expr}
/-- over a list or a tuple -/
theorem pi_either {l : Expr} {tl : TE} (hl : PE X l tl) : PI X tg l (fun σ H R => tl σ H fun x H1 => ∃ a, x = .ref a ∧ ((∃ xs, SqL X.K H1 a xs) ∧ R (Itl X.K a) H1 ∨ (∃ xs, SqT X.K H1 a xs) ∧ R (Itt X.K a) H1)) := by
  refine ⟨fun pins s σ H R I h => thn (hl.run pins s σ H _ I h) ?_⟩
  rintro v s1 ⟨x, H1, I1, r1, a, rfl, q⟩
  obtain rfl : v = Value.ref a := r1
  have fr : ∀ b ∈ [s1.heap.objs.size], FpOk X pins H1 b := fun b hb => by
    obtain rfl : b = s1.heap.objs.size := by simpa using hb
    exact I1.fpOk (Nat.le_refl _) I1.fresh
  rcases q with ⟨⟨xs, hq⟩, q⟩ | ⟨⟨xs, hq⟩, q⟩
  · obtain ⟨its, rv, p, hz⟩ := I1.list hq
    exact wpAny_pyIter_list p.isList ⟨_, [s1.heap.objs.size], _, _, H1, rfl, I1.kept (t' := s1.toks) (fun b o e => Heap.get?_push_of_some _ e), turn_list a _, ⟨_, Heap.get?_push_size _ rfl, rfl, rfl⟩, fr, q⟩
  · obtain ⟨its, rv, p, hz⟩ := I1.tuple hq
    exact wpAny_pyIter_tuple (show s1.heap.IsTuple a its.toArray from p) ⟨_, [s1.heap.objs.size], _, _, H1, rfl, I1.kept (t' := s1.toks) (fun b o e => Heap.get?_push_of_some _ e), turn_tuple a _, ⟨_, Heap.get?_push_size _ rfl, rfl, rfl⟩, fr, q⟩
end

section
variable {K : PySem.W.Frag} {mg : Str → Option Value} {ρ : List Addr} {H : Hp} {h : Hh}
theorem wk_tup {ds : List D} {vs : List V} {a : Addr} (hq : SqT K H a vs) (r : RDs K ρ H ds vs) : Wk K mg ρ H (ds, []) (Itt K a) := fun i ρ2 H2 h2 s rp _ => by
  have hq2 := SqT_keep hq s.keep
  have r2 := r.mono s
  refine ⟨fun d hd => ?_, fun hl => ⟨vs, hq2, by rw [← r.length]; exact hl⟩⟩
  obtain ⟨v, ev, rv⟩ := r2.get hd
  refine ⟨⟨vs, v, hq2, ev⟩, fun x H3 y => ?_⟩
  obtain ⟨rfl, y⟩ := y
  have e := y vs hq2
  rw [ev] at e
  cases e
  exact ⟨Step.refl _ _, rp, rv⟩
theorem wk_rol {ds : List D} {vs : List V} {a : Addr} (hq : SqF K H a vs) (r : RDs K ρ H ds vs) : Wk K mg ρ H (ds, []) (Itl K a) := fun i ρ2 H2 h2 s rp _ => by
  have hq2 := hq.keep s.keep
  have r2 := r.mono s
  refine ⟨fun d hd => ?_, fun hl => ⟨vs, hq2.sq, by rw [← r.length]; exact hl⟩⟩
  obtain ⟨v, ev, rv⟩ := r2.get hd
  refine ⟨⟨vs, v, hq2.sq, ev⟩, fun x H3 y => ?_⟩
  obtain ⟨rfl, y⟩ := y
  have e := y vs hq2.sq
  rw [ev] at e
  cases e
  exact ⟨Step.refl _ _, rp, rv⟩
theorem wk_lst {n : Nat} {xs : List D} {a : Addr} (hn : ρ[n]? = some a) : Wk K mg ρ H (xs, [(n, xs)]) (Itl K a) := fun i ρ2 H2 h2 s rp g => by
  obtain ⟨ys, ey, rfl⟩ := g _ List.mem_cons_self
  have hn2 := pre_get s.pre hn
  obtain ⟨vs, e1, r⟩ := rp.obj _ _ _ hn2 ey
  have hq : SqL K H2 a vs := SqL.of e1
  refine ⟨fun d hd => ?_, fun hl => ⟨vs, hq, by rw [← r.length]; exact hl⟩⟩
  obtain ⟨v, ev, rv⟩ := r.get hd
  refine ⟨⟨vs, v, hq, ev⟩, fun x H3 y => ?_⟩
  obtain ⟨rfl, y⟩ := y
  have e := y vs hq
  rw [ev] at e
  cases e
  exact ⟨Step.refl _ _, rp, rv⟩
theorem wk_rng {lo : Int} {n : Nat} : Wk K mg ρ H ((List.range n).map (fun (j : Nat) => D.int (lo + j)), []) (Itr lo n) := fun i ρ2 H2 h2 s rp g => by
  refine ⟨fun d hd => ?_, fun hl => ?_⟩
  · rw [List.getElem?_map] at hd
    by_cases c : i < n
    · rw [List.getElem?_range c] at hd
      cases hd
      refine ⟨c, fun x H3 y => ?_⟩
      obtain ⟨rfl, rfl⟩ := y
      exact ⟨Step.refl _ _, rp, .int _⟩
    · rw [List.getElem?_eq_none (by simpa using c)] at hd
      cases hd
  · show n ≤ i
    simpa using hl
/-- the walk of a value -/
theorem seq_walk {x : D} {v : V} {s : List D × Gd} {R : It → Hp → Prop} {E : XK} (rp : Rep K mg ρ h H) (r : RD K ρ H x v) (P : Post K mg (Wk K mg) ρ H E (seqD x h) R) :
    ∃ a, v = .ref a ∧ ((∃ xs, SqL K H a xs) ∧ R (Itl K a) H ∨ (∃ xs, SqT K H a xs) ∧ R (Itt K a) H) := by
  unfold seqD at P
  split at P
  · cases r with
    | tup hq rs => exact ⟨_, rfl, .inr ⟨⟨_, hq⟩, P.here rp (wk_tup hq rs)⟩⟩
  · cases r with
    | rol hq rs => exact ⟨_, rfl, .inl ⟨⟨_, hq.sq⟩, P.here rp (wk_rol hq rs)⟩⟩
  · split at P
    · rename_i hx
      obtain ⟨a, vs, rfl, hn, g, rs⟩ := lst_at rp r hx
      exact ⟨_, rfl, .inl ⟨⟨_, SqL.of g⟩, P.here rp (wk_lst hn)⟩⟩
    · exact P.elim
  · exact P.elim
theorem tru_of {x : D} {v : V} {k : Bool} (rp : Rep K mg ρ h H) (r : RD K ρ H x v) (e : truD x h = some k) : TruV K v H k := by
  unfold truD at e
  split at e
  · cases e; cases r; rfl
  · cases e; cases r; rfl
  · cases e; cases r; rfl
  · split at e
    · cases e; cases r; exact ⟨by assumption, rfl⟩
    · cases e
  · cases e
    cases r with
    | tup hq rs => exact .inr (.inl ⟨_, hq, by cases rs <;> rfl⟩)
  · cases e
    cases r with
    | rol hq rs => exact .inl ⟨_, hq.sq, by cases rs <;> rfl⟩
  · cases e
  · split at e
    · rename_i hx
      cases e
      obtain ⟨a, vs, rfl, hn, g, rs⟩ := lst_at rp r hx
      exact .inl ⟨_, SqL.of g, by cases rs <;> rfl⟩
    · rename_i kvs hx
      cases e
      cases r with
      | ref hn =>
        obtain ⟨vks, e1, rk⟩ := rp.obj _ _ _ hn hx
        exact .inr (.inr ⟨vks, e1, by cases rk <;> rfl⟩)
    · cases e
end

structure Snd (X : Cx) (N : List Str) (sc : Scope) (c : Bool) (W : WX) (e : E) : Prop where
  pe : ∀ ast, chk N sc c e ast = true → PE X ast (rE X.K X.mg (den e).v W)
  pt : ∀ ast, chk N sc c e ast = true → PT X ast (rT X.K X.mg (den e).t W)
  pw : ∀ op xs p, chk N sc c e (.BoolOp op xs p) = true → PW X (.BoolOp op xs p) (rT X.K X.mg (den e).t W)
  pa : ∀ xs, chkA N sc c e xs = true → PA X xs (rA X.K X.mg (den e).a W)
  po : ∀ ast, chk N sc c e ast = true → PO X (some ast) (rO X.K X.mg (den e).o W)
  pi : ∀ tg ast, (e.tupIt = true → tupB tg = true) → chk N sc c e ast = true → PI X tg ast (rIt X.K X.mg (den e).i W)
  pk : ∀ ks kws, chkK N sc c ks e kws = true → PK X kws (rA X.K X.mg (den e).a W)
def plainT : Expr → Bool
  | .BoolOp _ _ _ => false
  | .UnaryOp .Not _ _ => false
  | .IfExp _ _ _ _ => false
  | .Compare _ _ _ _ => false
  | _ => true
theorem test_plain {e : Expr} {env : Env} (h : plainT e = true) : ∀ whole, isTrue e env whole = (do let v ← whole; standAt e.pos; holding [v] (truthy v)) := by
  intro whole
  cases e <;> first | rfl | (rename_i op _ _; cases op <;> first | rfl | cases h) | cases h
section
variable {X : Cx} {N : List Str} {sc : Scope} {c : Bool} {W : WX} {e : E}
theorem po_of {v : Sl → Hh → Res D} {ast : Expr} (pe : PE X ast (rE X.K X.mg v W)) : PO X (some ast) (rO X.K X.mg (fun σ h => (v σ h).bind intR) W) := by
  refine POimp (po_some pe) fun σ H Q q => ?_
  obtain ⟨ρ, σ3, h, rs, rp, P⟩ := q
  refine ⟨ρ, σ3, h, rs, rp, (Post.bind (RA := RV X.K) P).imp fun x H1 ⟨ρ1, d, h1, s1, rp1, rd, _, P1⟩ => ?_⟩
  unfold intR at P1
  split at P1
  · cases rd
    exact ⟨_, rfl, P1.here rp1 rfl⟩
  · exact P1.elim
theorem pi_of {tg : Expr} {v : Sl → Hh → Res D} {ast : Expr} (pe : PE X ast (rE X.K X.mg v W)) : PI X tg ast (rIt X.K X.mg (fun σ h => (v σ h).bind seqD) W) := by
  refine PIimp (pi_either pe) fun σ H R q => ?_
  obtain ⟨ρ, σ3, h, rs, rp, P⟩ := q
  refine ⟨ρ, σ3, h, rs, rp, (Post.bind (RA := RV X.K) P).imp fun x H1 ⟨ρ1, d, h1, s1, rp1, rd, _, P1⟩ => ?_⟩
  exact seq_walk (s := ([], [])) rp1 rd P1
theorem pt_of {v : Sl → Hh → Res D} {ast : Expr} (hp : plainT ast = true) (pe : PE X ast (rE X.K X.mg v W)) : PT X ast (rT X.K X.mg (fun σ h => (v σ h).bind truR) W) := by
  refine PTimp (pt_truth pe (test_plain hp)) fun σ H Q q => ?_
  obtain ⟨ρ, σ3, h, rs, rp, P⟩ := q
  refine ⟨ρ, σ3, h, rs, rp, (Post.bind (RA := RV X.K) P).imp fun x H1 ⟨ρ1, d, h1, s1, rp1, rd, _, P1⟩ => ?_⟩
  unfold truR at P1
  split at P1
  · rename_i k e
    exact ⟨k, tru_of rp1 rd e, P1.here rp1 rfl⟩
  · exact P1.elim
/-- an expression like most -/
theorem Snd.plain {v : Sl → Hh → Res D} (hd : den e = .of v) (hA : ∀ xs, chkA N sc c e xs = false) (hp : ∀ ast, chk N sc c e ast = true → plainT ast = true)
    (pe : ∀ ast, chk N sc c e ast = true → PE X ast (rE X.K X.mg v W)) (hK : ∀ ks kws, chkK N sc c ks e kws = false := by intro ks kws; cases ks <;> cases kws <;> rfl) : Snd X N sc c W e where
  pe := fun ast h => by rw [hd]; exact pe ast h
  pt := fun ast h => by rw [hd]; exact pt_of (hp ast h) (pe ast h)
  pw := fun op xs p h => by have := hp _ h; cases this
  pa := fun xs h => by rw [hA] at h; cases h
  po := fun ast h => by rw [hd]; exact po_of (pe ast h)
  pi := fun tg ast _ h => by rw [hd]; exact pi_of (pe ast h)
  pk := fun ks kws h => by rw [hK] at h; cases h
end
end L3

set_option maxHeartbeats 4000000
namespace L3
open PySem L2

section
variable {X : Cx} {N : List Str} {sc : Scope} {c : Bool} {W : WX} {k : Nat}
theorem bind_inv {α β : Type} {r : Res α} {f : α → Hh → Res β} {b : β} {h : Hh} (e : r.bind f = .ok b h) : ∃ a h1, r = .ok a h1 ∧ f a h1 = .ok b h := by
  cases r with
  | ok a h1 => exact ⟨a, h1, rfl, e⟩
  | exc _ _ _ => cases e
  | bad => cases e
/-- two parts in a row -/
theorem two {ma mb : Sl → Hh → Res D} {g : D → D → Hh → Res D} {σ : L2.St} {H : Hp} {Q : VK}
    (q : rE X.K X.mg (fun σ h => (ma σ h).bind fun x h1 => (mb σ h1).bind fun y h2 => g x y h2) W σ H Q) : tOp (r2 X.K X.mg g) (rE X.K X.mg ma W) (rE X.K X.mg mb W) σ H Q := by
  obtain ⟨ρ, σ3, h, rs, rp, P⟩ := q
  refine ⟨ρ, σ3, h, rs, rp, (Post.bind (RA := RV X.K) P).imp fun x H1 ⟨ρ1, a, h1, s1, rp1, ra, _, P1⟩ => ?_⟩
  refine ⟨ρ1, σ3, h1, rs.mono s1, rp1, (Post.bind (RA := RV X.K) P1).imp fun y H2 ⟨ρ2, b, h2, s2, rp2, rb, _, P2⟩ => ?_⟩
  exact ⟨ρ2, a, b, h2, _, ra.mono s2, rb, rp2, P2⟩
theorem snd_var (G : Gx X N sc k c) (i : Nat) : Snd X N sc c W (.var i) := by
  refine .plain rfl (fun xs => by cases xs <;> rfl) (fun ast h => ?_) (fun ast h => ?_)
  · cases ast <;> first | rfl | (simp only [chk] at h; cases h; done)
  · cases ast <;> first | (simp only [chk] at h; cases h; done) | skip
    rename_i x pos
    obtain ⟨h1, h2, h3, h4⟩ := G.vis (show nameB N sc i x = true from h)
    refine PEimp (pe_var h1 h2 h3 h4) fun σ H Q q => ?_
    obtain ⟨ρ, σ3, hh, rs, rp, P⟩ := q
    dsimp only [varR] at P
    split at P
    · rename_i d e
      obtain ⟨v, ev, rv⟩ := rs.get i d e
      exact ⟨v, ev, P.here rp rv⟩
    · exact P.elim
theorem snd_cst (d : D) : Snd X N sc c W (.cst d) := by
  refine .plain rfl (fun xs => by cases xs <;> rfl) (fun ast h => ?_) (fun ast h => ?_)
  · cases ast <;> first | rfl | (simp only [chk] at h; cases h; done)
  · cases ast <;> first | (simp only [chk] at h; cases h; done) | skip
    rename_i kk n pos
    have h' : cstB d kk = true := h
    unfold cstB at h'
    split at h'
    · exact PEimp pe_non fun σ H Q ⟨ρ, σ3, hh, rs, rp, P⟩ => P.here rp .non
    · have e := eq_of_beq h'
      subst e
      exact PEimp pe_bl fun σ H Q ⟨ρ, σ3, hh, rs, rp, P⟩ => P.here rp (.bl _)
    · have e := of_decide_eq_true h'
      subst e
      exact PEimp pe_int fun σ H Q ⟨ρ, σ3, hh, rs, rp, P⟩ => P.here rp (.int _)
    · have e := of_decide_eq_true h'
      subst e
      exact PEimp pe_str fun σ H Q ⟨ρ, σ3, hh, rs, rp, P⟩ => P.here rp (.str _)
    · cases h'
theorem snd_glob (G : Gx X N sc k c) {x : Str} {d : D} (g : Glo X.K X.mg x d) : Snd X N sc c W (.glob x d) := by
  refine .plain rfl (fun xs => by cases xs <;> rfl) (fun ast h => ?_) (fun ast h => ?_)
  · cases ast <;> first | rfl | (simp only [chk] at h; cases h; done)
  · cases ast <;> first | (simp only [chk] at h; cases h; done) | skip
    rename_i y pos
    have h' : (decide (x = y) && globB sc y) = true := h
    rw [Bool.and_eq_true] at h'
    have e := of_decide_eq_true h'.1
    subst e
    obtain ⟨u, v, hm, r, rd⟩ := g
    obtain ⟨g1, g2, g3⟩ := G.glob h'.2
    exact PEimp (pe_glob g1 hm r g2) fun σ H Q ⟨ρ, σ3, hh, rs, rp, P⟩ => P.here rp (rd _ _)
theorem snd_bin {op : Operator} {a b : E} (ia : Snd X N sc c W a) (ib : Snd X N sc c W b) : Snd X N sc c W (.bin op a b) := by
  refine .plain rfl (fun xs => by cases xs <;> rfl) (fun ast h => ?_) (fun ast h => ?_)
  · cases ast <;> first | rfl | (simp only [chk] at h; cases h; done)
  · cases ast <;> first | (simp only [chk] at h; cases h; done) | skip
    rename_i l o r pos
    simp only [chk, Bool.and_eq_true, decide_eq_true_eq] at h
    obtain ⟨⟨rfl, h1⟩, h2⟩ := h
    exact PEimp (pe_op (op_bin op) (ia.pe l h1) (ib.pe r h2)) fun σ H Q q => two q
theorem snd_neg {a : E} (ia : Snd X N sc c W a) : Snd X N sc c W (.neg a) := by
  refine .plain rfl (fun xs => by cases xs <;> rfl) (fun ast h => ?_) (fun ast h => ?_)
  · cases ast <;> first | rfl | (simp only [chk] at h; cases h; done) | skip
    rename_i op x pos
    cases op <;> first | rfl | (simp only [chk] at h; cases h; done)
  · cases ast <;> first | (simp only [chk] at h; cases h; done) | skip
    rename_i op x pos
    cases op <;> first | (simp only [chk] at h; cases h; done) | skip
    simp only [chk] at h
    refine PEimp (pe_un un_neg (ia.pe x h)) fun σ H Q q => ?_
    obtain ⟨ρ, σ3, hh, rs, rp, P⟩ := q
    refine ⟨ρ, σ3, hh, rs, rp, (Post.bind (RA := RV X.K) P).imp fun x H1 ⟨ρ1, d, h1, s1, rp1, rd, _, P1⟩ => ?_⟩
    unfold negR at P1
    split at P1
    · cases rd
      exact ⟨_, rfl, P1.here rp1 (.int _)⟩
    · exact P1.elim
theorem snd_not {a : E} (ia : Snd X N sc c W a) : Snd X N sc c W (.not a) := by
  have key : ∀ ast, chk N sc c (.not a) ast = true → ∃ x pos, ast = .UnaryOp .Not x pos ∧ chk N sc c a x = true := fun ast h => by
    cases ast <;> first | (simp only [chk] at h; cases h; done) | skip
    rename_i op x pos
    cases op <;> first | (simp only [chk] at h; cases h; done) | skip
    simp only [chk] at h
    exact ⟨x, pos, rfl, h⟩
  have pe : ∀ ast, chk N sc c (.not a) ast = true → PE X ast (rE X.K X.mg (den (.not a)).v W) := fun ast h => by
    obtain ⟨x, pos, rfl, h⟩ := key ast h
    refine PEimp (pe_notT (ia.pe x h)) fun σ H Q q => ?_
    obtain ⟨ρ, σ3, hh, rs, rp, P⟩ := q
    have P' : Post X.K X.mg (RV X.K) ρ H (fun c d H' => W c d σ H') ((((den a).v σ3 hh).bind truR).bind fun b h1 => .ok (.bl (!b)) h1) Q := P
    have e : (((den a).v σ3 hh).bind truR).bind (fun b h1 => Res.ok (D.bl (!b)) h1) = ((den a).v σ3 hh).bind fun x h1 => (truR x h1).bind fun b h1 => .ok (.bl (!b)) h1 := by
      cases (den a).v σ3 hh <;> rfl
    rw [e] at P'
    refine ⟨ρ, σ3, hh, rs, rp, (Post.bind (RA := RV X.K) P').imp fun x H1 ⟨ρ1, d, h1, s1, rp1, rd, _, P1⟩ => ?_⟩
    unfold truR at P1
    split at P1
    · rename_i kk e
      exact ⟨kk, tru_of rp1 rd e, P1.here rp1 (.bl _)⟩
    · exact P1.elim
  refine ⟨pe, fun ast h => ?_, fun op xs p h => ?_, fun xs h => ?_, fun ast h => po_of (pe ast h), fun tg ast _ h => pi_of (pe ast h), fun ks kws h => by cases ks <;> cases kws <;> cases h⟩
  · obtain ⟨x, pos, rfl, h⟩ := key ast h
    refine PTimp (pt_not (ia.pt x h)) fun σ H Q q => ?_
    obtain ⟨ρ, σ3, hh, rs, rp, P⟩ := q
    refine ⟨ρ, σ3, hh, rs, rp, (Post.bind (RA := RQ) (r := (den a).t σ3 hh) P).imp fun x H1 ⟨ρ1, d, h1, s1, rp1, rd, _, P1⟩ => ?_⟩
    subst rd
    exact P1.here rp1 rfl
  · obtain ⟨x, pos, e, _⟩ := key _ h
    cases e
  · cases xs <;> cases h

theorem and_key {a b : E} {ast : Expr} (h : chk N sc c (.and a b) ast = true) : ∃ x y r p, ast = .BoolOp .And (x :: y :: r) p ∧ chk N sc c a x = true ∧ ((r = [] ∧ chk N sc c b y = true) ∨ (r ≠ [] ∧ chk N sc c b (.BoolOp .And (y :: r) p) = true)) := by
  cases ast <;> first | (simp only [chk] at h; cases h; done) | skip
  rename_i op xs p
  cases op with
  | Or => simp only [chk] at h; cases h
  | And =>
    match xs, h with
    | [], h => simp only [chk] at h; cases h
    | [x], h => simp only [chk, Bool.and_eq_true] at h; exact absurd h.2 (by simp)
    | [x, y], h => simp only [chk, Bool.and_eq_true] at h; exact ⟨x, y, [], p, rfl, h.1, .inl ⟨rfl, h.2⟩⟩
    | x :: y :: z :: r, h => simp only [chk, Bool.and_eq_true] at h; exact ⟨x, y, z :: r, p, rfl, h.1, .inr ⟨by simp, h.2⟩⟩
theorem or_key {a b : E} {ast : Expr} (h : chk N sc c (.or a b) ast = true) : ∃ x y r p, ast = .BoolOp .Or (x :: y :: r) p ∧ chk N sc c a x = true ∧ ((r = [] ∧ chk N sc c b y = true) ∨ (r ≠ [] ∧ chk N sc c b (.BoolOp .Or (y :: r) p) = true)) := by
  cases ast <;> first | (simp only [chk] at h; cases h; done) | skip
  rename_i op xs p
  cases op with
  | And => simp only [chk] at h; cases h
  | Or =>
    match xs, h with
    | [], h => simp only [chk] at h; cases h
    | [x], h => simp only [chk, Bool.and_eq_true] at h; exact absurd h.2 (by simp)
    | [x, y], h => simp only [chk, Bool.and_eq_true] at h; exact ⟨x, y, [], p, rfl, h.1, .inl ⟨rfl, h.2⟩⟩
    | x :: y :: z :: r, h => simp only [chk, Bool.and_eq_true] at h; exact ⟨x, y, z :: r, p, rfl, h.1, .inr ⟨by simp, h.2⟩⟩
theorem bool_of {K : PySem.W.Frag} {mg : Str → Option Value} {ρ : List Addr} {H : Hp} {E : XK} {d : D} {x : V} {f g : Res D} {Q : VK} (r : RD K ρ H d x) (P : Post K mg (RV K) ρ H E (boolR d f g) Q) :
    ∃ kk, x = .bl kk ∧ if kk = true then Post K mg (RV K) ρ H E f Q else Post K mg (RV K) ρ H E g Q := by
  unfold boolR at P
  split at P
  · cases r; exact ⟨true, rfl, by rw [if_pos rfl]; exact P⟩
  · cases r; exact ⟨false, rfl, by rw [if_neg Bool.false_ne_true]; exact P⟩
  · exact P.elim
theorem snd_and {a b : E} (ia : Snd X N sc c W a) (ib : Snd X N sc c W b) : Snd X N sc c W (.and a b) := by
  have pe : ∀ ast, chk N sc c (.and a b) ast = true → PE X ast (rE X.K X.mg (den (.and a b)).v W) := fun ast h => by
    obtain ⟨x, y, r, p, rfl, h1, h2⟩ := and_key h
    have hb : PE X (.BoolOp .And (y :: r) p) (rE X.K X.mg (den b).v W) := by
      rcases h2 with ⟨rfl, h2⟩ | ⟨_, h2⟩
      · exact pe_one (ib.pe y h2)
      · exact ib.pe _ h2
    refine PEimp (pe_and (ia.pe x h1) hb) fun σ H Q q => ?_
    obtain ⟨ρ, σ3, hh, rs, rp, P⟩ := q
    refine ⟨ρ, σ3, hh, rs, rp, (Post.bind (RA := RV X.K) (r := (den a).v σ3 hh) P).imp fun x H1 ⟨ρ1, d, h1, s1, rp1, rd, _, P1⟩ => ?_⟩
    obtain ⟨kk, rfl, q⟩ := bool_of rd P1
    refine ⟨kk, rfl, ?_⟩
    cases kk with
    | true => rw [if_pos rfl] at q ⊢; exact ⟨ρ1, σ3, h1, rs.mono s1, rp1, q⟩
    | false => rw [if_neg Bool.false_ne_true] at q ⊢; exact q.here rp1 (.bl _)
  have pw : ∀ op xs p, chk N sc c (.and a b) (.BoolOp op xs p) = true → PW X (.BoolOp op xs p) (rT X.K X.mg (den (.and a b)).t W) := fun op xs p h => by
    obtain ⟨x, y, r, p', e, h1, h2⟩ := and_key h
    cases e
    have hb : PW X (.BoolOp .And (y :: r) p) (rT X.K X.mg (den b).t W) := by
      rcases h2 with ⟨rfl, h2⟩ | ⟨_, h2⟩
      · exact pw_and1 (ib.pt y h2)
      · exact ib.pw _ _ _ h2
    refine PWimp (pw_and (ia.pt x h1) hb) fun σ H Q q => ?_
    obtain ⟨ρ, σ3, hh, rs, rp, P⟩ := q
    refine ⟨ρ, σ3, hh, rs, rp, (Post.bind (RA := RQ) (r := (den a).t σ3 hh) P).imp fun x H1 ⟨ρ1, d, h1, s1, rp1, rd, _, P1⟩ => ?_⟩
    subst rd
    cases d with
    | true => rw [if_pos rfl] at P1 ⊢; exact ⟨ρ1, σ3, h1, rs.mono s1, rp1, P1⟩
    | false => rw [if_neg Bool.false_ne_true] at P1 ⊢; exact P1.here rp1 rfl
  refine ⟨pe, fun ast h => ?_, pw, fun xs h => ?_, fun ast h => po_of (pe ast h), fun tg ast _ h => pi_of (pe ast h), fun ks kws h => by cases ks <;> cases kws <;> cases h⟩
  · obtain ⟨x, y, r, p, rfl, _⟩ := and_key h
    exact (pw _ _ _ h).pt
  · cases xs <;> cases h
theorem snd_or {a b : E} (ia : Snd X N sc c W a) (ib : Snd X N sc c W b) : Snd X N sc c W (.or a b) := by
  have pe : ∀ ast, chk N sc c (.or a b) ast = true → PE X ast (rE X.K X.mg (den (.or a b)).v W) := fun ast h => by
    obtain ⟨x, y, r, p, rfl, h1, h2⟩ := or_key h
    have hb : PE X (.BoolOp .Or (y :: r) p) (rE X.K X.mg (den b).v W) := by
      rcases h2 with ⟨rfl, h2⟩ | ⟨_, h2⟩
      · exact pe_one (ib.pe y h2)
      · exact ib.pe _ h2
    refine PEimp (pe_or (ia.pe x h1) hb) fun σ H Q q => ?_
    obtain ⟨ρ, σ3, hh, rs, rp, P⟩ := q
    refine ⟨ρ, σ3, hh, rs, rp, (Post.bind (RA := RV X.K) (r := (den a).v σ3 hh) P).imp fun x H1 ⟨ρ1, d, h1, s1, rp1, rd, _, P1⟩ => ?_⟩
    obtain ⟨kk, rfl, q⟩ := bool_of rd P1
    refine ⟨kk, rfl, ?_⟩
    cases kk with
    | true => rw [if_pos rfl] at q ⊢; exact q.here rp1 (.bl _)
    | false => rw [if_neg Bool.false_ne_true] at q ⊢; exact ⟨ρ1, σ3, h1, rs.mono s1, rp1, q⟩
  have pw : ∀ op xs p, chk N sc c (.or a b) (.BoolOp op xs p) = true → PW X (.BoolOp op xs p) (rT X.K X.mg (den (.or a b)).t W) := fun op xs p h => by
    obtain ⟨x, y, r, p', e, h1, h2⟩ := or_key h
    cases e
    have hb : PW X (.BoolOp .Or (y :: r) p) (rT X.K X.mg (den b).t W) := by
      rcases h2 with ⟨rfl, h2⟩ | ⟨_, h2⟩
      · exact pw_or1 (ib.pt y h2)
      · exact ib.pw _ _ _ h2
    refine PWimp (pw_or (ia.pt x h1) hb) fun σ H Q q => ?_
    obtain ⟨ρ, σ3, hh, rs, rp, P⟩ := q
    refine ⟨ρ, σ3, hh, rs, rp, (Post.bind (RA := RQ) (r := (den a).t σ3 hh) P).imp fun x H1 ⟨ρ1, d, h1, s1, rp1, rd, _, P1⟩ => ?_⟩
    subst rd
    cases d with
    | true => rw [if_pos rfl] at P1 ⊢; exact P1.here rp1 rfl
    | false => rw [if_neg Bool.false_ne_true] at P1 ⊢; exact ⟨ρ1, σ3, h1, rs.mono s1, rp1, P1⟩
  refine ⟨pe, fun ast h => ?_, pw, fun xs h => ?_, fun ast h => po_of (pe ast h), fun tg ast _ h => pi_of (pe ast h), fun ks kws h => by cases ks <;> cases kws <;> cases h⟩
  · obtain ⟨x, y, r, p, rfl, _⟩ := or_key h
    exact (pw _ _ _ h).pt
  · cases xs <;> cases h
/-- what a comparison gives is a truth -/
theorem cmp_bl {op : CmpOp} {x y d : D} {h h' : Hh} (e : cmpD op x y h = .ok d h') : ∃ kk, d = .bl kk := by
  unfold cmpD ofB at e
  split at e <;> first | (cases e; exact ⟨_, rfl⟩) | (split at e <;> first | (cases e; exact ⟨_, rfl⟩) | (split at e <;> first | (cases e; exact ⟨_, rfl⟩) | cases e) | cases e) | cases e
theorem Post.tru {K : PySem.W.Frag} {mg : Str → Option Value} {ρ : List Addr} {H : Hp} {E : XK} {r : Res D} {Q : Bool → Hp → Prop} (hb : ∀ d h, r = .ok d h → ∃ kk, d = .bl kk) (P : Post K mg RQ ρ H E (r.bind truR) Q) :
    Post K mg (RV K) ρ H E r fun x H' => ∃ kk, x = .bl kk ∧ Q kk H' := by
  cases r with
  | bad => exact P
  | exc _ _ _ => exact P
  | ok d h =>
    obtain ⟨kk, rfl⟩ := hb d h rfl
    intro ρ' H' x s rp rd
    cases rd
    exact ⟨kk, rfl, P ρ' H' kk s rp rfl⟩
theorem snd_cmp (G : Gx X N sc k c) {op : CmpOp} {a b : E} (ia : Snd X N sc c W a) (ib : Snd X N sc c W b) : Snd X N sc c W (.cmp op a b) := by
  have key : ∀ ast, chk N sc c (.cmp op a b) ast = true → ∃ l r p, ast = .Compare l [op] [r] p ∧ chk N sc c a l = true ∧ chk N sc c b r = true ∧ setB r = false := fun ast h => by
    cases ast <;> first | (simp only [chk] at h; cases h; done) | skip
    rename_i l os rs p
    match os, rs, h with
    | [], _, h => simp only [chk] at h; cases h
    | _ :: _ :: _, _, h => simp only [chk] at h; cases h
    | [o], [], h => simp only [chk] at h; cases h
    | [o], _ :: _ :: _, h => simp only [chk] at h; cases h
    | [o], [r], h =>
      simp only [chk, Bool.and_eq_true, decide_eq_true_eq, Bool.not_eq_true'] at h
      obtain ⟨⟨⟨rfl, h1⟩, h2⟩, h3⟩ := h
      exact ⟨l, r, p, rfl, h1, h2, h3⟩
  have pe : ∀ ast, chk N sc c (.cmp op a b) ast = true → PE X ast (rE X.K X.mg (den (.cmp op a b)).v W) := fun ast h => by
    obtain ⟨l, r, p, rfl, h1, h2, h3⟩ := key ast h
    exact PEimp (pe_cmpR (op_cmp G.un op) (ia.pe l h1) (ib.pe r h2) (mark_plain h3)) fun σ H Q q => two q
  refine ⟨pe, fun ast h => ?_, fun o xs p h => ?_, fun xs h => ?_, fun ast h => po_of (pe ast h), fun tg ast _ h => pi_of (pe ast h), fun ks kws h => by cases ks <;> cases kws <;> cases h⟩
  · obtain ⟨l, r, p, rfl, h1, h2, h3⟩ := key ast h
    refine PTimp (pt_cmpR (op_cmp G.un op) (ia.pe l h1) (ib.pe r h2) (mark_plain h3)) fun σ H Q q => ?_
    refine two (W := W) ?_
    obtain ⟨ρ, σ3, hh, rs, rp, P⟩ := q
    refine ⟨ρ, σ3, hh, rs, rp, Post.tru (fun d h' e => ?_) P⟩
    obtain ⟨x, h1, _, e⟩ := bind_inv e
    obtain ⟨y, h2, _, e⟩ := bind_inv e
    exact cmp_bl e
  · obtain ⟨l, r, p', e, _⟩ := key _ h
    cases e
  · cases xs <;> cases h

theorem mark2 {op op' : CmpOp} {m r : Expr} (h : setB r = false) : lastMarks [op, op'] [m, r] = false := by
  show behindInMarks op' r = false
  exact mark_plain h
theorem chain_of {op op' : CmpOp} {ma mb md : Sl → Hh → Res D} {σ : L2.St} {H : Hp} {Q : VK}
    (q : rE X.K X.mg (fun σ h => (ma σ h).bind fun x h1 => (mb σ h1).bind fun y h2 => (cmpD op x y h2).bind fun z h3 => boolR z ((md σ h3).bind fun w h4 => cmpD op' y w h4) (.ok (.bl false) h3)) W σ H Q) :
    tChain (r2 X.K X.mg (cmpD op)) (r2 X.K X.mg (cmpD op')) (rE X.K X.mg ma W) (rE X.K X.mg mb W) (rE X.K X.mg md W) σ H Q := by
  obtain ⟨ρ, σ3, h, rs, rp, P⟩ := q
  refine ⟨ρ, σ3, h, rs, rp, (Post.bind (RA := RV X.K) P).imp fun x H1 ⟨ρ1, a, h1, s1, rp1, ra, _, P1⟩ => ?_⟩
  refine ⟨ρ1, σ3, h1, rs.mono s1, rp1, (Post.bind (RA := RV X.K) P1).imp fun y H2 ⟨ρ2, b, h2, s2, rp2, rb, _, P2⟩ => ?_⟩
  refine ⟨ρ2, a, b, h2, _, ra.mono s2, rb, rp2, (Post.bind (RA := RV X.K) P2).imp fun z H3 ⟨ρ3, d, h3, s3, rp3, rd, _, P3⟩ => ?_⟩
  obtain ⟨kk, rfl, q⟩ := bool_of rd P3
  refine ⟨kk, rfl, ?_⟩
  cases kk with
  | false => rw [if_neg Bool.false_ne_true] at q ⊢; exact q.here rp3 (.bl _)
  | true =>
    rw [if_pos rfl] at q ⊢
    refine ⟨ρ3, σ3, h3, (rs.mono (s1.trans s2)).mono s3, rp3, (Post.bind (RA := RV X.K) q).imp fun w H4 ⟨ρ4, f, h4, s4, rp4, rf, _, P4⟩ => ?_⟩
    exact ⟨ρ4, b, f, h4, _, rb.mono (s3.trans s4), rf, rp4, P4⟩
theorem snd_chain (G : Gx X N sc k c) {op op' : CmpOp} {a b d : E} (ia : Snd X N sc c W a) (ib : Snd X N sc c W b) (id : Snd X N sc c W d) : Snd X N sc c W (.chain op op' a b d) := by
  have key : ∀ ast, chk N sc c (.chain op op' a b d) ast = true → ∃ l m r p, ast = .Compare l [op, op'] [m, r] p ∧ chk N sc c a l = true ∧ chk N sc c b m = true ∧ chk N sc c d r = true ∧ setB r = false := fun ast h => by
    cases ast <;> first | (simp only [chk] at h; cases h; done) | skip
    rename_i l os rs p
    match os, rs, h with
    | [], _, h => simp only [chk] at h; cases h
    | [_], _, h => simp only [chk] at h; cases h
    | _ :: _ :: _ :: _, _, h => simp only [chk] at h; cases h
    | [o, o'], [], h => simp only [chk] at h; cases h
    | [o, o'], [_], h => simp only [chk] at h; cases h
    | [o, o'], _ :: _ :: _ :: _, h => simp only [chk] at h; cases h
    | [o, o'], [m, r], h =>
      simp only [chk, Bool.and_eq_true, decide_eq_true_eq, Bool.not_eq_true'] at h
      obtain ⟨⟨⟨⟨⟨rfl, rfl⟩, h1⟩, h2⟩, h3⟩, h4⟩ := h
      exact ⟨l, m, r, p, rfl, h1, h2, h3, h4⟩
  have pe : ∀ ast, chk N sc c (.chain op op' a b d) ast = true → PE X ast (rE X.K X.mg (den (.chain op op' a b d)).v W) := fun ast h => by
    obtain ⟨l, m, r, p, rfl, h1, h2, h3, h4⟩ := key ast h
    exact PEimp (pe_chain (op_cmp G.un op) (op_cmp G.un op') (ia.pe l h1) (ib.pe m h2) (id.pe r h3) (mark2 h4)) fun σ H Q q => chain_of q
  refine ⟨pe, fun ast h => ?_, fun o xs p h => ?_, fun xs h => ?_, fun ast h => po_of (pe ast h), fun tg ast _ h => pi_of (pe ast h), fun ks kws h => by cases ks <;> cases kws <;> cases h⟩
  · obtain ⟨l, m, r, p, rfl, h1, h2, h3, h4⟩ := key ast h
    refine PTimp (pt_chain (op_cmp G.un op) (op_cmp G.un op') (ia.pe l h1) (ib.pe m h2) (id.pe r h3) (mark2 h4)) fun σ H Q q => ?_
    refine chain_of (W := W) ?_
    obtain ⟨ρ, σ3, hh, rs, rp, P⟩ := q
    refine ⟨ρ, σ3, hh, rs, rp, Post.tru (fun d h' e => ?_) P⟩
    obtain ⟨x, h1, _, e⟩ := bind_inv e
    obtain ⟨y, h2, _, e⟩ := bind_inv e
    obtain ⟨z, h3, _, e⟩ := bind_inv e
    unfold boolR at e
    split at e
    · obtain ⟨w, h4, _, e⟩ := bind_inv e
      exact cmp_bl e
    · cases e; exact ⟨_, rfl⟩
    · cases e
  · obtain ⟨l, m, r, p', e, _⟩ := key _ h
    cases e
  · cases xs <;> cases h
theorem snd_ife {t a b : E} (it : Snd X N sc c W t) (ia : Snd X N sc c W a) (ib : Snd X N sc c W b) : Snd X N sc c W (.ife t a b) := by
  have key : ∀ ast, chk N sc c (.ife t a b) ast = true → ∃ ct x y p, ast = .IfExp ct x y p ∧ chk N sc c t ct = true ∧ chk N sc c a x = true ∧ chk N sc c b y = true := fun ast h => by
    cases ast <;> first | (simp only [chk] at h; cases h; done) | skip
    rename_i ct x y p
    simp only [chk, Bool.and_eq_true] at h
    exact ⟨ct, x, y, p, rfl, h.1.1, h.1.2, h.2⟩
  have pe : ∀ ast, chk N sc c (.ife t a b) ast = true → PE X ast (rE X.K X.mg (den (.ife t a b)).v W) := fun ast h => by
    obtain ⟨ct, x, y, p, rfl, h1, h2, h3⟩ := key ast h
    refine PEimp (pe_ifExp (it.pt ct h1) (ia.pe x h2) (ib.pe y h3)) fun σ H Q q => ?_
    obtain ⟨ρ, σ3, hh, rs, rp, P⟩ := q
    refine ⟨ρ, σ3, hh, rs, rp, (Post.bind (RA := RQ) (r := (den t).t σ3 hh) P).imp fun kk H1 ⟨ρ1, d, h1, s1, rp1, rd, _, P1⟩ => ?_⟩
    subst rd
    cases d with
    | true => rw [if_pos rfl] at P1 ⊢; exact ⟨ρ1, σ3, h1, rs.mono s1, rp1, P1⟩
    | false => rw [if_neg Bool.false_ne_true] at P1 ⊢; exact ⟨ρ1, σ3, h1, rs.mono s1, rp1, P1⟩
  refine ⟨pe, fun ast h => ?_, fun o xs p h => ?_, fun xs h => ?_, fun ast h => po_of (pe ast h), fun tg ast _ h => pi_of (pe ast h), fun ks kws h => by cases ks <;> cases kws <;> cases h⟩
  · exact ⟨fun pins s σ H Q I q => by obtain ⟨_, _, _, _, _, P⟩ := q; exact P.elim⟩
  · obtain ⟨ct, x, y, p', e, _⟩ := key _ h
    cases e
  · cases xs <;> cases h
theorem lay_tup {K : PySem.W.Frag} {mg : Str → Option Value} {ρ : List Addr} {H : Hp} {h : Hh} {E : XK} {ds : List D} {vs : List V} {p : Addr} {Q : VK} (rp : Rep K mg ρ h H) (rd : RDs K ρ H ds vs) (hp : H p = none)
    (P : Post K mg (RV K) ρ H E (.ok (.tup ds) h) Q) : Q (.ref p) (upd H p (.tup vs)) :=
  P.to (Step.beside hp) (rp.beside hp) (.tup (SqT.of upd_same) (rd.mono (Step.beside hp)))
theorem le_line {n : Nat} (h : n ≤ 1000) : n ≤ sizeLine := Nat.le_of_lt (small1000 h)
theorem snd_tup {es : E} (ie : Snd X N sc c W es) : Snd X N sc c W (.tup es) := by
  refine .plain rfl (fun xs => by cases xs <;> rfl) (fun ast h => ?_) (fun ast h => ?_)
  · cases ast <;> first | rfl | (simp only [chk] at h; cases h; done)
  · cases ast <;> first | (simp only [chk] at h; cases h; done) | skip
    rename_i xs kk pos
    simp only [chk] at h
    refine PEimp (pe_tup (ie.pa xs h)) fun σ H Q q => ?_
    obtain ⟨ρ, σ3, hh, rs, rp, P⟩ := q
    refine ⟨ρ, σ3, hh, rs, rp, (Post.bind (RA := RL X.K) P).imp fun vs H1 ⟨ρ1, ds, h1, s1, rp1, rd, _, P1⟩ => ?_⟩
    unfold tupR at P1
    split at P1
    · rename_i hl
      exact ⟨by rw [← rd.length]; exact le_line hl, fun p hp => lay_tup rp1 rd hp P1⟩
    · exact P1.elim
theorem snd_lst {es : E} (ie : Snd X N sc c W es) : Snd X N sc c W (.lst es) := by
  refine .plain rfl (fun xs => by cases xs <;> rfl) (fun ast h => ?_) (fun ast h => ?_)
  · cases ast <;> first | rfl | (simp only [chk] at h; cases h; done)
  · cases ast <;> first | (simp only [chk] at h; cases h; done) | skip
    rename_i xs pos
    simp only [chk] at h
    refine PEimp (pe_lst (ie.pa xs h)) fun σ H Q q => ?_
    obtain ⟨ρ, σ3, hh, rs, rp, P⟩ := q
    refine ⟨ρ, σ3, hh, rs, rp, (Post.bind (RA := RL X.K) P).imp fun vs H1 ⟨ρ1, ds, h1, s1, rp1, rd, _, P1⟩ => ?_⟩
    unfold lstR at P1
    split at P1
    · rename_i hl
      exact ⟨by rw [← rd.length]; exact le_line hl, fun p hp => P1.to (lay_step hp) (rp1.layL hp rd) (.ref (lay_at rp1))⟩
    · exact P1.elim
theorem snd_sub {a i : E} (ia : Snd X N sc c W a) (ii : Snd X N sc c W i) : Snd X N sc c W (.sub a i) := by
  refine .plain rfl (fun xs => by cases xs <;> rfl) (fun ast h => ?_) (fun ast h => ?_)
  · cases ast <;> first | rfl | (simp only [chk] at h; cases h; done)
  · cases ast <;> first | (simp only [chk] at h; cases h; done) | skip
    rename_i x y pos
    simp only [chk, Bool.and_eq_true, Bool.not_eq_true'] at h
    exact PEimp (pe_ix ix_any (ia.pe x h.1.1) (ii.pe y h.1.2) (plain_ix h.2)) fun σ H Q q => two q
theorem po_any {e : E} (ie : Snd X N sc c W e) {o : Option Expr} (h : (match o with | none => e.isNil | some y => chk N sc c e y) = true) : PO X o (rO X.K X.mg (den e).o W) := by
  cases o with
  | none =>
    cases e <;> first | (cases h; done) | skip
    exact POimp po_none fun σ H Q ⟨ρ, σ3, hh, rs, rp, P⟩ => P.here rp rfl
  | some y => exact ie.po y h
theorem snd_slc {a lo hi : E} (ia : Snd X N sc c W a) (il : Snd X N sc c W lo) (ih : Snd X N sc c W hi) : Snd X N sc c W (.slc a lo hi) := by
  refine .plain rfl (fun xs => by cases xs <;> rfl) (fun ast h => ?_) (fun ast h => ?_)
  · cases ast <;> first | rfl | (simp only [chk] at h; cases h; done)
  · cases ast <;> first | (simp only [chk] at h; cases h; done) | skip
    rename_i x y pos
    cases y <;> first | (simp only [chk] at h; cases h; done) | skip
    rename_i l u st p
    cases st with
    | some _ => simp only [chk] at h; cases h
    | none =>
      simp only [chk, Bool.and_eq_true] at h
      refine PEimp (pe_slice sl_any (ia.pe x h.1.1) (po_any il h.1.2) (po_any ih h.2)) fun σ H Q q => ?_
      obtain ⟨ρ, σ3, hh, rs, rp, P⟩ := q
      refine ⟨ρ, σ3, hh, rs, rp, (Post.bind (RA := RV X.K) P).imp fun v H1 ⟨ρ1, d, h1, s1, rp1, rd, _, P1⟩ => ?_⟩
      refine ⟨ρ1, σ3, h1, rs.mono s1, rp1, (Post.bind (RA := RQ) P1).imp fun l H2 ⟨ρ2, l', h2, s2, rp2, e2, _, P2⟩ => ?_⟩
      subst e2
      refine ⟨ρ2, σ3, h2, rs.mono (s1.trans s2), rp2, (Post.bind (RA := RQ) P2).imp fun u H3 ⟨ρ3, u', h3, s3, rp3, e3, _, P3⟩ => ?_⟩
      subst e3
      exact ⟨ρ3, d, h3, _, rd.mono (s2.trans s3), rp3, P3⟩
theorem snd_nil : Snd X N sc c W .nil := by
  refine ⟨fun ast h => ?_, fun ast h => ?_, fun op xs p h => ?_, fun xs h => ?_, fun ast h => ?_, fun tg ast _ h => ?_, fun ks kws h => ?_⟩
  · cases ast <;> (simp only [chk] at h; cases h; done)
  · cases ast <;> (simp only [chk] at h; cases h; done)
  · simp only [chk] at h; cases h
  · cases xs with
    | nil => exact PAimp pa_nil fun σ H Q ⟨ρ, σ3, hh, rs, rp, P⟩ => P.here rp .nil
    | cons _ _ => simp only [chkA] at h; cases h
  · cases ast <;> (simp only [chk] at h; cases h; done)
  · cases ast <;> (simp only [chk] at h; cases h; done)
  · cases ks with
    | cons _ _ => cases kws <;> cases h
    | nil =>
      cases kws with
      | cons _ _ => cases h
      | nil => exact ⟨fun pos pins s σ H Q I q => pk_nil.run pos pins s σ H Q I (by obtain ⟨ρ, σ3, hh, rs, rp, P⟩ := q; exact P.here rp .nil)⟩
theorem snd_cons {e es : E} (i1 : Snd X N sc c W e) (i2 : Snd X N sc c W es) : Snd X N sc c W (.cons e es) := by
  refine ⟨fun ast h => ?_, fun ast h => ?_, fun op xs p h => ?_, fun xs h => ?_, fun ast h => ?_, fun tg ast _ h => ?_, fun ks kws h => ?_⟩
  · cases ast <;> (simp only [chk] at h; cases h; done)
  · cases ast <;> (simp only [chk] at h; cases h; done)
  · simp only [chk] at h; cases h
  · cases xs with
    | nil => simp only [chkA] at h; cases h
    | cons x xs =>
      simp only [chkA, Bool.and_eq_true, Bool.not_eq_true'] at h
      refine PAimp (pa_cons (i1.pe x h.1.1) (i2.pa xs h.2) (star_cons h.1.2)) fun σ H Q q => ?_
      obtain ⟨ρ, σ3, hh, rs, rp, P⟩ := q
      refine ⟨ρ, σ3, hh, rs, rp, (Post.bind (RA := RV X.K) (r := (den e).v σ3 hh) P).imp fun v H1 ⟨ρ1, d, h1, s1, rp1, rd, _, P1⟩ => ?_⟩
      refine ⟨ρ1, σ3, h1, rs.mono s1, rp1, (Post.bind (RA := RL X.K) P1).imp fun vs H2 ⟨ρ2, ds, h2, s2, rp2, rds, _, P2⟩ => ?_⟩
      exact P2.here rp2 (.cons (rd.mono s2) rds)
  · cases ast <;> (simp only [chk] at h; cases h; done)
  · cases ast <;> (simp only [chk] at h; cases h; done)
  · cases ks with
    | nil => cases kws <;> cases h
    | cons k ks =>
      cases kws with
      | nil => cases h
      | cons kw kws =>
        obtain ⟨nm, x, kp⟩ := kw
        cases nm with
        | none => simp only [chkK] at h; cases h
        | some nm =>
          simp only [chkK, Bool.and_eq_true, decide_eq_true_eq] at h
          obtain ⟨⟨rfl, h1⟩, h2⟩ := h
          refine ⟨fun pos pins s σ H Q I q => (pk_cons (i1.pe x h1) (i2.pk ks kws h2)).run pos pins s σ H Q I ?_⟩
          obtain ⟨ρ, σ3, hh, rs, rp, P⟩ := q
          refine ⟨ρ, σ3, hh, rs, rp, (Post.bind (RA := RV X.K) (r := (den e).v σ3 hh) P).imp fun v H1 ⟨ρ1, d, h1, s1, rp1, rd, _, P1⟩ => ?_⟩
          refine ⟨ρ1, σ3, h1, rs.mono s1, rp1, (Post.bind (RA := RL X.K) P1).imp fun vs H2 ⟨ρ2, ds, h2, s2, rp2, rds, _, P2⟩ => ?_⟩
          exact P2.here rp2 (.cons (rd.mono s2) rds)
end
end L3

namespace L3
open PySem L2

section
variable {X : Cx} {N : List Str} {sc : Scope} {c : Bool} {W : WX} {k : Nat}
theorem kw_facts {env : Env} {pos : Pos} : ∀ {ks : List Str} {e : E} {kws : List Keyword}, chkK N sc c ks e kws = true →
    (backToKw pos (keywordEach kws env)).all (·.1.isSome) = true ∧ (backToKw pos (keywordEach kws env)).filterMap (·.1) = ks ∧ (backToKw pos (keywordEach kws env)).any (·.1.isNone) = false
  | [], .nil, [], _ => ⟨rfl, rfl, rfl⟩
  | k :: ks, .cons e es, ⟨some nm, x, p⟩ :: r, h => by
    simp only [chkK, Bool.and_eq_true, decide_eq_true_eq] at h
    obtain ⟨⟨rfl, _⟩, h2⟩ := h
    obtain ⟨a1, a2, a3⟩ := kw_facts (env := env) (pos := pos) h2
    refine ⟨?_, ?_, ?_⟩
    · show (true && (backToKw pos (keywordEach r env)).all (·.1.isSome)) = true
      rw [a1]; rfl
    · show k :: (backToKw pos (keywordEach r env)).filterMap (·.1) = _
      rw [a2]
    · show (false || (backToKw pos (keywordEach r env)).any (·.1.isNone)) = false
      rw [a3]; rfl
theorem chkA_len : ∀ {es : E} {xs : List Expr}, chkA N sc c es xs = true → es.alen = xs.length
  | .nil, [], _ => rfl
  | .cons e es, x :: xs, h => by
    simp only [chkA, Bool.and_eq_true] at h
    show es.alen + 1 = _
    rw [chkA_len h.2]; rfl
theorem evA_len {N : List Str} {sc : Scope} {c : Bool} : ∀ {es : E} {xs : List Expr} {σ : Sl} {h h' : Hh} {ds : List D}, chkA N sc c es xs = true → (den es).a σ h = .ok ds h' → ds.length = xs.length
  | .nil, [], _, _, _, _, _, e => by cases e; rfl
  | .cons e es, x :: xs, σ, h, h', ds, hc, q => by
    simp only [chkA, Bool.and_eq_true] at hc
    obtain ⟨d, h1, _, q⟩ := bind_inv (show ((den e).v σ h).bind (fun d h1 => ((den es).a σ h1).bind fun ds h2 => .ok (d :: ds) h2) = .ok ds h' from q)
    obtain ⟨ds', h2, q1, q⟩ := bind_inv q
    cases q
    simp [evA_len hc.2 q1]
theorem evK_len {N : List Str} {sc : Scope} {c : Bool} : ∀ {ks : List Str} {es : E} {xs : List Keyword} {σ : Sl} {h h' : Hh} {ds : List D}, chkK N sc c ks es xs = true → (den es).a σ h = .ok ds h' → ds.length = ks.length
  | [], .nil, [], _, _, _, _, _, e => by cases e; rfl
  | k :: ks, .cons e es, ⟨some nm, x, p⟩ :: xs, σ, h, h', ds, hc, q => by
    simp only [chkK, Bool.and_eq_true] at hc
    obtain ⟨d, h1, _, q⟩ := bind_inv (show ((den e).v σ h).bind (fun d h1 => ((den es).a σ h1).bind fun ds h2 => .ok (d :: ds) h2) = .ok ds h' from q)
    obtain ⟨ds', h2, q1, q⟩ := bind_inv q
    cases q
    simp [evK_len hc.2 q1]
theorem Vals.of_get {vs : List V} {us : List Value} {i : Nat} {u : Value} : Vals vs us → us[i]? = some u → ∃ v, vs[i]? = some v ∧ RelV v u := by
  intro r
  induction r generalizing i with
  | nil => intro e; simp at e
  | cons h t ih =>
    intro e
    cases i with
    | zero => simp at e; subst e; exact ⟨_, rfl, h⟩
    | succ i => obtain ⟨v, e1, e2⟩ := ih (i := i) (by simpa using e); exact ⟨v, by simpa using e1, e2⟩
theorem RDs.get' {K : PySem.W.Frag} {ρ : List Addr} {H : Hp} : ∀ {ds : List D} {vs : List V} {i : Nat} {v : V}, RDs K ρ H ds vs → vs[i]? = some v → ∃ d, ds[i]? = some d ∧ RD K ρ H d v
  | _, _, _, _, .nil, e => by simp at e
  | _, _, 0, _, .cons h _, e => by simp at e; subst e; exact ⟨_, rfl, h⟩
  | _, _, i + 1, v, .cons _ r, e => by
    obtain ⟨d, h1, h2⟩ := RDs.get' (i := i) (v := v) r (by simpa using e)
    exact ⟨d, by simpa using h1, h2⟩
/-- the arguments picked -/
theorem pick_ok {K : PySem.W.Frag} {ρ : List Addr} {H : Hp} {us ws : List Value} {vs zs : List V} {ds es : List D} (rv : Vals vs us) (rz : Vals zs ws) (rd : RDs K ρ H ds vs) (re : RDs K ρ H es zs) :
    ∀ {b : List Ar} {as : List Value} {xs : List D}, Pk K us ws b as → pickD b ds es = some xs → ∃ ys, Vals ys as ∧ RDs K ρ H xs ys
  | _, _, _, .nil, e => by cases e; exact ⟨[], .nil, .nil⟩
  | _, _, xs, .p (i := i) hu t, e => by
    unfold pickD at e
    split at e
    · rename_i x ex
      obtain ⟨xs', q, rfl⟩ := Option.map_eq_some_iff.mp e
      obtain ⟨ys, h1, h2⟩ := pick_ok rv rz rd re t q
      obtain ⟨v, ev, r⟩ := Vals.of_get rv hu
      obtain ⟨d, ed, r2⟩ := RDs.get' rd ev
      rw [ex] at ed; cases ed
      exact ⟨v :: ys, .cons r h1, .cons r2 h2⟩
    · cases e
  | _, _, xs, .k (j := i) hu t, e => by
    unfold pickD at e
    split at e
    · rename_i x ex
      obtain ⟨xs', q, rfl⟩ := Option.map_eq_some_iff.mp e
      obtain ⟨ys, h1, h2⟩ := pick_ok rv rz rd re t q
      obtain ⟨v, ev, r⟩ := Vals.of_get rz hu
      obtain ⟨d, ed, r2⟩ := RDs.get' re ev
      rw [ex] at ed; cases ed
      exact ⟨v :: ys, .cons r h1, .cons r2 h2⟩
    · cases e
  | _, _, xs, .d (v := v) hr hd t, e => by
    unfold pickD at e
    obtain ⟨xs', q, rfl⟩ := Option.map_eq_some_iff.mp e
    obtain ⟨ys, h1, h2⟩ := pick_ok rv rz rd re t q
    exact ⟨v :: ys, .cons hr h1, .cons (hd _ _) h2⟩
/-- a def runs -/
theorem run_fnB {f : Addr} {fd : FuncData} {ps ks : List Str} {g : Fn} {n : Nat} {b : Option (List Ar)} {σ : L2.St} {H : Hp} {s : Shared} {pins : List (Addr × Obj)} {Q : VK} {us ws : List Value} {vs zs : List V} {ρ : List Addr} {ds es : List D} {h : Hh}
    (F : FnOk X.prog X.w X.K X.mg X.base (L2.CX X.prog X.w) k f fd ps (spF X.K X.mg g)) (hr : Room k X.A) (hb : Bnd X.K fd ps n ks b) (tk : Takes X W) (I : Inv X pins σ H s) (rv : Vals vs us) (rz : Vals zs ws)
    (rd : RDs X.K ρ H ds vs) (re : RDs X.K ρ H es zs) (rp : Rep X.K X.mg ρ h H) (l1 : us.length = n) (l2 : ws.length = ks.length) (p : Post X.K X.mg (RV X.K) ρ H (fun c d H' => W c d σ H') (argsR b ds es g h) Q) :
    wpAny (model X.prog X.w) X.A (call (.ref f) us (ks.zip ws)) (EP X pins σ Q) X.xe s := by
  obtain ⟨as, bt, pk⟩ := hb s us ws I.kIn l1 l2
  obtain ⟨ys, ry, sp⟩ : ∃ ys, Vals ys as ∧ spF X.K X.mg g ys H Q (fun c d H' => W c d σ H') := by
    unfold argsR at p
    cases b with
    | none =>
      obtain rfl : as = us := pk
      exact ⟨vs, rv, ρ, ds, h, rd, rp, p⟩
    | some b =>
      dsimp only at p
      split at p
      · rename_i xs ex
        obtain ⟨ys, h1, h2⟩ := pick_ok rv rz rd re (show Pk X.K us ws b as from pk) ex
        exact ⟨ys, h1, ρ, xs, h, h2, rp, p⟩
      · exact p.elim
  refine wpAny_call (codeAny_mono (F.run X.A X.stack s H ⟨us, ks.zip ws⟩ as ys Q _ hr I.env0 bt ry sp) fun r s' hq => ?_)
  cases r with
  | error e => exact passAt tk σ pins H s e s' I hq
  | ok fl =>
    cases fl with
    | ret u => exact I.after hq
    | next => exact False.elim hq
    | brk => exact False.elim hq
    | cont => exact False.elim hq
/-- arguments and keywords are evaluated, then it goes on -/
theorem run_args {fv : Value} {first : List Value} {es kes : E} {ks : List Str} {args : List Expr} {kws : List Keyword} {pos : Pos} {g : List D → List D → Hh → Res D} {σ : L2.St} {H : Hp} {Q : VK} {pins : List (Addr × Obj)} {s : Shared}
    (hkp : PySem.W.keepIn X.K fv = true) (ie : Snd X N sc c W es) (ik : Snd X N sc c W kes) (ha : chkA N sc c es args = true) (hk : chkK N sc c ks kes kws = true) (I : Inv X pins σ H s)
    {ρ : List Addr} {σ3 : Sl} {h : Hh} (rs : RS X.K ρ H σ3 σ) (rp : Rep X.K X.mg ρ h H)
    (P : Post X.K X.mg (RV X.K) ρ H (fun c d H' => W c d σ H') (((den es).a σ3 h).bind fun ds h1 => ((den kes).a σ3 h1).bind fun zs h2 => g ds zs h2) Q)
    (go : ∀ (s1 : Shared) (H1 : Hp) (us ws : List Value) (vs zs : List V) (ρ1 : List Addr) (ds zd : List D) (h1 : Hh), Step ρ H ρ1 H1 → Inv X pins σ H1 s1 → Rep X.K X.mg ρ1 h1 H1 → RDs X.K ρ1 H1 ds vs → RDs X.K ρ1 H1 zd zs → Vals vs us → Vals zs ws → us.length = es.alen → ws.length = ks.length →
      Post X.K X.mg (RV X.K) ρ1 H1 (fun c d H' => W c d σ H') (g ds zd h1) Q → wpAny (model X.prog X.w) X.A (call fv (first ++ us) (ks.zip ws)) (EP X pins σ Q) X.xe s1) :
    wpAny (model X.prog X.w) X.A (callWith pos fv first (backTo pos (starEach args X.env)) (backToKw pos (keywordEach kws X.env))) (EP X pins σ Q) X.xe s := by
  obtain ⟨k1, k2, k3⟩ := kw_facts (env := X.env) (pos := pos) hk
  have st := chkA_star ha
  cases args with
  | nil =>
    have en : es = .nil := by cases es <;> first | rfl | (simp only [chkA] at ha; cases ha)
    subst en
    refine PySem.W.callWith_KW0 (h₀ := X.base) I.ok.mod.kin hkp k1 ?_ (by rw [k3]; rfl)
    have P' : Post X.K X.mg (RV X.K) ρ H (fun c d H' => W c d σ H') (((den kes).a σ3 h).bind fun zs h2 => g [] zs h2) Q := P
    refine thn ((ik.pk ks kws hk).run pos pins s σ H _ I ⟨ρ, σ3, h, rs, rp, Post.bind (RA := RL X.K) P'⟩) fun ws s1 ⟨zs, H1, I1, rz, ρ1, zd, h1, s1', rp1, rd1, e1, P1⟩ => ⟨I1.kIn, ?_⟩
    rw [k2]
    exact go s1 H1 [] ws [] zs ρ1 [] zd h1 s1' I1 rp1 .nil rd1 .nil rz rfl (by rw [← rz.length, ← rd1.length]; exact evK_len hk e1) P1
  | cons a args =>
    refine PySem.W.callWith_KW (h₀ := X.base) I.ok.mod.kin hkp k1 ?_ (by rw [k3, star_any st]; rfl) (star_cons (st a List.mem_cons_self))
    refine thn ((ie.pa _ ha).run pos pins s σ H _ I ⟨ρ, σ3, h, rs, rp, Post.bind (RA := RL X.K) P⟩) fun us s1 ⟨vs, H1, I1, rv, ρ1, ds, h1, s1', rp1, rd1, e1, P1⟩ => ?_
    refine thn ((ik.pk ks kws hk).run pos pins s1 σ H1 _ I1 ⟨ρ1, σ3, h1, rs.mono s1', rp1, Post.bind (RA := RL X.K) P1⟩) fun ws s2 ⟨zs, H2, I2, rz, ρ2, zd, h2, s2', rp2, rd2, e2, P2⟩ => ⟨I2.kIn, ?_⟩
    rw [k2]
    exact go s2 H2 us ws vs zs ρ2 ds zd h2 (s1'.trans s2') I2 rp2 (rd1.mono s2') rd2 rv rz (by rw [← rv.length, ← rd1.length, chkA_len ha]; exact evA_len ha e1) (by rw [← rz.length, ← rd2.length]; exact evK_len hk e2) P2
theorem snd_call (G : Gx X N sc k c) (tk : Takes X W) {f : Fn} {x : Str} {b : Option (List Ar)} {ks : List Str} {es kes : E} (cal : Cal X.prog X.w X.K X.mg X.base k x es.alen ks b f) (ie : Snd X N sc c W es) (ik : Snd X N sc c W kes) : Snd X N sc c W (.call f x b es ks kes) := by
  refine .plain rfl (fun xs => by cases xs <;> rfl) (fun ast h => ?_) (fun ast h => ?_)
  · cases ast <;> first | rfl | (simp only [chk] at h; cases h; done)
  · cases ast <;> first | (simp only [chk] at h; cases h; done) | skip
    rename_i fe args kws pos
    cases fe <;> first | (simp only [chk] at h; cases h; done) | skip
    rename_i y p
    simp only [chk, Bool.and_eq_true, decide_eq_true_eq] at h
    obtain ⟨⟨⟨⟨⟨hc, rfl⟩, hg⟩, ha⟩, hk⟩, _⟩ := h
    obtain ⟨a, fd, ps, hm, hkp, hb, F⟩ := cal
    obtain ⟨g1, g2, g3⟩ := G.glob hg
    refine ⟨fun pins s σ H Q I q => wpAny_Call_Name_kw (ld_glob I g1 hm ?_ g2)⟩
    obtain ⟨ρ, σ3, hh, rs, rp, P⟩ := q
    exact run_args (first := []) hkp ie ik ha hk I rs rp P fun s1 H1 us ws vs zs ρ1 ds zd h1 st I1 rp1 rd re rv rz l1 l2 P1 => run_fnB F (G.run hc).2 hb tk I1 rv rz rd re rp1 l1 l2 P1
/-- an instance as it lies -/
theorem ins_at {K : PySem.W.Frag} {mg : Str → Option Value} {ρ : List Addr} {H : Hp} {h : Hh} {x : D} {v : V} {cl : Nat} {ds : List D} (rp : Rep K mg ρ h H) (rd : RD K ρ H x v) (e : insD x h = some (cl, ds)) :
    ∃ n a C dx vs, x = .ref n ∧ h[n]? = some (.ins cl ds) ∧ v = .ref a ∧ ρ[n]? = some a ∧ H a = some (.ins C dx ((fldN cl).zip vs)) ∧ mg (clsN cl) = some (.ref C) ∧ RDs K ρ H ds vs ∧ ds.length ≤ (fldN cl).length := by
  unfold insD at e
  split at e
  · split at e
    · rename_i n c' ds' e2
      cases e
      cases rd with
      | ref hn =>
        obtain ⟨C, dx, vs, h1, h2, h3, h4⟩ := rp.obj _ _ _ hn e2
        exact ⟨_, _, C, dx, vs, rfl, e2, rfl, hn, h1, h2, h3, h4⟩
    · cases e
  · cases e
theorem lookup_mem {α : Type} {c : Nat} {y : α} : ∀ {tb : List (Nat × α)}, tb.lookup c = some y → (c, y) ∈ tb
  | [], e => by cases e
  | (d, z) :: r, e => by
    rw [List.lookup_cons] at e
    split at e
    · rename_i q
      have : c = d := by simpa using q
      cases e
      simp [this]
    · exact List.mem_cons_of_mem _ (lookup_mem e)
theorem snd_fld (G : Gx X N sc k c) {tb : List (Nat × Nat)} {f : Str} {a : E} (hf : ∀ q ∈ tb, Fld X.K X.mg q.1 q.2 f) (ia : Snd X N sc c W a) : Snd X N sc c W (.fld tb f a) := by
  refine .plain rfl (fun xs => by cases xs <;> rfl) (fun ast h => ?_) (fun ast h => ?_)
  · cases ast <;> first | rfl | (simp only [chk] at h; cases h; done)
  · cases ast <;> first | (simp only [chk] at h; cases h; done) | skip
    rename_i x g pos
    simp only [chk, Bool.and_eq_true, decide_eq_true_eq, Bool.not_eq_true'] at h
    obtain ⟨⟨rfl, h1⟩, h2⟩ := h
    refine PEimp (pe_fld (ia.pe x h1) (base_plain h2)) fun σ H Q q => ?_
    obtain ⟨ρ, σ3, hh, rs, rp, P⟩ := q
    refine ⟨ρ, σ3, hh, rs, rp, (Post.bind (RA := RV X.K) P).imp fun v H1 ⟨ρ1, d, h1, s1, rp1, rd, _, P1⟩ => ?_⟩
    unfold fldR ofO at P1
    split at P1
    · rename_i cl ds ei
      split at P1
      · rename_i i el
        split at P1
        · rename_i y ey
          obtain ⟨n, a, C, dx, vs, _, _, ev, _, ea, hmg, rds, hlen⟩ := ins_at rp1 rd ei
          obtain ⟨fn', C', hmg', cC, na⟩ := hf _ (lookup_mem el)
          rw [hmg] at hmg'
          cases hmg'
          obtain ⟨w, ew, rw'⟩ := rds.get ey
          exact ⟨a, C, dx, _, w, ev, ea, cC, na, zip_look (fld_ok cl).1 fn' ew, P1.here rp1 rw'⟩
        · exact P1.elim
      · exact P1.elim
    · exact P1.elim
/-- o.m(..) is a call of what the class holds -/
theorem meth_eq {o : Expr} {m : Str} {ap pos : Pos} {args : List Expr} {kws : List Keyword} {env : Env} {es kes : E} {ks : List Str} (hb : callB o = false) (ha : chkA N sc c es args = true) (hk : chkK N sc c ks kes kws = true) (hl : (ap.endLine == pos.line) = true) (hn : args.length + kws.length < 28) :
    eval (.Call (.Attribute o m ap) args kws pos) env = (do
      let ov ← eval o env
      standAt ap.atName
      let (f, first) ← holding [ov] (getMethod ov m (do return (← importBound o env).getD true))
      callWith pos f first (backTo pos (starEach args env)) (backToKw pos (keywordEach kws env))) := by
  obtain ⟨k1, _, _⟩ := kw_facts (env := env) (pos := pos) hk
  have h1 := star_any (env := env) (pos := pos) (chkA_star ha)
  have h2 : (backTo pos (starEach args env)).all (fun x => !x.1) = true := by
    rw [List.all_eq_true]
    intro x hx
    rw [List.any_eq_false] at h1
    have := h1 x hx
    simpa using this
  have few : methodCallForm (args.length + kws.length) (backTo pos (starEach args env)) (backToKw pos (keywordEach kws env)) = true := by
    unfold methodCallForm
    rw [h2, k1]
    simp only [Bool.true_and, decide_eq_true_eq]
    split <;> omega
  conv => lhs; unfold eval
  rw [base_plain hb]
  unfold methodCall calleeOf methodCallPos
  rw [few, hl]
  rfl
theorem snd_meth (G : Gx X N sc k c) (tk : Takes X W) {tb : List (Nat × Fn)} {m : Str} {b : Option (List Ar)} {ks : List Str} {o es kes : E} (mt : ∀ q ∈ tb, Mth X.prog X.w X.K X.mg X.base k q.1 m es.alen ks b q.2) (io : Snd X N sc c W o) (ie : Snd X N sc c W es) (ik : Snd X N sc c W kes) :
    Snd X N sc c W (.meth tb m b o es ks kes) := by
  refine .plain rfl (fun xs => by cases xs <;> rfl) (fun ast h => ?_) (fun ast h => ?_)
  · cases ast <;> first | rfl | (simp only [chk] at h; cases h; done)
  · cases ast <;> first | (simp only [chk] at h; cases h; done) | skip
    rename_i fe args kws pos
    cases fe <;> first | (simp only [chk] at h; cases h; done) | skip
    rename_i x n ap
    simp only [chk, Bool.and_eq_true, decide_eq_true_eq, Bool.not_eq_true'] at h
    obtain ⟨⟨⟨⟨⟨⟨⟨⟨hc, rfl⟩, hx⟩, hcb⟩, ha⟩, hk⟩, _⟩, hl⟩, hn⟩ := h
    refine ⟨fun pins s σ H Q I q => ?_⟩
    obtain ⟨ρ, σ3, hh, rs, rp, P⟩ := q
    refine PySem.W.methodCall_KW (thn ((io.pe x hx).run pins s σ H _ I ⟨ρ, σ3, hh, rs, rp, Post.bind (RA := RV X.K) P⟩) fun u s1 ⟨v, H1, I1, rx, ρ1, d, h1, st1, rp1, rd, _, P1⟩ => ?_) (meth_eq hcb ha hk hl hn)
    unfold methR at P1
    split at P1
    · rename_i cl ds ei
      split at P1
      · rename_i f el
        obtain ⟨n', a, C, dx, vs, ex, _, ev, hn', ea, hmg, rds, hlen⟩ := ins_at rp1 rd ei
        subst ex; subst ev
        obtain rfl : u = Value.ref a := rx
        obtain ⟨C', af, fd, ps, hmg', cC, mC, nf, hb, F⟩ := mt _ (lookup_mem el)
        have hmg2 : X.mg (clsN cl) = some (.ref C') := hmg'
        rw [hmg] at hmg2
        cases hmg2
        refine getmeth_ok I1 ea cC mC (zip_none nf) ?_
        refine run_args (first := [.ref a]) mC.kp ie ik ha hk I1 (rs.mono st1) rp1 P1 fun s2 H2 us ws vs zs ρ2 ds zd h2 st I2 rp2 rd2 re2 rv rz l1 l2 P2 => ?_
        exact run_fnB F (G.run hc).2 hb tk I2 (.cons (show RelV (V.ref a) (Value.ref a) from rfl) rv) rz (.cons (.ref (pre_get st.pre hn')) rd2) re2 rp2 (by simp [l1]) l2 P2
      · exact P1.elim
    · exact P1.elim
theorem snd_make (G : Gx X N sc k c) (tk : Takes X W) {cl : Nat} {f : Fn} {b : Option (List Ar)} {ks : List Str} {es kes : E} (mk : Mak X.prog X.w X.K X.mg X.base k cl es.alen ks b f) (ie : Snd X N sc c W es) (ik : Snd X N sc c W kes) : Snd X N sc c W (.make cl f b es ks kes) := by
  refine .plain rfl (fun xs => by cases xs <;> rfl) (fun ast h => ?_) (fun ast h => ?_)
  · cases ast <;> first | rfl | (simp only [chk] at h; cases h; done)
  · cases ast <;> first | (simp only [chk] at h; cases h; done) | skip
    rename_i fe args kws pos
    cases fe <;> first | (simp only [chk] at h; cases h; done) | skip
    rename_i y p
    simp only [chk, Bool.and_eq_true, decide_eq_true_eq] at h
    obtain ⟨⟨⟨⟨⟨hc, rfl⟩, hg⟩, ha⟩, hk⟩, _⟩ := h
    obtain ⟨C, fI, fd, ps, j, rfl, hm, M, hb, F⟩ := mk
    obtain ⟨g1, g2, g3⟩ := G.glob hg
    refine ⟨fun pins s σ H Q I q => wpAny_Call_Name_kw (ld_glob I g1 hm ?_ g2)⟩
    obtain ⟨ρ, σ3, hh, rs, rp, P⟩ := q
    refine run_args (first := []) M.kp ie ik ha hk I rs rp P fun s1 H1 us ws vs zs ρ1 ds zd h1 st I1 rp1 rd re rv rz l1 l2 P1 => ?_
    have hr := (G.run hc).2
    have I2 := Inv.made (C := C) I1
    -- the new instance
    have n1 : H1 (s1.heap.objs.size + 1) = none := I1.hok.fresh (Nat.le_succ _)
    have n0 : H1 s1.heap.objs.size = none := I1.hok.fresh (Nat.le_refl _)
    have ne : s1.heap.objs.size ≠ s1.heap.objs.size + 1 := Nat.ne_of_lt (Nat.lt_succ_self _)
    generalize hq : s1.heap.objs.size = q0 at *
    have kp0 : Keep H1 (upd (upd H1 q0 (.own (q0 + 1))) (q0 + 1) (.ins C q0 [])) := (Keep.new n0).trans (Keep.new (by rw [upd_ne (Ne.symm ne)]; exact n1))
    have st2 : Step ρ1 H1 (ρ1 ++ [q0 + 1]) (upd (upd H1 q0 (.own (q0 + 1))) (q0 + 1) (.ins C q0 [])) := ⟨List.prefix_append _ _, kp0⟩
    have rp2 : Rep X.K X.mg (ρ1 ++ [q0 + 1]) (h1 ++ [.ins cl []]) (upd (upd H1 q0 (.own (q0 + 1))) (q0 + 1) (.ins C q0 [])) := by
      refine rp1.lay n1 kp0 upd_same (fun z hz => ?_) ⟨C, q0, [], ?_, hm, .nil, Nat.zero_le _⟩
      · have z1 : z ≠ q0 + 1 := fun e => rp1.fresh n1 (e ▸ hz)
        have z0 : z ≠ q0 := fun e => rp1.fresh n0 (e ▸ hz)
        rw [upd_ne z1, upd_ne z0]
      · rw [upd_same, List.zip_nil_right]
    have P2 : Post X.K X.mg (RV X.K) (ρ1 ++ [q0 + 1]) (upd (upd H1 q0 (.own (q0 + 1))) (q0 + 1) (.ins C q0 [])) (fun c d H' => W c d σ H') (argsR b (.ref h1.length :: ds) zd f (h1 ++ [.ins cl []])) (fun v H2 => v = .non ∧ Q (.ref (q0 + 1)) H2) := by
      have P3 := Post.from (r := makeR cl f b ds zd h1) P1 st2
      unfold makeR at P3
      cases hR : argsR b (.ref h1.length :: ds) zd f (h1 ++ [.ins cl []]) with
      | bad => rw [hR] at P3; exact P3.elim
      | exc e1 e2 e3 => rw [hR] at P3; exact P3
      | ok d h2 =>
        rw [hR] at P3
        intro ρ' H' v s' rp' rd'
        simp only [bind_ok] at P3
        split at P3
        · cases rd'
          exact ⟨rfl, P3 ρ' H' (.ref (q0 + 1)) s' rp' (.ref (pre_get s'.pre (lay_at rp1)))⟩
        · exact P3.elim
    have rd2 : RDs X.K (ρ1 ++ [q0 + 1]) (upd (upd H1 q0 (.own (q0 + 1))) (q0 + 1) (.ins C q0 [])) (.ref h1.length :: ds) (V.ref (q0 + 1) :: vs) := .cons (.ref (lay_at rp1)) (rd.mono st2)
    have rv2 : Vals (V.ref (q0 + 1) :: vs) (Value.ref (q0 + 1) :: us) := .cons rfl rv
    obtain ⟨as, bt, pk⟩ := hb _ (Value.ref (q0 + 1) :: us) ws I2.kIn (by simp [l1]) l2
    obtain ⟨ys, ry, sp⟩ : ∃ ys, Vals ys as ∧ spF X.K X.mg f ys (upd (upd H1 q0 (.own (q0 + 1))) (q0 + 1) (.ins C q0 [])) (fun v H2 => v = .non ∧ Q (.ref (q0 + 1)) H2) (fun c d H' => W c d σ H') := by
      unfold argsR at P2
      cases b with
      | none =>
        obtain rfl : as = _ := pk
        exact ⟨_, rv2, _, _, _, rd2, rp2, P2⟩
      | some b =>
        dsimp only at P2
        split at P2
        · rename_i xs ex
          obtain ⟨ys, h1, h2⟩ := pick_ok rv2 rz rd2 (re.mono st2) (show Pk X.K _ ws b as from pk) ex
          exact ⟨ys, h1, _, xs, _, h2, rp2, P2⟩
        · exact P2.elim
    refine wpAny_call (make_map (f := fI) I1.kIn M.makes M.init (beq_iff_eq.mp M.fn) ?_)
    rw [hq]
    refine codeAny_mono (F.run _ X.stack _ _ ⟨Value.ref (q0 + 1) :: us, ks.zip ws⟩ as ys _ _ (hr.make C us (ks.zip ws)) (I2.env0.make C us (ks.zip ws)) bt ry sp) fun r s' hq' => ?_
    cases r with
    | error e => exact passAt tk σ pins _ _ e s' I2 hq'
    | ok fl =>
      cases fl with
      | ret u =>
        obtain ⟨v, H', I3, rv, ev, q3⟩ := I2.after hq'
        subst ev
        exact ⟨rv, ⟨V.ref (q0 + 1), H', I3, rfl, q3⟩⟩
      | next => exact False.elim hq'
      | brk => exact False.elim hq'
      | cont => exact False.elim hq'
theorem boot_bi (b : Bi) : (∃ id, bootBuiltins b.name = some (.builtin id) ∧ (X.calm = true → CallR X (.builtin id) (rBi X.K X.mg (biD b)))) ∨ ∃ T, bootBuiltins b.name = some (.type T) ∧ CallR X (.type T) (rBi X.K X.mg (biD b)) := by
  cases b with
  | abs => exact .inl ⟨"abs", by decide +kernel, fun _ => bi_abs⟩
  | len => exact .inl ⟨"len", by decide +kernel, fun _ => bi_len⟩
  | list => exact .inr ⟨"list", by decide +kernel, bi_list⟩
  | min => exact .inl ⟨"min", by decide +kernel, bi_min⟩
  | max => exact .inl ⟨"max", by decide +kernel, bi_max⟩
  | all => exact .inl ⟨"all", by decide +kernel, bi_all⟩
  | any => exact .inl ⟨"any", by decide +kernel, bi_any⟩
  | tuple => exact .inr ⟨"tuple", by decide +kernel, bi_tuple⟩
theorem snd_bi (G : Gx X N sc k c) {b : Bi} {es : E} (hm : X.mg b.name = none) (ie : Snd X N sc c W es) : Snd X N sc c W (.bi b es) := by
  refine .plain rfl (fun xs => by cases xs <;> rfl) (fun ast h => ?_) (fun ast h => ?_)
  · cases ast <;> first | rfl | (simp only [chk] at h; cases h; done)
  · cases ast <;> first | (simp only [chk] at h; cases h; done) | skip
    rename_i fe args kws pos
    cases fe <;> first | (simp only [chk] at h; cases h; done) | skip
    rename_i y p
    cases kws with
    | cons _ _ => simp only [chk] at h; cases h
    | nil =>
      simp only [chk, Bool.and_eq_true, decide_eq_true_eq, Bool.not_eq_true'] at h
      obtain ⟨⟨⟨⟨hc, rfl⟩, hg⟩, ha⟩, hne⟩ := h
      obtain ⟨g1, g2, g3⟩ := G.glob hg
      cases args with
      | nil => cases hne
      | cons e es' =>
        have st := chkA_star ha
        have fin : ∀ σ H Q, rE X.K X.mg (fun σ h => ((den es).a σ h).bind (biD b)) W σ H Q → tCB (rBi X.K X.mg (biD b)) (rA X.K X.mg (den es).a W) σ H Q := fun σ H Q q => by
          obtain ⟨ρ, σ3, hh, rs, rp, P⟩ := q
          refine ⟨ρ, σ3, hh, rs, rp, (Post.bind (RA := RL X.K) P).imp fun vs H1 ⟨ρ1, ds, h1, s1, rp1, rd, _, P1⟩ => ?_⟩
          exact ⟨ρ1, ds, h1, _, rd, rp1, P1⟩
        rcases boot_bi (X := X) b with ⟨id, hv, hr⟩ | ⟨T, hv, hr⟩
        · exact PEimp (pe_callB (hr (G.run hc).1) g1 hm hv (ie.pa _ ha) g3 g2 (star_cons (st e List.mem_cons_self)) (star_any fun z hz => st z (List.mem_cons_of_mem _ hz))) fin
        · exact PEimp (pe_callTy hr g1 hm hv (ie.pa _ ha) g3 g2 (star_cons (st e List.mem_cons_self)) (star_any fun z hz => st z (List.mem_cons_of_mem _ hz))) fin
theorem ty_of {K : PySem.W.Frag} {mg : Str → Option Value} {ρ : List Addr} {H : Hp} {h : Hh} {x : D} {v : V} {s : Kd} (T : Ty) (rp : Rep K mg ρ h H) (r : RD K ρ H x v) (e : tyD x h = some s) : TyX K H v (.type s.name) ∧ kitB s.name T.name = some (isTy s T) := by
  unfold tyD at e
  split at e
  · cases e; cases r; exact ⟨.base .non, by cases T <;> decide +kernel⟩
  · cases e; cases r; exact ⟨.base (.bl _), by cases T <;> decide +kernel⟩
  · cases e; cases r; exact ⟨.base (.int _), by cases T <;> decide +kernel⟩
  · cases e; cases r; exact ⟨.base (.str _), by cases T <;> decide +kernel⟩
  · cases e
    cases r with
    | tup hq rs =>
      refine ⟨?_, by cases T <;> decide +kernel⟩
      rcases hq with (hq | ⟨o, hq⟩) | ⟨o, its, n, hk, hc, _⟩
      · exact .base (.tup hq)
      · exact .fTuple hq
      · exact .kTuple hk hc
  · cases e
    cases r with
    | rol hq rs =>
      refine ⟨?_, by cases T <;> decide +kernel⟩
      rcases hq with ⟨o, hq⟩ | ⟨o, its, n, hk, hc, _⟩
      · exact .base (.frz hq)
      · exact .kList hk hc
  · cases e
  · split at e
    · rename_i hx
      cases e
      obtain ⟨a, vs, rfl, hn, g, rs⟩ := lst_at rp r hx
      exact ⟨.base (.lst g), by cases T <;> decide +kernel⟩
    · rename_i hx
      cases e
      cases r with
      | ref hn =>
        obtain ⟨vks, e1, rk⟩ := rp.obj _ _ _ hn hx
        exact ⟨.base (.dK e1), by cases T <;> decide +kernel⟩
    · cases e
theorem boot_ty (t : Ty) : bootBuiltins (Str.ofString t.name) = some (.type t.name) := by cases t <;> decide +kernel
theorem snd_isi (G : Gx X N sc k c) {a : E} {t : Ty} (hi : X.mg "isinstance" = none) (ht : X.mg (Str.ofString t.name) = none) (ia : Snd X N sc c W a) : Snd X N sc c W (.isi a t) := by
  refine .plain rfl (fun xs => by cases xs <;> rfl) (fun ast h => ?_) (fun ast h => ?_)
  · cases ast <;> first | rfl | (simp only [chk] at h; cases h; done)
  · cases ast <;> first | (simp only [chk] at h; cases h; done) | skip
    rename_i fe args kws pos
    cases fe <;> first | (simp only [chk] at h; cases h; done) | skip
    rename_i y p
    match args, kws, h with
    | [], _, h => simp only [chk] at h; cases h
    | [_], _, h => simp only [chk] at h; cases h
    | _ :: _ :: _ :: _, _, h => simp only [chk] at h; cases h
    | [x, z], _ :: _, h => cases z <;> (simp only [chk] at h; cases h; done)
    | [x, z], [], h =>
      cases z <;> first | (simp only [chk] at h; cases h; done) | skip
      rename_i z pz
      simp only [chk, Bool.and_eq_true, decide_eq_true_eq, Bool.not_eq_true'] at h
      obtain ⟨⟨⟨⟨⟨rfl, h1⟩, rfl⟩, h2⟩, h3⟩, h4⟩ := h
      obtain ⟨g1, g2, g3⟩ := G.glob h1
      obtain ⟨q1, q2, q3⟩ := G.glob h2
      refine PEimp (pe_callB call_isi g1 hi (by decide +kernel) (pa_cons (ia.pe x h3) (pa_cons (pe_bltn (v := .ty t.name) q1 ht (boot_ty t) rfl q3 q2) pa_nil) (star_cons h4)) g3 g2 (star_cons h4) rfl) fun σ H Q q => ?_
      obtain ⟨ρ, σ3, hh, rs, rp, P⟩ := q
      refine ⟨ρ, σ3, hh, rs, rp, (Post.bind (RA := RV X.K) P).imp fun v H1 ⟨ρ1, d, h1, s1, rp1, rd, _, P1⟩ => ?_⟩
      unfold isiR at P1
      split at P1
      · rename_i s es
        obtain ⟨ty, kb⟩ := ty_of t rp1 rd es
        exact ⟨v, _, _, _, _, rfl, .ty t.name, ty, kit_ty kb, P1.here rp1 (.bl _)⟩
      · exact P1.elim

/-- a method of a list, by values -/
def rBm (K : PySem.W.Frag) (mg : Str → Option Value) (m : Bm) : V → List V → Hp → VK → Prop := fun x vs H Q => ∃ ρ d ds h E, RD K ρ H d x ∧ RDs K ρ H ds vs ∧ Rep K mg ρ h H ∧ Post K mg (RV K) ρ H E (bmD m d ds h) Q
theorem rds_dropLast {K : PySem.W.Frag} {ρ : List Addr} {H : Hp} {ds : List D} {vs : List V} (r : RDs K ρ H ds vs) : RDs K ρ H ds.dropLast vs.dropLast := by
  rw [List.dropLast_eq_take, List.dropLast_eq_take, r.length]
  exact r.take _
theorem bm_append : MtR X "list.append" (rBm X.K X.mg .append) := by
  intro pins s σ H x xs v us Q I rx r hr
  obtain ⟨ρ, d, ds, h, E, rd, rs, rp, P⟩ := hr
  unfold bmD at P
  split at P
  · rename_i n y e1
    split at P
    · rename_i ys e2
      split at P
      · rename_i hl
        obtain ⟨a, vs, rfl, hn, g, rl⟩ := lst_at rp rd e2
        cases rs with
        | cons r1 r2 =>
          cases r2
          refine mt_append pins s σ H _ _ v us Q I rx r ⟨a, vs, _, rfl, rfl, g, by rw [← rl.length]; exact hl, ?_⟩
          obtain ⟨rp', st⟩ := rp.put (o' := .lst (ys ++ [y])) (u := .lst (vs ++ [_])) hn fun st => ⟨_, upd_same, (rl.append (.cons r1 .nil)).mono st⟩
          exact P.to st rp' .non
      · exact P.elim
    · exact P.elim
  · rename_i e1; cases e1
  · exact P.elim
theorem bm_pop : MtR X "list.pop" (rBm X.K X.mg .pop) := by
  intro pins s σ H x xs v us Q I rx r hr
  obtain ⟨ρ, d, ds, h, E, rd, rs, rp, P⟩ := hr
  unfold bmD at P
  split at P
  · rename_i e1; cases e1
  · rename_i n e1
    split at P
    · rename_i ys e2
      split at P
      · rename_i y ey
        obtain ⟨a, vs, rfl, hn, g, rl⟩ := lst_at rp rd e2
        cases rs
        obtain ⟨w, ew, rw'⟩ := rl.get ey
        refine mt_pop pins s σ H _ _ v us Q I rx r ⟨a, vs, w, rfl, rfl, g, by rw [← rl.length]; exact ew, ?_⟩
        obtain ⟨rp', st⟩ := rp.put (o' := .lst ys.dropLast) (u := .lst vs.dropLast) hn fun st => ⟨_, upd_same, (rds_dropLast rl).mono st⟩
        exact P.to st rp' (rw'.mono st)
      · exact P.elim
    · exact P.elim
  · exact P.elim
theorem bm_ty {K : PySem.W.Frag} {mg : Str → Option Value} {ρ : List Addr} {H : Hp} {h : Hh} {d : D} {v : V} {m : Bm} (rp : Rep K mg ρ h H) (r : RD K ρ H d v) (e : bmOk m d h = true) : tyV K "list" v H := by
  unfold bmOk at e
  split at e
  · split at e
    · rename_i hx
      obtain ⟨a, vs, rfl, hn, g, rs⟩ := lst_at rp r hx
      exact .inl ⟨rfl, _, SqL.of g⟩
    · cases e
  · cases e
theorem few_of {cp : Pos} {env : Env} {es : List Expr} (h : ∀ e ∈ es, starB e = false) (hl : es.length < 30) :
    ((backTo cp (starEach es env)).all (fun x => !x.1) && (backToKw cp (keywordEach [] env)).all (fun x => x.1.isSome) && decide (es.length + ([] : List Keyword).length + (if ([] : List Keyword).isEmpty then 0 else 1) < 30)) = true := by
  have h1 := star_any (env := env) (pos := cp) h
  have h2 : (backTo cp (starEach es env)).all (fun x => !x.1) = true := by
    rw [List.all_eq_true]
    intro x hx
    rw [List.any_eq_false] at h1
    have := h1 x hx
    simpa using this
  rw [h2]
  have h3 : decide (es.length + ([] : List Keyword).length + (if ([] : List Keyword).isEmpty then 0 else 1) < 30) = true := by
    simp only [List.length_nil, List.isEmpty_nil, if_true]
    exact decide_eq_true (by omega)
  rw [h3]
  rfl
theorem snd_bm (G : Gx X N sc k c) {m : Bm} {o es : E} (io : Snd X N sc c W o) (ie : Snd X N sc c W es) : Snd X N sc c W (.bm m o es) := by
  refine .plain rfl (fun xs => by cases xs <;> rfl) (fun ast h => ?_) (fun ast h => ?_)
  · cases ast <;> first | rfl | (simp only [chk] at h; cases h; done)
  · cases ast <;> first | (simp only [chk] at h; cases h; done) | skip
    rename_i fe args kws cp
    cases fe <;> first | (simp only [chk] at h; cases h; done) | skip
    rename_i x n ap
    cases kws with
    | cons _ _ => simp only [chk] at h; cases h
    | nil =>
      simp only [chk, Bool.and_eq_true, decide_eq_true_eq, Bool.not_eq_true'] at h
      obtain ⟨⟨⟨⟨⟨rfl, hx⟩, hcb⟩, ha⟩, hline⟩, hl⟩ := h
      have st := chkA_star ha
      have hline' : (ap.endLine == cp.line) = true := by rw [hline]; exact beq_self_eq_true _
      have fin : ∀ σ H Q, rE X.K X.mg (fun σ h => ((den o).v σ h).bind fun x h1 => if bmOk m x h1 = true then ((den es).a σ h1).bind fun ds h2 => bmD m x ds h2 else .bad) W σ H Q →
          tBM X.K "list" (rBm X.K X.mg m) (rE X.K X.mg (den o).v W) (rA X.K X.mg (den es).a W) σ H Q := fun σ H Q q => by
        obtain ⟨ρ, σ3, hh, rs, rp, P⟩ := q
        refine ⟨ρ, σ3, hh, rs, rp, (Post.bind (RA := RV X.K) P).imp fun v H1 ⟨ρ1, d, h1, s1, rp1, rd, _, P1⟩ => ?_⟩
        split at P1
        · rename_i hok
          refine ⟨bm_ty rp1 rd hok, ρ1, σ3, h1, rs.mono s1, rp1, (Post.bind (RA := RL X.K) P1).imp fun vs H2 ⟨ρ2, ds, h2, s2, rp2, rds, _, P2⟩ => ?_⟩
          exact ⟨ρ2, d, ds, h2, _, rd.mono s2, rds, rp2, P2⟩
        · exact P1.elim
      have fin0 : es = .nil → ∀ σ H Q, rE X.K X.mg (fun σ h => ((den o).v σ h).bind fun x h1 => if bmOk m x h1 = true then ((den es).a σ h1).bind fun ds h2 => bmD m x ds h2 else .bad) W σ H Q →
          tBM0 X.K "list" (rBm X.K X.mg m) (rE X.K X.mg (den o).v W) σ H Q := fun e σ H Q q => by
        subst e
        obtain ⟨ρ, σ3, hh, rs, rp, P⟩ := q
        refine ⟨ρ, σ3, hh, rs, rp, (Post.bind (RA := RV X.K) P).imp fun v H1 ⟨ρ1, d, h1, s1, rp1, rd, _, P1⟩ => ?_⟩
        split at P1
        · rename_i hok
          exact ⟨bm_ty rp1 rd hok, ρ1, d, [], h1, _, rd, .nil, rp1, P1⟩
        · exact P1.elim
      cases args with
      | nil =>
        have e : es = .nil := by cases es <;> first | rfl | (simp only [chkA] at ha; cases ha)
        cases m with
        | append => exact PEimp (pe_bm0 PySem.F.plainAttrs_list PySem.F.slot_list_append PySem.F.type_list_append bm_append (io.pe x hx) (base_plain hcb) hline') (fin0 e)
        | pop => exact PEimp (pe_bm0 PySem.F.plainAttrs_list PySem.F.slot_list_pop PySem.F.type_list_pop bm_pop (io.pe x hx) (base_plain hcb) hline') (fin0 e)
      | cons e es' =>
        have s1 := star_cons (es := es') (env := X.env) (st e List.mem_cons_self)
        have s2 := star_any (env := X.env) (pos := cp) (es := es') fun z hz => st z (List.mem_cons_of_mem _ hz)
        cases m with
        | append => exact PEimp (pe_bm PySem.F.plainAttrs_list PySem.F.slot_list_append PySem.F.type_list_append bm_append (io.pe x hx) (ie.pa _ ha) (base_plain hcb) (few_of st hl) hline' s1 s2) fin
        | pop => exact PEimp (pe_bm PySem.F.plainAttrs_list PySem.F.slot_list_pop PySem.F.type_list_pop bm_pop (io.pe x hx) (ie.pa _ ha) (base_plain hcb) (few_of st hl) hline' s1 s2) fin
theorem snd_rng (G : Gx X N sc k c) {es : E} (hm : X.mg "range" = none) (ie : Snd X N sc c W es) : Snd X N sc c W (.rng es) := by
  have bad : ∀ ast, PE X ast (rE X.K X.mg (den (.rng es)).v W) := fun ast => ⟨fun pins s σ H Q I q => by obtain ⟨_, _, _, _, _, P⟩ := q; exact P.elim⟩
  refine ⟨fun ast h => bad ast, fun ast h => ⟨fun pins s σ H Q I q => by obtain ⟨_, _, _, _, _, P⟩ := q; exact P.elim⟩, fun o xs p h => ?_, fun xs h => ?_, fun ast h => po_of (bad ast), fun tg ast _ h => ?_, fun ks kws h => by cases ks <;> cases kws <;> cases h⟩
  · simp only [chk] at h; cases h
  · cases xs <;> cases h
  · cases ast <;> first | (simp only [chk] at h; cases h; done) | skip
    rename_i fe args kws pos
    cases fe <;> first | (simp only [chk] at h; cases h; done) | skip
    rename_i y p
    cases kws with
    | cons _ _ => simp only [chk] at h; cases h
    | nil =>
      simp only [chk, Bool.and_eq_true, decide_eq_true_eq] at h
      rw [Bool.or_eq_true, decide_eq_true_eq, decide_eq_true_eq] at h
      obtain ⟨⟨⟨rfl, hg⟩, ha⟩, hl⟩ := h
      obtain ⟨g1, g2, g3⟩ := G.glob hg
      have st := chkA_star ha
      have never : ∀ σ H R, rIt X.K X.mg (den (.rng es)).i W σ H R → (rA X.K X.mg (den es).a W) σ H fun vs H1 => vs.length = args.length ∧ ((∃ j : Int, vs = [.int j] ∧ -(2 ^ 62) ≤ j ∧ j < 2 ^ 62 ∧ R (Itr 0 j.toNat) H1) ∨
          (∃ i j : Int, vs = [.int i, .int j] ∧ (-(2 ^ 62) ≤ i ∧ i < 2 ^ 62 ∧ -(2 ^ 62) ≤ j ∧ j < 2 ^ 62) ∧ R (Itr i (j - i).toNat) H1)) := fun σ H R q => by
        obtain ⟨ρ, σ3, hh, rs, rp, P⟩ := q
        refine ⟨ρ, σ3, hh, rs, rp, (Post.bind (RA := RL X.K) (r := (den es).a σ3 hh) P).imp fun vs H1 ⟨ρ1, ds, h1, s1, rp1, rds, eA, P1⟩ => ?_⟩
        refine ⟨by rw [← rds.length]; exact evA_len ha eA, ?_⟩
        unfold rngR rngD at P1
        split at P1
        · rename_i xs e
          split at e
          · split at e
            · rename_i j hb
              cases e
              cases rds with
              | cons r1 r2 =>
                cases r2; cases r1
                refine .inl ⟨_, rfl, hb.1, hb.2, P1.here rp1 ?_⟩
                have w := wk_rng (K := X.K) (mg := X.mg) (ρ := ρ1) (H := H1) (lo := 0) (n := j.toNat)
                simpa using w
            · cases e
          · split at e
            · rename_i hb
              cases e
              cases rds with
              | cons r1 r2 =>
                cases r2 with
                | cons r2 r3 =>
                  cases r3; cases r1; cases r2
                  exact .inr ⟨_, _, rfl, hb, P1.here rp1 wk_rng⟩
            · cases e
          · cases e
        · exact P1.elim
      match args, ha, st, hl, never with
      | [], ha, st, hl, never => simp at hl
      | [a], ha, st, hl, never =>
        refine PIimp (pi_range1 g1 hm (ie.pa _ ha) (star_cons (st a List.mem_cons_self))) fun σ H R q => ?_
        obtain ⟨ρ, σ3, hh, rs, rp, P⟩ := never σ H R q
        refine ⟨ρ, σ3, hh, rs, rp, P.imp fun vs H1 ⟨e, z⟩ => ?_⟩
        rcases z with z | ⟨i, j, rfl, _⟩
        · exact z
        · simp at e
      | [a, b], ha, st, hl, never =>
        have sb := st b (List.mem_cons_of_mem _ List.mem_cons_self)
        refine PIimp (pi_range2 g1 hm (ie.pa _ ha) (by rw [star_cons (st a List.mem_cons_self), star_cons sb]; rfl) (star_cons sb)) fun σ H R q => ?_
        obtain ⟨ρ, σ3, hh, rs, rp, P⟩ := never σ H R q
        refine ⟨ρ, σ3, hh, rs, rp, P.imp fun vs H1 ⟨e, z⟩ => ?_⟩
        rcases z with ⟨j, rfl, _⟩ | z
        · simp at e
        · exact z
      | a :: b :: d :: r, ha, st, hl, never => simp at hl
end
end L3

namespace L3
open PySem L2

section
variable {X : Cx} {N : List Str} {sc : Scope} {c : Bool} {W : WX} {k : Nat}
theorem lstA_at {K : PySem.W.Frag} {mg : Str → Option Value} {ρ : List Addr} {H : Hp} {h : Hh} {x : D} {v : V} {n : Nat} {xs : List D} (rp : Rep K mg ρ h H) (rd : RD K ρ H x v) (e : lstA x h = some (n, xs)) :
    ∃ a vs, x = .ref n ∧ h[n]? = some (.lst xs) ∧ v = .ref a ∧ ρ[n]? = some a ∧ H a = some (.lst vs) ∧ RDs K ρ H xs vs := by
  unfold lstA at e
  split at e
  · split at e
    · rename_i n' xs' e2
      cases e
      obtain ⟨a, vs, e1, hn, g, r⟩ := lst_at rp rd e2
      exact ⟨a, vs, rfl, e2, e1, hn, g, r⟩
    · cases e
  · cases e
theorem numD_get : ∀ (xs : List D) (n i : Nat), (numD n xs)[i]? = (xs[i]?).map fun x => .tup [.int ((n + i : Nat) : Int), x]
  | [], n, i => by simp [numD]
  | x :: xs, n, 0 => by simp [numD]
  | x :: xs, n, i + 1 => by
    simp only [numD, List.getElem?_cons_succ]
    rw [numD_get xs (n + 1) i]
    congr 1
    funext y
    congr 3
    omega
theorem numD_len : ∀ (xs : List D) (n : Nat), (numD n xs).length = xs.length
  | [], _ => rfl
  | _ :: xs, n => by simp [numD, numD_len xs (n + 1)]
theorem wk_enum {K : PySem.W.Frag} {mg : Str → Option Value} {ρ : List Addr} {H : Hp} {n : Nat} {xs : List D} {a : Addr} (hn : ρ[n]? = some a) : Wk K mg ρ H (numD 0 xs, [(n, xs)]) (Ite K a) := fun i ρ2 H2 h2 s rp g => by
  obtain ⟨ys, ey, rfl⟩ := g _ List.mem_cons_self
  have hn2 := pre_get s.pre hn
  obtain ⟨vs, e1, r⟩ := rp.obj _ _ _ hn2 ey
  have hq : SqL K H2 a vs := SqL.of e1
  refine ⟨fun d hd => ?_, fun hl => ⟨vs, hq, by rw [← r.length]; rw [numD_len] at hl; exact hl⟩⟩
  dsimp only at hd
  rw [numD_get] at hd
  obtain ⟨x0, ex0, rfl⟩ := Option.map_eq_some_iff.mp hd
  obtain ⟨v, ev, rv⟩ := r.get ex0
  refine ⟨⟨vs, v, hq, ev⟩, fun x H3 y => ?_⟩
  obtain ⟨T, x1, rfl, hT, rfl, hx1⟩ := y
  have e := hx1 vs hq
  rw [ev] at e
  cases e
  have st : Step ρ2 H2 ρ2 (upd H2 T (.tup [.int ((i : Nat) : Int), v])) := Step.beside hT
  refine ⟨st, rp.beside hT, .tup (.inl (.inl upd_same)) (.cons ?_ (.cons (rv.mono st) .nil))⟩
  rw [Nat.zero_add]
  exact .int _
theorem snd_enum (G : Gx X N sc k c) {a : E} (hm : X.mg "enumerate" = none) (ia : Snd X N sc c W a) : Snd X N sc c W (.enum a) := by
  have bad : ∀ ast, PE X ast (rE X.K X.mg (den (.enum a)).v W) := fun ast => ⟨fun pins s σ H Q I q => by obtain ⟨_, _, _, _, _, P⟩ := q; exact P.elim⟩
  refine ⟨fun ast h => bad ast, fun ast h => ⟨fun pins s σ H Q I q => by obtain ⟨_, _, _, _, _, P⟩ := q; exact P.elim⟩, fun o xs p h => ?_, fun xs h => ?_, fun ast h => po_of (bad ast), fun tg ast ht h => ?_, fun ks kws h => by cases ks <;> cases kws <;> cases h⟩
  · simp only [chk] at h; cases h
  · cases xs <;> cases h
  · have htt := ht rfl
    cases tg <;> first | (cases htt; done) | skip
    cases ast <;> first | (simp only [chk] at h; cases h; done) | skip
    rename_i fe args kws pos
    cases fe <;> first | (simp only [chk] at h; cases h; done) | skip
    rename_i y p
    match args, kws, h with
    | [], _, h => simp only [chk] at h; cases h
    | _ :: _ :: _, _, h => simp only [chk] at h; cases h
    | [x], _ :: _, h => simp only [chk] at h; cases h
    | [x], [], h =>
      simp only [chk, Bool.and_eq_true, decide_eq_true_eq, Bool.not_eq_true'] at h
      obtain ⟨⟨⟨rfl, hg⟩, hx⟩, hs⟩ := h
      obtain ⟨g1, g2, g3⟩ := G.glob hg
      refine PIimp (pi_enum g1 hm (pa_cons (ia.pe x hx) pa_nil (star_cons hs)) (by rw [star_cons hs]; rfl)) fun σ H R q => ?_
      obtain ⟨ρ, σ3, hh, rs, rp, P⟩ := q
      refine ⟨ρ, σ3, hh, rs, rp, (Post.bind (RA := RV X.K) (r := (den a).v σ3 hh) P).imp fun v H1 ⟨ρ1, d, h1, s1, rp1, rd, _, P1⟩ => ?_⟩
      unfold enumR at P1
      split at P1
      · rename_i n xs e
        obtain ⟨al, vs, rfl, eh, rfl, hn, gl, rl⟩ := lstA_at rp1 rd e
        exact ⟨al, vs, rfl, SqL.of gl, P1.here rp1 (wk_enum hn)⟩
      · exact P1.elim
theorem wk_rev {K : PySem.W.Frag} {mg : Str → Option Value} {ρ : List Addr} {H : Hp} {n : Nat} {xs : List D} {a : Addr} (hn : ρ[n]? = some a) {m : Nat} (hm : m = xs.length) : Wk K mg ρ H (xs.reverse, [(n, xs)]) (Itv K a m) := fun i ρ2 H2 h2 s rp g => by
  obtain ⟨ys, ey, rfl⟩ := g _ List.mem_cons_self
  have hn2 := pre_get s.pre hn
  obtain ⟨vs, e1, r⟩ := rp.obj _ _ _ hn2 ey
  have hq : SqL K H2 a vs := SqL.of e1
  refine ⟨fun d hd => ?_, fun hl => by show m ≤ i; rw [hm]; simpa using hl⟩
  dsimp only at hd hm
  have hi : i < ys.length := by
    have := (List.getElem?_eq_some_iff.mp hd).1
    simpa using this
  rw [List.getElem?_reverse hi, ← hm] at hd
  obtain ⟨v, ev, rv⟩ := r.get hd
  refine ⟨⟨by rw [hm]; exact hi, vs, v, hq, ev⟩, fun x H3 y => ?_⟩
  obtain ⟨rfl, y⟩ := y
  have e := y vs hq
  rw [ev] at e
  cases e
  exact ⟨Step.refl _ _, rp, rv⟩
theorem snd_rev (G : Gx X N sc k c) {a : E} (hm : X.mg "reversed" = none) (ia : Snd X N sc c W a) : Snd X N sc c W (.rev a) := by
  have bad : ∀ ast, PE X ast (rE X.K X.mg (den (.rev a)).v W) := fun ast => ⟨fun pins s σ H Q I q => by obtain ⟨_, _, _, _, _, P⟩ := q; exact P.elim⟩
  refine ⟨fun ast h => bad ast, fun ast h => ⟨fun pins s σ H Q I q => by obtain ⟨_, _, _, _, _, P⟩ := q; exact P.elim⟩, fun o xs p h => ?_, fun xs h => ?_, fun ast h => po_of (bad ast), fun tg ast ht h => ?_, fun ks kws h => by cases ks <;> cases kws <;> cases h⟩
  · simp only [chk] at h; cases h
  · cases xs <;> cases h
  · cases ast <;> first | (simp only [chk] at h; cases h; done) | skip
    rename_i fe args kws pos
    cases fe <;> first | (simp only [chk] at h; cases h; done) | skip
    rename_i y p
    match args, kws, h with
    | [], _, h => simp only [chk] at h; cases h
    | _ :: _ :: _, _, h => simp only [chk] at h; cases h
    | [x], _ :: _, h => simp only [chk] at h; cases h
    | [x], [], h =>
      simp only [chk, Bool.and_eq_true, decide_eq_true_eq, Bool.not_eq_true'] at h
      obtain ⟨⟨⟨rfl, hg⟩, hx⟩, hs⟩ := h
      obtain ⟨g1, g2, g3⟩ := G.glob hg
      refine PIimp (RT.pi_revA g1 hm (ia.pe x hx) (star_cons hs)) fun σ H R q => ?_
      obtain ⟨ρ, σ3, hh, rs, rp, P⟩ := q
      refine ⟨ρ, σ3, hh, rs, rp, (Post.bind (RA := RV X.K) (r := (den a).v σ3 hh) P).imp fun v H1 ⟨ρ1, d, h1, s1, rp1, rd, _, P1⟩ => ?_⟩
      unfold revR at P1
      split at P1
      · rename_i n xs e
        obtain ⟨al, vs, rfl, eh, rfl, hn, gl, rl⟩ := lstA_at rp1 rd e
        exact ⟨al, vs, rfl, .inl ⟨SqL.of gl, P1.here rp1 (wk_rev hn rl.length.symm)⟩⟩
      · exact P1.elim
theorem snd_rsl (G : Gx X N sc k c) {a : E} (ia : Snd X N sc c W a) : Snd X N sc c W (.rsl a) := by
  have key : ∀ ast, chk N sc c (.rsl a) ast = true → ∃ x k1 p1 p2 p3 p4, ast = .Subscript x (.Slice none none (some (.UnaryOp .USub (.Constant (.int 1) k1 p1) p2)) p3) p4 ∧ chk N sc c a x = true := fun ast h => by
    unfold chk at h
    split at h <;> first | (cases h; done) | (rename_i q _; cases q; done) | skip
    all_goals first | (rename_i q; cases q; done) | skip
    all_goals exact ⟨_, _, _, _, _, _, rfl, by simp_all⟩
  refine .plain rfl (fun xs => by cases xs <;> rfl) (fun ast h => ?_) (fun ast h => ?_)
  · obtain ⟨_, _, _, _, _, _, rfl, _⟩ := key ast h; rfl
  · obtain ⟨x, k1, p1, p2, p3, p4, rfl, hx⟩ := key ast h
    refine PEimp (pe_revL (ia.pe x hx)) fun σ H Q q => ?_
    obtain ⟨ρ, σ3, hh, rs, rp, P⟩ := q
    refine ⟨ρ, σ3, hh, rs, rp, (Post.bind (RA := RV X.K) (r := (den a).v σ3 hh) P).imp fun v H1 ⟨ρ1, d, h1, s1, rp1, rd, _, P1⟩ => ?_⟩
    unfold rslR at P1
    split at P1
    · rename_i n xs e
      obtain ⟨al, vs, rfl, eh, rfl, hn, gl, rl⟩ := lstA_at rp1 rd e
      exact ⟨al, vs, rfl, SqL.of gl, fun p hp => P1.to (lay_step hp) (rp1.layL hp rl.reverse) (.ref (lay_at rp1))⟩
    · exact P1.elim
theorem rds_range {K : PySem.W.Frag} {ρ : List Addr} {H : Hp} (i : Int) : ∀ (l : List Nat), RDs K ρ H (l.map fun (k : Nat) => D.int (i + k)) (l.map fun (k : Nat) => V.int (i + k))
  | [] => .nil
  | _ :: l => .cons (.int _) (rds_range i l)
theorem snd_lrng (G : Gx X N sc k c) {a b : E} (hl : X.mg "list" = none) (hm : X.mg "range" = none) (ia : Snd X N sc c W a) (ib : Snd X N sc c W b) : Snd X N sc c W (.lrng a b) := by
  have key : ∀ ast, chk N sc c (.lrng a b) ast = true → ∃ y p z p2 u v p3 p4, ast = .Call (.Name y p) [.Call (.Name z p2) [u, v] [] p3] [] p4 ∧ (c && decide (y = ("list" : Str)) && globB sc y && decide (z = ("range" : Str)) && globB sc z && chk N sc c a u && chk N sc c b v && !starB u && !starB v) = true := fun ast h => by
    unfold chk at h
    split at h <;> first | (cases h; done) | (rename_i q _; cases q; done) | skip
    all_goals first | (rename_i q; cases q; done) | skip
    all_goals (rename_i q; obtain ⟨rfl, rfl⟩ := E.lrng.inj q)
    all_goals exact ⟨_, _, _, _, _, _, _, _, rfl, h⟩
  refine .plain rfl (fun xs => by cases xs <;> rfl) (fun ast h => ?_) (fun ast h => ?_)
  · obtain ⟨_, _, _, _, _, _, _, _, rfl, _⟩ := key ast h; rfl
  · obtain ⟨y, p, z, p2, u, v, p3, p4, rfl, hk⟩ := key ast h
    simp only [Bool.and_eq_true, decide_eq_true_eq, Bool.not_eq_true'] at hk
    obtain ⟨⟨⟨⟨⟨⟨⟨⟨hc, rfl⟩, hg⟩, rfl⟩, hg2⟩, hu⟩, hv⟩, su⟩, sv⟩ := hk
    obtain ⟨g1, g2, g3⟩ := G.glob hg
    obtain ⟨q1, q2, q3⟩ := G.glob hg2
    refine PEimp (pe_listRg (G.run hc).1 g1 hl (prg_2 q1 hm (ia.pe u hu) (ib.pe v hv) (star_cons su) (star_cons sv) (star_any fun e he => by simp at he; rw [he]; exact sv)) rfl) fun σ H Q q => ?_
    obtain ⟨ρ, σ3, hh, rs, rp, P⟩ := q
    refine ⟨ρ, σ3, hh, rs, rp, (Post.bind (RA := RV X.K) (r := (den a).v σ3 hh) P).imp fun x H1 ⟨ρ1, d, h1, s1, rp1, rd, _, P1⟩ => ?_⟩
    refine ⟨ρ1, σ3, h1, rs.mono s1, rp1, (Post.bind (RA := RV X.K) (r := (den b).v σ3 h1) P1).imp fun y H2 ⟨ρ2, d2, h2, s2, rp2, rd2, _, P2⟩ => ?_⟩
    unfold lrngR at P2
    split at P2
    · split at P2
      · rename_i hb
        cases rd; cases rd2
        refine ⟨_, _, rfl, rfl, ⟨hb.1, hb.2.1, hb.2.2.1, hb.2.2.2.1, hb.2.2.2.2⟩, fun q hq => ?_⟩
        exact P2.to (lay_step hq) (rp2.layL hq (rds_range _ _)) (.ref (lay_at rp2))
      · exact P2.elim
    · exact P2.elim
/-- what the check lets through nowhere -/
theorem snd_none {e : E} {v : Sl → Hh → Res D} (hd : den e = .of v) (h0 : ∀ ast, chk N sc c e ast = false) (hA : ∀ xs, chkA N sc c e xs = false) (hK : ∀ ks kws, chkK N sc c ks e kws = false) : Snd X N sc c W e :=
  .plain hd hA (fun ast h => by rw [h0] at h; cases h) (fun ast h => by rw [h0] at h; cases h) hK
end
end L3

namespace L3
open PySem L2

section
variable {X : Cx} {N : List Str} {sc : Scope} {c : Bool} {W : WX} {k : Nat}
theorem snd_leno (G : Gx X N sc k c) (tk : Takes X W) {tb : List (Nat × Fn)} {o : E} (hl : X.mg "len" = none) (ln : ∀ q ∈ tb, Lno X.prog X.w X.K X.mg X.base k q.1 q.2) (io : Snd X N sc c W o) : Snd X N sc c W (.leno tb o) := by
  refine .plain rfl (fun xs => by cases xs <;> rfl) (fun ast h => ?_) (fun ast h => ?_)
  · cases ast <;> first | rfl | (simp only [chk] at h; cases h; done)
  · cases ast <;> first | (simp only [chk] at h; cases h; done) | skip
    rename_i fe args kws pos
    cases fe <;> first | (simp only [chk] at h; cases h; done) | skip
    rename_i y p
    match args, kws, h with
    | [], _, h => simp only [chk] at h; cases h
    | _ :: _ :: _, _, h => simp only [chk] at h; cases h
    | [x], _ :: _, h => simp only [chk] at h; cases h
    | [x], [], h =>
      simp only [chk, Bool.and_eq_true, decide_eq_true_eq, Bool.not_eq_true'] at h
      obtain ⟨⟨⟨⟨hc, rfl⟩, hg⟩, hx⟩, hs⟩ := h
      obtain ⟨g1, g2, g3⟩ := G.glob hg
      have hr := (G.run hc).2
      refine ⟨fun pins s σ H Q I q => wpAny_Call_Name_kw (ld_blt I g1 hl (show bootBuiltins "len" = some (.builtin "len") by decide +kernel) ?_ g3 g2)⟩
      obtain ⟨ρ, σ3, hh, rs, rp, P⟩ := q
      refine PyProof.Rows.callWith_builtin1 (thn ((pa_cons (io.pe x hx) pa_nil (star_cons hs)).run pos pins s σ H (fun vs H1 => ∃ v ρ1 d h1, vs = [v] ∧ Step ρ H ρ1 H1 ∧ Rep X.K X.mg ρ1 h1 H1 ∧ RD X.K ρ1 H1 d v ∧ Post X.K X.mg (RV X.K) ρ1 H1 (fun c d H' => W c d σ H') (methR tb d h1 fun f => (f [d] h1).bind lenR) Q) I
        ⟨ρ, σ3, hh, rs, rp, (Post.bind (RA := RV X.K) P).imp fun v H1 ⟨ρ1, d, h1, st, rp1, rd, _, P1⟩ => ⟨v, ρ1, d, h1, rfl, st, rp1, rd, P1⟩⟩) fun us s1 hu => ?_) (star_cons hs) rfl
      obtain ⟨vs, H1, I1, rv, v, ρ1, d, h1, rfl, st, rp1, rd, P1⟩ := hu
      unfold methR at P1
      split at P1
      · rename_i cl ds ei
        split at P1
        · rename_i f el
          obtain ⟨n', a, C, dx, vs, ex, _, ev, hn', ea, hmg, rds, hlen⟩ := ins_at rp1 rd ei
          subst ex; subst ev
          cases rv with
          | cons r0 rr =>
            cases rr
            obtain rfl : _ = Value.ref a := r0
            obtain ⟨C', af, fd, ps, j, rfl, hmg', mC, hb, FF⟩ := ln _ (lookup_mem el)
            have hmg2 : X.mg (clsN cl) = some (.ref C') := hmg'
            rw [hmg] at hmg2
            cases hmg2
            obtain ⟨mA, O, r, _, _, _⟩ := ins_get I1.hok ea
            have sp : PySem.W.Looks (model X.prog X.w) s1.heap (specialOf (.ref a) "__len__") (some (.ref af)) := ((PySem.W.Looks.ld O.obj).andThen .now).andThen (PySem.W.looks_findIn I1.kIn mC.at_)
            have bd := PySem.W.bind_fn (M := model X.prog X.w) I1.kIn (f := af) (.ref a) (beq_iff_eq.mp mC.fn)
            refine Calls.call_function_entry PySem.kind_len PySem.plain_len PySem.entry_len (PySem.args_len1 _) ?_
            unfold Builtin.«len»
            refine wpAny_bind (m := oneArg "len" _) (wpAny_pure ?_)
            refine wpAny_bind (m := callSpecial? (.ref a) (PySem.Str.ofString "__len__")) ?_
            simp only [callSpecial?]
            refine wpAny_bind (sp.here ?_)
            refine wpAny_holding (wpAny_bind (bd.here (wpAny_bind ?_)))
            obtain ⟨as, bt, pk⟩ := hb s1 [.ref a] [] I1.kIn rfl rfl
            obtain rfl : as = [.ref a] := pk
            have P2 : Post X.K X.mg (RV X.K) ρ1 H1 (fun c d H' => W c d σ H') (f [.ref n'] h1) fun v H2 => ∃ i : Int, v = .int i ∧ 0 ≤ i ∧ i < 2 ^ 62 ∧ Q (.int i) H2 := (Post.bind (RA := RV X.K) P1).imp fun v H2 ⟨ρ2, d2, h2, st2, rp2, rd2, _, P3⟩ => by
              unfold lenR at P3
              split at P3
              · rename_i i
                split at P3
                · rename_i hi
                  cases rd2
                  exact ⟨_, rfl, hi.1, hi.2, P3.here rp2 (.int _)⟩
                · exact P3.elim
              · exact P3.elim
            have spf : spF X.K X.mg f [.ref a] H1 (fun v H2 => ∃ i : Int, v = .int i ∧ 0 ≤ i ∧ i < 2 ^ 62 ∧ Q (.int i) H2) (fun c d H' => W c d σ H') := ⟨ρ1, [.ref n'], h1, .cons rd .nil, rp1, P2⟩
            show wpAny _ _ (call (.ref af) [.ref a] []) _ _ _
            refine wpAny_call (codeAny_mono (FF.run X.A.in1 X.stack s1 H1 ⟨[.ref a], []⟩ [.ref a] [.ref a] _ _ ((G.run hc).2.in1) I1.env0.in1 bt (.cons rfl .nil) spf) fun r s' hq => ?_)
            cases r with
            | error e => exact passAt tk σ pins H1 s1 e s' I1 hq
            | ok fl =>
              cases fl with
              | ret u =>
                obtain ⟨v, H2, I2, rv, i, rfl, i0, i1, q⟩ := I1.after hq
                obtain ⟨t, rfl⟩ := rv
                refine wpAny_pure ?_
                refine wpAny_bind (wpAny_holding (wpAny_pure ?_))
                refine wpAny_bind (wpAny_letGo ?_)
                show wpAny _ _ (if i < 0 then _ else _) _ _ _
                rw [if_neg (by omega)]
                show wpAny _ _ (if i ≥ 2 ^ 63 then _ else _) _ _ _
                rw [if_neg (by omega)]
                exact wpAny_bind (wpAny_mkInt (wpAny_pure ⟨_, rfl, .int i, H2, I2.tok _, ⟨_, rfl⟩, q⟩))
              | next => exact False.elim hq
              | brk => exact False.elim hq
              | cont => exact False.elim hq
        · exact P1.elim
      · exact P1.elim
end
end L3

namespace L3
open PySem L2

theorem wipe_get (σ : L2.St) (j : Nat) : ∀ vs : List Nat, (L2.wipe σ vs)[j]? = if j ∈ vs then (σ[j]?).map (fun _ => none) else σ[j]?
  | [] => by simp [L2.wipe]
  | v :: vs => by
    unfold L2.wipe
    by_cases c : v = j
    · subst c
      rw [List.getElem?_set, if_pos rfl, if_pos List.mem_cons_self, wipe_length]
      by_cases hl : v < σ.length
      · rw [if_pos hl, List.getElem?_eq_getElem hl]; rfl
      · rw [if_neg hl, List.getElem?_eq_none (by omega)]; rfl
    · rw [List.getElem?_set_ne c, wipe_get σ j vs]
      by_cases h : j ∈ vs
      · rw [if_pos h, if_pos (List.mem_cons_of_mem _ h)]
      · rw [if_neg h, if_neg (by simp only [List.mem_cons, not_or]; exact ⟨fun e => c e.symm, h⟩)]
theorem wipe_same {σ σ' : L2.St} {vs ss : List Nat} (hs : ∀ i ∈ ss, i ∈ vs) (hk : ∀ j, j ∉ ss → σ'[j]? = (L2.wipe σ vs)[j]?) (hl : σ'.length = (L2.wipe σ vs).length) : L2.wipe σ' vs = L2.wipe σ vs := by
  apply List.ext_getElem?
  intro j
  rw [wipe_get, wipe_get]
  by_cases h : j ∈ vs
  · rw [if_pos h, if_pos h]
    by_cases hj : j < σ.length
    · have h1 : j < σ'.length := by rw [hl, wipe_length]; exact hj
      rw [List.getElem?_eq_getElem h1, List.getElem?_eq_getElem hj]; rfl
    · have h1 : ¬ j < σ'.length := by rw [hl, wipe_length]; exact hj
      rw [List.getElem?_eq_none (by omega), List.getElem?_eq_none (by omega)]
  · rw [if_neg h, if_neg h, hk j (fun z => h (hs j z)), wipe_get, if_neg h]

section
variable {K : PySem.W.Frag} {mg : Str → Option Value}
abbrev WF : WX := fun _ _ _ _ => False
theorem turns_go {f : D → Hh → Res (Option D)} {g : Gd} {n : Nat} {d : D} {ds : List D} {h h2 : Hh} (e : turns f g n (d :: ds) h = .ok () h2) :
    gdOk g h ∧ ((∃ h1, f d h = .ok none h1 ∧ turns f g n ds h1 = .ok () h2) ∨ ∃ y h1 acc, f d h = .ok (some y) h1 ∧ h1[n]? = some (.lst acc) ∧ acc.length < sizeLine ∧ turns f g n ds (h1.set n (.lst (acc ++ [y]))) = .ok () h2) := by
  unfold turns at e
  split at e
  · rename_i hg
    refine ⟨hg, ?_⟩
    obtain ⟨o, h1, e1, e⟩ := bind_inv e
    cases o with
    | none => exact .inl ⟨h1, e1, e⟩
    | some y =>
      refine .inr ⟨y, h1, ?_⟩
      dsimp only at e
      split at e
      · rename_i acc ea
        split at e
        · exact ⟨acc, e1, ea, by assumption, e⟩
        · cases e
      · cases e
  · cases e
theorem turns_end {f : D → Hh → Res (Option D)} {g : Gd} {n : Nat} {h h2 : Hh} (e : turns f g n [] h = .ok () h2) : gdOk g h ∧ h = h2 := by
  unfold turns at e
  split at e
  · cases e; exact ⟨by assumption, rfl⟩
  · cases e
theorem turnC_ok {g : Tg} {test : Sl → Hh → Res Bool} {elt : Sl → Hh → Res D} {σ : Sl} {d : D} {h h1 : Hh} {o : Option D} (e : turnC g test elt σ d h = .ok o h1) :
    ∃ σ2 kk h3, asgT g d σ = some σ2 ∧ test σ2 h = .ok kk h3 ∧ ((kk = true ∧ ∃ y, elt σ2 h3 = .ok y h1 ∧ o = some y) ∨ (kk = false ∧ o = none ∧ h3 = h1)) := by
  unfold turnC at e
  split at e
  · cases e
  · rename_i σ2 ea
    obtain ⟨kk, h3, e1, e⟩ := bind_inv e
    refine ⟨σ2, kk, h3, ea, e1, ?_⟩
    cases kk with
    | true =>
      rw [if_pos rfl] at e
      obtain ⟨y, h4, e2, e⟩ := bind_inv e
      cases e
      exact .inl ⟨rfl, y, e2, rfl⟩
    | false =>
      rw [if_neg Bool.false_ne_true] at e
      cases e
      exact .inr ⟨rfl, rfl, rfl⟩
/-- the reading of a comprehension -/
theorem comp_read {it : Sl → Hh → Res (List D × Gd)} {g : Tg} {test : Sl → Hh → Res Bool} {elt : Sl → Hh → Res D} {W : WX} {vs : List Nat} {σ : L2.St} {H : Hp} {Q : VK} (hs : ∀ i ∈ g.slots, i ∈ vs)
    (q : rE K mg (fun σ h => (it σ h).bind fun s h1 => compR (turnC g test elt (wipeD σ vs)) s h1) W σ H Q) :
    tLc (rIt K mg it W) (rG K mg g) (rT K mg test WF) (rE K mg elt WF) vs σ H Q := by
  obtain ⟨ρ, σ3, h, rs, rp, P⟩ := q
  refine ⟨ρ, σ3, h, rs, rp, (Post.bind (RA := Wk K mg) P).imp fun J H1 ⟨ρ1, s, h1, s1, rp1, wk, _, P1⟩ => ?_⟩
  intro Dd hD
  have rs1 := rs.mono s1
  unfold compR at P1
  -- the run has come to its end
  obtain ⟨hE, eT⟩ : ∃ h2, turns (turnC g test elt (wipeD σ3 vs)) s.2 h1.length s.1 (h1 ++ [.lst []]) = .ok () h2 := by
    cases e : turns (turnC g test elt (wipeD σ3 vs)) s.2 h1.length s.1 (h1 ++ [.lst []]) with
    | ok u h2 => exact ⟨h2, rfl⟩
    | exc _ _ _ => rw [e] at P1; exact P1.elim
    | bad => rw [e] at P1; exact P1.elim
  rw [eT] at P1
  have P2 : Post K mg (RV K) ρ1 H1 (fun c d H' => W c d σ H') (.ok (.ref h1.length) hE) Q := P1
  have st0 : Step ρ1 H1 (ρ1 ++ [Dd]) (upd H1 Dd (.lst [])) := lay_step hD
  have rp0 : Rep K mg (ρ1 ++ [Dd]) (h1 ++ [.lst []]) (upd H1 Dd (.lst [])) := rp1.layL hD .nil
  have atD : ∀ {ρ' : List Addr} {H' : Hp}, Step (ρ1 ++ [Dd]) (upd H1 Dd (.lst [])) ρ' H' → ρ'[h1.length]? = some Dd := fun st => pre_get st.pre (lay_at rp1)
  refine ⟨fun i m H' => m = s.1.length - i ∧ i ≤ s.1.length ∧ ∃ ρ' h', Step (ρ1 ++ [Dd]) (upd H1 Dd (.lst [])) ρ' H' ∧ Rep K mg ρ' h' H' ∧ turns (turnC g test elt (wipeD σ3 vs)) s.2 h1.length (s.1.drop i) h' = .ok () hE,
    ⟨_, rfl, Nat.zero_le _, _, _, Step.refl _ _, rp0, eT⟩, ?_⟩
  rintro i m H2 ⟨rfl, hi, ρ2, h2, st2, rp2, e2⟩
  by_cases hlt : i < s.1.length
  · obtain ⟨d, hd⟩ : ∃ d, s.1[i]? = some d := ⟨_, List.getElem?_eq_getElem hlt⟩
    have ed : s.1.drop i = d :: s.1.drop (i + 1) := by
      rw [List.drop_eq_getElem_cons hlt]
      rw [List.getElem?_eq_getElem hlt] at hd
      rw [Option.some.inj hd]
    rw [ed] at e2
    obtain ⟨gd, e3⟩ := turns_go e2
    obtain ⟨w1, w2⟩ := (wk i ρ2 H2 h2 (st0.trans st2) rp2 gd).1 d hd
    refine .inr ⟨w1, fun H' => ∃ ρ' h', Step (ρ1 ++ [Dd]) (upd H1 Dd (.lst [])) ρ' H' ∧ Rep K mg ρ' h' H' ∧ turns (turnC g test elt (wipeD σ3 vs)) s.2 h1.length (s.1.drop (i + 1)) h' = .ok () hE,
      fun H' z => ⟨_, by omega, rfl, hlt, z⟩, fun x H3 y => ?_⟩
    obtain ⟨st3, rp3, rd⟩ := w2 x H3 y
    have rs3 : RS K ρ2 H3 (wipeD σ3 vs) (L2.wipe σ vs) := (((rs1.mono st0).mono st2).mono st3).wipe vs
    have fin : ∀ {o : Option D} {h4 : Hh}, turnC g test elt (wipeD σ3 vs) d h2 = .ok o h4 → ((o = none ∧ turns (turnC g test elt (wipeD σ3 vs)) s.2 h1.length (s.1.drop (i + 1)) h4 = .ok () hE) ∨ ∃ y acc, o = some y ∧ h4[h1.length]? = some (.lst acc) ∧ acc.length < sizeLine ∧
        turns (turnC g test elt (wipeD σ3 vs)) s.2 h1.length (s.1.drop (i + 1)) (h4.set h1.length (.lst (acc ++ [y]))) = .ok () hE) →
        rG K mg g x (L2.wipe σ vs) H3 fun σ2 H2' => L2.wipe σ2 vs = L2.wipe σ vs ∧ rT K mg test WF σ2 H2' fun b H3' =>
          if b = true then rE K mg elt WF σ2 H3' fun y H4 => ∃ acc, H4 Dd = some (.lst acc) ∧ acc.length < sizeLine ∧
            (fun H' => ∃ ρ' h', Step (ρ1 ++ [Dd]) (upd H1 Dd (.lst [])) ρ' H' ∧ Rep K mg ρ' h' H' ∧ turns (turnC g test elt (wipeD σ3 vs)) s.2 h1.length (s.1.drop (i + 1)) h' = .ok () hE) (upd H4 Dd (.lst (acc ++ [y])))
          else (fun H' => ∃ ρ' h', Step (ρ1 ++ [Dd]) (upd H1 Dd (.lst [])) ρ' H' ∧ Rep K mg ρ' h' H' ∧ turns (turnC g test elt (wipeD σ3 vs)) s.2 h1.length (s.1.drop (i + 1)) h' = .ok () hE) H3' := by
      intro o h4 eC hE'
      obtain ⟨σ4, kk, h3, ea, et, hk⟩ := turnC_ok eC
      refine ⟨d, ρ2, wipeD σ3 vs, h2, rd, rs3, rp3, σ4, ea, fun σ' rs' hkp hlen => ⟨wipe_same hs hkp hlen, ρ2, σ4, h2, rs', rp3, ?_⟩⟩
      rw [et]
      intro ρ5 H5 b st5 rp5 eb
      subst eb
      rcases hk with ⟨rfl, y, ey, rfl⟩ | ⟨rfl, rfl, rfl⟩
      · rw [if_pos rfl]
        rcases hE' with ⟨z, _⟩ | ⟨y', acc, ey', ea', hl, eN⟩
        · cases z
        cases ey'
        refine ⟨ρ5, σ4, h3, rs'.mono st5, rp5, ?_⟩
        rw [ey]
        intro ρ6 H6 v st6 rp6 rv
        have stA := ((st2.trans st3).trans st5).trans st6
        obtain ⟨a, ws, e1, hn, gL, rl⟩ := lst_at rp6 (.ref (atD stA)) ea'
        cases e1
        obtain ⟨rp7, st7⟩ := rp6.put (o' := .lst (acc ++ [y])) (u := .lst (ws ++ [v])) hn fun st => ⟨_, upd_same, (rl.append (.cons rv .nil)).mono st⟩
        exact ⟨ws, gL, by rw [← rl.length]; exact hl, _, _, stA.trans st7, rp7, eN⟩
      · rw [if_neg Bool.false_ne_true]
        rcases hE' with ⟨_, eN⟩ | ⟨y', acc, ey', _⟩
        · exact ⟨_, _, (st2.trans st3).trans st5, rp5, eN⟩
        · cases ey'
    rcases e3 with ⟨h4, eC, eN⟩ | ⟨y, h4, acc, eC, ea, hl, eN⟩
    · exact fin eC (.inl ⟨rfl, eN⟩)
    · exact fin eC (.inr ⟨y, acc, rfl, ea, hl, eN⟩)
  · have ei : i = s.1.length := by omega
    subst ei
    rw [List.drop_length] at e2
    obtain ⟨gd, rfl⟩ := turns_end e2
    refine .inl ⟨(wk _ ρ2 H2 h2 (st0.trans st2) rp2 gd).2 (Nat.le_refl _), ?_⟩
    exact P2.to (st0.trans st2) rp2 (.ref (atD st2))
end

section
variable {X : Cx} {N : List Str} {sc : Scope} {c : Bool} {W : WX} {k : Nat}
theorem Gx.blk (G : Gx X N sc k c) (scope : Scope) (s : Shared) (H : Hp) (C : Addr) (cl : List (Str × Addr)) (fp : List Addr) : Gx (X.blk s H scope (compEnvC scope cl C X.env) fp) N (relS scope sc) k c :=
  ⟨G.hN, G.nd, by show relS scope X.env.scope = _; rw [G.hsc], G.un, G.run⟩
structure CompKey (X : Cx) (N : List Str) (sc : Scope) (c : Bool) (own : List (Str × Nat)) (g : Tg) (it test elt : E) (el tg iter : Expr) (ifs : List Expr) (scope : Scope) : Prop where
  hc : c = true
  hq : it.tupIt = true → tupB tg = true
  hi : chk N sc c it iter = true
  hs : setB iter = false
  ok : blkC N sc scope own = true
  hg : chkG N (relS scope sc) (fun x => decide (scope.names.lookup x = some .cell)) g tg = true
  sl : ∀ i ∈ g.slots, i ∈ own.map (·.2)
  ht : (match ifs with | [] => test.isNil | [t] => chk N (relS scope sc) c test t | _ => false) = true
  he : chk N (relS scope sc) c elt el = true
theorem comp_key {own : List (Str × Nat)} {g : Tg} {it test elt : E} {ast : Expr} (h : chk N sc c (.comp own g it test elt) ast = true) :
    ∃ el tg iter ifs scope pos, ast = .ListComp el [⟨tg, iter, ifs, 0⟩] scope pos ∧ CompKey X N sc c own g it test elt el tg iter ifs scope := by
  cases ast <;> first | (simp only [chk] at h; cases h; done) | skip
  rename_i el gens scope pos
  match gens, h with
  | [], h => simp only [chk] at h; cases h
  | _ :: _ :: _, h => simp only [chk] at h; cases h
  | [⟨tg, iter, ifs, as⟩], h =>
    simp only [chk, Bool.and_eq_true, decide_eq_true_eq, Bool.not_eq_true', List.all_eq_true, List.contains_iff_mem] at h
    obtain ⟨⟨⟨⟨⟨⟨⟨⟨⟨hc, rfl⟩, hq⟩, hi⟩, hs⟩, ok⟩, hg⟩, sl⟩, ht⟩, he⟩ := h
    exact ⟨el, tg, iter, ifs, scope, pos, rfl, hc, fun z => by rw [z] at hq; simpa using hq, hi, hs, ok, hg, sl, ht, he⟩
/-- the parts that a comprehension's rules ask -/
theorem comp_parts (G : Gx X N sc k c) {own : List (Str × Nat)} {g : Tg} {it test elt : E} {el tg iter : Expr} {ifs : List Expr} {scope : Scope} (ck : CompKey X N sc c own g it test elt el tg iter ifs scope)
    (ii : Snd X N sc c W it) (i2 : ∀ s H C cl fp, Snd (X.blk s H scope (compEnvC scope cl C X.env) fp) N (relS scope sc) c WF test) (i3 : ∀ s H C cl fp, Snd (X.blk s H scope (compEnvC scope cl C X.env) fp) N (relS scope sc) c WF elt) :
    X.calm = true ∧ X.N.Nodup ∧ PI X tg iter (rIt X.K X.mg (den it).i W) ∧ BlkOk X.N X.env.scope scope own ∧ (∀ s H C cl fp, PG (X.blk s H scope (compEnvC scope cl C X.env) fp) tg (rG X.K X.mg g)) ∧
      (∀ s H C cl fp, PTs (X.blk s H scope (compEnvC scope cl C X.env) fp) ifs (rT X.K X.mg (den test).t WF)) ∧ (∀ s H C cl fp, PE (X.blk s H scope (compEnvC scope cl C X.env) fp) el (rE X.K X.mg (den elt).v WF)) := by
  refine ⟨(G.run ck.hc).1, by rw [G.hN]; exact G.nd, ii.pi tg iter ck.hq ck.hi, by rw [G.hN, G.hsc]; exact blkOk_by ck.ok, fun s H C cl fp => ?_, fun s H C cl fp => ?_, fun s H C cl fp => (i3 s H C cl fp).pe el ck.he⟩
  · exact (pg_all (G.blk scope s H C cl fp) (fb := fun x => decide (scope.names.lookup x = some .cell)) (fun x hx => by
      show (scope.names.lookup x == some .cell) = true
      rw [of_decide_eq_true hx]; rfl) (G.run ck.hc).1 g).1 tg ck.hg
  · have ht := ck.ht
    split at ht
    · refine ⟨fun pins s' σ H' Q I q => ?_⟩
      refine pts_nil.run pins s' σ H' Q I ?_
      obtain ⟨ρ, σ3, hh, rs, rp, P⟩ := q
      cases test <;> first | (cases ht; done) | skip
      exact P.here rp rfl
    · exact pts_one ((i2 s H C cl fp).pt _ ht)
    · cases ht
theorem snd_comp (G : Gx X N sc k c) {own : List (Str × Nat)} {g : Tg} {it test elt : E} (ii : Snd X N sc c W it) (i2 : ∀ scope s H C cl fp, Snd (X.blk s H scope (compEnvC scope cl C X.env) fp) N (relS scope sc) c WF test)
    (i3 : ∀ scope s H C cl fp, Snd (X.blk s H scope (compEnvC scope cl C X.env) fp) N (relS scope sc) c WF elt) : Snd X N sc c W (.comp own g it test elt) := by
  refine .plain rfl (fun xs => by cases xs <;> rfl) (fun ast h => ?_) (fun ast h => ?_)
  · obtain ⟨el, tg, iter, ifs, scope, pos, rfl, _⟩ := comp_key (X := X) h
    rfl
  · obtain ⟨el, tg, iter, ifs, scope, pos, rfl, ck⟩ := comp_key (X := X) h
    obtain ⟨p1, p2, p3, p4, p5, p6, p7⟩ := comp_parts G ck ii (i2 scope) (i3 scope)
    exact PEimp (pe_lc p1 p2 p3 p4 p5 p6 p7 (fold_plain ck.hs)) fun σ H Q q => comp_read ck.sl q
/-- EVERY EXPRESSION -/
theorem snd_all (e : E) : ∀ {X : Cx} {N : List Str} {sc : Scope} {c : Bool} {W : WX} {k : Nat}, Gx X N sc k c → Takes X W → e.need X.prog X.w X.K X.mg X.base k → Snd X N sc c W e := by
  induction e with
  | var i => exact fun G tk n => snd_var G i
  | cst d => exact fun G tk n => snd_cst d
  | glob x d => exact fun G tk n => snd_glob G n
  | bin op a b ia ib => exact fun G tk n => snd_bin (ia G tk n.1) (ib G tk n.2)
  | neg a ia => exact fun G tk n => snd_neg (ia G tk n)
  | not a ia => exact fun G tk n => snd_not (ia G tk n)
  | and a b ia ib => exact fun G tk n => snd_and (ia G tk n.1) (ib G tk n.2)
  | or a b ia ib => exact fun G tk n => snd_or (ia G tk n.1) (ib G tk n.2)
  | cmp op a b ia ib => exact fun G tk n => snd_cmp G (ia G tk n.1) (ib G tk n.2)
  | chain op op' a b d ia ib id => exact fun G tk n => snd_chain G (ia G tk n.1) (ib G tk n.2.1) (id G tk n.2.2)
  | ife t a b it ia ib => exact fun G tk n => snd_ife (it G tk n.1) (ia G tk n.2.1) (ib G tk n.2.2)
  | tup es ie => exact fun G tk n => snd_tup (ie G tk n)
  | lst es ie => exact fun G tk n => snd_lst (ie G tk n)
  | sub a i ia ii => exact fun G tk n => snd_sub (ia G tk n.1) (ii G tk n.2)
  | slc a lo hi ia il ih => exact fun G tk n => snd_slc (ia G tk n.1) (il G tk n.2.1) (ih G tk n.2.2)
  | call f x b es ks kes ie ik => exact fun G tk n => snd_call G tk n.1 (ie G tk n.2.1) (ik G tk n.2.2)
  | meth tb m b o es ks kes io ie ik => exact fun G tk n => snd_meth G tk n.1 (io G tk n.2.1) (ie G tk n.2.2.1) (ik G tk n.2.2.2)
  | make cl f b es ks kes ie ik => exact fun G tk n => snd_make G tk n.1 (ie G tk n.2.1) (ik G tk n.2.2)
  | fld tb f a ia => exact fun G tk n => snd_fld G n.1 (ia G tk n.2)
  | enum a ia => exact fun G tk n => snd_enum G n.1 (ia G tk n.2)
  | rev a ia => exact fun G tk n => snd_rev G n.1 (ia G tk n.2)
  | lrng a b ia ib => exact fun G tk n => snd_lrng G n.1 n.2.1 (ia G tk n.2.2.1) (ib G tk n.2.2.2)
  | rsl a ia => exact fun G tk n => snd_rsl G (ia G tk n)
  | zip a b ia ib =>
    intro X N sc c W k G tk n
    refine ⟨fun ast h => ?_, fun ast h => ?_, fun o xs p h => ?_, fun xs h => ?_, fun ast h => ?_, fun tg ast _ h => ?_, fun ks kws h => ?_⟩
    · cases h
    · cases h
    · cases h
    · cases xs <;> cases h
    · cases h
    · cases h
    · cases ks <;> cases kws <;> cases h
  | leno tb o io => exact fun G tk n => snd_leno G tk n.1 n.2.1 (io G tk n.2.2)
  | xf v f tb cl ds => exact fun G tk n => snd_none rfl (fun _ => rfl) (fun xs => by cases xs <;> rfl) (fun ks kws => by cases ks <;> cases kws <;> rfl)
  | xfs v f tb a dd cl => exact fun G tk n => n.elim
  | xiss v t a dd cl => exact fun G tk n => n.elim
  | xis v t b => exact fun G tk n => snd_none rfl (fun _ => rfl) (fun xs => by cases xs <;> rfl) (fun ks kws => by cases ks <;> cases kws <;> rfl)
  | bi b es ie => exact fun G tk n => snd_bi G n.1 (ie G tk n.2)
  | isi a t ia => exact fun G tk n => snd_isi G n.1 n.2.1 (ia G tk n.2.2)
  | bm m o es io ie => exact fun G tk n => snd_bm G (io G tk n.1) (ie G tk n.2)
  | comp own g it test elt ii i2 i3 => exact fun G tk n => snd_comp G (ii G tk n.1) (fun scope s H C cl fp => i2 (G.blk scope s H C cl fp) takes0 n.2.1) (fun scope s H C cl fp => i3 (G.blk scope s H C cl fp) takes0 n.2.2)
  | rng es ie => exact fun G tk n => snd_rng G n.1 (ie G tk n.2)
  | nil => exact fun G tk n => snd_nil
  | cons e es i1 i2 => exact fun G tk n => snd_cons (i1 G tk n.1) (i2 G tk n.2)
end
end L3

namespace L3
open PySem L2 PySem.W

/-- the classes above one, as far as a store asks -/
structure MroOk (l : List Value) : Prop where
  ne : l.isEmpty = false
  obj : l.contains (.type "object") = true
  pass : ∀ self, refuseLoop self "__setattr__" l = pure ()
/-- a built-in exception class -/
structure Tl (B newId initId : String) (tl : List Value) : Prop where
  base : ExcBaseFacts B newId initId tl
  pass : ∀ self, refuseLoop self "__setattr__" tl = pure ()
  obj : tl.contains (.type "object") = true
theorem excTail_ne {tl l : List Value} (h : tl.isEmpty = false) (e : excTail tl l = true) : l.isEmpty = false := by
  cases l with
  | nil => rw [show ([] : List Value) = tl from beq_iff_eq.mp e]; exact h
  | cons _ _ => rfl
theorem Tl.mro {B newId initId : String} {tl bm : List Value} {C : Addr} (T : Tl B newId initId tl) (h : excTail tl bm = true) : MroOk (.ref C :: bm) where
  ne := rfl
  obj := by
    have e := (excTail_contains "object" bm h).trans T.obj
    rw [List.contains_cons, e, Bool.or_true]
  pass := fun self => by
    rw [refuseLoop_ref]
    exact excTail_pass self (T.pass self) bm h

section
open Builtin Builtin.ObjectAttr PySem.HandSPX
variable {prog : Program} {w : World} {A : Around} {E : Value → Shared → Prop} {R : Result → Shared → Prop} {hp : Heap} {g : Array GenState} {d : Drawn} {t : Nat} {os : OsState} {K : W.Frag} {name : Str} {tk : Tok} {v : Value} {x C dx : Addr} {fv : Array Value} {cd : ClassData} {m0 : Str → Option Value} {nl : List Str}
/-- a first field -/
theorem osa1 (X : K.In hp) (hx : hp.get? x = some { cls := .ref C, data := .fields fv }) (hcd : W.clsIn K C = some cd) (hm : MroOk cd.mro) (hh : cd.hasDict = true) (ha : W.findIn K (.ref C) name = some none)
    (hq : ∀ h' tk' dx, (∀ b o, b ≠ x → hp.get? b = some o → h'.get? b = some o) → hp.objs.size ≤ dx → dx ≠ x → h'.get? x = some { cls := .ref C, dict := some dx, data := .fields fv } →
      h'.Ns1 dx (fun y => if y = name then some v else none) → R (.ok (.ret .none)) ⟨h', g, d, tk', os⟩) :
    codeAny (model prog w) A (.call (.builtin "object.__setattr__") ⟨[.ref x, .str name tk, v], []⟩) R ⟨hp, g, d, t, os⟩ := by
  have J : W.InstAt hp x { cls := .ref C, data := .fields fv } C none := ⟨hx, rfl, rfl, trivial⟩
  have SO := F.store_object
  have n0 : x ≠ hp.objs.size := Nat.ne_of_lt (Heap.lt_size hx)
  have isO : W.Looks (model prog w) hp (isInstance (.ref x) (.type "object")) true := J.type.andThen (W.looks_mroIn X (by unfold W.mroIn; rw [hcd, Option.bind_some, if_neg (by rw [hm.ne]; decide), hm.obj]))
  refine codeAny_call_builtin SO.slot.plain SO.entry (@W.check_slot (model prog w) _ _ ⟨hp, g, d, t, os⟩ "object.__setattr__" "object" "__setattr__" (.ref x) [.str name tk, v] [] _ SO.kind SO.split isO (SO.args (.ref x) (.str name tk) v) ?_)
  have lm : W.Looks (model prog w) hp (mroOf (.ref C)) cd.mro := (W.looks_clsIn X hcd).andThen .now
  have l3 : W.Looks (model prog w) hp (storeTaker? none) none := .now
  have lc : W.Looks (model prog w) hp (classData C) cd := W.looks_clsIn X hcd
  rw [W.osa_eq, refuse_eq]
  refine wpAny_bind (wpAny_bind (J.type.at (wpAny_bind (lm.at ?_))))
  rw [hm.pass]
  refine wpAny_pure (wpAny_bind (J.type.at (wpAny_bind ((W.looks_findIn X ha).at (wpAny_bind (l3.at ?_))))))
  show wpAny _ _ (storeInOwnDict (.ref x) (.ref C) (.str name tk) name v false) _ _ _
  clear hm lm
  obtain ⟨nm, bs, mro, ns, qn, hd, sn, sb, ab, col, del⟩ := cd
  dsimp only at hh
  subst hh
  unfold storeInOwnDict ownDictForStores
  repeat (first | with_reducible refine store_in_new ?_ ?_ | with_reducible refine wpAny_loadPart_at hx ?_ | with_reducible refine lc.at ?_ | wp_step)
  · exact ⟨_, #[], _, (Heap.get?_update_ne _ _ _ _ n0.symm).trans (Heap.get?_push_at rfl rfl), rfl, fun e he => absurd he (by simp), fun _ => rfl⟩
  · intro h' tk' hn' hs
    have x1 : (hp.push { cls := .type "dict", data := .dict #[] }).get? x = some { cls := .ref C, data := .fields fv } := Heap.get?_push_of_some _ hx
    refine hq h' tk' hp.objs.size (fun b o hb ho => ?_) (Nat.le_refl _) n0.symm ?_ hn'
    · exact (hs.2 b (Nat.ne_of_lt (Heap.lt_size ho))).trans ((Heap.get?_update_ne _ _ _ _ hb).trans (Heap.get?_push_of_some _ ho))
    · exact (hs.2 x n0).trans (Heap.get?_update_self _ x1 rfl)
/-- a further field -/
theorem osa2 (X : K.In hp) (hx : hp.get? x = some { cls := .ref C, dict := some dx, data := .fields fv }) (hns : hp.Ns1 dx m0) (hw : Within m0 nl) (hz : nl.length ≤ 1000) (hcd : W.clsIn K C = some cd) (hm : MroOk cd.mro) (hh : cd.hasDict = true)
    (ha : W.findIn K (.ref C) name = some none)
    (hq : ∀ h' tk', (∀ b o, b ≠ dx → hp.get? b = some o → h'.get? b = some o) → h'.Ns1 dx (fun y => if y = name then some v else m0 y) → R (.ok (.ret .none)) ⟨h', g, d, tk', os⟩) :
    codeAny (model prog w) A (.call (.builtin "object.__setattr__") ⟨[.ref x, .str name tk, v], []⟩) R ⟨hp, g, d, t, os⟩ := by
  obtain ⟨oD, esD, epD, hoD, hdD, _⟩ := hns.count hw
  have J : W.InstAt hp x { cls := .ref C, dict := some dx, data := .fields fv } C (some oD) := ⟨hx, rfl, rfl, hoD⟩
  have SO := F.store_object
  have isO : W.Looks (model prog w) hp (isInstance (.ref x) (.type "object")) true := J.type.andThen (W.looks_mroIn X (by unfold W.mroIn; rw [hcd, Option.bind_some, if_neg (by rw [hm.ne]; decide), hm.obj]))
  refine codeAny_call_builtin SO.slot.plain SO.entry (@W.check_slot (model prog w) _ _ ⟨hp, g, d, t, os⟩ "object.__setattr__" "object" "__setattr__" (.ref x) [.str name tk, v] [] _ SO.kind SO.split isO (SO.args (.ref x) (.str name tk) v) ?_)
  have lm : W.Looks (model prog w) hp (mroOf (.ref C)) cd.mro := (W.looks_clsIn X hcd).andThen .now
  have l3 : W.Looks (model prog w) hp (storeTaker? none) none := .now
  have lc : W.Looks (model prog w) hp (classData C) cd := W.looks_clsIn X hcd
  rw [W.osa_eq, refuse_eq]
  refine wpAny_bind (wpAny_bind (J.type.at (wpAny_bind (lm.at ?_))))
  rw [hm.pass]
  refine wpAny_pure (wpAny_bind (J.type.at (wpAny_bind ((W.looks_findIn X ha).at (wpAny_bind (l3.at ?_))))))
  show wpAny _ _ (storeInOwnDict (.ref x) (.ref C) (.str name tk) name v false) _ _ _
  clear hm lm
  obtain ⟨nm, bs, mro, ns, qn, hd, sn, sb, ab, col, del⟩ := cd
  dsimp only at hh
  subst hh
  unfold storeInOwnDict ownDictForStores
  repeat (first | with_reducible refine OEX.store_in_old hns hw hz ?_ | with_reducible refine wpAny_loadPart_at hx ?_ | with_reducible refine lc.at ?_ | wp_step)
  intro h' tk' hn' hs
  exact hq h' tk' (fun b o hb ho => (hs.2 b hb).trans ho) hn'
end
end L3

namespace L3
open PySem L2 PySem.W PySem.HandSPX
/-- what the making asks of the classes above -/
structure Mk3 (B : String) (bm : List Value) : Prop where
  hB : bm.contains (.type B) = true
  hA : bm.contains (.type "AttributeError") = false
  hN : bm.contains (.type "NameError") = false
section
variable {prog : Program} {w : World} {M : Model} {A : Around} {E : Value → Shared → Prop} {R : Result → Shared → Prop} {h : Heap} {g : Array GenState} {d : Drawn} {t : Nat} {os : OsState}
variable {nm q : Str} {C N : Addr} {bs bm bmB : List Value} {hdct : Bool} {sn : List Str} {sub : List Value} {ab : Bool} {col : Option Bool} {dd : Option Addr} {k0 k1 k2 k3 k5 : Option Value} {B newId initId : String}
theorem mk_check (F : ExcBaseFacts B newId initId bmB) (T : Mk3 B bm) {rest : List Value} {Q : Unit → Shared → Prop}
    (hC : h.get? C = some (excClassObj nm q C N bs bm hdct sn sub ab col dd k0 k1 k2 k3 k5 newId)) (hq : Q () ⟨h, g, d, t, os⟩) : wpAny M A (checkBuiltinCall newId ⟨.ref C :: rest, []⟩) Q E ⟨h, g, d, t, os⟩ := by
  have c1 : (Value.ref C :: bm).contains (.type B) = true := by rw [List.contains_cons, T.hB, Bool.or_true]
  have c2 := F.noStar
  simp only [checkBuiltinCall, F.newKind, F.newSplit, F.newRow]
  repeat (first | refine wpAny_loadPart_at hC ?_ | (refine wpAny_isSubtype_exc hC ?_; rw [c1]) | refine wpAny_staticBase_exc hC ?_ | refine wpAny_madeBy_exc hC ?_ | simp only [bne_self_eq_false, Bool.false_eq_true, if_false] | wp_step)
  exact hq
theorem mk_new (F : ExcBaseFacts B newId initId bmB) (T : Mk3 B bm) {rest : List Value}
    (hC : h.get? C = some (excClassObj nm q C N bs bm hdct sn sub ab col dd k0 k1 k2 k3 k5 newId))
    (hq : R (.ok (.ret (.ref (h.objs.size + 1)))) ⟨(h.push { cls := .type "tuple", data := .seq rest.toArray }).push
      { cls := .ref C, data := .fields #[.ref h.objs.size, .none, .none, .none, .bool false, .none] }, g, d, t, os⟩) (hrest : rest.length ≤ sizeLine) :
    codeAny (model prog w) A (.builtin newId ⟨.ref C :: rest, []⟩) R ⟨h, g, d, t, os⟩ := by
  have c0 := F.ends
  have c1 : (Value.ref C :: bm).contains (.type B) = true := by rw [List.contains_cons, T.hB, Bool.or_true]
  have c2 : (Value.ref C :: bm).contains (.type "AttributeError") = false := by rw [List.contains_cons, T.hA]; rfl
  have c3 : (Value.ref C :: bm).contains (.type "NameError") = false := by rw [List.contains_cons, T.hN]; rfl
  refine codeAny_builtinAt F.entry ?_
  unfold Builtin.«BaseException.__new__»
  refine wpAt_bind ?_
  show wpAt _ _ _ (stack >>= _) _ _ _
  refine wpAt_bind (wpAt_stack fun p below => wpAt_of_wpAny ?_)
  wp_walk
  refine wpAt_of_wpAny ?_
  rw [F.owner]
  repeat (first | with_reducible refine wpAny_madeHere_exc F.canon hC ?_ | with_reducible refine wpAny_loadPart_at hC ?_ | (with_reducible refine wpAny_isSubtype_exc hC ?_; first | rw [c1] | rw [c2] | rw [c3]) | wp_step)
  show R _ _
  rw [Heap.size_push]
  exact hq
theorem mk_type (F : ExcBaseFacts B newId initId bmB) (T : Mk3 B bm) {rest : List Value} {fI : Addr} {Q : Fin → Shared → Prop}
    (hC : h.get? C = some (excClassObj nm q C N bs bm hdct sn sub ab col dd k0 k1 k2 k3 k5 newId))
    (hi : W.Looks (model prog w) h (typeLookup (.ref C) "__init__") (some (.ref fI))) (hb : ∀ self, W.Looks (model prog w) h (bindSpecial (.ref fI) self) (.ref fI, [self])) (hrest : rest.length ≤ sizeLine)
    (hq : codeAny (model prog w) A (.call (.ref fI) ⟨.ref (h.objs.size + 1) :: rest, []⟩)
      (fun r s' => match r with | .ok (.ret v) => v = .none ∧ Q (.done (.ret (.ref (h.objs.size + 1)))) s' | .ok _ => False | .error e => E e s')
      ⟨(h.push (W.kdv_tup rest)).push (excO C h.objs.size), g, d, t, os⟩) :
    wpAny (model prog w) A (Builtin.«type.__call__» ⟨.ref C :: rest, []⟩) Q E ⟨h, g, d, t, os⟩ := by
  repeat (first | with_reducible refine wpAny_loadPart_at hC ?_ | with_reducible refine wpAny_madeBy_exc hC ?_ | wp_step)
  refine codeAny_call_builtin_code (Code.quiet_builtin _ F.quiet) (mk_check F T hC ?_)
  refine mk_new F T hC ?_ hrest
  show wpAny _ _ _ _ _ _
  have kp : ∀ b o, h.get? b = some o → ((h.push (W.kdv_tup rest)).push (excO C h.objs.size)).get? b = some o := fun b o e => Heap.get?_push_of_some _ (Heap.get?_push_of_some _ e)
  have hC1 := kp _ _ hC
  have hg1 : ((h.push (W.kdv_tup rest)).push (excO C h.objs.size)).get? (h.objs.size + 1) = some (excO C h.objs.size) := by heap_get
  have cc : (Value.ref C :: bm).contains (.ref C) = true := by simp
  have i1 := hi.keeps kp
  have b1 := (hb (.ref (h.objs.size + 1))).keeps kp
  unfold isInstance
  repeat (first | with_reducible refine wpAny_loadPart_at hg1 ?_ | (with_reducible refine wpAny_isSubtype_exc hC1 ?_; rw [cc]) | wp_step)
  show wpAny _ _ (typeLookup (.ref C) _) _ _ _
  refine i1.at ?_
  refine wpAny_holding (wpAny_bind (b1.at ?_))
  refine wpAny_bind (wpAny_call (codeAny_mono hq fun r s' z => ?_))
  rcases r with e | (v | _ | _ | _) <;> first | exact z | exact z.elim | skip
  obtain ⟨rfl, z⟩ := z
  first
    | exact wpAny_pure (wpAny_pure z)
    | (wp_walk; exact z)
theorem mk_call (F : ExcBaseFacts B newId initId bmB) (T : Mk3 B bm) {rest : List Value} {fI : Addr}
    (hC : h.get? C = some (excClassObj nm q C N bs bm hdct sn sub ab col dd k0 k1 k2 k3 k5 newId))
    (hi : W.Looks (model prog w) h (typeLookup (.ref C) "__init__") (some (.ref fI))) (hb : ∀ self, W.Looks (model prog w) h (bindSpecial (.ref fI) self) (.ref fI, [self])) (hrest : rest.length ≤ sizeLine)
    (hq : codeAny (model prog w) (A.under (.builtin "type.__call__" ⟨.ref C :: rest, []⟩)) (.call (.ref fI) ⟨.ref (h.objs.size + 1) :: rest, []⟩) (W.InitBack (h.objs.size + 1) R)
      ⟨(h.push (W.kdv_tup rest)).push (excO C h.objs.size), g, d, t, os⟩) :
    codeAny (model prog w) A (.call (.ref C) ⟨rest, []⟩) R ⟨h, g, d, t, os⟩ := by
  have f1 := tc_lookup
  have f2 := tc_bind (.ref C)
  have f3 : (⟨h, g, d, t, os⟩ : Shared).TypeIs (.ref C) "type" := ⟨_, hC, rfl⟩
  refine codeAny_of_tree ?_
  show wpAny _ _ (callAny (.ref C) _) _ _ _
  repeat (any_goals (first | assumption | with_reducible refine wpAny_loadPart_at hC ?_ | wp_step))
  refine ⟨rfl, ?_⟩
  refine codeAny_call_builtin_at (Code.quiet_builtin _ (by decide +kernel)) entry_typeCall (wpAny_check_type_call_sub hC (mk_type F T hC hi hb hrest ?_))
  refine codeAny_mono hq fun r s' z => ?_
  rcases r with e | (v | _ | _ | _) <;> exact z
end
end L3

namespace L3
open PySem L2 PySem.W
/-- what the written part says of an own exception class -/
structure ExC (K : PySem.W.Frag) (C : Addr) : Prop where
  cls : ∃ B newId initId bmB nm q N bs bm sn sub ab col dd k0 k1 k2 k3 k5, ExcBaseFacts B newId initId bmB ∧ Mk3 B bm ∧ MroOk (.ref C :: bm) ∧ K.lookup C = some (excClassObj nm q C N bs bm true sn sub ab col dd k0 k1 k2 k3 k5 newId)
  sa : PySem.W.findIn K (.ref C) "__setattr__" = some (some (.builtin "object.__setattr__"))
  exC : PySem.W.subIn K (.ref C) (.type "BaseException") = some true
  tyC : PySem.W.typeIn K (.ref C) = some (.type "type")
  kC : PySem.W.keepIn K (.ref C) = true
section
variable {X : Cx} {pins : List (Addr × Obj)} {σ : L2.St} {H : Hp} {s : Shared} {a C dx : Addr} {f : Str} {y : V} {u : Value} {fs : List (Str × V)} {Q : Unit → Shared → Prop} {E : Value → Shared → Prop} {A : Around}
theorem put_first (T : ExC X.K C) (I : Inv X pins σ H s) (e : H a = some (exo a C none)) (hno : PySem.W.findIn X.K (.ref C) f = some none) (ry : RelV y u)
    (h : ∀ dx s', H dx = none → dx ≠ a → Inv X pins σ (upd (upd H dx (exd dx [(f, y)])) a (exo a C (some dx))) s' → Q () s') : wpAny (model X.prog X.w) A (setAttr (.ref a) f u) Q E s := by
  obtain ⟨B, newId, initId, bmB, nm, q, N, bs, bm, sn, sub, ab, col, dd, k0, k1, k2, k3, k5, -, -, mo, hC⟩ := T.cls
  have hcl : PySem.W.clsIn X.K C = some { name := nm, bases := bs, mro := .ref C :: bm, ns := N, qualname := q, hasDict := true, slotNames := sn, subclasses := sub, abstract := ab, collection := col, hasDel := false } := by unfold PySem.W.clsIn; rw [hC] <;> rfl
  obtain ⟨t1, ho⟩ := exo_at I.hok e
  obtain ⟨hp, g, d, t, os⟩ := s
  refine PySem.W.set_plain I.kIn (ox := { cls := .ref C, dict := none, data := .fields #[.ref t1, .none, .none, .none, .bool false, .none] }) (od := none) ⟨ho, rfl, rfl, trivial⟩ T.sa ?_
  refine osa1 I.kIn ho hcl mo rfl hno (fun h' tk' dx k dn dne hx hn => ?_)
  have hnd : H dx = none := I.hok.fresh dn
  have nd : ∀ {b : Addr} {o : Obj}, hp.get? b = some o → b ≠ dx := fun {b o} z => Nat.ne_of_lt (Nat.lt_of_lt_of_le (Heap.lt_size z) dn)
  have na : ∀ {b : Addr}, H b = none → b ≠ a := fun {b} n z => by
    rw [z, e] at n
    cases n
  have U1 : Un X.fs [] H (upd (upd H dx (exd dx [(f, y)])) a (exo a C (some dx))) hp h' := {
    keep := fun b o z n _ _ => k b o (na n) z
    slot := fun b o z n _ _ => ⟨o.slots, k b o (na n) z⟩
    free := fun b o z n _ => by rw [upd_ne (na n), upd_ne (nd z)]; exact n
    there := fun b o z _ => by
      by_cases hb : b = a
      · exact ⟨_, by rw [hb]; exact hx⟩
      · exact ⟨o, k b o hb z⟩
    tups := fun b xs z => by rw [upd_ne (at_ne e z exo_tup), upd_ne (ne_of_none z hnd)]; exact z
    frzs := fun b o v z => by rw [upd_ne (at_ne e z exo_frz), upd_ne (ne_of_none z hnd)]; exact z
    tbls := fun b ps z => ⟨#[], by rw [upd_ne (at_ne e z exo_tbl), upd_ne (ne_of_none z hnd), z]; simp⟩ }
  refine h dx _ hnd dne (I.un (t' := tk') U1 fun b o z => ?_)
  by_cases hb : b = a
  · subst hb
    rw [upd_same] at z
    cases z
    exact exo_ok hx
  · rw [upd_ne hb] at z
    by_cases hd : b = dx
    · subst hd
      rw [upd_same] at z
      cases z
      exact exd_ok hn (relO_put (fs := []) ry fun g => True.intro)
    · rw [upd_ne hd] at z
      refine (I.hok b o z).stay (fun c v hc z => k c v ?_ z) (fun c hc => ?_) (fun c xs hc => ?_)
      · rcases hc with hc | hc
        · rw [hc]; exact hb
        · exact at_ne e hc exo_own
      · rw [upd_ne (at_ne e hc exo_own), upd_ne (ne_of_none hc hnd)]; exact hc
      · rw [upd_ne (at_ne e hc exo_tup), upd_ne (ne_of_none hc hnd)]; exact hc
theorem put_more (T : ExC X.K C) (I : Inv X pins σ H s) (e : H a = some (exo a C (some dx))) (ed : H dx = some (exd dx fs)) (hl : fs.length ≤ 900) (hno : PySem.W.findIn X.K (.ref C) f = some none) (ry : RelV y u)
    (h : ∀ s', Inv X pins σ (upd H dx (exd dx ((f, y) :: fs))) s' → Q () s') : wpAny (model X.prog X.w) A (setAttr (.ref a) f u) Q E s := by
  obtain ⟨B, newId, initId, bmB, nm, q, N, bs, bm, sn, sub, ab, col, dd, k0, k1, k2, k3, k5, -, -, mo, hC⟩ := T.cls
  have hcl : PySem.W.clsIn X.K C = some { name := nm, bases := bs, mro := .ref C :: bm, ns := N, qualname := q, hasDict := true, slotNames := sn, subclasses := sub, abstract := ab, collection := col, hasDel := false } := by unfold PySem.W.clsIn; rw [hC] <;> rfl
  obtain ⟨t1, ho⟩ := exo_at I.hok e
  obtain ⟨mA, hns, rel⟩ := exd_at I.hok ed
  have hw := within_of rel
  obtain ⟨hp, g, d, t, os⟩ := s
  obtain ⟨oD, _, _, hoD, _, _⟩ := hns.count hw
  refine PySem.W.set_plain I.kIn (ox := { cls := .ref C, dict := some dx, data := .fields #[.ref t1, .none, .none, .none, .bool false, .none] }) (od := some oD) ⟨ho, rfl, rfl, hoD⟩ T.sa ?_
  refine osa2 I.kIn ho hns hw (by rw [List.length_map]; omega) hcl mo rfl hno (fun h' tk' k hn => ?_)
  obtain ⟨o', w1, w2, e', w3⟩ := id hn
  exact h _ (I.write (t' := tk') (x := dx) (e := dx) (o := exd dx ((f, y) :: fs)) (by rw [ed]; exact True.intro) (.inl rfl) k ⟨o', e'⟩ (exd_ok hn (relO_put ry rel)))
end
/-- where a field's value comes from -/
inductive Src where
  | p (i : Nat) | s (x : Str)
def Src.v (ws : List V) : Src → Option V
  | .p i => ws[i]?
  | .s x => some (.str x)
/-- the fields as they come to stand, the last one first -/
def flds (ws : List V) : List (Str × Src) → List (Str × V) → Option (List (Str × V))
  | [], fs => some fs
  | (f, x) :: r, fs => match x.v ws with
    | some v => flds ws r ((f, v) :: fs)
    | none => none
/-- how far the exception is made -/
def AtX (H : Hp) (a C : Addr) : Option Addr → List (Str × V) → Prop
  | none, fs => H a = some (exo a C none) ∧ fs = []
  | some dx, fs => H a = some (exo a C (some dx)) ∧ H dx = some (exd dx fs) ∧ dx ≠ a
def Fut (H : Hp) (a C : Addr) (od : Option Addr) (fs : List (Str × V)) (R : Hp → Prop) : Prop :=
  ∀ dx H', (match od with | none => H dx = none | some d => dx = d) → dx ≠ a → H' a = some (exo a C (some dx)) → H' dx = some (exd dx fs) → (∀ b, b ≠ a → b ≠ dx → H' b = H b) → R H'
def tItems (K : PySem.W.Frag) (its : List (Str × Src)) : TS := fun D σ H => ∃ (a C : Addr) (od : Option Addr) (fs fs' : List (Str × V)) (ws : List V), σ = some (.ref a) :: ws.map some ∧ ExC K C ∧ (∀ p ∈ its, PySem.W.findIn K (.ref C) p.1 = some none) ∧
  AtX H a C od fs ∧ fs.length + its.length ≤ 900 ∧ (its = [] → od ≠ none) ∧ flds ws its fs = some fs' ∧ Fut H a C od fs' fun H' => D.nx σ H'
def spX (K : PySem.W.Frag) (n : Nat) (its : List (Str × Src)) : Sp := fun vs H Q _ => ∃ (a C : Addr) (fs' : List (Str × V)) (ws : List V), vs = .ref a :: ws ∧ ws.length = n ∧ ExC K C ∧ (∀ p ∈ its, PySem.W.findIn K (.ref C) p.1 = some none) ∧
  H a = some (exo a C none) ∧ flds ws its [] = some fs' ∧ Fut H a C none fs' fun H' => Q .non H'
def srcB (N : List Str) (sc : Scope) : Src → Expr → Bool
  | .p i, .Name x _ => nameB N sc (i + 1) x
  | .s y, .Constant (.str z) _ _ => decide (y = z)
  | _, _ => false
def itB (N : List Str) (sc : Scope) : Str × Src → Stmt → Bool
  | (f, x), .Assign [.Attribute (.Name y _) g _] e _ => nameB N sc 0 y && decide (f = g) && srcB N sc x e
  | _, _ => false
def itsB (N : List Str) (sc : Scope) : List (Str × Src) → List Stmt → Bool
  | [], [] => true
  | i :: r, st :: sts => itB N sc i st && itsB N sc r sts
  | _, _ => false
section
variable {X : Cx} {N : List Str} {sc : Scope}
theorem src_ok (hN : X.N = N) (hsc : X.env.scope = sc) {x : Src} {e : Expr} (h : srcB N sc x e = true) : PE X e (fun σ H Q => ∃ (u : Option V) (ws : List V) (v : V), σ = u :: ws.map some ∧ x.v ws = some v ∧ Q v H) := by
  cases x with
  | p i =>
    cases e <;> first | (cases h; done) | skip
    rename_i x pos
    have h' : nameB N sc (i + 1) x = true := h
    unfold nameB at h'
    simp only [Bool.and_eq_true, Bool.not_eq_true', decide_eq_true_eq] at h'
    obtain ⟨⟨⟨h1, h2⟩, h3⟩, h4⟩ := h'
    refine PEimp (pe_var (i := i + 1) (by rw [hN]; exact h1) (by rw [hsc]; exact vis_of h2) h3 h4) fun σ H Q ⟨u, ws, v, e1, e2, q⟩ => ?_
    refine ⟨v, ?_, q⟩
    have e3 : ws[i]? = some v := e2
    rw [e1, List.getElem?_cons_succ, List.getElem?_map, e3]; rfl
  | s y =>
    cases e <;> first | (cases h; done) | skip
    rename_i kk n pos
    cases kk <;> first | (cases h; done) | skip
    rename_i z
    have e : y = z := of_decide_eq_true h
    subst e
    exact PEimp pe_str fun σ H Q ⟨u, ws, v, e1, e2, q⟩ => by cases e2; exact q
theorem self_ok (hN : X.N = N) (hsc : X.env.scope = sc) {y : Str} {p : Pos} (h : nameB N sc 0 y = true) : PE X (.Name y p) (fun σ H Q => ∃ u us, σ = some u :: us ∧ Q u H) := by
  unfold nameB at h
  simp only [Bool.and_eq_true, Bool.not_eq_true', decide_eq_true_eq] at h
  obtain ⟨⟨⟨h1, h2⟩, h3⟩, h4⟩ := h
  exact PEimp (pe_var (i := 0) (by rw [hN]; exact h1) (by rw [hsc]; exact vis_of h2) h3 h4) fun σ H Q ⟨u, us, e1, q⟩ => ⟨u, by rw [e1]; rfl, q⟩
theorem sw_attrX {v o : Expr} {f : Str} {p : Pos} {l : Nat} {env : Env} : swapsWith v (some (.Attribute o f p)) l env = pure false := by
  cases v <;> rfl
/-- one field -/
def tOne (K : PySem.W.Frag) (i : Str × Src) : TS := fun D σ H => ∃ (a C : Addr) (od : Option Addr) (fs : List (Str × V)) (ws : List V) (v : V), σ = some (.ref a) :: ws.map some ∧ ExC K C ∧ PySem.W.findIn K (.ref C) i.1 = some none ∧
  AtX H a C od fs ∧ fs.length ≤ 900 ∧ i.2.v ws = some v ∧ match od with
    | none => ∀ dx, H dx = none → dx ≠ a → D.nx σ (upd (upd H dx (exd dx [(i.1, v)])) a (exo a C (some dx)))
    | some dx => D.nx σ (upd H dx (exd dx ((i.1, v) :: fs)))
theorem itmX_ok (hN : X.N = N) (hsc : X.env.scope = sc) {i : Str × Src} {st : Stmt} (h : itB N sc i st = true) : PS X st (tOne X.K i) := by
  obtain ⟨f, x⟩ := i
  unfold itB at h
  split at h
  · rename_i f' x' y py g pg e pos e0
    cases e0
    simp only [Bool.and_eq_true, decide_eq_true_eq] at h
    obtain ⟨⟨h1, rfl⟩, h2⟩ := h
    refine ⟨fun pins s σ H D I q => ?_⟩
    obtain ⟨a, C, od, fs, ws, v, rfl, T, hno, hat, hl, hv, q⟩ := q
    refine plainObj_wpAny_Assign_Attribute (thn ((src_ok hN hsc h2).run pins s _ H (fun y H1 => y = v ∧ H1 = H) I ⟨_, ws, v, rfl, hv, rfl, rfl⟩) fun u s1 ⟨y, H1, I1, r1, e1, e2⟩ => ?_) sw_attrX
    subst e1; subst e2
    refine thn ((self_ok hN hsc h1).run pins s1 _ H1 (fun z H2 => z = .ref a ∧ H2 = H1) I1 ⟨_, _, rfl, rfl, rfl⟩) fun u2 s2 ⟨z, H2, I2, r2, e1, e2⟩ => ?_
    subst e1; subst e2
    obtain rfl : u2 = Value.ref a := r2
    cases od with
    | none =>
      obtain ⟨ea, rfl⟩ := hat
      exact put_first T I2 ea hno r1 fun dx s' n ne J => ⟨_, _, J, q dx n ne⟩
    | some dx =>
      obtain ⟨ea, ed, _⟩ := hat
      exact put_more T I2 ea ed hl hno r1 fun s' J => ⟨_, _, J, q⟩
  · cases h
theorem itmsX_ok (hN : X.N = N) (hsc : X.env.scope = sc) : ∀ {its : List (Str × Src)} {sts : List Stmt}, itsB N sc its sts = true → PSs X sts (tItems X.K its)
  | [], [], _ => PSsimp pss_nil fun D σ H q => by
    obtain ⟨a, C, od, fs, fs', ws, rfl, T, hno, hat, hl, ho, hf, q⟩ := q
    cases od with
    | none => exact absurd rfl (ho rfl)
    | some dx =>
      obtain ⟨ea, ed, ne⟩ := hat
      cases hf
      exact q dx H rfl ne ea ed fun _ _ _ => rfl
  | [], _ :: _, h => by cases h
  | _ :: _, [], h => by cases h
  | i :: r, st :: sts, h => by
    unfold itsB at h
    rw [Bool.and_eq_true] at h
    refine PSsimp (pss_cons (itmX_ok hN hsc h.1) (itmsX_ok hN hsc h.2)) fun D σ H q => ?_
    obtain ⟨a, C, od, fs, fs', ws, rfl, T, hno, hat, hl, ho, hf, q⟩ := q
    obtain ⟨f, x⟩ := i
    unfold flds at hf
    split at hf
    · rename_i v hv
      rw [List.length_cons] at hl
      refine ⟨a, C, od, fs, ws, v, rfl, T, hno _ (by simp), hat, by omega, hv, ?_⟩
      have hno' : ∀ p ∈ r, PySem.W.findIn X.K (.ref C) p.1 = some none := fun p hp => hno p (by simp [hp])
      cases od with
      | none =>
        obtain ⟨ea, rfl⟩ := hat
        intro dx hd ne
        refine ⟨a, C, some dx, [(f, v)], fs', ws, rfl, T, hno', ⟨upd_same, ?_, ne⟩, by simp at hl ⊢; omega, fun _ => by simp, hf, ?_⟩
        · rw [upd_ne ne, upd_same]
        · rintro dx' H' rfl ne' ea' ed' hb
          refine q dx' H' hd ne' ea' ed' fun b b1 b2 => ?_
          rw [hb b b1 b2, upd_ne b1, upd_ne b2]
      | some dx =>
        obtain ⟨ea, ed, ne⟩ := hat
        refine ⟨a, C, some dx, (f, v) :: fs, fs', ws, rfl, T, hno', ⟨?_, upd_same, ne⟩, by simp at hl ⊢; omega, fun _ => by simp, hf, ?_⟩
        · rw [upd_ne (Ne.symm ne)]; exact ea
        · rintro dx' H' rfl ne' ea' ed' hb
          refine q dx' H' rfl ne' ea' ed' fun b b1 b2 => ?_
          rw [hb b b1 b2, upd_ne b2]
    · cases hf
/-- an __init__ that sets its fields -/
theorem init_ok {P : Program} {w : World} {K : PySem.W.Frag} {mg : Str → Option Value} {base : Heap} {x qual : Str} {params : Arguments} {body : List Stmt} {scope : Scope} {dvs : List V} {kws : List (Str × V)} {f : Addr} {fd : FuncData} {ps : List Str} {its : List (Str × Src)} {n : Nat}
    (F : FunD K x qual params body scope dvs kws f fd) (S : FnScope ps ps scope) (hl : ps.length = n + 1) (hc : itsB ps scope its body = true) (hi : its ≠ []) (hl2 : its.length ≤ 900) : FnOk P w K mg base (L2.CX P w) 1 f fd ps (spX K n its) := by
  refine F.ok S (fun vs H Q E h => ?_) (fun cdv A outer s H vs Q E hr h => ⟨tItems K its, itmsX_ok rfl rfl hc, ?_⟩)
  · obtain ⟨a, C, fs', ws, rfl, l, _⟩ := h
    rw [List.length_cons, l, hl]
  · obtain ⟨a, C, fs', ws, rfl, l, T, hno, ea, hf, q⟩ := h
    refine ⟨a, C, none, [], fs', ws, ?_, T, hno, ⟨ea, rfl⟩, by simpa using hl2, fun z => absurd z hi, hf, q⟩
    unfold L2.start
    simp [l, hl]
end
end L3

namespace L3
open PySem L2 PySem.W
/-- the __init__ of the class above, called by the class -/
structure UpF (P : Program) (w : World) (K : PySem.W.Frag) (mg : Str → Option Value) (base : Heap) (L f0 : Addr) (fd0 : FuncData) (ps0 : List Str) : Prop where
  mgL : mg "LagError" = some (.ref L)
  rd : PySem.W.readsIn K L (.type "type") = true
  ga : PySem.W.specialIn K (.ref L) "__getattribute__" = some (some (.builtin "type.__getattribute__"))
  fc : PySem.W.findCls K (.ref L) (.type "type") "__init__" = some (.val (.ref f0))
  kp : PySem.W.keepIn K (.ref f0) = true
  F : FnOk P w K mg base (L2.CX P w) 1 f0 fd0 ps0 (spX K 1 [("word", .p 0)])
  b : Bnd K fd0 ps0 2 [] none
def upB (N : List Str) (sc : Scope) (z : Str) : Stmt → Bool
  | .Expr (.Call (.Attribute (.Name l _) m ap) [.Name y _, .Constant (.str z') _ _] [] pos) _ => decide (l = ("LagError" : Str)) && globB sc l && decide (m = ("__init__" : Str)) && nameB N sc 0 y && decide (z = z') && (ap.endLine == pos.line)
  | _ => false
def upsB (N : List Str) (sc : Scope) (z : Str) (its : List (Str × Src)) : List Stmt → Bool
  | st :: sts => upB N sc z st && itsB N sc its sts
  | [] => false
section
variable {X : Cx} {N : List Str} {sc : Scope} {L f0 : Addr} {fd0 : FuncData} {ps0 : List Str}
def tUp (K : PySem.W.Frag) (z : Str) : TE := fun σ H Q => ∃ (a C : Addr) (ws : List V), σ = some (.ref a) :: ws.map some ∧ ExC K C ∧ PySem.W.findIn K (.ref C) "word" = some none ∧ H a = some (exo a C none) ∧ Fut H a C none [("word", .str z)] fun H' => Q .non H'
theorem no_exc {P : Program} {w : World} {outer : List Env} {H : Hp} {s s' : Shared} {e : Value} (h : L2.CX P w outer H s (fun _ _ _ => False) e s') : False := by
  obtain ⟨_, _, _, _, _, _, _, _, _, _, _, _, z⟩ := h
  exact z
theorem pe_up (U : UpF X.prog X.w X.K X.mg X.base L f0 fd0 ps0) (hr : Room 1 X.A) (hN : X.N = N) (hsc : X.env.scope = sc) {z l m y : Str} {p p3 p4 ap pos : Pos} {j : Nat} (hl : l = ("LagError" : Str)) (hg : globB sc l = true) (hm : m = ("__init__" : Str)) (hy : nameB N sc 0 y = true)
    (hln : (ap.endLine == pos.line) = true) : PE X (.Call (.Attribute (.Name l p) m ap) [.Name y p3, .Constant (.str z) j p4] [] pos) (tUp X.K z) := by
  subst hl; subst hm
  have gl : Gl X "LagError" := by
    unfold globB at hg
    simp only [Bool.and_eq_true, Bool.not_eq_true', decide_eq_true_eq] at hg
    obtain ⟨⟨h1, _⟩, _⟩ := hg
    show X.env.scope.names.lookup _ = _
    rw [hsc]
    split at h1
    · assumption
    · cases h1
  have ck : chkA N sc false (.cons (.var 0) (.cons (.cst (.str z)) .nil)) [.Name y p3, .Constant (.str z) j p4] = true := by
    simp [chkA, chk, hy, starB, cstB]
  refine ⟨fun pins s σ H Q I q => ?_⟩
  obtain ⟨a, C, ws, rfl, T, hno, ea, q⟩ := q
  refine PySem.W.methodCall_KW (ld_glob I gl U.mgL ?_ (by decide)) (meth_eq (N := N) (sc := sc) (c := false) (es := .cons (.var 0) (.cons (.cst (.str z)) .nil)) (kes := .nil) (ks := []) rfl ck rfl hln (by simp))
  refine PySem.W.method_cls I.kIn U.ga (PySem.W.cls_value I.kIn U.rd U.fc rfl ?_)
  refine PySem.W.callWith_KW (h₀ := X.base) I.ok.mod.kin U.kp rfl ?_ rfl rfl
  have pa : PA X [.Name y p3, .Constant (.str z) j p4] _ := pa_cons (self_ok hN hsc hy) (pa_cons pe_str pa_nil)
  refine thn (pa.run pos pins _ _ H (fun vs H1 => vs = [.ref a, .str z] ∧ H1 = H) (I.tok _) ⟨_, _, rfl, rfl, rfl⟩) fun us s1 ⟨vs, H1, I1, rv, e1, e2⟩ => ?_
  subst e1; subst e2
  refine wpAny_pure ⟨I1.kIn, ?_⟩
  have l1 : us.length = 2 := rv.length.symm
  obtain ⟨as, bt, pk⟩ := U.b s1 us [] I1.kIn l1 rfl
  obtain rfl : as = us := pk
  have sp : spX X.K 1 [("word", .p 0)] [.ref a, .str z] H1 (fun v H' => v = .non ∧ Q .non H') (fun _ _ _ => False) := ⟨a, C, [("word", .str z)], [.str z], rfl, rfl, T, fun p hp => by simp at hp; subst hp; exact hno, ea, rfl, fun dx H' h1 h2 h3 h4 h5 => ⟨rfl, q dx H' h1 h2 h3 h4 h5⟩⟩
  refine wpAny_call (codeAny_mono (U.F.run X.A X.stack s1 H1 ⟨as, []⟩ as _ _ _ hr I1.env0 bt rv sp) fun r s' hq => ?_)
  cases r with
  | error e => exact (no_exc hq).elim
  | ok fl =>
    cases fl with
    | ret u =>
      obtain ⟨v, H', I3, rv3, ev, q3⟩ := I1.after hq
      subst ev
      exact ⟨_, H', I3, rv3, q3⟩
    | next => exact False.elim hq
    | brk => exact False.elim hq
    | cont => exact False.elim hq
end
theorem init_up {P : Program} {w : World} {K : PySem.W.Frag} {mg : Str → Option Value} {base : Heap} {x qual : Str} {params : Arguments} {body : List Stmt} {scope : Scope} {dvs : List V} {kws : List (Str × V)} {f L f0 : Addr} {fd fd0 : FuncData} {ps ps0 : List Str} {its : List (Str × Src)} {n : Nat} {z : Str}
    (U : UpF P w K mg base L f0 fd0 ps0) (F : FunD K x qual params body scope dvs kws f fd) (S : FnScope ps ps scope) (hl : ps.length = n + 1) (hc : upsB ps scope z its body = true) (hl2 : its.length ≤ 800) : FnOk P w K mg base (L2.CX P w) 2 f fd ps (spX K n (("word", .s z) :: its)) := by
  cases body with
  | nil => cases hc
  | cons st sts =>
    unfold upsB at hc
    rw [Bool.and_eq_true] at hc
    obtain ⟨h1, h2⟩ := hc
    unfold upB at h1
    split at h1
    · rename_i l pl m ap y py z' jz pz pos pe
      simp only [Bool.and_eq_true, decide_eq_true_eq] at h1
      obtain ⟨⟨⟨⟨⟨a1, a2⟩, a3⟩, a4⟩, rfl⟩, a5⟩ := h1
      refine F.ok S (fun vs H Q E h => ?_) (fun cdv A outer s H vs Q E hr h => ?_)
      · obtain ⟨a, C, fs', ws, rfl, l, _⟩ := h
        rw [List.length_cons, l, hl]
      · refine ⟨_, pss_cons (ps_expr (pe_up (X := cxOf (L2.CX P w) P w K mg base ps qual scope f cdv A outer s H E) (N := ps) (sc := scope) U hr rfl rfl a1 a2 a3 a4 a5) rfl) (itmsX_ok (N := ps) (sc := scope) rfl rfl h2), ?_⟩
        obtain ⟨a, C, fs', ws, rfl, l, T, hno, ea, hf, q⟩ := h
        have est : L2.start ps (.ref a :: ws) = some (.ref a) :: ws.map some := by
          unfold L2.start
          simp [l, hl]
        rw [est]
        refine ⟨a, C, ws, rfl, T, hno ("word", .s z) (by simp), ea, fun dx H' d1 d2 d3 d4 d5 => ?_⟩
        refine ⟨a, C, some dx, [("word", .str z)], fs', ws, rfl, T, fun p hp => hno p (by simp [hp]), ⟨d3, d4, d2⟩, by simp; omega, fun _ => by simp, hf, ?_⟩
        rintro dx' H'' rfl e2 e3 e4 e5
        exact q dx' H'' d1 e2 e3 e4 fun b b1 b2 => (e5 b b1 b2).trans (d5 b b1 b2)
    · cases h1
end L3

namespace L3
open PySem L2 PySem.W
def srcOf : Ar → Option Src
  | .p i => some (.p i)
  | .d (.str z) => some (.s z)
  | _ => none
def itsOf : List Str → List Ar → Option (List (Str × Src))
  | [], [] => some []
  | f :: fl, a :: b => match srcOf a, itsOf fl b with
    | some x, some r => some ((f, x) :: r)
    | _, _ => none
  | _, _ => none
/-- an own exception class is called -/
def Rai (P : Program) (w : World) (K : PySem.W.Frag) (mg : Str → Option Value) (base : Heap) (k : Nat) (cl n : Nat) (b : List Ar) : Prop :=
  ∃ (C fI : Addr) (fd : FuncData) (ps : List Str) (j : Nat) (its : List (Str × Src)), k = j + 1 ∧ mg (clsN cl) = some (.ref C) ∧ ExC K C ∧ PySem.W.findIn K (.ref C) "__init__" = some (some (.ref fI)) ∧ PySem.W.typeIn K (.ref fI) = some (.type "function") ∧
    Bnd K fd ps (n + 1) [] none ∧ (∀ f ∈ fldN cl, PySem.W.findIn K (.ref C) f = some none) ∧ itsOf (fldN cl) b = some its ∧ FnOk P w K mg base (L2.CX P w) j fI fd ps (spX K n its)
theorem flds_other {ws : List V} {g : Str} : ∀ {its : List (Str × Src)} {fs fs' : List (Str × V)}, flds ws its fs = some fs' → (∀ p ∈ its, p.1 ≠ g) → fs'.lookup g = fs.lookup g
  | [], _, _, h, _ => by cases h; rfl
  | (f, x) :: r, fs, fs', h, n => by
    unfold flds at h
    split at h
    · rw [flds_other h fun p hp => n p (by simp [hp]), lookup_put, if_neg fun e => n (f, x) (by simp) e.symm]
    · cases h
theorem its_names : ∀ {fl : List Str} {b : List Ar} {its : List (Str × Src)}, itsOf fl b = some its → ∀ p ∈ its, p.1 ∈ fl
  | [], [], _, h => by cases h; intro p hp; cases hp
  | [], _ :: _, _, h => by cases h
  | _ :: _, [], _, h => by cases h
  | f :: fl, a :: b, its, h => by
    unfold itsOf at h
    split at h
    · rename_i x r hx hr
      cases h
      intro p hp
      rcases List.mem_cons.mp hp with rfl | hp
      · simp
      · exact List.mem_cons_of_mem _ (its_names hr p hp)
    · cases h
theorem its_len : ∀ {fl : List Str} {b : List Ar} {its : List (Str × Src)}, itsOf fl b = some its → b.length = fl.length
  | [], [], _, h => rfl
  | [], _ :: _, _, h => by cases h
  | _ :: _, [], _, h => by cases h
  | f :: fl, a :: b, its, h => by
    unfold itsOf at h
    split at h
    · rename_i x r hx hr
      simp [its_len hr]
    · cases h
theorem pick_len : ∀ {b : List Ar} {ds zs xs : List D}, pickD b ds zs = some xs → xs.length = b.length
  | [], _, _, _, h => by cases h; rfl
  | .p i :: b, ds, zs, xs, h => by
    unfold pickD at h
    split at h
    · obtain ⟨ys, h1, rfl⟩ := Option.map_eq_some_iff.mp h
      simp [pick_len h1]
    · cases h
  | .k i :: b, ds, zs, xs, h => by
    unfold pickD at h
    split at h
    · obtain ⟨ys, h1, rfl⟩ := Option.map_eq_some_iff.mp h
      simp [pick_len h1]
    · cases h
  | .d x :: b, ds, zs, xs, h => by
    unfold pickD at h
    obtain ⟨ys, h1, rfl⟩ := Option.map_eq_some_iff.mp h
    simp [pick_len h1]
/-- the fields are there, each with what it comes from -/
theorem flds_get {K : PySem.W.Frag} {ρ : List Addr} {H : Hp} {ws : List V} {ds : List D} (rd : RDs K ρ H ds ws) : ∀ {fl : List Str} {b : List Ar} {its : List (Str × Src)} {fs : List (Str × V)} {xs : List D}, fl.Nodup → itsOf fl b = some its → pickD b ds [] = some xs →
    ∃ fs', flds ws its fs = some fs' ∧ ∀ (i : Nat) (f : Str) (x : D), fl[i]? = some f → xs[i]? = some x → ∃ v, fs'.lookup f = some v ∧ RD K ρ H x v
  | [], [], _, fs, xs, _, h, e => by cases h; exact ⟨fs, rfl, fun i f x q => by simp at q⟩
  | [], _ :: _, _, _, _, _, h, _ => by cases h
  | _ :: _, [], _, _, _, _, h, _ => by cases h
  | f :: fl, a :: b, its, fs, xs, nd, h, e => by
    unfold itsOf at h
    split at h
    · rename_i x r hx hr
      cases h
      obtain ⟨nf, nd⟩ := List.nodup_cons.mp nd
      obtain ⟨v, x0, xr, hv, hd, hp, rfl⟩ : ∃ v x0 xr, x.v ws = some v ∧ RD K ρ H x0 v ∧ pickD b ds [] = some xr ∧ xs = x0 :: xr := by
        cases a with
        | p i =>
          cases hx
          unfold pickD at e
          split at e
          · rename_i y hy
            obtain ⟨xr, h1, rfl⟩ := Option.map_eq_some_iff.mp e
            obtain ⟨v, ev, rv⟩ := rd.get hy
            exact ⟨v, y, xr, ev, rv, h1, rfl⟩
          · cases e
        | k j => cases hx
        | d y =>
          cases y <;> first | (cases hx; done) | skip
          rename_i z
          cases hx
          unfold pickD at e
          obtain ⟨xr, h1, rfl⟩ := Option.map_eq_some_iff.mp e
          exact ⟨.str z, .str z, xr, rfl, .str z, h1, rfl⟩
      obtain ⟨fs', h1, h2⟩ := flds_get rd (fs := (f, v) :: fs) nd hr hp
      refine ⟨fs', by unfold flds; rw [hv]; exact h1, fun i g y e1 e2 => ?_⟩
      cases i with
      | zero =>
        simp at e1 e2
        subst e1; subst e2
        refine ⟨v, ?_, hd⟩
        rw [flds_other h1 fun p hp e => nf (by have z := its_names hr p hp; rw [e] at z; exact z), lookup_put, if_pos rfl]
      | succ i => exact h2 i g y (by simpa using e1) (by simpa using e2)
    · cases h
section
variable {X : Cx} {N : List Str} {sc : Scope} {k : Nat} {c : Bool} {W : WX}
/-- what is wanted of the making -/
def tRai (X : Cx) (W : WX) (cl : Nat) (b : List Ar) (m : Sl → Hh → Res (List D)) : L2.St → Hp → XK → Prop := fun σ H Q => ∃ ρ σ3 h, RS X.K ρ H σ3 σ ∧ Rep X.K X.mg ρ h H ∧ Post X.K X.mg (RL X.K) ρ H (fun c d H' => W c d σ H') (m σ3 h) fun vs H1 =>
  ∃ ρ1 ds h1, Step ρ H ρ1 H1 ∧ Rep X.K X.mg ρ1 h1 H1 ∧ RDs X.K ρ1 H1 ds vs ∧ m σ3 h = .ok ds h1 ∧ ∃ xs, pickD b ds [] = some xs ∧ ∀ (ρ' : List Addr) (H' : Hp) (cls : Value) (dd : Option Addr), Step ρ1 H1 ρ' H' → Rep X.K X.mg ρ' h1 H' → XR X.K X.mg ρ' H' cl xs cls dd → Q cls dd H'
theorem pmk_any (G : Gx X N sc k true) (tk : Takes X W) {cl : Nat} {b : List Ar} {es : E} (ra : Rai X.prog X.w X.K X.mg X.base k cl es.alen b) (ie : Snd X N sc true W es) {y : Str} {p pos : Pos} {args : List Expr} (hy : clsN cl = y) (hg : globB sc y = true) (ha : chkA N sc true es args = true) (hn : args.length < 1000) (hbe : subN cl "BaseException" = true) :
    PMk X (.Call (.Name y p) args [] pos) (tRai X W cl b (den es).a) := by
  subst hy
  obtain ⟨C, fI, fd, ps, j, its, rfl, hm, T, iC, tI, hb, hno, hi, F⟩ := ra
  obtain ⟨g1, g2, g3⟩ := G.glob hg
  obtain ⟨Bs, newId, initId, bmB, nm, q, NN, bs, bm, sn, sub, ab, col, dd, k0, k1, k2, k3, k5, FB, M3, mo, hC⟩ := T.cls
  have hr := (G.run rfl).2
  intro pins s σ H Q I h
  obtain ⟨ρ, σ3, hh, rs, rp, P⟩ := h
  refine wpAny_Call_Name_kw (ld_glob I g1 hm ?_ g2)
  -- behind the arguments
  have go : ∀ (s1 : Shared) (H1 : Hp) (us : List Value) (vs : List V) (ρ1 : List Addr) (ds : List D) (h1 : Hh), Inv X pins σ H1 s1 → Rep X.K X.mg ρ1 h1 H1 → RDs X.K ρ1 H1 ds vs → Vals vs us → us.length = es.alen → us.length < 1000 →
      (∃ xs, pickD b ds [] = some xs ∧ ∀ (ρ' : List Addr) (H' : Hp) (cls : Value) (dd : Option Addr), Step ρ1 H1 ρ' H' → Rep X.K X.mg ρ' h1 H' → XR X.K X.mg ρ' H' cl xs cls dd → Q cls dd H') → wpAny (model X.prog X.w) X.A (call (.ref C) us []) (MkP X pins σ Q) X.xe s1 := by
    intro s1 H1 us vs ρ1 ds h1 I1 rp1 rd r1 l1 l2 ⟨xs, hp, q1⟩
    obtain ⟨hpp, g, dr, tkk, os⟩ := s1
    have hsz : hpp.objs.size ≤ hpp.objs.size + 1 := Nat.le_succ _
    have hn : H1 (hpp.objs.size + 1) = none := I1.hok.fresh hsz
    have kk : ∀ b o, hpp.get? b = some o → ((hpp.push (PySem.W.kdv_tup us)).push (PySem.HandSPX.excO C hpp.objs.size)).get? b = some o := fun b o e => Heap.get?_push_of_some _ (Heap.get?_push_of_some _ e)
    have hget : ((hpp.push (PySem.W.kdv_tup us)).push (PySem.HandSPX.excO C hpp.objs.size)).get? (hpp.objs.size + 1) = some (PySem.HandSPX.excO C hpp.objs.size) := by heap_get
    have I2 : Inv X pins σ (upd H1 (hpp.objs.size + 1) (exo (hpp.objs.size + 1) C none)) ⟨(hpp.push (PySem.W.kdv_tup us)).push (PySem.HandSPX.excO C hpp.objs.size), g, dr, tkk, os⟩ :=
      I1.laid (t' := tkk) (a := hpp.objs.size + 1) (o := exo (hpp.objs.size + 1) C none) (h' := (hpp.push (PySem.W.kdv_tup us)).push (PySem.HandSPX.excO C hpp.objs.size)) kk hsz (exo_ok hget)
    have r2 : Vals (V.ref (hpp.objs.size + 1) :: vs) (Value.ref (hpp.objs.size + 1) :: us) := .cons rfl r1
    have hus : us.length ≤ sizeLine := by
      have := small1000 (Nat.le_of_lt l2); omega
    obtain ⟨fs', hf, hx⟩ := flds_get rd (fs := []) (fld_ok cl).1 hi hp
    have sp : spX X.K es.alen its (V.ref (hpp.objs.size + 1) :: vs) (upd H1 (hpp.objs.size + 1) (exo (hpp.objs.size + 1) C none)) (fun v H2 => v = .non ∧ ∃ (d : Addr), H2 (hpp.objs.size + 1) = some (exo (hpp.objs.size + 1) C (some d)) ∧ H2 d = some (exd d fs') ∧ H1 d = none ∧ Q (.ref C) (some d) (upd (del H2 (hpp.objs.size + 1)) d (.xd fs'))) (fun _ _ _ => False) := by
      refine ⟨_, C, fs', vs, rfl, by rw [← l1]; exact r1.length, T, fun p hp => hno _ (its_names hi p hp), upd_same, hf, fun dx H' d1 d2 d3 d4 d5 => ⟨rfl, dx, d3, d4, ?_, ?_⟩⟩
      · have d1' : upd H1 (hpp.objs.size + 1) (exo (hpp.objs.size + 1) C none) dx = none := d1
        rw [upd_ne d2] at d1'; exact d1'
      · have d1' : upd H1 (hpp.objs.size + 1) (exo (hpp.objs.size + 1) C none) dx = none := d1
        rw [upd_ne d2] at d1'
        have eH : upd (del H' (hpp.objs.size + 1)) dx (.xd fs') = upd H1 dx (.xd fs') := by
          funext z
          by_cases z1 : z = dx
          · subst z1; rw [upd_same, upd_same]
          · rw [upd_ne z1, upd_ne z1]
            by_cases z2 : z = hpp.objs.size + 1
            · subst z2; rw [del_same, hn]
            · rw [del_ne z2, d5 z z2 z1, upd_ne z2]
        rw [eH]
        have st : Step ρ1 H1 ρ1 (upd H1 dx (.xd fs')) := Step.beside d1'
        refine q1 ρ1 _ (.ref C) (some dx) st (rp1.beside d1') ⟨hbe, by rw [pick_len hp, its_len hi]; exact Nat.le_refl _, C, dx, fs', rfl, hm, rfl, upd_same, fun i f x e1 e2 => ?_⟩
        obtain ⟨v, ev, rv⟩ := hx i f x e1 e2
        exact ⟨v, ev, rv.mono st⟩
    obtain ⟨as, bt, pk⟩ := hb _ (Value.ref (hpp.objs.size + 1) :: us) [] I2.kIn (by simp [l1]) rfl
    obtain rfl : as = _ := pk
    refine wpAny_call (mk_call FB M3 (I1.kIn _ _ hC) (PySem.W.looks_findIn I1.kIn iC) (fun self => PySem.W.bind_fn I1.kIn self tI) hus
      (codeAny_mono (F.run _ X.stack _ _ ⟨Value.ref (hpp.objs.size + 1) :: us, []⟩ (Value.ref (hpp.objs.size + 1) :: us) _ _ (fun _ _ _ => False) (hr.make C us []) (I2.env0.make C us []) bt r2 sp) fun r s' hq' => ?_))
    cases r with
    | error er => exact (no_exc hq').elim
    | ok fl =>
      cases fl with
      | ret u =>
        obtain ⟨v, H2, os2, bare2, un2, hok2, rv, ev, d, ea, ed, hd1, q2⟩ := hq'
        subst ev
        obtain ⟨h2, g2, d2, t2, os'⟩ := s'
        exact ⟨rv, mk_end (raises_own T.exC T.tyC) I1 hsz kk un2 hok2 os2 bare2 ea ed hd1 q2⟩
      | next => exact False.elim hq'
      | brk => exact False.elim hq'
      | cont => exact False.elim hq'
  have st := chkA_star ha
  cases args with
  | nil =>
    have en : es = .nil := by cases es <;> first | rfl | (simp only [chkA] at ha; cases ha)
    subst en
    refine PySem.W.callWith_KW0 (h₀ := X.base) I.ok.mod.kin T.kC rfl ?_ rfl
    refine wpAny_pure ⟨I.kIn, ?_⟩
    have P' := Post.here (RA := RL X.K) P rp (b := []) .nil
    obtain ⟨ρ1, ds, h1, st1, rp1, rd1, e1, q1⟩ := P'
    exact go s H [] [] ρ1 ds h1 I rp1 rd1 .nil rfl (by decide) q1
  | cons a args =>
    refine PySem.W.callWith_KW (h₀ := X.base) I.ok.mod.kin T.kC rfl ?_ (by rw [star_any st]; rfl) (star_cons (st a List.mem_cons_self))
    refine thn ((ie.pa _ ha).run pos pins s σ H _ I ⟨ρ, σ3, hh, rs, rp, P⟩) fun us s1 ⟨vs, H1, I1, rv, ρ1, ds, h1, st1, rp1, rd1, e1, q1⟩ => ?_
    refine wpAny_pure ⟨I1.kIn, ?_⟩
    have l0 : us.length = es.alen := by rw [← rv.length, ← rd1.length, chkA_len ha]; exact evA_len ha e1
    exact go s1 H1 us vs ρ1 ds h1 I1 rp1 rd1 rv l0 (by rw [l0, chkA_len ha]; exact hn) q1
end
end L3

set_option maxHeartbeats 8000000
namespace L3
open PySem L2 PySem.W PyProof.Rows
section
variable {M : Model} {K : PySem.W.Frag}
theorem exm_t2 {c1 c2 cls : Value} {tp e : Addr} {b : Bool} {h : Heap} (X : K.In h) (LT : Looks M h (typeOf (.ref e)) cls) (hp : h.get? tp = some { cls := .type "tuple", data := .seq [c1, c2].toArray }) (hx : exmAny K cls [c1, c2] = some b) :
    Looks M h (excMatches (.ref e) (.ref tp)) b := by
  intro A Q E s kz q
  obtain ⟨hh, g, d, tk, os⟩ := s
  have k : ∀ u v, h.get? u = some v → hh.get? u = some v := kz
  have L0 : Looks M h (isInstance (.ref tp) (.type "tuple")) true := ((Looks.ld hp).andThen .now).andThen (Looks.of_pure isSubtype_tuple_tuple)
  obtain ⟨b1, d1, x1, y1, z1⟩ := exmAny_cons hx
  obtain ⟨e1, S1⟩ := exm_cls (M := M) X x1
  replace e1 := e1.keeps k
  replace S1 := S1.keeps k
  obtain ⟨b2, d2, x2, y2, z2⟩ := exmAny_cons y1
  obtain ⟨e2, S2⟩ := exm_cls (M := M) X x2
  replace e2 := e2.keeps k
  replace S2 := S2.keeps k
  cases (show some false = some d2 from y2)
  replace LT := LT.keeps k
  replace L0 := L0.keeps k
  have hp' := k _ _ hp
  subst z1 z2
  unfold excMatches
  refine wpAny_bind (L0.at ?_)
  dsimp only
  rw [if_pos rfl]
  first
    | (refine wpAny_bind (wpAny_seqItems hp' rfl ?_))
    | (refine wpAny_bind (wpAny_bind (wpAny_seqItems hp' rfl (wpAny_pure ?_))))
  dsimp only [Option.getD_some, Option.getD]
  cases b1 <;> cases b2 <;> ((repeat (first | simp only [List.forIn_cons, List.forIn_nil, Bool.not_true, Bool.false_eq_true, if_false, if_true] | lk)); exact q)
theorem exm_t3 {c1 c2 c3 cls : Value} {tp e : Addr} {b : Bool} {h : Heap} (X : K.In h) (LT : Looks M h (typeOf (.ref e)) cls) (hp : h.get? tp = some { cls := .type "tuple", data := .seq [c1, c2, c3].toArray }) (hx : exmAny K cls [c1, c2, c3] = some b) :
    Looks M h (excMatches (.ref e) (.ref tp)) b := by
  intro A Q E s kz q
  obtain ⟨hh, g, d, tk, os⟩ := s
  have k : ∀ u v, h.get? u = some v → hh.get? u = some v := kz
  have L0 : Looks M h (isInstance (.ref tp) (.type "tuple")) true := ((Looks.ld hp).andThen .now).andThen (Looks.of_pure isSubtype_tuple_tuple)
  obtain ⟨b1, d1, x1, y1, z1⟩ := exmAny_cons hx
  obtain ⟨e1, S1⟩ := exm_cls (M := M) X x1
  replace e1 := e1.keeps k
  replace S1 := S1.keeps k
  obtain ⟨b2, d2, x2, y2, z2⟩ := exmAny_cons y1
  obtain ⟨e2, S2⟩ := exm_cls (M := M) X x2
  replace e2 := e2.keeps k
  replace S2 := S2.keeps k
  obtain ⟨b3, d3, x3, y3, z3⟩ := exmAny_cons y2
  obtain ⟨e3, S3⟩ := exm_cls (M := M) X x3
  replace e3 := e3.keeps k
  replace S3 := S3.keeps k
  cases (show some false = some d3 from y3)
  replace LT := LT.keeps k
  replace L0 := L0.keeps k
  have hp' := k _ _ hp
  subst z1 z2 z3
  unfold excMatches
  refine wpAny_bind (L0.at ?_)
  dsimp only
  rw [if_pos rfl]
  first
    | (refine wpAny_bind (wpAny_seqItems hp' rfl ?_))
    | (refine wpAny_bind (wpAny_bind (wpAny_seqItems hp' rfl (wpAny_pure ?_))))
  dsimp only [Option.getD_some, Option.getD]
  cases b1 <;> cases b2 <;> cases b3 <;> ((repeat (first | simp only [List.forIn_cons, List.forIn_nil, Bool.not_true, Bool.false_eq_true, if_false, if_true] | lk)); exact q)
theorem exm_t4 {c1 c2 c3 c4 cls : Value} {tp e : Addr} {b : Bool} {h : Heap} (X : K.In h) (LT : Looks M h (typeOf (.ref e)) cls) (hp : h.get? tp = some { cls := .type "tuple", data := .seq [c1, c2, c3, c4].toArray }) (hx : exmAny K cls [c1, c2, c3, c4] = some b) :
    Looks M h (excMatches (.ref e) (.ref tp)) b := by
  intro A Q E s kz q
  obtain ⟨hh, g, d, tk, os⟩ := s
  have k : ∀ u v, h.get? u = some v → hh.get? u = some v := kz
  have L0 : Looks M h (isInstance (.ref tp) (.type "tuple")) true := ((Looks.ld hp).andThen .now).andThen (Looks.of_pure isSubtype_tuple_tuple)
  obtain ⟨b1, d1, x1, y1, z1⟩ := exmAny_cons hx
  obtain ⟨e1, S1⟩ := exm_cls (M := M) X x1
  replace e1 := e1.keeps k
  replace S1 := S1.keeps k
  obtain ⟨b2, d2, x2, y2, z2⟩ := exmAny_cons y1
  obtain ⟨e2, S2⟩ := exm_cls (M := M) X x2
  replace e2 := e2.keeps k
  replace S2 := S2.keeps k
  obtain ⟨b3, d3, x3, y3, z3⟩ := exmAny_cons y2
  obtain ⟨e3, S3⟩ := exm_cls (M := M) X x3
  replace e3 := e3.keeps k
  replace S3 := S3.keeps k
  obtain ⟨b4, d4, x4, y4, z4⟩ := exmAny_cons y3
  obtain ⟨e4, S4⟩ := exm_cls (M := M) X x4
  replace e4 := e4.keeps k
  replace S4 := S4.keeps k
  cases (show some false = some d4 from y4)
  replace LT := LT.keeps k
  replace L0 := L0.keeps k
  have hp' := k _ _ hp
  subst z1 z2 z3 z4
  unfold excMatches
  refine wpAny_bind (L0.at ?_)
  dsimp only
  rw [if_pos rfl]
  first
    | (refine wpAny_bind (wpAny_seqItems hp' rfl ?_))
    | (refine wpAny_bind (wpAny_bind (wpAny_seqItems hp' rfl (wpAny_pure ?_))))
  dsimp only [Option.getD_some, Option.getD]
  cases b1 <;> cases b2 <;> cases b3 <;> cases b4 <;> ((repeat (first | simp only [List.forIn_cons, List.forIn_nil, Bool.not_true, Bool.false_eq_true, if_false, if_true] | lk)); exact q)
theorem exm_t5 {c1 c2 c3 c4 c5 cls : Value} {tp e : Addr} {b : Bool} {h : Heap} (X : K.In h) (LT : Looks M h (typeOf (.ref e)) cls) (hp : h.get? tp = some { cls := .type "tuple", data := .seq [c1, c2, c3, c4, c5].toArray }) (hx : exmAny K cls [c1, c2, c3, c4, c5] = some b) :
    Looks M h (excMatches (.ref e) (.ref tp)) b := by
  intro A Q E s kz q
  obtain ⟨hh, g, d, tk, os⟩ := s
  have k : ∀ u v, h.get? u = some v → hh.get? u = some v := kz
  have L0 : Looks M h (isInstance (.ref tp) (.type "tuple")) true := ((Looks.ld hp).andThen .now).andThen (Looks.of_pure isSubtype_tuple_tuple)
  obtain ⟨b1, d1, x1, y1, z1⟩ := exmAny_cons hx
  obtain ⟨e1, S1⟩ := exm_cls (M := M) X x1
  replace e1 := e1.keeps k
  replace S1 := S1.keeps k
  obtain ⟨b2, d2, x2, y2, z2⟩ := exmAny_cons y1
  obtain ⟨e2, S2⟩ := exm_cls (M := M) X x2
  replace e2 := e2.keeps k
  replace S2 := S2.keeps k
  obtain ⟨b3, d3, x3, y3, z3⟩ := exmAny_cons y2
  obtain ⟨e3, S3⟩ := exm_cls (M := M) X x3
  replace e3 := e3.keeps k
  replace S3 := S3.keeps k
  obtain ⟨b4, d4, x4, y4, z4⟩ := exmAny_cons y3
  obtain ⟨e4, S4⟩ := exm_cls (M := M) X x4
  replace e4 := e4.keeps k
  replace S4 := S4.keeps k
  obtain ⟨b5, d5, x5, y5, z5⟩ := exmAny_cons y4
  obtain ⟨e5, S5⟩ := exm_cls (M := M) X x5
  replace e5 := e5.keeps k
  replace S5 := S5.keeps k
  cases (show some false = some d5 from y5)
  replace LT := LT.keeps k
  replace L0 := L0.keeps k
  have hp' := k _ _ hp
  subst z1 z2 z3 z4 z5
  unfold excMatches
  refine wpAny_bind (L0.at ?_)
  dsimp only
  rw [if_pos rfl]
  first
    | (refine wpAny_bind (wpAny_seqItems hp' rfl ?_))
    | (refine wpAny_bind (wpAny_bind (wpAny_seqItems hp' rfl (wpAny_pure ?_))))
  dsimp only [Option.getD_some, Option.getD]
  cases b1 <;> cases b2 <;> cases b3 <;> cases b4 <;> cases b5 <;> ((repeat (first | simp only [List.forIn_cons, List.forIn_nil, Bool.not_true, Bool.false_eq_true, if_false, if_true] | lk)); exact q)
theorem exm_list {cs : List Value} {cls : Value} {tp e : Addr} {b : Bool} {h : Heap} (X : K.In h) (LT : Looks M h (typeOf (.ref e)) cls) (hp : h.get? tp = some { cls := .type "tuple", data := .seq cs.toArray }) (hx : exmAny K cls cs = some b) (l1 : 2 ≤ cs.length) (l2 : cs.length ≤ 5) :
    Looks M h (excMatches (.ref e) (.ref tp)) b := by
  match cs, hp, hx, l1, l2 with
  | [_, _], hp, hx, _, _ => exact exm_t2 X LT hp hx
  | [_, _, _], hp, hx, _, _ => exact exm_t3 X LT hp hx
  | [_, _, _, _], hp, hx, _, _ => exact exm_t4 X LT hp hx
  | [_, _, _, _, _], hp, hx, _, _ => exact exm_t5 X LT hp hx
  | [], _, _, l, _ => simp at l
  | [_], _, _, l, _ => simp at l
  | _ :: _ :: _ :: _ :: _ :: _ :: _, _, _, _, l => simp at l
end
end L3

namespace L3
open PySem L2 PySem.W PyProof.Rows
inductive NmsOk (X : Cx) : List Expr → List Addr → Prop
  | nil : NmsOk X [] []
  | cons {x : Str} {np : Pos} {C : Addr} {es : List Expr} {Cs : List Addr} (g : Gl X x) (d : (x == ("__debug__" : Str)) = false) (m : X.mg x = some (.ref C)) (r : NmsOk X es Cs) : NmsOk X (.Name x np :: es) (C :: Cs)
inductive TyOk (X : Cx) : Expr → List Value → Prop
  | one {x : Str} {np : Pos} {c : Value} (h : Names X x c) : TyOk X (.Name x np) [c]
  | many {es : List Expr} {kk : Nat} {p : Pos} {Cs : List Addr} (h : NmsOk X es Cs) (l1 : 2 ≤ Cs.length) (l2 : Cs.length ≤ 5) : TyOk X (.Tuple es kk p) (Cs.map .ref)
abbrev HSp := List Value × Option Nat × (Addr → Value → Option Addr → TS)
def unD (v : Option Nat) (D : Ends) : Ends := match v with
  | some i => { nx := fun σ' H' => D.nx (σ'.set i none) H', rt := D.rt, bk := fun σ' H' => D.bk (σ'.set i none) H', ct := fun σ' H' => D.ct (σ'.set i none) H' }
  | none => D
def setA (v : Option Nat) (a : Addr) (σ : L2.St) : L2.St := match v with
  | some i => σ.set i (some (.ref a))
  | none => σ
/-- what the clauses wish of an exception of the body -/
def wH (K : PySem.W.Frag) (Wout : WX) (D : Ends) : List HSp → WX
  | [] => Wout
  | (cs, v, ts) :: r => fun cls d σ H => ∃ b, exmAny K cls cs = some b ∧ (b = true → ∀ a, H a = none → ts a cls d (unD v D) (setA v a σ) H) ∧ (b = false → wH K Wout D r cls d σ H)
def AsOk (X : Cx) (v : Option Nat) (n : Option Str) : Prop := match v, n with
  | some i, some n => X.N[i]? = some n ∧ X.env.kindOf n = some .local
  | none, none => True
  | _, _ => False
inductive HOk (X : Cx) : List ExceptHandler → List HSp → Prop
  | nil : HOk X [] []
  | cons {ty : Expr} {cs : List Value} {v : Option Nat} {n : Option Str} {ts : Addr → Value → Option Addr → TS} {b₀ : Stmt} {suite : List Stmt} {pos' : Pos} {hds : List ExceptHandler} {l : List HSp} (ht : TyOk X ty cs) (hv : AsOk X v n)
      (hsu : ∀ (a : Addr) (oe : Obj) (cls : Value) (d : Option Addr) (pn : List (Addr × Obj)), Zc cls d oe → (∃ vs, oe.data = .fields vs) → PSs (X.suite a ((a, oe) :: pn)) (b₀ :: suite) (ts a cls d)) (r : HOk X hds l) :
      HOk X (.ExceptHandler (some ty) n (b₀ :: suite) pos' :: hds) ((cs, v, ts) :: l)
theorem flying_keeps {B h h' : Heap} {l : List Env} {a : Addr} {Z : Obj → Prop} (x : HandSPX.FlyingZ B l a Z h) (k : ∀ b o, h.get? b = some o → h'.get? b = some o) : HandSPX.FlyingZ B l a Z h' := by
  obtain ⟨h1, h2, h3, oe, vs, T, oT, ts, e1, e2, e3, e4, e5, e6, e7, e8, e9⟩ := x
  exact ⟨fun b o e => k b o (h1 b o e), h2, Heap.FunFrames.of_keeps (fun b o e _ => ⟨o, k b o e, rfl⟩) h3, oe, vs, T, oT, ts, k _ _ e1, e2, e3, e4, e5, e6, k _ _ e7, e8, e9⟩
section
variable {X : Cx}
theorem names_ok {a : Addr} {pn pins : List (Addr × Obj)} {σ : L2.St} {H : Hp} {s : Shared} {pos : Pos} {E : Value → Shared → Prop} (I : Inv (X.suite a pn) pins σ H s) : ∀ {es : List Expr} {Cs : List Addr} {Q : List Value → Shared → Prop}, NmsOk X es Cs → Q (Cs.map .ref) s →
    wpAny (model X.prog X.w) (X.A.mark (some (.ref a))) (spliced (backTo pos (starEach es X.env))) Q E s
  | [], [], Q, _, q => Calls.spliced_nil q
  | _, _, Q, .cons (x := x) (np := np) (C := C) (es := es) (Cs := Cs) g d m r, q => by
    show wpAny _ _ (spliced ((false, eval (.Name x np) X.env) :: backTo pos (starEach es X.env))) _ _ s
    refine Calls.spliced_cons (ld_glob (X := X.suite a pn) I g m ?_ d)
    exact names_ok I r q
/-- the class or classes that a clause names are looked at -/
theorem ty_test {a : Addr} {pn pins : List (Addr × Obj)} {σ : L2.St} {H : Hp} {s : Shared} {E : Value → Shared → Prop} {ty : Expr} {cs : List Value} {cls : Value} {b : Bool} {Q : Bool → Shared → Prop} (I : Inv (X.suite a pn) pins σ H s) (ht : TyOk X ty cs)
    (LT : Looks (model X.prog X.w) s.heap (typeOf (.ref a)) cls) (hx : exmAny X.K cls cs = some b) (q : ∀ h', (∀ b o, s.heap.get? b = some o → h'.get? b = some o) → Q b { s with heap := h' }) :
    wpAny (model X.prog X.w) (X.A.mark (some (.ref a))) (eval ty X.env) (fun c s₁ => wpAny (model X.prog X.w) (X.A.mark (some (.ref a))) (excMatches (.ref a) c) Q E s₁) E s := by
  cases ht with
  | @one x np c hc =>
    obtain ⟨b1, d1, x1, y1, z1⟩ := exmAny_cons hx
    cases (show some false = some d1 from y1)
    rw [Bool.or_false] at z1
    subst z1
    have LM := PySem.W.exm_one (M := model X.prog X.w) I.kIn LT x1
    have fin : wpAny (model X.prog X.w) (X.A.mark (some (.ref a))) (excMatches (.ref a) c) Q E s := LM.here (q s.heap fun _ _ e => e)
    obtain ⟨hg, hdbg, hm | ⟨hm, hv, hnn⟩⟩ := hc
    · exact ld_glob (X := X.suite a pn) I hg hm fin hdbg
    · exact ld_blt (X := X.suite a pn) I hg hm hv fin hnn hdbg
  | @many es kk p Cs hn l1 l2 =>
    refine wpAny_Tuple_spliced (names_ok I hn ⟨by simp only [List.length_map, sizeLine_eq]; omega, ?_⟩)
    have k : ∀ u o, s.heap.get? u = some o → (s.heap.push { cls := .type "tuple", data := .seq (Cs.map Value.ref).toArray }).get? u = some o := fun u o e => Heap.get?_push_of_some _ e
    have J := I.kept (t' := s.toks) k
    have LM := exm_list (M := model X.prog X.w) (h := s.heap.push { cls := .type "tuple", data := .seq (Cs.map Value.ref).toArray }) J.kIn (LT.keeps k) (Heap.get?_push_size _ rfl) hx (by simpa using l1) (by simpa using l2)
    exact LM.here (q _ k)
variable {body : List Stmt} {h₀ : ExceptHandler} {hds : List ExceptHandler} {l : List HSp} {pos : Pos} {tb : WX → TS} {Wout : WX}
theorem ps_try_any (hs : X.stack = X.env :: X.outer) (hf : X.env.frame = some X.env.locals) (hN : X.N.Nodup) (tk : Takes X Wout)
    (hb : ∀ (W : WX) (pn : List (Addr × Obj)) (xe : Value → Shared → Prop), Takes (X.tr pn xe) W → PassesOwn (model X.prog X.w) X.A X.env xe → PSs (X.tr pn xe) body (tb W))
    (hh : HOk X (h₀ :: hds) l) : PS X (.Try body (h₀ :: hds) [] [] pos) (fun D σ H => tb (wH X.K Wout D l) D σ H) := by
  refine ⟨fun pins s σ H D I h => ?_⟩
  have ok := I.ok
  have hfr : X.A.frames = some (X.env :: X.outer) := by rw [ok.frames, hs]
  refine wpAny_Try_except ?_
  refine wpAny_mono ((hb (wH X.K Wout D l) (X.pn ++ pins) (fun e s₁ => wpAny (model X.prog X.w) X.A (noteFrame e X.env) (fun _ s₂ => wpAny (model X.prog X.w) X.A (setFlight e none) (fun _ s₃ =>
    wpAny (model X.prog X.w) X.A (handleBy e X.env (h₀ :: hds)) (SP X pins D) X.xe s₃) X.xe s₂) X.xe s₁) (fun u s' xx => ?_) PassesOwn.looking).run [] s σ H D (I.toTry _) h) (fun f s1 hsp => ?_) (fun e s1 he => he)
  · -- caught
    obtain ⟨a, B, sI, pins', σ', H', cls, d, rfl, J', nb, up, sky, na, os, ag, w⟩ := xx
    have J : Inv X pins σ' H' sI := J'.ofTry ok
    have sky' : Sky B (X.env :: X.outer) a (Zc cls d) X.env.locals s'.heap := by rw [← hs]; exact sky
    show wpAny (model X.prog X.w) X.A (noteFrame (.ref a) X.env) _ _ _
    refine Sky.land Zc.steady hfr hf sky' fun h3 fl3 up3 => ?_
    have go : ∀ {hds' : List ExceptHandler} {l' : List HSp}, HOk X hds' l' → ∀ (hq : Heap), HandSPX.FlyingZ B (X.env :: X.outer) a (Zc cls d) hq → s'.heap.UpToSlots hq → wH X.K Wout D l' cls d σ' H' →
        wpAny (model X.prog X.w) X.A (handleBy (.ref a) X.env hds') (SP X pins D) X.xe { s' with heap := hq } := by
      intro hds' l' hk
      induction hk with
      | nil =>
        intro hq fl uq w
        refine wpAny_handleBy_nil ?_
        obtain ⟨k1, k2, k3, oe, vs, T, oT, ts', he, hz, hd, h1, hr⟩ := id fl
        unfold PySem.passOn
        refine wpAny_bind (wpAny_field he hd h1 ?_)
        rw [if_neg (show ¬ ((Value.ref T == Value.none) = true) from by simp)]
        have fin : wpAny (model X.prog X.w) X.A (setFlight (.ref a) X.env.frame) (fun _ s4 => wpAny (model X.prog X.w) X.A (throw (.ref a) : Sem Flow) (SP X pins D) X.xe s4) X.xe { s' with heap := hq } := by
          rw [hf]
          refine HandSPX.setFlight_upZ fl fun h4 hh4 up4 => wpAny_throw (tk _ _ ?_)
          exact ⟨a, B, sI, pins, σ', H', cls, d, rfl, J, nb, (up.trans uq).trans up4, .inr (.inr (by rw [hs]; exact hh4)), na, os, ag, w⟩
        first
          | exact wpAny_bind (wpAny_pure (wpAny_bind fin))
          | exact wpAny_bind fin
      | @cons ty cs v n ts b₀ suite pos' hds'' l'' ht hv hsu r ih =>
        intro hq fl uq w
        obtain ⟨b, hb1, hyes, hno⟩ := w
        have J3 : Inv X pins σ' H' { s' with heap := hq } := J.landed nb fl.1 (up.trans uq) os ag
        obtain ⟨oe3, vs3, he3, hz3, hd3⟩ := fl.there
        have notFr : ∀ {h : Heap} {o : Obj} {vs : Array Value}, h.FunFrames B (X.env :: X.outer) → h.get? a = some o → o.data = .fields vs → a ∉ frs (X.env :: X.outer) := fun {h o vs} ff e dd hm => by
          obtain ⟨_, o', e', hnf⟩ := ff.mem hm
          rw [e] at e'; cases e'
          exact hnf _ dd
        have nfr := notFr fl.2.2.1 he3 hd3
        have nL : a ≠ X.env.locals := fun z => nfr (List.mem_filterMap.mpr ⟨X.env, List.mem_cons_self, by rw [hf, z]⟩)
        have nF : a ∉ X.fs := fun hm => by
          obtain ⟨e, he, z⟩ := List.mem_filterMap.mp hm
          exact nfr (List.mem_filterMap.mpr ⟨e, List.mem_cons_of_mem _ he, z⟩)
        have S3 := J3.suite he3 hd3 na nL nF
        have LT : PySem.W.Looks (model X.prog X.w) hq (typeOf (.ref a)) cls := fun A Q E s k z => wpAny_typeOf_ref (k _ _ he3) (by rw [hz3.1]; exact z)
        refine wpAny_handleBy_cons (codeAny_handlers_test ?_) (by intro z; cases z)
        refine ty_test S3 ht LT hb1 fun hq' kq => ?_
        have fl' := flying_keeps fl kq
        have uq' : s'.heap.UpToSlots hq' := uq.trans (Heap.UpToSlots.of_keeps kq)
        cases b with
        | true =>
          cases v with
          | none =>
            cases n with
            | some _ => exact hv.elim
            | none =>
              refine codeAny_handlers_suite ?_
              refine HandSPX.lands_againZ fl' fun h4 fl4 up4 => ?_
              have J4 : Inv X pins σ' H' { s' with heap := h4 } := J.landed nb fl4.1 ((up.trans uq').trans up4) os ag
              obtain ⟨oe4, vs4, he4, hz4, hd4⟩ := fl4.there
              have S4 := J4.suite he4 hd4 na nL nF
              refine wpAny_mono ((hsu a oe4 cls d (X.pn ++ pins) hz4 ⟨_, hd4⟩).run [] _ _ H' _ S4 (hyes rfl a na)) (fun f s6 hsp => ?_) (fun _ _ z => False.elim z)
              cases f with
              | next =>
                obtain ⟨σ6, H6, S6, q6⟩ := hsp
                exact ⟨_, _, S6.unsuite ok, q6⟩
              | brk =>
                obtain ⟨σ6, H6, S6, q6⟩ := hsp
                exact ⟨_, _, S6.unsuite ok, q6⟩
              | cont =>
                obtain ⟨σ6, H6, S6, q6⟩ := hsp
                exact ⟨_, _, S6.unsuite ok, q6⟩
              | ret u =>
                obtain ⟨v6, σ6, H6, S6, r6, q6⟩ := hsp
                exact ⟨_, _, _, S6.unsuite ok, r6, q6⟩
          | some i =>
            cases n with
            | none => exact hv.elim
            | some n =>
              obtain ⟨hi, hln⟩ := hv
              have hloc : Loc X.env.scope n := .inl hln
              refine codeAny_handlers_suite_as ?_
              refine HandSPX.lands_againZ fl' fun h4 fl4 up4 => ?_
              have J4 : Inv X pins σ' H' { s' with heap := h4 } := J.landed nb fl4.1 ((up.trans uq').trans up4) os ag
              obtain ⟨oe4, vs4, he4, hz4, hd4⟩ := fl4.there
              have S4 := J4.suite he4 hd4 na nL nF
              refine store_ok (X := X.suite a ((a, oe4) :: (X.pn ++ pins))) (v := .ref a) S4 hN hi hloc rfl (fun s5 S5 => ?_) (.inr hln)
              refine wpAny_mono ((hsu a oe4 cls d (X.pn ++ pins) hz4 ⟨_, hd4⟩).run [] s5 _ H' _ S5 (hyes rfl a na)) (fun f s6 hsp => ?_) (fun _ _ z => False.elim z)
              have end_ : ∀ {σ6 : L2.St} {H6 : Hp} {Q : Shared → Prop}, Inv (X.suite a ((a, oe4) :: (X.pn ++ pins))) [] σ6 H6 s6 → (∀ s7, Inv X pins (σ6.set i none) H6 s7 → Q s7) →
                  wpAny (model X.prog X.w) X.A (do bindName X.env n .none; unbindBehindTheSuite X.env n pos') (fun _ s7 => Q s7) X.xe s6 := fun {σ6 H6 Q} S6 hq => gone_ok (S6.unsuite ok) hN hi hln hq
              cases f with
              | next =>
                obtain ⟨σ6, H6, S6, q6⟩ := hsp
                exact end_ S6 fun s7 J7 => ⟨_, _, J7, q6⟩
              | brk =>
                obtain ⟨σ6, H6, S6, q6⟩ := hsp
                exact end_ S6 fun s7 J7 => ⟨_, _, J7, q6⟩
              | cont =>
                obtain ⟨σ6, H6, S6, q6⟩ := hsp
                exact end_ S6 fun s7 J7 => ⟨_, _, J7, q6⟩
              | ret u =>
                obtain ⟨v6, σ6, H6, S6, r6, q6⟩ := hsp
                exact end_ S6 fun s7 J7 => ⟨_, _, _, J7, r6, q6⟩
        | false =>
          show wpAny _ X.A (handleBy (.ref a) X.env hds'') _ _ _
          exact ih hq' fl' uq' (hno rfl)
    exact go hh h3 fl3 up3 w
  · cases f with
    | next =>
      obtain ⟨σ', H', J', q⟩ := hsp
      exact wpAny_execs_nil ⟨σ', H', J'.ofTry ok, q⟩
    | brk =>
      obtain ⟨σ', H', J', q⟩ := hsp
      exact ⟨σ', H', J'.ofTry ok, q⟩
    | cont =>
      obtain ⟨σ', H', J', q⟩ := hsp
      exact ⟨σ', H', J'.ofTry ok, q⟩
    | ret u =>
      obtain ⟨v, σ', H', J', r, q⟩ := hsp
      exact ⟨v, σ', H', J'.ofTry ok, r, q⟩
end
end L3

namespace L3
open PySem L2 PySem.W PyProof.Rows PySem.Calls
section
variable {prog : Program} {w : World} {A : Around} {E : Value → Shared → Prop} {s : Shared} {K : W.Frag} {x D : Addr} {ox : Obj} {od : Option Obj}
theorem data_first {C : Addr} {name : Str} {a g : Value} (hc : (clsIn K C).isSome = true) (ha : findIn K (.ref C) name = some (some a)) (hg : specialIn K a "__get__" = some (some g)) (ht : takesIn K a = some true) : findObj K C od name = some (.bind g a) := by
  obtain ⟨cd, hc⟩ := Option.isSome_iff_exists.mp hc
  unfold findObj
  rw [hc, Option.bind_some, ha, Option.bind_some]
  simp [hg, ht]
theorem class_of {Q : Option Value → Shared → Prop} (T : ExcC K D)
    (X : K.In s.heap) (I : InstAt s.heap x ox D od) (h : Q (some (.ref D)) { s with toks := s.toks + 1 }) : wpAny (model prog w) A (getAttr? (.ref x) "__class__") Q E s := by
  have hf : findObj K D od "__class__" = some (.bind (.builtin "getset_descriptor.__get__") (.builtin "object.__class__")) := data_first (by obtain ⟨cd, hc, _⟩ := any_some T.hd; rw [hc]; rfl) T.ha T.hn T.ht
  obtain ⟨hp, g, d, t, os⟩ := s
  have m0 := I.type (M := model prog w)
  have m1 := looks_findIn (M := model prog w) X T.hg
  have m2 := looks_findIn (M := model prog w) X T.hk
  have m3 := looks_find (M := model prog w) X I hf
  have isB : Looks (model prog w) hp (isInstance (.ref x) (.type "BaseException")) true := m0.andThen (looks_subIn X T.hs)
  have z0 : (false && onTheHeap (Value.builtin "BaseException.__getattribute__")) = false := rfl
  have z2 : (Value.builtin "BaseException.__getattribute__" == Value.builtin "object.__getattribute__") = false := by decide +kernel
  have z1 : (onTheHeap (Value.ref D) && Value.builtin "BaseException.__getattribute__" == Value.builtin "object.__getattribute__") = false := by rw [z2]; rfl
  unfold getAttr? getAttrBy? getAttrBy
  refine wpAny_bind (wpAny_mkText (wpAny_bind (wpAny_attempt (wpAny_holding (wpAny_bind (m0.at (wpAny_bind (m1.at ?_))))))))
  show wpAny _ _ (if (onTheHeap (Value.ref D) && Value.builtin "BaseException.__getattribute__" == Value.builtin "object.__getattribute__") = true then _ else _) _ _ _
  rw [z1, if_neg Bool.false_ne_true]
  unfold getAttrByItsOwn hookBefore
  refine wpAny_bind ?_
  rw [if_pos (show onTheHeap (Value.ref D) = true from rfl)]
  refine m2.at ?_
  refine wpAny_bind (wpAny_attempt (wpAny_holding ?_))
  unfold callGetattribute
  rw [z0, if_neg Bool.false_ne_true]
  unfold boundAndCalled
  rw [PySem.F.excAttr_ValueError.ga.bind (.ref x)]
  refine wpAny_bind (wpAny_pure ?_)
  show wpAny _ _ (call (.builtin "BaseException.__getattribute__") [.ref x, .str "__class__" t]) _ _ _
  refine wpAny_call (codeAny_call_builtin PySem.F.excAttr_ValueError.ga.plain PySem.F.entry_bexc_ga ?_)
  refine @check_slot (model prog w) _ _ ⟨hp, g, d, t + 1, os⟩ "BaseException.__getattribute__" "BaseException" "__getattribute__" (.ref x) [.str "__class__" t] [] _ (by decide +kernel) (by decide +kernel) isB (PySem.F.args_bexc_ga (.ref x) (.str "__class__" t)) ?_
  unfold Builtin.«object.__getattribute__»
  refine wpAny_bind (wpAny_of_eq (a := ((Value.ref x : Value), [Value.str "__class__" t])) (by first | rfl | (simp only [slotArgs]; rfl)) ?_)
  refine wpAny_bind (wpAny_pure (wpAny_bind (m0.at (wpAny_bind (m3.at ?_)))))
  show wpAny _ _ (holding [Value.builtin "object.__class__"] (call (.builtin "getset_descriptor.__get__") [.builtin "object.__class__", .ref x, .ref D]) >>= ret) _ _ _
  refine wpAny_bind (wpAny_holding (wpAny_call (class_get (s := ⟨hp, g, d, t + 1, os⟩) (ox := ox) (od := od) X I T.hm ?_)))
  refine wpAny_pure ?_
  show wpAny _ _ (handedOut (.ref D)) _ _ _
  rw [handedOut_of (v := .ref D) rfl]
  first
    | exact wpAny_pure (wpAny_pure h)
    | exact wpAny_pure h
    | exact wpAny_pure (wpAny_bind (wpAny_pure (wpAny_pure h)))
theorem kitx_held (T : ExcC K D) : KitX K (.ref x) (.ref D) (fun h => InstAt h x ox D od) where
  ty := fun _ _ _ I => I.type
  it := fun _ _ X _ => by
    obtain ⟨cdD, hcD, _⟩ := any_some T.hd
    unfold clsIn at hcD
    split at hcD
    · rename_i c' d' cd' sl' ho
      intro A' Q' E' s' k q
      unfold isType loadHead
      exact wpAny_bind (wpAny_loadPart (k _ _ (X _ _ ho)) (wpAny_pure q))
    · cases hcD
  ne := fun h tp dd its n sl X htp => by
    obtain ⟨cdD, hcD, _⟩ := any_some T.hd
    refine Bool.eq_false_iff.mpr fun q => ?_
    obtain rfl : D = tp := Value.ref.inj (beq_iff_eq.mp q)
    unfold clsIn at hcD
    split at hcD
    · rename_i c' d' cd' sl' ho
      have z := (X _ _ ho).symm.trans htp
      cases z
    · cases hcD
  ca := fun X I k => class_of T X I k
end
/-- isinstance(e, c), e the exception that the suite holds, with its dict at dd -/
def rIsH (K : PySem.W.Frag) (D a dd : Addr) : List V → Hp → VK → Prop := fun xs H Q => ∃ (c : V) (cv : Value) (b : Bool) (vfs : List (Str × V)), xs = [.ref a, c] ∧ (∀ u, RelV c u → u = cv) ∧ PySem.W.kitOne K (.ref D) cv = some b ∧ H dd = some (.xd vfs) ∧ Q (.bl b) H
theorem call_isH {X : Cx} {a D dd : Addr} {oe : Obj} {pn : List (Addr × Obj)} (C : ExcC X.K D) (hz : Zc (.ref D) (some dd) oe) (hf : ∃ vs, oe.data = .fields vs) : CallR (X.suite a ((a, oe) :: pn)) (.builtin "isinstance") (rIsH X.K D a dd) := by
  intro pins s σ H xs us Q I r h
  obtain ⟨c, cv, b, vfs, rfl, hcv, e, hd, q⟩ := h
  cases r with
  | cons rx rr =>
    cases rr with
    | cons rt rr =>
      cases rr
      cases rx
      have ec := hcv _ rt
      subst ec
      obtain ⟨hget, _⟩ := I.pin (a, oe) (List.mem_append.mpr (.inl List.mem_cons_self))
      obtain ⟨vs, hv⟩ := hf
      obtain ⟨od, ho⟩ : ∃ od, s.heap.get? dd = some od := by
        obtain ⟨mA, hn, _⟩ := I.hok dd _ hd
        obtain ⟨o, _, _, e1, _⟩ := hn
        exact ⟨o, e1⟩
      have J : PySem.W.InstAt s.heap a oe D (some od) := by
        obtain ⟨oc, ood, oda, osl⟩ := oe
        obtain ⟨h1, h2⟩ := hz
        dsimp only at h1 h2 hv
        subst h1 h2 hv
        exact ⟨hget, rfl, rfl, ho⟩
      exact PySem.W.kia_one (kitx_held C) I.kIn J e (fun z => nomatch z) fun tk => ⟨.bl b, H, I.kept (t' := tk) fun _ _ z => z, rfl, q⟩
end L3

namespace L3
open PySem L2 PySem.W PyProof.Rows
def bltX : List String := ["ValueError", "KeyError", "LookupError", "IndexError", "RuntimeError", "ZeroDivisionError"]
/-- what is known of an exception class of the module -/
structure XcF (K : PySem.W.Frag) (mg : Str → Option Value) (C : Addr) (c : Nat) : Prop where
  ex : ExcC K C
  nf : ∀ f ∈ fldN c, PySem.W.findIn K (.ref C) f = some none
  ow : ∀ (p : String × List String × List String) (C' : Addr), p ∈ clsTab → p.2.2.contains "BaseException" = true → mg (Str.ofString p.1) = some (.ref C') → PySem.W.exmOne K (.ref C) (.ref C') = some (subN c p.1) ∧ PySem.W.kitOne K (.ref C) (.ref C') = some (subN c p.1)
  bt : ∀ t ∈ bltX, PySem.W.exmOne K (.ref C) (.type t) = some (subN c t) ∧ PySem.W.kitOne K (.ref C) (.type t) = some (subN c t)
def XAll (K : PySem.W.Frag) (mg : Str → Option Value) : Prop := (∀ (c : Nat) (C : Addr), mg (clsN c) = some (.ref C) → subN c "BaseException" = true → XcF K mg C c) ∧ (∀ t ∈ bltX, mg (Str.ofString t) = none) ∧ mg "isinstance" = none ∧
  ∀ p ∈ clsTab, p.2.2.contains "BaseException" = true → mg (Str.ofString p.1) = none ∨ ∃ C, mg (Str.ofString p.1) = some (.ref C)
/-- the suite's context -/
structure Sx (X : Cx) (a dd : Addr) (c : Nat) (oe : Obj) : Prop where
  z : ∃ C, X.mg (clsN c) = some (.ref C) ∧ Zc (.ref C) (some dd) oe
  f : ∃ vs, oe.data = .fields vs
  b : subN c "BaseException" = true
  al : XAll X.K X.mg
section
variable {X : Cx} {N : List Str} {sc : Scope} {k : Nat} {a dd : Addr} {c : Nat} {oe : Obj} {pn : List (Addr × Obj)} {W : WX}
theorem Gx.suite (G : Gx X N sc k true) (a : Addr) (pn : List (Addr × Obj)) : Gx (X.suite a pn) N sc k false := ⟨G.hN, G.nd, G.hsc, G.un, fun h => nomatch h⟩
theorem held_of {K : PySem.W.Frag} {ρ : List Addr} {H : Hp} {σ3 : Sl} {σ : L2.St} {v : Nat} {ds : List D} (rs : RS K ρ H σ3 σ) (e : heldD σ3 v a dd c = some ds) : σ[v]? = some (some (.ref a)) ∧ ∃ vfs, H dd = some (.xd vfs) ∧ RXs K ρ H (fldN c) ds vfs := by
  unfold heldD at e
  split at e
  · rename_i a' dd' c' ds' es
    split at e
    · rename_i h
      obtain ⟨rfl, rfl, rfl⟩ := h
      cases e
      obtain ⟨v', ev, rd⟩ := rs.get _ _ es
      cases rd with
      | xcp h r => exact ⟨ev, _, h, r⟩
    · cases e
  · cases e
theorem snd_xfs (G : Gx X N sc k true) (S : Sx X a dd c oe) (v : Nat) (f : Str) (tb : List (Nat × Nat)) (ht : ∀ q ∈ tb, (fldN q.1)[q.2]? = some f) : Snd (X.suite a ((a, oe) :: pn)) N sc false W (.xfs v f tb a dd c) := by
  refine .plain rfl (fun xs => by cases xs <;> rfl) (fun ast h => ?_) (fun ast h => ?_)
  · cases ast <;> first | rfl | (simp only [chk] at h; cases h; done)
  · cases ast <;> first | (simp only [chk] at h; cases h; done) | skip
    rename_i x g pos
    cases x <;> first | (simp only [chk] at h; cases h; done) | skip
    rename_i y py
    simp only [chk, Bool.and_eq_true, decide_eq_true_eq] at h
    obtain ⟨h1, rfl⟩ := h
    obtain ⟨n1, n2, n3, n4⟩ := (G.suite a ((a, oe) :: pn)).vis h1
    obtain ⟨C, hm, hz⟩ := S.z
    have F := S.al.1 c C hm S.b
    by_cases hx : ∃ i, tb.lookup c = some i
    · obtain ⟨i, hi⟩ := hx
      have hfi : (fldN c)[i]? = some f := ht _ (lookup_mem hi)
      refine PEimp (pe_xf (X := X) (pn := pn) (C := C) ⟨F.ex.hg, F.ex.hk, F.ex.hs, F.ex.hd⟩ (F.nf f (List.mem_of_getElem? hfi)) hz S.f (pe_var n1 n2 n3 n4) (base_plain rfl)) fun σ H Q q => ?_
      obtain ⟨ρ, σ3, hh, rs, rp, P⟩ := q
      dsimp only at P
      split at P
      · rename_i ds e
        obtain ⟨e1, vfs, e2, rx⟩ := held_of rs e
        unfold xfD ofO at P
        rw [hi] at P
        dsimp only at P
        split at P
        · rename_i d ed
          obtain ⟨w, ew, rw'⟩ := rx.get hfi ed
          exact ⟨.ref a, e1, rfl, rfl, dd, vfs, w, rfl, e2, ew, P.here rp rw'⟩
        · exact P.elim
      · exact P.elim
    · refine ⟨fun pins s σ H Q I q => ?_⟩
      obtain ⟨ρ, σ3, hh, rs, rp, P⟩ := q
      dsimp only at P
      split at P
      · unfold xfD at P
        split at P
        · rename_i i hi
          exact absurd ⟨i, hi⟩ hx
        · exact P.elim
      · exact P.elim
theorem snd_xiss (G : Gx X N sc k true) (S : Sx X a dd c oe) (v : Nat) (t : String) (ht : t ∈ bltX ∨ ∃ p ∈ clsTab, p.1 = t ∧ p.2.2.contains "BaseException" = true ∧ X.mg (Str.ofString p.1) ≠ none) : Snd (X.suite a ((a, oe) :: pn)) N sc false W (.xiss v t a dd c) := by
  refine .plain rfl (fun xs => by cases xs <;> rfl) (fun ast h => ?_) (fun ast h => ?_)
  · cases ast <;> first | rfl | (simp only [chk] at h; cases h; done)
  · cases ast <;> first | (simp only [chk] at h; cases h; done) | skip
    rename_i fe args kws pos
    cases fe <;> first | (simp only [chk] at h; cases h; done) | skip
    rename_i y p
    match args, kws, h with
    | [], _, h => simp only [chk] at h; cases h
    | [_], _, h => simp only [chk] at h; cases h
    | _ :: _ :: _ :: _, _, h => simp only [chk] at h; cases h
    | [x, z], _ :: _, h => cases z <;> (simp only [chk] at h; cases h; done)
    | [x, z], [], h =>
      cases z <;> first | (simp only [chk] at h; cases h; done) | skip
      rename_i z pz
      cases x <;> first | (simp only [chk] at h; cases h; done) | skip
      rename_i u pu
      simp only [chk, Bool.and_eq_true, decide_eq_true_eq] at h
      obtain ⟨⟨⟨⟨rfl, h1⟩, h3⟩, rfl⟩, h2⟩ := h
      have G' := G.suite a ((a, oe) :: pn)
      obtain ⟨g1, g2, g3⟩ := G'.glob h1
      obtain ⟨q1, q2, q3⟩ := G'.glob h2
      obtain ⟨n1, n2, n3, n4⟩ := G'.vis h3
      obtain ⟨C, hm, hz⟩ := S.z
      have F := S.al.1 c C hm S.b
      obtain ⟨cv, w, pz, rel, ek⟩ : ∃ (cv : Value) (w : V), PE (X.suite a ((a, oe) :: pn)) (.Name (Str.ofString t) pz) (tC w) ∧ (∀ u, RelV w u → u = cv) ∧ PySem.W.kitOne X.K (.ref C) cv = some (subN c t) := by
        rcases ht with ht | ⟨p, hp, rfl, hb, hm'⟩
        · have hbt : bootBuiltins (Str.ofString t) = some (.type t) := by
            simp only [bltX, List.mem_cons, List.not_mem_nil, or_false] at ht
            rcases ht with rfl | rfl | rfl | rfl | rfl | rfl <;> decide +kernel
          exact ⟨.type t, .ty t, pe_bltn (v := .ty t) q1 (S.al.2.1 t ht) hbt rfl q3 q2, fun u hu => hu, (F.bt t ht).2⟩
        · rcases S.al.2.2.2 p hp hb with h0 | ⟨C', hC'⟩
          · exact absurd h0 hm'
          · exact ⟨.ref C', .ref C', pe_glob q1 hC' rfl q2, fun u hu => hu, (F.ow p C' hp hb hC').2⟩
      refine PEimp (pe_callB (call_isH (X := X) (a := a) (pn := pn) F.ex hz S.f) g1 S.al.2.2.1 (by decide +kernel) (pa_cons (pe_var n1 n2 n3 n4) (pa_cons pz pa_nil)) g3 g2 rfl rfl) fun σ H Q q => ?_
      obtain ⟨ρ, σ3, hh, rs, rp, P⟩ := q
      dsimp only at P
      split at P
      · rename_i ds e
        obtain ⟨e1, vfs, e2, rx⟩ := held_of rs e
        exact ⟨.ref a, e1, w, cv, _, vfs, rfl, rel, ek, e2, P.here rp (.bl _)⟩
      · exact P.elim
end
end L3

namespace L3
open PySem L2 PySem.W PyProof.Rows
/-- asked of the slot -/
def plusE (a dd : Addr) (c : Nat) : E → E
  | .xf v f tb _ _ => .xfs v f tb a dd c
  | .xis v t _ => .xiss v t a dd c
  | .not e => .not (plusE a dd c e)
  | .and x y => .and (plusE a dd c x) (plusE a dd c y)
  | .or x y => .or (plusE a dd c x) (plusE a dd c y)
  | .cmp op x y => .cmp op (plusE a dd c x) (plusE a dd c y)
  | .bin op x y => .bin op (plusE a dd c x) (plusE a dd c y)
  | .tup es => .tup (plusE a dd c es)
  | .lst es => .lst (plusE a dd c es)
  | .sub x y => .sub (plusE a dd c x) (plusE a dd c y)
  | .bm m o es => .bm m (plusE a dd c o) (plusE a dd c es)
  | .cons e es => .cons (plusE a dd c e) (plusE a dd c es)
  | e => e
/-- with the exception's own things in their places -/
def fillE (c : Nat) (ds : List D) : E → E
  | .xf v f tb _ _ => .xf v f tb c ds
  | .xis v t _ => .xis v t (subN c t)
  | .not e => .not (fillE c ds e)
  | .and x y => .and (fillE c ds x) (fillE c ds y)
  | .or x y => .or (fillE c ds x) (fillE c ds y)
  | .cmp op x y => .cmp op (fillE c ds x) (fillE c ds y)
  | .bin op x y => .bin op (fillE c ds x) (fillE c ds y)
  | .tup es => .tup (fillE c ds es)
  | .lst es => .lst (fillE c ds es)
  | .sub x y => .sub (fillE c ds x) (fillE c ds y)
  | .bm m o es => .bm m (fillE c ds o) (fillE c ds es)
  | .cons e es => .cons (fillE c ds e) (fillE c ds es)
  | e => e
def kindB (t : String) : Bool := bltX.contains t || clsTab.any fun p => p.1 == t && p.2.2.contains "BaseException"
def simE (v : Option Nat) : E → Bool
  | .var i => !(v == some i)
  | .cst _ => true
  | .glob _ _ => true
  | .xf u f tb _ _ => v == some u && tb.all fun q => decide ((fldN q.1)[q.2]? = some f)
  | .xis u t _ => v == some u && kindB t
  | .not e => simE v e
  | .and x y => simE v x && simE v y
  | .or x y => simE v x && simE v y
  | .cmp _ x y => simE v x && simE v y
  | .bin _ x y => simE v x && simE v y
  | .tup es => simE v es
  | .lst es => simE v es
  | .sub x y => simE v x && simE v y
  | .bm _ o es => simE v o && simE v es
  | .nil => true
  | .cons e es => simE v e && simE v es
  | _ => false
/-- the kinds asked for are there -/
def kinE (mg : Str → Option Value) : E → Prop
  | .xis _ t _ => bltX.contains t = true ∨ mg (Str.ofString t) ≠ none
  | .not e => kinE mg e
  | .and x y => kinE mg x ∧ kinE mg y
  | .or x y => kinE mg x ∧ kinE mg y
  | .cmp _ x y => kinE mg x ∧ kinE mg y
  | .bin _ x y => kinE mg x ∧ kinE mg y
  | .tup es => kinE mg es
  | .lst es => kinE mg es
  | .sub x y => kinE mg x ∧ kinE mg y
  | .bm _ o es => kinE mg o ∧ kinE mg es
  | .cons e es => kinE mg e ∧ kinE mg es
  | .glob x d => True
  | _ => True
section
variable {N : List Str} {sc : Scope}
/-- the check does not look at whose exception it is -/
theorem chk_plus (v : Option Nat) (b : Bool) (a dd : Addr) (c : Nat) : ∀ (e : E), simE v e = true → (∀ ast, chk N sc b (plusE a dd c e) ast = chk N sc b (plusE 0 0 0 e) ast) ∧ ∀ xs, chkA N sc b (plusE a dd c e) xs = chkA N sc b (plusE 0 0 0 e) xs := by
  intro e
  induction e with
  | var i => exact fun _ => ⟨fun _ => rfl, fun _ => rfl⟩
  | cst d => exact fun _ => ⟨fun _ => rfl, fun _ => rfl⟩
  | glob x d => exact fun _ => ⟨fun _ => rfl, fun _ => rfl⟩
  | nil => exact fun _ => ⟨fun _ => rfl, fun _ => rfl⟩
  | xf u f tb c ds => exact fun _ => ⟨fun ast => by cases ast <;> rfl, fun xs => by cases xs <;> rfl⟩
  | xis u t b => exact fun _ => ⟨fun ast => by
      cases ast <;> first | rfl | skip
      rename_i f xs ks p
      cases f <;> first | rfl | skip
      match xs, ks with
      | [], _ => rfl
      | [_], _ => rfl
      | [x, z], [] => cases z <;> rfl
      | [x, z], _ :: _ => cases z <;> rfl
      | _ :: z :: _ :: _, _ => cases z <;> simp only [plusE, chk], fun xs => by cases xs <;> rfl⟩
  | not e ih =>
    intro h
    obtain ⟨h1, h2⟩ := ih h
    refine ⟨fun ast => ?_, fun xs => by cases xs <;> rfl⟩
    cases ast <;> first | rfl | skip
    rename_i op x p
    cases op <;> first | rfl | skip
    simp only [plusE, chk]
    exact h1 x
  | and x y ix iy =>
    intro h
    simp only [simE, Bool.and_eq_true] at h
    obtain ⟨h1, _⟩ := ix h.1
    obtain ⟨h2, _⟩ := iy h.2
    refine ⟨fun ast => ?_, fun xs => by cases xs <;> rfl⟩
    cases ast <;> first | rfl | skip
    rename_i op xs p
    cases op <;> first | rfl | skip
    match xs with
    | [] => rfl
    | [x] => simp only [plusE, chk, h1]
    | [x, y] => simp only [plusE, chk, h1, h2]
    | x :: y :: z :: r => simp only [plusE, chk, h1, h2]
  | or x y ix iy =>
    intro h
    simp only [simE, Bool.and_eq_true] at h
    obtain ⟨h1, _⟩ := ix h.1
    obtain ⟨h2, _⟩ := iy h.2
    refine ⟨fun ast => ?_, fun xs => by cases xs <;> rfl⟩
    cases ast <;> first | rfl | skip
    rename_i op xs p
    cases op <;> first | rfl | skip
    match xs with
    | [] => rfl
    | [x] => simp only [plusE, chk, h1]
    | [x, y] => simp only [plusE, chk, h1, h2]
    | x :: y :: z :: r => simp only [plusE, chk, h1, h2]
  | cmp op x y ix iy =>
    intro h
    simp only [simE, Bool.and_eq_true] at h
    obtain ⟨h1, _⟩ := ix h.1
    obtain ⟨h2, _⟩ := iy h.2
    refine ⟨fun ast => ?_, fun xs => by cases xs <;> rfl⟩
    cases ast <;> first | rfl | skip
    rename_i l os rs p
    match os, rs with
    | [], _ => rfl
    | _ :: _ :: _, _ => rfl
    | [o], [] => rfl
    | [o], _ :: _ :: _ => rfl
    | [o], [r] => simp only [plusE, chk, h1, h2]
  | bin op x y ix iy =>
    intro h
    simp only [simE, Bool.and_eq_true] at h
    obtain ⟨h1, _⟩ := ix h.1
    obtain ⟨h2, _⟩ := iy h.2
    refine ⟨fun ast => ?_, fun xs => by cases xs <;> rfl⟩
    cases ast <;> first | rfl | skip
    simp only [plusE, chk, h1, h2]
  | tup es ih =>
    intro h
    obtain ⟨h1, h2⟩ := ih h
    refine ⟨fun ast => ?_, fun xs => by cases xs <;> rfl⟩
    cases ast <;> first | rfl | skip
    simp only [plusE, chk, h2]
  | lst es ih =>
    intro h
    obtain ⟨h1, h2⟩ := ih h
    refine ⟨fun ast => ?_, fun xs => by cases xs <;> rfl⟩
    cases ast <;> first | rfl | skip
    simp only [plusE, chk, h2]
  | sub x y ix iy =>
    intro h
    simp only [simE, Bool.and_eq_true] at h
    obtain ⟨h1, _⟩ := ix h.1
    obtain ⟨h2, _⟩ := iy h.2
    refine ⟨fun ast => ?_, fun xs => by cases xs <;> rfl⟩
    cases ast <;> first | rfl | skip
    simp only [plusE, chk, h1, h2]
  | bm m o es io ie =>
    intro h
    simp only [simE, Bool.and_eq_true] at h
    obtain ⟨h1, _⟩ := io h.1
    obtain ⟨_, h2⟩ := ie h.2
    refine ⟨fun ast => ?_, fun xs => by cases xs <;> rfl⟩
    cases ast <;> first | rfl | skip
    rename_i f xs ks p
    cases f <;> first | rfl | skip
    cases ks <;> first | rfl | skip
    simp only [plusE, chk, h1, h2]
  | cons e es ie is =>
    intro h
    simp only [simE, Bool.and_eq_true] at h
    obtain ⟨h1, _⟩ := ie h.1
    obtain ⟨_, h2⟩ := is h.2
    refine ⟨fun ast => by cases ast <;> rfl, fun xs => ?_⟩
    cases xs with
    | nil => rfl
    | cons x xs => simp only [plusE, chkA, h1, h2]
  | _ => intro h; cases h
end
theorem set_other {α : Type} (σ : List (Option α)) (v i : Nat) (x y : Option α) (h : i ≠ v) : (σ.set v x)[i]? = (σ.set v y)[i]? := by
  rw [List.getElem?_set_ne (Ne.symm h), List.getElem?_set_ne (Ne.symm h)]
theorem held_set {σ : Sl} {v : Nat} {a dd : Addr} {c : Nat} {ds : List D} (h : v < σ.length) : heldD (σ.set v (some (.xcp a dd c ds))) v a dd c = some ds := by
  unfold heldD
  rw [List.getElem?_set_self h]
  simp
theorem run_plus {v : Nat} {σ : Sl} {a dd : Addr} {c : Nat} {ds : List D} (hv : v < σ.length) : ∀ (e : E), simE (some v) e = true → ∀ h,
    (den (plusE a dd c e)).v (σ.set v (some (.xcp a dd c ds))) h = (den (fillE c ds e)).v (σ.set v none) h ∧ (den (plusE a dd c e)).t (σ.set v (some (.xcp a dd c ds))) h = (den (fillE c ds e)).t (σ.set v none) h ∧ (den (plusE a dd c e)).a (σ.set v (some (.xcp a dd c ds))) h = (den (fillE c ds e)).a (σ.set v none) h := by
  intro e
  induction e with
  | var i =>
    intro h hh
    have hi : i ≠ v := by simp [simE] at h; exact fun e => h e.symm
    have e : varR (σ.set v (some (.xcp a dd c ds))) i hh = varR (σ.set v none) i hh := by unfold varR; rw [set_other σ v i _ none hi]
    refine ⟨e, ?_, rfl⟩
    show (varR _ _ _).bind _ = (varR _ _ _).bind _
    rw [e]
  | cst d => exact fun _ _ => ⟨rfl, rfl, rfl⟩
  | glob x d => exact fun _ _ => ⟨rfl, rfl, rfl⟩
  | nil => exact fun _ _ => ⟨rfl, rfl, rfl⟩
  | xf u f tb c' ds' =>
    intro h hh
    simp only [simE, Bool.and_eq_true, beq_iff_eq, Option.some.injEq] at h
    obtain ⟨rfl, _⟩ := h
    simp [plusE, fillE, den, Den.of, held_set hv]
  | xis u t b =>
    intro h hh
    simp only [simE, Bool.and_eq_true, beq_iff_eq, Option.some.injEq] at h
    obtain ⟨rfl, _⟩ := h
    simp [plusE, fillE, den, Den.of, held_set hv]
  | not e ih =>
    intro h hh
    obtain ⟨h1, h2, h3⟩ := ih h hh
    simp only [plusE, fillE, den, Den.of, h1, h2, h3, and_self]
  | and x y ix iy =>
    intro h hh
    simp only [simE, Bool.and_eq_true] at h
    have h1 := fun hh => (ix h.1 hh).1
    have h2 := fun hh => (iy h.2 hh).1
    have h3 := fun hh => (ix h.1 hh).2.1
    have h4 := fun hh => (iy h.2 hh).2.1
    simp only [plusE, fillE, den, Den.of, h1, h2, h3, h4, and_self]
  | or x y ix iy =>
    intro h hh
    simp only [simE, Bool.and_eq_true] at h
    have h1 := fun hh => (ix h.1 hh).1
    have h2 := fun hh => (iy h.2 hh).1
    have h3 := fun hh => (ix h.1 hh).2.1
    have h4 := fun hh => (iy h.2 hh).2.1
    simp only [plusE, fillE, den, Den.of, h1, h2, h3, h4, and_self]
  | cmp op x y ix iy =>
    intro h hh
    simp only [simE, Bool.and_eq_true] at h
    have h1 := fun hh => (ix h.1 hh).1
    have h2 := fun hh => (iy h.2 hh).1
    simp only [plusE, fillE, den, Den.of, h1, h2, and_self]
  | bin op x y ix iy =>
    intro h hh
    simp only [simE, Bool.and_eq_true] at h
    have h1 := fun hh => (ix h.1 hh).1
    have h2 := fun hh => (iy h.2 hh).1
    simp only [plusE, fillE, den, Den.of, h1, h2, and_self]
  | sub x y ix iy =>
    intro h hh
    simp only [simE, Bool.and_eq_true] at h
    have h1 := fun hh => (ix h.1 hh).1
    have h2 := fun hh => (iy h.2 hh).1
    simp only [plusE, fillE, den, Den.of, h1, h2, and_self]
  | tup es ih =>
    intro h hh
    have h3 := fun hh => (ih h hh).2.2
    simp only [plusE, fillE, den, Den.of, h3, and_self]
  | lst es ih =>
    intro h hh
    have h3 := fun hh => (ih h hh).2.2
    simp only [plusE, fillE, den, Den.of, h3, and_self]
  | bm m o es io ie =>
    intro h hh
    simp only [simE, Bool.and_eq_true] at h
    have h1 := fun hh => (io h.1 hh).1
    have h3 := fun hh => (ie h.2 hh).2.2
    simp only [plusE, fillE, den, Den.of, h1, h3, and_self]
  | cons e es ie is =>
    intro h hh
    simp only [simE, Bool.and_eq_true] at h
    have h1 := fun hh => (ie h.1 hh).1
    have h3 := fun hh => (is h.2 hh).2.2
    simp only [plusE, fillE, den, Den.of, h1, h3, and_self]
  | _ => intro h; cases h
/-- without a name nothing is asked -/
theorem plus_none {a dd : Addr} {c : Nat} {ds : List D} : ∀ (e : E), simE none e = true → plusE a dd c e = e ∧ fillE c ds e = e := by
  intro e
  induction e with
  | var i => exact fun _ => ⟨rfl, rfl⟩
  | cst d => exact fun _ => ⟨rfl, rfl⟩
  | glob x d => exact fun _ => ⟨rfl, rfl⟩
  | nil => exact fun _ => ⟨rfl, rfl⟩
  | xf u f tb c ds => intro h; simp [simE] at h
  | xis u t b => intro h; simp [simE] at h
  | not e ih => intro h; obtain ⟨h1, h2⟩ := ih h; simp only [plusE, fillE, h1, h2, and_self]
  | tup e ih => intro h; obtain ⟨h1, h2⟩ := ih h; simp only [plusE, fillE, h1, h2, and_self]
  | lst e ih => intro h; obtain ⟨h1, h2⟩ := ih h; simp only [plusE, fillE, h1, h2, and_self]
  | and x y ix iy => intro h; simp only [simE, Bool.and_eq_true] at h; obtain ⟨h1, h2⟩ := ix h.1; obtain ⟨h3, h4⟩ := iy h.2; simp only [plusE, fillE, h1, h2, h3, h4, and_self]
  | or x y ix iy => intro h; simp only [simE, Bool.and_eq_true] at h; obtain ⟨h1, h2⟩ := ix h.1; obtain ⟨h3, h4⟩ := iy h.2; simp only [plusE, fillE, h1, h2, h3, h4, and_self]
  | cmp op x y ix iy => intro h; simp only [simE, Bool.and_eq_true] at h; obtain ⟨h1, h2⟩ := ix h.1; obtain ⟨h3, h4⟩ := iy h.2; simp only [plusE, fillE, h1, h2, h3, h4, and_self]
  | bin op x y ix iy => intro h; simp only [simE, Bool.and_eq_true] at h; obtain ⟨h1, h2⟩ := ix h.1; obtain ⟨h3, h4⟩ := iy h.2; simp only [plusE, fillE, h1, h2, h3, h4, and_self]
  | sub x y ix iy => intro h; simp only [simE, Bool.and_eq_true] at h; obtain ⟨h1, h2⟩ := ix h.1; obtain ⟨h3, h4⟩ := iy h.2; simp only [plusE, fillE, h1, h2, h3, h4, and_self]
  | bm m x y ix iy => intro h; simp only [simE, Bool.and_eq_true] at h; obtain ⟨h1, h2⟩ := ix h.1; obtain ⟨h3, h4⟩ := iy h.2; simp only [plusE, fillE, h1, h2, h3, h4, and_self]
  | cons x y ix iy => intro h; simp only [simE, Bool.and_eq_true] at h; obtain ⟨h1, h2⟩ := ix h.1; obtain ⟨h3, h4⟩ := iy h.2; simp only [plusE, fillE, h1, h2, h3, h4, and_self]
  | _ => intro h; cases h
section
variable {X : Cx} {N : List Str} {sc : Scope} {k : Nat} {a dd : Addr} {c : Nat} {oe : Obj} {pn : List (Addr × Obj)} {W : WX}
theorem kind_of {mg : Str → Option Value} {t : String} (h : kindB t = true) (n : bltX.contains t = true ∨ mg (Str.ofString t) ≠ none) : t ∈ bltX ∨ ∃ p ∈ clsTab, p.1 = t ∧ p.2.2.contains "BaseException" = true ∧ mg (Str.ofString p.1) ≠ none := by
  by_cases hb : bltX.contains t = true
  · exact .inl (by simpa using hb)
  · unfold kindB at h
    rw [Bool.or_eq_true, List.any_eq_true] at h
    rcases h with h | ⟨p, hp, h⟩
    · exact absurd h hb
    · rw [Bool.and_eq_true, beq_iff_eq] at h
      obtain ⟨rfl, h⟩ := h
      rcases n with n | n
      · exact absurd n hb
      · exact .inr ⟨p, hp, rfl, h, n⟩
/-- EVERY SIMPLE EXPRESSION OF A SUITE -/
theorem sx_all (G : Gx X N sc k true) (S : Sx X a dd c oe) (v : Option Nat) : ∀ (e : E), simE v e = true → kinE X.mg e → e.need X.prog X.w X.K X.mg X.base k → Snd (X.suite a ((a, oe) :: pn)) N sc false W (plusE a dd c e) := by
  have G' := G.suite a ((a, oe) :: pn)
  intro e
  induction e with
  | var i => exact fun _ _ _ => snd_var G' i
  | cst d => exact fun _ _ _ => snd_cst d
  | glob x d => exact fun _ _ n => snd_glob G' n
  | nil => exact fun _ _ _ => snd_nil
  | xf u f tb c ds =>
    intro h _ _
    simp only [simE, Bool.and_eq_true, List.all_eq_true, decide_eq_true_eq] at h
    exact snd_xfs G S u f tb h.2
  | xis u t b =>
    intro h n _
    simp only [simE, Bool.and_eq_true] at h
    exact snd_xiss G S u t (kind_of h.2 n)
  | not e ih => exact fun h m n => snd_not (ih h m n)
  | and x y ix iy => exact fun h m n => by simp only [simE, Bool.and_eq_true] at h; exact snd_and (ix h.1 m.1 n.1) (iy h.2 m.2 n.2)
  | or x y ix iy => exact fun h m n => by simp only [simE, Bool.and_eq_true] at h; exact snd_or (ix h.1 m.1 n.1) (iy h.2 m.2 n.2)
  | cmp op x y ix iy => exact fun h m n => by simp only [simE, Bool.and_eq_true] at h; exact snd_cmp G' (ix h.1 m.1 n.1) (iy h.2 m.2 n.2)
  | bin op x y ix iy => exact fun h m n => by simp only [simE, Bool.and_eq_true] at h; exact snd_bin (ix h.1 m.1 n.1) (iy h.2 m.2 n.2)
  | tup es ih => exact fun h m n => snd_tup (ih h m n)
  | lst es ih => exact fun h m n => snd_lst (ih h m n)
  | sub x y ix iy => exact fun h m n => by simp only [simE, Bool.and_eq_true] at h; exact snd_sub (ix h.1 m.1 n.1) (iy h.2 m.2 n.2)
  | bm mm x y ix iy => exact fun h m n => by simp only [simE, Bool.and_eq_true] at h; exact snd_bm G' (ix h.1 m.1 n.1) (iy h.2 m.2 n.2)
  | cons x y ix iy => exact fun h m n => by simp only [simE, Bool.and_eq_true] at h; exact snd_cons (ix h.1 m.1 n.1) (iy h.2 m.2 n.2)
  | _ => intro h; cases h
end
end L3

namespace L3
open PySem L2

def PostS (K : PySem.W.Frag) (mg : Str → Option Value) (ρ : List Addr) (H : Hp) (W : WX) (o : Out) (D : Ends) : Prop := match o with
  | .next σ3 h => ∀ (ρ' : List Addr) (H' : Hp) (σ : L2.St), Step ρ H ρ' H' → RS K ρ' H' σ3 σ → Rep K mg ρ' h H' → D.nx σ H'
  | .ret d h => ∀ (ρ' : List Addr) (H' : Hp) (v : V), Step ρ H ρ' H' → Rep K mg ρ' h H' → RD K ρ' H' d v → D.rt v H'
  | .brk σ3 h => ∀ (ρ' : List Addr) (H' : Hp) (σ : L2.St), Step ρ H ρ' H' → RS K ρ' H' σ3 σ → Rep K mg ρ' h H' → D.bk σ H'
  | .cnt σ3 h => ∀ (ρ' : List Addr) (H' : Hp) (σ : L2.St), Step ρ H ρ' H' → RS K ρ' H' σ3 σ → Rep K mg ρ' h H' → D.ct σ H'
  | .exc c fs σ3 h => ∀ (ρ' : List Addr) (H' : Hp) (cls : Value) (dd : Option Addr) (σ : L2.St), Step ρ H ρ' H' → RS K ρ' H' σ3 σ → Rep K mg ρ' h H' → XR K mg ρ' H' c fs cls dd → W cls dd σ H'
  | .bad => False
def rS (K : PySem.W.Frag) (mg : Str → Option Value) (m : Sl → Hh → Out) (W : WX) : TS := fun D σ H => ∃ ρ σ3 h, RS K ρ H σ3 σ ∧ Rep K mg ρ h H ∧ PostS K mg ρ H W (m σ3 h) D
section
variable {K : PySem.W.Frag} {mg : Str → Option Value} {ρ ρ1 : List Addr} {H H1 : Hp} {W : WX} {D : Ends}
theorem PostS.from {o : Out} (P : PostS K mg ρ H W o D) (s : Step ρ H ρ1 H1) : PostS K mg ρ1 H1 W o D := by
  cases o with
  | next _ _ => exact fun ρ' H' σ s' => P ρ' H' σ (s.trans s')
  | ret _ _ => exact fun ρ' H' σ s' => P ρ' H' σ (s.trans s')
  | brk _ _ => exact fun ρ' H' σ s' => P ρ' H' σ (s.trans s')
  | cnt _ _ => exact fun ρ' H' σ s' => P ρ' H' σ (s.trans s')
  | exc _ _ _ _ => exact fun ρ' H' cls dd σ s' => P ρ' H' cls dd σ (s.trans s')
  | bad => exact P
/-- behind an expression -/
theorem PostS.out {α β : Type} {RA : List Addr → Hp → α → β → Prop} {r : Res α} {σ3 : Sl} {σ : L2.St} {f : α → Hh → Out} (P : PostS K mg ρ H W (r.out σ3 f) D) (rs : RS K ρ H σ3 σ) :
    Post K mg RA ρ H (fun c d H' => W c d σ H') r fun b H1 => ∃ ρ1 a h1, Step ρ H ρ1 H1 ∧ Rep K mg ρ1 h1 H1 ∧ RA ρ1 H1 a b ∧ r = .ok a h1 ∧ PostS K mg ρ1 H1 W (f a h1) D := by
  cases r with
  | ok a h => exact fun ρ' H' b s rp ra => ⟨ρ', a, h, s, rp, ra, rfl, PostS.from (o := f a h) P s⟩
  | exc c fs h => exact fun ρ' H' cls dd s rp x => P ρ' H' cls dd σ s (rs.mono s) rp x
  | bad => exact P
theorem PostS.seq {o : Out} {f : Sl → Hh → Out} (P : PostS K mg ρ H W (o.seq f) D) : PostS K mg ρ H W o { D with nx := rS K mg f W D } := by
  cases o with
  | next σ3 h => exact fun ρ' H' σ s rs rp => ⟨ρ', σ3, h, rs, rp, PostS.from (o := f σ3 h) P s⟩
  | ret _ _ => exact P
  | brk _ _ => exact P
  | cnt _ _ => exact P
  | exc _ _ _ _ => exact P
  | bad => exact P
theorem PostS.turn {o : Out} {f : Sl → Hh → Out} {Nx : L2.St → Hp → Prop} (P : PostS K mg ρ H W (o.turn f) D) (hN : ∀ σ' H', rS K mg f W D σ' H' → Nx σ' H') : PostS K mg ρ H W o { D with nx := Nx, ct := Nx, bk := D.nx } := by
  cases o with
  | next σ3 h => exact fun ρ' H' σ s rs rp => hN _ _ ⟨ρ', σ3, h, rs, rp, PostS.from (o := f σ3 h) P s⟩
  | cnt σ3 h => exact fun ρ' H' σ s rs rp => hN _ _ ⟨ρ', σ3, h, rs, rp, PostS.from (o := f σ3 h) P s⟩
  | ret _ _ => exact P
  | brk _ _ => exact P
  | exc _ _ _ _ => exact P
  | bad => exact P
theorem PostS.nx {σ3 : Sl} {σ : L2.St} {h : Hh} (P : PostS K mg ρ H W (.next σ3 h) D) (rs : RS K ρ H σ3 σ) (rp : Rep K mg ρ h H) : D.nx σ H := P ρ H σ (Step.refl _ _) rs rp
end

def funB (sc : Scope) : Bool := match sc.kind with
  | .function => true
  | _ => false
/-- the store of a comprehension's value goes by its own road -/
def swB (sc : Scope) (x : Str) (px : Pos) : Expr → Bool
  | .ListComp _ _ scope pos => (match sc.names.lookup x with | some .local => true | _ => false) && (px.line == pos.line) && !(scope.names.any fun (n, k) => n == x && (k == .local || k == .cell))
  | _ => false
def asgB (sc : Scope) (x : Str) (px : Pos) : Expr → Bool
  | .ListComp a b c d => funB sc
  | e => !compB e
def localB (sc : Scope) (x : Str) : Bool := match sc.names.lookup x with
  | some .local => true
  | _ => false
def parB (sc : Scope) (x y : Str) (px py : Pos) (u v : Expr) : Bool :=
  funB sc && localB sc x && localB sc y && !(x == y) && (px.line == py.line) && !starB u && !starB v && !([u, v].all (foldedForSure 8)) && !([u, v].all (constantsAlone 8))
abbrev allF : Str → Bool := fun _ => true
def oneName : List Expr → Option (Str × Pos)
  | [.Name x px] => some (x, px)
  | _ => none
def oneSub : List Expr → Option (Expr × Expr × Pos)
  | [.Subscript o i p] => some (o, i, p)
  | _ => none
def oneFld : List Expr → Option (Expr × Str × Pos)
  | [.Attribute o f p] => some (o, f, p)
  | _ => none
theorem oneFld_eq {ts : List Expr} {o : Expr} {f : Str} {p : Pos} (h : oneFld ts = some (o, f, p)) : ts = [.Attribute o f p] := by
  unfold oneFld at h
  split at h <;> cases h
  rfl
def oneTup : List Expr → Option (List Expr × Nat × Pos)
  | [.Tuple es k p] => some (es, k, p)
  | _ => none
def twoNames : List Expr → Option (Str × Pos × Str × Pos)
  | [.Name x px, .Name y py] => some (x, px, y, py)
  | _ => none
def twoVals : Expr → Option (Expr × Expr × Nat × Pos)
  | .Tuple [u, v] k p => some (u, v, k, p)
  | _ => none
theorem oneName_eq {ts : List Expr} {x : Str} {px : Pos} (h : oneName ts = some (x, px)) : ts = [.Name x px] := by
  unfold oneName at h
  split at h <;> cases h
  rfl
theorem oneSub_eq {ts : List Expr} {o i : Expr} {p : Pos} (h : oneSub ts = some (o, i, p)) : ts = [.Subscript o i p] := by
  unfold oneSub at h
  split at h <;> cases h
  rfl
theorem oneTup_eq {ts : List Expr} {es : List Expr} {k : Nat} {p : Pos} (h : oneTup ts = some (es, k, p)) : ts = [.Tuple es k p] := by
  unfold oneTup at h
  split at h <;> cases h
  rfl
theorem twoNames_eq {ts : List Expr} {x y : Str} {px py : Pos} (h : twoNames ts = some (x, px, y, py)) : ts = [.Name x px, .Name y py] := by
  unfold twoNames at h
  split at h <;> cases h
  rfl
theorem twoVals_eq {e u v : Expr} {k : Nat} {p : Pos} (h : twoVals e = some (u, v, k, p)) : e = .Tuple [u, v] k p := by
  unfold twoVals at h
  split at h <;> cases h
  rfl
def parC (N : List Str) (sc : Scope) (i j : Nat) (t : Option (List Expr × Nat × Pos)) (w : Option (Expr × Expr × Nat × Pos)) (f : Expr → Expr → Bool) : Bool := match t, w with
  | some (es, _, _), some (u, v, _, _) => (match twoNames es with
    | some (x, px, y, py) => decide (N[i]? = some x) && decide (N[j]? = some y) && !(i == j) && f u v && parB sc x y px py u v
    | none => false)
  | _, _ => false
def plusS (a dd : Addr) (c : Nat) : S → S
  | .cons s r => .cons (plusS a dd c s) (plusS a dd c r)
  | .expr e => .expr (plusE a dd c e)
  | .asg i e => .asg i (plusE a dd c e)
  | .ret e => .ret (plusE a dd c e)
  | .ife e t u => .ife (plusE a dd c e) (plusS a dd c t) (plusS a dd c u)
  | s => s
def fillS (c : Nat) (ds : List D) : S → S
  | .cons s r => .cons (fillS c ds s) (fillS c ds r)
  | .expr e => .expr (fillE c ds e)
  | .asg i e => .asg i (fillE c ds e)
  | .ret e => .ret (fillE c ds e)
  | .ife e t u => .ife (fillE c ds e) (fillS c ds t) (fillS c ds u)
  | s => s
def simS (v : Option Nat) : S → Bool
  | .nil => true
  | .cons s r => simS v s && simS v r
  | .pass => true
  | .expr e => simE v e
  | .asg i e => simE v e && !(v == some i)
  | .ret e => simE v e
  | .retN => true
  | .ife e t u => simE v e && simS v t && simS v u
  | .brk => true
  | .cnt => true
  | _ => false
def kinS (mg : Str → Option Value) : S → Prop
  | .cons s r => kinS mg s ∧ kinS mg r
  | .expr e => kinE mg e
  | .asg _ e => kinE mg e
  | .ret e => kinE mg e
  | .ife e t u => kinE mg e ∧ kinS mg t ∧ kinS mg u
  | _ => True
mutual
def chkQ (N : List Str) (sc : Scope) : S → Stmt → Bool
  | .pass, .Pass _ => true
  | .expr e, .Expr x _ => chk N sc false (plusE 0 0 0 e) x && !compB x
  | .asg i e, .Assign ts v _ => (match oneName ts with
    | some (x, px) => locB N sc allF i x && chk N sc false (plusE 0 0 0 e) v && asgB sc x px v && !swB sc x px v
    | none => false)
  | .ret e, .Return (some x) _ => chk N sc false (plusE 0 0 0 e) x
  | .retN, .Return none _ => true
  | .ife e t u, .If x a b _ => chk N sc false (plusE 0 0 0 e) x && chkQB N sc t a && chkQB N sc u b
  | .brk, .Break _ => true
  | .cnt, .Continue _ => true
  | _, _ => false
def chkQB (N : List Str) (sc : Scope) : S → List Stmt → Bool
  | .nil, [] => true
  | .cons s r, st :: sts => chkQ N sc s st && chkQB N sc r sts
  | _, _ => false
end
/-- the classes that a clause names -/
def tyNames : Expr → Option (List Str)
  | .Name x _ => some [x]
  | .Tuple es _ _ => (es.mapM fun e => match e with
    | .Name x _ => some x
    | _ => none)
  | _ => none
def tyB (sc : Scope) (cs : List String) : Expr → Bool
  | .Name x _ => decide (cs = [] ∨ cs.map Str.ofString = [x]) && !cs.isEmpty && globB sc x
  | .Tuple es _ _ => decide (2 ≤ cs.length) && decide (cs.length ≤ 5) && tysB sc cs es
  | _ => false
where tysB (sc : Scope) : List String → List Expr → Bool
  | [], [] => true
  | c :: cs, .Name x _ :: es => decide (Str.ofString c = x) && globB sc x && !(bltX.contains c) && tysB sc cs es
  | _, _ => false
def asB (N : List Str) (sc : Scope) : Option Nat → Option Str → Bool
  | none, none => true
  | some i, some n => decide (N[i]? = some n) && (match sc.names.lookup n with
    | some .local => true
    | _ => false)
  | _, _ => false
def chkH (N : List Str) (sc : Scope) : S → List ExceptHandler → Bool
  | .cons (.hnd cs v f) r, .ExceptHandler (some ty) n (b0 :: suite) _ :: hds => tyB sc cs ty && asB N sc v n && simS v (f 0 []) && chkQB N sc (f 0 []) (b0 :: suite) && chkH N sc r hds
  | .nil, [] => true
  | _, _ => false
mutual
def chkS (N : List Str) (sc : Scope) (c : Bool) : S → Stmt → Bool
  | .pass, .Pass _ => true
  | .expr e, .Expr x _ => chk N sc c e x && !compB x
  | .asg i e, .Assign ts v _ => (match oneName ts with
    | some (x, px) => locB N sc allF i x && chk N sc c e v && asgB sc x px v
    | none => false)
  | .par i j a b, .Assign ts v _ => c && parC N sc i j (oneTup ts) (twoVals v) fun u v => chk N sc c a u && chk N sc c b v
  | .unp g e, .Assign ts v _ => (match oneTup ts with
    | some (es, k, p) => c && chkG N sc allF g (.Tuple es k p) && chk N sc c e v && !tupB v
    | none => false)
  | .sts o i e, .Assign ts v _ => (match oneSub ts with
    | some (ox, ix, _) => chk N sc c o ox && chk N sc c i ix && chk N sc c e v && !sliceB ix
    | none => false)
  | .ret e, .Return (some x) _ => chk N sc c e x
  | .retN, .Return none _ => true
  | .ife e t u, .If x a b _ => chk N sc c e x && chkB N sc c t a && chkB N sc c u b
  | .whl e b, .While x body [] _ => c && chk N sc c e x && chkB N sc c b body
  | .fr g it b, .For tg iter body [] _ => c && (!it.tupIt || tupB tg) && chkG N sc allF g tg && chk N sc c it iter && !setB iter && chkB N sc c b body
  | .brk, .Break _ => true
  | .cnt, .Continue _ => true
  | .never, _ => true
  | .stf _ f o e, .Assign ts v _ => (match oneFld ts with
    | some (ox, g, _) => decide (f = g) && chk N sc c o ox && chk N sc c e v
    | none => false)
  | .rais cl _ es, .Raise (some (.Call (.Name y _) args [] _)) none _ => c && decide (clsN cl = y) && globB sc y && chkA N sc c es args && decide (args.length < 1000) && subN cl "BaseException"
  | .tr b hs, .Try body (h0 :: hds) [] [] _ => c && chkB N sc c b body && chkH N sc hs (h0 :: hds)
  | _, _ => false
def chkB (N : List Str) (sc : Scope) (c : Bool) : S → List Stmt → Bool
  | .nil, [] => true
  | .cons s r, st :: sts => chkS N sc c s st && chkB N sc c r sts
  | _, _ => false
end
section
variable (P : Program) (w : World) (K : PySem.W.Frag) (mg : Str → Option Value) (base : Heap) (k : Nat)
def S.need : S → Prop
  | .nil => True
  | .cons s r => s.need ∧ r.need
  | .pass => True
  | .expr e => e.need P w K mg base k
  | .asg _ e => e.need P w K mg base k
  | .par _ _ a b => a.need P w K mg base k ∧ b.need P w K mg base k
  | .unp _ e => e.need P w K mg base k
  | .sts o i e => o.need P w K mg base k ∧ i.need P w K mg base k ∧ e.need P w K mg base k
  | .ret e => e.need P w K mg base k
  | .retN => True
  | .ife e t u => e.need P w K mg base k ∧ t.need ∧ u.need
  | .whl e b => e.need P w K mg base k ∧ b.need
  | .fr _ it b => it.need P w K mg base k ∧ b.need
  | .brk => True
  | .cnt => True
  | .never => True
  | .stf tb f o e => (∀ q ∈ tb, Fld K mg q.1 q.2 f) ∧ o.need P w K mg base k ∧ e.need P w K mg base k
  | .rais cl b es => Rai P w K mg base k cl es.alen b ∧ es.need P w K mg base k
  | .tr b hs => b.need ∧ hs.need ∧ XAll K mg
  | .hnd cs _ f => (∀ c ds, flDs ds = true → f c ds = fillS c ds (f 0 [])) ∧ (f 0 []).need ∧ kinS mg (f 0 []) ∧ ∀ x ∈ cs, (bltX.contains x = true ∨ (mg (Str.ofString x) ≠ none ∧ ∃ p ∈ clsTab, p.1 = x ∧ p.2.2.contains "BaseException" = true))
end
theorem swapped_plain {ts : List Expr} {kk : Nat} {p : Pos} {v : Expr} {env : Env} (h : tupB v = false) : swappedStores [.Tuple ts kk p] v env = pure none := by
  cases v <;> first | rfl | cases h
theorem sw_attr {v o : Expr} {f : Str} {p : Pos} {l : Nat} {env : Env} : swapsWith v (some (.Attribute o f p)) l env = pure false := by
  cases v <;> rfl
theorem sw_tup {v : Expr} {es : List Expr} {k : Nat} {p : Pos} {l : Nat} {env : Env} : swapsWithSole [.Tuple es k p] v l env = pure false := by
  cases v <;> rfl
theorem sw_subs {v o i : Expr} {p : Pos} {l : Nat} {env : Env} : swapsWithSole [.Subscript o i p] v l env = pure false := by
  cases v <;> rfl
theorem swapped_sub {o i : Expr} {p : Pos} {v : Expr} {env : Env} : swappedStores [.Subscript o i p] v env = pure none := by
  cases v <;> rfl
theorem sole_plain {t v : Expr} {l : Nat} {env : Env} (h : compB v = false) : swapsWithSole [t] v l env = pure false := by
  show swapsWith v (some t) l env = _
  exact sw_plain h
theorem assign_sub {o i : Expr} {p : Pos} {env : Env} (h : sliceB i = false) : ∀ v, assign (.Subscript o i p) env v = (do
      let ov ← holding [v] (eval o env)
      let iv ← holding [v, ov] (eval i env)
      standAt p
      holding [v, ov, iv] (setItem ov iv v)
      release [v, ov, iv] []) := by
  intro v
  cases i <;> first | rfl | cases h
theorem block_fn {env : Env} (h : env.scope.kind = .function) : env.blockKind = .function := by
  unfold Env.blockKind
  rw [h]; rfl
theorem fun_of {sc : Scope} (h : funB sc = true) : sc.kind = .function := by
  unfold funB at h
  split at h
  · assumption
  · cases h
theorem local_of {sc : Scope} {x : Str} (h : localB sc x = true) : sc.names.lookup x = some .local := by
  unfold localB at h
  split at h
  · assumption
  · cases h
theorem swapped_par {x y : Str} {px py pt pt2 : Pos} {kt k2 : Nat} {u v : Expr} {env : Env} (h : parB env.scope x y px py u v = true) : swappedStores [.Tuple [.Name x px, .Name y py] kt pt] (.Tuple [u, v] k2 pt2) env = pure (some [x, y]) := by
  unfold parB at h
  simp only [Bool.and_eq_true, Bool.not_eq_true'] at h
  obtain ⟨⟨⟨⟨⟨⟨⟨⟨h1, h2⟩, h3⟩, h4⟩, h5⟩, h6⟩, h7⟩, h8⟩, h9⟩ := h
  have kx : env.kindOf x = some .local := local_of h2
  have ky : env.kindOf y = some .local := local_of h3
  have hd : ([x, y] : List Str).eraseDups.length = 2 := by
    have h4' : (y == x) = false := by
      rw [Bool.beq_comm]; exact h4
    simp [List.eraseDups_cons, h4']
  have h5' : (py.line == px.line) = true := by rw [Bool.beq_comm]; exact h5
  unfold swappedStores
  dsimp only
  simp only [block_fn (fun_of h1), List.length_cons, List.length_nil, h8, h9, List.head?_cons, Option.map_some, Option.getD_some, Expr.pos, List.filterMap_cons, kx, ky, h5', List.filterMap_nil, beq_self_eq_true, Bool.and_self, if_true]
  rw [if_neg (by decide), if_neg ?_, if_neg (by rw [hd]; decide), if_neg Bool.false_ne_true, if_neg Bool.false_ne_true]
  intro z
  rw [List.any_eq_true] at z
  obtain ⟨e, he, q⟩ := z
  have he' : e = u ∨ e = v := by simpa using he
  rcases he' with rfl | rfl
  · cases e <;> first | (cases q; done) | cases h6
  · cases e <;> first | (cases q; done) | cases h7

theorem sw_not {sc : Scope} {x : Str} {px : Pos} {v : Expr} {l : Nat} {env : Env} (hs : env.scope = sc) (h : asgB sc x px v = true) (hn : swB sc x px v = false) : swapsWith v (some (.Name x px)) l env = pure false := by
  unfold asgB at h
  split at h
  · rename_i a b scope d
    have hk : env.blockKind = .function := block_fn (by rw [hs]; exact fun_of h)
    unfold swapsWith
    simp only [hk, Expr.pos]
    have e : (ScopeKind.function == ScopeKind.function && env.kindOf x == some NameKind.local && px.line == d.line && !(scope.names.any fun (n, k) => n == x && (k == .local || k == .cell))) = false := by
      unfold swB at hn
      have kx : env.kindOf x = sc.names.lookup x := by show env.scope.names.lookup x = _; rw [hs]
      rw [kx]
      cases q : sc.names.lookup x with
      | none => rfl
      | some kd =>
        rw [q] at hn
        cases kd with
        | «local» => simpa using hn
        | _ => rfl
    rw [e]
  · exact sw_plain (by simpa using h)
theorem sw_yes {sc : Scope} {x : Str} {px : Pos} {el : Expr} {gs : List Comprehension} {scope : Scope} {pos : Pos} {l : Nat} {env : Env} (hs : env.scope = sc) (h : asgB sc x px (.ListComp el gs scope pos) = true) (hy : swB sc x px (.ListComp el gs scope pos) = true) :
    env.scope.names.lookup x = some .local ∧ swapsWith (.ListComp el gs scope pos) (some (.Name x px)) l env = pure true := by
  unfold swB at hy
  simp only [Bool.and_eq_true, Bool.not_eq_true'] at hy
  have h1 : env.scope.names.lookup x = some .local := by
    rw [hs]
    have := hy.1.1
    split at this
    · assumption
    · cases this
  exact ⟨h1, sw_true (by rw [hs]; exact fun_of h) h1 hy.1.2 hy.2⟩

structure Sts (X : Cx) (N : List Str) (sc : Scope) (c : Bool) (W : WX) (s : S) : Prop where
  ps : ∀ st, chkS N sc c s st = true → PS X st (rS X.K X.mg (exec s) W)
  pb : ∀ sts, chkB N sc c s sts = true → PSs X sts (rS X.K X.mg (exec s) W)
section
variable {X : Cx} {N : List Str} {sc : Scope} {c : Bool} {W : WX} {k : Nat} {s : S}
theorem Sts.one (hB : ∀ sts, chkB N sc c s sts = false) (ps : ∀ st, chkS N sc c s st = true → PS X st (rS X.K X.mg (exec s) W)) : Sts X N sc c W s := ⟨ps, fun sts h => by rw [hB] at h; cases h⟩
theorem set_any : PSet X (fun o i v H Q => ∃ ρ a b d h E, RD X.K ρ H a o ∧ RD X.K ρ H b i ∧ RD X.K ρ H d v ∧ Rep X.K X.mg ρ h H ∧ Post X.K X.mg (RQ (α := Unit)) ρ H E (stsD a b d h) fun _ H' => Q H') := by
  intro pins s σ H o i v ov iv u Q I ro ri rv hr
  obtain ⟨ρ, a, b, d, h, E, ra, rb, rd, rp, P⟩ := hr
  unfold stsD at P
  split at P
  · split at P
    · rename_i e2
      split at P
      · rename_i j ej
        obtain ⟨l, vs, rfl, hn, g, rl⟩ := lst_at rp ra e2
        cases rb
        refine set_list pins s σ H _ _ _ ov iv u Q I ro ri rv ⟨l, vs, _, j, rfl, rfl, g, by rw [← rl.length]; exact ej, ?_⟩
        obtain ⟨rp', st⟩ := rp.put (o' := .lst (_ : List D)) (u := .lst (vs.set j v)) hn fun st => ⟨_, upd_same, (rl.set rd j).mono st⟩
        exact P.to st rp' rfl
      · exact P.elim
    · exact P.elim
  · exact P.elim
theorem st_expr (ie : ∀ {e : E}, e.need X.prog X.w X.K X.mg X.base k → Snd X N sc c W e) {e : E} (n : e.need X.prog X.w X.K X.mg X.base k) : Sts X N sc c W (.expr e) := by
  refine .one (fun sts => by cases sts <;> rfl) fun st h => ?_
  cases st <;> first | (simp only [chkS] at h; cases h; done) | skip
  rename_i x pos
  simp only [chkS, Bool.and_eq_true, Bool.not_eq_true'] at h
  refine PSimp (ps_expr ((ie n).pe x h.1) (sw_plain h.2)) fun D σ H q => ?_
  obtain ⟨ρ, σ3, hh, rs, rp, P⟩ := q
  refine ⟨ρ, σ3, hh, rs, rp, (PostS.out (RA := RV X.K) (r := (den e).v σ3 hh) P rs).imp fun v H1 ⟨ρ1, d, h1, s1, rp1, rd, _, P1⟩ => ?_⟩
  exact P1.nx (rs.mono s1) rp1
theorem st_asg (G : Gx X N sc k c) (hf : ∀ x, X.fn x = true) (ie : ∀ {e : E}, e.need X.prog X.w X.K X.mg X.base k → Snd X N sc c W e)
    (i2 : ∀ {e : E} scope s H C cl fp, e.need X.prog X.w X.K X.mg X.base k → Snd (X.blk s H scope (compEnvC scope cl C X.env) fp) N (relS scope sc) c WF e) {i : Nat} {e : E} (n : e.need X.prog X.w X.K X.mg X.base k) : Sts X N sc c W (.asg i e) := by
  refine .one (fun sts => by cases sts <;> rfl) fun st h => ?_
  cases st <;> first | (simp only [chkS] at h; cases h; done) | skip
  rename_i ts v pos
  simp only [chkS] at h
  cases q : oneName ts with
  | none => rw [q] at h; cases h
  | some t =>
    obtain ⟨x, px⟩ := t
    rw [q] at h
    obtain rfl := oneName_eq q
    simp only [Bool.and_eq_true] at h
    obtain ⟨⟨h1, h2⟩, h3⟩ := h
    obtain ⟨l1, l2, l3⟩ := G.loc (fun x _ => hf x) h1
    have nd : X.N.Nodup := by rw [G.hN]; exact G.nd
    have fin : ∀ D σ H, rS X.K X.mg (exec (.asg i e)) W D σ H → tAsg (rE X.K X.mg (den e).v W) (gName i) D σ H := fun D σ H q => by
      obtain ⟨ρ, σ3, hh, rs, rp, P⟩ := q
      refine ⟨ρ, σ3, hh, rs, rp, (PostS.out (RA := RV X.K) (r := (den e).v σ3 hh) P rs).imp fun v H1 ⟨ρ1, d, h1, s1, rp1, rd, _, P1⟩ => ?_⟩
      exact P1.nx ((rs.mono s1).set rd i) rp1
    cases sw : swB sc x px v with
    | false => exact PSimp (ps_set (i := i) nd l1 l2 ((ie n).pe v h2) (sw_not G.hsc h3 sw) l3) fin
    | true =>
      cases v <;> first | (cases sw; done) | skip
      rename_i el gs scope p
      obtain ⟨y1, y2⟩ := sw_yes (l := pos.line) G.hsc h3 sw
      cases e <;> first | (simp only [chk] at h2; cases h2; done) | skip
      rename_i own g it test elt
      obtain ⟨el', tg, iter, ifs, scope', pos', e1, ck⟩ := comp_key (X := X) h2
      cases e1
      obtain ⟨p1, p2, p3, p4, p5, p6, p7⟩ := comp_parts G ck (ie n.1) (fun s H C cl fp => i2 scope s H C cl fp n.2.1) (fun s H C cl fp => i2 scope s H C cl fp n.2.2)
      refine PSimp (ps_setLc (i := i) p1 p2 l1 y1 y2 p3 p4 p5 p6 p7 (fold_plain ck.hs)) fun D σ H q => ?_
      exact comp_read (Q := fun y H1 => gName i y σ H1 D.nx) ck.sl (fin D σ H q)
theorem st_par (G : Gx X N sc k c) (ie : ∀ {e : E}, e.need X.prog X.w X.K X.mg X.base k → Snd X N sc c W e) {i j : Nat} {a b : E} (na : a.need X.prog X.w X.K X.mg X.base k) (nb : b.need X.prog X.w X.K X.mg X.base k) : Sts X N sc c W (.par i j a b) := by
  refine .one (fun sts => by cases sts <;> rfl) fun st h => ?_
  cases st <;> first | (simp only [chkS] at h; cases h; done) | skip
  rename_i ts v pos
  simp only [chkS, Bool.and_eq_true] at h
  obtain ⟨hc, h⟩ := h
  unfold parC at h
  split at h
  · rename_i es kt pt u v k2 pt2 e1 e2
    split at h
    · rename_i x px y py e3
      obtain rfl := oneTup_eq e1
      obtain rfl := twoVals_eq e2
      obtain rfl := twoNames_eq e3
      · simp only [Bool.and_eq_true, decide_eq_true_eq, Bool.not_eq_true'] at h
        obtain ⟨⟨⟨⟨h1, h2⟩, h3⟩, h4, h5⟩, h6⟩ := h
        have pb := h6
        unfold parB at pb
        simp only [Bool.and_eq_true, Bool.not_eq_true'] at pb
        obtain ⟨⟨⟨⟨⟨⟨⟨⟨_, b2⟩, b3⟩, _⟩, _⟩, b6⟩, b7⟩, _⟩, _⟩ := pb
        have hx : X.env.scope.names.lookup x = some .local := by rw [G.hsc]; exact local_of b2
        have hy : X.env.scope.names.lookup y = some .local := by rw [G.hsc]; exact local_of b3
        refine PSimp (ps_par (i := i) (j := j) (G.run hc).1 (by rw [G.hN]; exact G.nd) (by rw [G.hN]; exact h1) (by rw [G.hN]; exact h2) (by intro z; rw [z] at h3; simp at h3) hx hy
          (pa_cons ((ie na).pe u h4) (pa_cons ((ie nb).pe v h5) pa_nil (star_cons b7)) (star_cons b6)) (swapped_par (by rw [G.hsc]; exact h6))) fun D σ H q => ?_
        obtain ⟨ρ, σ3, hh, rs, rp, P⟩ := q
        refine ⟨ρ, σ3, hh, rs, rp, (PostS.out (RA := RV X.K) (r := (den a).v σ3 hh) P rs).imp fun v H1 ⟨ρ1, d, h1, s1, rp1, rd, _, P1⟩ => ?_⟩
        refine ⟨ρ1, σ3, h1, rs.mono s1, rp1, (PostS.out (RA := RV X.K) (r := (den b).v σ3 h1) P1 (rs.mono s1)).imp fun v H2 ⟨ρ2, d2, h2, s2, rp2, rd2, _, P2⟩ => ?_⟩
        exact ⟨_, _, rfl, P2.nx (((rs.mono (s1.trans s2)).set (rd.mono s2) i).set rd2 j) rp2⟩
    · cases h
  · cases h
theorem st_unp (G : Gx X N sc k c) (hf : ∀ x, X.fn x = true) (ie : ∀ {e : E}, e.need X.prog X.w X.K X.mg X.base k → Snd X N sc c W e) {g : Tg} {e : E} (n : e.need X.prog X.w X.K X.mg X.base k) : Sts X N sc c W (.unp g e) := by
  refine .one (fun sts => by cases sts <;> rfl) fun st h => ?_
  cases st <;> first | (simp only [chkS] at h; cases h; done) | skip
  rename_i ts v pos
  simp only [chkS] at h
  cases q : oneTup ts with
  | none => rw [q] at h; cases h
  | some t =>
    obtain ⟨es, kt, pt⟩ := t
    rw [q] at h
    obtain rfl := oneTup_eq q
    simp only [Bool.and_eq_true, Bool.not_eq_true'] at h
    obtain ⟨⟨⟨hc, h1⟩, h2⟩, h4⟩ := h
    refine PSimp (ps_asg ((ie n).pe v h2) ((pg_all G (fb := allF) (fun x _ => hf x) (G.run hc).1 g).1 _ h1) sw_tup (swapped_plain h4) rfl) fun D σ H q => ?_
    obtain ⟨ρ, σ3, hh, rs, rp, P⟩ := q
    refine ⟨ρ, σ3, hh, rs, rp, (PostS.out (RA := RV X.K) (r := (den e).v σ3 hh) P rs).imp fun v H1 ⟨ρ1, d, h1, s1, rp1, rd, _, P1⟩ => ?_⟩
    unfold unpR at P1
    split at P1
    · rename_i σ4 ea
      exact ⟨d, ρ1, σ3, h1, rd, rs.mono s1, rp1, σ4, ea, fun σ' rs' _ _ => P1.nx rs' rp1⟩
    · exact P1.elim
theorem st_sts (ie : ∀ {e : E}, e.need X.prog X.w X.K X.mg X.base k → Snd X N sc c W e) {o i e : E} (no : o.need X.prog X.w X.K X.mg X.base k) (ni : i.need X.prog X.w X.K X.mg X.base k) (n : e.need X.prog X.w X.K X.mg X.base k) : Sts X N sc c W (.sts o i e) := by
  refine .one (fun sts => by cases sts <;> rfl) fun st h => ?_
  cases st <;> first | (simp only [chkS] at h; cases h; done) | skip
  rename_i ts v pos
  simp only [chkS] at h
  cases q : oneSub ts with
  | none => rw [q] at h; cases h
  | some t =>
    obtain ⟨ox, ix, p⟩ := t
    rw [q] at h
    obtain rfl := oneSub_eq q
    simp only [Bool.and_eq_true, Bool.not_eq_true'] at h
    obtain ⟨⟨⟨h1, h2⟩, h3⟩, h5⟩ := h
    refine PSimp (ps_asg ((ie n).pe v h3) (pg_sub ((ie no).pe ox h1) ((ie ni).pe ix h2) set_any (assign_sub h5)) sw_subs swapped_sub rfl) fun D σ H q => ?_
    obtain ⟨ρ, σ3, hh, rs, rp, P⟩ := q
    refine ⟨ρ, σ3, hh, rs, rp, (PostS.out (RA := RV X.K) (r := (den e).v σ3 hh) P rs).imp fun v H1 ⟨ρ1, d, h1, s1, rp1, rd, _, P1⟩ => ?_⟩
    refine ⟨ρ1, σ3, h1, rs.mono s1, rp1, (PostS.out (RA := RV X.K) (r := (den o).v σ3 h1) P1 (rs.mono s1)).imp fun x H2 ⟨ρ2, d2, h2, s2, rp2, rd2, _, P2⟩ => ?_⟩
    refine ⟨ρ2, σ3, h2, rs.mono (s1.trans s2), rp2, (PostS.out (RA := RV X.K) (r := (den i).v σ3 h2) P2 (rs.mono (s1.trans s2))).imp fun y H3 ⟨ρ3, d3, h3, s3, rp3, rd3, _, P3⟩ => ?_⟩
    have rs3 := rs.mono ((s1.trans s2).trans s3)
    refine ⟨ρ3, d2, d3, d, h3, _, rd2.mono s3, rd3, rd.mono (s2.trans s3), rp3, (PostS.out (RA := RQ) P3 rs3).imp fun _ H4 ⟨ρ4, _, h4, s4, rp4, _, _, P4⟩ => ?_⟩
    exact P4.nx (rs3.mono s4) rp4
theorem st_stf (ie : ∀ {e : E}, e.need X.prog X.w X.K X.mg X.base k → Snd X N sc c W e) {tb : List (Nat × Nat)} {f : Str} {o e : E} (hf : ∀ q ∈ tb, Fld X.K X.mg q.1 q.2 f) (no : o.need X.prog X.w X.K X.mg X.base k) (n : e.need X.prog X.w X.K X.mg X.base k) : Sts X N sc c W (.stf tb f o e) := by
  refine .one (fun sts => by cases sts <;> rfl) fun st h => ?_
  cases st <;> first | (simp only [chkS] at h; cases h; done) | skip
  rename_i ts v pos
  simp only [chkS] at h
  cases q : oneFld ts with
  | none => rw [q] at h; cases h
  | some t =>
    obtain ⟨ox, g, p⟩ := t
    rw [q] at h
    obtain rfl := oneFld_eq q
    simp only [Bool.and_eq_true, Bool.not_eq_true', decide_eq_true_eq] at h
    obtain ⟨⟨rfl, h1⟩, h2⟩ := h
    refine PSimp (ps_fld ((ie no).pe ox h1) ((ie n).pe v h2) sw_attr) fun D σ H q => ?_
    obtain ⟨ρ, σ3, hh, rs, rp, P⟩ := q
    refine ⟨ρ, σ3, hh, rs, rp, (PostS.out (RA := RV X.K) (r := (den e).v σ3 hh) P rs).imp fun y H1 ⟨ρ1, d, h1, s1, rp1, rd, _, P1⟩ => ?_⟩
    refine ⟨ρ1, σ3, h1, rs.mono s1, rp1, (PostS.out (RA := RV X.K) (r := (den o).v σ3 h1) P1 (rs.mono s1)).imp fun x H2 ⟨ρ2, d2, h2, s2, rp2, rd2, _, P2⟩ => ?_⟩
    have rs2 := rs.mono (s1.trans s2)
    unfold stfR at P2
    split at P2
    · split at P2
      · rename_i cl ds eh
        split at P2
        · rename_i i el
          split at P2
          · rename_i hi
            obtain ⟨_, a, C, dx, vs, ex, _, rfl, hn, ea, hmg, rds, hlen⟩ := ins_at rp2 rd2 (show insD (.ref _) h2 = some (cl, ds) by unfold insD; dsimp only; rw [eh])
            cases ex
            obtain ⟨fn', C', hmg', cC, na⟩ := hf _ (lookup_mem el)
            have hmg2 : X.mg (clsN cl) = some (.ref C') := hmg'
            rw [hmg] at hmg2
            cases hmg2
            obtain ⟨nd, l9⟩ := fld_ok cl
            have fi : i < (fldN cl).length := (List.getElem?_eq_some_iff.mp fn').1
            refine ⟨a, C, dx, _, rfl, ea, cC, na, ?_, ?_⟩
            · rw [List.length_zip]; omega
            · have rd' := rd.mono s2
              obtain ⟨rp3, st3⟩ := rp2.put (o' := .ins cl (putD i d ds)) (u := .ins C dx (putF f y ((fldN cl).zip vs))) hn fun st => by
                unfold putD
                split
                · rename_i hl
                  refine ⟨C, dx, vs.set i y, ?_, hmg, (rds.set rd' i).mono st, by simpa using hlen⟩
                  rw [upd_same, zip_put nd fn' (by rw [← rds.length]; exact hl)]
                · rename_i hl
                  have e : i = vs.length := by rw [← rds.length]; omega
                  refine ⟨C, dx, vs ++ [y], ?_, hmg, (rds.append (.cons rd' .nil)).mono st, by rw [List.length_append, rds.length, ← e]; simp only [List.length_cons, List.length_nil]; omega⟩
                  rw [upd_same, zip_more nd (by rw [← e]; exact fn')]
              exact P2 _ _ _ st3 (rs2.mono st3) rp3
          · exact P2.elim
        · exact P2.elim
      · exact P2.elim
    · exact P2.elim
theorem st_ret (ie : ∀ {e : E}, e.need X.prog X.w X.K X.mg X.base k → Snd X N sc c W e) {e : E} (n : e.need X.prog X.w X.K X.mg X.base k) : Sts X N sc c W (.ret e) := by
  refine .one (fun sts => by cases sts <;> rfl) fun st h => ?_
  cases st <;> first | (simp only [chkS] at h; cases h; done) | skip
  rename_i x pos
  cases x with
  | none => simp only [chkS] at h; cases h
  | some x =>
    simp only [chkS] at h
    refine PSimp (ps_ret ((ie n).pe x h)) fun D σ H q => ?_
    obtain ⟨ρ, σ3, hh, rs, rp, P⟩ := q
    refine ⟨ρ, σ3, hh, rs, rp, (PostS.out (RA := RV X.K) (r := (den e).v σ3 hh) P rs).imp fun v H1 ⟨ρ1, d, h1, s1, rp1, rd, _, P1⟩ => ?_⟩
    exact P1 ρ1 H1 v (Step.refl _ _) rp1 rd
theorem st_ife (ie : ∀ {e : E}, e.need X.prog X.w X.K X.mg X.base k → Snd X N sc c W e) {e : E} {t u : S} (n : e.need X.prog X.w X.K X.mg X.base k) (it : Sts X N sc c W t) (iu : Sts X N sc c W u) : Sts X N sc c W (.ife e t u) := by
  refine .one (fun sts => by cases sts <;> rfl) fun st h => ?_
  cases st <;> first | (simp only [chkS] at h; cases h; done) | skip
  rename_i x a b pos
  simp only [chkS, Bool.and_eq_true] at h
  refine PSimp (ps_if ((ie n).pt x h.1.1) (it.pb a h.1.2) (iu.pb b h.2)) fun D σ H q => ?_
  obtain ⟨ρ, σ3, hh, rs, rp, P⟩ := q
  refine ⟨ρ, σ3, hh, rs, rp, (PostS.out (RA := RQ) (r := (den e).t σ3 hh) P rs).imp fun kk H1 ⟨ρ1, d, h1, s1, rp1, ek, _, P1⟩ => ?_⟩
  subst ek
  cases d with
  | true => rw [if_pos rfl] at P1 ⊢; exact ⟨ρ1, σ3, h1, rs.mono s1, rp1, P1⟩
  | false => rw [if_neg Bool.false_ne_true] at P1 ⊢; exact ⟨ρ1, σ3, h1, rs.mono s1, rp1, P1⟩
theorem st_whl (hp : c = true → PassesOwn (model X.prog X.w) X.A X.env X.xe) (ie : ∀ {e : E}, e.need X.prog X.w X.K X.mg X.base k → Snd X N sc c W e) {e : E} {b : S} (n : e.need X.prog X.w X.K X.mg X.base k) (ib : Sts X N sc c W b) : Sts X N sc c W (.whl e b) := by
  refine .one (fun sts => by cases sts <;> rfl) fun st h => ?_
  cases st <;> first | (simp only [chkS] at h; cases h; done) | skip
  rename_i x body orelse pos
  cases orelse with
  | cons _ _ => simp only [chkS] at h; cases h
  | nil =>
    simp only [chkS, Bool.and_eq_true] at h
    refine PSimp (ps_while (hp h.1.1) ((ie n).pt x h.1.2) (ib.pb body h.2)) fun D σ H q => ?_
    obtain ⟨ρ, σ3, hh, rs, rp, P⟩ := q
    obtain ⟨m, hm⟩ : ∃ m, PostS X.K X.mg ρ H W (iter (den e).t (exec b) m σ3 hh) D := by
      have P' : PostS X.K X.mg ρ H W (whlR (den e).t (exec b) σ3 hh) D := P
      unfold whlR at P'
      split at P'
      · exact ⟨_, P'⟩
      · exact P'.elim
    refine ⟨fun m σ H => ∃ ρ σ3 h, RS X.K ρ H σ3 σ ∧ Rep X.K X.mg ρ h H ∧ PostS X.K X.mg ρ H W (iter (den e).t (exec b) m σ3 h) D, ⟨m, ρ, σ3, hh, rs, rp, hm⟩, ?_⟩
    rintro m σ H ⟨ρ, σ3, hh, rs, rp, P⟩
    cases m with
    | zero => exact P.elim
    | succ m =>
      refine ⟨ρ, σ3, hh, rs, rp, (PostS.out (RA := RQ) (r := (den e).t σ3 hh) P rs).imp fun kk H1 ⟨ρ1, d, h1, s1, rp1, ek, _, P1⟩ => ?_⟩
      subst ek
      cases d with
      | true =>
        rw [if_pos rfl] at P1 ⊢
        exact ⟨_, fun σ' H' z => ⟨m, Nat.lt_succ_self _, z⟩, ρ1, σ3, h1, rs.mono s1, rp1, P1.turn fun σ' H' z => z⟩
      | false => rw [if_neg Bool.false_ne_true] at P1 ⊢; exact P1.nx (rs.mono s1) rp1
theorem st_fr (G : Gx X N sc k c) (hf : ∀ x, X.fn x = true) (hp : c = true → PassesOwn (model X.prog X.w) X.A X.env X.xe) (ie : ∀ {e : E}, e.need X.prog X.w X.K X.mg X.base k → Snd X N sc c W e) {g : Tg} {it : E} {b : S} (n : it.need X.prog X.w X.K X.mg X.base k) (ib : Sts X N sc c W b) : Sts X N sc c W (.fr g it b) := by
  refine .one (fun sts => by cases sts <;> rfl) fun st h => ?_
  cases st <;> first | (simp only [chkS] at h; cases h; done) | skip
  rename_i tg iter body orelse pos
  cases orelse with
  | cons _ _ => simp only [chkS] at h; cases h
  | nil =>
    simp only [chkS, Bool.and_eq_true, Bool.not_eq_true'] at h
    obtain ⟨⟨⟨⟨⟨hc, hq⟩, h1⟩, h2⟩, h3⟩, h4⟩ := h
    have hq' : it.tupIt = true → tupB tg = true := fun z => by rw [z] at hq; simpa using hq
    refine PSimp (ps_for (hp hc) (G.run hc).1 ((ie n).pi tg iter hq' h2) ((pg_all G (fb := allF) (fun x _ => hf x) (G.run hc).1 g).1 _ h1) (ib.pb body h4) (fold_plain h3)) fun D σ H q => ?_
    obtain ⟨ρ, σ3, hh, rs, rp, P⟩ := q
    refine ⟨ρ, σ3, hh, rs, rp, (PostS.out (RA := Wk X.K X.mg) (r := (den it).i σ3 hh) P rs).imp fun J H1 ⟨ρ1, s, h1, s1, rp1, wk, _, P1⟩ => ?_⟩
    refine ⟨fun i m σ H => m = s.1.length - i ∧ i ≤ s.1.length ∧ ∃ ρ σ3 h, Step ρ1 H1 ρ H ∧ RS X.K ρ H σ3 σ ∧ Rep X.K X.mg ρ h H ∧ PostS X.K X.mg ρ H W (forR g (exec b) s.2 (s.1.drop i) σ3 h) D,
      ⟨_, rfl, Nat.zero_le _, ρ1, σ3, h1, Step.refl _ _, rs.mono s1, rp1, P1⟩, ?_⟩
    rintro i m σ H ⟨rfl, hi, ρ, σ3, hh, st, rs, rp, P⟩
    by_cases hlt : i < s.1.length
    · obtain ⟨d, hd⟩ : ∃ d, s.1[i]? = some d := ⟨_, List.getElem?_eq_getElem hlt⟩
      have ed : s.1.drop i = d :: s.1.drop (i + 1) := by
        rw [List.drop_eq_getElem_cons hlt]
        rw [List.getElem?_eq_getElem hlt] at hd
        rw [Option.some.inj hd]
      rw [ed] at P
      unfold forR at P
      split at P
      · rename_i gd
        split at P
        · exact P.elim
        · rename_i σ4 ea
          obtain ⟨w1, w2⟩ := (wk i ρ H hh st rp gd).1 d hd
          refine .inr ⟨w1, fun σ' H' => ∃ ρ σ3 h, Step ρ1 H1 ρ H' ∧ RS X.K ρ H' σ3 σ' ∧ Rep X.K X.mg ρ h H' ∧ PostS X.K X.mg ρ H' W (forR g (exec b) s.2 (s.1.drop (i + 1)) σ3 h) D,
            fun σ' H' z => ⟨_, by omega, rfl, hlt, z⟩, fun x H3 y => ?_⟩
          obtain ⟨st3, rp3, rd⟩ := w2 x H3 y
          refine ⟨d, ρ, σ3, hh, rd, rs.mono st3, rp3, σ4, ea, fun σ' rs' _ _ => ⟨ρ, σ4, hh, rs', rp3, ?_⟩⟩
          have P' := PostS.from P st3
          -- the turn's end
          have key : ∀ {o : Out}, PostS X.K X.mg ρ H3 W (o.turn (forR g (exec b) s.2 (s.1.drop (i + 1)))) D → PostS X.K X.mg ρ H3 W o { D with
              nx := fun σ' H' => ∃ ρ σ3 h, Step ρ1 H1 ρ H' ∧ RS X.K ρ H' σ3 σ' ∧ Rep X.K X.mg ρ h H' ∧ PostS X.K X.mg ρ H' W (forR g (exec b) s.2 (s.1.drop (i + 1)) σ3 h) D,
              ct := fun σ' H' => ∃ ρ σ3 h, Step ρ1 H1 ρ H' ∧ RS X.K ρ H' σ3 σ' ∧ Rep X.K X.mg ρ h H' ∧ PostS X.K X.mg ρ H' W (forR g (exec b) s.2 (s.1.drop (i + 1)) σ3 h) D, bk := D.nx } := by
            intro o P
            cases o with
            | next σ5 h5 => exact fun ρ' H' σ s5 rs5 rp5 => ⟨ρ', σ5, h5, (st.trans st3).trans s5, rs5, rp5, PostS.from P s5⟩
            | cnt σ5 h5 => exact fun ρ' H' σ s5 rs5 rp5 => ⟨ρ', σ5, h5, (st.trans st3).trans s5, rs5, rp5, PostS.from P s5⟩
            | ret _ _ => exact P
            | brk _ _ => exact P
            | exc _ _ _ _ => exact P
            | bad => exact P
          exact key P'
      · exact P.elim
    · have ei : i = s.1.length := by omega
      subst ei
      rw [List.drop_length] at P
      unfold forR at P
      split at P
      · rename_i gd
        exact .inl ⟨(wk _ ρ H hh st rp gd).2 (Nat.le_refl _), P.nx rs rp⟩
      · exact P.elim
end
end L3

namespace L3
open PySem L2 PySem.W PyProof.Rows
def setO (v : Nat) (x : Option D) (o : Out) : Out := match o with
  | .next σ h => .next (σ.set v x) h
  | .brk σ h => .brk (σ.set v x) h
  | .cnt σ h => .cnt (σ.set v x) h
  | .exc c ds σ h => .exc c ds (σ.set v x) h
  | o => o
theorem set_swap {α : Type} (σ : List α) {i v : Nat} (x y : α) (h : i ≠ v) : (σ.set v x).set i y = (σ.set i y).set v x := List.set_comm _ _ (Ne.symm h)
theorem out_set {α : Type} (r : Res α) (σ : Sl) (v : Nat) (x : Option D) (f g : α → Hh → Out) (e : ∀ a h, r = .ok a h → f a h = setO v x (g a h)) : r.out (σ.set v x) f = setO v x (r.out (σ.set v none) g) := by
  cases r with
  | ok a h => exact e a h rfl
  | exc c ds h => simp [Res.out, setO]
  | bad => rfl
theorem out_next {α : Type} {r : Res α} {σ σ' : Sl} {h' : Hh} {g : α → Hh → Out} (e : r.out σ g = .next σ' h') : ∃ a h, r = .ok a h ∧ g a h = .next σ' h' := by
  cases r with
  | ok a h => exact ⟨a, h, rfl, e⟩
  | exc c ds h => cases e
  | bad => cases e
theorem next_keep {v : Nat} {c : Nat} {ds : List D} : ∀ (s : S), simS (some v) s = true → ∀ (σ : Sl) (h : Hh) (σ' : Sl) (h' : Hh), exec (fillS c ds s) (σ.set v none) h = .next σ' h' → ∃ σ0 : Sl, σ' = σ0.set v none ∧ σ0.length = σ.length := by
  intro s
  induction s with
  | nil => intro _ σ h σ' h' e; simp [fillS, exec] at e; exact ⟨σ, e.1.symm, rfl⟩
  | pass => intro _ σ h σ' h' e; simp [fillS, exec] at e; exact ⟨σ, e.1.symm, rfl⟩
  | brk => intro _ σ h σ' h' e; simp [fillS, exec] at e
  | cnt => intro _ σ h σ' h' e; simp [fillS, exec] at e
  | retN => intro _ σ h σ' h' e; simp [fillS, exec] at e
  | cons s r is ir =>
    intro hs σ h σ' h' e
    simp only [simS, Bool.and_eq_true] at hs
    simp only [fillS, exec] at e
    cases e1 : exec (fillS c ds s) (σ.set v none) h with
    | next σ1 h1 =>
      rw [e1] at e
      obtain ⟨σ0, rfl, l0⟩ := is hs.1 σ h σ1 h1 e1
      obtain ⟨σ2, e2, l2⟩ := ir hs.2 σ0 h1 σ' h' e
      exact ⟨σ2, e2, l2.trans l0⟩
    | _ => rw [e1] at e; cases e
  | expr e0 =>
    intro hs σ h σ' h' e
    simp only [fillS, exec] at e
    obtain ⟨_, _, _, e⟩ := out_next e
    cases e
    exact ⟨σ, rfl, rfl⟩
  | ret e0 =>
    intro hs σ h σ' h' e
    simp only [fillS, exec] at e
    obtain ⟨_, _, _, e⟩ := out_next e
    cases e
  | asg i e0 =>
    intro hs σ h σ' h' e
    simp only [simS, Bool.and_eq_true, Bool.not_eq_true', beq_eq_false_iff_ne, ne_eq, Option.some.injEq] at hs
    have hi : i ≠ v := fun z => hs.2 z.symm
    simp only [fillS, exec] at e
    obtain ⟨d, _, _, e⟩ := out_next e
    cases e
    exact ⟨σ.set i (some d), set_swap _ _ _ hi, by simp⟩
  | ife e0 t u it iu =>
    intro hs σ h σ' h' e
    simp only [simS, Bool.and_eq_true] at hs
    simp only [fillS, exec] at e
    obtain ⟨k, h1, _, e⟩ := out_next e
    cases k with
    | true => exact it hs.1.2 σ h1 σ' h' e
    | false => exact iu hs.2 σ h1 σ' h' e
  | _ => intro hs; cases hs
theorem runS_plus {v : Nat} {a dd : Addr} {c : Nat} {ds : List D} : ∀ (s : S), simS (some v) s = true → ∀ (σ : Sl) (h : Hh), v < σ.length →
    exec (plusS a dd c s) (σ.set v (some (.xcp a dd c ds))) h = setO v (some (.xcp a dd c ds)) (exec (fillS c ds s) (σ.set v none) h) := by
  intro s
  induction s with
  | nil => intro _ σ h _; simp [plusS, fillS, exec, setO]
  | pass => intro _ σ h _; simp [plusS, fillS, exec, setO]
  | brk => intro _ σ h _; simp [plusS, fillS, exec, setO]
  | cnt => intro _ σ h _; simp [plusS, fillS, exec, setO]
  | retN => intro _ σ h _; simp [plusS, fillS, exec, setO]
  | cons s r is ir =>
    intro hs σ h hv
    simp only [simS, Bool.and_eq_true] at hs
    simp only [plusS, fillS, exec]
    rw [is hs.1 σ h hv]
    cases e : exec (fillS c ds s) (σ.set v none) h with
    | next σ' h' =>
      obtain ⟨σ0, rfl, l0⟩ := next_keep s hs.1 σ h σ' h' e
      have := ir hs.2 σ0 h' (by omega)
      show exec (plusS a dd c r) ((σ0.set v none).set v _) h' = setO v _ (exec (fillS c ds r) (σ0.set v none) h')
      rw [List.set_set]
      exact this
    | _ => rfl
  | expr e =>
    intro hs σ h hv
    simp only [plusS, fillS, exec]
    rw [(run_plus hv e hs h).1]
    exact out_set _ _ _ _ _ _ fun _ _ _ => by simp [setO]
  | ret e =>
    intro hs σ h hv
    simp only [plusS, fillS, exec]
    rw [(run_plus hv e hs h).1]
    exact out_set _ _ _ _ _ _ fun _ _ _ => by simp [setO]
  | asg i e =>
    intro hs σ h hv
    simp only [simS, Bool.and_eq_true, Bool.not_eq_true', beq_eq_false_iff_ne, ne_eq, Option.some.injEq] at hs
    simp only [plusS, fillS, exec]
    rw [(run_plus hv e hs.1 h).1]
    refine out_set _ _ _ _ _ _ fun d _ _ => ?_
    have hi : i ≠ v := fun z => hs.2 z.symm
    simp only [setO, set_swap _ _ _ hi, List.set_set]
  | ife e t u it iu =>
    intro hs σ h hv
    simp only [simS, Bool.and_eq_true] at hs
    simp only [plusS, fillS, exec]
    rw [(run_plus hv e hs.1.1 h).2.1]
    refine out_set _ _ _ _ _ _ fun k h1 _ => ?_
    cases k with
    | true => exact it hs.1.2 σ h1 hv
    | false => exact iu hs.2 σ h1 hv
  | _ => intro hs; cases hs
theorem plusS_none {a dd : Addr} {c : Nat} {ds : List D} : ∀ (s : S), simS none s = true → plusS a dd c s = s ∧ fillS c ds s = s := by
  intro s
  induction s with
  | nil => exact fun _ => ⟨rfl, rfl⟩
  | pass => exact fun _ => ⟨rfl, rfl⟩
  | brk => exact fun _ => ⟨rfl, rfl⟩
  | cnt => exact fun _ => ⟨rfl, rfl⟩
  | retN => exact fun _ => ⟨rfl, rfl⟩
  | cons s r is ir => intro h; simp only [simS, Bool.and_eq_true] at h; simp only [plusS, fillS, (is h.1).1, (is h.1).2, (ir h.2).1, (ir h.2).2, and_self]
  | expr e => intro h; obtain ⟨h1, h2⟩ := plus_none (a := a) (dd := dd) (c := c) (ds := ds) e h; simp only [plusS, fillS, h1, h2, and_self]
  | ret e => intro h; obtain ⟨h1, h2⟩ := plus_none (a := a) (dd := dd) (c := c) (ds := ds) e h; simp only [plusS, fillS, h1, h2, and_self]
  | asg i e => intro h; simp only [simS, Bool.and_eq_true] at h; obtain ⟨h1, h2⟩ := plus_none (a := a) (dd := dd) (c := c) (ds := ds) e h.1; simp only [plusS, fillS, h1, h2, and_self]
  | ife e t u it iu => intro h; simp only [simS, Bool.and_eq_true] at h; obtain ⟨h1, h2⟩ := plus_none (a := a) (dd := dd) (c := c) (ds := ds) e h.1.1; simp only [plusS, fillS, h1, h2, (it h.1.2).1, (it h.1.2).2, (iu h.2).1, (iu h.2).2, and_self]
  | _ => intro h; cases h
section
variable {X : Cx} {N : List Str} {sc : Scope} {k : Nat} {a dd : Addr} {c : Nat} {oe : Obj} {pn : List (Addr × Obj)} {W : WX}
theorem q_all (G : Gx X N sc k true) (hf : ∀ x, X.fn x = true) (S0 : Sx X a dd c oe) (v : Option Nat) : ∀ (s : S), simS v s = true → kinS X.mg s → s.need X.prog X.w X.K X.mg X.base k →
    (∀ st, chkQ N sc s st = true → PS (X.suite a ((a, oe) :: pn)) st (rS X.K X.mg (exec (plusS a dd c s)) W)) ∧ (∀ sts, chkQB N sc s sts = true → PSs (X.suite a ((a, oe) :: pn)) sts (rS X.K X.mg (exec (plusS a dd c s)) W)) := by
  have G' := G.suite a ((a, oe) :: pn)
  have ie : ∀ (e : E), simE v e = true → kinE X.mg e → e.need X.prog X.w X.K X.mg X.base k → Snd (X.suite a ((a, oe) :: pn)) N sc false W (plusE a dd c e) := sx_all G S0 v
  have ck : ∀ (e : E) (ast : Expr), simE v e = true → chk N sc false (plusE 0 0 0 e) ast = true → chk N sc false (plusE a dd c e) ast = true := fun e ast h1 h2 => by rw [(chk_plus v false a dd c e h1).1]; exact h2
  intro s
  induction s with
  | nil =>
    refine fun _ _ _ => ⟨fun st h => (by cases st <;> cases h), fun sts h => ?_⟩
    cases sts with
    | cons _ _ => cases h
    | nil => exact PSsimp pss_nil fun D σ H ⟨ρ, σ3, hh, rs, rp, P⟩ => P.nx rs rp
  | cons s r is ir =>
    intro hs m n
    simp only [simS, Bool.and_eq_true] at hs
    refine ⟨fun st h => (by cases st <;> cases h), fun sts h => ?_⟩
    cases sts with
    | nil => cases h
    | cons st sts =>
      simp only [chkQB, Bool.and_eq_true] at h
      refine PSsimp (pss_cons ((is hs.1 m.1 n.1).1 st h.1) ((ir hs.2 m.2 n.2).2 sts h.2)) fun D σ H ⟨ρ, σ3, hh, rs, rp, P⟩ => ?_
      exact ⟨ρ, σ3, hh, rs, rp, PostS.seq (o := exec (plusS a dd c s) σ3 hh) P⟩
  | pass =>
    refine fun _ _ _ => ⟨fun st h => ?_, fun sts h => by cases sts <;> cases h⟩
    cases st <;> first | (simp only [chkQ] at h; cases h; done) | skip
    exact PSimp ps_pass fun D σ H ⟨ρ, σ3, hh, rs, rp, P⟩ => P.nx rs rp
  | brk =>
    refine fun _ _ _ => ⟨fun st h => ?_, fun sts h => by cases sts <;> cases h⟩
    cases st <;> first | (simp only [chkQ] at h; cases h; done) | skip
    exact PSimp ps_break fun D σ H ⟨ρ, σ3, hh, rs, rp, P⟩ => P ρ H σ (Step.refl _ _) rs rp
  | cnt =>
    refine fun _ _ _ => ⟨fun st h => ?_, fun sts h => by cases sts <;> cases h⟩
    cases st <;> first | (simp only [chkQ] at h; cases h; done) | skip
    exact PSimp ps_continue fun D σ H ⟨ρ, σ3, hh, rs, rp, P⟩ => P ρ H σ (Step.refl _ _) rs rp
  | retN =>
    refine fun _ _ _ => ⟨fun st h => ?_, fun sts h => by cases sts <;> cases h⟩
    cases st <;> first | (simp only [chkQ] at h; cases h; done) | skip
    rename_i x pos
    cases x with
    | some _ => simp only [chkQ] at h; cases h
    | none => exact PSimp ps_retN fun D σ H ⟨ρ, σ3, hh, rs, rp, P⟩ => P ρ H .non (Step.refl _ _) rp .non
  | expr e =>
    refine fun hs m n => ⟨fun st h => ?_, fun sts h => by cases sts <;> cases h⟩
    cases st <;> first | (simp only [chkQ] at h; cases h; done) | skip
    rename_i x pos
    simp only [chkQ, Bool.and_eq_true, Bool.not_eq_true'] at h
    refine PSimp (ps_expr ((ie e hs m n).pe x (ck e x hs h.1)) (sw_plain h.2)) fun D σ H q => ?_
    obtain ⟨ρ, σ3, hh, rs, rp, P⟩ := q
    refine ⟨ρ, σ3, hh, rs, rp, (PostS.out (RA := RV X.K) (r := (den (plusE a dd c e)).v σ3 hh) P rs).imp fun v H1 ⟨ρ1, d, h1, s1, rp1, rd, _, P1⟩ => ?_⟩
    exact P1.nx (rs.mono s1) rp1
  | ret e =>
    refine fun hs m n => ⟨fun st h => ?_, fun sts h => by cases sts <;> cases h⟩
    cases st <;> first | (simp only [chkQ] at h; cases h; done) | skip
    rename_i x pos
    cases x with
    | none => simp only [chkQ] at h; cases h
    | some x =>
      simp only [chkQ] at h
      refine PSimp (ps_ret ((ie e hs m n).pe x (ck e x hs h))) fun D σ H q => ?_
      obtain ⟨ρ, σ3, hh, rs, rp, P⟩ := q
      refine ⟨ρ, σ3, hh, rs, rp, (PostS.out (RA := RV X.K) (r := (den (plusE a dd c e)).v σ3 hh) P rs).imp fun v H1 ⟨ρ1, d, h1, s1, rp1, rd, _, P1⟩ => ?_⟩
      exact P1 ρ1 H1 v (Step.refl _ _) rp1 rd
  | asg i e =>
    intro hs m n
    simp only [simS, Bool.and_eq_true] at hs
    refine ⟨fun st h => ?_, fun sts h => by cases sts <;> cases h⟩
    cases st <;> first | (simp only [chkQ] at h; cases h; done) | skip
    rename_i ts v pos
    simp only [chkQ] at h
    cases q : oneName ts with
    | none => rw [q] at h; cases h
    | some t =>
      obtain ⟨x, px⟩ := t
      rw [q] at h
      obtain rfl := oneName_eq q
      simp only [Bool.and_eq_true, Bool.not_eq_true'] at h
      obtain ⟨⟨⟨h1, h2⟩, h3⟩, sw⟩ := h
      obtain ⟨l1, l2, l3⟩ := G'.loc (fun x _ => hf x) h1
      have nd : (X.suite a ((a, oe) :: pn)).N.Nodup := by show X.N.Nodup; rw [G.hN]; exact G.nd
      refine PSimp (ps_set (i := i) nd l1 l2 ((ie e hs.1 m n).pe v (ck e v hs.1 h2)) (sw_not G'.hsc h3 sw) l3) fun D σ H q => ?_
      obtain ⟨ρ, σ3, hh, rs, rp, P⟩ := q
      refine ⟨ρ, σ3, hh, rs, rp, (PostS.out (RA := RV X.K) (r := (den (plusE a dd c e)).v σ3 hh) P rs).imp fun v H1 ⟨ρ1, d, h1, s1, rp1, rd, _, P1⟩ => ?_⟩
      exact P1.nx ((rs.mono s1).set rd i) rp1
  | ife e t u it iu =>
    intro hs m n
    simp only [simS, Bool.and_eq_true] at hs
    refine ⟨fun st h => ?_, fun sts h => by cases sts <;> cases h⟩
    cases st <;> first | (simp only [chkQ] at h; cases h; done) | skip
    rename_i x p q pos
    simp only [chkQ, Bool.and_eq_true] at h
    refine PSimp (ps_if ((ie e hs.1.1 m.1 n.1).pt x (ck e x hs.1.1 h.1.1)) ((it hs.1.2 m.2.1 n.2.1).2 p h.1.2) ((iu hs.2 m.2.2 n.2.2).2 q h.2)) fun D σ H q => ?_
    obtain ⟨ρ, σ3, hh, rs, rp, P⟩ := q
    refine ⟨ρ, σ3, hh, rs, rp, (PostS.out (RA := RQ) (r := (den (plusE a dd c e)).t σ3 hh) P rs).imp fun kk H1 ⟨ρ1, d, h1, s1, rp1, ek, _, P1⟩ => ?_⟩
    subst ek
    cases d with
    | true => rw [if_pos rfl] at P1 ⊢; exact ⟨ρ1, σ3, h1, rs.mono s1, rp1, P1⟩
    | false => rw [if_neg Bool.false_ne_true] at P1 ⊢; exact ⟨ρ1, σ3, h1, rs.mono s1, rp1, P1⟩
  | _ => intro hs; cases hs
end
end L3

namespace L3
open PySem L2 PySem.W PyProof.Rows
section
variable {X : Cx} {N : List Str} {sc : Scope} {k : Nat} {c : Bool} {W : WX}
theorem st_rais (G : Gx X N sc k c) (tk : Takes X W) {cl : Nat} {b : List Ar} {es : E} (ra : Rai X.prog X.w X.K X.mg X.base k cl es.alen b) (ie : Snd X N sc c W es) : Sts X N sc c W (.rais cl b es) := by
  refine .one (fun sts => by cases sts <;> rfl) fun st h => ?_
  cases st <;> first | (simp only [chkS] at h; cases h; done) | skip
  rename_i ex cause pos
  cases ex with
  | none => simp only [chkS] at h; cases h
  | some ex =>
    cases ex <;> first | (simp only [chkS] at h; cases h; done) | skip
    rename_i fe args kws cp
    cases fe <;> first | (simp only [chkS] at h; cases h; done) | skip
    rename_i y p
    cases kws with
    | cons _ _ => simp only [chkS] at h; cases h
    | nil =>
      cases cause with
      | some _ => simp only [chkS] at h; cases h
      | none =>
        simp only [chkS, Bool.and_eq_true, decide_eq_true_eq] at h
        obtain ⟨⟨⟨⟨⟨rfl, h1⟩, h2⟩, h3⟩, h4⟩, h5⟩ := h
        refine PSimp (ps_raise (G.run rfl).1 tk (pmk_any G tk ra ie h1 h2 h3 h4 h5)) fun D σ H q => ?_
        obtain ⟨ρ, σ3, hh, rs, rp, P⟩ := q
        refine ⟨ρ, σ3, hh, rs, rp, (PostS.out (RA := RL X.K) (r := (den es).a σ3 hh) P rs).imp fun vs H1 ⟨ρ1, ds, h1, s1, rp1, rd, e, P1⟩ => ?_⟩
        unfold raisR at P1
        split at P1
        · rename_i xs hx
          exact ⟨ρ1, ds, h1, s1, rp1, rd, e, xs, hx, fun ρ' H' cls dd st rp' x => P1 ρ' H' cls dd σ st ((rs.mono s1).mono st) rp' x⟩
        · exact P1.elim
def setOv (v : Option Nat) (x : D) (o : Out) : Out := match v with
  | some i => setO i (some x) o
  | none => o
def unV (v : Option Nat) (σ : L2.St) : L2.St := match v with
  | some i => σ.set i none
  | none => σ
/-- what a clause's suite is wanted to do -/
def tSu (X : Cx) (W : WX) (v : Option Nat) (s0 : S) (a : Addr) (cls : Value) (d : Option Addr) : TS := fun D σ H => ∃ (c : Nat) (ds : List L3.D) (dd C : Addr) (ρ : List Addr) (σ3 : Sl) (h : Hh) (σ0 : L2.St) (vfs : List (Str × V)), cls = .ref C ∧ X.mg (clsN c) = some (.ref C) ∧ d = some dd ∧ subN c "BaseException" = true ∧ σ = setA v a σ0 ∧
  RS X.K ρ H σ3 σ0 ∧ Rep X.K X.mg ρ h H ∧ H dd = some (.xd vfs) ∧ RXs X.K ρ H (fldN c) ds vfs ∧ PostS X.K X.mg ρ H (fun cls d σ H => W cls d (unV v σ) H) (setOv v (.xcp a dd c ds) (exec (fillS c ds s0) (unsetD v σ3) h)) D
inductive HL (X : Cx) (W : WX) : S → List HSp → Prop
  | nil : HL X W .nil []
  | cons {cs : List String} {v : Option Nat} {f : Nat → List L3.D → S} {r : S} {cv : List Value} {l : List HSp} (hx : ∀ (c : Nat) (C : Addr), X.mg (clsN c) = some (.ref C) → subN c "BaseException" = true → exmAny X.K (.ref C) cv = some (cs.any fun x => subN c x))
      (hfl : ∀ c ds, flDs ds = true → f c ds = fillS c ds (f 0 [])) (rr : HL X W r l) : HL X W (.cons (.hnd cs v f) r) ((cv, v, tSu X W v (f 0 [])) :: l)
theorem xr_rxs {K : PySem.W.Frag} {ρ : List Addr} {H : Hp} {vfs : List (Str × V)} : ∀ {fl : List Str} {ds : List D}, ds.length ≤ fl.length → (∀ (i : Nat) (f : Str) (x : D), fl[i]? = some f → ds[i]? = some x → ∃ v, vfs.lookup f = some v ∧ RD K ρ H x v) → RXs K ρ H fl ds vfs
  | _, [], _, _ => .nil
  | [], _ :: _, l, _ => by simp at l
  | f :: fl, d :: ds, l, h => by
    obtain ⟨v, e, r⟩ := h 0 f d rfl rfl
    exact .cons e r (xr_rxs (by simpa using l) fun i f' x e1 e2 => h (i + 1) f' x (by simpa using e1) (by simpa using e2))
theorem post_unset {K : PySem.W.Frag} {mg : Str → Option Value} {ρ : List Addr} {H : Hp} {D : Ends} {v : Option Nat} {x : L3.D} {o : Out} (P : PostS K mg ρ H W (o.unset v) D) : PostS K mg ρ H (fun cls d σ H => W cls d (unV v σ) H) (setOv v x o) (unD v D) := by
  cases v with
  | none =>
    cases o with
    | next σ h => exact P
    | ret d h => exact P
    | brk σ h => exact P
    | cnt σ h => exact P
    | exc c ds σ h => exact P
    | bad => exact P
  | some i =>
    have key : ∀ {ρ' : List Addr} {H' : Hp} {σ3 : Sl} {σ : L2.St}, RS K ρ' H' (σ3.set i (some x)) σ → RS K ρ' H' (σ3.set i none) (σ.set i none) := fun {ρ' H' σ3 σ} rs => by
      have := rs.unset i
      rwa [List.set_set] at this
    cases o with
    | next σ h => exact fun ρ' H' σ st rs rp => P ρ' H' _ st (key rs) rp
    | ret d h => exact P
    | brk σ h => exact fun ρ' H' σ st rs rp => P ρ' H' _ st (key rs) rp
    | cnt σ h => exact fun ρ' H' σ st rs rp => P ρ' H' _ st (key rs) rp
    | exc c ds σ h => exact fun ρ' H' cls dd σ st rs rp xr => P ρ' H' cls dd _ st (key rs) rp xr
    | bad => exact P
theorem hl_wish {D : Ends} : ∀ {hs : S} {l : List HSp}, HL X W hs l → ∀ {c : Nat} {ds : List L3.D} {σ3 : Sl} {h : Hh} {ρ : List Addr} {H : Hp} {cls : Value} {d : Option Addr} {σ : L2.St}, flDs ds = true → PostS X.K X.mg ρ H W (execH hs c ds σ3 h) D → RS X.K ρ H σ3 σ → Rep X.K X.mg ρ h H → XR X.K X.mg ρ H c ds cls d → wH X.K W D l cls d σ H := by
  intro hs l hl
  induction hl with
  | nil =>
    intro c ds σ3 h ρ H cls d σ _ P rs rp x
    exact P ρ H cls d σ (Step.refl _ _) rs rp x
  | @cons cs v f r cv l hx hfl rr ih =>
    intro c ds σ3 h ρ H cls d σ hfd P rs rp x
    obtain ⟨hb, hlen, C, dd, vfs, rfl, hm, rfl, hd, hf⟩ := id x
    refine ⟨_, hx c C hm hb, fun e a na => ?_, fun e => ?_⟩
    · have P' : PostS X.K X.mg ρ H W ((exec (f c ds) (unsetD v σ3) h).unset v) D := by
        have P0 := P
        unfold execH at P0
        rw [if_pos e] at P0
        exact P0
      rw [hfl c ds hfd] at P'
      exact ⟨c, ds, dd, C, ρ, σ3, h, σ, vfs, rfl, hm, rfl, hb, rfl, rs, rp, hd, xr_rxs hlen hf, post_unset P'⟩
    · have P' : PostS X.K X.mg ρ H W (execH r c ds σ3 h) D := by
        have P0 := P
        unfold execH at P0
        rw [if_neg (by rw [e]; decide)] at P0
        exact P0
      exact ih hfd P' rs rp x
/-- the classes that a clause names -/
theorem own_names {cs : List String} (al : XAll X.K X.mg) (G : Gx X N sc k c) : ∀ {cs : List String} {es : List Expr}, tyB.tysB sc cs es = true → (∀ x ∈ cs, (bltX.contains x = true ∨ (X.mg (Str.ofString x) ≠ none ∧ ∃ p ∈ clsTab, p.1 = x ∧ p.2.2.contains "BaseException" = true))) →
    ∃ Cs : List Addr, NmsOk X es Cs ∧ Cs.length = cs.length ∧ ∀ (c : Nat) (C : Addr), X.mg (clsN c) = some (.ref C) → subN c "BaseException" = true → exmAny X.K (.ref C) (Cs.map .ref) = some (cs.any fun x => subN c x)
  | [], [], _, _ => ⟨[], .nil, rfl, fun _ _ _ _ => rfl⟩
  | [], _ :: _, h, _ => by simp [tyB.tysB] at h
  | _ :: _, [], h, _ => by simp [tyB.tysB] at h
  | x :: cs, e :: es, h, hn => by
    cases e <;> first | (simp [tyB.tysB] at h; done) | skip
    rename_i y py
    simp only [tyB.tysB, Bool.and_eq_true, decide_eq_true_eq, Bool.not_eq_true'] at h
    obtain ⟨⟨⟨rfl, h1⟩, h2⟩, h3⟩ := h
    obtain ⟨Cs, n1, n2, n3⟩ := own_names (cs := cs) al G h3 fun z hz => hn z (by simp [hz])
    obtain ⟨g1, g2, g3⟩ := G.glob h1
    rcases hn x (by simp) with hb | ⟨hm, p, hp, rfl, hbe⟩
    · rw [h2] at hb; cases hb
    · rcases al.2.2.2 p hp hbe with h0 | ⟨C', hC'⟩
      · exact absurd h0 hm
      · refine ⟨C' :: Cs, .cons g1 g2 hC' n1, by simp [n2], fun c C hc hb => ?_⟩
        have e1 := ((al.1 c C hc hb).ow p C' hp hbe hC').1
        have e2 := n3 c C hc hb
        rw [List.map_cons, exmAny, e1, e2]
        rfl
theorem tyX_ok {cs : List String} {ty : Expr} (al : XAll X.K X.mg) (G : Gx X N sc k c) (h : tyB sc cs ty = true) (hn : ∀ x ∈ cs, (bltX.contains x = true ∨ (X.mg (Str.ofString x) ≠ none ∧ ∃ p ∈ clsTab, p.1 = x ∧ p.2.2.contains "BaseException" = true))) :
    ∃ cv : List Value, TyOk X ty cv ∧ ∀ (c : Nat) (C : Addr), X.mg (clsN c) = some (.ref C) → subN c "BaseException" = true → exmAny X.K (.ref C) cv = some (cs.any fun x => subN c x) := by
  cases ty <;> first | (simp only [tyB] at h; cases h; done) | skip
  · rename_i x px
    simp only [tyB, Bool.and_eq_true, decide_eq_true_eq, Bool.not_eq_true', List.isEmpty_eq_false_iff] at h
    obtain ⟨⟨h1, h2⟩, h3⟩ := h
    obtain ⟨g1, g2, g3⟩ := G.glob h3
    match cs, h1, h2, hn with
    | [], _, h2, _ => exact absurd rfl h2
    | t :: t2 :: cs, h1, _, _ => simp at h1
    | [t], h1, _, hn =>
      have e : Str.ofString t = x := by simpa using h1
      subst e
      rcases hn t (by simp) with hb | ⟨hm, p, hp, rfl, hbe⟩
      · have ht : t ∈ bltX := by simpa using hb
        have hbt : bootBuiltins (Str.ofString t) = some (.type t) := by
          simp only [bltX, List.mem_cons, List.not_mem_nil, or_false] at ht
          rcases ht with rfl | rfl | rfl | rfl | rfl | rfl <;> decide +kernel
        refine ⟨[.type t], .one ⟨g1, g2, .inr ⟨al.2.1 t ht, hbt, g3⟩⟩, fun c C hc hb => ?_⟩
        have e1 := ((al.1 c C hc hb).bt t ht).1
        simp [exmAny, e1]
      · rcases al.2.2.2 p hp hbe with h0 | ⟨C', hC'⟩
        · exact absurd h0 hm
        · refine ⟨[.ref C'], .one ⟨g1, g2, .inl hC'⟩, fun c C hc hb => ?_⟩
          have e1 := ((al.1 c C hc hb).ow p C' hp hbe hC').1
          simp [exmAny, e1]
  · rename_i es kk p
    simp only [tyB, Bool.and_eq_true, decide_eq_true_eq] at h
    obtain ⟨⟨h1, h2⟩, h3⟩ := h
    obtain ⟨Cs, n1, n2, n3⟩ := own_names (cs := cs) al G h3 hn
    exact ⟨_, .many n1 (by omega) (by omega), n3⟩
theorem su_ok (G : Gx X N sc k true) (hf : ∀ x, X.fn x = true) (al : XAll X.K X.mg) {v : Option Nat} {n : Option Str} (hv : asB N sc v n = true) {s0 : S} (hs : simS v s0 = true) (hk : kinS X.mg s0) (hn : s0.need X.prog X.w X.K X.mg X.base k) {sts : List Stmt} (hc : chkQB N sc s0 sts = true)
    (a : Addr) (oe : Obj) (cls : Value) (d : Option Addr) (pn : List (Addr × Obj)) (hz : Zc cls d oe) (hfl : ∃ vs, oe.data = .fields vs) : PSs (X.suite a ((a, oe) :: pn)) sts (tSu X W v s0 a cls d) := by
  refine ⟨fun pins s σ H D I q => ?_⟩
  obtain ⟨c, ds, dd, C, ρ, σ3, h, σ0, vfs, rfl, hm, rfl, hb, rfl, rs, rp, hd, rx, P⟩ := q
  have S0 : Sx X a dd c oe := ⟨⟨C, hm, hz⟩, hfl, hb, al⟩
  refine ((q_all (pn := pn) (W := fun cls d σ H => W cls d (unV v σ) H) G hf S0 v s0 hs hk hn).2 sts hc).run pins s _ H D I ?_
  cases v with
  | none =>
    obtain ⟨e1, e2⟩ := plusS_none (a := a) (dd := dd) (c := c) (ds := ds) s0 hs
    rw [e2] at P
    rw [e1]
    exact ⟨ρ, σ3, h, rs, rp, P⟩
  | some i =>
    cases n with
    | none => cases hv
    | some n =>
      simp only [asB, Bool.and_eq_true, decide_eq_true_eq] at hv
      have hl : i < σ3.length := by
        have e1 := I.len
        have e2 : (setA (some i) a σ0).length = X.N.length := e1
        have e3 : σ0.length = X.N.length := by simpa [setA] using e2
        rw [rs.len, e3, G.hN]
        exact (List.getElem?_eq_some_iff.mp hv.1).1
      refine ⟨ρ, σ3.set i (some (.xcp a dd c ds)), h, rs.set (.xcp hd rx) i, rp, ?_⟩
      rw [runS_plus s0 hs σ3 h hl]
      exact P
theorem hl_of (G : Gx X N sc k true) (hf : ∀ x, X.fn x = true) (al : XAll X.K X.mg) : ∀ {hs : S} {hds : List ExceptHandler}, chkH N sc hs hds = true → hs.need X.prog X.w X.K X.mg X.base k → ∃ l, HOk X hds l ∧ HL X W hs l := by
  intro hs
  induction hs with
  | nil =>
    intro hds h n
    cases hds with
    | nil => exact ⟨[], .nil, .nil⟩
    | cons _ _ => simp [chkH] at h
  | cons s r is ir =>
    intro hds h n
    cases s <;> first | (simp [chkH] at h; done) | skip
    rename_i cs v f
    match hds, h with
    | [], h => simp [chkH] at h
    | .ExceptHandler none _ _ _ :: _, h => simp [chkH] at h
    | .ExceptHandler (some ty) n' [] _ :: _, h => simp [chkH] at h
    | .ExceptHandler (some ty) n' (b0 :: suite) pos :: hds, h =>
      simp only [chkH, Bool.and_eq_true] at h
      obtain ⟨⟨⟨⟨h1, h2⟩, h3⟩, h4⟩, h5⟩ := h
      obtain ⟨⟨n1, n2, n3, n4⟩, nr⟩ := n
      obtain ⟨l, o1, o2⟩ := ir h5 nr
      obtain ⟨cv, t1, t2⟩ := tyX_ok al G h1 n4
      have hv : AsOk X v n' := by
        unfold asB at h2
        split at h2
        · trivial
        · simp only [Bool.and_eq_true, decide_eq_true_eq] at h2
          refine ⟨by rw [G.hN]; exact h2.1, ?_⟩
          have h3 := h2.2
          show X.env.scope.names.lookup _ = _
          rw [G.hsc]
          split at h3
          · assumption
          · cases h3
        · cases h2
      exact ⟨_, .cons t1 hv (fun a oe cls d pn hz hfl => su_ok G hf al h2 h3 n3 n2 h4 a oe cls d pn hz hfl) o1, .cons t2 n1 o2⟩
  | _ => intro hds h n; cases hds <;> simp [chkH] at h
/-- EVERY STATEMENT -/
theorem st_all : ∀ (s : S) {X : Cx} {W : WX}, Gx X N sc k c → Takes X W → (∀ x, X.fn x = true) → (c = true → PassesOwn (model X.prog X.w) X.A X.env X.xe) → X.stack = X.env :: X.outer → X.env.frame = some X.env.locals → s.need X.prog X.w X.K X.mg X.base k → Sts X N sc c W s := by
  have ie : ∀ {X : Cx} {W : WX} {e : E}, Gx X N sc k c → Takes X W → e.need X.prog X.w X.K X.mg X.base k → Snd X N sc c W e := fun {X W e} G tk n => snd_all e G tk n
  have i2 : ∀ {X : Cx} {e : E} (G : Gx X N sc k c) scope s H C cl fp, e.need X.prog X.w X.K X.mg X.base k → Snd (X.blk s H scope (compEnvC scope cl C X.env) fp) N (relS scope sc) c WF e := fun {X e} G scope s H C cl fp n => snd_all e (G.blk scope s H C cl fp) takes0 n
  intro s
  induction s with
  | nil =>
    refine fun G tk hf hp hs hfr _ => ⟨fun st h => (by cases st <;> cases h), fun sts h => ?_⟩
    cases sts with
    | cons _ _ => cases h
    | nil => exact PSsimp pss_nil fun D σ H ⟨ρ, σ3, hh, rs, rp, P⟩ => P.nx rs rp
  | cons s r is ir =>
    refine fun G tk hf hp hs hfr n => ⟨fun st h => (by cases st <;> cases h), fun sts h => ?_⟩
    cases sts with
    | nil => cases h
    | cons st sts =>
      simp only [chkB, Bool.and_eq_true] at h
      refine PSsimp (pss_cons ((is G tk hf hp hs hfr n.1).ps st h.1) ((ir G tk hf hp hs hfr n.2).pb sts h.2)) fun D σ H ⟨ρ, σ3, hh, rs, rp, P⟩ => ?_
      exact ⟨ρ, σ3, hh, rs, rp, PostS.seq (o := exec s σ3 hh) P⟩
  | pass =>
    refine fun G tk hf hp hs hfr _ => .one (fun sts => by cases sts <;> rfl) fun st h => ?_
    cases st <;> first | (simp only [chkS] at h; cases h; done) | skip
    exact PSimp ps_pass fun D σ H ⟨ρ, σ3, hh, rs, rp, P⟩ => P.nx rs rp
  | expr e => exact fun G tk hf hp hs hfr n => st_expr (ie G tk) n
  | asg i e => exact fun G tk hf hp hs hfr n => st_asg G hf (ie G tk) (i2 G) n
  | par i j a b => exact fun G tk hf hp hs hfr n => st_par G (ie G tk) n.1 n.2
  | unp g e => exact fun G tk hf hp hs hfr n => st_unp G hf (ie G tk) n
  | sts o i e => exact fun G tk hf hp hs hfr n => st_sts (ie G tk) n.1 n.2.1 n.2.2
  | ret e => exact fun G tk hf hp hs hfr n => st_ret (ie G tk) n
  | retN =>
    refine fun G tk hf hp hs hfr _ => .one (fun sts => by cases sts <;> rfl) fun st h => ?_
    cases st <;> first | (simp only [chkS] at h; cases h; done) | skip
    rename_i x pos
    cases x with
    | some _ => simp only [chkS] at h; cases h
    | none => exact PSimp ps_retN fun D σ H ⟨ρ, σ3, hh, rs, rp, P⟩ => P ρ H .non (Step.refl _ _) rp .non
  | ife e t u it iu => exact fun G tk hf hp hs hfr n => st_ife (ie G tk) n.1 (it G tk hf hp hs hfr n.2.1) (iu G tk hf hp hs hfr n.2.2)
  | whl e b ib => exact fun G tk hf hp hs hfr n => st_whl hp (ie G tk) n.1 (ib G tk hf hp hs hfr n.2)
  | fr g it b ib => exact fun G tk hf hp hs hfr n => st_fr G hf hp (ie G tk) n.1 (ib G tk hf hp hs hfr n.2)
  | brk =>
    refine fun G tk hf hp hs hfr _ => .one (fun sts => by cases sts <;> rfl) fun st h => ?_
    cases st <;> first | (simp only [chkS] at h; cases h; done) | skip
    exact PSimp ps_break fun D σ H ⟨ρ, σ3, hh, rs, rp, P⟩ => P ρ H σ (Step.refl _ _) rs rp
  | cnt =>
    refine fun G tk hf hp hs hfr _ => .one (fun sts => by cases sts <;> rfl) fun st h => ?_
    cases st <;> first | (simp only [chkS] at h; cases h; done) | skip
    exact PSimp ps_continue fun D σ H ⟨ρ, σ3, hh, rs, rp, P⟩ => P ρ H σ (Step.refl _ _) rs rp
  | never =>
    refine fun G tk hf hp hs hfr _ => .one (fun sts => by cases sts <;> rfl) fun st h => ?_
    exact PSimp ps_never fun D σ H ⟨ρ, σ3, hh, rs, rp, P⟩ => P.elim
  | stf tb f o e => exact fun G tk hf hp hs hfr n => st_stf (ie G tk) n.1 n.2.1 n.2.2
  | rais cl b es => exact fun G tk hf hp hs hfr n => st_rais G tk n.1 (ie G tk n.2)
  | tr b hs ib _ =>
    refine fun G tk hf hp hst hfr n => .one (fun sts => by cases sts <;> rfl) fun st h => ?_
    rename_i X W
    cases st <;> first | (simp only [chkS] at h; cases h; done) | skip
    rename_i body hds orelse fin pos
    match hds, orelse, fin, h with
    | [], _, _, h => simp only [chkS] at h; cases h
    | _ :: _, _ :: _, _, h => simp only [chkS] at h; cases h
    | _ :: _, [], _ :: _, h => simp only [chkS] at h; cases h
    | h0 :: hds, [], [], h =>
      simp only [chkS, Bool.and_eq_true] at h
      obtain ⟨⟨rfl, h1⟩, h2⟩ := h
      obtain ⟨l, o1, o2⟩ := hl_of (W := W) G hf n.2.2 h2 n.2.1
      refine PSimp (ps_try_any (tb := fun W' => rS X.K X.mg (exec b) W') hst hfr (by rw [G.hN]; exact G.nd) tk (fun W' pn xe tk' pw => ?_) o1) fun D σ H q => ?_
      · exact (ib (X := X.tr pn xe) (W := W') ⟨G.hN, G.nd, G.hsc, G.un, fun h => G.run h⟩ tk' hf (fun _ => pw) hst hfr n.1).pb body h1
      · obtain ⟨ρ, σ3, hh, rs, rp, P⟩ := q
        refine ⟨ρ, σ3, hh, rs, rp, ?_⟩
        have P' : PostS X.K X.mg ρ H W ((exec b σ3 hh).catch fun c ds σ h => if flDs ds = true then execH hs c ds σ h else .bad) D := P
        cases e : exec b σ3 hh with
        | next σ' h' => rw [e] at P'; exact P'
        | ret d h' => rw [e] at P'; exact P'
        | brk σ' h' => rw [e] at P'; exact P'
        | cnt σ' h' => rw [e] at P'; exact P'
        | bad => rw [e] at P'; exact P'
        | exc c ds σ' h' =>
          rw [e] at P'
          have P2 : PostS X.K X.mg ρ H W (if flDs ds = true then execH hs c ds σ' h' else .bad) D := P'
          by_cases hfd : flDs ds = true
          · rw [if_pos hfd] at P2
            intro ρ' H' cls dd σ2 st2 rs2 rp2 x
            exact hl_wish o2 hfd (PostS.from (o := execH hs c ds σ' h') P2 st2) rs2 rp2 x
          · rw [if_neg hfd] at P2
            exact P2.elim
  | hnd cs v f ih =>
    refine fun G tk hf hp hs hfr n => ⟨fun st h => ?_, fun sts h => ?_⟩
    · cases st <;> cases h
    · cases sts <;> cases h
end
end L3

namespace L3
open PySem L2

def scB (N ps : List Str) (sc : Scope) : Bool :=
  funB sc && !sc.isCoroutine && !sc.isGenerator && decide N.Nodup && decide (N.take ps.length = ps) && (ps.all fun x => match sc.names.lookup x with | some .local => true | some .cell => true | _ => false) && (sc.names.all fun y => !decide (y.2 = .free))
theorem sc_of {N ps : List Str} {sc : Scope} (h : scB N ps sc = true) : FnScope N ps sc := by
  unfold scB at h
  simp only [Bool.and_eq_true, Bool.not_eq_true', decide_eq_true_eq, List.all_eq_true] at h
  obtain ⟨⟨⟨⟨⟨⟨h1, h2⟩, h3⟩, h4⟩, h5⟩, h6⟩, h7⟩ := h
  refine ⟨fun_of h1, h2, h3, h4, h5, fun x hx => ?_, fun y hy => ?_⟩
  · have := h6 x hx
    split at this
    · exact .inl (by assumption)
    · exact .inr (by assumption)
    · cases this
  · have := h7 y hy
    simpa using this
section
variable {P : Program} {w : World} {K : PySem.W.Frag} {mg : Str → Option Value} {base : Heap} {x qual : Str} {params : Arguments} {body : List Stmt} {scope : Scope} {dvs : List V} {kws : List (Str × V)} {f : Addr} {fd : FuncData} {N ps : List Str} {k : Nat} {b : S}
theorem Post.of_fn {ρ : List Addr} {H : Hp} {E : XK} {o : Out} {Q : VK} (p : Post K mg (RV K) ρ H E (fnR o) Q) : PostS K mg ρ H (fun cls d _ H => E cls d H) o { nx := fun _ H' => Q .non H', rt := Q } := by
  cases o with
  | next σ3 h => exact fun ρ' H' σ s rs rp => p ρ' H' .non s rp .non
  | ret d h => exact fun ρ' H' v s rp rd => p ρ' H' v s rp rd
  | brk _ _ => exact p.elim
  | cnt _ _ => exact p.elim
  | exc c fs σ3 h => exact fun ρ' H' cls dd σ s rs rp x => p ρ' H' cls dd s rp x
  | bad => exact p.elim
theorem fn_ok (F : FunD K x qual params body scope dvs kws f fd) (S : FnScope N ps scope) (hc : chkB N scope true b body = true) (n : b.need P w K mg base k) : FnOk P w K mg base (L2.CX P w) (k + 1) f fd ps (spF K mg (fn ps.length N.length b)) := by
  refine F.ok S (fun vs H Q E h => ?_) (fun cdv A outer s H vs Q E hr h => ⟨rS K mg (exec b) (fun cls d _ H => E cls d H), ?_, ?_⟩)
  · obtain ⟨ρ, ds, hh, rd, rp, p⟩ := h
    unfold fn at p
    split at p
    · rename_i hl
      rw [← rd.length]; exact hl
    · exact p.elim
  · have G : Gx (cxOf (L2.CX P w) P w K mg base N qual scope f cdv A outer s H E) N scope k true := ⟨rfl, S.nd, rfl, by have h := hr.un; show (A.deeper (PyProof.Rows.envOfC qual scope s.heap.objs.size f cdv)).units + 65 < cLine; omega, fun _ => ⟨rfl, hr⟩⟩
    exact (st_all b G (takes_of rfl rfl rfl rfl) (fun _ => rfl) (fun _ => PassesOwn.leaving) rfl rfl n).pb body hc
  · obtain ⟨ρ, ds, hh, rd, rp, p⟩ := h
    unfold fn at p
    split at p
    · exact ⟨ρ, startD N.length ds, hh, RS.start rd, rp, p.of_fn⟩
    · exact p.elim
/-- one place: an argument, a keyword, a default, a keyword's default -/
inductive Pl where
  | a (i : Nat) | k (i : Nat) | d (i : Nat) | m (i : Nat)
def asOf (us ws its mv : List Value) : List Pl → Option (List Value)
  | [] => some []
  | .a i :: r => match us[i]?, asOf us ws its mv r with
    | some u, some l => some (u :: l)
    | _, _ => none
  | .k i :: r => match ws[i]?, asOf us ws its mv r with
    | some u, some l => some (u :: l)
    | _, _ => none
  | .d i :: r => match its[i]?, asOf us ws its mv r with
    | some u, some l => some (u :: l)
    | _, _ => none
  | .m i :: r => match mv[i]?, asOf us ws its mv r with
    | some u, some l => some (u :: l)
    | _, _ => none
def arOf (dD mD : List D) : List Pl → List Ar
  | [] => []
  | .a i :: r => .p i :: arOf dD mD r
  | .k i :: r => .k i :: arOf dD mD r
  | .d i :: r => .d (dD.getD i .non) :: arOf dD mD r
  | .m i :: r => .d (mD.getD i .non) :: arOf dD mD r
theorem pk_of {K : PySem.W.Frag} {us ws its mv : List Value} {dV mV : List V} {dD mD : List D} (rT : Vals dV its) (rM : Vals mV mv) (hd : ∀ (ρ : List Addr) (H : Hp), RDs K ρ H dD dV) (hm : ∀ (ρ : List Addr) (H : Hp), RDs K ρ H mD mV) :
    ∀ {R : List Pl} {as : List Value}, asOf us ws its mv R = some as → Pk K us ws (arOf dD mD R) as
  | [], _, e => by cases e; exact .nil
  | .a i :: r, as, e => by
    simp only [asOf] at e
    split at e
    · rename_i u l e1 e2
      cases e
      exact .p e1 (pk_of rT rM hd hm e2)
    · cases e
  | .k i :: r, as, e => by
    simp only [asOf] at e
    split at e
    · rename_i u l e1 e2
      cases e
      exact .k e1 (pk_of rT rM hd hm e2)
    · cases e
  | .d i :: r, as, e => by
    simp only [asOf] at e
    split at e
    · rename_i u l e1 e2
      cases e
      obtain ⟨v, ev, rv⟩ := Vals.of_get rT e1
      refine .d rv (fun ρ H => ?_) (pk_of rT rM hd hm e2)
      obtain ⟨d, ed, rd⟩ := RDs.get' (hd ρ H) ev
      rw [List.getD_eq_getElem?_getD, ed]
      exact rd
    · cases e
  | .m i :: r, as, e => by
    simp only [asOf] at e
    split at e
    · rename_i u l e1 e2
      cases e
      obtain ⟨v, ev, rv⟩ := Vals.of_get rM e1
      refine .d rv (fun ρ H => ?_) (pk_of rT rM hd hm e2)
      obtain ⟨d, ed, rd⟩ := RDs.get' (hm ρ H) ev
      rw [List.getD_eq_getElem?_getD, ed]
      exact rd
    · cases e
/-- no defaults asked for -/
theorem bnd_0 {n : Nat} {ks : List Str} {R : List Pl} (F : FunD K x qual params body scope [] kws f fd)
    (h : ∀ (kV doc pm : Value) (an : Option Addr) (cdv ct : Value) (us ws : List Value), us.length = n → ws.length = ks.length →
      ∃ as, bindArgs (PySem.W.fnOf x qual params body scope .none kV doc pm an cdv ct) ⟨us, ks.zip ws⟩ = pure (ps.zip as) ∧ asOf us ws [] [] R = some as) : Bnd K fd ps n ks (some (arOf [] [] R)) := by
  obtain ⟨oc, od, dV, kV, doc, pm, an, cdv, ct, osl, rfl, lk, hcd, hD, hK⟩ := F.ex
  rcases hD with ⟨_, rfl⟩ | ⟨e, _⟩
  · intro s us ws kin l1 l2
    obtain ⟨as, e1, e2⟩ := h kV doc pm an cdv ct us ws l1 l2
    exact ⟨as, .of_eq e1, pk_of .nil .nil (fun _ _ => .nil) (fun _ _ => .nil) e2⟩
  · exact absurd rfl e
/-- keyword-only ones lack -/
theorem bnd_k {n : Nat} {ks : List Str} {R : List Pl} {ms : List (Str × V)} {mD : List D} (F : FunD K x qual params body scope [] kws f fd) (hk : kws ≠ []) (hms : ∀ q ∈ ms, q ∈ kws) (hmD : ∀ (ρ : List Addr) (H : Hp), RDs K ρ H mD (ms.map (·.2)))
    (h : ∀ (D : Addr) (doc pm : Value) (an : Option Addr) (cdv ct : Value) (us ws mv : List Value), us.length = n → ws.length = ks.length → mv.length = ms.length →
      ∃ as, KwChain D ((ms.map (·.1)).zip mv) (bindArgs (PySem.W.fnOf x qual params body scope .none (.ref D) doc pm an cdv ct) ⟨us, ks.zip ws⟩) (ps.zip as) ∧ asOf us ws [] mv R = some as) : Bnd K fd ps n ks (some (arOf [] mD R)) := by
  obtain ⟨oc, od, dV, kV, doc, pm, an, cdv, ct, osl, rfl, lk, hcd, hD, hK⟩ := F.ex
  rcases hD with ⟨_, rfl⟩ | ⟨e, _⟩
  · rcases hK with e | ⟨D, rfl, hq⟩
    · exact absurd e hk
    · obtain ⟨mv, hl, rk, hks⟩ := kwd_vals (ms := ms) fun q hm => hq q (hms q hm)
      intro s us ws kin l1 l2
      obtain ⟨as, e1, e2⟩ := h D doc pm an cdv ct us ws mv l1 l2 hl
      exact ⟨as, BindsTo.of_looks fun M => KwChain.looks kin hks e1, pk_of .nil rk (fun _ _ => .nil) hmD e2⟩
  · exact absurd rfl e
/-- defaults, no keyword-only ones lack -/
theorem bnd_d {n : Nat} {ks : List Str} {R : List Pl} {dD : List D} (F : FunD K x qual params body scope dvs kws f fd) (hd : dvs ≠ []) (hdD : ∀ (ρ : List Addr) (H : Hp), RDs K ρ H dD dvs)
    (h : ∀ (T : Addr) (kV doc pm : Value) (an : Option Addr) (cdv ct : Value) (us ws its : List Value), us.length = n → ws.length = ks.length → its.length = dvs.length →
      ∃ k as, bindArgs (PySem.W.fnOf x qual params body scope (.ref T) kV doc pm an cdv ct) ⟨us, ks.zip ws⟩ = seqItems? (.ref T) >>= k ∧ k (some its.toArray) = pure (ps.zip as) ∧ asOf us ws its [] R = some as) : Bnd K fd ps n ks (some (arOf dD [] R)) := by
  obtain ⟨oc, od, dV, kV, doc, pm, an, cdv, ct, osl, rfl, lk, hcd, hD, hK⟩ := F.ex
  rcases hD with ⟨e, _⟩ | ⟨_, T, o, its, m, rfl, lT, oT, rT⟩
  · exact absurd e hd
  · intro s us ws kin l1 l2
    obtain ⟨k, as, e1, e2, e3⟩ := h T kV doc pm an cdv ct us ws its l1 l2 rT.length.symm
    refine ⟨as, BindsTo.of_looks fun M => ?_, pk_of rT .nil hdD (fun _ _ => .nil) e3⟩
    rw [e1]
    exact looks_items kin lT oT (.of_pure e2)
/-- defaults, and keyword-only ones lack -/
theorem bnd_dk {n : Nat} {ks : List Str} {R : List Pl} {dD mD : List D} {ms : List (Str × V)} (F : FunD K x qual params body scope dvs kws f fd) (hd : dvs ≠ []) (hdD : ∀ (ρ : List Addr) (H : Hp), RDs K ρ H dD dvs) (hk : kws ≠ []) (hms : ∀ q ∈ ms, q ∈ kws) (hmD : ∀ (ρ : List Addr) (H : Hp), RDs K ρ H mD (ms.map (·.2)))
    (h : ∀ (T D : Addr) (doc pm : Value) (an : Option Addr) (cdv ct : Value) (us ws its mv : List Value), us.length = n → ws.length = ks.length → its.length = dvs.length → mv.length = ms.length →
      ∃ k as, bindArgs (PySem.W.fnOf x qual params body scope (.ref T) (.ref D) doc pm an cdv ct) ⟨us, ks.zip ws⟩ = seqItems? (.ref T) >>= k ∧ KwChain D ((ms.map (·.1)).zip mv) (k (some its.toArray)) (ps.zip as) ∧ asOf us ws its mv R = some as) : Bnd K fd ps n ks (some (arOf dD mD R)) := by
  obtain ⟨oc, od, dV, kV, doc, pm, an, cdv, ct, osl, rfl, lk, hcd, hD, hK⟩ := F.ex
  rcases hD with ⟨e, _⟩ | ⟨_, T, o, its, m, rfl, lT, oT, rT⟩
  · exact absurd e hd
  · rcases hK with e | ⟨D, rfl, hq⟩
    · exact absurd e hk
    · obtain ⟨mv, hl, rk, hks⟩ := kwd_vals (ms := ms) fun q hm => hq q (hms q hm)
      intro s us ws kin l1 l2
      obtain ⟨k, as, e1, e2, e3⟩ := h T D doc pm an cdv ct us ws its mv l1 l2 rT.length.symm hl
      refine ⟨as, BindsTo.of_looks fun M => ?_, pk_of rT rk hdD hmD e3⟩
      rw [e1]
      exact looks_items kin lT oT (KwChain.looks kin hks e2)
/-- every parameter is written -/
theorem bnd_all (hb : Binds K fd ps []) : Bnd K fd ps ps.length [] none := by
  intro s us ws kin l1 l2
  have := hb s us kin (by simpa using l1)
  refine ⟨us, ?_, rfl⟩
  simpa using this
theorem cal_of {n : Nat} {ks : List Str} {ar : Option (List Ar)} (hm : mg x = some (.ref f)) (F : FunD K x qual params body scope dvs kws f fd) (hb : Bnd K fd ps n ks ar) {g : Fn} (ok : FnOk P w K mg base (L2.CX P w) k f fd ps (spF K mg g)) : Cal P w K mg base k x n ks ar g :=
  ⟨f, fd, ps, hm, F.kp, hb, ok⟩
theorem ok_bad : FnOk P w K mg base (L2.CX P w) k f fd ps (spF K mg fun _ _ => .bad) :=
  ⟨fun vs H Q E h => by obtain ⟨_, _, _, _, _, p⟩ := h; exact p.elim, fun A outer s H args us vs Q E _ _ _ _ h => by obtain ⟨_, _, _, _, _, p⟩ := h; exact p.elim⟩
theorem Cal.mono {k' n : Nat} {ks : List Str} {ar : Option (List Ar)} {g : Fn} (c : Cal P w K mg base k x n ks ar g) (h : k ≤ k') : Cal P w K mg base k' x n ks ar g := by
  obtain ⟨a, fd, ps, h1, h2, h3, h4⟩ := c
  exact ⟨a, fd, ps, h1, h2, h3, h4.mono h⟩
theorem Mth.mono {k' n cl : Nat} {ks : List Str} {ar : Option (List Ar)} {g : Fn} {m : Str} (c : Mth P w K mg base k cl m n ks ar g) (h : k ≤ k') : Mth P w K mg base k' cl m n ks ar g := by
  obtain ⟨C, a, fd, ps, h1, h2, h3, h4, h5, h6⟩ := c
  exact ⟨C, a, fd, ps, h1, h2, h3, h4, h5, h6.mono h⟩
theorem Mak.mono {k' n cl : Nat} {ks : List Str} {ar : Option (List Ar)} {g : Fn} (c : Mak P w K mg base k cl n ks ar g) (h : k ≤ k') : Mak P w K mg base k' cl n ks ar g := by
  obtain ⟨C, a, fd, ps, j, rfl, h1, h2, h3, h4⟩ := c
  exact ⟨C, a, fd, ps, k' - 1, by omega, h1, h2, h3, h4.mono (by omega)⟩
theorem Lno.mono {k' cl : Nat} {g : Fn} (c : Lno P w K mg base k cl g) (h : k ≤ k') : Lno P w K mg base k' cl g := by
  obtain ⟨C, a, fd, ps, j, rfl, h1, h2, h3, h4⟩ := c
  exact ⟨C, a, fd, ps, k' - 1, by omega, h1, h2, h3, h4.mono (by omega)⟩
end
end L3

namespace L3
open PySem L2
abbrev Frag := PySem.W.Frag

def obsX (ok : Frag → Bool) (fn : List He.DefD) (K : Frag) : He.AlD := (ok K && fn.all fun d => d.ok K, fn.map fun d => He.fnW K d.at_)
def SaysX (ok : Frag → Bool) (fn : List He.DefD) (K : Frag) : Prop := obsX ok fn K = He.valD fn
def obsXG (n : Nat) (ok : Frag → Bool) (fn : List He.DefD) (g : Addr → Option Obj) : He.AlD := obsX ok fn (He.frG g (cStatics :: He.asD g n))
def hookX (n : Nat) (ok : Frag → Bool) (fn : List He.DefD) : PySem.W.Hook where
  α := He.AlD
  obs := fun s => obsXG n ok fn s.heap.get?
  val := fun _ => He.valD fn
  says := fun _ h => ∃ K : Frag, K.In h ∧ SaysX ok fn K
  of := fun _ _ e => ⟨_, He.frG_in, e⟩
  keeps := fun _ _ _ ⟨K, hK, c⟩ k => ⟨K, PySem.W.Frag.In.keeps hK k, c⟩
theorem obsXG_eq {n : Nat} {ok : Frag → Bool} {fn : List He.DefD} {g : Addr → Option Obj} {s : Shared} (h : ∀ a, g a = s.heap.get? a) : obsXG n ok fn g = (hookX n ok fn).obs s := by
  have e : g = s.heap.get? := funext h
  rw [e] <;> rfl
section
variable {ok : Frag → Bool} {fn : List He.DefD} {K : Frag}
theorem SaysX.oks (c : SaysX ok fn K) : ok K = true := (He.ba (show (ok K && fn.all fun d => d.ok K) = true from congrArg (fun z : He.AlD => z.1) c)).1
theorem SaysX.def_ (c : SaysX ok fn K) (i : Nat) {d : He.DefD} (h : fn[i]? = some d) : ∃ fd, FunD K d.name d.qual d.params d.body d.scope (d.dvs K) (d.kws K) (He.fAd K d.at_) fd := by
  have c2 := (He.ba (show (ok K && fn.all fun d => d.ok K) = true from congrArg (fun z : He.AlD => z.1) c)).2
  have e : fn.map (fun d => He.fnW K d.at_) = fn.map He.DefD.val := congrArg (fun z : He.AlD => z.2) c
  have e2 : (fn.map fun d => He.fnW K d.at_)[i]? = (fn.map He.DefD.val)[i]? := by rw [e]
  rw [List.getElem?_map, List.getElem?_map, h] at e2
  exact He.DefD.funD (Option.some.inj e2) (List.all_eq_true.mp c2 d (List.mem_of_getElem? h))
end
/-- a fact of a list -/
theorem fact_at {fa : List He.Fa} {K : Frag} (c : (fa.all fun f => f.ok K) = true) {f : He.Fa} (h : f ∈ fa) : f.ok K = true := List.all_eq_true.mp c f h
/-- a module's tuple of written things -/
theorem glo_tup {K : Frag} {h : Heap} {mg : Str → Option Value} (X : K.In h) (G : h.Ns mainGlobals mg) {x : Str} {ds : List D} {vs : List He.Dv} (c : (He.Fa.glo x).ok K = true) (t : He.tupB K x vs = true)
    (r : ∀ (ρ : List Addr) (H : Hp), RDs K ρ H ds (vs.map (He.Dv.v K))) : Glo K mg x (.tup ds) :=
  ⟨_, .ref (He.ga K x), He.glo_ok X G c, rfl, fun ρ H => .tup (He.tupB_ok t H) (r ρ H)⟩
theorem glo_int {K : Frag} {h : Heap} {mg : Str → Option Value} (X : K.In h) (G : h.Ns mainGlobals mg) {x : Str} {i : Int} (c : (He.Fa.int x i).ok K = true) : Glo K mg x (.int i) := by
  obtain ⟨t, e⟩ := He.int_ok X G c
  exact ⟨_, .int i, e, ⟨t, rfl⟩, fun ρ H => .int i⟩
theorem glo_str {K : Frag} {h : Heap} {mg : Str → Option Value} (X : K.In h) (G : h.Ns mainGlobals mg) {x z : Str} (c : (He.Fa.str x z).ok K = true) : Glo K mg x (.str z) := by
  obtain ⟨t, e⟩ := He.str_ok X G c
  exact ⟨_, .str z, e, ⟨t, rfl⟩, fun ρ H => .str z⟩
/-- a def that lets nothing out -/
theorem ok_cx0 {P : Program} {w : World} {K : Frag} {mg : Str → Option Value} {base : Heap} {k : Nat} {f : Addr} {fd : FuncData} {ps : List Str} {sp : Sp} (F : FnOk P w K mg base (L2.CX P w) k f fd ps sp) :
    FnOk P w K mg base CX0 k f fd ps (fun vs H Q _ => sp vs H Q fun _ _ _ => False) :=
  ⟨fun vs H Q E h => F.len vs H Q _ h, fun A outer s H args us vs Q E hr he hb hv hs => codeAny_mono (F.run A outer s H args us vs Q _ hr he hb hv hs) fun r s' hq => by
    cases r with
    | ok fl => cases fl <;> exact hq
    | error e =>
      obtain ⟨_, _, _, _, _, _, _, _, _, _, _, _, z⟩ := (show L2.CX P w outer H s (fun _ _ _ => False) e s' from hq)
      exact z⟩
/-- the law's entry -/
theorem entry {K : Frag} {mg : Str → Option Value} {f : Fn} {H : Hp} {a : Addr} {ns : List Int} (hO : Only H) (hS : SqL K H a (ns.map V.int)) (p : ∃ h', f [.rol (ns.map D.int)] [] = .ok (.bl true) h') :
    spF K mg f [.ref a] H (fun v _ => v = .bl true) fun _ _ _ => False := by
  obtain ⟨h', e⟩ := p
  refine ⟨[], [.rol (ns.map D.int)], [], .cons (.rol ?_ RDs.ints) .nil, ⟨rfl, by simp, fun n a o h1 => by simp at h1⟩, ?_⟩
  · rcases hS with (hS | hS) | hS
    · rcases hO a with z | ⟨o, xs, z⟩
      · rw [z] at hS; cases hS
      · rw [z] at hS; cases hS
    · exact .inl hS
    · exact .inr hS
  · rw [e]
    intro ρ' H' v s rp rd
    cases rd
    rfl
end L3

namespace L3
open PySem L2 PySem.W
/-- a built-in class above own ones, and whose __new__ it has -/
structure Tk (B newId initId : String) (bmB tl : List Value) : Prop where
  F : ExcBaseFacts B newId initId bmB
  m3 : Mk3 B tl
  obj : tl.contains (.type "object") = true
  pass : ∀ self, refuseLoop self "__setattr__" tl = pure ()
def mVE : List Value := [.type "ValueError", .type "Exception", .type "BaseException", .type "object"]
def mKE : List Value := [.type "KeyError", .type "LookupError", .type "Exception", .type "BaseException", .type "object"]
def mLE : List Value := [.type "LookupError", .type "Exception", .type "BaseException", .type "object"]
def mIE : List Value := [.type "IndexError", .type "LookupError", .type "Exception", .type "BaseException", .type "object"]
def mRE : List Value := [.type "RuntimeError", .type "Exception", .type "BaseException", .type "object"]
def mZE : List Value := [.type "ZeroDivisionError", .type "ArithmeticError", .type "Exception", .type "BaseException", .type "object"]
theorem tk_VE : Tk "ValueError" "ValueError.__new__" "ValueError.__init__" mVE mVE := ⟨F.excBase_ValueError, ⟨by decide +kernel, by decide +kernel, by decide +kernel⟩, by decide +kernel, fun self => by kernel_rfl⟩
theorem tk_KE : Tk "LookupError" "LookupError.__new__" "LookupError.__init__" mLE mKE := ⟨F.excBase_LookupError, ⟨by decide +kernel, by decide +kernel, by decide +kernel⟩, by decide +kernel, fun self => by kernel_rfl⟩
theorem tk_LE : Tk "LookupError" "LookupError.__new__" "LookupError.__init__" mLE mLE := ⟨F.excBase_LookupError, ⟨by decide +kernel, by decide +kernel, by decide +kernel⟩, by decide +kernel, fun self => by kernel_rfl⟩
theorem tk_IE : Tk "IndexError" "IndexError.__new__" "IndexError.__init__" mIE mIE := ⟨F.excBase_IndexError, ⟨by decide +kernel, by decide +kernel, by decide +kernel⟩, by decide +kernel, fun self => by kernel_rfl⟩
theorem tk_RE : Tk "RuntimeError" "RuntimeError.__new__" "RuntimeError.__init__" mRE mRE := ⟨F.excBase_RuntimeError, ⟨by decide +kernel, by decide +kernel, by decide +kernel⟩, by decide +kernel, fun self => by kernel_rfl⟩
theorem tk_ZE : Tk "ZeroDivisionError" "ZeroDivisionError.__new__" "ZeroDivisionError.__init__" mZE mZE := ⟨F.excBase_ZeroDivisionError, ⟨by decide +kernel, by decide +kernel, by decide +kernel⟩, by decide +kernel, fun self => by kernel_rfl⟩
def oeq (a b : Option Value) : Bool := decide (a = b)
def exB (K : Frag) (C : Addr) (tl : List Value) (newId : String) : Bool := (match K.lookup C with
  | some ⟨.type "type", _, .cls cd, sl⟩ => (match cd.mro, sl.toList with
    | .ref C' :: bm, [_, _, _, _, some (.builtin n), _] => C' == C && n == newId && !cd.hasDel && cd.hasDict && excTail tl bm
    | _, _ => false)
  | _ => false) && (He.eqO (findIn K (.ref C) "__setattr__") (some (some (.builtin "object.__setattr__"))) && (decide (subIn K (.ref C) (.type "BaseException") = some true) && (decide (typeIn K (.ref C) = some (.type "type")) && keepIn K (.ref C))))
theorem exB_ok {K : Frag} {C : Addr} {B newId initId : String} {bmB tl : List Value} (T : Tk B newId initId bmB tl) (h : exB K C tl newId = true) : ExC K C := by
  unfold exB at h
  simp only [Bool.and_eq_true, decide_eq_true_eq] at h
  obtain ⟨q, h1, h2, h3, h4⟩ := h
  refine ⟨?_, He.eqO_ok h1, h2, h3, h4⟩
  split at q
  · rename_i dd cd sl ho
    split at q
    · rename_i C' bm k0 k1 k2 k3 n k5 hm hs
      simp only [Bool.and_eq_true, beq_iff_eq, Bool.not_eq_true'] at q
      obtain ⟨⟨⟨⟨rfl, rfl⟩, hdel⟩, hdc⟩, ht⟩ := q
      obtain ⟨nm, bs, mro, ns, qn, hd, sn, sub, ab, col, del⟩ := cd
      dsimp only at hm hdel hdc
      subst hm hdel hdc
      have hsl : sl = #[k0, k1, k2, k3, some (.builtin n), k5] := by
        obtain ⟨l⟩ := sl
        simp only at hs
        rw [hs]
      subst hsl
      refine ⟨B, n, initId, bmB, nm, qn, ns, bs, bm, sn, sub, ab, col, dd, k0, k1, k2, k3, k5, T.F, ⟨?_, ?_, ?_⟩, ⟨rfl, ?_, fun self => ?_⟩, ho⟩
      · rw [excTail_contains _ _ ht]; exact T.m3.hB
      · rw [excTail_contains _ _ ht]; exact T.m3.hA
      · rw [excTail_contains _ _ ht]; exact T.m3.hN
      · rw [List.contains_cons, excTail_contains _ _ ht, T.obj, Bool.or_true]
      · rw [refuseLoop_ref]; exact excTail_pass self (T.pass self) bm ht
    · cases q
  · cases q
/-- the class above, as it is called by its name -/
def upKB (K : Frag) (L f0 : Addr) : Bool := readsIn K L (.type "type") && (He.eqO (specialIn K (.ref L) "__getattribute__") (some (some (.builtin "type.__getattribute__"))) && ((match findCls K (.ref L) (.type "type") "__init__" with
  | some (.val v) => decide (v = .ref f0)
  | _ => false) && keepIn K (.ref f0)))
theorem up_ok {P : Program} {w : World} {K : Frag} {mg : Str → Option Value} {base : Heap} {L f0 : Addr} {fd0 : FuncData} {ps0 : List Str} (h : upKB K L f0 = true) (hm : mg "LagError" = some (.ref L)) (F : FnOk P w K mg base (L2.CX P w) 1 f0 fd0 ps0 (spX K 1 [("word", .p 0)])) (b : Bnd K fd0 ps0 2 [] none) : UpF P w K mg base L f0 fd0 ps0 := by
  unfold upKB at h
  simp only [Bool.and_eq_true] at h
  obtain ⟨h1, h2, h3, h4⟩ := h
  refine ⟨hm, h1, He.eqO_ok h2, ?_, h4, F, b⟩
  split at h3
  · rename_i v e
    rw [e, of_decide_eq_true h3]
  · cases h3
def obq (a b : Option Bool) : Bool := decide (a = b)
def excB (K : Frag) (C : Addr) : Bool := He.eqO (findIn K (.ref C) "__getattribute__") (some (some (.builtin "BaseException.__getattribute__"))) && (He.eqO (findIn K (.ref C) "__getattr__") (some none) && (obq (subIn K (.ref C) (.type "BaseException")) (some true) && (hasDictIn K C &&
  (He.eqO (findIn K (.ref C) "__class__") (some (some (.builtin "object.__class__"))) && (He.eqO (specialIn K (.builtin "object.__class__") "__get__") (some (some (.builtin "getset_descriptor.__get__"))) && (obq (takesIn K (.builtin "object.__class__")) (some true) && obq (mroIn K C (.type "object")) (some true)))))))
theorem excB_ok {K : Frag} {C : Addr} (h : excB K C = true) : ExcC K C := by
  unfold excB at h
  simp only [Bool.and_eq_true] at h
  obtain ⟨h1, h2, h3, h4, h5, h6, h7, h8⟩ := h
  exact ⟨He.eqO_ok h1, He.eqO_ok h2, of_decide_eq_true h3, h4, He.eqO_ok h5, He.eqO_ok h6, of_decide_eq_true h7, of_decide_eq_true h8⟩
def xcB (K : Frag) (c : Nat) : Bool := match nsIn K mainGlobals (clsN c) with
  | some none => true
  | some (some (.ref C)) => !subN c "BaseException" || (excB K C && (((fldN c).all fun f => He.eqO (findIn K (.ref C) f) (some none)) && ((clsTab.all fun p => !p.2.2.contains "BaseException" || (match nsIn K mainGlobals (Str.ofString p.1) with
      | some none => true
      | some (some (.ref C')) => obq (exmOne K (.ref C) (.ref C')) (some (subN c p.1)) && obq (kitOne K (.ref C) (.ref C')) (some (subN c p.1))
      | _ => false)) && (bltX.all fun t => obq (exmOne K (.ref C) (.type t)) (some (subN c t)) && obq (kitOne K (.ref C) (.type t)) (some (subN c t))))))
  | _ => false
def xaB (K : Frag) : Bool := ((List.range (clsTab.length + 1)).all fun c => xcB K c) && ((bltX.all fun t => He.eqO (nsIn K mainGlobals (Str.ofString t)) (some none)) && He.eqO (nsIn K mainGlobals "isinstance") (some none))
theorem cls_beyond {c : Nat} (h : clsTab.length ≤ c) : clsN c = clsN clsTab.length ∧ ∀ x, subN c x = false := by
  have e1 : clsTab[c]? = none := List.getElem?_eq_none h
  have e2 : clsTab[clsTab.length]? = none := List.getElem?_eq_none (Nat.le_refl _)
  constructor
  · unfold clsN; rw [e1, e2]
  · intro x; unfold subN mroN; rw [e1]; rfl
theorem xa_ok {K : Frag} {h : Heap} {mg : Str → Option Value} (X : K.In h) (G : h.Ns mainGlobals mg) (c : xaB K = true) : XAll K mg := by
  unfold xaB at c
  simp only [Bool.and_eq_true, List.all_eq_true] at c
  obtain ⟨c1, c2, c3⟩ := c
  have look : ∀ cc, cc ≤ clsTab.length → (mg (clsN cc) = none ∨ ∃ C, mg (clsN cc) = some (.ref C)) := fun cc hc => by
    have q := c1 cc (List.mem_range.mpr (by omega))
    unfold xcB at q
    split at q
    · rename_i e; exact .inl (mg_none_of X G e)
    · rename_i C e; exact .inr ⟨C, mg_of X G e⟩
    · cases q
  refine ⟨fun cc C hm hb => ?_, fun t ht => mg_none_of X G (He.eqO_ok (c2 t ht)), mg_none_of X G (He.eqO_ok c3), fun p hp hb => ?_⟩
  · have hc : cc ≤ clsTab.length := by
      apply Classical.byContradiction
      intro z
      rw [(cls_beyond (c := cc) (by omega)).2] at hb
      cases hb
    have q := c1 cc (List.mem_range.mpr (by omega))
    unfold xcB at q
    split at q
    · rename_i e; rw [mg_none_of X G e] at hm; cases hm
    · rename_i C' e
      have e2 := mg_of X G e
      rw [hm] at e2
      cases e2
      rw [hb, Bool.not_true, Bool.false_or] at q
      simp only [Bool.and_eq_true, List.all_eq_true] at q
      obtain ⟨q1, q2, q3, q4⟩ := q
      refine ⟨excB_ok q1, fun f hf => He.eqO_ok (q2 f hf), fun p C2 hp hpb hm2 => ?_, fun t ht => ?_⟩
      · have r := q3 p hp
        rw [hpb, Bool.not_true, Bool.false_or] at r
        split at r
        · rename_i e3; rw [mg_none_of X G e3] at hm2; cases hm2
        · rename_i C3 e3
          have e4 := mg_of X G e3
          rw [hm2] at e4
          cases e4
          rw [Bool.and_eq_true] at r
          exact ⟨of_decide_eq_true r.1, of_decide_eq_true r.2⟩
        · cases r
      · have r := q4 t ht
        exact ⟨of_decide_eq_true r.1, of_decide_eq_true r.2⟩
    · cases q
  · obtain ⟨i, hi⟩ := List.getElem?_of_mem hp
    have e : clsN i = Str.ofString p.1 := by unfold clsN; rw [hi]
    rw [← e]
    exact look i (Nat.le_of_lt (List.getElem?_eq_some_iff.mp hi).1)
end L3

namespace L3
open PySem L2 PySem.W
theorem Rai.mono {P : Program} {w : World} {K : Frag} {mg : Str → Option Value} {base : Heap} {k k' cl n : Nat} {b : List Ar} (r : Rai P w K mg base k cl n b) (h : k ≤ k') : Rai P w K mg base k' cl n b := by
  obtain ⟨C, fI, fd, ps, j, its, rfl, r1, r2, r3, r4, r5, r6, r7, r8⟩ := r
  exact ⟨C, fI, fd, ps, k' - 1, its, by omega, r1, r2, r3, r4, r5, r6, r7, r8.mono (by omega)⟩
theorem rai_of {P : Program} {w : World} {K : Frag} {mg : Str → Option Value} {base : Heap} {C : Addr} {fd : FuncData} {ps : List Str} {j cl n : Nat} {b : List Ar} {its : List (Str × Src)} {fI : Addr} (hm : mg (clsN cl) = some (.ref C)) (ex : ExC K C) (m : Meth K C "__init__" fI) (hb : Bnd K fd ps (n + 1) [] none)
    (hf : ∀ f ∈ fldN cl, PySem.W.findIn K (.ref C) f = some none) (hi : itsOf (fldN cl) b = some its) (o : FnOk P w K mg base (L2.CX P w) j fI fd ps (spX K n its)) : Rai P w K mg base (j + 1) cl n b :=
  ⟨C, fI, fd, ps, j, its, rfl, hm, ex, m.at_, beq_iff_eq.mp m.fn, hb, hf, hi, o⟩
def tabB (x : String) : Bool := clsTab.any fun p => p.1 == x && p.2.2.contains "BaseException"
theorem tab_in {x : String} (h : tabB x = true) : ∃ p ∈ clsTab, p.1 = x ∧ p.2.2.contains "BaseException" = true := by
  unfold tabB at h
  rw [List.any_eq_true] at h
  obtain ⟨p, hp, h⟩ := h
  rw [Bool.and_eq_true, beq_iff_eq] at h
  exact ⟨p, hp, h⟩
theorem some_ne {mg : Str → Option Value} {x : Str} {v : Value} (h : mg x = some v) : mg x ≠ none := by rw [h]; simp
theorem hx_own {mg : Str → Option Value} {x : String} {v : Value} (hm : mg (Str.ofString x) = some v) (h : tabB x = true) : bltX.contains x = true ∨ (mg (Str.ofString x) ≠ none ∧ ∃ p ∈ clsTab, p.1 = x ∧ p.2.2.contains "BaseException" = true) := .inr ⟨some_ne hm, tab_in h⟩
end L3

namespace L3
open PySem L2

inductive T where
  | non | bl (b : Bool) | int (i : Int) | str (x : Str) | tup (xs : List T) | lst (xs : List T) | ins (c : Nat) (xs : List T) | dct (ks : List Key) (xs : List T) | rol (xs : List T)

/-- the class of wedges: its objects are never changed once they are made -/
def imm (c : Nat) : Bool := c == 34

mutual
/-- no list, dict or object that changes within -/
def flat : T → Bool
  | .tup xs => flats xs
  | .lst _ => false
  | .dct _ _ => false
  | .rol _ => false
  | .ins c _ => imm c
  | _ => true
def flats : List T → Bool
  | [] => true
  | t :: ts => flat t && flats ts
end
mutual
def emb : T → D
  | .non => .non
  | .bl b => .bl b
  | .int i => .int i
  | .str x => .str x
  | .tup xs => .tup (embs xs)
  | .lst _ => .non
  | .rol xs => .rol (embs xs)
  | .ins _ _ => .non
  | .dct _ _ => .non
def embs : List T → List D
  | [] => []
  | t :: ts => emb t :: embs ts
end

mutual
/-- scalars and tuples of such alone -/
def flat0 : T → Bool
  | .tup xs => flat0s xs
  | .lst _ => false
  | .dct _ _ => false
  | .rol _ => false
  | .ins _ _ => false
  | _ => true
def flat0s : List T → Bool
  | [] => true
  | t :: ts => flat0 t && flat0s ts
end
mutual
def ub : D → T
  | .non => .non
  | .bl b => .bl b
  | .int i => .int i
  | .str x => .str x
  | .tup xs => .tup (ubs xs)
  | .rol _ => .non
  | .ref _ => .non
  | .xcp _ _ _ _ => .non
def ubs : List D → List T
  | [] => []
  | t :: ts => ub t :: ubs ts
end
mutual
theorem ub_emb : ∀ {t : T}, flat0 t = true → ub (emb t) = t
  | .non, _ => rfl
  | .bl b, _ => rfl
  | .int i, _ => rfl
  | .str x, _ => rfl
  | .tup xs, f => by rw [emb, ub, ubs_embs (ts := xs) f]
  | .lst _, f => by cases f
  | .dct _ _, f => by cases f
  | .rol _, f => by cases f
  | .ins _ _, f => by cases f
theorem ubs_embs : ∀ {ts : List T}, flat0s ts = true → ubs (embs ts) = ts
  | [], _ => rfl
  | t :: ts, f => by
    rw [flat0s, Bool.and_eq_true] at f
    rw [embs, ubs, ub_emb f.1, ubs_embs f.2]
end
mutual
theorem flD_emb : ∀ {t : T}, flat0 t = true → flD (emb t) = true
  | .non, _ => rfl
  | .bl b, _ => rfl
  | .int i, _ => rfl
  | .str x, _ => rfl
  | .tup xs, f => flDs_embs (ts := xs) f
  | .lst _, f => by cases f
  | .dct _ _, f => by cases f
  | .rol _, f => by cases f
  | .ins _ _, f => by cases f
theorem flDs_embs : ∀ {ts : List T}, flat0s ts = true → flDs (embs ts) = true
  | [], _ => rfl
  | t :: ts, f => by
    rw [flat0s, Bool.and_eq_true] at f
    rw [embs, flDs, flD_emb f.1, flDs_embs f.2]; rfl
end
mutual
theorem emb_ub : ∀ {d : D}, flD d = true → emb (ub d) = d
  | .non, _ => rfl
  | .bl b, _ => rfl
  | .int i, _ => rfl
  | .str x, _ => rfl
  | .tup xs, f => by rw [ub, emb, embs_ubs (ds := xs) f]
  | .rol _, f => by cases f
  | .ref _, f => by cases f
  | .xcp _ _ _ _, f => by cases f
theorem embs_ubs : ∀ {ds : List D}, flDs ds = true → embs (ubs ds) = ds
  | [], _ => rfl
  | d :: ds, f => by
    rw [flDs, Bool.and_eq_true] at f
    rw [ubs, embs, emb_ub f.1, embs_ubs f.2]
end
mutual
theorem flat_of0 : ∀ {t : T}, flat0 t = true → flat t = true
  | .non, _ => rfl
  | .bl b, _ => rfl
  | .int i, _ => rfl
  | .str x, _ => rfl
  | .tup xs, f => flats_of0 (ts := xs) f
  | .lst _, f => by cases f
  | .dct _ _, f => by cases f
  | .rol _, f => by cases f
  | .ins _ _, f => by cases f
theorem flats_of0 : ∀ {ts : List T}, flat0s ts = true → flats ts = true
  | [], _ => rfl
  | t :: ts, f => by
    rw [flat0s, Bool.and_eq_true] at f
    rw [flats, flat_of0 f.1, flats_of0 f.2]; rfl
end
mutual
/-- a value is borne by a heap: what is unchangeable in Z, all else in Y -/
inductive Rp (Z : Nat → Prop) : (Nat → Prop) → Hh → D → T → Prop where
  | non {Y : Nat → Prop} {h : Hh} : Rp Z Y h .non .non
  | bl {Y : Nat → Prop} {h : Hh} (b : Bool) : Rp Z Y h (.bl b) (.bl b)
  | int {Y : Nat → Prop} {h : Hh} (i : Int) : Rp Z Y h (.int i) (.int i)
  | str {Y : Nat → Prop} {h : Hh} (x : Str) : Rp Z Y h (.str x) (.str x)
  | tup {Y : Nat → Prop} {h : Hh} {ds : List D} {ts : List T} (r : Rps Z Y h ds ts) : Rp Z Y h (.tup ds) (.tup ts)
  | rol {Y : Nat → Prop} {h : Hh} {ds : List D} {ts : List T} (r : Rps Z Y h ds ts) : Rp Z Y h (.rol ds) (.rol ts)
  | lst {Y : Nat → Prop} {h : Hh} {n : Nat} {ds : List D} {ts : List T} (y : Y n) (e : h[n]? = some (.lst ds)) (r : Rps Z Y h ds ts) : Rp Z Y h (.ref n) (.lst ts)
  | dct {Y : Nat → Prop} {h : Hh} {n : Nat} {kvs : List (Key × D)} {ts : List T} (y : Y n) (e : h[n]? = some (.dK kvs)) (r : Rps Z Y h (kvs.map (·.2)) ts) : Rp Z Y h (.ref n) (.dct (kvs.map (·.1)) ts)
  | ins {Y : Nat → Prop} {h : Hh} {n c : Nat} {ds : List D} {ts : List T} (m : imm c = false) (y : Y n) (e : h[n]? = some (.ins c ds)) (r : Rps Z Y h ds ts) : Rp Z Y h (.ref n) (.ins c ts)
  | imm {Y : Nat → Prop} {h : Hh} {n c : Nat} {ds : List D} {ts : List T} (m : imm c = true) (y : Z n) (e : h[n]? = some (.ins c ds)) (r : Rps Z Z h ds ts) : Rp Z Y h (.ref n) (.ins c ts)
inductive Rps (Z : Nat → Prop) : (Nat → Prop) → Hh → List D → List T → Prop where
  | nil {Y : Nat → Prop} {h : Hh} : Rps Z Y h [] []
  | cons {Y : Nat → Prop} {h : Hh} {d : D} {t : T} {ds : List D} {ts : List T} (a : Rp Z Y h d t) (r : Rps Z Y h ds ts) : Rps Z Y h (d :: ds) (t :: ts)
end
mutual
/-- a value whose objects are all its own, N their numbers -/
inductive W (Z : Nat → Prop) (h : Hh) : D → T → List Nat → Prop where
  | non : W Z h .non .non []
  | bl (b : Bool) : W Z h (.bl b) (.bl b) []
  | int (i : Int) : W Z h (.int i) (.int i) []
  | str (x : Str) : W Z h (.str x) (.str x) []
  | tup {ds : List D} {ts : List T} {N : List Nat} (r : Ws Z h ds ts N) : W Z h (.tup ds) (.tup ts) N
  | lst {n : Nat} {ds : List D} {ts : List T} {N : List Nat} (e : h[n]? = some (.lst ds)) (r : Ws Z h ds ts N) : W Z h (.ref n) (.lst ts) (n :: N)
  | dct {n : Nat} {kvs : List (Key × D)} {ts : List T} {N : List Nat} (e : h[n]? = some (.dK kvs)) (r : Ws Z h (kvs.map (·.2)) ts N) : W Z h (.ref n) (.dct (kvs.map (·.1)) ts) (n :: N)
  | ins {n c : Nat} {ds : List D} {ts : List T} {N : List Nat} (m : imm c = false) (e : h[n]? = some (.ins c ds)) (r : Ws Z h ds ts N) : W Z h (.ref n) (.ins c ts) (n :: N)
  | imm {n c : Nat} {ds : List D} {ts : List T} (m : imm c = true) (y : Z n) (e : h[n]? = some (.ins c ds)) (r : Rps Z Z h ds ts) : W Z h (.ref n) (.ins c ts) []
inductive Ws (Z : Nat → Prop) (h : Hh) : List D → List T → List Nat → Prop where
  | nil : Ws Z h [] [] []
  | cons {d : D} {t : T} {ds : List D} {ts : List T} {N M : List Nat} (a : W Z h d t N) (r : Ws Z h ds ts M) : Ws Z h (d :: ds) (t :: ts) (N ++ M)
end

section
variable {Z Y Z' Y' : Nat → Prop} {h h' : Hh}
mutual
theorem Rp.mono {Y Y' : Nat → Prop} {d : D} {t : T} (hz : ∀ n, Z n → Z' n) (hy : ∀ n, Y n → Y' n) (sz : ∀ n, Z n → h'[n]? = h[n]?) (sy : ∀ n, Y n → h'[n]? = h[n]?) : Rp Z Y h d t → Rp Z' Y' h' d t
  | .non => .non
  | .bl b => .bl b
  | .int i => .int i
  | .str x => .str x
  | .tup r => .tup (Rps.mono hz hy sz sy r)
  | .rol r => .rol (Rps.mono hz hy sz sy r)
  | .lst y e r => .lst (hy _ y) ((sy _ y).trans e) (Rps.mono hz hy sz sy r)
  | .dct y e r => .dct (hy _ y) ((sy _ y).trans e) (Rps.mono hz hy sz sy r)
  | .ins m y e r => .ins m (hy _ y) ((sy _ y).trans e) (Rps.mono hz hy sz sy r)
  | .imm m y e r => .imm m (hz _ y) ((sz _ y).trans e) (Rps.mono hz hz sz sz r)
theorem Rps.mono {Y Y' : Nat → Prop} {ds : List D} {ts : List T} (hz : ∀ n, Z n → Z' n) (hy : ∀ n, Y n → Y' n) (sz : ∀ n, Z n → h'[n]? = h[n]?) (sy : ∀ n, Y n → h'[n]? = h[n]?) : Rps Z Y h ds ts → Rps Z' Y' h' ds ts
  | .nil => .nil
  | .cons a r => .cons (Rp.mono hz hy sz sy a) (Rps.mono hz hy sz sy r)
end
mutual
theorem W.mono {d : D} {t : T} {N : List Nat} (hz : ∀ n, Z n → Z' n) (sz : ∀ n, Z n → h'[n]? = h[n]?) : W Z h d t N → (∀ n ∈ N, h'[n]? = h[n]?) → W Z' h' d t N
  | .non, _ => .non
  | .bl b, _ => .bl b
  | .int i, _ => .int i
  | .str x, _ => .str x
  | .tup r, s => .tup (Ws.mono hz sz r s)
  | .lst e r, s => .lst ((s _ (List.mem_cons_self ..)).trans e) (Ws.mono hz sz r fun n hn => s n (List.mem_cons_of_mem _ hn))
  | .dct e r, s => .dct ((s _ (List.mem_cons_self ..)).trans e) (Ws.mono hz sz r fun n hn => s n (List.mem_cons_of_mem _ hn))
  | .ins m e r, s => .ins m ((s _ (List.mem_cons_self ..)).trans e) (Ws.mono hz sz r fun n hn => s n (List.mem_cons_of_mem _ hn))
  | .imm m y e r, s => .imm m (hz _ y) ((sz _ y).trans e) (Rps.mono hz hz sz sz r)
theorem Ws.mono {ds : List D} {ts : List T} {N : List Nat} (hz : ∀ n, Z n → Z' n) (sz : ∀ n, Z n → h'[n]? = h[n]?) : Ws Z h ds ts N → (∀ n ∈ N, h'[n]? = h[n]?) → Ws Z' h' ds ts N
  | .nil, _ => .nil
  | .cons a r, s => .cons (W.mono hz sz a fun n hn => s n (List.mem_append_left _ hn)) (Ws.mono hz sz r fun n hn => s n (List.mem_append_right _ hn))
end
mutual
/-- what is owned is borne -/
theorem W.rp {d : D} {t : T} {N : List Nat} : W Z h d t N → (∀ n ∈ N, Y n) → Rp Z Y h d t
  | .non, _ => .non
  | .bl b, _ => .bl b
  | .int i, _ => .int i
  | .str x, _ => .str x
  | .tup r, s => .tup (Ws.rp r s)
  | .lst e r, s => .lst (s _ (List.mem_cons_self ..)) e (Ws.rp r fun n hn => s n (List.mem_cons_of_mem _ hn))
  | .dct e r, s => .dct (s _ (List.mem_cons_self ..)) e (Ws.rp r fun n hn => s n (List.mem_cons_of_mem _ hn))
  | .ins m e r, s => .ins m (s _ (List.mem_cons_self ..)) e (Ws.rp r fun n hn => s n (List.mem_cons_of_mem _ hn))
  | .imm m y e r, s => .imm m y e r
theorem Ws.rp {ds : List D} {ts : List T} {N : List Nat} : Ws Z h ds ts N → (∀ n ∈ N, Y n) → Rps Z Y h ds ts
  | .nil, _ => .nil
  | .cons a r, s => .cons (W.rp a fun n hn => s n (List.mem_append_left _ hn)) (Ws.rp r fun n hn => s n (List.mem_append_right _ hn))
end
mutual
/-- what is flat owns nothing -/
theorem Rp.own {d : D} {t : T} : Rp Z Y h d t → flat t = true → W Z h d t []
  | .non, _ => .non
  | .bl b, _ => .bl b
  | .int i, _ => .int i
  | .str x, _ => .str x
  | .tup r, f => .tup (Rps.own r f)
  | .rol r, f => by cases f
  | .lst y e r, f => by cases f
  | .dct y e r, f => by cases f
  | .ins m y e r, f => by rw [flat, m] at f; cases f
  | .imm m y e r, f => .imm m y e r
theorem Rps.own {ds : List D} {ts : List T} : Rps Z Y h ds ts → flats ts = true → Ws Z h ds ts []
  | .nil, _ => .nil
  | .cons a r, f => by
    rw [flats, Bool.and_eq_true] at f
    exact .cons (N := []) (M := []) (Rp.own a f.1) (Rps.own r f.2)
end
mutual
theorem W.flat0 {d : D} {t : T} {N : List Nat} : W Z h d t N → flat t = true → N = []
  | .non, _ => rfl
  | .bl b, _ => rfl
  | .int i, _ => rfl
  | .str x, _ => rfl
  | .tup r, f => Ws.flat0 r f
  | .lst e r, f => by cases f
  | .dct e r, f => by cases f
  | .ins m e r, f => by rw [flat, m] at f; cases f
  | .imm m y e r, f => rfl
theorem Ws.flat0 {ds : List D} {ts : List T} {N : List Nat} : Ws Z h ds ts N → flats ts = true → N = []
  | .nil, _ => rfl
  | .cons a r, f => by
    rw [flats, Bool.and_eq_true] at f
    rw [W.flat0 a f.1, Ws.flat0 r f.2]; rfl
end
mutual
theorem Rp.emb {d : D} {t : T} : Rp Z Y h d t → flat0 t = true → d = emb t
  | .non, _ => rfl
  | .bl b, _ => rfl
  | .int i, _ => rfl
  | .str x, _ => rfl
  | .tup r, f => by rw [L3.emb, Rps.embs r f]
  | .rol r, f => by cases f
  | .lst y e r, f => by cases f
  | .dct y e r, f => by cases f
  | .ins m y e r, f => by cases f
  | .imm m y e r, f => by cases f
theorem Rps.embs {ds : List D} {ts : List T} : Rps Z Y h ds ts → flat0s ts = true → ds = embs ts
  | .nil, _ => rfl
  | .cons a r, f => by
    rw [flat0s, Bool.and_eq_true] at f
    rw [L3.embs, Rp.emb a f.1, Rps.embs r f.2]
end
mutual
theorem Rp.of0 : ∀ {t : T}, flat0 t = true → Rp Z Y h (L3.emb t) t
  | .non, _ => .non
  | .bl b, _ => .bl b
  | .int i, _ => .int i
  | .str x, _ => .str x
  | .tup xs, f => .tup (Rps.of0 f)
  | .lst _, f => by cases f
  | .dct _ _, f => by cases f
  | .rol _, f => by cases f
  | .ins _ _, f => by cases f
theorem Rps.of0 : ∀ {ts : List T}, flat0s ts = true → Rps Z Y h (L3.embs ts) ts
  | [], _ => .nil
  | t :: ts, f => by
    rw [flat0s, Bool.and_eq_true] at f
    exact .cons (Rp.of0 f.1) (Rps.of0 f.2)
end
theorem Rp.z {d : D} {t : T} (r : Rp Z Y h d t) (f : flat t = true) : Rp Z Z h d t := (r.own f).rp (fun _ hn => by cases hn)
theorem Rps.z {ds : List D} {ts : List T} (r : Rps Z Y h ds ts) (f : flats ts = true) : Rps Z Z h ds ts := (r.own f).rp (fun _ hn => by cases hn)
theorem Rps.length : ∀ {ds : List D} {ts : List T}, Rps Z Y h ds ts → ds.length = ts.length
  | _, _, .nil => rfl
  | _, _, .cons _ r => by simp [Rps.length r]
theorem Rps.get : ∀ {ds : List D} {ts : List T} {i : Nat} {t : T}, Rps Z Y h ds ts → ts[i]? = some t → ∃ d, ds[i]? = some d ∧ Rp Z Y h d t
  | _, _, _, _, .nil, e => by simp at e
  | _, _, 0, _, .cons a _, e => by simp at e; subst e; exact ⟨_, rfl, a⟩
  | _, _, i + 1, t, .cons _ r, e => by
    obtain ⟨d, h1, h2⟩ := Rps.get (i := i) (t := t) r (by simpa using e)
    exact ⟨d, by simpa using h1, h2⟩
theorem Rps.append : ∀ {ds es : List D} {ts us : List T}, Rps Z Y h ds ts → Rps Z Y h es us → Rps Z Y h (ds ++ es) (ts ++ us)
  | _, _, _, _, .nil, s => s
  | _, _, _, _, .cons a r, s => .cons a (Rps.append r s)
theorem Rps.take : ∀ {ds : List D} {ts : List T} (n : Nat), Rps Z Y h ds ts → Rps Z Y h (ds.take n) (ts.take n)
  | _, _, 0, _ => .nil
  | _, _, _ + 1, .nil => .nil
  | _, _, n + 1, .cons a r => .cons a (Rps.take n r)
theorem Rps.drop : ∀ {ds : List D} {ts : List T} (n : Nat), Rps Z Y h ds ts → Rps Z Y h (ds.drop n) (ts.drop n)
  | _, _, 0, r => r
  | _, _, _ + 1, .nil => .nil
  | _, _, n + 1, .cons _ r => Rps.drop n r
theorem Rps.reverse : ∀ {ds : List D} {ts : List T}, Rps Z Y h ds ts → Rps Z Y h ds.reverse ts.reverse
  | _, _, .nil => .nil
  | _, _, .cons a r => by
    rw [List.reverse_cons, List.reverse_cons]
    exact (Rps.reverse r).append (.cons a .nil)
theorem Ws.length : ∀ {ds : List D} {ts : List T} {N : List Nat}, Ws Z h ds ts N → ds.length = ts.length
  | _, _, _, .nil => rfl
  | _, _, _, .cons _ r => by simp [Ws.length r]
theorem Ws.append : ∀ {ds es : List D} {ts us : List T} {N M : List Nat}, Ws Z h ds ts N → Ws Z h es us M → Ws Z h (ds ++ es) (ts ++ us) (N ++ M)
  | _, _, _, _, _, _, .nil, s => s
  | _, _, _, _, _, _, .cons a r, s => by
    rw [List.append_assoc]
    exact .cons a (Ws.append r s)
/-- one item among the owned ones, and all with that one changed -/
theorem Ws.focus : ∀ {ds : List D} {ts : List T} {N : List Nat} {i : Nat} {t : T}, Ws Z h ds ts N → ts[i]? = some t →
    ∃ d A M B, ds[i]? = some d ∧ W Z h d t M ∧ N = A ++ M ++ B ∧
      ∀ (Z' : Nat → Prop) (h' : Hh) (d' : D) (t' : T) (M' : List Nat), (∀ n, Z n → Z' n) → (∀ n, Z n → h'[n]? = h[n]?) → (∀ n ∈ A ++ B, h'[n]? = h[n]?) → W Z' h' d' t' M' → Ws Z' h' (ds.set i d') (ts.set i t') (A ++ M' ++ B)
  | _, _, _, _, _, .nil, e => by simp at e
  | _, _, _, 0, _, .cons (N := N) (M := M) a r, e => by
    simp at e; subst e
    refine ⟨_, [], N, M, rfl, a, by simp, fun Z' h' d' t' M' hz sz s w => ?_⟩
    simp only [List.nil_append] at s ⊢
    exact .cons w (r.mono hz sz s)
  | _, _, _, i + 1, t, .cons (N := N) (M := M) a r, e => by
    obtain ⟨d, A, M1, B, e1, w, rfl, k⟩ := Ws.focus (i := i) (t := t) r (by simpa using e)
    refine ⟨d, N ++ A, M1, B, by simpa using e1, w, by simp [List.append_assoc], fun Z' h' d' t' M' hz sz s w' => ?_⟩
    have := k Z' h' d' t' M' hz sz (fun n hn => s n (by simp at hn ⊢; rcases hn with hn | hn <;> simp [hn])) w'
    rw [List.set_cons_succ, List.set_cons_succ, show N ++ A ++ M' ++ B = N ++ (A ++ M' ++ B) by simp [List.append_assoc]]
    exact .cons (a.mono hz sz fun n hn => s n (by simp [hn])) this
end
end L3

namespace L3
open PySem L2

/-- how a value is held: flat; owned; borrowed (from such slots, or from the caller, or frozen); an object that is being made -/
inductive Wy where
  | F | O | B (rs : List Nat) | I
  deriving DecidableEq
abbrev G := List (Option Wy)
abbrev Sm := List (Option T)
abbrev Os := Nat → List Nat

def U (Z Y : Nat → Prop) (Ns : Os) (rs : List Nat) : Nat → Prop := fun n => Z n ∨ Y n ∨ ∃ r, r ∈ rs ∧ n ∈ Ns r
def Val (Z Y : Nat → Prop) (Ns : Os) (h : Hh) (ty : Wy) (d : D) (t : T) (N : List Nat) : Prop := match ty with
  | .F => Rp Z Z h d t ∧ flat t = true
  | .O => W Z h d t N
  | .B rs => Rp Z (U Z Y Ns rs) h d t
  | .I => ∃ n c ds ts M, d = .ref n ∧ t = .ins c ts ∧ N = n :: M ∧ h[n]? = some (.ins c ds) ∧ Ws Z h ds ts M
structure Inv (Z Y : Nat → Prop) (Γ : G) (Ns : Os) (σ : Sl) (τ : Sm) (h : Hh) : Prop where
  ln : τ.length = σ.length
  lg : Γ.length = σ.length
  val : ∀ i ty, Γ[i]? = some (some ty) → ∃ d t, σ[i]? = some (some d) ∧ τ[i]? = some (some t) ∧ Val Z Y Ns h ty d t (Ns i)
  nd : ∀ i, (Ns i).Nodup
  dj : ∀ i j n, n ∈ Ns i → n ∈ Ns j → i = j
  ow : ∀ i n, n ∈ Ns i → ¬ Z n ∧ ¬ Y n ∧ n < h.length
  zl : ∀ n, Z n → n < h.length
  yl : ∀ n, Y n → n < h.length
/-- the heap grows; only what the slots ws own is changed; X is in other hands -/
structure Gr (X Y Z : Nat → Prop) (Ns : Os) (h : Hh) (Z' : Nat → Prop) (Ns' : Os) (h' : Hh) (ws : List Nat) : Prop where
  len : h.length ≤ h'.length
  zs : ∀ n, Z n → h'[n]? = h[n]?
  ys : ∀ n, Y n → h'[n]? = h[n]?
  xs : ∀ n, X n → h'[n]? = h[n]? ∧ ¬ Z' n ∧ ∀ i, n ∉ Ns' i
  keep : ∀ i, i ∉ ws → ∀ n, n ∈ Ns i → h'[n]? = h[n]? ∧ (n ∈ Ns' i ∨ Z' n)
  zz : ∀ n, Z n → Z' n
  yz : ∀ n, Y n → Z' n → Z n
/-- what is in other hands -/
def Xok (X Y Z : Nat → Prop) (Ns : Os) (h : Hh) : Prop := ∀ n, X n → n < h.length ∧ ¬ Z n ∧ ¬ Y n ∧ ∀ i, n ∉ Ns i
/-- a value in hand owns N -/
structure Tmp (Z Y : Nat → Prop) (Ns : Os) (h : Hh) (N : List Nat) : Prop where
  nd : N.Nodup
  ow : ∀ n, n ∈ N → n < h.length ∧ ¬ Z n ∧ ¬ Y n ∧ ∀ i, n ∉ Ns i
section
variable {X Z Y Z1 Z2 : Nat → Prop} {Γ : G} {Ns Ns1 Ns2 : Os} {σ : Sl} {τ : Sm} {h h1 h2 : Hh} {ws ws' : List Nat}
theorem Gr.refl (x : Xok X Y Z Ns h) : Gr X Y Z Ns h Z Ns h ws := ⟨Nat.le_refl _, fun _ _ => rfl, fun _ _ => rfl, fun n q => ⟨rfl, (x n q).2.1, (x n q).2.2.2⟩, fun _ _ _ hn => ⟨rfl, .inl hn⟩, fun _ z => z, fun _ _ z => z⟩
theorem Gr.mono (g : Gr X Y Z Ns h Z1 Ns1 h1 ws) (s : ∀ i, i ∈ ws → i ∈ ws') : Gr X Y Z Ns h Z1 Ns1 h1 ws' := ⟨g.len, g.zs, g.ys, g.xs, fun i hi => g.keep i fun q => hi (s i q), g.zz, g.yz⟩
theorem Gr.lessX {X' : Nat → Prop} (g : Gr X Y Z Ns h Z1 Ns1 h1 ws) (s : ∀ n, X' n → X n) : Gr X' Y Z Ns h Z1 Ns1 h1 ws := ⟨g.len, g.zs, g.ys, fun n q => g.xs n (s n q), g.keep, g.zz, g.yz⟩
theorem Gr.trans (g : Gr X Y Z Ns h Z1 Ns1 h1 ws) (g2 : Gr X Y Z1 Ns1 h1 Z2 Ns2 h2 ws') : Gr X Y Z Ns h Z2 Ns2 h2 (ws ++ ws') where
  len := Nat.le_trans g.len g2.len
  zs := fun n z => (g2.zs n (g.zz n z)).trans (g.zs n z)
  ys := fun n z => (g2.ys n z).trans (g.ys n z)
  xs := fun n z => ⟨(g2.xs n z).1.trans (g.xs n z).1, (g2.xs n z).2⟩
  keep := fun i hi n hn => by
    rw [List.mem_append] at hi
    obtain ⟨e1, q⟩ := g.keep i (fun z => hi (.inl z)) n hn
    rcases q with q | q
    · obtain ⟨e2, q2⟩ := g2.keep i (fun z => hi (.inr z)) n q
      exact ⟨e2.trans e1, q2⟩
    · exact ⟨(g2.zs n q).trans e1, .inr (g2.zz n q)⟩
  zz := fun n z => g2.zz n (g.zz n z)
  yz := fun n y z => g.yz n y (g2.yz n y z)
theorem Gr.xok (g : Gr X Y Z Ns h Z1 Ns1 h1 ws) (x : Xok X Y Z Ns h) : Xok X Y Z1 Ns1 h1 := fun n q => ⟨Nat.lt_of_lt_of_le (x n q).1 g.len, (g.xs n q).2.1, (x n q).2.2.1, (g.xs n q).2.2⟩
/-- borrowed sets stay -/
theorem U.mono (g : Gr X Y Z Ns h Z1 Ns1 h1 ws) {rs : List Nat} (dj : ∀ r, r ∈ rs → r ∉ ws) : ∀ n, U Z Y Ns rs n → U Z1 Y Ns1 rs n := fun n u => by
  rcases u with u | u | ⟨r, hr, u⟩
  · exact .inl (g.zz n u)
  · exact .inr (.inl u)
  · rcases (g.keep r (dj r hr) n u).2 with q | q
    · exact .inr (.inr ⟨r, hr, q⟩)
    · exact .inl q
theorem U.same (g : Gr X Y Z Ns h Z1 Ns1 h1 ws) {rs : List Nat} (dj : ∀ r, r ∈ rs → r ∉ ws) : ∀ n, U Z Y Ns rs n → h1[n]? = h[n]? := fun n u => by
  rcases u with u | u | ⟨r, hr, u⟩
  · exact g.zs n u
  · exact g.ys n u
  · exact (g.keep r (dj r hr) n u).1
/-- does the type stand such touches -/
def Wy.free (ws : List Nat) : Wy → Bool
  | .B rs => rs.all fun r => !ws.contains r
  | _ => true
theorem free_dj {ws rs : List Nat} (f : Wy.free ws (.B rs) = true) : ∀ r, r ∈ rs → r ∉ ws := fun r hr q => by
  unfold Wy.free at f
  rw [List.all_eq_true] at f
  have := f r hr
  simp at this
  exact this q
theorem Val.go {ty : Wy} {d : D} {t : T} {N : List Nat} (v : Val Z Y Ns h ty d t N) (g : Gr X Y Z Ns h Z1 Ns1 h1 ws) (f : ty.free ws = true) (sN : ∀ n ∈ N, h1[n]? = h[n]?) : Val Z1 Y Ns1 h1 ty d t N := by
  cases ty with
  | F => exact ⟨v.1.mono g.zz g.zz g.zs g.zs, v.2⟩
  | O => exact W.mono g.zz g.zs v sN
  | B rs => exact Rp.mono g.zz (U.mono g (free_dj f)) g.zs (U.same g (free_dj f)) v
  | I =>
    obtain ⟨n, c, ds, ts, M, rfl, rfl, rfl, e, r⟩ := v
    exact ⟨n, c, ds, ts, M, rfl, rfl, rfl, (sN n (by simp)).trans e, r.mono g.zz g.zs fun m hm => sN m (by simp [hm])⟩
/-- with what is in hand -/
def xN (X : Nat → Prop) (N : List Nat) : Nat → Prop := fun n => X n ∨ n ∈ N
theorem Tmp.xok {N : List Nat} (p : Tmp Z Y Ns h N) (x : Xok X Y Z Ns h) : Xok (xN X N) Y Z Ns h := fun n q => by
  rcases q with q | q
  · exact x n q
  · exact p.ow n q
theorem Tmp.go {N : List Nat} (p : Tmp Z Y Ns h N) (g : Gr (xN X N) Y Z Ns h Z1 Ns1 h1 ws) : Tmp Z1 Y Ns1 h1 N :=
  ⟨p.nd, fun n hn => ⟨Nat.lt_of_lt_of_le (p.ow n hn).1 g.len, (g.xs n (.inr hn)).2.1, (p.ow n hn).2.2.1, (g.xs n (.inr hn)).2.2⟩⟩
theorem Gr.xNs {N : List Nat} (g : Gr (xN X N) Y Z Ns h Z1 Ns1 h1 ws) : ∀ n ∈ N, h1[n]? = h[n]? := fun n hn => (g.xs n (.inr hn)).1
theorem Tmp.nil : Tmp Z Y Ns h [] := ⟨List.nodup_nil, fun n hn => by cases hn⟩
/-- fewer slots are spoken of -/
theorem Inv.less {Γ' : G} (I : Inv Z Y Γ Ns σ τ h) (hl : Γ'.length = σ.length) (s : ∀ (i : Nat) (ty : Wy), Γ'[i]? = some (some ty) → Γ[i]? = some (some ty)) : Inv Z Y Γ' Ns σ τ h := ⟨I.ln, hl, fun i ty e => I.val i ty (s i ty e), I.nd, I.dj, I.ow, I.zl, I.yl⟩
end
/-- slots that fall away: moved ones, and what is borrowed from touched ones -/
def inval (Γ : G) (ws ms : List Nat) : G := Γ.mapIdx fun i o => if ms.contains i then none else match o with
  | some ty => if ty.free ws then some ty else none
  | none => none
theorem inval_len {Γ : G} {ws ms : List Nat} : (inval Γ ws ms).length = Γ.length := by unfold inval; simp
theorem inval_some {Γ : G} {ws ms : List Nat} {i : Nat} {ty : Wy} (e : (inval Γ ws ms)[i]? = some (some ty)) : Γ[i]? = some (some ty) ∧ i ∉ ms ∧ ty.free ws = true := by
  unfold inval at e
  rw [List.getElem?_mapIdx] at e
  cases q : Γ[i]? with
  | none => rw [q] at e; cases e
  | some o =>
    rw [q] at e
    simp only [Option.map_some, Option.some.injEq] at e
    split at e
    · cases e
    · rename_i hm
      cases o with
      | none => cases e
      | some ty' =>
        simp only at e
        split at e
        · rename_i hf
          cases e
          exact ⟨rfl, by simpa using hm, hf⟩
        · cases e
theorem inval_of {Γ : G} {ws ms : List Nat} {i : Nat} {ty : Wy} (e : Γ[i]? = some (some ty)) (hm : i ∉ ms) (hf : ty.free ws = true) : (inval Γ ws ms)[i]? = some (some ty) := by
  unfold inval
  rw [List.getElem?_mapIdx, e]
  simp [hm, hf]
theorem free_app {ws ws' : List Nat} {ty : Wy} : ty.free (ws ++ ws') = true ↔ ty.free ws = true ∧ ty.free ws' = true := by
  cases ty with
  | B rs =>
    simp only [Wy.free, List.all_eq_true, List.contains_iff_mem, Bool.not_eq_true', decide_eq_false_iff_not]
    constructor
    · intro q
      exact ⟨fun r hr => by have := q r hr; simp at this ⊢; exact this.1, fun r hr => by have := q r hr; simp at this ⊢; exact this.2⟩
    · intro q r hr
      have a := q.1 r hr
      have b := q.2 r hr
      simp at a b ⊢
      exact ⟨a, b⟩
  | _ => simp [Wy.free]
theorem inval_app {Γ : G} {ws ms ws' ms' : List Nat} : ∀ (i : Nat) (ty : Wy), (inval Γ (ws ++ ws') (ms ++ ms'))[i]? = some (some ty) → (inval (inval Γ ws ms) ws' ms')[i]? = some (some ty) := fun i ty e => by
  obtain ⟨a, b, c⟩ := inval_some e
  rw [free_app] at c
  simp at b
  exact inval_of (inval_of a b.1 c.1) b.2 c.2
theorem inval_left {Γ : G} {ws ms ws' ms' : List Nat} : ∀ (i : Nat) (ty : Wy), (inval Γ (ws ++ ws') (ms ++ ms'))[i]? = some (some ty) → (inval Γ ws ms)[i]? = some (some ty) := fun i ty e => by
  obtain ⟨a, b, c⟩ := inval_some e
  rw [free_app] at c
  simp at b
  exact inval_of a b.1 c.1
theorem inval_app' {Γ : G} {ws ms ws' ms' : List Nat} : ∀ (i : Nat) (ty : Wy), (inval (inval Γ ws ms) ws' ms')[i]? = some (some ty) → (inval Γ (ws ++ ws') (ms ++ ms'))[i]? = some (some ty) := fun i ty e => by
  obtain ⟨a, b, c⟩ := inval_some e
  obtain ⟨a', b', c'⟩ := inval_some a
  exact inval_of a' (by simp [b, b']) (free_app.mpr ⟨c', c⟩)
inductive VR where
  | ok (t : T) (os : List T) | exc (c : Nat) (ts : List T) (os : List T) | bad
abbrev VFn := List T → VR
/-- a parameter: borrowed, in and out, an object that is being made -/
inductive Pm where
  | b | o | i
  deriving DecidableEq
def gam (io : List Pm) : G := io.map fun
  | .b => some (.B [])
  | .o => some .O
  | .i => some .I
def gamO (io : List Pm) : G := io.map fun
  | .b => none
  | .o => some .O
  | .i => some .I
def outs : List Pm → Sm → List T
  | .b :: io, _ :: τ => outs io τ
  | _ :: io, some t :: τ => t :: outs io τ
  | _ :: io, none :: τ => outs io τ
  | _, _ => []
def ixs (io : List Pm) : List Nat := List.range io.length
def Sim (io : List Pm) (rk : Wy) (f : Fn) (g : VFn) : Prop := ∀ (X Z Y : Nat → Prop) (Ns : Os) (ds : List D) (ts : List T) (h : Hh), ds.length = io.length → Xok X Y Z Ns h → Inv Z Y (gam io) Ns (ds.map some) (ts.map some) h → match g ts with
  | .bad => True
  | .ok t os => ∃ d h' Z' Ns' N τ', f ds h = .ok d h' ∧ Inv Z' Y (gamO io) Ns' (ds.map some) τ' h' ∧ outs io τ' = os ∧ Gr X Y Z Ns h Z' Ns' h' (ixs io) ∧ Val Z' Y Ns' h' rk d t N ∧ Tmp Z' Y Ns' h' N ∧ ∀ n, n ∈ N → ¬ X n
  | .exc c xs os => ∃ h' Z' Ns' τ', f ds h = .exc c (embs xs) h' ∧ flat0s xs = true ∧ Inv Z' Y (gamO io) Ns' (ds.map some) τ' h' ∧ outs io τ' = os ∧ Gr X Y Z Ns h Z' Ns' h' (ixs io)
structure GFn where
  run : Fn
  tree : VFn
  io : List Pm
  rk : Wy
  ok : Sim io rk run tree
end L3

namespace L3
open PySem L2

inductive Q (α : Type) where
  | ok (a : α) (τ : Sm) | exc (c : Nat) (ts : List T) (τ : Sm) | bad
def Q.bind {α β : Type} (r : Q α) (f : α → Sm → Q β) : Q β := match r with
  | .ok a τ => f a τ
  | .exc c ts τ => .exc c ts τ
  | .bad => .bad
@[simp] theorem q_ok {α β : Type} (a : α) (τ : Sm) (f : α → Sm → Q β) : (Q.ok a τ).bind f = f a τ := rfl
@[simp] theorem q_exc {α β : Type} (c : Nat) (ts : List T) (τ : Sm) (f : α → Sm → Q β) : (Q.exc c ts τ : Q α).bind f = .exc c ts τ := rfl
@[simp] theorem q_bad {α β : Type} (f : α → Sm → Q β) : (Q.bad : Q α).bind f = .bad := rfl

inductive Stp where
  | f (i : Nat) | i (k : Nat)
  deriving DecidableEq
def kids : T → List T
  | .lst xs => xs
  | .ins _ xs => xs
  | .dct _ xs => xs
  | _ => []
def T.with : T → List T → T
  | .lst _, ys => .lst ys
  | .ins c _, ys => .ins c ys
  | .dct ks _, ys => .dct ks ys
  | t, _ => t
def chIx : T → Stp → Option Nat
  | .lst _, .i k => some k
  | .ins c _, .f i => if imm c then none else some i
  | _, _ => none
def getP : T → List Stp → Option T
  | t, [] => some t
  | t, s :: r => match chIx t s with
    | some k => match (kids t)[k]? with
      | some u => getP u r
      | none => none
    | none => none
def setP : T → List Stp → T → T
  | _, [], x => x
  | t, s :: r, x => match chIx t s with
    | some k => match (kids t)[k]? with
      | some u => t.with ((kids t).set k (setP u r x))
      | none => t
    | none => t
def getR (τ : Sm) (r : Nat) (s : List Stp) : Option T := match τ[r]? with
  | some (some t) => getP t s
  | _ => none
def setR (τ : Sm) (r : Nat) (s : List Stp) (x : T) : Sm := match τ[r]? with
  | some (some t) => τ.set r (some (setP t s x))
  | _ => τ

def truT : T → Option Bool
  | .non => some false
  | .bl b => some b
  | .int i => some (i != 0)
  | .str y => if y.length ≤ sizeLine then some ((y.length : Int) != 0) else none
  | .tup xs => some (!xs.isEmpty)
  | .lst xs => some (!xs.isEmpty)
  | .dct ks _ => some (!ks.isEmpty)
  | _ => none
def tyT : T → Option Kd
  | .non => some .non
  | .bl _ => some .bool
  | .int _ => some .int
  | .str _ => some .str
  | .tup _ => some .tuple
  | .lst _ => some .list
  | .dct _ _ => some .dict
  | _ => none
mutual
def datT : Nat → T → Option PyData
  | 0, _ => none
  | _ + 1, .non => some .none
  | _ + 1, .bl b => some (.bool b)
  | _ + 1, .int i => some (.int i)
  | _ + 1, .str x => some (.str x)
  | k + 1, .tup xs => (datsT k xs).map .tuple
  | k + 1, .lst xs => (datsT k xs).map .list
  | _ + 1, _ => none
def datsT : Nat → List T → Option (List PyData)
  | _, [] => some []
  | 0, _ :: _ => none
  | k + 1, d :: ds => match datT (k + 1) d, datsT (k + 1) ds with
    | some a, some b => some (a :: b)
    | _, _ => none
end
def subT : T → T → Option T
  | .tup xs, .int i => atI xs i
  | .lst xs, .int i => atI xs i
  | .str z, .int i => if z.length ≤ sizeLine then (atI z.cps.toList i).map fun c => .str ⟨#[c]⟩ else none
  | _, _ => none
def cutT (xs : List T) (lo hi : Option Int) : List T := (xs.drop (HT.sIx xs.length 0 lo)).take (HT.sIx xs.length xs.length hi - HT.sIx xs.length 0 lo)
def slcT : T → Option Int → Option Int → Option (List T)
  | .rol xs, lo, hi => some (cutT xs lo hi)
  | .lst xs, lo, hi => some (cutT xs lo hi)
  | _, _, _ => none
def binT : Operator → T → T → Option T
  | .Add, .int i, .int j => some (.int (i + j))
  | .Add, .str a, .str b => if a.length + b.length ≤ sizeLine then some (.str (a ++ b)) else none
  | .Sub, .int i, .int j => some (.int (i - j))
  | .Mult, .int i, .int j => if i.natAbs.log2 + j.natAbs.log2 < 1000000 then some (.int (i * j)) else none
  | .FloorDiv, .int i, .int j => if j ≠ 0 ∧ j.natAbs.log2 < 9000 then some (.int (i.fdiv j)) else none
  | .Mod, .int i, .int j => if j ≠ 0 then some (.int (i.fmod j)) else none
  | .Pow, .int i, .int j => if 0 ≤ j ∧ j ≤ 1000000 ∧ i.natAbs < 2 ^ 64 then some (.int (i ^ j.toNat)) else none
  | _, _, _ => none
def eqDataT (x y : T) : Option Bool := match datT 9 x, datT 9 y with
  | some a, some b => if SeqAt.shaped a = true ∧ SeqAt.shaped b = true then some (PyData.eqv a b) else none
  | _, _ => none
def eqT : T → T → Option Bool
  | .int i, .int j => some (decide (i = j))
  | .str i, .str j => some (decide (i = j))
  | .bl i, .bl j => some (decide (i = j))
  | x, y => eqDataT x y
def inDataT (x y : T) : Option Bool := match datT 9 x, datT 9 y with
  | some a, some (.list bs) => if SeqAt.shaped a = true ∧ SeqAt.shaped (.list bs) = true then some (bs.any fun z => PyData.eqv z a) else none
  | _, _ => none
def cmpT : CmpOp → T → T → Option Bool
  | .Eq, x, y => eqT x y
  | .NotEq, x, y => (eqT x y).map not
  | .Is, .non, .non => some true
  | .Is, _, .non => some false
  | .IsNot, .non, .non => some false
  | .IsNot, _, .non => some true
  | .In, x, .lst ys => inDataT x (.lst ys)
  | .NotIn, x, .lst ys => (inDataT x (.lst ys)).map not
  | .Lt, .int i, .int j => some (decide (i < j))
  | .LtE, .int i, .int j => some (decide (i ≤ j))
  | .Gt, .int i, .int j => some (decide (j < i))
  | .GtE, .int i, .int j => some (decide (j ≤ i))
  | _, _, _ => none
def lenT : T → Option Nat
  | .tup xs => some xs.length
  | .lst xs => some xs.length
  | .str z => if z.length ≤ sizeLine then some z.length else none
  | _ => none
def itemsT : T → Option (List T)
  | .tup xs => some xs
  | .lst xs => some xs
  | _ => none
def blsT : List T → Option (List Bool)
  | [] => some []
  | .bl b :: r => (blsT r).map (b :: ·)
  | _ :: _ => none
def biT : Bi → List T → Option T
  | .abs, [.int i] => some (.int (if i < 0 then -i else i))
  | .len, [x] => (lenT x).map fun (n : Nat) => T.int (n : Int)
  | .min, [.int i, .int j] => some (.int (if j < i then j else i))
  | .max, [.int i, .int j] => some (.int (if j > i then j else i))
  | .all, [.lst xs] => (blsT xs).map fun bs => .bl (bs.all id)
  | .any, [.lst xs] => (blsT xs).map fun bs => .bl (bs.any id)
  | _, _ => none
mutual
def asgV : Tg → T → Sm → Option Sm
  | .n i, d, σ => some (σ.set i (some d))
  | .tup ts, .tup ds, σ => asgVs ts ds σ
  | _, _, _ => none
def asgVs : Tg → List T → Sm → Option Sm
  | .nil, [], σ => some σ
  | .cons a b, d :: ds, σ => (asgV a d σ).bind fun σ' => asgVs b ds σ'
  | _, _, _ => none
end
def tgs : Tg → List Nat
  | .n i => [i]
  | .tup ts => tgs ts
  | .nil => []
  | .cons a b => tgs a ++ tgs b
inductive VA where
  | v (t : T) | p (r : Nat) (s : List Stp)
inductive TA where
  | v (ty : Wy) | p (r : Nat)
  deriving DecidableEq
def pickV : List Ar → List VA → List VA → Option (List VA)
  | [], _, _ => some []
  | .p i :: r, ds, zs => match ds[i]? with
    | some x => (pickV r ds zs).map (x :: ·)
    | none => none
  | .k j :: r, ds, zs => match zs[j]? with
    | some x => (pickV r ds zs).map (x :: ·)
    | none => none
  | .d x :: r, ds, zs => (pickV r ds zs).map (.v (ub x) :: ·)
def argsV (b : Option (List Ar)) (ds zs : List VA) : Option (List VA) := match b with
  | none => some ds
  | some b => pickV b ds zs
def takeA (τ : Sm) : VA → Option T
  | .v t => some t
  | .p r s => getR τ r s
def takeAs (τ : Sm) : List VA → Option (List T)
  | [] => some []
  | a :: as => match takeA τ a with
    | some t => (takeAs τ as).map (t :: ·)
    | none => none
def wb : List Pm → List VA → List T → Sm → Option Sm
  | [], [], [], τ => some τ
  | .b :: io, _ :: as, os, τ => wb io as os τ
  | .o :: io, .p r s :: as, o :: os, τ => wb io as os (setR τ r s o)
  | _, _, _, _ => none
def callV (f : GFn) (as : List VA) (τ : Sm) : Q T := match takeAs τ as with
  | none => .bad
  | some ts => match f.tree ts with
    | .bad => .bad
    | .ok t os => match wb f.io as os τ with
      | some τ' => .ok t τ'
      | none => .bad
    | .exc c xs os => match wb f.io as os τ with
      | some τ' => .exc c xs τ'
      | none => .bad
def clsT : T → Option Nat
  | .ins c _ => some c
  | _ => none
/-- an object is made -/
def makeV (c : Nat) (f : GFn) (as : List VA) (τ : Sm) : Q T := match takeAs τ as with
  | none => .bad
  | some ts => match f.tree (.ins c [] :: ts) with
    | .bad => .bad
    | .ok .non (o :: os) => if clsT o = some c then (match wb f.io.tail as os τ with
      | some τ' => .ok o τ'
      | none => .bad) else .bad
    | .ok _ _ => .bad
    | .exc d xs (o :: os) => match wb f.io.tail as os τ with
      | some τ' => .exc d xs τ'
      | none => .bad
    | .exc _ _ _ => .bad
def numT (n : Nat) : List T → List T
  | [] => []
  | x :: r => .tup [.int n, x] :: numT (n + 1) r
def zipT : List T → List T → List T
  | x :: xs, y :: ys => .tup [x, y] :: zipT xs ys
  | _, _ => []
def rngT : List T → Option (List T)
  | [.int j] => if -(2 ^ 62) ≤ j ∧ j < 2 ^ 62 then some ((List.range j.toNat).map fun (i : Nat) => .int i) else none
  | [.int i, .int j] => if -(2 ^ 62) ≤ i ∧ i < 2 ^ 62 ∧ -(2 ^ 62) ≤ j ∧ j < 2 ^ 62 then some ((List.range (j - i).toNat).map fun (k : Nat) => .int (i + k)) else none
  | _ => none
def lstT : T → Option (List T)
  | .lst xs => some xs
  | _ => none
def seqT : T → Option (List T)
  | .tup xs => some xs
  | .lst xs => some xs
  | .rol xs => some xs
  | _ => none
def lrngT (x y : T) : Option T := match x, y with
  | .int i, .int j => if -(2 ^ 62) ≤ i ∧ i < 2 ^ 62 ∧ -(2 ^ 62) ≤ j ∧ j < 2 ^ 62 ∧ (j - i).toNat ≤ 16777216 then some (.lst ((List.range (j - i).toNat).map fun (k : Nat) => .int (i + k))) else none
  | _, _ => none
def fldT (tb : List (Nat × Nat)) : T → Option T
  | .ins c ts => match tb.lookup c with
    | some i => ts[i]?
    | none => none
  | _ => none
def xfT (tb : List (Nat × Nat)) (c : Nat) (ts : List T) : Option T := if flat0s ts = true then (match tb.lookup c with
  | some i => ts[i]?
  | none => none) else none

inductive VE where
  | var (i : Nat) | mv (i : Nat) | cst (t : T) | glob (x : Str) (t : T) | fl (e : VE)
  | bin (op : Operator) (a b : VE) | cat (k : Bool) (a b : VE) | neg (a : VE) | not (a : VE) | and (a b : VE) | or (a b : VE)
  | cmp (op : CmpOp) (a b : VE) | chain (op op' : CmpOp) (a b c : VE) | ife (c a b : VE)
  | tup (es : VE) | lst (es : VE) | sub (a i : VE) | slc (k : Bool) (a lo hi : VE)
  | call (f : GFn) (x : Str) (b : Option (List Ar)) (es : VE) (ks : List Str) (kes : VE)
  | meth (c : Nat) (f : GFn) (m : Str) (b : Option (List Ar)) (o es : VE) (ks : List Str) (kes : VE)
  | make (c : Nat) (f : GFn) (b : Option (List Ar)) (es : VE) (ks : List Str) (kes : VE)
  | fld (tb : List (Nat × Nat)) (f : Str) (a : VE)
  | bi (b : Bi) (es : VE) | lis (k : Bool) (e : VE) | tpl (e : VE) | isi (a : VE) (t : Ty)
  | app (o e : VE) | pop (o : VE)
  | comp (own : List (Str × Nat)) (g : Tg) (it test elt : VE)
  | rng (es : VE) | enum (a : VE) | zip (a b : VE) | rev (a : VE) | lrng (a b : VE) | rsl (k : Bool) (a : VE) | leno (c : Nat) (f : GFn) (o : VE)
  | xf (v : Nat) (f : Str) (tb : List (Nat × Nat)) (c : Nat) (ts : List T) | xis (v : Nat) (t : String) (b : Bool)
  | ref (e : VE) | rv (i : Nat) | nil | cons (e es : VE)
/-- the term of the language over the heap -/
def er : VE → E
  | .var i => .var i
  | .mv i => .var i
  | .cst t => .cst (emb t)
  | .glob x t => .glob x (emb t)
  | .fl e => er e
  | .bin op a b => .bin op (er a) (er b)
  | .cat _ a b => .bin .Add (er a) (er b)
  | .neg a => .neg (er a)
  | .not a => .not (er a)
  | .and a b => .and (er a) (er b)
  | .or a b => .or (er a) (er b)
  | .cmp op a b => .cmp op (er a) (er b)
  | .chain op op' a b c => .chain op op' (er a) (er b) (er c)
  | .ife c a b => .ife (er c) (er a) (er b)
  | .tup es => .tup (er es)
  | .lst es => .lst (er es)
  | .sub a i => .sub (er a) (er i)
  | .slc _ a lo hi => .slc (er a) (er lo) (er hi)
  | .call f x b es ks kes => .call f.run x b (er es) ks (er kes)
  | .meth c f m b o es ks kes => .meth [(c, f.run)] m b (er o) (er es) ks (er kes)
  | .make c f b es ks kes => .make c f.run b (er es) ks (er kes)
  | .fld tb f a => .fld tb f (er a)
  | .bi b es => .bi b (er es)
  | .lis _ e => .bi .list (.cons (er e) .nil)
  | .tpl e => .bi .tuple (.cons (er e) .nil)
  | .isi a t => .isi (er a) t
  | .app o e => .bm .append (er o) (.cons (er e) .nil)
  | .pop o => .bm .pop (er o) .nil
  | .comp own g it test elt => .comp own g (er it) (er test) (er elt)
  | .rng es => .rng (er es)
  | .enum a => .enum (er a)
  | .zip a b => .zip (er a) (er b)
  | .rev a => .rev (er a)
  | .lrng a b => .lrng (er a) (er b)
  | .rsl _ a => .rsl (er a)
  | .leno c f o => .leno [(c, f.run)] (er o)
  | .xf v f tb c ts => .xf v f tb c (embs ts)
  | .xis v t b => .xis v t b
  | .ref e => er e
  | .rv i => .var i
  | .nil => .nil
  | .cons e es => .cons (er e) (er es)

structure VDen where
  v : Sm → Q T
  t : Sm → Q Bool
  a : Sm → Q (List VA)
  o : Sm → Q (Option Int)
  i : Sm → Q (List T)
  p : Sm → Q (Nat × List Stp)
  x : Sm → Q VA
def opQ {α : Type} (x : Option α) (τ : Sm) : Q α := match x with
  | some a => .ok a τ
  | none => .bad
def intQ (x : T) (τ : Sm) : Q (Option Int) := match x with
  | .int i => .ok (some i) τ
  | _ => .bad
def VDen.of (v : Sm → Q T) : VDen :=
  ⟨v, fun τ => (v τ).bind fun x τ1 => opQ (truT x) τ1, fun _ => .bad, fun τ => (v τ).bind intQ, fun τ => (v τ).bind fun x τ1 => opQ (seqT x) τ1, fun _ => .bad, fun τ => (v τ).bind fun x τ1 => .ok (.v x) τ1⟩
def varQ (τ : Sm) (i : Nat) : Q T := match τ[i]? with
  | some (some t) => .ok t τ
  | _ => .bad
def negQ (x : T) (τ : Sm) : Q T := match x with
  | .int i => .ok (.int (-i)) τ
  | _ => .bad
def boolQ {α : Type} (x : T) (f g : Q α) : Q α := match x with
  | .bl true => f
  | .bl false => g
  | _ => .bad
def blQ (x : Option Bool) (τ : Sm) : Q T := match x with
  | some b => .ok (.bl b) τ
  | none => .bad
def flQ (x : T) (τ : Sm) : Q T := if flat x = true then .ok x τ else .bad
/-- a new list; if so asked, of flat things alone -/
def newQ (k : Bool) (x : Option (List T)) (τ : Sm) : Q T := match x with
  | some xs => if (!k || flats xs) = true then .ok (.lst xs) τ else .bad
  | none => .bad
def catT : T → T → Option (List T)
  | .lst xs, .lst ys => if xs.length + ys.length ≤ sizeLine then some (xs ++ ys) else none
  | _, _ => none
def valsA : List VA → Option (List T)
  | [] => some []
  | .v t :: r => (valsA r).map (t :: ·)
  | _ :: _ => none
def few {α : Type} (n : Nat) (xs : List α) : Option (List α) := if xs.length ≤ n then some xs else none
def wipeV (σ : Sm) : List Nat → Sm
  | [] => σ
  | i :: r => (wipeV σ r).set i none
/-- the slots own stand as they were -/
def rst (τ0 : Sm) : List Nat → Sm → Sm
  | [], τ => τ
  | i :: r, τ => (rst τ0 r τ).set i (τ0.getD i none)
def turnV (g : Tg) (own : List Nat) (test : Sm → Q Bool) (elt : Sm → Q T) (t : T) (τ : Sm) : Q (Option T) := match asgV g t (wipeV τ own) with
  | none => .bad
  | some τ2 => (test τ2).bind fun k τ3 => if k = true then (elt τ3).bind fun y τ4 => .ok (some y) (rst τ own τ4) else .ok none (rst τ own τ3)
def noexcQ {α : Type} : Q α → Q α
  | .exc _ _ _ => .bad
  | r => r
def turnsV (f : T → Sm → Q (Option T)) : List T → Sm → Q (List T)
  | [], τ => .ok [] τ
  | t :: ts, τ => (f t τ).bind fun o τ1 => (turnsV f ts τ1).bind fun ys τ2 => .ok (match o with | some y => y :: ys | none => ys) τ2
def compQ (f : T → Sm → Q (Option T)) (ts : List T) (τ : Sm) : Q T := (noexcQ (turnsV f ts τ)).bind fun ys τ2 => if ys.length ≤ sizeLine then .ok (.lst ys) τ2 else .bad
def lenQ (x : T) (τ : Sm) : Q T := match x with
  | .int i => if 0 ≤ i ∧ i < 2 ^ 62 then .ok (.int i) τ else .bad
  | _ => .bad
def clsA (τ : Sm) (c : Nat) (a : VA) : Bool := match takeA τ a with
  | some t => clsT t == some c
  | none => false
def fldP (tb : List (Nat × Nat)) (τ : Sm) (r : Nat) (s : List Stp) : Option (List Stp) := match getR τ r s with
  | some (.ins c ts) => match tb.lookup c with
    | some i => if imm c = false ∧ i < ts.length then some (s ++ [.f i]) else none
    | none => none
  | _ => none
def subP (τ : Sm) (r : Nat) (s : List Stp) (x : T) : Option (List Stp) := match getR τ r s, x with
  | some (.lst ts), .int i => match ixN ts.length i with
    | some k => if k < ts.length then some (s ++ [.i k]) else none
    | none => none
  | _, _ => none
def appQ (r : Nat) (s : List Stp) (t : T) (τ : Sm) : Q T := match getR τ r s with
  | some (.lst ts) => if ts.length < sizeLine then .ok .non (setR τ r s (.lst (ts ++ [t]))) else .bad
  | _ => .bad
def popQ (r : Nat) (s : List Stp) (τ : Sm) : Q T := match getR τ r s with
  | some (.lst ts) => match ts[ts.length - 1]? with
    | some y => .ok y (setR τ r s (.lst ts.dropLast))
    | none => .bad
  | _ => .bad
def isLst : Option T → Bool
  | some (.lst _) => true
  | _ => false
noncomputable def vd : VE → VDen
  | .var i => { VDen.of (fun τ => varQ τ i) with p := fun τ => .ok (i, []) τ }
  | .mv i => .of fun τ => varQ τ i
  | .cst t => .of fun τ => .ok t τ
  | .glob _ t => .of fun τ => .ok t τ
  | .fl e => .of fun τ => ((vd e).v τ).bind flQ
  | .bin op a b => .of fun τ => ((vd a).v τ).bind fun x τ1 => ((vd b).v τ1).bind fun y τ2 => opQ (binT op x y) τ2
  | .cat k a b => .of fun τ => ((vd a).v τ).bind fun x τ1 => ((vd b).v τ1).bind fun y τ2 => newQ k (catT x y) τ2
  | .neg a => .of fun τ => ((vd a).v τ).bind negQ
  | .not a => { VDen.of (fun τ => (((vd a).v τ).bind fun x τ1 => opQ (truT x) τ1).bind fun b τ1 => .ok (.bl (!b)) τ1) with t := fun τ => ((vd a).t τ).bind fun b τ1 => .ok (!b) τ1 }
  | .and a b => { VDen.of (fun τ => ((vd a).v τ).bind fun x τ1 => boolQ x ((vd b).v τ1) (.ok (.bl false) τ1)) with
      t := fun τ => ((vd a).t τ).bind fun k τ1 => if k = true then (vd b).t τ1 else .ok false τ1 }
  | .or a b => { VDen.of (fun τ => ((vd a).v τ).bind fun x τ1 => boolQ x (.ok (.bl true) τ1) ((vd b).v τ1)) with
      t := fun τ => ((vd a).t τ).bind fun k τ1 => if k = true then .ok true τ1 else (vd b).t τ1 }
  | .cmp op a b => .of fun τ => ((vd a).v τ).bind fun x τ1 => ((vd b).v τ1).bind fun y τ2 => blQ (cmpT op x y) τ2
  | .chain op op' a b c => .of fun τ => ((vd a).v τ).bind fun x τ1 => ((vd b).v τ1).bind fun y τ2 => (blQ (cmpT op x y) τ2).bind fun z τ3 =>
      boolQ z (((vd c).v τ3).bind fun w τ4 => blQ (cmpT op' y w) τ4) (.ok (.bl false) τ3)
  | .ife c a b => { VDen.of (fun τ => ((vd c).t τ).bind fun k τ1 => if k = true then (vd a).v τ1 else (vd b).v τ1) with t := fun _ => .bad }
  | .tup es => .of fun τ => ((vd es).a τ).bind fun as τ1 => (opQ (valsA as) τ1).bind fun ts τ1 => (opQ (few 1000 ts) τ1).bind fun ts τ1 => .ok (.tup ts) τ1
  | .lst es => .of fun τ => ((vd es).a τ).bind fun as τ1 => (opQ (valsA as) τ1).bind fun ts τ1 => (opQ (few 1000 ts) τ1).bind fun ts τ1 => .ok (.lst ts) τ1
  | .sub a i => { VDen.of (fun τ => ((vd a).v τ).bind fun x τ1 => ((vd i).v τ1).bind fun y τ2 => opQ (subT x y) τ2) with
      p := fun τ => ((vd a).p τ).bind fun rs τ1 => ((vd i).v τ1).bind fun y τ2 => (opQ (subP τ2 rs.1 rs.2 y) τ2).bind fun s τ2 => .ok (rs.1, s) τ2 }
  | .slc k a lo hi => .of fun τ => ((vd a).v τ).bind fun x τ1 => ((vd lo).o τ1).bind fun l τ2 => ((vd hi).o τ2).bind fun u τ3 => newQ k (slcT x l u) τ3
  | .call f _ b es _ kes => .of fun τ => ((vd es).a τ).bind fun as τ1 => ((vd kes).a τ1).bind fun zs τ2 => (opQ (argsV b as zs) τ2).bind fun as τ2 => callV f as τ2
  | .meth c f _ b o es _ kes => .of fun τ => ((vd o).x τ).bind fun x τ1 => if clsA τ1 c x = true then ((vd es).a τ1).bind fun as τ2 => ((vd kes).a τ2).bind fun zs τ3 => (opQ (argsV b (x :: as) zs) τ3).bind fun as τ3 => callV f as τ3 else .bad
  | .make c f b es _ kes => .of fun τ => ((vd es).a τ).bind fun as τ1 => ((vd kes).a τ1).bind fun zs τ2 => (opQ (argsV b (.v .non :: as) zs) τ2).bind fun as τ2 => makeV c f as.tail τ2
  | .fld tb _ a => { VDen.of (fun τ => ((vd a).v τ).bind fun x τ1 => opQ (fldT tb x) τ1) with
      p := fun τ => ((vd a).p τ).bind fun rs τ1 => (opQ (fldP tb τ1 rs.1 rs.2) τ1).bind fun s τ1 => .ok (rs.1, s) τ1 }
  | .bi b es => .of fun τ => ((vd es).a τ).bind fun as τ1 => (opQ (valsA as) τ1).bind fun ts τ1 => opQ (biT b ts) τ1
  | .lis k e => .of fun τ => ((vd e).v τ).bind fun x τ1 => newQ k (itemsT x) τ1
  | .tpl e => .of fun τ => ((vd e).v τ).bind fun x τ1 => (opQ (lstT x) τ1).bind fun xs τ1 => .ok (.tup xs) τ1
  | .isi a t => .of fun τ => ((vd a).v τ).bind fun x τ1 => blQ ((tyT x).map fun k => isTy k t) τ1
  | .app o e => .of fun τ => ((vd o).p τ).bind fun rs τ1 => if isLst (getR τ1 rs.1 rs.2) = true then ((vd e).v τ1).bind fun t τ2 => appQ rs.1 rs.2 t τ2 else .bad
  | .pop o => .of fun τ => ((vd o).p τ).bind fun rs τ1 => popQ rs.1 rs.2 τ1
  | .comp own g it test elt => .of fun τ => ((vd it).i τ).bind fun s τ1 => compQ (turnV g (own.map (·.2)) (vd test).t (vd elt).v) s τ1
  | .rng es => { VDen.of (fun _ => .bad) with i := fun τ => ((vd es).a τ).bind fun as τ1 => (opQ (valsA as) τ1).bind fun ts τ1 => opQ (rngT ts) τ1 }
  | .enum a => { VDen.of (fun _ => .bad) with i := fun τ => ((vd a).v τ).bind fun x τ1 => (opQ (lstT x) τ1).bind fun xs τ1 => .ok (numT 0 xs) τ1 }
  | .zip a b => { VDen.of (fun _ => .bad) with i := fun τ => ((vd a).v τ).bind fun x τ1 => ((vd b).v τ1).bind fun y τ2 => (opQ (lstT x) τ2).bind fun xs τ2 => (opQ (lstT y) τ2).bind fun ys τ2 => if xs.length = ys.length then .ok (zipT xs ys) τ2 else .bad }
  | .rev a => { VDen.of (fun _ => .bad) with i := fun τ => ((vd a).v τ).bind fun x τ1 => (opQ (lstT x) τ1).bind fun xs τ1 => .ok xs.reverse τ1 }
  | .lrng a b => .of fun τ => ((vd a).v τ).bind fun x τ1 => ((vd b).v τ1).bind fun y τ2 => opQ (lrngT x y) τ2
  | .rsl k a => .of fun τ => ((vd a).v τ).bind fun x τ1 => newQ k ((lstT x).map List.reverse) τ1
  | .leno c f o => .of fun τ => ((vd o).v τ).bind fun x τ1 => if clsA τ1 c (.v x) = true then (callV f [.v x] τ1).bind lenQ else .bad
  | .xf _ _ tb c ts => .of fun τ => opQ (xfT tb c ts) τ
  | .xis _ _ b => .of fun τ => .ok (.bl b) τ
  | .ref e => { VDen.of (fun _ => .bad) with x := fun τ => ((vd e).p τ).bind fun rs τ1 => if (getR τ1 rs.1 rs.2).isSome = true then .ok (.p rs.1 rs.2) τ1 else .bad }
  | .rv i => { VDen.of (fun _ => .bad) with x := fun τ => .ok (.p i []) τ }
  | .nil => ⟨fun _ => .bad, fun τ => .ok true τ, fun τ => .ok [] τ, fun τ => .ok none τ, fun _ => .bad, fun _ => .bad, fun _ => .bad⟩
  | .cons e es => { VDen.of (fun _ => .bad) with a := fun τ => ((vd e).x τ).bind fun d τ1 => ((vd es).a τ1).bind fun ds τ2 => .ok (d :: ds) τ2 }

inductive VS where
  | nil | cons (s r : VS)
  | pass | expr (e : VE) | asg (i : Nat) (e : VE) | par (i j : Nat) (a b : VE) | unp (g : Tg) (e : VE) | sts (o i e : VE)
  | ret (e : VE) | retN | ife (c : VE) (t u : VS) | whl (c : VE) (b : VS) | fr (g : Tg) (it : VE) (b : VS)
  | brk | cnt | never
  | stf (tb : List (Nat × Nat)) (f : Str) (o e : VE) | sti (i c k : Nat) (f : Str) (e : VE)
  | rais (c : Nat) (b : List Ar) (es : VE)
  | tr (b hs : VS) | hnd (cs : List String) (v : Option Nat) (f : Nat → List T → VS)
def erS : VS → S
  | .nil => .nil
  | .cons s r => .cons (erS s) (erS r)
  | .pass => .pass
  | .expr e => .expr (er e)
  | .asg i e => .asg i (er e)
  | .par i j a b => .par i j (er a) (er b)
  | .unp g e => .unp g (er e)
  | .sts o i e => .sts (er o) (er i) (er e)
  | .ret e => .ret (er e)
  | .retN => .retN
  | .ife c t u => .ife (er c) (erS t) (erS u)
  | .whl c b => .whl (er c) (erS b)
  | .fr g it b => .fr g (er it) (erS b)
  | .brk => .brk
  | .cnt => .cnt
  | .never => .never
  | .stf tb f o e => .stf tb f (er o) (er e)
  | .sti i c k f e => .stf [(c, k)] f (.var i) (er e)
  | .rais c b es => .rais c b (er es)
  | .tr b hs => .tr (erS b) (erS hs)
  | .hnd cs v f => .hnd cs v (fun c ds => erS (f c (ubs ds)))
inductive VO where
  | next (τ : Sm) | ret (t : T) (τ : Sm) | brk (τ : Sm) | cnt (τ : Sm) | exc (c : Nat) (ts : List T) (τ : Sm) | bad
def Q.out {α : Type} (r : Q α) (f : α → Sm → VO) : VO := match r with
  | .ok a τ => f a τ
  | .exc c ts τ => .exc c ts τ
  | .bad => .bad
@[simp] theorem qo_ok {α : Type} (a : α) (τ : Sm) (f : α → Sm → VO) : (Q.ok a τ).out f = f a τ := rfl
@[simp] theorem qo_exc {α : Type} (c : Nat) (ts : List T) (τ : Sm) (f : α → Sm → VO) : (Q.exc c ts τ : Q α).out f = .exc c ts τ := rfl
@[simp] theorem qo_bad {α : Type} (f : α → Sm → VO) : (Q.bad : Q α).out f = .bad := rfl
def VO.seq (o : VO) (f : Sm → VO) : VO := match o with
  | .next τ => f τ
  | o => o
@[simp] theorem vs_next (τ : Sm) (f : Sm → VO) : (VO.next τ).seq f = f τ := rfl
@[simp] theorem vs_ret (t : T) (τ : Sm) (f : Sm → VO) : (VO.ret t τ).seq f = .ret t τ := rfl
@[simp] theorem vs_brk (τ : Sm) (f : Sm → VO) : (VO.brk τ).seq f = .brk τ := rfl
@[simp] theorem vs_cnt (τ : Sm) (f : Sm → VO) : (VO.cnt τ).seq f = .cnt τ := rfl
@[simp] theorem vs_exc (c : Nat) (ts : List T) (τ : Sm) (f : Sm → VO) : (VO.exc c ts τ).seq f = .exc c ts τ := rfl
@[simp] theorem vs_bad (f : Sm → VO) : VO.bad.seq f = .bad := rfl
def VO.turn (o : VO) (f : Sm → VO) : VO := match o with
  | .next τ => f τ
  | .cnt τ => f τ
  | .brk τ => .next τ
  | o => o
@[simp] theorem vt_next (τ : Sm) (f : Sm → VO) : (VO.next τ).turn f = f τ := rfl
@[simp] theorem vt_cnt (τ : Sm) (f : Sm → VO) : (VO.cnt τ).turn f = f τ := rfl
@[simp] theorem vt_brk (τ : Sm) (f : Sm → VO) : (VO.brk τ).turn f = .next τ := rfl
@[simp] theorem vt_ret (t : T) (τ : Sm) (f : Sm → VO) : (VO.ret t τ).turn f = .ret t τ := rfl
@[simp] theorem vt_exc (c : Nat) (ts : List T) (τ : Sm) (f : Sm → VO) : (VO.exc c ts τ).turn f = .exc c ts τ := rfl
@[simp] theorem vt_bad (f : Sm → VO) : VO.bad.turn f = .bad := rfl
def viter (c : Sm → Q Bool) (b : Sm → VO) : Nat → Sm → VO
  | 0, _ => .bad
  | n + 1, τ => (c τ).out fun k τ1 => if k = true then (b τ1).turn (viter c b n) else .next τ1
open Classical in
noncomputable def vwhl (c : Sm → Q Bool) (b : Sm → VO) (τ : Sm) : VO := if x : ∃ n, viter c b n τ ≠ .bad then viter c b x.choose τ else .bad
theorem viter_more {c : Sm → Q Bool} {b : Sm → VO} : ∀ {n : Nat} {τ : Sm}, viter c b n τ ≠ .bad → ∀ m, n ≤ m → viter c b m τ = viter c b n τ
  | 0, _, x, _, _ => absurd rfl x
  | n + 1, τ, x, m, hm => by
    obtain ⟨m, rfl⟩ : ∃ k, m = k + 1 := ⟨m - 1, by omega⟩
    unfold viter at x ⊢
    cases e : c τ with
    | bad => rfl
    | exc _ _ _ => rfl
    | ok k τ1 =>
      rw [e] at x
      simp only [qo_ok] at x ⊢
      cases k with
      | false => rfl
      | true =>
        simp only [if_true] at x ⊢
        cases e2 : b τ1 with
        | next τ2 => rw [e2] at x; exact viter_more x m (by omega)
        | cnt τ2 => rw [e2] at x; exact viter_more x m (by omega)
        | brk _ => rfl
        | ret _ _ => rfl
        | exc _ _ _ => rfl
        | bad => rfl
theorem vwhl_of {c : Sm → Q Bool} {b : Sm → VO} {τ : Sm} {o : VO} (n : Nat) (e : viter c b n τ = o) (hb : o ≠ .bad) : vwhl c b τ = o := by
  have x : ∃ n, viter c b n τ ≠ .bad := ⟨n, by rw [e]; exact hb⟩
  unfold vwhl
  rw [dif_pos x]
  have y := x.choose_spec
  by_cases c : n ≤ x.choose
  · rw [viter_more (by rw [e]; exact hb) _ c]; exact e
  · rw [← viter_more y n (by omega)]; exact e
def vfor (g : Tg) (b : Sm → VO) : List T → Sm → VO
  | [], τ => .next τ
  | t :: ts, τ => match asgV g t τ with
    | none => .bad
    | some τ2 => (b τ2).turn (vfor g b ts)
def stsQ (r : Nat) (s : List Stp) (x t : T) (τ : Sm) : VO := match getR τ r s, x with
  | some (.lst ts), .int k => match ixN ts.length k with
    | some j => if j < ts.length then .next (setR τ r s (.lst (ts.set j t))) else .bad
    | none => .bad
  | _, _ => .bad
def putT (i : Nat) (d : T) (ds : List T) : List T := if i < ds.length then ds.set i d else ds ++ [d]
def stfQ (tb : List (Nat × Nat)) (r : Nat) (s : List Stp) (t : T) (τ : Sm) : VO := match getR τ r s with
  | some (.ins c ts) => match tb.lookup c with
    | some i => if i ≤ ts.length ∧ imm c = false then .next (setR τ r s (.ins c (putT i t ts))) else .bad
    | none => .bad
  | _ => .bad
def stiQ (i c k : Nat) (t : T) (τ : Sm) : VO := match τ[i]? with
  | some (some (.ins c' ts)) => if c' = c ∧ k ≤ ts.length then .next (τ.set i (some (.ins c (putT k t ts)))) else .bad
  | _ => .bad
def unpQ (g : Tg) (t : T) (τ : Sm) : VO := match asgV g t τ with
  | some τ2 => .next τ2
  | none => .bad
def unsetV (v : Option Nat) (τ : Sm) : Sm := match v with
  | some i => τ.set i none
  | none => τ
def VO.unset (v : Option Nat) (o : VO) : VO := match o with
  | .next τ => .next (unsetV v τ)
  | .brk τ => .brk (unsetV v τ)
  | .cnt τ => .cnt (unsetV v τ)
  | .exc c ts τ => .exc c ts (unsetV v τ)
  | o => o
def VO.catch (o : VO) (f : Nat → List T → Sm → VO) : VO := match o with
  | .exc c ts τ => f c ts τ
  | o => o
def raisQ (c : Nat) (b : List Ar) (as : List VA) (τ : Sm) : VO := match pickV b as [] with
  | some xs => match valsA xs with
    | some ts => if flat0s ts = true then .exc c ts τ else .bad
    | none => .bad
  | none => .bad
mutual
noncomputable def vx : VS → Sm → VO
  | .nil, τ => .next τ
  | .cons s r, τ => (vx s τ).seq (vx r)
  | .pass, τ => .next τ
  | .expr e, τ => ((vd e).v τ).out fun _ τ1 => .next τ1
  | .asg i e, τ => ((vd e).v τ).out fun t τ1 => .next (τ1.set i (some t))
  | .par i j a b, τ => ((vd a).v τ).out fun x τ1 => ((vd b).v τ1).out fun y τ2 => .next ((τ2.set i (some x)).set j (some y))
  | .unp g e, τ => ((vd e).v τ).out fun t τ1 => unpQ g t τ1
  | .sts o i e, τ => ((vd e).v τ).out fun t τ1 => ((vd o).p τ1).out fun rs τ2 => ((vd i).v τ2).out fun y τ3 => stsQ rs.1 rs.2 y t τ3
  | .ret e, τ => ((vd e).v τ).out fun t τ1 => .ret t τ1
  | .retN, τ => .ret .non τ
  | .ife c t u, τ => ((vd c).t τ).out fun k τ1 => if k = true then vx t τ1 else vx u τ1
  | .whl c b, τ => vwhl (vd c).t (vx b) τ
  | .fr g it b, τ => ((vd it).i τ).out fun ts τ1 => vfor g (vx b) ts τ1
  | .brk, τ => .brk τ
  | .cnt, τ => .cnt τ
  | .never, _ => .bad
  | .stf tb _ o e, τ => ((vd e).v τ).out fun t τ1 => ((vd o).p τ1).out fun rs τ2 => stfQ tb rs.1 rs.2 t τ2
  | .sti i c k _ e, τ => ((vd e).v τ).out fun t τ1 => stiQ i c k t τ1
  | .rais c b es, τ => ((vd es).a τ).out fun as τ1 => raisQ c b as τ1
  | .tr b hs, τ => (vx b τ).catch (vxH hs)
  | .hnd _ _ _, _ => .bad
noncomputable def vxH : VS → Nat → List T → Sm → VO
  | .cons (.hnd cs v f) r, c, ts, τ => if (cs.any fun x => subN c x) = true then (vx (f c ts) (unsetV v τ)).unset v else vxH r c ts τ
  | .nil, c, ts, τ => .exc c ts τ
  | _, _, _, _ => .bad
end
def vfR (io : List Pm) (o : VO) : VR := match o with
  | .next τ => .ok .non (outs io τ)
  | .ret t τ => .ok t (outs io τ)
  | .exc c ts τ => .exc c ts (outs io τ)
  | _ => .bad
def startT (n : Nat) (ts : List T) : Sm := ts.map some ++ List.replicate (n - ts.length) none
noncomputable def vfn (io : List Pm) (n : Nat) (b : VS) : VFn := fun ts => if ts.length = io.length then vfR io (vx b (startT n ts)) else .bad
end L3

namespace L3
open PySem L2

abbrev TyR := Wy × List Nat × List Nat
abbrev TtR := List Nat × List Nat
structure Ety where
  v : G → Option TyR
  t : G → Option TtR
  a : G → Option (List TA × List Nat × List Nat)
  o : G → Option TtR
  i : G → Option TyR
  p : G → Option (Nat × List Nat × List Nat)
  x : G → Option (TA × List Nat × List Nat)
def Wy.item : Wy → Option Wy
  | .F => some .F
  | .O => some (.B [])
  | .B rs => some (.B rs)
  | .I => none
def Ety.of (v : G → Option TyR) : Ety where
  v := v
  t := fun Γ => (v Γ).map fun r => r.2
  a := fun _ => none
  o := fun Γ => (v Γ).map fun r => r.2
  i := fun Γ => match v Γ with
    | some (ty, w, m) => ty.item.map fun z => (z, w, m)
    | none => none
  p := fun _ => none
  x := fun Γ => (v Γ).map fun r => (.v r.1, r.2)
def Wy.le : Wy → Wy → Bool
  | .F, .F => true
  | .F, .O => true
  | .F, .B _ => true
  | .O, .O => true
  | .O, .B _ => true
  | .B rs, .B rs' => rs.all fun r => rs'.contains r
  | .I, .I => true
  | _, _ => false
def Wy.jn : Wy → Wy → Wy
  | .F, x => x
  | x, .F => x
  | .O, .O => .O
  | .O, .B rs => .B rs
  | .B rs, .O => .B rs
  | .B rs, .B rs' => .B (rs ++ rs')
  | _, _ => .I
/-- one behind the other -/
def twoV {α : Type} (a b : G → Option TyR) (k : Wy → Wy → Option α) (Γ : G) : Option (α × List Nat × List Nat) := match a Γ with
  | none => none
  | some (x, w, m) => match b (inval Γ w m) with
    | none => none
    | some (y, w', m') => if x.free w' = true then (k x y).map fun z => (z, w ++ w', m ++ m') else none
def kF (x y : Wy) : Option Wy := some .F
/-- a test, then something -/
def tst {α : Type} (a : G → Option TtR) (b : G → Option (α × List Nat × List Nat)) (Γ : G) : Option (α × List Nat × List Nat) := match a Γ with
  | none => none
  | some (w, m) => match b (inval Γ w m) with
    | none => none
    | some (y, w', m') => some (y, w ++ w', m ++ m')
/-- the type of a list of things -/
def tyAll (base : Wy) : List TA → Option Wy
  | [] => some base
  | .v x :: r => match tyAll base r with
    | some y => let z := x.jn y
      if (x.le z && y.le z) = true then some z else none
    | none => none
  | .p _ :: _ => none
/-- a new list out of what is held so -/
def newTy (k : Bool) (x : Wy) : Option Wy := if k = true then some .O else match x with
  | .F => some (.B [])
  | .O => some (.B [])
  | .B rs => some (.B rs)
  | .I => none
mutual
def dflat : D → Bool
  | .tup xs => dflats xs
  | .rol _ => false
  | .ref _ => false
  | .xcp _ _ _ _ => false
  | _ => true
def dflats : List D → Bool
  | [] => true
  | x :: xs => dflat x && dflats xs
end
def pickS : List Ar → List TA → List TA → Option (List TA)
  | [], _, _ => some []
  | .p i :: r, ds, zs => match ds[i]? with
    | some x => (pickS r ds zs).map (x :: ·)
    | none => none
  | .k j :: r, ds, zs => match zs[j]? with
    | some x => (pickS r ds zs).map (x :: ·)
    | none => none
  | .d x :: r, ds, zs => if dflat x = true then (pickS r ds zs).map (.v .F :: ·) else none
def argsS (b : Option (List Ar)) (ds zs : List TA) : Option (List TA) := match b with
  | none => some ds
  | some b => pickS b ds zs
/-- the first argument is the first parameter, and no other one -/
def selfB : Option (List Ar) → Bool
  | none => true
  | some (.p 0 :: r) => r.all fun
    | .p 0 => false
    | _ => true
  | _ => false
/-- roots of what goes in and out -/
def rootsA : List TA → List Nat
  | [] => []
  | .v _ :: r => rootsA r
  | .p i :: r => i :: rootsA r
/-- what is borrowed from -/
def borA : List TA → List Nat
  | [] => []
  | .v (.B rs) :: r => rs ++ borA r
  | _ :: r => borA r
def ioOk (Γ : G) : List Pm → List TA → Bool
  | [], [] => true
  | .b :: io, .v ty :: r => decide (ty ≠ .I) && ioOk Γ io r
  | .o :: io, .p i :: r => decide (Γ[i]? = some (some .O)) && ioOk Γ io r
  | _, _ => false
def freeA (ws : List Nat) : List TA → Bool
  | [] => true
  | .v ty :: r => ty.free ws && freeA ws r
  | .p i :: r => !ws.contains i && freeA ws r
def resTy (rk : Wy) (as : List TA) : Option Wy := match rk with
  | .F => some .F
  | .O => some .O
  | .B [] => some (.B (borA as))
  | _ => none
/-- a call with such arguments in hand -/
def callS (io : List Pm) (rk : Wy) (as : List TA) (Γ : G) (w m : List Nat) : Option TyR :=
  let rs := rootsA as
  if (ioOk (inval Γ w m) io as && decide rs.Nodup && as.all fun | .v ty => ty.free rs | .p _ => true) = true then (resTy rk as).map fun ty => (ty, w ++ rs, m ++ []) else none
def twoV' (a : G → Option (List TA × List Nat × List Nat)) (b : G → Option (List TA × List Nat × List Nat)) (Γ : G) : Option (List TA × List TA × List Nat × List Nat) := match a Γ with
  | none => none
  | some (x, w, m) => match b (inval Γ w m) with
    | none => none
    | some (y, w', m') => if freeA w' x = true then some (x, y, w ++ w', m ++ m') else none
def asgG (g : Tg) (ty : Wy) (Γ : G) : G := (tgs g).foldl (fun Γ i => Γ.set i (some ty)) (inval Γ (tgs g) (tgs g))
/-- one turn of a comprehension -/
def compT1 (own : List Nat) (g : Tg) (it : Wy) (test : G → Option TtR) (elt : G → Option TyR) (Γ : G) : Option TyR :=
  if (it.free (tgs g ++ own) && decide (tgs g).Nodup && (tgs g).all fun i => own.contains i) = true then tst test elt (asgG g it Γ) else none
/-- is the slot spoken of -/
def liveG (Γ : G) (i : Nat) : Bool := match Γ[i]? with
  | some (some _) => true
  | _ => false
def compS (own : List Nat) (g : Tg) (it : Wy) (test : G → Option TtR) (elt : G → Option TyR) (Γ : G) : Option TyR := match compT1 own g it test elt (inval Γ own own) with
  | some (_, w, _) => match compT1 own g it test elt (inval Γ (w ++ own) own) with
    | some (y, w', m') => if ((w'.all fun i => w.contains i) && m'.isEmpty && it.free w' && y.free (w' ++ own) && (own.all fun i => !w'.contains i)) = true then
        (match y with
          | .F => some (.O, w ++ own, own.filter (liveG Γ))
          | .O => some (.O, w ++ own, own.filter (liveG Γ))
          | .B rs => some (.B rs, w ++ own, own.filter (liveG Γ))
          | .I => none) else none
    | none => none
  | none => none
def isO (Γ : G) (r : Nat) : Bool := decide (Γ[r]? = some (some .O))
def subTy : Wy → Wy → Option Wy
  | .I, _ => none
  | _, .I => none
  | x, _ => some x
def et : VE → Ety
  | .var i => { Ety.of (fun Γ => match Γ[i]? with
      | some (some .F) => some (.F, [], [])
      | some (some .O) => some (.B [i], [], [])
      | some (some (.B rs)) => some (.B rs, [], [])
      | _ => none) with p := fun Γ => if Γ[i]? = some (some .O) then some (i, [], []) else none }
  | .mv i => .of fun Γ => if Γ[i]? = some (some .O) then some (.O, [i], [i]) else none
  | .cst t => .of fun Γ => if flat0 t = true then some (.F, [], []) else none
  | .glob _ t => .of fun Γ => if flat0 t = true then some (.F, [], []) else none
  | .fl e => { Ety.of (fun Γ => ((et e).v Γ).map fun r => (.F, r.2)) with t := fun _ => none, o := fun _ => none, i := fun _ => none }
  | .bin _ a b => .of (twoV (et a).v (et b).v kF)
  | .cat k a b => .of (twoV (et a).v (et b).v fun x y => (newTy k x).bind fun x => (newTy k y).bind fun y => some (x.jn y))
  | .neg a => .of fun Γ => ((et a).v Γ).map fun r => (.F, r.2)
  | .not a => { Ety.of (fun Γ => ((et a).v Γ).map fun r => (.F, r.2)) with t := (et a).t }
  | .and a b => { Ety.of (twoV (et a).v (et b).v fun x y => if x = .F ∧ y = .F then some .F else none) with t := fun Γ => (tst (et a).t (fun Γ => ((et b).t Γ).map fun r => ((), r)) Γ).map fun r => r.2 }
  | .or a b => { Ety.of (twoV (et a).v (et b).v fun x y => if x = .F ∧ y = .F then some .F else none) with t := fun Γ => (tst (et a).t (fun Γ => ((et b).t Γ).map fun r => ((), r)) Γ).map fun r => r.2 }
  | .cmp _ a b => .of (twoV (et a).v (et b).v kF)
  | .chain _ _ a b c => .of fun Γ => match twoV (et a).v (et b).v (fun x y => some (x, y)) Γ with
      | some ((_, y), w, m) => match (et c).v (inval Γ w m) with
        | some (_, w', m') => if y.free w' = true then some (.F, w ++ w', m ++ m') else none
        | none => none
      | none => none
  | .ife c a b => { Ety.of (tst (et c).t fun Γ => match (et a).v Γ, (et b).v Γ with
      | some (x, w, m), some (y, w', m') => let z := x.jn y
        if (x.le z && y.le z) = true then some (z, w ++ w', m ++ m') else none
      | _, _ => none) with t := fun _ => none }
  | .tup es => .of fun Γ => match (et es).a Γ with
      | some (as, w, m) => (tyAll .F as).map fun z => (z, w, m)
      | none => none
  | .lst es => .of fun Γ => match (et es).a Γ with
      | some (as, w, m) => (tyAll .O as).map fun z => (z, w, m)
      | none => none
  | .sub a i => { Ety.of (twoV (et a).v (et i).v subTy) with
      p := fun Γ => match (et a).p Γ with
        | some (r, w, m) => match (et i).v (inval Γ w m) with
          | some (y, w', m') => if (!w'.contains r && decide (y ≠ .I)) = true then some (r, w ++ w', m ++ m') else none
          | none => none
        | none => none }
  | .slc k a lo hi => .of fun Γ => match (et a).v Γ with
      | some (x, w, m) => match (et lo).o (inval Γ w m) with
        | some (w', m') => match (et hi).o (inval Γ (w ++ w') (m ++ m')) with
          | some (w2, m2) => if (x.free (w' ++ w2)) = true then (newTy k x).map fun z => (z, w ++ w' ++ w2, m ++ m' ++ m2) else none
          | none => none
        | none => none
      | none => none
  | .call f _ b es _ kes => .of fun Γ => match twoV' (et es).a (et kes).a Γ with
      | some (as, zs, w, m) => match argsS b as zs with
        | some as => callS f.io f.rk as Γ w m
        | none => none
      | none => none
  | .meth _ f _ b o es _ kes => .of fun Γ => match (et o).x Γ with
      | some (x, w, m) => match twoV' (et es).a (et kes).a (inval Γ w m) with
        | some (as, zs, w', m') => if freeA w' [x] = true then (match argsS b (x :: as) zs with
          | some as => callS f.io f.rk as Γ (w ++ w') (m ++ m')
          | none => none) else none
        | none => none
      | none => none
  | .make c f b es _ kes => .of fun Γ => match twoV' (et es).a (et kes).a Γ with
      | some (as, zs, w, m) => match argsS b (.v .F :: as) zs with
        | some as => if (decide (f.io.head? = some .i) && selfB b && decide (f.rk = .F)) = true then (callS f.io.tail .F as.tail Γ w m).map fun r => (if imm c = true then .F else .O, r.2) else none
        | none => none
      | none => none
  | .fld tb _ a => { Ety.of (fun Γ => match (et a).v Γ with
      | some (x, w, m) => x.item.map fun z => (match z with | .F => .B [] | z => z, w, m)
      | none => none) with
      p := fun Γ => (et a).p Γ }
  | .bi _ es => .of fun Γ => match (et es).a Γ with
      | some (as, w, m) => (tyAll .F as).map fun _ => (.F, w, m)
      | none => none
  | .lis k e => .of fun Γ => match (et e).v Γ with
      | some (x, w, m) => (newTy k x).map fun z => (z, w, m)
      | none => none
  | .tpl e => .of fun Γ => match (et e).v Γ with
      | some (x, w, m) => if x = .I then none else some (x, w, m)
      | none => none
  | .isi a _ => .of fun Γ => ((et a).v Γ).map fun r => (.F, r.2)
  | .app o e => .of fun Γ => match (et o).p Γ with
      | some (r, w, m) => match (et e).v (inval Γ w m) with
        | some (x, w', m') => if (!w'.contains r && x.le .O && isO (inval (inval Γ w m) w' m') r) = true then some (.F, w ++ w' ++ [r], m ++ m' ++ []) else none
        | none => none
      | none => none
  | .pop o => .of fun Γ => match (et o).p Γ with
      | some (r, w, m) => if isO (inval Γ w m) r = true then some (.O, w ++ [r], m ++ []) else none
      | none => none
  | .comp own g it test elt => .of fun Γ => match (et it).i Γ with
      | some (x, w, m) => match compS (own.map (·.2)) g x (et test).t (et elt).v (inval Γ w m) with
        | some (y, w', m') => some (y, w ++ w', m ++ m')
        | none => none
      | none => none
  | .rng es => { Ety.of (fun _ => none) with i := fun Γ => match (et es).a Γ with
      | some (as, w, m) => (tyAll .F as).map fun _ => (.F, w, m)
      | none => none }
  | .enum a => { Ety.of (fun _ => none) with i := (Ety.of (et a).v).i }
  | .zip a b => { Ety.of (fun _ => none) with i := twoV (et a).v (et b).v fun x y => x.item.bind fun x => y.item.bind fun y => some (x.jn y) }
  | .rev a => { Ety.of (fun _ => none) with i := (Ety.of (et a).v).i }
  | .lrng a b => .of (twoV (et a).v (et b).v fun _ _ => some .O)
  | .rsl k a => .of fun Γ => match (et a).v Γ with
      | some (x, w, m) => (newTy k x).map fun z => (z, w, m)
      | none => none
  | .leno _ f o => .of fun Γ => match (et o).v Γ with
      | some (x, w, m) => if (decide (f.io = [.b]) && decide (f.rk = .F) && decide (x ≠ .I)) = true then some (.F, w, m) else none
      | none => none
  | .xf _ _ _ _ _ => .of fun Γ => some (.F, [], [])
  | .xis _ _ _ => .of fun Γ => some (.F, [], [])
  | .ref e => { Ety.of (fun _ => none) with x := fun Γ => ((et e).p Γ).map fun r => (.p r.1, r.2) }
  | .nil => { Ety.of (fun _ => none) with t := fun _ => some ([], []), a := fun _ => some ([], [], []), o := fun _ => some ([], []) }
  | .rv _ => .of fun _ => none
  | .cons (.rv i) es => { Ety.of (fun _ => none) with a := fun Γ => match (et es).a Γ with
      | some (xs, w', m') => if isO (inval Γ w' m') i = true then some (.p i :: xs, w', m') else none
      | none => none }
  | .cons e es => { Ety.of (fun _ => none) with a := fun Γ => match (et e).x Γ with
      | some (x, w, m) => match (et es).a (inval Γ w m) with
        | some (xs, w', m') => if freeA w' [x] = true then some (x :: xs, w ++ w', m ++ m') else none
        | none => none
      | none => none }

structure SR where
  nx : Option G
  bk : Option G
  ct : Option G
  ex : Option G
  ws : List Nat
  as : List Nat
def leW : Option Wy → Option Wy → Bool
  | _, none => true
  | some a, some b => a.le b
  | none, some _ => false
def leG : G → G → Bool
  | [], [] => true
  | a :: x, b :: y => leW a b && leG x y
  | _, _ => false
def jnW : Option Wy → Option Wy → Option Wy
  | some a, some b => if (a.le (a.jn b) && b.le (a.jn b)) = true then some (a.jn b) else none
  | _, _ => none
def jnG : G → G → G
  | a :: x, b :: y => jnW a b :: jnG x y
  | _, _ => []
/-- both ways at once; none: no way -/
def joG : Option G → Option G → Option (Option G)
  | none, x => some x
  | x, none => some x
  | some a, some b => if (leG a (jnG a b) && leG b (jnG a b)) = true then some (some (jnG a b)) else none
def leO : Option G → G → Bool
  | none, _ => true
  | some a, b => leG a b
def both (r1 r2 : SR) (nx : Option G) : Option SR := match joG r1.bk r2.bk, joG r1.ct r2.ct, joG r1.ex r2.ex with
  | some bk, some ct, some ex => some ⟨nx, bk, ct, ex, r1.ws ++ r2.ws, r1.as ++ r2.as⟩
  | _, _, _ => none
/-- behind an expression: Γ' what follows -/
def sE (Γ : G) (w m : List Nat) : SR := ⟨some (inval Γ w m), none, none, some (inval Γ w m), w, m⟩
def loopG (f : G → Option SR) : Nat → G → Option G
  | 0, _ => none
  | k + 1, Γ => match f Γ with
    | none => none
    | some r => match joG r.nx r.ct with
      | none => none
      | some none => some Γ
      | some (some Γ2) => if leG Γ2 Γ = true then some Γ else loopG f k (jnG Γ Γ2)
/-- a loop: the frame that each turn begins with -/
def loopS (f : G → Option SR) (Γ : G) : Option (G × SR) := match loopG f 6 Γ with
  | none => none
  | some Γ1 => match f Γ1 with
    | none => none
    | some r => if (leG Γ Γ1 && leO r.nx Γ1 && leO r.ct Γ1) = true then some (Γ1, r) else none
def unsetG (v : Option Nat) (Γ : G) : G := match v with
  | some i => inval Γ [i] [i]
  | none => Γ
def unsetO (v : Option Nat) (Γ : Option G) : Option G := Γ.map (unsetG v)
def vlist : Option Nat → List Nat
  | some i => [i]
  | none => []
mutual
def st (rk : Wy) (pin : G) : VS → G → Option SR
  | .nil, Γ => some ⟨some Γ, none, none, none, [], []⟩
  | .cons s r, Γ => match st rk pin s Γ with
    | none => none
    | some r1 => match r1.nx with
      | none => some r1
      | some Γ1 => match st rk pin r Γ1 with
        | none => none
        | some r2 => both r1 r2 r2.nx
  | .pass, Γ => some ⟨some Γ, none, none, none, [], []⟩
  | .expr e, Γ => ((et e).v Γ).map fun r => sE Γ r.2.1 r.2.2
  | .asg i e, Γ => match (et e).v Γ with
    | none => none
    | some (ty, w, m) => if (ty.free [i] && decide (ty ≠ .I)) = true then
        some ⟨some ((inval (inval Γ w m) [i] [i]).set i (some ty)), none, none, some (inval Γ w m), w ++ [i], m ++ [i]⟩ else none
  | .par i j a b, Γ => match twoV (et a).v (et b).v (fun x y => some (x, y)) Γ with
    | none => none
    | some ((x, y), w, m) => if (x.free [i, j] && y.free [i, j] && decide (x ≠ .I) && decide (y ≠ .I) && decide (i ≠ j)) = true then
        some ⟨some (((inval (inval Γ w m) [i, j] [i, j]).set i (some x)).set j (some y)), none, none, some (inval Γ w m), w ++ [i, j], m ++ [i, j]⟩ else none
  | .unp g e, Γ => match (et e).v Γ with
    | none => none
    | some (ty, w, m) => if (ty.free (tgs g) && decide (ty ≠ .I) && decide (tgs g).Nodup) = true then
        some ⟨some (asgG g ty (inval Γ w m)), none, none, some (inval Γ w m), w ++ tgs g, m ++ tgs g⟩ else none
  | .sts o i e, Γ => match (et e).v Γ with
    | none => none
    | some (te, w, m) => match (et o).p (inval Γ w m) with
      | none => none
      | some (r, w', m') => match (et i).v (inval (inval Γ w m) w' m') with
        | none => none
        | some (ti, w2, m2) => if (te.le .O && te.free (w' ++ w2) && !w2.contains r && isO (inval (inval (inval Γ w m) w' m') w2 m2) r) = true then
            some (sE Γ (w ++ (w' ++ (w2 ++ [r]))) (m ++ (m' ++ (m2 ++ [])))) else none
  | .ret e, Γ => match (et e).v Γ with
    | none => none
    | some (ty, w, m) => if (ty.le rk && leG (inval Γ w m) pin) = true then some ⟨none, none, none, some (inval Γ w m), w, m⟩ else none
  | .retN, Γ => if (Wy.le .F rk && leG Γ pin) = true then some ⟨none, none, none, none, [], []⟩ else none
  | .ife c t u, Γ => match (et c).t Γ with
    | none => none
    | some (w, m) => match st rk pin t (inval Γ w m), st rk pin u (inval Γ w m) with
      | some r1, some r2 => match joG r1.nx r2.nx with
        | some nx => match both r1 r2 nx with
          | some r => both (sE Γ w m) r nx
          | none => none
        | none => none
      | _, _ => none
  | .whl c b, Γ => match loopS (fun Γ => match (et c).t Γ with
      | some (w, []) => match st rk pin b (inval Γ w []) with
        | some r => both (sE Γ w []) r r.nx
        | none => none
      | _ => none) Γ with
    | none => none
    | some (Γ1, r) => match (et c).t Γ1 with
      | some (w, []) => match joG (some (inval Γ1 w [])) r.bk with
        | some nx => some ⟨nx, none, none, r.ex, r.ws, r.as⟩
        | none => none
      | _ => none
  | .fr g it b, Γ => match (et it).i Γ with
    | none => none
    | some (x, w, m) => if (x.free (tgs g) && decide (tgs g).Nodup) = true then
        (match loopS (fun Γ => match st rk pin b (asgG g x Γ) with
          | some r => if x.free r.ws = true then some r else none
          | none => none) (inval Γ w m) with
        | none => none
        | some (Γ1, r) => match joG (some Γ1) r.bk, joG (some (inval Γ w m)) r.ex with
          | some nx, some ex => some ⟨nx, none, none, ex, w ++ tgs g ++ r.ws, m ++ tgs g ++ r.as⟩
          | _, _ => none) else none
  | .brk, Γ => some ⟨none, some Γ, none, none, [], []⟩
  | .cnt, Γ => some ⟨none, none, some Γ, none, [], []⟩
  | .never, Γ => some ⟨none, none, none, none, [], []⟩
  | .stf _ _ o e, Γ => match (et e).v Γ with
    | none => none
    | some (te, w, m) => match (et o).p (inval Γ w m) with
      | none => none
      | some (r, w', m') => if (te.le .O && te.free w' && isO (inval (inval Γ w m) w' m') r) = true then some (sE Γ (w ++ (w' ++ [r])) (m ++ (m' ++ []))) else none
  | .sti i _ _ _ e, Γ => match (et e).v Γ with
    | none => none
    | some (te, w, m) => if (te.le .O && decide ((inval Γ w m)[i]? = some (some .I))) = true then some (sE Γ (w ++ [i]) m) else none
  | .rais _ b es, Γ => match (et es).a Γ with
    | none => none
    | some (as, w, m) => match pickS b as [] with
      | none => none
      | some _ => some ⟨none, none, none, some (inval Γ w m), w, m⟩
  | .tr b hs, Γ => match st rk pin b Γ with
    | none => none
    | some r1 => match r1.ex with
      | none => some r1
      | some Γh => match stH rk pin hs Γh with
        | none => none
        | some r2 => match joG r1.nx r2.nx with
          | some nx => both { r1 with ex := none } r2 nx
          | none => none
  | .hnd _ _ _, _ => none
def stH (rk : Wy) (pin : G) : VS → G → Option SR
  | .nil, Γ => some ⟨none, none, none, some Γ, [], []⟩
  | .cons (.hnd _ v f) r, Γ => match st rk pin (f 0 []) (unsetG v Γ), stH rk pin r Γ with
    | some r1, some r2 => match joG (unsetO v r1.nx) r2.nx with
      | some nx => both ⟨unsetO v r1.nx, unsetO v r1.bk, unsetO v r1.ct, unsetO v r1.ex, vlist v ++ r1.ws, vlist v ++ r1.as⟩ r2 nx
      | none => none
    | _, _ => none
  | _, _ => none
end
/-- handlers are held alike whatever is caught -/
def VS.uni : VS → Prop
  | .cons s r => s.uni ∧ r.uni
  | .ife _ t u => t.uni ∧ u.uni
  | .whl _ b => b.uni
  | .fr _ _ b => b.uni
  | .tr b hs => b.uni ∧ hs.uni
  | .hnd _ _ f => ∀ c ts, flat0s ts = true → (∀ rk pin Γ, st rk pin (f c ts) Γ = st rk pin (f 0 []) Γ) ∧ (f c ts).uni
  | _ => True
/-- a def is well held -/
def fnS (io : List Pm) (rk : Wy) (n : Nat) (b : VS) : Bool := match st rk (gamO io ++ List.replicate (n - io.length) none) b (gam io ++ List.replicate (n - io.length) none) with
  | none => false
  | some r =>
    let pin := gamO io ++ List.replicate (n - io.length) none
    let pins := (List.range io.length).filter fun i => decide (io[i]? ≠ some .b)
    leO r.nx pin && leO r.ex pin && (pins.all fun i => !r.as.contains i) && (match r.nx with | some _ => Wy.le .F rk | none => true) && (match rk with | .F => true | .O => true | .B [] => true | _ => false) && decide (io.length ≤ n)
end L3

namespace L3
open PySem L2
section
variable {Z Y Y2 : Nat → Prop} {h : Hh} {d d2 : D} {t t2 : T}
theorem isEmpty_rps {ds : List D} {ts : List T} (r : Rps Z Y h ds ts) : ds.isEmpty = ts.isEmpty := by cases r <;> rfl
theorem tru_ok {b : Bool} (r : Rp Z Y h d t) (e : truT t = some b) : truD d h = some b := by
  cases r with
  | non => exact e
  | bl _ => exact e
  | int _ => exact e
  | str _ => exact e
  | tup r => rw [truT, ← isEmpty_rps r] at e; exact e
  | rol r => cases e
  | lst y q r => rw [truT, ← isEmpty_rps r] at e; simp only [truD, q]; exact e
  | dct y q r => rw [truT] at e; simp only [truD, q]; simpa using e
  | ins m y q r => cases e
  | imm m y q r => cases e
theorem ty_ok {k : Kd} (r : Rp Z Y h d t) (e : tyT t = some k) : tyD d h = some k := by
  cases r with
  | lst y q r => simp only [tyD, q]; exact e
  | dct y q r => simp only [tyD, q]; exact e
  | ins m y q r => cases e
  | imm m y q r => cases e
  | rol r => cases e
  | _ => exact e
mutual
theorem dat_ok : ∀ (k : Nat) {Y : Nat → Prop} {d : D} {t : T} {a : PyData}, Rp Z Y h d t → datT k t = some a → datF k h d = some a
  | 0, _, _, _, _, _, e => by simp [datT] at e
  | k + 1, _, _, _, _, .non, e => by simp only [datT] at e; simp only [datF]; exact e
  | k + 1, _, _, _, _, .bl _, e => by simp only [datT] at e; simp only [datF]; exact e
  | k + 1, _, _, _, _, .int _, e => by simp only [datT] at e; simp only [datF]; exact e
  | k + 1, _, _, _, _, .str _, e => by simp only [datT] at e; simp only [datF]; exact e
  | k + 1, _, _, _, a, .tup (ts := ts) r, e => by
    rw [datT] at e
    cases q : datsT k ts with
    | none => rw [q] at e; cases e
    | some b => rw [q] at e; rw [datF, dats_ok k r q]; exact e
  | k + 1, _, _, _, _, .rol r, e => by simp [datT] at e
  | k + 1, _, _, _, a, .lst (ts := ts) y s r, e => by
    rw [datT] at e
    cases q : datsT k ts with
    | none => rw [q] at e; cases e
    | some b => rw [q] at e; rw [datF, s]; dsimp only; rw [dats_ok k r q]; exact e
  | k + 1, _, _, _, _, .dct y s r, e => by simp [datT] at e
  | k + 1, _, _, _, _, .ins m y s r, e => by simp [datT] at e
  | k + 1, _, _, _, _, .imm m y s r, e => by simp [datT] at e
theorem dats_ok : ∀ (k : Nat) {Y : Nat → Prop} {ds : List D} {ts : List T} {a : List PyData}, Rps Z Y h ds ts → datsT k ts = some a → datsF k h ds = some a
  | 0, _, _, _, _, .nil, e => by unfold datsT at e; unfold datsF; exact e
  | 0, _, _, _, _, .cons a r, e => by unfold datsT at e; cases e
  | k + 1, _, _, _, _, .nil, e => by unfold datsT at e; unfold datsF; exact e
  | k + 1, _, _, _, _, .cons (t := t) (ts := ts) p r, e => by
    rw [datsT] at e
    cases q : datT (k + 1) t with
    | none => rw [q] at e; cases e
    | some x =>
      cases q2 : datsT (k + 1) ts with
      | none => rw [q, q2] at e; cases e
      | some y =>
        rw [q, q2] at e
        rw [datsF, dat_ok (k + 1) p q, dats_ok (k + 1) r q2]
        exact e
end
theorem eqData_ok {b : Bool} (r : Rp Z Y h d t) (r2 : Rp Z Y2 h d2 t2) (e : eqDataT t t2 = some b) : eqData d d2 h = some b := by
  unfold eqDataT at e
  unfold eqData
  cases q : datT 9 t with
  | none => rw [q] at e; cases e
  | some x =>
    cases q2 : datT 9 t2 with
    | none => rw [q, q2] at e; cases e
    | some y => rw [q, q2] at e; rw [dat_ok 9 r q, dat_ok 9 r2 q2]; exact e
theorem inData_ok {b : Bool} (r : Rp Z Y h d t) (r2 : Rp Z Y2 h d2 t2) (e : inDataT t t2 = some b) : inData d d2 h = some b := by
  unfold inDataT at e
  unfold inData
  cases q : datT 9 t with
  | none => rw [q] at e; cases e
  | some x =>
    cases q2 : datT 9 t2 with
    | none => rw [q, q2] at e; cases e
    | some y => rw [q, q2] at e; rw [dat_ok 9 r q, dat_ok 9 r2 q2]; exact e
theorem eq_ok {b : Bool} (r : Rp Z Y h d t) (r2 : Rp Z Y2 h d2 t2) (e : eqT t t2 = some b) : eqD d d2 h = some b := by
  have g := fun (z : eqDataT t t2 = some b) => eqData_ok r r2 z
  cases r <;> cases r2 <;> first | exact e | exact g e
theorem cmp_ok {op : CmpOp} {b : Bool} (r : Rp Z Y h d t) (r2 : Rp Z Y2 h d2 t2) (e : cmpT op t t2 = some b) : cmpD op d d2 h = .ok (.bl b) h := by
  cases op with
  | Eq => simp only [cmpD, eq_ok r r2 e]; rfl
  | NotEq =>
    simp only [cmpT] at e
    cases q : eqT t t2 with
    | none => rw [q] at e; cases e
    | some x => rw [q] at e; simp only [cmpD, eq_ok r r2 q, e]; rfl
  | Lt => cases r <;> cases r2 <;> first | (cases e; done) | (cases e; rfl)
  | LtE => cases r <;> cases r2 <;> first | (cases e; done) | (cases e; rfl)
  | Gt => cases r <;> cases r2 <;> first | (cases e; done) | (cases e; rfl)
  | GtE => cases r <;> cases r2 <;> first | (cases e; done) | (cases e; rfl)
  | Is => cases r <;> cases r2 <;> first | (cases e; done) | (cases e; rfl)
  | IsNot => cases r <;> cases r2 <;> first | (cases e; done) | (cases e; rfl)
  | In =>
    have g := fun (z : inDataT t t2 = some b) => inData_ok r r2 z
    cases r2 with
    | lst y q s => simp only [cmpD, q]; rw [g e]; rfl
    | _ => cases r <;> cases e
  | NotIn =>
    have g := fun (z : Bool) (z : inDataT t t2 = some z) => inData_ok r r2 z
    cases r2 with
    | @lst _ _ _ ds ts y q s =>
      have e' : (inDataT t (.lst ts)).map not = some b := by cases r <;> exact e
      cases q2 : inDataT t (.lst ts) with
      | none => rw [q2] at e'; cases e'
      | some x => rw [q2] at e'; simp only [cmpD, q]; rw [g _ q2, e']; rfl
    | _ => cases r <;> cases e
theorem bin_ok {op : Operator} {x : T} (r : Rp Z Y h d t) (r2 : Rp Z Y2 h d2 t2) (e : binT op t t2 = some x) : binD op d d2 h = .ok (emb x) h ∧ flat0 x = true := by
  cases op <;> cases r <;> first
    | (cases e; done)
    | (cases r2 <;> first
      | (cases e; done)
      | (cases e; exact ⟨rfl, rfl⟩)
      | (simp only [binT] at e; simp only [binD]; split at e
         · rename_i c; cases e; rw [if_pos c]; exact ⟨rfl, rfl⟩
         · cases e))
theorem len_ok {n : Nat} (r : Rp Z Y h d t) (e : lenT t = some n) : lenD d h = some n := by
  cases r with
  | tup r => rw [lenT, ← r.length] at e; exact e
  | lst y q r => rw [lenT, ← r.length] at e; simp only [lenD, q]; exact e
  | str x => exact e
  | _ => cases e
theorem items_ok {xs : List T} (r : Rp Z Y h d t) (e : itemsT t = some xs) : ∃ ds, itemsD d h = some ds ∧ Rps Z Y h ds xs := by
  cases r with
  | tup r => cases e; exact ⟨_, rfl, r⟩
  | lst y q r => cases e; exact ⟨_, by simp only [itemsD, q], r⟩
  | _ => cases e
theorem bls_ok : ∀ {ds : List D} {xs : List T} {bs : List Bool}, Rps Z Y h ds xs → blsT xs = some bs → blsD ds = some bs
  | _, _, _, .nil, e => e
  | _, _, bs, .cons (t := t) (ts := ts) p r, e => by
    cases p with
    | bl b =>
      rw [blsT] at e
      cases q : blsT ts with
      | none => rw [q] at e; cases e
      | some x => rw [q] at e; rw [blsD, bls_ok r q]; exact e
    | _ => cases e
theorem bi_ok {b : Bi} {ds : List D} {ts : List T} {x : T} (r : Rps Z Y h ds ts) (e : biT b ts = some x) : biD b ds h = .ok (emb x) h ∧ flat0 x = true := by
  cases r with
  | nil => cases b <;> cases e
  | cons p r =>
    cases r with
    | nil =>
      cases b with
      | abs => cases p <;> first | (cases e; done) | (cases e; exact ⟨rfl, rfl⟩)
      | len =>
        rename_i t
        simp only [biT] at e
        cases q : lenT t with
        | none => rw [q] at e; cases e
        | some n => rw [q] at e; cases e; refine ⟨?_, rfl⟩; show (match lenD _ h with | some n => Res.ok (D.int n) h | none => .bad) = _; rw [len_ok p q]; rfl
      | list => cases e
      | min => cases p <;> cases e
      | max => cases p <;> cases e
      | tuple => cases e
      | all =>
        cases p with
        | lst y q r =>
          simp only [biT] at e
          rename_i ts
          cases q2 : blsT ts with
          | none => rw [q2] at e; cases e
          | some n => rw [q2] at e; cases e; refine ⟨?_, rfl⟩; simp only [biD, q, bls_ok r q2]; rfl
        | _ => cases e
      | any =>
        cases p with
        | lst y q r =>
          simp only [biT] at e
          rename_i ts
          cases q2 : blsT ts with
          | none => rw [q2] at e; cases e
          | some n => rw [q2] at e; cases e; refine ⟨?_, rfl⟩; simp only [biD, q, bls_ok r q2]; rfl
        | _ => cases e
    | cons p2 r =>
      cases r with
      | nil =>
        cases b with
        | min => cases p <;> first | (cases e; done) | (cases p2 <;> first | (cases e; done) | (cases e; exact ⟨rfl, rfl⟩))
        | max => cases p <;> first | (cases e; done) | (cases p2 <;> first | (cases e; done) | (cases e; exact ⟨rfl, rfl⟩))
        | _ => cases p <;> cases e
      | cons p3 r => cases b <;> cases p <;> first | (cases e; done) | (cases p2 <;> cases e)
theorem atI_ok {ds : List D} {ts : List T} {i : Int} {x : T} (r : Rps Z Y h ds ts) (e : atI ts i = some x) : ∃ y, atI ds i = some y ∧ Rp Z Y h y x := by
  unfold atI at e ⊢
  rw [r.length]
  cases q : ixN ts.length i with
  | none => rw [q] at e; cases e
  | some k => rw [q] at e; exact r.get e
theorem sub_ok {x : T} (r : Rp Z Y h d t) (r2 : Rp Z Y2 h d2 t2) (e : subT t t2 = some x) : ∃ y, subD d d2 h = .ok y h ∧ Rp Z Y h y x := by
  cases r with
  | tup r =>
    cases r2 with
    | int i => obtain ⟨y, e1, e2⟩ := atI_ok r e; exact ⟨y, by simp only [subD, e1]; rfl, e2⟩
    | _ => cases e
  | lst y q r =>
    cases r2 with
    | int i => obtain ⟨y, e1, e2⟩ := atI_ok r e; exact ⟨y, by simp only [subD, q, e1]; rfl, e2⟩
    | _ => cases e
  | str z =>
    cases r2 with
    | int i =>
      simp only [subT] at e
      split at e
      · rename_i c
        cases q : atI z.cps.toList i with
        | none => rw [q] at e; cases e
        | some u => rw [q] at e; cases e; exact ⟨.str ⟨#[u]⟩, by simp only [subD, if_pos c, q]; rfl, .str _⟩
      · cases e
    | _ => cases e
  | _ => cases r2 <;> cases e
theorem cut_ok {ds : List D} {ts : List T} (lo hi : Option Int) (r : Rps Z Y h ds ts) : Rps Z Y h (cutD ds lo hi) (cutT ts lo hi) := by
  unfold cutD cutT
  rw [r.length]
  exact (r.drop _).take _
theorem slc_ok {lo hi : Option Int} {xs : List T} (r : Rp Z Y h d t) (e : slcT t lo hi = some xs) : ∃ ds, slcD d lo hi h = .ok (.ref h.length) (h ++ [.lst ds]) ∧ Rps Z Y h ds xs := by
  cases r with
  | rol r => cases e; exact ⟨_, rfl, cut_ok lo hi r⟩
  | lst y q r => cases e; exact ⟨_, by simp only [slcD, q], cut_ok lo hi r⟩
  | _ => cases e
theorem lst_okD {xs : List T} (r : Rp Z Y h d t) (e : lstT t = some xs) : ∃ n ds, d = .ref n ∧ Y n ∧ h[n]? = some (.lst ds) ∧ Rps Z Y h ds xs := by
  cases r with
  | lst y q r => cases e; exact ⟨_, _, rfl, y, q, r⟩
  | _ => cases e
theorem seq_okD {xs : List T} (r : Rp Z Y h d t) (e : seqT t = some xs) : ∃ ds gd, seqD d h = .ok (ds, gd) h ∧ Rps Z Y h ds xs ∧ ∀ p ∈ gd, Y p.1 ∧ h[p.1]? = some (.lst p.2) := by
  cases r with
  | tup r => cases e; exact ⟨_, [], rfl, r, fun p hp => by cases hp⟩
  | rol r => cases e; exact ⟨_, [], rfl, r, fun p hp => by cases hp⟩
  | @lst _ _ n ds ts y q r =>
    cases e
    refine ⟨ds, [(n, ds)], ?_, r, fun p hp => ?_⟩
    · simp only [seqD, q]
    · simp only [List.mem_singleton] at hp; subst hp; exact ⟨y, q⟩
  | _ => cases e
theorem num_ok : ∀ (n : Nat) {ds : List D} {ts : List T}, Rps Z Y h ds ts → Rps Z Y h (numD n ds) (numT n ts)
  | _, _, _, .nil => .nil
  | n, _, _, .cons a r => .cons (.tup (.cons (.int _) (.cons a .nil))) (num_ok (n + 1) r)
theorem zip_ok : ∀ {ds es : List D} {ts us : List T}, Rps Z Y h ds ts → Rps Z Y h es us → Rps Z Y h (zipD ds es) (zipT ts us)
  | _, _, _, _, .nil, _ => by unfold zipD zipT; exact .nil
  | _, _, _, _, .cons _ _, .nil => by unfold zipD zipT; exact .nil
  | _, _, _, _, .cons a r, .cons b s => .cons (.tup (.cons a (.cons b .nil))) (zip_ok r s)
theorem ints_ok (f : Nat → Int) : ∀ (ns : List Nat), Rps Z Y h (ns.map fun k => .int (f k)) (ns.map fun k => .int (f k)) ∧ flats (ns.map fun k => .int (f k)) = true
  | [] => ⟨.nil, rfl⟩
  | n :: ns => ⟨.cons (.int _) (ints_ok f ns).1, by simp only [List.map_cons, flats, (ints_ok f ns).2]; rfl⟩
theorem rng_ok {ds : List D} {ts : List T} {xs : List T} (r : Rps Z Y h ds ts) (e : rngT ts = some xs) : ∃ ys, rngD ds = some ys ∧ Rps Z Z h ys xs ∧ flats xs = true := by
  cases r with
  | nil => cases e
  | cons p r =>
    cases r with
    | nil =>
      cases p with
      | int j =>
        simp only [rngT] at e
        split at e
        · rename_i c; cases e; exact ⟨_, by simp only [rngD, if_pos c], ints_ok (fun i => (i : Int)) _⟩
        · cases e
      | _ => cases e
    | cons p2 r =>
      cases r with
      | nil =>
        cases p with
        | int i =>
          cases p2 with
          | int j =>
            simp only [rngT] at e
            split at e
            · rename_i c; cases e; exact ⟨_, by simp only [rngD, if_pos c], ints_ok (fun k => i + (k : Int)) _⟩
            · cases e
          | _ => cases e
        | _ => cases p2 <;> cases e
      | cons _ _ => cases p <;> cases p2 <;> cases e
theorem fld_okD {tb : List (Nat × Nat)} {x : T} (r : Rp Z Y h d t) (e : fldT tb t = some x) : ∃ y, fldR tb d h = .ok y h ∧ ((∃ n c ts, d = .ref n ∧ t = .ins c ts ∧ imm c = true ∧ Rp Z Z h y x) ∨ Rp Z Y h y x) := by
  cases r with
  | @ins _ _ n c ds ts m y q r =>
    simp only [fldT] at e
    cases q2 : tb.lookup c with
    | none => rw [q2] at e; cases e
    | some i =>
      rw [q2] at e
      obtain ⟨y, e1, e2⟩ := r.get e
      exact ⟨y, by simp only [fldR, insD, q, q2, e1]; rfl, .inr e2⟩
  | @imm _ _ n c ds ts m y q r =>
    simp only [fldT] at e
    cases q2 : tb.lookup c with
    | none => rw [q2] at e; cases e
    | some i =>
      rw [q2] at e
      obtain ⟨y, e1, e2⟩ := r.get e
      exact ⟨y, by simp only [fldR, insD, q, q2, e1]; rfl, .inl ⟨_, _, _, rfl, rfl, m, e2⟩⟩
  | _ => cases e
end
end L3

namespace L3
open PySem L2
def dpath (h : Hh) : D → List Stp → Option D
  | d, [] => some d
  | .ref n, .i k :: r => match h[n]? with
    | some (.lst ds) => match ds[k]? with
      | some d => dpath h d r
      | none => none
    | _ => none
  | .ref n, .f k :: r => match h[n]? with
    | some (.ins _ ds) => match ds[k]? with
      | some d => dpath h d r
      | none => none
    | _ => none
  | _, _ => none
theorem set_at {α : Type} {l : List α} {i : Nat} {a : α} (e : l[i]? = some a) : l.set i a = l := by
  obtain ⟨hi, e⟩ := List.getElem?_eq_some_iff.mp e
  subst e
  exact List.set_getElem_self hi
/-- W at the end of a path -/
structure AtP (Z : Nat → Prop) (h : Hh) (d : D) (t : T) (N : List Nat) (s : List Stp) (u : T) (d1 : D) (A M B : List Nat) : Prop where
  dp : ∀ h' : Hh, (∀ n ∈ A, h'[n]? = h[n]?) → dpath h' d s = some d1
  w : W Z h d1 u M
  e : N = A ++ M ++ B
  put : ∀ (Z' : Nat → Prop) (h' : Hh) (t2 : T) (M' : List Nat), (∀ n, Z n → Z' n) → (∀ n, Z n → h'[n]? = h[n]?) → (∀ n ∈ A ++ B, h'[n]? = h[n]?) → W Z' h' d1 t2 M' → W Z' h' d (setP t s t2) (A ++ M' ++ B)
theorem W.path {Z : Nat → Prop} {h : Hh} : ∀ (s : List Stp) {d : D} {t u : T} {N : List Nat}, W Z h d t N → getP t s = some u → ∃ d1 A M B, AtP Z h d t N s u d1 A M B
  | [], d, t, u, N, w, e => by
    unfold getP at e
    cases e
    exact ⟨d, [], N, [], ⟨fun h' _ => by unfold dpath; rfl, w, by simp, fun Z' h' t2 M' _ _ _ w' => by unfold setP; simpa using w'⟩⟩
  | x :: r, d, t, u, N, w, e => by
    cases w with
    | @lst n ds ts N0 q ws =>
      cases x with
      | f i => simp [getP, chIx] at e
      | i k =>
        simp only [getP, chIx, kids] at e
        cases g : ts[k]? with
        | none => rw [g] at e; cases e
        | some u0 =>
          rw [g] at e
          obtain ⟨d0, A0, M0, B0, e0, w0, rfl, put0⟩ := ws.focus g
          obtain ⟨d1, A1, M, B1, P⟩ := W.path r w0 e
          refine ⟨d1, n :: (A0 ++ A1), M, B1 ++ B0, ⟨fun h' sm => ?_, P.w, ?_, fun Z' h' t2 M' hz sz sm w' => ?_⟩⟩
          · simp only [dpath, sm n (by simp), q, e0]
            exact P.dp h' fun m hm => sm m (by simp [hm])
          · rw [P.e]; simp
          · have w1 := P.put Z' h' t2 M' hz sz (fun m hm => sm m (by simp at hm ⊢; rcases hm with hm | hm <;> simp [hm])) w'
            have w2 := put0 Z' h' d0 _ _ hz sz (fun m hm => sm m (by simp at hm ⊢; rcases hm with hm | hm <;> simp [hm])) w1
            rw [set_at e0] at w2
            have w3 := W.lst (Z := Z') (h := h') (n := n) ((sm n (by simp)).trans q) w2
            simp only [setP, chIx, kids, g, T.with]
            have : n :: (A0 ++ A1) ++ M' ++ (B1 ++ B0) = n :: (A0 ++ (A1 ++ M' ++ B1) ++ B0) := by simp
            rw [this]
            exact w3
    | @ins n c ds ts N0 m q ws =>
      cases x with
      | i k => simp [getP, chIx] at e
      | f k =>
        simp only [getP, chIx, kids, m, Bool.false_eq_true, if_false] at e
        cases g : ts[k]? with
        | none => rw [g] at e; cases e
        | some u0 =>
          rw [g] at e
          obtain ⟨d0, A0, M0, B0, e0, w0, rfl, put0⟩ := ws.focus g
          obtain ⟨d1, A1, M, B1, P⟩ := W.path r w0 e
          refine ⟨d1, n :: (A0 ++ A1), M, B1 ++ B0, ⟨fun h' sm => ?_, P.w, ?_, fun Z' h' t2 M' hz sz sm w' => ?_⟩⟩
          · simp only [dpath, sm n (by simp), q, e0]
            exact P.dp h' fun m hm => sm m (by simp [hm])
          · rw [P.e]; simp
          · have w1 := P.put Z' h' t2 M' hz sz (fun m hm => sm m (by simp at hm ⊢; rcases hm with hm | hm <;> simp [hm])) w'
            have w2 := put0 Z' h' d0 _ _ hz sz (fun m hm => sm m (by simp at hm ⊢; rcases hm with hm | hm <;> simp [hm])) w1
            rw [set_at e0] at w2
            have w3 := W.ins (Z := Z') (h := h') (n := n) m ((sm n (by simp)).trans q) w2
            simp only [setP, chIx, kids, g, T.with, m, Bool.false_eq_true, if_false]
            have : n :: (A0 ++ A1) ++ M' ++ (B1 ++ B0) = n :: (A0 ++ (A1 ++ M' ++ B1) ++ B0) := by simp
            rw [this]
            exact w3
    | imm m y q r => cases x <;> simp [getP, chIx, m] at e
    | dct q ws => cases x <;> simp [getP, chIx] at e
    | _ => cases x <;> simp [getP, chIx] at e

structure Nx (X Y Z : Nat → Prop) (Γ : G) (Ns : Os) (σ : Sl) (τ : Sm) (h : Hh) (w m : List Nat) (Z' : Nat → Prop) (Ns' : Os) (τ' : Sm) (h' : Hh) : Prop where
  inv : Inv Z' Y (inval Γ w m) Ns' σ τ' h'
  gr : Gr X Y Z Ns h Z' Ns' h' w
  fx : ∀ i, i ∉ w → Ns' i = Ns i ∧ τ'[i]? = τ[i]?
def Pst {α β : Type} (X Y Z : Nat → Prop) (Γ : G) (Ns : Os) (σ : Sl) (τ : Sm) (h : Hh) (w m : List Nat) (K : (Nat → Prop) → Os → Hh → α → β → Sm → Prop) (r : Res α) (q : Q β) : Prop := match q with
  | .bad => True
  | .ok b τ' => ∃ a h' Z' Ns', r = .ok a h' ∧ Nx X Y Z Γ Ns σ τ h w m Z' Ns' τ' h' ∧ K Z' Ns' h' a b τ'
  | .exc c ts τ' => ∃ h' Z' Ns', r = .exc c (embs ts) h' ∧ flat0s ts = true ∧ Nx X Y Z Γ Ns σ τ h w m Z' Ns' τ' h'
section
variable {α β γ δ : Type} {X Y Z Z1 Z2 : Nat → Prop} {Γ : G} {Ns Ns1 Ns2 : Os} {σ : Sl} {τ τ1 τ2 : Sm} {h h1 h2 : Hh} {w m w1 m1 w2 m2 : List Nat} {K : (Nat → Prop) → Os → Hh → α → β → Sm → Prop} {K2 : (Nat → Prop) → Os → Hh → γ → δ → Sm → Prop} {r : Res α} {q : Q β}
theorem inval_nil (Γ : G) : ∀ (i : Nat) (ty : Wy), Γ[i]? = some (some ty) → (inval Γ [] [])[i]? = some (some ty) := fun i ty e => inval_of e (by simp) (by cases ty <;> simp [Wy.free])
theorem inval_nil' (Γ : G) : ∀ (i : Nat) (ty : Wy), (inval Γ [] [])[i]? = some (some ty) → Γ[i]? = some (some ty) := fun i ty e => (inval_some e).1
theorem Nx.trans (a : Nx X Y Z Γ Ns σ τ h w1 m1 Z1 Ns1 τ1 h1) (b : Nx X Y Z1 (inval Γ w1 m1) Ns1 σ τ1 h1 w2 m2 Z2 Ns2 τ2 h2) : Nx X Y Z Γ Ns σ τ h (w1 ++ w2) (m1 ++ m2) Z2 Ns2 τ2 h2 where
  inv := b.inv.less (by have := a.inv.lg; rw [inval_len] at this ⊢; exact this) inval_app
  gr := a.gr.trans b.gr
  fx := fun i hi => by
    rw [List.mem_append] at hi
    have x := a.fx i fun z => hi (.inl z)
    have y := b.fx i fun z => hi (.inr z)
    exact ⟨y.1.trans x.1, y.2.trans x.2⟩
theorem Nx.more (a : Nx X Y Z Γ Ns σ τ h w m Z1 Ns1 τ1 h1) (s : ∀ i, i ∈ w → i ∈ w2) (s2 : ∀ (i : Nat) (ty : Wy), (inval Γ w2 m2)[i]? = some (some ty) → (inval Γ w m)[i]? = some (some ty)) : Nx X Y Z Γ Ns σ τ h w2 m2 Z1 Ns1 τ1 h1 :=
  ⟨a.inv.less (by have := a.inv.lg; rw [inval_len] at this ⊢; exact this) s2, a.gr.mono s, fun i hi => a.fx i fun z => hi (s i z)⟩
theorem Nx.left (a : Nx X Y Z Γ Ns σ τ h w1 m1 Z1 Ns1 τ1 h1) : Nx X Y Z Γ Ns σ τ h (w1 ++ w2) (m1 ++ m2) Z1 Ns1 τ1 h1 := a.more (fun i hi => List.mem_append_left _ hi) inval_left
theorem Nx.lessX {X' : Nat → Prop} (a : Nx X Y Z Γ Ns σ τ h w m Z1 Ns1 τ1 h1) (s : ∀ n, X' n → X n) : Nx X' Y Z Γ Ns σ τ h w m Z1 Ns1 τ1 h1 := ⟨a.inv, a.gr.lessX s, a.fx⟩
theorem Nx.refl (I : Inv Z Y Γ Ns σ τ h) (x : Xok X Y Z Ns h) : Nx X Y Z Γ Ns σ τ h [] [] Z Ns τ h := ⟨I.less (by rw [inval_len]; exact I.lg) (inval_nil' Γ), .refl x, fun _ _ => ⟨rfl, rfl⟩⟩
/-- then a step that touches nothing -/
theorem Nx.then (a : Nx X Y Z Γ Ns σ τ h w m Z1 Ns1 τ1 h1) (b : Gr X Y Z1 Ns1 h1 Z2 Ns1 h2 []) (I : Inv Z2 Y (inval Γ w m) Ns1 σ τ1 h2) : Nx X Y Z Γ Ns σ τ h w m Z2 Ns1 τ1 h2 :=
  ⟨I, by simpa using a.gr.trans b, a.fx⟩
theorem Pst.bind {f : α → Hh → Res γ} {g : β → Sm → Q δ} (p : Pst X Y Z Γ Ns σ τ h w1 m1 K r q)
    (c : ∀ Z1 Ns1 h1 a b τ1, Nx X Y Z Γ Ns σ τ h w1 m1 Z1 Ns1 τ1 h1 → K Z1 Ns1 h1 a b τ1 → Pst X Y Z1 (inval Γ w1 m1) Ns1 σ τ1 h1 w2 m2 K2 (f a h1) (g b τ1)) :
    Pst X Y Z Γ Ns σ τ h (w1 ++ w2) (m1 ++ m2) K2 (r.bind f) (q.bind g) := by
  cases q with
  | bad => exact trivial
  | exc c ts τ' =>
    obtain ⟨h', Z', Ns', rfl, fl, n⟩ := p
    exact ⟨h', Z', Ns', rfl, fl, n.left⟩
  | ok b τ1 =>
    obtain ⟨a, h1, Z1, Ns1, rfl, n, k⟩ := p
    have p2 := c Z1 Ns1 h1 a b τ1 n k
    show Pst X Y Z Γ Ns σ τ h (w1 ++ w2) (m1 ++ m2) K2 (f a h1) (g b τ1)
    cases e : g b τ1 with
    | bad => exact trivial
    | exc c ts τ' =>
      rw [e] at p2
      obtain ⟨h', Z', Ns', e1, fl, n2⟩ := p2
      exact ⟨h', Z', Ns', e1, fl, n.trans n2⟩
    | ok x τ2 =>
      rw [e] at p2
      obtain ⟨y, h2, Z2, Ns2, e1, n2, k2⟩ := p2
      exact ⟨y, h2, Z2, Ns2, e1, n.trans n2, k2⟩
/-- then nothing more is touched; told from the beginning -/
theorem Pst.fin {f : α → Hh → Res γ} {g : β → Sm → Q δ} (p : Pst X Y Z Γ Ns σ τ h w m K r q)
    (c : ∀ Z1 Ns1 h1 a b τ1, Nx X Y Z Γ Ns σ τ h w m Z1 Ns1 τ1 h1 → K Z1 Ns1 h1 a b τ1 → Pst X Y Z Γ Ns σ τ h w m K2 (f a h1) (g b τ1)) :
    Pst X Y Z Γ Ns σ τ h w m K2 (r.bind f) (q.bind g) := by
  cases q with
  | bad => exact trivial
  | exc c ts τ' =>
    obtain ⟨h', Z', Ns', rfl, fl, n⟩ := p
    exact ⟨h', Z', Ns', rfl, fl, n⟩
  | ok b τ1 =>
    obtain ⟨a, h1, Z1, Ns1, rfl, n, k⟩ := p
    exact c Z1 Ns1 h1 a b τ1 n k
/-- more slots touched -/
theorem Pst.more (p : Pst X Y Z Γ Ns σ τ h w m K r q) (s : ∀ i, i ∈ w → i ∈ w2) (s2 : ∀ (i : Nat) (ty : Wy), (inval Γ w2 m2)[i]? = some (some ty) → (inval Γ w m)[i]? = some (some ty)) : Pst X Y Z Γ Ns σ τ h w2 m2 K r q := by
  cases q with
  | bad => exact trivial
  | exc c ts τ' =>
    obtain ⟨h', Z', Ns', e, fl, n⟩ := p
    exact ⟨h', Z', Ns', e, fl, n.more s s2⟩
  | ok b τ1 =>
    obtain ⟨a, h1, Z1, Ns1, e, n, k⟩ := p
    exact ⟨a, h1, Z1, Ns1, e, n.more s s2, k⟩
theorem Pst.imp {K' : (Nat → Prop) → Os → Hh → α → β → Sm → Prop} (p : Pst X Y Z Γ Ns σ τ h w m K r q) (c : ∀ Z1 Ns1 h1 a b τ1, Nx X Y Z Γ Ns σ τ h w m Z1 Ns1 τ1 h1 → K Z1 Ns1 h1 a b τ1 → K' Z1 Ns1 h1 a b τ1) : Pst X Y Z Γ Ns σ τ h w m K' r q := by
  cases q with
  | bad => exact trivial
  | exc c ts τ' => exact p
  | ok b τ1 =>
    obtain ⟨a, h1, Z1, Ns1, e, n, k⟩ := p
    exact ⟨a, h1, Z1, Ns1, e, n, c _ _ _ _ _ _ n k⟩
theorem Pst.lessX {X' : Nat → Prop} (p : Pst X Y Z Γ Ns σ τ h w m K r q) (s : ∀ n, X' n → X n) : Pst X' Y Z Γ Ns σ τ h w m K r q := by
  cases q with
  | bad => exact trivial
  | exc c ts τ' =>
    obtain ⟨h', Z', Ns', e, fl, n⟩ := p
    exact ⟨h', Z', Ns', e, fl, n.lessX s⟩
  | ok b τ1 =>
    obtain ⟨a, h1, Z1, Ns1, e, n, k⟩ := p
    exact ⟨a, h1, Z1, Ns1, e, n.lessX s, k⟩
/-- at once -/
theorem Pst.now {a : α} {b : β} (I : Inv Z Y Γ Ns σ τ h) (x : Xok X Y Z Ns h) (k : K Z Ns h a b τ) : Pst X Y Z Γ Ns σ τ h [] [] K (.ok a h) (.ok b τ) :=
  ⟨a, h, Z, Ns, rfl, .refl I x, k⟩
/-- at once, behind what was -/
theorem Pst.at {a : α} {b : β} (n : Nx X Y Z Γ Ns σ τ h w m Z1 Ns1 τ1 h1) (k : K Z1 Ns1 h1 a b τ1) : Pst X Y Z Γ Ns σ τ h w m K (.ok a h1) (.ok b τ1) :=
  ⟨a, h1, Z1, Ns1, rfl, n, k⟩
theorem get_app {n : Nat} {o : O} (hn : n < h.length) : (h ++ [o])[n]? = h[n]? := List.getElem?_append_left hn
theorem get_new {o : O} : (h ++ [o])[h.length]? = some o := by rw [List.getElem?_append_right (Nat.le_refl _), Nat.sub_self]; rfl
theorem Gr.new {o : O} (I : Inv Z Y Γ Ns σ τ h) (x : Xok X Y Z Ns h) : Gr X Y Z Ns h Z Ns (h ++ [o]) [] :=
  ⟨by simp, fun n z => get_app (I.zl n z), fun n z => get_app (I.yl n z), fun n z => ⟨get_app (x n z).1, (x n z).2.1, (x n z).2.2.2⟩, fun i _ n hn => ⟨get_app (I.ow i n hn).2.2, .inl hn⟩, fun _ z => z, fun _ _ z => z⟩
theorem Inv.to {Z1 : Nat → Prop} {h1 : Hh} (I : Inv Z Y Γ Ns σ τ h) (g : Gr X Y Z Ns h Z1 Ns h1 []) (zl : ∀ n, Z1 n → n < h1.length) (dj : ∀ i n, n ∈ Ns i → ¬ Z1 n) : Inv Z1 Y Γ Ns σ τ h1 where
  ln := I.ln
  lg := I.lg
  val := fun i ty e => by
    obtain ⟨d, t, e1, e2, v⟩ := I.val i ty e
    exact ⟨d, t, e1, e2, v.go g (by cases ty <;> simp [Wy.free]) fun n hn => (g.keep i (by simp) n hn).1⟩
  nd := I.nd
  dj := I.dj
  ow := fun i n hn => ⟨dj i n hn, (I.ow i n hn).2.1, Nat.lt_of_lt_of_le (I.ow i n hn).2.2 g.len⟩
  zl := zl
  yl := fun n z => Nat.lt_of_lt_of_le (I.yl n z) g.len
theorem Inv.new {o : O} (I : Inv Z Y Γ Ns σ τ h) : Inv Z Y Γ Ns σ τ (h ++ [o]) :=
  I.to (Gr.new (X := fun _ => False) I fun _ z => z.elim) (fun n z => by have := I.zl n z; simp; omega) fun i n hn => (I.ow i n hn).1
theorem Tmp.new {o : O} {N : List Nat} (p : Tmp Z Y Ns h N) (I : Inv Z Y Γ Ns σ τ h) : Tmp Z Y Ns (h ++ [o]) (h.length :: N) where
  nd := List.nodup_cons.mpr ⟨fun q => by have := (p.ow _ q).1; omega, p.nd⟩
  ow := fun n hn => by
    rcases List.mem_cons.mp hn with rfl | hn
    · exact ⟨by simp, fun z => by have := I.zl _ z; omega, fun z => by have := I.yl _ z; omega, fun i z => by have := (I.ow i _ z).2.2; omega⟩
    · obtain ⟨a, b, c, e⟩ := p.ow n hn
      exact ⟨by simp; omega, b, c, e⟩
/-- what is in hand is frozen -/
def zN (Z : Nat → Prop) (N : List Nat) : Nat → Prop := fun n => Z n ∨ n ∈ N
theorem Gr.frz {N : List Nat} (x : Xok X Y Z Ns h) (p : Tmp Z Y Ns h N) (nx : ∀ n, n ∈ N → ¬ X n) : Gr X Y Z Ns h (zN Z N) Ns h w where
  len := Nat.le_refl _
  zs := fun _ _ => rfl
  ys := fun _ _ => rfl
  xs := fun n q => ⟨rfl, fun z => by rcases z with z | z; exact (x n q).2.1 z; exact nx n z q, (x n q).2.2.2⟩
  keep := fun i _ n hn => ⟨rfl, .inl hn⟩
  zz := fun _ z => .inl z
  yz := fun n y z => by rcases z with z | z; exact z; exact absurd y (p.ow n z).2.2.1
theorem Inv.frz {N : List Nat} (I : Inv Z Y Γ Ns σ τ h) (p : Tmp Z Y Ns h N) : Inv (zN Z N) Y Γ Ns σ τ h :=
  I.to (Gr.frz (X := fun _ => False) (fun _ z => z.elim) p fun _ _ z => z) (fun n z => by rcases z with z | z; exact I.zl n z; exact (p.ow n z).1) fun i n hn z => by
    rcases z with z | z
    · exact (I.ow i n hn).1 z
    · exact (p.ow n z).2.2.2 i hn
end
/-- a value -/
def KV (X Y : Nat → Prop) (ty : Wy) : (Nat → Prop) → Os → Hh → D → T → Sm → Prop := fun Z Ns h d t _ => ty ≠ .I ∧ ∃ N, Val Z Y Ns h ty d t N ∧ Tmp Z Y Ns h N ∧ ∀ n, n ∈ N → ¬ X n
theorem Val.rp {Z Y : Nat → Prop} {Ns : Os} {h : Hh} {ty : Wy} {d : D} {t : T} {N : List Nat} (v : Val Z Y Ns h ty d t N) (n : ty ≠ .I) : ∃ Y', Rp Z Y' h d t := by
  cases ty with
  | F => exact ⟨Z, v.1⟩
  | O => exact ⟨fun n => n ∈ N, W.rp v fun _ h => h⟩
  | B rs => exact ⟨_, v⟩
  | I => exact absurd rfl n
theorem val_flat0 {Z Y : Nat → Prop} {Ns : Os} {h : Hh} {t : T} (f : flat0 t = true) : Val Z Y Ns h .F (emb t) t [] := ⟨Rp.of0 f, flat_of0 f⟩
theorem KV.flat0 {X Y Z : Nat → Prop} {Ns : Os} {h : Hh} {t : T} {τ : Sm} (f : flat0 t = true) : KV X Y .F Z Ns h (emb t) t τ := ⟨by decide, [], val_flat0 f, .nil, fun n hn => by cases hn⟩
end L3

namespace L3
open PySem L2
section
variable {α β γ δ : Type} {X X' Y Z Z1 Z2 : Nat → Prop} {Γ : G} {Ns Ns1 Ns2 : Os} {σ : Sl} {τ τ1 τ2 : Sm} {h h1 h2 : Hh} {w m w1 m1 w2 m2 : List Nat} {K : (Nat → Prop) → Os → Hh → α → β → Sm → Prop} {K2 : (Nat → Prop) → Os → Hh → γ → δ → Sm → Prop} {r : Res α} {q : Q β}
theorem Pst.step {f : α → Hh → Res γ} {g : β → Sm → Q δ} (p : Pst X Y Z Γ Ns σ τ h w1 m1 K r q) (s : ∀ i, i ∈ w1 → i ∈ w) (s2 : ∀ (i : Nat) (ty : Wy), (inval Γ w m)[i]? = some (some ty) → (inval Γ w1 m1)[i]? = some (some ty))
    (c : ∀ Z1 Ns1 h1 a b τ1, Nx X Y Z Γ Ns σ τ h w1 m1 Z1 Ns1 τ1 h1 → K Z1 Ns1 h1 a b τ1 → Pst X Y Z Γ Ns σ τ h w m K2 (f a h1) (g b τ1)) :
    Pst X Y Z Γ Ns σ τ h w m K2 (r.bind f) (q.bind g) := by
  cases q with
  | bad => exact trivial
  | exc c ts τ' =>
    obtain ⟨h', Z', Ns', rfl, fl, n⟩ := p
    exact ⟨h', Z', Ns', rfl, fl, n.more s s2⟩
  | ok b τ1 =>
    obtain ⟨a, h1, Z1, Ns1, rfl, n, k⟩ := p
    exact c Z1 Ns1 h1 a b τ1 n k
theorem Pst.stepL {f : α → Hh → Res γ} {g : β → Sm → Q δ} (p : Pst X Y Z Γ Ns σ τ h w1 m1 K r q)
    (c : ∀ Z1 Ns1 h1 a b τ1, Nx X Y Z Γ Ns σ τ h w1 m1 Z1 Ns1 τ1 h1 → K Z1 Ns1 h1 a b τ1 → Pst X Y Z Γ Ns σ τ h (w1 ++ w2) (m1 ++ m2) K2 (f a h1) (g b τ1)) :
    Pst X Y Z Γ Ns σ τ h (w1 ++ w2) (m1 ++ m2) K2 (r.bind f) (q.bind g) := p.step (fun i hi => List.mem_append_left _ hi) inval_left c
theorem Pst.carry (n : Nx X Y Z Γ Ns σ τ h w1 m1 Z1 Ns1 τ1 h1) (p : Pst X' Y Z1 (inval Γ w1 m1) Ns1 σ τ1 h1 w2 m2 K r q) (s : ∀ n, X n → X' n) :
    Pst X Y Z Γ Ns σ τ h (w1 ++ w2) (m1 ++ m2) (fun Z2 Ns2 h2 a b τ2 => Nx X' Y Z1 (inval Γ w1 m1) Ns1 σ τ1 h1 w2 m2 Z2 Ns2 τ2 h2 ∧ K Z2 Ns2 h2 a b τ2) r q := by
  cases q with
  | bad => exact trivial
  | exc c ts τ' =>
    obtain ⟨h', Z', Ns', e, fl, n2⟩ := p
    exact ⟨h', Z', Ns', e, fl, n.trans (n2.lessX s)⟩
  | ok b τ2 =>
    obtain ⟨a, h1, Z1, Ns1, e, n2, k⟩ := p
    exact ⟨a, h1, Z1, Ns1, e, n.trans (n2.lessX s), n2, k⟩
theorem Nx.xok (n : Nx X Y Z Γ Ns σ τ h w m Z1 Ns1 τ1 h1) (x : Xok X Y Z Ns h) : Xok X Y Z1 Ns1 h1 := n.gr.xok x
/-- a value goes on -/
theorem Val.nx {ty : Wy} {d : D} {t : T} {N : List Nat} (v : Val Z Y Ns h ty d t N) (p : Tmp Z Y Ns h N) (n : Nx (xN X N) Y Z Γ Ns σ τ h w m Z1 Ns1 τ1 h1) (f : ty.free w = true) : Val Z1 Y Ns1 h1 ty d t N ∧ Tmp Z1 Y Ns1 h1 N := ⟨v.go n.gr f n.gr.xNs, p.go n.gr⟩
/-- held otherwise -/
theorem KV.le {ty ty' : Wy} {d : D} {t : T} (n : Nx X Y Z Γ Ns σ τ h w m Z1 Ns1 τ1 h1) (x : Xok X Y Z Ns h) (k : KV X Y ty Z1 Ns1 h1 d t τ1) (l : ty.le ty' = true) : ∃ Z2, Nx X Y Z Γ Ns σ τ h w m Z2 Ns1 τ1 h1 ∧ KV X Y ty' Z2 Ns1 h1 d t τ1 := by
  obtain ⟨ni, N, v, p, nx⟩ := k
  cases ty with
  | F =>
    cases ty' with
    | F => exact ⟨Z1, n, ni, N, v, p, nx⟩
    | O => exact ⟨Z1, n, by decide, [], v.1.own v.2, .nil, fun n hn => by cases hn⟩
    | B rs => exact ⟨Z1, n, by simp, [], v.1.mono (fun _ z => z) (fun _ z => .inl z) (fun _ _ => rfl) (fun _ _ => rfl), .nil, fun n hn => by cases hn⟩
    | I => cases l
  | O =>
    cases ty' with
    | F => cases l
    | O => exact ⟨Z1, n, ni, N, v, p, nx⟩
    | B rs =>
      refine ⟨zN Z1 N, n.then (.frz (n.xok x) p nx) (n.inv.frz p), by simp, [], ?_, .nil, fun n hn => by cases hn⟩
      exact (W.mono (fun _ z => .inl z) (fun _ _ => rfl) v fun _ _ => rfl).rp fun n hn => .inl (.inr hn)
    | I => cases l
  | B rs =>
    cases ty' with
    | B rs' =>
      refine ⟨Z1, n, by simp, [], ?_, .nil, fun n hn => by cases hn⟩
      refine Rp.mono (fun _ z => z) (fun n u => ?_) (fun _ _ => rfl) (fun _ _ => rfl) v
      rcases u with u | u | ⟨r, hr, u⟩
      · exact .inl u
      · exact .inr (.inl u)
      · refine .inr (.inr ⟨r, ?_, u⟩)
        unfold Wy.le at l
        rw [List.all_eq_true] at l
        simpa using l r hr
    | _ => cases l
  | I => exact absurd rfl ni
theorem le_item {ty z : Wy} (e : ty.item = some z) : ty.le z = true ∧ (z = .F ∨ ∃ rs, z = .B rs) := by
  cases ty with
  | F => cases e; exact ⟨rfl, .inl rfl⟩
  | O => cases e; exact ⟨rfl, .inr ⟨_, rfl⟩⟩
  | B rs => cases e; exact ⟨by simp [Wy.le], .inr ⟨_, rfl⟩⟩
  | I => cases e
theorem KV.rp {ty : Wy} {d : D} {t : T} (k : KV X Y ty Z Ns h d t τ) : ∃ Y', Rp Z Y' h d t := by
  obtain ⟨ni, N, v, _⟩ := k
  exact v.rp ni
/-- a new list of such things -/
theorem new_ok {k : Bool} {ds : List D} {ts : List T} {rs : List Nat} (n : Nx X Y Z Γ Ns σ τ h w m Z1 Ns1 τ1 h1) (x : Xok X Y Z Ns h) (rp : Rps Z1 (U Z1 Y Ns1 rs) h1 ds ts) :
    Pst X Y Z Γ Ns σ τ h w m (KV X Y (if k = true then .O else .B rs)) (.ok (.ref h1.length) (h1 ++ [.lst ds])) (newQ k (some ts) τ1) := by
  have x1 := n.xok x
  have I1 := n.inv
  have g := Gr.new (o := .lst ds) I1 x1
  have n2 := n.then g I1.new
  have P : Tmp Z1 Y Ns1 (h1 ++ [.lst ds]) [h1.length] := Tmp.new .nil I1
  have nx : ∀ k, k ∈ [h1.length] → ¬ X k := fun k hk q => by simp at hk; subst hk; have := (x1 _ q).1; omega
  have same : ∀ n, U Z1 Y Ns1 rs n → (h1 ++ [.lst ds])[n]? = h1[n]? := U.same g (by simp)
  have rp2 : Rps Z1 (U Z1 Y Ns1 rs) (h1 ++ [.lst ds]) ds ts := rp.mono (fun _ z => z) (fun _ z => z) g.zs same
  cases k with
  | true =>
    show Pst X Y Z Γ Ns σ τ h w m (KV X Y .O) _ (if flats ts = true then Q.ok (T.lst ts) τ1 else .bad)
    by_cases f : flats ts = true
    · rw [if_pos f]
      exact .at n2 ⟨by decide, [h1.length], W.lst get_new (rp2.own f), P, nx⟩
    · rw [if_neg f]
      exact trivial
  | false =>
    show Pst X Y Z Γ Ns σ τ h w m (KV X Y (.B rs)) _ (Q.ok (T.lst ts) τ1)
    refine .at (n2.then (.frz (n2.xok x) P nx) (n2.inv.frz P)) ⟨by simp, [], ?_, .nil, fun n hn => by cases hn⟩
    refine Rp.lst (.inl (.inr (by simp))) get_new (rp2.mono (fun _ z => .inl z) (fun n u => ?_) (fun _ _ => rfl) fun _ _ => rfl)
    rcases u with u | u | u
    · exact .inl (.inl u)
    · exact .inr (.inl u)
    · exact .inr (.inr u)
end

def KE {α : Type} : (Nat → Prop) → Os → Hh → α → α → Sm → Prop := fun _ _ _ a b _ => a = b
def PathK (Z : Nat → Prop) (Ns : Os) (σ : Sl) (h : Hh) (τ : Sm) (d : D) (r : Nat) (s : List Stp) : Prop := ∃ d0 t0 u, σ[r]? = some (some d0) ∧ τ[r]? = some (some t0) ∧ W Z h d0 t0 (Ns r) ∧ getP t0 s = some u ∧ dpath h d0 s = some d
def KP (σ : Sl) (r : Nat) : (Nat → Prop) → Os → Hh → D → Nat × List Stp → Sm → Prop := fun Z Ns h d b τ => b.1 = r ∧ PathK Z Ns σ h τ d r b.2
def KX (X Y : Nat → Prop) (σ : Sl) (ta : TA) : (Nat → Prop) → Os → Hh → D → VA → Sm → Prop := fun Z Ns h d a τ => match ta, a with
  | .v ty, .v t => KV X Y ty Z Ns h d t τ
  | .p r, .p r' s => r' = r ∧ PathK Z Ns σ h τ d r s
  | _, _ => False
def AK (Z Y : Nat → Prop) (Ns : Os) (σ : Sl) (h : Hh) (τ : Sm) : List TA → List D → List VA → List Nat → Prop
  | [], [], [], N => N = []
  | .v ty :: r, d :: ds, .v t :: as, N => ∃ N1 N2, N = N1 ++ N2 ∧ ty ≠ .I ∧ Val Z Y Ns h ty d t N1 ∧ AK Z Y Ns σ h τ r ds as N2
  | .p i :: r, d :: ds, .p j s :: as, N => j = i ∧ PathK Z Ns σ h τ d i s ∧ AK Z Y Ns σ h τ r ds as N
  | _, _, _, _ => False
def KA (X Y : Nat → Prop) (σ : Sl) (tas : List TA) : (Nat → Prop) → Os → Hh → List D → List VA → Sm → Prop := fun Z Ns h ds as τ => ∃ N, AK Z Y Ns σ h τ tas ds as N ∧ Tmp Z Y Ns h N ∧ ∀ n, n ∈ N → ¬ X n
def KI (X Y : Nat → Prop) (ty : Wy) : (Nat → Prop) → Os → Hh → List D × Gd → List T → Sm → Prop := fun Z Ns h a ts _ => match ty with
  | .F => Rps Z Z h a.1 ts ∧ flats ts = true ∧ ∀ p ∈ a.2, Z p.1 ∧ h[p.1]? = some (.lst p.2)
  | .B rs => Rps Z (U Z Y Ns rs) h a.1 ts ∧ ∀ p ∈ a.2, U Z Y Ns rs p.1 ∧ h[p.1]? = some (.lst p.2)
  | _ => False
structure SndV (e : VE) : Prop where
  v : ∀ {X Y Z : Nat → Prop} {Γ : G} {Ns : Os} {σ : Sl} {τ : Sm} {h : Hh} {ty : Wy} {w m : List Nat}, Inv Z Y Γ Ns σ τ h → Xok X Y Z Ns h → (et e).v Γ = some (ty, w, m) → Pst X Y Z Γ Ns σ τ h w m (KV X Y ty) ((den (er e)).v σ h) ((vd e).v τ)
  t : ∀ {X Y Z : Nat → Prop} {Γ : G} {Ns : Os} {σ : Sl} {τ : Sm} {h : Hh} {w m : List Nat}, Inv Z Y Γ Ns σ τ h → Xok X Y Z Ns h → (et e).t Γ = some (w, m) → Pst X Y Z Γ Ns σ τ h w m KE ((den (er e)).t σ h) ((vd e).t τ)
  a : ∀ {X Y Z : Nat → Prop} {Γ : G} {Ns : Os} {σ : Sl} {τ : Sm} {h : Hh} {tas : List TA} {w m : List Nat}, Inv Z Y Γ Ns σ τ h → Xok X Y Z Ns h → (et e).a Γ = some (tas, w, m) → Pst X Y Z Γ Ns σ τ h w m (KA X Y σ tas) ((den (er e)).a σ h) ((vd e).a τ)
  o : ∀ {X Y Z : Nat → Prop} {Γ : G} {Ns : Os} {σ : Sl} {τ : Sm} {h : Hh} {w m : List Nat}, Inv Z Y Γ Ns σ τ h → Xok X Y Z Ns h → (et e).o Γ = some (w, m) → Pst X Y Z Γ Ns σ τ h w m KE ((den (er e)).o σ h) ((vd e).o τ)
  i : ∀ {X Y Z : Nat → Prop} {Γ : G} {Ns : Os} {σ : Sl} {τ : Sm} {h : Hh} {ty : Wy} {w m : List Nat}, Inv Z Y Γ Ns σ τ h → Xok X Y Z Ns h → (et e).i Γ = some (ty, w, m) → Pst X Y Z Γ Ns σ τ h w m (KI X Y ty) ((den (er e)).i σ h) ((vd e).i τ)
  p : ∀ {X Y Z : Nat → Prop} {Γ : G} {Ns : Os} {σ : Sl} {τ : Sm} {h : Hh} {r : Nat} {w m : List Nat}, Inv Z Y Γ Ns σ τ h → Xok X Y Z Ns h → (et e).p Γ = some (r, w, m) → Pst X Y Z Γ Ns σ τ h w m (KP σ r) ((den (er e)).v σ h) ((vd e).p τ)
  x : ∀ {X Y Z : Nat → Prop} {Γ : G} {Ns : Os} {σ : Sl} {τ : Sm} {h : Hh} {ta : TA} {w m : List Nat}, Inv Z Y Γ Ns σ τ h → Xok X Y Z Ns h → (et e).x Γ = some (ta, w, m) → Pst X Y Z Γ Ns σ τ h w m (KX X Y σ ta) ((den (er e)).v σ h) ((vd e).x τ)
abbrev SV (g : Sl → Hh → Res D) (f : Sm → Q T) (k : G → Option TyR) : Prop := ∀ {X Y Z : Nat → Prop} {Γ : G} {Ns : Os} {σ : Sl} {τ : Sm} {h : Hh} {ty : Wy} {w m : List Nat}, Inv Z Y Γ Ns σ τ h → Xok X Y Z Ns h → k Γ = some (ty, w, m) → Pst X Y Z Γ Ns σ τ h w m (KV X Y ty) (g σ h) (f τ)
section
variable {g : Sl → Hh → Res D} {f : Sm → Q T} {k : G → Option TyR}
theorem SV.t (H : SV g f k) {X Y Z : Nat → Prop} {Γ : G} {Ns : Os} {σ : Sl} {τ : Sm} {h : Hh} {w m : List Nat} (I : Inv Z Y Γ Ns σ τ h) (x : Xok X Y Z Ns h) (e : (Ety.of k).t Γ = some (w, m)) : Pst X Y Z Γ Ns σ τ h w m KE ((Den.of g).t σ h) ((VDen.of f).t τ) := by
  show Pst X Y Z Γ Ns σ τ h w m KE ((g σ h).bind truR) ((f τ).bind fun x τ1 => opQ (truT x) τ1)
  replace e : (k Γ).map (fun r => r.2) = some (w, m) := e
  cases q : k Γ with
  | none => rw [q] at e; cases e
  | some r =>
    obtain ⟨ty, w', m'⟩ := r
    rw [q] at e
    cases e
    refine (H I x q).fin fun Z1 Ns1 h1 d t τ1 n kv => ?_
    obtain ⟨Y', rp⟩ := kv.rp
    cases e2 : truT t with
    | none => exact trivial
    | some b =>
      unfold truR
      rw [tru_ok rp e2]
      exact .at n rfl
theorem SV.o (H : SV g f k) {X Y Z : Nat → Prop} {Γ : G} {Ns : Os} {σ : Sl} {τ : Sm} {h : Hh} {w m : List Nat} (I : Inv Z Y Γ Ns σ τ h) (x : Xok X Y Z Ns h) (e : (Ety.of k).o Γ = some (w, m)) : Pst X Y Z Γ Ns σ τ h w m KE ((Den.of g).o σ h) ((VDen.of f).o τ) := by
  show Pst X Y Z Γ Ns σ τ h w m KE ((g σ h).bind intR) ((f τ).bind intQ)
  replace e : (k Γ).map (fun r => r.2) = some (w, m) := e
  cases q : k Γ with
  | none => rw [q] at e; cases e
  | some r =>
    obtain ⟨ty, w', m'⟩ := r
    rw [q] at e
    cases e
    refine (H I x q).fin fun Z1 Ns1 h1 d t τ1 n kv => ?_
    obtain ⟨Y', rp⟩ := kv.rp
    cases rp with
    | int i => exact .at n rfl
    | _ => exact trivial
theorem SV.i (H : SV g f k) {X Y Z : Nat → Prop} {Γ : G} {Ns : Os} {σ : Sl} {τ : Sm} {h : Hh} {ty : Wy} {w m : List Nat} (I : Inv Z Y Γ Ns σ τ h) (x : Xok X Y Z Ns h) (e : (Ety.of k).i Γ = some (ty, w, m)) : Pst X Y Z Γ Ns σ τ h w m (KI X Y ty) ((Den.of g).i σ h) ((VDen.of f).i τ) := by
  show Pst X Y Z Γ Ns σ τ h w m (KI X Y ty) ((g σ h).bind seqD) ((f τ).bind fun x τ1 => opQ (seqT x) τ1)
  unfold Ety.of at e
  dsimp only at e
  cases q : k Γ with
  | none => rw [q] at e; cases e
  | some r =>
    obtain ⟨ty0, w', m'⟩ := r
    rw [q] at e
    dsimp only at e
    cases e3 : ty0.item with
    | none => rw [e3] at e; cases e
    | some z =>
      rw [e3] at e
      cases e
      obtain ⟨l, zz⟩ := le_item e3
      refine (H I x q).fin fun Z1 Ns1 h1 d t τ1 n kv => ?_
      obtain ⟨Z2, n2, kv2⟩ := kv.le n x l
      cases e2 : seqT t with
      | none => exact trivial
      | some xs =>
        obtain ⟨_, N, v, _⟩ := kv2
        rcases zz with rfl | ⟨rs, rfl⟩
        · obtain ⟨rp, fl⟩ := v
          obtain ⟨ds, gd, e4, r4, g4⟩ := seq_okD rp e2
          rw [e4]
          refine .at n2 ⟨r4, ?_, g4⟩
          cases t <;> first | (cases e2; exact fl) | (cases e2; cases fl) | cases e2
        · obtain ⟨ds, gd, e4, r4, g4⟩ := seq_okD v e2
          rw [e4]
          exact .at n2 ⟨r4, g4⟩
theorem SV.x (H : SV g f k) {X Y Z : Nat → Prop} {Γ : G} {Ns : Os} {σ : Sl} {τ : Sm} {h : Hh} {ta : TA} {w m : List Nat} (I : Inv Z Y Γ Ns σ τ h) (x : Xok X Y Z Ns h) (e : (Ety.of k).x Γ = some (ta, w, m)) : Pst X Y Z Γ Ns σ τ h w m (KX X Y σ ta) (g σ h) ((VDen.of f).x τ) := by
  show Pst X Y Z Γ Ns σ τ h w m (KX X Y σ ta) (g σ h) ((f τ).bind fun x τ1 => .ok (.v x) τ1)
  replace e : (k Γ).map (fun r => (TA.v r.1, r.2)) = some (ta, w, m) := e
  cases q : k Γ with
  | none => rw [q] at e; cases e
  | some r =>
    obtain ⟨ty, w', m'⟩ := r
    rw [q] at e
    cases e
    have p := H I x q
    cases e2 : f τ with
    | bad => exact trivial
    | exc c ts τ1 => rw [e2] at p; exact p
    | ok t τ1 =>
      rw [e2] at p
      obtain ⟨a, h1, Z1, Ns1, e3, n, kv⟩ := p
      exact ⟨a, h1, Z1, Ns1, e3, n, kv⟩
end
theorem SndV.of {e : VE} {g : Sl → Hh → Res D} {f : Sm → Q T} {k : G → Option TyR} (hd : den (er e) = Den.of g) (hv : vd e = VDen.of f) (he : et e = Ety.of k) (H : SV g f k) : SndV e where
  v := fun I x q => by rw [he] at q; rw [hd, hv]; exact H I x q
  t := fun I x q => by rw [he] at q; rw [hd, hv]; exact SV.t H I x q
  a := fun I x q => by rw [he] at q; cases q
  o := fun I x q => by rw [he] at q; rw [hd, hv]; exact SV.o H I x q
  i := fun I x q => by rw [he] at q; rw [hd, hv]; exact SV.i H I x q
  p := fun I x q => by rw [he] at q; cases q
  x := fun I x q => by rw [he] at q; rw [hd, hv]; exact SV.x H I x q
end L3

namespace L3
open PySem L2
/-- twoV values in hand -/
def K12 (X Y : Nat → Prop) (tx ty : Wy) (Z : Nat → Prop) (Ns : Os) (h : Hh) (d1 : D) (t1 : T) (d2 : D) (t2 : T) (τ : Sm) : Prop :=
  tx ≠ .I ∧ ty ≠ .I ∧ ∃ N1 N2, Val Z Y Ns h tx d1 t1 N1 ∧ Val Z Y Ns h ty d2 t2 N2 ∧ Tmp Z Y Ns h (N1 ++ N2) ∧ ∀ n, n ∈ N1 ++ N2 → ¬ X n
section
variable {α β γ δ ρ : Type} {X X' Y Z Z1 Z2 : Nat → Prop} {Γ : G} {Ns Ns1 Ns2 : Os} {σ : Sl} {τ τ1 τ2 : Sm} {h h1 h2 : Hh} {w m w1 m1 w2 m2 : List Nat} {K2 : (Nat → Prop) → Os → Hh → γ → δ → Sm → Prop} {a b c e es : VE}
theorem Tmp.app {N1 N2 : List Nat} (p : Tmp Z Y Ns h N1) (q : Tmp Z Y Ns h N2) (d : ∀ n, n ∈ N2 → n ∉ N1) : Tmp Z Y Ns h (N1 ++ N2) where
  nd := List.nodup_append.mpr ⟨p.nd, q.nd, fun x hx y hy z => d y hy (z ▸ hx)⟩
  ow := fun n hn => by
    rcases List.mem_append.mp hn with hn | hn
    · exact p.ow n hn
    · exact q.ow n hn
theorem Tmp.left {N1 N2 : List Nat} (p : Tmp Z Y Ns h (N1 ++ N2)) : Tmp Z Y Ns h N1 := ⟨(List.nodup_append.mp p.nd).1, fun n hn => p.ow n (List.mem_append_left _ hn)⟩
theorem Tmp.right {N1 N2 : List Nat} (p : Tmp Z Y Ns h (N1 ++ N2)) : Tmp Z Y Ns h N2 := ⟨(List.nodup_append.mp p.nd).2.1, fun n hn => p.ow n (List.mem_append_right _ hn)⟩
theorem K12.fst {tx ty : Wy} {d1 d2 : D} {t1 t2 : T} (k : K12 X Y tx ty Z Ns h d1 t1 d2 t2 τ) : KV X Y tx Z Ns h d1 t1 τ := by
  obtain ⟨a, b, N1, N2, v1, v2, p, nx⟩ := k
  exact ⟨a, N1, v1, p.left, fun n hn => nx n (List.mem_append_left _ hn)⟩
theorem K12.snd {tx ty : Wy} {d1 d2 : D} {t1 t2 : T} (k : K12 X Y tx ty Z Ns h d1 t1 d2 t2 τ) : KV X Y ty Z Ns h d2 t2 τ := by
  obtain ⟨a, b, N1, N2, v1, v2, p, nx⟩ := k
  exact ⟨b, N2, v2, p.right, fun n hn => nx n (List.mem_append_right _ hn)⟩
/-- a value, then another -/
theorem KV.and {tx ty : Wy} {d1 d2 : D} {t1 t2 : T} {N : List Nat} (ni : tx ≠ .I) (v : Val Z Y Ns h tx d1 t1 N) (p : Tmp Z Y Ns h N) (nx : ∀ n, n ∈ N → ¬ X n) (n : Nx (xN X N) Y Z Γ Ns σ τ h w m Z1 Ns1 τ1 h1) (f : tx.free w = true) (k : KV (xN X N) Y ty Z1 Ns1 h1 d2 t2 τ1) : K12 X Y tx ty Z1 Ns1 h1 d1 t1 d2 t2 τ1 := by
  obtain ⟨ni2, N2, v2, p2, nx2⟩ := k
  obtain ⟨v', p'⟩ := v.nx p n f
  exact ⟨ni, ni2, N, N2, v', v2, p'.app p2 fun n hn q => nx2 n hn (.inr q), fun n hn => by
    rcases List.mem_append.mp hn with hn | hn
    · exact nx n hn
    · exact fun q => nx2 n hn (.inl q)⟩
theorem two_ok {k : Wy → Wy → Option ρ} {z : ρ} (A : SndV a) (B : SndV b) (I : Inv Z Y Γ Ns σ τ h) (x : Xok X Y Z Ns h) (e : twoV (et a).v (et b).v k Γ = some (z, w, m)) {f : D → D → Hh → Res γ} {g : T → T → Sm → Q δ}
    (c : ∀ tx ty Z1 Ns1 h1 d1 t1 d2 t2 τ1, k tx ty = some z → Nx X Y Z Γ Ns σ τ h w m Z1 Ns1 τ1 h1 → K12 X Y tx ty Z1 Ns1 h1 d1 t1 d2 t2 τ1 → Pst X Y Z Γ Ns σ τ h w m K2 (f d1 d2 h1) (g t1 t2 τ1)) :
    Pst X Y Z Γ Ns σ τ h w m K2 (((den (er a)).v σ h).bind fun x h1 => ((den (er b)).v σ h1).bind fun y h2 => f x y h2) (((vd a).v τ).bind fun x τ1 => ((vd b).v τ1).bind fun y τ2 => g x y τ2) := by
  unfold twoV at e
  split at e
  · cases e
  · rename_i tx wa ma ea
    split at e
    · cases e
    · rename_i ty wb mb eb
      split at e
      · rename_i fr
        cases ek : k tx ty with
        | none => rw [ek] at e; cases e
        | some z' =>
          rw [ek] at e
          cases e
          refine (A.v I x ea).stepL fun Z1 Ns1 h1 d1 t1 τ1 n kv => ?_
          obtain ⟨ni, N, v, p, nx⟩ := kv
          refine (Pst.carry n (B.v n.inv (p.xok (n.xok x)) eb) fun _ q => .inl q).fin fun Z2 Ns2 h2 d2 t2 τ2 n2 kk => ?_
          exact c tx ty Z2 Ns2 h2 d1 t1 d2 t2 τ2 ek n2 (KV.and ni v p nx kk.1 fr kk.2)
      · cases e
theorem two_ok' {k : Wy → Wy → Option ρ} {z : ρ} (A : SndV a) (B : SndV b) (I : Inv Z Y Γ Ns σ τ h) (x : Xok X Y Z Ns h) (e : twoV (et a).v (et b).v k Γ = some (z, w, m)) {f : D → D → Hh → Res γ} {g : T → T → Sm → Q δ}
    (c : ∀ tx ty Z1 Ns1 h1 d1 t1 d2 t2 τ1, k tx ty = some z → Nx X Y Z Γ Ns σ τ h w m Z1 Ns1 τ1 h1 → K12 X Y tx ty Z1 Ns1 h1 d1 t1 d2 t2 τ1 → Pst X Y Z Γ Ns σ τ h (w ++ w2) (m ++ m2) K2 (f d1 d2 h1) (g t1 t2 τ1)) :
    Pst X Y Z Γ Ns σ τ h (w ++ w2) (m ++ m2) K2 (((den (er a)).v σ h).bind fun x h1 => ((den (er b)).v σ h1).bind fun y h2 => f x y h2) (((vd a).v τ).bind fun x τ1 => ((vd b).v τ1).bind fun y τ2 => g x y τ2) := by
  unfold twoV at e
  split at e
  · cases e
  · rename_i tx wa ma ea
    split at e
    · cases e
    · rename_i ty wb mb eb
      split at e
      · rename_i fr
        cases ek : k tx ty with
        | none => rw [ek] at e; cases e
        | some z' =>
          rw [ek] at e
          cases e
          refine (A.v I x ea).step (fun i hi => by simp [hi]) (fun i ty q => inval_left i ty (inval_left i ty q)) fun Z1 Ns1 h1 d1 t1 τ1 n kv => ?_
          obtain ⟨ni, N, v, p, nx⟩ := kv
          refine (Pst.carry n (B.v n.inv (p.xok (n.xok x)) eb) fun _ q => .inl q).stepL fun Z2 Ns2 h2 d2 t2 τ2 n2 kk => ?_
          exact c tx ty Z2 Ns2 h2 d1 t1 d2 t2 τ2 ek n2 (KV.and ni v p nx kk.1 fr kk.2)
      · cases e
theorem sndV_var (i : Nat) : SndV (.var i) := by
  have H : SV (fun σ h => varR σ i h) (fun τ => varQ τ i) (fun Γ => match Γ[i]? with
      | some (some .F) => some (.F, [], [])
      | some (some .O) => some (.B [i], [], [])
      | some (some (.B rs)) => some (.B rs, [], [])
      | _ => none) := by
    intro X Y Z Γ Ns σ τ h ty w m I x e
    dsimp only at e ⊢
    split at e
    · rename_i q
      cases e
      obtain ⟨d, t, e1, e2, v⟩ := I.val i _ q
      unfold varR varQ
      rw [e1, e2]
      exact .now I x ⟨by decide, [], v, .nil, fun n hn => by cases hn⟩
    · rename_i q
      cases e
      obtain ⟨d, t, e1, e2, v⟩ := I.val i _ q
      unfold varR varQ
      rw [e1, e2]
      exact .now I x ⟨by simp, [], W.rp v fun n hn => .inr (.inr ⟨i, by simp, hn⟩), .nil, fun n hn => by cases hn⟩
    · rename_i q
      cases e
      obtain ⟨d, t, e1, e2, v⟩ := I.val i _ q
      unfold varR varQ
      rw [e1, e2]
      exact .now I x ⟨by simp, [], v, .nil, fun n hn => by cases hn⟩
    · cases e
  constructor
  · exact fun I x q => H I x q
  · exact fun I x q => SV.t H I x q
  · exact fun I x q => by cases q
  · exact fun I x q => SV.o H I x q
  · exact fun I x q => SV.i H I x q
  · intro X Y Z Γ Ns σ τ h r w m I x q
    replace q : (if Γ[i]? = some (some .O) then some (i, [], []) else none) = some (r, w, m) := q
    split at q
    · rename_i e
      cases q
      obtain ⟨d, t, e1, e2, v⟩ := I.val i _ e
      show Pst X Y Z Γ Ns σ τ h [] [] (KP σ i) (varR σ i h) (.ok (i, []) τ)
      unfold varR
      rw [e1]
      exact .now I x ⟨rfl, d, t, t, e1, e2, v, rfl, by simp [dpath]⟩
    · cases q
  · exact fun I x q => SV.x H I x q
theorem sndV_mv (i : Nat) : SndV (.mv i) := by
  refine .of rfl rfl rfl ?_
  intro X Y Z Γ Ns σ τ h ty w m I x e
  dsimp only at e ⊢
  split at e
  · rename_i q
    cases e
    obtain ⟨d, t, e1, e2, v⟩ := I.val i _ q
    unfold varR varQ
    rw [e1, e2]
    refine ⟨d, h, Z, fun j => if j = i then [] else Ns j, rfl, ⟨⟨I.ln, by rw [inval_len]; exact I.lg, fun j ty e => ?_, fun j => ?_, fun j k n hj hk => ?_, fun j n hn => ?_, I.zl, I.yl⟩, ⟨Nat.le_refl _, fun _ _ => rfl, fun _ _ => rfl, fun n q => ⟨rfl, (x n q).2.1, fun j hj => ?_⟩, fun j hj n hn => ⟨rfl, .inl ?_⟩, fun _ z => z, fun _ _ z => z⟩, fun j hj => ⟨?_, rfl⟩⟩, by decide, Ns i, v, ⟨I.nd i, fun n hn => ⟨(I.ow i n hn).2.2, (I.ow i n hn).1, (I.ow i n hn).2.1, fun j hj => ?_⟩⟩, fun n hn q => (x n q).2.2.2 i hn⟩
    · obtain ⟨a, b, c⟩ := inval_some e
      have ji : j ≠ i := fun z => b (by simp [z])
      obtain ⟨d', t', e1', e2', v'⟩ := I.val j ty a
      refine ⟨d', t', e1', e2', ?_⟩
      simp only [ji, if_false]
      cases ty with
      | F => exact v'
      | O => exact v'
      | I => exact v'
      | B rs =>
        refine Rp.mono (fun _ z => z) (fun n u => ?_) (fun _ _ => rfl) (fun _ _ => rfl) v'
        rcases u with u | u | ⟨r, hr, u⟩
        · exact .inl u
        · exact .inr (.inl u)
        · refine .inr (.inr ⟨r, hr, ?_⟩)
          have : r ≠ i := fun z => free_dj c r hr (by simp [z])
          simp only [this, if_false]; exact u
    · by_cases c : j = i
      · simp [c]
      · simp only [c, if_false]; exact I.nd j
    · by_cases c : j = i
      · simp [c] at hj
      · by_cases c2 : k = i
        · simp [c2] at hk
        · simp only [c, c2, if_false] at hj hk; exact I.dj j k n hj hk
    · by_cases c : j = i
      · simp [c] at hn
      · simp only [c, if_false] at hn; exact I.ow j n hn
    · by_cases c : j = i
      · simp [c] at hj
      · simp only [c, if_false] at hj; exact (x n q).2.2.2 j hj
    · have : j ≠ i := fun z => hj (by simp [z])
      simp only [this, if_false]; exact hn
    · have : j ≠ i := fun z => hj (by simp [z])
      simp [this]
    · by_cases c : j = i
      · simp [c] at hj
      · simp only [c, if_false] at hj; exact c (I.dj j i n hj hn)
  · cases e
theorem sndV_cst (t : T) : SndV (.cst t) := by
  refine .of rfl rfl rfl ?_
  intro X Y Z Γ Ns σ τ h ty w m I x e
  dsimp only at e ⊢
  split at e
  · rename_i f
    cases e
    exact .now I x (.flat0 f)
  · cases e
theorem sndV_glob (y : Str) (t : T) : SndV (.glob y t) := by
  refine .of rfl rfl rfl ?_
  intro X Y Z Γ Ns σ τ h ty w m I x e
  dsimp only at e ⊢
  split at e
  · rename_i f
    cases e
    exact .now I x (.flat0 f)
  · cases e
theorem sndV_xf (v : Nat) (f : Str) (tb : List (Nat × Nat)) (c : Nat) (ts : List T) : SndV (.xf v f tb c ts) := by
  refine .of rfl rfl rfl ?_
  intro X Y Z Γ Ns σ τ h ty w m I x e
  cases e
  have get : ∀ (ts : List T) (i : Nat) (t : T), flat0s ts = true → ts[i]? = some t → (embs ts)[i]? = some (emb t) ∧ flat0 t = true := by
    intro ts
    induction ts with
    | nil => intro i t _ e; simp at e
    | cons t0 ts ih =>
      intro i t f e
      rw [flat0s, Bool.and_eq_true] at f
      cases i with
      | zero => simp at e; subst e; exact ⟨rfl, f.1⟩
      | succ i => exact ih i t f.2 (by simpa using e)
  cases q : xfT tb c ts with
  | none => exact trivial
  | some t =>
    unfold xfT at q
    split at q
    · rename_i fl
      cases q2 : tb.lookup c with
      | none => rw [q2] at q; cases q
      | some i =>
        rw [q2] at q
        obtain ⟨g1, g2⟩ := get ts i t fl q
        have : xfD tb c (embs ts) = some (emb t) := by unfold xfD; rw [q2]; exact g1
        show Pst X Y Z Γ Ns σ τ h [] [] (KV X Y .F) (ofO (xfD tb c (embs ts)) h) (.ok t τ)
        rw [this]
        exact .now I x (.flat0 g2)
    · cases q
theorem sndV_xis (v : Nat) (t : String) (b : Bool) : SndV (.xis v t b) := by
  refine .of rfl rfl rfl ?_
  intro X Y Z Γ Ns σ τ h ty w m I x e
  cases e
  exact .now I x (.flat0 (t := .bl b) rfl)
/-- out of one value -/
theorem map_ok {k : Wy → Option ρ} {z : ρ} (A : SndV a) (I : Inv Z Y Γ Ns σ τ h) (x : Xok X Y Z Ns h) (e : (match (et a).v Γ with | some (x, w, m) => (k x).map fun z => (z, w, m) | none => none) = some (z, w, m)) {f : D → Hh → Res γ} {g : T → Sm → Q δ}
    (c : ∀ ty Z1 Ns1 h1 d t τ1, k ty = some z → Nx X Y Z Γ Ns σ τ h w m Z1 Ns1 τ1 h1 → KV X Y ty Z1 Ns1 h1 d t τ1 → Pst X Y Z Γ Ns σ τ h w m K2 (f d h1) (g t τ1)) :
    Pst X Y Z Γ Ns σ τ h w m K2 (((den (er a)).v σ h).bind f) (((vd a).v τ).bind g) := by
  split at e
  · rename_i ty wa ma ea
    cases ek : k ty with
    | none => rw [ek] at e; cases e
    | some z' =>
      rw [ek] at e
      cases e
      exact (A.v I x ea).fin fun Z1 Ns1 h1 d t τ1 n kv => c ty Z1 Ns1 h1 d t τ1 ek n kv
  · cases e
theorem mapF_ok {ty : Wy} (A : SndV a) (I : Inv Z Y Γ Ns σ τ h) (x : Xok X Y Z Ns h) (e : (((et a).v Γ).map fun r => (Wy.F, r.2)) = some (ty, w, m)) {f : D → Hh → Res D} {g : T → Sm → Q T}
    (c : ∀ Z1 Ns1 h1 d t τ1, Nx X Y Z Γ Ns σ τ h w m Z1 Ns1 τ1 h1 → (∃ ty, KV X Y ty Z1 Ns1 h1 d t τ1) → Pst X Y Z Γ Ns σ τ h w m (KV X Y .F) (f d h1) (g t τ1)) :
    Pst X Y Z Γ Ns σ τ h w m (KV X Y ty) (((den (er a)).v σ h).bind f) (((vd a).v τ).bind g) := by
  cases ea : (et a).v Γ with
  | none => rw [ea] at e; cases e
  | some r =>
    obtain ⟨ty0, wa, ma⟩ := r
    rw [ea] at e
    cases e
    exact (A.v I x ea).fin fun Z1 Ns1 h1 d t τ1 n kv => c Z1 Ns1 h1 d t τ1 n ⟨_, kv⟩
theorem sndV_fl (A : SndV a) : SndV (.fl a) := by
  have V : ∀ {X Y Z : Nat → Prop} {Γ : G} {Ns : Os} {σ : Sl} {τ : Sm} {h : Hh} {ty : Wy} {w m : List Nat}, Inv Z Y Γ Ns σ τ h → Xok X Y Z Ns h → (((et a).v Γ).map fun r => (Wy.F, r.2)) = some (ty, w, m) → Pst X Y Z Γ Ns σ τ h w m (KV X Y ty) ((den (er a)).v σ h) (((vd a).v τ).bind flQ) := by
    intro X Y Z Γ Ns σ τ h ty w m I x e
    cases ea : (et a).v Γ with
    | none => rw [ea] at e; cases e
    | some r =>
      obtain ⟨ty0, wa, ma⟩ := r
      rw [ea] at e
      cases e
      have p := A.v I x ea
      cases e2 : (vd a).v τ with
      | bad => exact trivial
      | exc c ts τ1 => rw [e2] at p; exact p
      | ok t τ1 =>
        rw [e2] at p
        obtain ⟨d, h1, Z1, Ns1, e3, n, kv⟩ := p
        rw [q_ok]
        unfold flQ
        split
        · rename_i f
          obtain ⟨Y', rp⟩ := kv.rp
          exact ⟨d, h1, Z1, Ns1, e3, n, by decide, [], ⟨rp.z f, f⟩, .nil, fun n hn => by cases hn⟩
        · exact trivial
  constructor
  · exact fun I x q => V I x q
  · exact fun I x q => by cases q
  · exact fun I x q => by cases q
  · exact fun I x q => by cases q
  · exact fun I x q => by cases q
  · exact fun I x q => by cases q
  · exact fun I x q => SV.x (g := fun σ h => (den (er a)).v σ h) (f := fun τ => ((vd a).v τ).bind flQ) V I x q
theorem sndV_bin (op : Operator) (A : SndV a) (B : SndV b) : SndV (.bin op a b) := by
  refine .of rfl rfl rfl ?_
  intro X Y Z Γ Ns σ τ h ty w m I x e
  refine two_ok A B I x e fun tx ty' Z1 Ns1 h1 d1 t1 d2 t2 τ1 ek n k => ?_
  cases ek
  obtain ⟨_, r1⟩ := k.fst.rp
  obtain ⟨_, r2⟩ := k.snd.rp
  cases q : binT op t1 t2 with
  | none => exact trivial
  | some z =>
    obtain ⟨e1, e2⟩ := bin_ok r1 r2 q
    rw [e1]
    exact .at n (.flat0 e2)
theorem sndV_cmp (op : CmpOp) (A : SndV a) (B : SndV b) : SndV (.cmp op a b) := by
  refine .of rfl rfl rfl ?_
  intro X Y Z Γ Ns σ τ h ty w m I x e
  refine two_ok A B I x e fun tx ty' Z1 Ns1 h1 d1 t1 d2 t2 τ1 ek n k => ?_
  cases ek
  obtain ⟨_, r1⟩ := k.fst.rp
  obtain ⟨_, r2⟩ := k.snd.rp
  cases q : cmpT op t1 t2 with
  | none => exact trivial
  | some z =>
    rw [cmp_ok r1 r2 q]
    exact .at n (.flat0 (t := .bl z) rfl)
theorem sndV_chain (op op' : CmpOp) (A : SndV a) (B : SndV b) (C : SndV c) : SndV (.chain op op' a b c) := by
  refine .of rfl rfl rfl ?_
  intro X Y Z Γ Ns σ τ h ty w m I x e
  dsimp only at e
  split at e
  · rename_i tx ty1 w1 m1 e1
    split at e
    · rename_i tz w2 m2 e2
      split at e
      · rename_i fr
        cases e
        have st : ∀ {Z1 : Nat → Prop} {Ns1 : Os} {h1 : Hh} {d1 d2 : D} {t1 t2 : T} {τ1 : Sm}, Nx X Y Z Γ Ns σ τ h w1 m1 Z1 Ns1 τ1 h1 → K12 X Y tx ty1 Z1 Ns1 h1 d1 t1 d2 t2 τ1 →
            Pst X Y Z Γ Ns σ τ h (w1 ++ w2) (m1 ++ m2) (KV X Y .F) ((cmpD op d1 d2 h1).bind fun z h3 => boolR z (((den (er c)).v σ h3).bind fun w h4 => cmpD op' d2 w h4) (.ok (.bl false) h3)) ((blQ (cmpT op t1 t2) τ1).bind fun z τ3 => boolQ z (((vd c).v τ3).bind fun w τ4 => blQ (cmpT op' t2 w) τ4) (.ok (.bl false) τ3)) := by
          intro Z1 Ns1 h1 d1 d2 t1 t2 τ1 n k
          obtain ⟨_, r1⟩ := k.fst.rp
          obtain ⟨_, r2⟩ := k.snd.rp
          cases q : cmpT op t1 t2 with
          | none => exact trivial
          | some z =>
            rw [cmp_ok r1 r2 q]
            cases z with
            | false => exact .at n.left (.flat0 (t := .bl false) rfl)
            | true =>
              show Pst X Y Z Γ Ns σ τ h (w1 ++ w2) (m1 ++ m2) (KV X Y .F) (((den (er c)).v σ h1).bind fun w h4 => cmpD op' d2 w h4) (((vd c).v τ1).bind fun w τ4 => blQ (cmpT op' t2 w) τ4)
              obtain ⟨ni, N, v, p, nx⟩ := k.snd
              refine (Pst.carry n (C.v n.inv (p.xok (n.xok x)) e2) fun _ q => .inl q).fin fun Z2 Ns2 h2 d3 t3 τ2 n2 kk => ?_
              have k3 := KV.and ni v p nx kk.1 fr kk.2
              obtain ⟨_, r2⟩ := k3.fst.rp
              obtain ⟨_, r3⟩ := k3.snd.rp
              cases q : cmpT op' t2 t3 with
              | none => exact trivial
              | some z =>
                rw [cmp_ok r2 r3 q]
                exact .at n2 (.flat0 (t := .bl z) rfl)
        exact two_ok' A B I x e1 fun tx' ty' Z1 Ns1 h1 d1 t1 d2 t2 τ1 ek n k => by cases ek; exact st n k
      · cases e
    · cases e
  · cases e
theorem sndV_neg (A : SndV a) : SndV (.neg a) := by
  refine .of rfl rfl rfl ?_
  intro X Y Z Γ Ns σ τ h ty w m I x e
  refine mapF_ok A I x e fun Z1 Ns1 h1 d t τ1 n k => ?_
  obtain ⟨_, k⟩ := k
  obtain ⟨_, r⟩ := k.rp
  cases r with
  | int i => exact .at n (.flat0 (t := .int (-i)) rfl)
  | _ => exact trivial
theorem sndV_isi (A : SndV a) (ty : Ty) : SndV (.isi a ty) := by
  refine .of rfl rfl rfl ?_
  intro X Y Z Γ Ns σ τ h ty w m I x e
  refine mapF_ok A I x e fun Z1 Ns1 h1 d t τ1 n k => ?_
  obtain ⟨_, k⟩ := k
  obtain ⟨_, r⟩ := k.rp
  cases q : tyT t with
  | none => exact trivial
  | some kd =>
    unfold isiR
    rw [ty_ok r q]
    exact .at n (.flat0 (t := .bl _) rfl)
theorem sndV_not (A : SndV a) : SndV (.not a) := by
  have H : SV (fun σ h => (((den (er a)).v σ h).bind truR).bind fun b h1 => .ok (.bl (!b)) h1) (fun τ => (((vd a).v τ).bind fun x τ1 => opQ (truT x) τ1).bind fun b τ1 => .ok (.bl (!b)) τ1) (fun Γ => ((et a).v Γ).map fun r => (.F, r.2)) := by
    intro X Y Z Γ Ns σ τ h ty w m I x e
    dsimp only at e
    cases ea : (et a).v Γ with
    | none => rw [ea] at e; cases e
    | some r =>
      obtain ⟨ty0, wa, ma⟩ := r
      rw [ea] at e
      cases e
      refine Pst.fin (K := KE) ((A.v I x ea).fin fun Z1 Ns1 h1 d t τ1 n kv => ?_) fun Z1 Ns1 h1 d t τ1 n kv => ?_
      · obtain ⟨_, r⟩ := kv.rp
        cases q : truT t with
        | none => exact trivial
        | some b =>
          unfold truR
          rw [tru_ok r q]
          exact .at n rfl
      · cases kv
        exact .at n (.flat0 (t := .bl _) rfl)
  constructor
  · exact fun I x q => H I x q
  · intro X Y Z Γ Ns σ τ h w m I x q
    refine Pst.fin (K := KE) (A.t I x q) fun Z1 Ns1 h1 d t τ1 n kv => ?_
    cases kv
    exact .at n rfl
  · exact fun I x q => by cases q
  · exact fun I x q => SV.o H I x q
  · exact fun I x q => SV.i H I x q
  · exact fun I x q => by cases q
  · exact fun I x q => SV.x H I x q
/-- a test, then something else by its answer -/
theorem tst_ok {k : G → Option (ρ × List Nat × List Nat)} {z : ρ} (A : SndV a) (I : Inv Z Y Γ Ns σ τ h) (x : Xok X Y Z Ns h) (e : tst (et a).t k Γ = some (z, w, m)) {f : Bool → Hh → Res γ} {g : Bool → Sm → Q δ}
    (c : ∀ b w1 m1 w2 m2 Z1 Ns1 h1 τ1, w = w1 ++ w2 → m = m1 ++ m2 → k (inval Γ w1 m1) = some (z, w2, m2) → Nx X Y Z Γ Ns σ τ h w1 m1 Z1 Ns1 τ1 h1 → Pst X Y Z1 (inval Γ w1 m1) Ns1 σ τ1 h1 w2 m2 K2 (f b h1) (g b τ1)) :
    Pst X Y Z Γ Ns σ τ h w m K2 (((den (er a)).t σ h).bind f) (((vd a).t τ).bind g) := by
  unfold tst at e
  split at e
  · cases e
  · rename_i w1 m1 e1
    split at e
    · cases e
    · rename_i y w2 m2 e2
      cases e
      refine Pst.bind (A.t I x e1) fun Z1 Ns1 h1 b b' τ1 n kv => ?_
      cases kv
      exact c b w1 m1 w2 m2 Z1 Ns1 h1 τ1 rfl rfl e2 n
theorem sndV_and (A : SndV a) (B : SndV b) : SndV (.and a b) := by
  have H : SV (fun σ h => ((den (er a)).v σ h).bind fun x h1 => boolR x ((den (er b)).v σ h1) (.ok (.bl false) h1)) (fun τ => ((vd a).v τ).bind fun x τ1 => boolQ x ((vd b).v τ1) (.ok (.bl false) τ1)) (twoV (et a).v (et b).v fun x y => if x = .F ∧ y = .F then some .F else none) := by
    intro X Y Z Γ Ns σ τ h ty w m I x e
    unfold twoV at e
    split at e
    · cases e
    · rename_i tx wa ma ea
      split at e
      · cases e
      · rename_i ty wb mb eb
        split at e
        · by_cases c : tx = .F ∧ ty = .F
          · obtain ⟨rfl, rfl⟩ := c
            simp only [and_self, if_true, Option.map_some] at e
            cases e
            refine (A.v I x ea).bind fun Z1 Ns1 h1 d t τ1 n kv => ?_
            obtain ⟨_, r⟩ := kv.rp
            cases r with
            | bl k =>
              cases k with
              | true => exact B.v n.inv (n.xok x) eb
              | false => exact (Pst.now n.inv (n.xok x) (.flat0 (t := .bl false) rfl)).more (fun i hi => by cases hi) fun i ty q => inval_nil _ i ty (inval_some q).1
            | _ => exact trivial
          · dsimp only at e; rw [if_neg c] at e; cases e
        · cases e
  constructor
  · exact fun I x q => H I x q
  · intro X Y Z Γ Ns σ τ h w m I x q
    replace q : (tst (et a).t (fun Γ => ((et b).t Γ).map fun r => ((), r)) Γ).map (fun r => r.2) = some (w, m) := q
    cases q1 : tst (et a).t (fun Γ => ((et b).t Γ).map fun r => ((), r)) Γ with
    | none => rw [q1] at q; cases q
    | some r =>
      rw [q1] at q
      obtain ⟨u, w', m'⟩ := r
      cases q
      refine tst_ok A I x q1 fun k w1 m1 w2 m2 Z1 Ns1 h1 τ1 _ _ e2 n => ?_
      cases e3 : (et b).t (inval Γ w1 m1) with
      | none => rw [e3] at e2; cases e2
      | some r =>
        rw [e3] at e2
        cases e2
        cases k with
        | true => exact B.t n.inv (n.xok x) e3
        | false => exact (Pst.now n.inv (n.xok x) rfl).more (fun i hi => by cases hi) fun i ty q => inval_nil _ i ty (inval_some q).1
  · exact fun I x q => by cases q
  · exact fun I x q => SV.o H I x q
  · exact fun I x q => SV.i H I x q
  · exact fun I x q => by cases q
  · exact fun I x q => SV.x H I x q
theorem sndV_or (A : SndV a) (B : SndV b) : SndV (.or a b) := by
  have H : SV (fun σ h => ((den (er a)).v σ h).bind fun x h1 => boolR x (.ok (.bl true) h1) ((den (er b)).v σ h1)) (fun τ => ((vd a).v τ).bind fun x τ1 => boolQ x (.ok (.bl true) τ1) ((vd b).v τ1)) (twoV (et a).v (et b).v fun x y => if x = .F ∧ y = .F then some .F else none) := by
    intro X Y Z Γ Ns σ τ h ty w m I x e
    unfold twoV at e
    split at e
    · cases e
    · rename_i tx wa ma ea
      split at e
      · cases e
      · rename_i ty wb mb eb
        split at e
        · by_cases c : tx = .F ∧ ty = .F
          · obtain ⟨rfl, rfl⟩ := c
            simp only [and_self, if_true, Option.map_some] at e
            cases e
            refine (A.v I x ea).bind fun Z1 Ns1 h1 d t τ1 n kv => ?_
            obtain ⟨_, r⟩ := kv.rp
            cases r with
            | bl k =>
              cases k with
              | false => exact B.v n.inv (n.xok x) eb
              | true => exact (Pst.now n.inv (n.xok x) (.flat0 (t := .bl true) rfl)).more (fun i hi => by cases hi) fun i ty q => inval_nil _ i ty (inval_some q).1
            | _ => exact trivial
          · dsimp only at e; rw [if_neg c] at e; cases e
        · cases e
  constructor
  · exact fun I x q => H I x q
  · intro X Y Z Γ Ns σ τ h w m I x q
    replace q : (tst (et a).t (fun Γ => ((et b).t Γ).map fun r => ((), r)) Γ).map (fun r => r.2) = some (w, m) := q
    cases q1 : tst (et a).t (fun Γ => ((et b).t Γ).map fun r => ((), r)) Γ with
    | none => rw [q1] at q; cases q
    | some r =>
      rw [q1] at q
      obtain ⟨u, w', m'⟩ := r
      cases q
      refine tst_ok A I x q1 fun k w1 m1 w2 m2 Z1 Ns1 h1 τ1 _ _ e2 n => ?_
      cases e3 : (et b).t (inval Γ w1 m1) with
      | none => rw [e3] at e2; cases e2
      | some r =>
        rw [e3] at e2
        cases e2
        cases k with
        | false => exact B.t n.inv (n.xok x) e3
        | true => exact (Pst.now n.inv (n.xok x) rfl).more (fun i hi => by cases hi) fun i ty q => inval_nil _ i ty (inval_some q).1
  · exact fun I x q => by cases q
  · exact fun I x q => SV.o H I x q
  · exact fun I x q => SV.i H I x q
  · exact fun I x q => by cases q
  · exact fun I x q => SV.x H I x q
theorem Pst.le {ty ty' : Wy} {r : Res D} {q : Q T} (p : Pst X Y Z Γ Ns σ τ h w m (KV X Y ty) r q) (x : Xok X Y Z Ns h) (l : ty.le ty' = true) : Pst X Y Z Γ Ns σ τ h w m (KV X Y ty') r q := by
  cases q with
  | bad => exact trivial
  | exc c ts τ1 => exact p
  | ok t τ1 =>
    obtain ⟨d, h1, Z1, Ns1, e, n, k⟩ := p
    obtain ⟨Z2, n2, k2⟩ := k.le n x l
    exact ⟨d, h1, Z2, Ns1, e, n2, k2⟩
theorem inval_right {Γ : G} {ws ms ws' ms' : List Nat} : ∀ (i : Nat) (ty : Wy), (inval Γ (ws ++ ws') (ms ++ ms'))[i]? = some (some ty) → (inval Γ ws' ms')[i]? = some (some ty) := fun i ty e => by
  obtain ⟨a, b, c⟩ := inval_some e
  rw [free_app] at c
  simp at b
  exact inval_of a b.2 c.2
theorem sndV_ife (C : SndV c) (A : SndV a) (B : SndV b) : SndV (.ife c a b) := by
  have H : SV (fun σ h => ((den (er c)).t σ h).bind fun k h1 => if k = true then (den (er a)).v σ h1 else (den (er b)).v σ h1) (fun τ => ((vd c).t τ).bind fun k τ1 => if k = true then (vd a).v τ1 else (vd b).v τ1) (tst (et c).t fun Γ => match (et a).v Γ, (et b).v Γ with
      | some (x, w, m), some (y, w', m') => let z := x.jn y
        if (x.le z && y.le z) = true then some (z, w ++ w', m ++ m') else none
      | _, _ => none) := by
    intro X Y Z Γ Ns σ τ h ty w m I x e
    refine tst_ok C I x e fun k w1 m1 w2 m2 Z1 Ns1 h1 τ1 _ _ e2 n => ?_
    split at e2
    · rename_i tx wa ma ty' wb mb ea eb
      dsimp only at e2
      split at e2
      · rename_i c
        rw [Bool.and_eq_true] at c
        cases e2
        cases k with
        | true => exact ((A.v n.inv (n.xok x) ea).le (n.xok x) c.1).more (fun i hi => List.mem_append_left _ hi) inval_left
        | false => exact ((B.v n.inv (n.xok x) eb).le (n.xok x) c.2).more (fun i hi => List.mem_append_right _ hi) inval_right
      · cases e2
    · cases e2
  constructor
  · exact fun I x q => H I x q
  · exact fun I x q => by cases q
  · exact fun I x q => by cases q
  · exact fun I x q => SV.o H I x q
  · exact fun I x q => SV.i H I x q
  · exact fun I x q => by cases q
  · exact fun I x q => SV.x H I x q
end
end L3

namespace L3
open PySem L2
def upN (Ns : Os) (r : Nat) (N : List Nat) : Os := fun j => if j = r then N else Ns j
theorem upN_same {Ns : Os} {r : Nat} {N : List Nat} : upN Ns r N r = N := if_pos rfl
theorem upN_ne {Ns : Os} {r j : Nat} {N : List Nat} (h : j ≠ r) : upN Ns r N j = Ns j := if_neg h
section
variable {α β γ δ ρ : Type} {X X' Y Z Z1 Z2 : Nat → Prop} {Γ : G} {Ns Ns1 Ns2 : Os} {σ : Sl} {τ τ1 τ2 : Sm} {h h1 h2 : Hh} {w m w1 m1 w2 m2 : List Nat} {K2 : (Nat → Prop) → Os → Hh → γ → δ → Sm → Prop} {a b c e es : VE}
theorem Val.rpT {ty : Wy} {d : D} {t : T} {N : List Nat} (v : Val Z Y Ns h ty d t N) (n : ty ≠ .I) : Rp Z (fun _ => True) h d t := by
  obtain ⟨Y', r⟩ := v.rp n
  exact r.mono (fun _ z => z) (fun _ _ => trivial) (fun _ _ => rfl) fun _ _ => rfl
/-- things of one kind -/
def VL (Z Y : Nat → Prop) (Ns : Os) (h : Hh) (ty : Wy) (ds : List D) (ts : List T) (N : List Nat) : Prop := match ty with
  | .F => Rps Z Z h ds ts ∧ flats ts = true
  | .O => ∃ N', Ws Z h ds ts N' ∧ N'.Sublist N
  | .B rs => Rps Z (fun n => U Z Y Ns rs n ∨ n ∈ N) h ds ts
  | .I => False
theorem VL.up {ty z : Wy} {ds : List D} {ts : List T} {N : List Nat} (v : VL Z Y Ns h ty ds ts N) (l : ty.le z = true) : VL Z Y Ns h z ds ts N := by
  cases ty with
  | F =>
    cases z with
    | F => exact v
    | O => exact ⟨[], v.1.own v.2, List.nil_sublist _⟩
    | B rs => exact v.1.mono (fun _ z => z) (fun _ z => .inl (.inl z)) (fun _ _ => rfl) fun _ _ => rfl
    | I => cases l
  | O =>
    cases z with
    | F => cases l
    | O => exact v
    | B rs =>
      obtain ⟨N', w, s⟩ := v
      exact w.rp fun n hn => .inr (s.subset hn)
    | I => cases l
  | B rs =>
    cases z with
    | B rs' =>
      refine Rps.mono (fun _ z => z) (fun n u => ?_) (fun _ _ => rfl) (fun _ _ => rfl) v
      rcases u with (u | u | ⟨r, hr, u⟩) | u
      · exact .inl (.inl u)
      · exact .inl (.inr (.inl u))
      · refine .inl (.inr (.inr ⟨r, ?_, u⟩))
        unfold Wy.le at l
        rw [List.all_eq_true] at l
        simpa using l r hr
      · exact .inr u
    | _ => cases l
  | I => exact v.elim
theorem Val.one {ty : Wy} {d : D} {t : T} {N : List Nat} (v : Val Z Y Ns h ty d t N) (n : ty ≠ .I) : VL Z Y Ns h ty [d] [t] N := by
  cases ty with
  | F => exact ⟨.cons v.1 .nil, by simp [flats, v.2]⟩
  | O => exact ⟨N ++ [], .cons v .nil, by simp⟩
  | B rs => exact .cons (Rp.mono (fun _ z => z) (fun _ z => .inl z) (fun _ _ => rfl) (fun _ _ => rfl) v) .nil
  | I => exact absurd rfl n
theorem VL.cons {z : Wy} {d : D} {t : T} {ds : List D} {ts : List T} {N1 N2 : List Nat} (v : VL Z Y Ns h z [d] [t] N1) (r : VL Z Y Ns h z ds ts N2) : VL Z Y Ns h z (d :: ds) (t :: ts) (N1 ++ N2) := by
  cases z with
  | F =>
    obtain ⟨a, f⟩ := v
    cases a with
    | cons a _ => exact ⟨.cons a r.1, by simp [flats] at f ⊢; exact ⟨f, r.2⟩⟩
  | O =>
    obtain ⟨N', w, s⟩ := v
    obtain ⟨N2', w2, s2⟩ := r
    cases w with
    | cons a q =>
      cases q
      simp at s
      exact ⟨_, .cons a w2, s.append s2⟩
  | B rs =>
    cases v with
    | cons a _ =>
      refine Rps.cons (a.mono (fun _ z => z) (fun n u => ?_) (fun _ _ => rfl) fun _ _ => rfl) (Rps.mono (fun _ z => z) (fun n u => ?_) (fun _ _ => rfl) (fun _ _ => rfl) r)
      · exact u.imp_right fun q => List.mem_append_left _ q
      · exact u.imp_right fun q => List.mem_append_right _ q
  | I => exact v.elim
theorem AK.vl {base : Wy} (hb : VL Z Y Ns h base [] [] []) : ∀ {tas : List TA} {ds : List D} {as : List VA} {N : List Nat} {z : Wy}, AK Z Y Ns σ h τ tas ds as N → tyAll base tas = some z → ∃ ts, valsA as = some ts ∧ VL Z Y Ns h z ds ts N
  | [], ds, as, N, z, k, e => by
    cases ds with
    | cons _ _ => exact k.elim
    | nil =>
      cases as with
      | cons _ _ => exact k.elim
      | nil => cases e; cases k; exact ⟨[], rfl, hb⟩
  | .p i :: r, ds, as, N, z, k, e => by cases e
  | .v ty :: r, ds, as, N, z, k, e => by
    cases ds with
    | nil => exact k.elim
    | cons d ds =>
      cases as with
      | nil => exact k.elim
      | cons a as =>
        cases a with
        | p _ _ => exact k.elim
        | v t =>
          obtain ⟨N1, N2, rfl, ni, v, k⟩ := k
          unfold tyAll at e
          cases q : tyAll base r with
          | none => rw [q] at e; cases e
          | some y =>
            rw [q] at e
            dsimp only at e
            split at e
            · rename_i c
              rw [Bool.and_eq_true] at c
              cases e
              obtain ⟨ts, e1, v2⟩ := AK.vl hb k q
              exact ⟨t :: ts, by simp [valsA, e1], ((v.one ni).up c.1).cons (v2.up c.2)⟩
            · cases e
theorem AK.rps : ∀ {tas : List TA} {ds : List D} {as : List VA} {N : List Nat} {ts : List T}, AK Z Y Ns σ h τ tas ds as N → valsA as = some ts → Rps Z (fun _ => True) h ds ts
  | [], ds, as, N, ts, k, e => by
    cases ds with
    | cons _ _ => exact k.elim
    | nil =>
      cases as with
      | cons _ _ => exact k.elim
      | nil => cases e; exact .nil
  | .p i :: r, ds, as, N, ts, k, e => by
    cases ds with
    | nil => exact k.elim
    | cons d ds =>
      cases as with
      | nil => exact k.elim
      | cons a as =>
        cases a with
        | p _ _ => cases e
        | v t => exact k.elim
  | .v ty :: r, ds, as, N, ts, k, e => by
    cases ds with
    | nil => exact k.elim
    | cons d ds =>
      cases as with
      | nil => exact k.elim
      | cons a as =>
        cases a with
        | p _ _ => exact k.elim
        | v t =>
          obtain ⟨N1, N2, rfl, ni, v, k⟩ := k
          unfold valsA at e
          cases q : valsA as with
          | none => rw [q] at e; cases e
          | some us => rw [q] at e; cases e; exact .cons (v.rpT ni) (AK.rps k q)
theorem Tmp.sub {N N' : List Nat} (p : Tmp Z Y Ns h N) (s : N'.Sublist N) : Tmp Z Y Ns h N' := ⟨s.nodup p.nd, fun n hn => p.ow n (s.subset hn)⟩
theorem VL.len {z : Wy} {ds : List D} {ts : List T} {N : List Nat} (v : VL Z Y Ns h z ds ts N) : ds.length = ts.length := by
  cases z with
  | F => exact v.1.length
  | O => obtain ⟨_, w, _⟩ := v; exact w.length
  | B rs => exact Rps.length v
  | I => exact v.elim
theorem sndV_tup (E : SndV es) : SndV (.tup es) := by
  refine .of rfl rfl rfl ?_
  intro X Y Z Γ Ns σ τ h ty w m I x e
  dsimp only at e
  split at e
  · rename_i tas w' m' ea
    cases ek : tyAll .F tas with
    | none => rw [ek] at e; cases e
    | some z =>
      rw [ek] at e
      cases e
      refine (E.a I x ea).fin fun Z1 Ns1 h1 ds as τ1 n ka => ?_
      obtain ⟨N, ka, p, nx⟩ := ka
      obtain ⟨ts, e1, v⟩ := AK.vl (base := .F) ⟨.nil, rfl⟩ ka ek
      rw [e1]
      show Pst X Y Z Γ Ns σ τ h w m (KV X Y ty) (tupR ds h1) ((opQ (few 1000 ts) τ1).bind fun ts τ1 => .ok (.tup ts) τ1)
      unfold few tupR
      rw [v.len]
      split
      · cases ty with
        | F => exact .at n ⟨by decide, [], ⟨.tup v.1, v.2⟩, .nil, fun n hn => by cases hn⟩
        | O =>
          obtain ⟨N', w, s⟩ := v
          exact .at n ⟨by decide, N', .tup w, p.sub s, fun n hn => nx n (s.subset hn)⟩
        | B rs =>
          refine .at (n.then (.frz (n.xok x) p nx) (n.inv.frz p)) ⟨by simp, [], .tup ?_, .nil, fun n hn => by cases hn⟩
          refine Rps.mono (fun _ z => .inl z) (fun n u => ?_) (fun _ _ => rfl) (fun _ _ => rfl) v
          rcases u with (u | u | u) | u
          · exact .inl (.inl u)
          · exact .inr (.inl u)
          · exact .inr (.inr u)
          · exact .inl (.inr u)
        | I => exact v.elim
      · exact trivial
  · cases e
theorem sndV_lst (E : SndV es) : SndV (.lst es) := by
  refine .of rfl rfl rfl ?_
  intro X Y Z Γ Ns σ τ h ty w m I x e
  dsimp only at e
  split at e
  · rename_i tas w' m' ea
    cases ek : tyAll .O tas with
    | none => rw [ek] at e; cases e
    | some z =>
      rw [ek] at e
      cases e
      refine (E.a I x ea).fin fun Z1 Ns1 h1 ds as τ1 n ka => ?_
      obtain ⟨N, ka, p, nx⟩ := ka
      obtain ⟨ts, e1, v⟩ := AK.vl (base := .O) ⟨[], .nil, .refl _⟩ ka ek
      rw [e1]
      show Pst X Y Z Γ Ns σ τ h w m (KV X Y ty) (lstR ds h1) ((opQ (few 1000 ts) τ1).bind fun ts τ1 => .ok (.lst ts) τ1)
      unfold few lstR
      rw [v.len]
      split
      · cases ty with
        | F =>
          exfalso
          have : ∀ {tas : List TA}, tyAll .O tas ≠ some .F := by
            intro tas
            induction tas with
            | nil => simp [tyAll]
            | cons a r ih =>
              cases a with
              | p i => simp [tyAll]
              | v x =>
                unfold tyAll
                cases q : tyAll .O r with
                | none => simp
                | some y =>
                  dsimp only
                  split
                  · rename_i c
                    rw [Bool.and_eq_true] at c
                    intro e
                    simp only [Option.some.injEq] at e
                    rw [e] at c
                    cases y with
                    | F => exact ih q
                    | O => cases c.2
                    | B rs => cases c.2
                    | I => cases c.2
                  · simp
          exact this ek
        | O =>
          obtain ⟨N', w, s⟩ := v
          have p' := p.sub s
          have g := Gr.new (o := .lst ds) n.inv (n.xok x)
          refine .at (n.then g n.inv.new) ⟨by decide, h1.length :: N', .lst get_new (w.mono (fun _ z => z) g.zs fun k hk => get_app (p'.ow k hk).1), p'.new n.inv, fun k hk => ?_⟩
          rcases List.mem_cons.mp hk with rfl | hk
          · exact fun q => by have := (n.xok x _ q).1; omega
          · exact nx k (s.subset hk)
        | B rs =>
          have n2 := n.then (.frz (n.xok x) p nx) (n.inv.frz p)
          exact new_ok (k := false) (rs := rs) n2 x (Rps.mono (fun _ z => .inl z) (fun n u => by
            rcases u with (u | u | u) | u
            · exact .inl (.inl u)
            · exact .inr (.inl u)
            · exact .inr (.inr u)
            · exact .inl (.inr u)) (fun _ _ => rfl) (fun _ _ => rfl) v)
        | I => exact v.elim
      · exact trivial
  · cases e
theorem sndV_bi (b : Bi) (E : SndV es) : SndV (.bi b es) := by
  refine .of rfl rfl rfl ?_
  intro X Y Z Γ Ns σ τ h ty w m I x e
  dsimp only at e
  split at e
  · rename_i tas w' m' ea
    cases ek : tyAll .F tas with
    | none => rw [ek] at e; cases e
    | some z =>
      rw [ek] at e
      cases e
      refine (E.a I x ea).fin fun Z1 Ns1 h1 ds as τ1 n ka => ?_
      obtain ⟨N, ka, p, nx⟩ := ka
      obtain ⟨ts, e1, v⟩ := AK.vl (base := .F) ⟨.nil, rfl⟩ ka ek
      rw [e1]
      show Pst X Y Z Γ Ns σ τ h w m (KV X Y .F) (biD b ds h1) (opQ (biT b ts) τ1)
      cases q : biT b ts with
      | none => exact trivial
      | some u =>
        obtain ⟨e2, e3⟩ := bi_ok (ka.rps e1) q
        rw [e2]
        exact .at n (.flat0 e3)
  · cases e
theorem sndV_nil : SndV .nil where
  v := fun I x q => by cases q
  t := fun I x q => by cases q; exact .now I x rfl
  a := fun I x q => by cases q; exact .now I x ⟨[], rfl, .nil, fun n hn => by cases hn⟩
  o := fun I x q => by cases q; exact .now I x rfl
  i := fun I x q => by cases q
  p := fun I x q => by cases q
  x := fun I x q => by cases q
theorem PathK.nx {d : D} {r : Nat} {s : List Stp} (k : PathK Z Ns σ h τ d r s) (n : Nx X Y Z Γ Ns σ τ h w m Z1 Ns1 τ1 h1) (hr : r ∉ w) : PathK Z1 Ns1 σ h1 τ1 d r s := by
  obtain ⟨d0, t0, u, e1, e2, wv, e3, e4⟩ := k
  obtain ⟨d1, A, M, B, P⟩ := W.path s wv e3
  obtain ⟨f1, f2⟩ := n.fx r hr
  have sm : ∀ k ∈ Ns r, h1[k]? = h[k]? := fun k hk => (n.gr.keep r hr k hk).1
  refine ⟨d0, t0, u, e1, f2.trans e2, ?_, e3, ?_⟩
  · rw [f1]; exact W.mono n.gr.zz n.gr.zs wv sm
  · have a1 := P.dp h fun _ _ => rfl
    rw [e4] at a1
    cases a1
    exact P.dp h1 fun k hk => sm k (by rw [P.e]; simp [hk])
theorem AK.nx : ∀ {tas : List TA} {ds : List D} {as : List VA} {N : List Nat}, AK Z Y Ns σ h τ tas ds as N → Nx X Y Z Γ Ns σ τ h w m Z1 Ns1 τ1 h1 → freeA w tas = true → (∀ k ∈ N, h1[k]? = h[k]?) → AK Z1 Y Ns1 σ h1 τ1 tas ds as N
  | [], ds, as, N, k, n, f, s => by
    cases ds with
    | cons _ _ => exact k.elim
    | nil =>
      cases as with
      | cons _ _ => exact k.elim
      | nil => exact k
  | .p i :: r, ds, as, N, k, n, f, s => by
    cases ds with
    | nil => exact k.elim
    | cons d ds =>
      cases as with
      | nil => exact k.elim
      | cons a as =>
        cases a with
        | v _ => exact k.elim
        | p j q =>
          obtain ⟨rfl, pk, k⟩ := k
          simp [freeA] at f
          exact ⟨rfl, pk.nx n f.1, AK.nx k n f.2 s⟩
  | .v ty :: r, ds, as, N, k, n, f, s => by
    cases ds with
    | nil => exact k.elim
    | cons d ds =>
      cases as with
      | nil => exact k.elim
      | cons a as =>
        cases a with
        | p _ _ => exact k.elim
        | v t =>
          obtain ⟨N1, N2, rfl, ni, v, k⟩ := k
          rw [freeA, Bool.and_eq_true] at f
          exact ⟨N1, N2, rfl, ni, v.go n.gr f.1 fun k hk => s k (by simp [hk]), AK.nx k n f.2 fun k hk => s k (by simp [hk])⟩
theorem KX.ak {ta : TA} {d : D} {va : VA} (k : KX X Y σ ta Z Ns h d va τ) : ∃ N, AK Z Y Ns σ h τ [ta] [d] [va] N ∧ Tmp Z Y Ns h N ∧ ∀ n, n ∈ N → ¬ X n := by
  cases ta with
  | v ty =>
    cases va with
    | v t =>
      obtain ⟨ni, N, v, p, nx⟩ := k
      exact ⟨N, ⟨N, [], by simp, ni, v, rfl⟩, p, nx⟩
    | p _ _ => exact k.elim
  | p r =>
    cases va with
    | v t => exact k.elim
    | p r' s =>
      obtain ⟨rfl, pk⟩ := k
      exact ⟨[], ⟨rfl, pk, rfl⟩, .nil, fun n hn => by cases hn⟩
theorem AK.app : ∀ {t1 t2 : List TA} {d1 d2 : List D} {a1 a2 : List VA} {N1 N2 : List Nat}, AK Z Y Ns σ h τ t1 d1 a1 N1 → AK Z Y Ns σ h τ t2 d2 a2 N2 → AK Z Y Ns σ h τ (t1 ++ t2) (d1 ++ d2) (a1 ++ a2) (N1 ++ N2)
  | [], t2, ds, d2, as, a2, N1, N2, k, k2 => by
    cases ds with
    | cons _ _ => exact k.elim
    | nil =>
      cases as with
      | cons _ _ => exact k.elim
      | nil => cases k; exact k2
  | .p i :: r, t2, ds, d2, as, a2, N1, N2, k, k2 => by
    cases ds with
    | nil => exact k.elim
    | cons d ds =>
      cases as with
      | nil => exact k.elim
      | cons a as =>
        cases a with
        | v _ => exact k.elim
        | p j q =>
          obtain ⟨rfl, pk, k⟩ := k
          exact ⟨rfl, pk, AK.app k k2⟩
  | .v ty :: r, t2, ds, d2, as, a2, N1, N2, k, k2 => by
    cases ds with
    | nil => exact k.elim
    | cons d ds =>
      cases as with
      | nil => exact k.elim
      | cons a as =>
        cases a with
        | p _ _ => exact k.elim
        | v t =>
          obtain ⟨N1, N2, rfl, ni, v, k⟩ := k
          exact ⟨N1, _, by rw [List.append_assoc], ni, v, AK.app k k2⟩
/-- arguments, then others -/
theorem KA.and {t1 t2 : List TA} {d1 d2 : List D} {a1 a2 : List VA} {N : List Nat} (k : AK Z Y Ns σ h τ t1 d1 a1 N) (p : Tmp Z Y Ns h N) (nx : ∀ n, n ∈ N → ¬ X n) (n : Nx (xN X N) Y Z Γ Ns σ τ h w m Z1 Ns1 τ1 h1) (f : freeA w t1 = true) (k2 : KA (xN X N) Y σ t2 Z1 Ns1 h1 d2 a2 τ1) :
    ∃ N2, AK Z1 Y Ns1 σ h1 τ1 t1 d1 a1 N ∧ AK Z1 Y Ns1 σ h1 τ1 t2 d2 a2 N2 ∧ Tmp Z1 Y Ns1 h1 (N ++ N2) ∧ ∀ n, n ∈ N ++ N2 → ¬ X n := by
  obtain ⟨N2, k2, p2, nx2⟩ := k2
  exact ⟨N2, k.nx n f n.gr.xNs, k2, (p.go n.gr).app p2 fun n hn q => nx2 n hn (.inr q), fun n hn => by
    rcases List.mem_append.mp hn with hn | hn
    · exact nx n hn
    · exact fun q => nx2 n hn (.inl q)⟩
theorem et_cons (ne : ∀ i, e ≠ .rv i) : et (.cons e es) = { Ety.of (fun _ => none) with a := fun Γ => match (et e).x Γ with
      | some (x, w, m) => match (et es).a (inval Γ w m) with
        | some (xs, w', m') => if freeA w' [x] = true then some (x :: xs, w ++ w', m ++ m') else none
        | none => none
      | none => none } := by
  cases e <;> first | rfl | exact absurd rfl (ne _)
theorem sndV_rv (i : Nat) : SndV (.rv i) where
  v := fun I x q => by cases q
  t := fun I x q => by cases q
  a := fun I x q => by cases q
  o := fun I x q => by cases q
  i := fun I x q => by cases q
  p := fun I x q => by cases q
  x := fun I x q => by cases q
theorem snd_consV (i : Nat) (F : SndV es) : SndV (.cons (.rv i) es) where
  v := fun I x q => by cases q
  t := fun I x q => by cases q
  a := fun {X Y Z Γ Ns σ τ h tas w m} I x q => by
    show Pst X Y Z Γ Ns σ τ h w m (KA X Y σ tas) ((varR σ i h).bind fun d h1 => ((den (er es)).a σ h1).bind fun ds h2 => .ok (d :: ds) h2) ((Q.ok (.p i []) τ).bind fun d τ1 => ((vd es).a τ1).bind fun ds τ2 => .ok (d :: ds) τ2)
    replace q : (match (et es).a Γ with
      | some (xs, w', m') => if isO (inval Γ w' m') i = true then some (TA.p i :: xs, w', m') else none
      | none => none) = some (tas, w, m) := q
    split at q
    · rename_i xs w' m' e1
      split at q
      · rename_i ho
        cases q
        have hΓ : (inval Γ w m)[i]? = some (some .O) := of_decide_eq_true ho
        obtain ⟨d, t, s1, s2, _⟩ := I.val i _ (inval_some hΓ).1
        have ev : varR σ i h = .ok d h := by unfold varR; rw [s1]
        rw [ev]
        show Pst X Y Z Γ Ns σ τ h w m (KA X Y σ (.p i :: xs)) (((den (er es)).a σ h).bind fun ds h2 => .ok (d :: ds) h2) (((vd es).a τ).bind fun ds τ2 => .ok (.p i [] :: ds) τ2)
        refine (F.a I x e1).fin fun Z1 Ns1 h1 ds as τ1 n ka => ?_
        obtain ⟨N, ka, p, nx⟩ := ka
        obtain ⟨d', t', q1, q2, wv⟩ := n.inv.val i _ hΓ
        rw [s1] at q1
        cases q1
        exact .at n ⟨N, ⟨rfl, ⟨d, t', t', s1, q2, wv, rfl, by simp [dpath]⟩, ka⟩, p, nx⟩
      · cases q
    · cases q
  o := fun I x q => by cases q
  i := fun I x q => by cases q
  p := fun I x q => by cases q
  x := fun I x q => by cases q
theorem snd_consG (ne : ∀ i, e ≠ .rv i) (E : SndV e) (F : SndV es) : SndV (.cons e es) where
  v := fun I x q => by rw [et_cons ne] at q; cases q
  t := fun I x q => by rw [et_cons ne] at q; cases q
  a := fun {X Y Z Γ Ns σ τ h tas w m} I x q => by
    show Pst X Y Z Γ Ns σ τ h w m (KA X Y σ tas) (((den (er e)).v σ h).bind fun d h1 => ((den (er es)).a σ h1).bind fun ds h2 => .ok (d :: ds) h2) (((vd e).x τ).bind fun d τ1 => ((vd es).a τ1).bind fun ds τ2 => .ok (d :: ds) τ2)
    rw [et_cons ne] at q
    replace q : (match (et e).x Γ with
      | some (x, w, m) => match (et es).a (inval Γ w m) with
        | some (xs, w', m') => if freeA w' [x] = true then some (x :: xs, w ++ w', m ++ m') else none
        | none => none
      | none => none) = some (tas, w, m) := q
    split at q
    · rename_i ta w1 m1 e1
      split at q
      · rename_i xs w2 m2 e2
        split at q
        · rename_i fr
          cases q
          refine (E.x I x e1).stepL fun Z1 Ns1 h1 d va τ1 n kx => ?_
          obtain ⟨N, ak, p, nx⟩ := kx.ak
          refine (Pst.carry n (F.a n.inv (p.xok (n.xok x)) e2) fun _ q => .inl q).fin fun Z2 Ns2 h2 ds as τ2 n2 kk => ?_
          obtain ⟨N2, k1, k2, p2, nx2⟩ := KA.and ak p nx kk.1 fr kk.2
          exact .at n2 ⟨_, k1.app k2, p2, nx2⟩
        · cases q
      · cases q
    · cases q
  o := fun I x q => by rw [et_cons ne] at q; cases q
  i := fun I x q => by rw [et_cons ne] at q; cases q
  p := fun I x q => by rw [et_cons ne] at q; cases q
  x := fun I x q => by rw [et_cons ne] at q; cases q
theorem sndV_cons (E : SndV e) (F : SndV es) : SndV (.cons e es) := by
  by_cases c : ∃ i, e = .rv i
  · obtain ⟨i, rfl⟩ := c
    exact snd_consV i F
  · exact snd_consG (fun i q => c ⟨i, q⟩) E F
theorem sndV_ref (E : SndV e) : SndV (.ref e) where
  v := fun I x q => by cases q
  t := fun I x q => by cases q
  a := fun I x q => by cases q
  o := fun I x q => by cases q
  i := fun I x q => by cases q
  p := fun I x q => by cases q
  x := fun {X Y Z Γ Ns σ τ h ta w m} I x q => by
    replace q : ((et e).p Γ).map (fun r => (TA.p r.1, r.2)) = some (ta, w, m) := q
    cases e1 : (et e).p Γ with
    | none => rw [e1] at q; cases q
    | some r =>
      obtain ⟨r, w1, m1⟩ := r
      rw [e1] at q
      cases q
      have P := E.p I x e1
      show Pst X Y Z Γ Ns σ τ h w m (KX X Y σ (.p r)) ((den (er e)).v σ h) (((vd e).p τ).bind fun rs τ1 => if (getR τ1 rs.1 rs.2).isSome = true then .ok (.p rs.1 rs.2) τ1 else .bad)
      cases e2 : (vd e).p τ with
      | bad => exact trivial
      | exc c ts τ1 => rw [e2] at P; exact P
      | ok rs τ1 =>
        rw [e2] at P
        obtain ⟨d, h1, Z1, Ns1, e3, n, k⟩ := P
        rw [q_ok]
        split
        · exact ⟨d, h1, Z1, Ns1, e3, n, k⟩
        · exact trivial
end
end L3

namespace L3
open PySem L2
section
variable {α β γ δ ρ : Type} {X X' Y Y2 Z Z1 Z2 : Nat → Prop} {Γ : G} {Ns Ns1 Ns2 : Os} {σ : Sl} {τ τ1 τ2 : Sm} {h h1 h2 : Hh} {w m w1 m1 w2 m2 : List Nat} {K2 : (Nat → Prop) → Os → Hh → γ → δ → Sm → Prop} {a b c e es : VE}
theorem flats_get : ∀ {ts : List T} {i : Nat} {t : T}, flats ts = true → ts[i]? = some t → flat t = true
  | [], _, _, _, e => by simp at e
  | u :: ts, 0, t, f, e => by simp at e; subst e; rw [flats, Bool.and_eq_true] at f; exact f.1
  | u :: ts, i + 1, t, f, e => by rw [flats, Bool.and_eq_true] at f; exact flats_get (i := i) f.2 (by simpa using e)
theorem atI_get {α : Type} {xs : List α} {i : Int} {x : α} (e : atI xs i = some x) : ∃ k, ixN xs.length i = some k ∧ xs[k]? = some x := by
  unfold atI at e
  cases q : ixN xs.length i with
  | none => rw [q] at e; cases e
  | some k => rw [q] at e; exact ⟨k, rfl, e⟩
theorem atI_of {α : Type} {xs : List α} {i : Int} {k : Nat} (e : ixN xs.length i = some k) : atI xs i = xs[k]? := by unfold atI; rw [e]; rfl
theorem subT_cases {t t2 u : T} (e : subT t t2 = some u) : (∃ xs i, t = .tup xs ∧ t2 = .int i ∧ atI xs i = some u) ∨ (∃ xs i, t = .lst xs ∧ t2 = .int i ∧ atI xs i = some u) ∨ (∃ z i c, t = .str z ∧ t2 = .int i ∧ z.length ≤ sizeLine ∧ atI z.cps.toList i = some c ∧ u = .str ⟨#[c]⟩) := by
  cases t with
  | tup xs => cases t2 <;> first | (cases e; done) | exact .inl ⟨_, _, rfl, rfl, e⟩
  | lst xs => cases t2 <;> first | (cases e; done) | exact .inr (.inl ⟨_, _, rfl, rfl, e⟩)
  | str z =>
    cases t2 with
    | int i =>
      simp only [subT] at e
      split at e
      · rename_i c
        cases q : atI z.cps.toList i with
        | none => rw [q] at e; cases e
        | some x => rw [q] at e; cases e; exact .inr (.inr ⟨_, _, _, rfl, rfl, c, q, rfl⟩)
      · cases e
    | _ => cases e
  | _ => cases t2 <;> cases e
/-- an item of a value, held as that is -/
theorem Val.sub {ty : Wy} {d d2 : D} {t t2 u : T} {N : List Nat} (v : Val Z Y Ns h ty d t N) (ni : ty ≠ .I) (r2 : Rp Z Y2 h d2 t2) (e : subT t t2 = some u) : ∃ d1 M, subD d d2 h = .ok d1 h ∧ Val Z Y Ns h ty d1 u M ∧ M.Sublist N := by
  cases ty with
  | F =>
    obtain ⟨d1, e1, r1⟩ := sub_ok v.1 r2 e
    refine ⟨d1, [], e1, ⟨r1, ?_⟩, List.nil_sublist _⟩
    have fl := v.2
    rcases subT_cases e with ⟨xs, i, rfl, rfl, q⟩ | ⟨xs, i, rfl, rfl, q⟩ | ⟨z, i, c, rfl, rfl, l, q, rfl⟩
    · obtain ⟨k, _, e3⟩ := atI_get q
      exact flats_get fl e3
    · cases fl
    · rfl
  | B rs =>
    obtain ⟨d1, e1, r1⟩ := sub_ok v r2 e
    exact ⟨d1, [], e1, r1, List.nil_sublist _⟩
  | I => exact absurd rfl ni
  | O =>
    rcases subT_cases e with ⟨xs, i, rfl, rfl, q⟩ | ⟨xs, i, rfl, rfl, q⟩ | ⟨z, i, c, rfl, rfl, l, q, rfl⟩
    · cases r2
      obtain ⟨k, e2, e3⟩ := atI_get q
      cases v with
      | tup r =>
        obtain ⟨d1, A, M, B, e4, wv, rfl, _⟩ := r.focus e3
        refine ⟨d1, M, ?_, wv, ?_⟩
        · simp only [subD]; rw [atI_of (by rw [r.length]; exact e2), e4]; rfl
        · exact (List.sublist_append_right A M).trans (List.sublist_append_left _ B)
    · cases r2
      obtain ⟨k, e2, e3⟩ := atI_get q
      cases v with
      | lst g r =>
        obtain ⟨d1, A, M, B, e4, wv, rfl, _⟩ := r.focus e3
        refine ⟨d1, M, ?_, wv, ?_⟩
        · simp only [subD, g]; rw [atI_of (by rw [r.length]; exact e2), e4]; rfl
        · exact ((List.sublist_append_right A M).trans (List.sublist_append_left _ B)).cons _
    · cases r2
      cases v with
      | str _ => exact ⟨.str ⟨#[c]⟩, [], by simp only [subD, if_pos l, q]; rfl, .str _, List.nil_sublist _⟩
theorem getR_some {r : Nat} {s : List Stp} {u : T} (e : getR τ r s = some u) : ∃ t, τ[r]? = some (some t) ∧ getP t s = some u := by
  unfold getR at e
  split at e
  · rename_i t q; exact ⟨t, q, e⟩
  · cases e
theorem getP_app : ∀ (s : List Stp) {t u : T} {x : Stp}, getP t s = some u → getP t (s ++ [x]) = getP u [x]
  | [], t, u, x, e => by unfold getP at e; cases e; rfl
  | y :: s, t, u, x, e => by
    simp only [getP, List.cons_append] at e ⊢
    cases q : chIx t y with
    | none => rw [q] at e; cases e
    | some k =>
      rw [q] at e
      dsimp only at e ⊢
      cases q2 : (kids t)[k]? with
      | none => rw [q2] at e; cases e
      | some v => rw [q2] at e; dsimp only at e ⊢; have := getP_app s (x := x) e; simp only [getP] at this ⊢; exact this
theorem dpath_app : ∀ (s : List Stp) {d d1 : D} {x : Stp}, dpath h d s = some d1 → dpath h d (s ++ [x]) = dpath h d1 [x]
  | [], d, d1, x, e => by unfold dpath at e; cases e; rfl
  | y :: s, d, d1, x, e => by
    cases d with
    | ref n =>
      cases y with
      | i k =>
        simp only [dpath, List.cons_append] at e ⊢
        cases q : h[n]? with
        | none => rw [q] at e; cases e
        | some o =>
          rw [q] at e
          cases o with
          | lst ds =>
            dsimp only at e ⊢
            cases q2 : ds[k]? with
            | none => rw [q2] at e; cases e
            | some v => rw [q2] at e; exact dpath_app s e
          | _ => cases e
      | f k =>
        simp only [dpath, List.cons_append] at e ⊢
        cases q : h[n]? with
        | none => rw [q] at e; cases e
        | some o =>
          rw [q] at e
          cases o with
          | ins c ds =>
            dsimp only at e ⊢
            cases q2 : ds[k]? with
            | none => rw [q2] at e; cases e
            | some v => rw [q2] at e; exact dpath_app s e
          | _ => cases e
    | _ => cases y <;> simp [dpath] at e
theorem sndV_sub (A : SndV a) (B : SndV b) : SndV (.sub a b) := by
  have H : SV (fun σ h => ((den (er a)).v σ h).bind fun x h1 => ((den (er b)).v σ h1).bind fun y h2 => subD x y h2) (fun τ => ((vd a).v τ).bind fun x τ1 => ((vd b).v τ1).bind fun y τ2 => opQ (subT x y) τ2) (twoV (et a).v (et b).v subTy) := by
    intro X Y Z Γ Ns σ τ h ty w m I x e
    refine two_ok A B I x e fun tx ty' Z1 Ns1 h1 d1 t1 d2 t2 τ1 ek n k => ?_
    cases q : subT t1 t2 with
    | none => exact trivial
    | some u =>
      obtain ⟨_, r2⟩ := k.snd.rp
      obtain ⟨ni, ni2, N1, N2, v1, v2, p, nx⟩ := k
      obtain ⟨d3, M, e3, v3, s⟩ := v1.sub ni r2 q
      have ez : ty = tx := by cases tx <;> cases ty' <;> first | (cases ek; done) | (cases ek; rfl)
      subst ez
      rw [e3]
      exact .at n ⟨ni, M, v3, p.left.sub s, fun k hk => nx k (List.mem_append_left _ (s.subset hk))⟩
  constructor
  · exact fun I x q => H I x q
  · exact fun I x q => SV.t H I x q
  · exact fun I x q => by cases q
  · exact fun I x q => SV.o H I x q
  · exact fun I x q => SV.i H I x q
  · intro X Y Z Γ Ns σ τ h r w m I x q
    replace q : (match (et a).p Γ with
        | some (r, w, m) => match (et b).v (inval Γ w m) with
          | some (y, w', m') => if (!w'.contains r && decide (y ≠ .I)) = true then some (r, w ++ w', m ++ m') else none
          | none => none
        | none => none) = some (r, w, m) := q
    split at q
    · rename_i r' w1 m1 e1
      split at q
      · rename_i ty w2 m2 e2
        split at q
        · rename_i fr
          simp only [Bool.and_eq_true, Bool.not_eq_true', List.contains_eq_mem, decide_eq_false_iff_not] at fr
          cases q
          show Pst X Y Z Γ Ns σ τ h (w1 ++ w2) (m1 ++ m2) (KP σ r) (((den (er a)).v σ h).bind fun x h1 => ((den (er b)).v σ h1).bind fun y h2 => subD x y h2) (((vd a).p τ).bind fun rs τ1 => ((vd b).v τ1).bind fun y τ2 => (opQ (subP τ2 rs.1 rs.2 y) τ2).bind fun s τ2 => .ok (rs.1, s) τ2)
          refine (A.p I x e1).stepL fun Z1 Ns1 h1 d rs τ1 n kp => ?_
          obtain ⟨rfl, pk⟩ := kp
          refine (Pst.carry n (B.v n.inv (n.xok x) e2) fun _ q => q).fin fun Z2 Ns2 h2 d2 t2 τ2 n2 kk => ?_
          have pk2 := pk.nx kk.1 fr.1
          obtain ⟨_, r2⟩ := kk.2.rp
          cases q : subP τ2 rs.1 rs.2 t2 with
          | none => exact trivial
          | some s =>
            obtain ⟨d0, t0, u, f1, f2, wv, f3, f4⟩ := pk2
            have gr : getR τ2 rs.1 rs.2 = some u := by unfold getR; rw [f2]; exact f3
            unfold subP at q
            rw [gr] at q
            obtain ⟨d1, A, M, B, P⟩ := W.path rs.2 wv f3
            have ed := P.dp h2 fun _ _ => rfl
            rw [f4] at ed
            cases ed
            have wu := P.w
            cases u with
            | lst ts =>
              cases t2 with
              | int i =>
                dsimp only at q
                cases q2 : ixN ts.length i with
                | none => rw [q2] at q; cases q
                | some k =>
                  rw [q2] at q
                  dsimp only at q
                  split at q
                  · rename_i lt
                    cases q
                    cases r2
                    cases wu with
                    | lst g r =>
                      rename_i nn ds N0
                      have lt2 : k < ds.length := by rw [r.length]; exact lt
                      have eS : subD (.ref nn) (.int i) h2 = .ok ds[k] h2 := by
                        simp only [subD, g]
                        rw [atI_of (by rw [r.length]; exact q2), List.getElem?_eq_getElem lt2]; rfl
                      rw [eS]
                      refine .at n2 ⟨rfl, d0, t0, ts[k], f1, f2, wv, ?_, ?_⟩
                      · rw [getP_app _ f3]
                        simp [getP, chIx, kids, List.getElem?_eq_getElem lt]
                      · rw [dpath_app _ f4]
                        simp [dpath, g, List.getElem?_eq_getElem lt2]
                  · cases q
              | _ => cases q
            | _ => cases t2 <;> cases q
        · cases q
      · cases q
    · cases q
  · exact fun I x q => SV.x H I x q
/-- to a borrowed thing -/
theorem KV.bor {ty z : Wy} {d : D} {t : T} {k : Bool} (n : Nx X Y Z Γ Ns σ τ h w m Z1 Ns1 τ1 h1) (x : Xok X Y Z Ns h) (v : KV X Y ty Z1 Ns1 h1 d t τ1) (e : newTy k ty = some z) : ∃ Z2 rs, Nx X Y Z Γ Ns σ τ h w m Z2 Ns1 τ1 h1 ∧ Rp Z2 (U Z2 Y Ns1 rs) h1 d t ∧ (k = false → z = .B rs) ∧ (k = true → z = .O) := by
  have ni := v.1
  have go : ∀ rs, ty.le (.B rs) = true → (k = false → z = .B rs) → (k = true → z = .O) → ∃ Z2 rs, Nx X Y Z Γ Ns σ τ h w m Z2 Ns1 τ1 h1 ∧ Rp Z2 (U Z2 Y Ns1 rs) h1 d t ∧ (k = false → z = .B rs) ∧ (k = true → z = .O) := fun rs l a b => by
    obtain ⟨Z2, n2, _, N, v2, _⟩ := v.le n x l
    exact ⟨Z2, rs, n2, v2, a, b⟩
  unfold newTy at e
  cases k with
  | true =>
    simp at e
    subst e
    cases ty with
    | F => exact go [] rfl (fun q => by cases q) fun _ => rfl
    | O => exact go [] rfl (fun q => by cases q) fun _ => rfl
    | B rs => exact go rs (by simp [Wy.le]) (fun q => by cases q) fun _ => rfl
    | I => exact absurd rfl ni
  | false =>
    simp at e
    cases ty with
    | F => cases e; exact go [] rfl (fun _ => rfl) fun q => by cases q
    | O => cases e; exact go [] rfl (fun _ => rfl) fun q => by cases q
    | B rs => cases e; exact go rs (by simp [Wy.le]) (fun _ => rfl) fun q => by cases q
    | I => exact absurd rfl ni
theorem ifk {k : Bool} {z : Wy} {rs : List Nat} (a : k = false → z = .B rs) (b : k = true → z = .O) : z = if k = true then .O else .B rs := by
  cases k with
  | true => exact b rfl
  | false => exact a rfl
theorem sndV_lis (k : Bool) (A : SndV a) : SndV (.lis k a) := by
  refine .of (g := fun σ h => ((den (er a)).v σ h).bind fun d h1 => biD .list [d] h1) ?_ rfl rfl ?_
  · show Den.of (fun σ h => ((((den (er a)).v σ h).bind fun d h1 => (Res.ok [] h1).bind fun ds h2 => .ok (d :: ds) h2)).bind (biD .list)) = _
    congr 1
    funext σ h
    cases (den (er a)).v σ h <;> rfl
  intro X Y Z Γ Ns σ τ h ty w m I x e
  refine map_ok A I x e fun ty0 Z1 Ns1 h1 d t τ1 ek n kv => ?_
  obtain ⟨Z2, rs, n2, rp, ea, eb⟩ := kv.bor n x ek
  rw [ifk ea eb]
  cases q : itemsT t with
  | none => exact trivial
  | some ts =>
    obtain ⟨ds, e2, r2⟩ := items_ok rp q
    simp only [biD, e2]
    exact new_ok n2 x r2
theorem sndV_rsl (k : Bool) (A : SndV a) : SndV (.rsl k a) := by
  refine .of rfl rfl rfl ?_
  intro X Y Z Γ Ns σ τ h ty w m I x e
  refine map_ok A I x e fun ty0 Z1 Ns1 h1 d t τ1 ek n kv => ?_
  obtain ⟨Z2, rs, n2, rp, ea, eb⟩ := kv.bor n x ek
  rw [ifk ea eb]
  cases q : lstT t with
  | none => exact trivial
  | some ts =>
    obtain ⟨k, ds, rfl, _, g, r2⟩ := lst_okD rp q
    simp only [rslR, lstA, g]
    exact new_ok n2 x r2.reverse
theorem sndV_slc (k : Bool) (A : SndV a) (B : SndV b) (C : SndV c) : SndV (.slc k a b c) := by
  refine .of rfl rfl rfl ?_
  intro X Y Z Γ Ns σ τ h ty w m I x e
  dsimp only at e
  split at e
  · rename_i ty0 w1 m1 e1
    split at e
    · rename_i w2 m2 e2
      split at e
      · rename_i w3 m3 e3
        split at e
        · rename_i fr
          rw [free_app] at fr
          cases ek : newTy k ty0 with
          | none => rw [ek] at e; cases e
          | some z =>
            rw [ek] at e
            cases e
            refine (A.v I x e1).step (fun i hi => by simp [hi]) (fun i ty q => inval_left i ty (inval_left i ty q)) fun Z1 Ns1 h1 d t τ1 n kv => ?_
            obtain ⟨ni, N, v, p, nx⟩ := kv
            refine (Pst.carry n (B.o n.inv (p.xok (n.xok x)) e2) fun _ q => .inl q).stepL fun Z2 Ns2 h2 lo lo' τ2 n2 kk => ?_
            obtain ⟨k1, rfl⟩ := kk
            obtain ⟨v2, p2⟩ := v.nx p k1 fr.1
            have n2i : Inv Z2 Y (inval Γ (w1 ++ w2) (m1 ++ m2)) Ns2 σ τ2 h2 := n2.inv
            refine (Pst.carry n2 (C.o n2i (p2.xok (n2.xok x)) e3) fun _ q => .inl q).fin fun Z3 Ns3 h3 hi hi' τ3 n3 kk => ?_
            obtain ⟨k2, rfl⟩ := kk
            obtain ⟨v3, p3⟩ := v2.nx p2 k2 fr.2
            obtain ⟨Z4, rs, n4, rp, ea, eb⟩ := KV.bor n3 x ⟨ni, N, v3, p3, nx⟩ ek
            rw [ifk ea eb]
            cases q : slcT t lo hi with
            | none => exact trivial
            | some ts =>
              obtain ⟨ds, e2, r2⟩ := slc_ok rp q
              rw [e2]
              exact new_ok n4 x r2
        · cases e
      · cases e
    · cases e
  · cases e
end
end L3

namespace L3
open PySem L2
section
variable {α β γ δ ρ : Type} {X X' Y Y2 Z Z1 Z2 : Nat → Prop} {Γ : G} {Ns Ns1 Ns2 : Os} {σ : Sl} {τ τ1 τ2 : Sm} {h h1 h2 : Hh} {w m w1 m1 w2 m2 : List Nat} {K2 : (Nat → Prop) → Os → Hh → γ → δ → Sm → Prop} {a b c e es : VE}
theorem le_bor {ty z : Wy} {k : Bool} (e : newTy k ty = some z) (ni : ty ≠ .I) : ∃ rs, ty.le (.B rs) = true ∧ (k = false → z = .B rs) ∧ (k = true → z = .O) := by
  unfold newTy at e
  cases k with
  | true =>
    simp at e
    subst e
    cases ty with
    | F => exact ⟨[], rfl, fun q => (by cases q), fun _ => rfl⟩
    | O => exact ⟨[], rfl, fun q => (by cases q), fun _ => rfl⟩
    | B rs => exact ⟨rs, by simp [Wy.le], fun q => (by cases q), fun _ => rfl⟩
    | I => exact absurd rfl ni
  | false =>
    simp at e
    cases ty with
    | F => cases e; exact ⟨[], rfl, fun _ => rfl, fun q => (by cases q)⟩
    | O => cases e; exact ⟨[], rfl, fun _ => rfl, fun q => (by cases q)⟩
    | B rs => cases e; exact ⟨rs, by simp [Wy.le], fun _ => rfl, fun q => (by cases q)⟩
    | I => exact absurd rfl ni
/-- both to borrowed things -/
theorem K12.bor {tx ty : Wy} {rx ry : List Nat} {d1 d2 : D} {t1 t2 : T} (n : Nx X Y Z Γ Ns σ τ h w m Z1 Ns1 τ1 h1) (x : Xok X Y Z Ns h) (k : K12 X Y tx ty Z1 Ns1 h1 d1 t1 d2 t2 τ1) (lx : tx.le (.B rx) = true) (ly : ty.le (.B ry) = true) :
    ∃ Z2, Nx X Y Z Γ Ns σ τ h w m Z2 Ns1 τ1 h1 ∧ Rp Z2 (U Z2 Y Ns1 (rx ++ ry)) h1 d1 t1 ∧ Rp Z2 (U Z2 Y Ns1 (rx ++ ry)) h1 d2 t2 := by
  obtain ⟨nix, niy, N1, N2, v1, v2, p, nx⟩ := k
  have n2 := n.then (.frz (n.xok x) p nx) (n.inv.frz p)
  have up : ∀ {ty : Wy} {rs : List Nat} {d : D} {t : T} {N : List Nat}, Val Z1 Y Ns1 h1 ty d t N → ty.le (.B rs) = true → (∀ n, n ∈ N → n ∈ N1 ++ N2) → (∀ r, r ∈ rs → r ∈ rx ++ ry) → Rp (zN Z1 (N1 ++ N2)) (U (zN Z1 (N1 ++ N2)) Y Ns1 (rx ++ ry)) h1 d t := by
    intro ty rs d t N v l s1 s2
    cases ty with
    | F => exact v.1.mono (fun _ z => .inl z) (fun _ z => .inl (.inl z)) (fun _ _ => rfl) fun _ _ => rfl
    | O => exact (W.mono (fun _ z => .inl z) (fun _ _ => rfl) v fun _ _ => rfl).rp fun n hn => .inl (.inr (s1 n hn))
    | B rs' =>
      refine Rp.mono (fun _ z => .inl z) (fun n u => ?_) (fun _ _ => rfl) (fun _ _ => rfl) v
      rcases u with u | u | ⟨r, hr, u⟩
      · exact .inl (.inl u)
      · exact .inr (.inl u)
      · refine .inr (.inr ⟨r, s2 r ?_, u⟩)
        unfold Wy.le at l
        rw [List.all_eq_true] at l
        simpa using l r hr
    | I => cases l
  exact ⟨_, n2, up v1 lx (fun n hn => List.mem_append_left _ hn) fun r hr => List.mem_append_left _ hr, up v2 ly (fun n hn => List.mem_append_right _ hn) fun r hr => List.mem_append_right _ hr⟩
theorem sndV_cat (k : Bool) (A : SndV a) (B : SndV b) : SndV (.cat k a b) := by
  refine .of rfl rfl rfl ?_
  intro X Y Z Γ Ns σ τ h ty w m I x e
  refine two_ok A B I x e fun tx ty' Z1 Ns1 h1 d1 t1 d2 t2 τ1 ek n kk => ?_
  cases q1 : newTy k tx with
  | none => rw [q1] at ek; cases ek
  | some z1 =>
    cases q2 : newTy k ty' with
    | none => rw [q1, q2] at ek; cases ek
    | some z2 =>
      rw [q1, q2] at ek
      simp only [Option.bind_some, Option.some.injEq] at ek
      subst ek
      obtain ⟨rx, lx, ax, bx⟩ := le_bor q1 kk.1
      obtain ⟨ry, ly, ay, by'⟩ := le_bor q2 kk.2.1
      obtain ⟨Z2, n2, r1, r2⟩ := kk.bor n x lx ly
      have ez : z1.jn z2 = if k = true then .O else .B (rx ++ ry) := by
        cases k with
        | true => rw [bx rfl, by' rfl]; rfl
        | false => rw [ax rfl, ay rfl]; rfl
      rw [ez]
      cases q : catT t1 t2 with
      | none => exact trivial
      | some ts =>
        cases r1 with
        | lst y1 g1 s1 =>
          cases r2 with
          | lst y2 g2 s2 =>
            simp only [catT] at q
            split at q
            · rename_i c
              cases q
              simp only [binD, g1, g2]
              rw [← s1.length, ← s2.length] at c
              rw [if_pos c]
              exact new_ok n2 x (s1.append s2)
            · cases q
          | _ => cases q
        | _ => cases r2 <;> cases q
theorem sndV_lrng (A : SndV a) (B : SndV b) : SndV (.lrng a b) := by
  refine .of rfl rfl rfl ?_
  intro X Y Z Γ Ns σ τ h ty w m I x e
  refine two_ok A B I x e fun tx ty' Z1 Ns1 h1 d1 t1 d2 t2 τ1 ek n kk => ?_
  cases ek
  obtain ⟨_, r1⟩ := kk.fst.rp
  obtain ⟨_, r2⟩ := kk.snd.rp
  cases r1 with
  | int i =>
    cases r2 with
    | int j =>
      simp only [lrngT, lrngR]
      split
      · have fl := ints_ok (Z := Z1) (Y := U Z1 Y Ns1 []) (h := h1) (fun k => i + (k : Int)) (List.range (j - i).toNat)
        have := new_ok (k := true) (rs := []) n x fl.1
        simp only [newQ, fl.2] at this
        exact this
      · exact trivial
    | _ => exact trivial
  | _ => cases r2 <;> exact trivial
theorem sndV_fld (tb : List (Nat × Nat)) (f : Str) (A : SndV a) : SndV (.fld tb f a) := by
  have H : SV (fun σ h => ((den (er a)).v σ h).bind (fldR tb)) (fun τ => ((vd a).v τ).bind fun x τ1 => opQ (fldT tb x) τ1) (fun Γ => match (et a).v Γ with
      | some (x, w, m) => x.item.map fun z => (match z with | .F => .B [] | z => z, w, m)
      | none => none) := by
    intro X Y Z Γ Ns σ τ h ty w m I x e
    dsimp only at e ⊢
    split at e
    · rename_i ty0 w1 m1 e1
      cases e3 : ty0.item with
      | none => rw [e3] at e; cases e
      | some z =>
        rw [e3] at e
        obtain ⟨l, zz⟩ := le_item e3
        have hz : ∃ rs, (match z with | .F => Wy.B [] | z => z) = .B rs ∧ ty0.le (.B rs) = true := by
          rcases zz with rfl | ⟨rs, rfl⟩
          · refine ⟨[], rfl, ?_⟩
            cases ty0 <;> first | rfl | cases e3
          · exact ⟨rs, rfl, l⟩
        obtain ⟨rs, ez, l2⟩ := hz
        simp only [Option.map_some, Option.some.injEq, ez] at e
        cases e
        refine (A.v I x e1).fin fun Z1 Ns1 h1 d t τ1 n kv => ?_
        obtain ⟨Z2, n2, _, N, v2, _⟩ := kv.le n x l2
        cases q : fldT tb t with
        | none => exact trivial
        | some u =>
          obtain ⟨y, e4, o⟩ := fld_okD v2 q
          rw [e4]
          refine .at n2 ⟨by simp, [], ?_, .nil, fun n hn => by cases hn⟩
          rcases o with ⟨_, _, _, _, _, _, r⟩ | r
          · exact r.mono (fun _ z => z) (fun _ z => .inl z) (fun _ _ => rfl) fun _ _ => rfl
          · exact r
    · cases e
  constructor
  · exact fun I x q => H I x q
  · exact fun I x q => SV.t H I x q
  · exact fun I x q => by cases q
  · exact fun I x q => SV.o H I x q
  · exact fun I x q => SV.i H I x q
  · intro X Y Z Γ Ns σ τ h r w m I x q
    replace q : (et a).p Γ = some (r, w, m) := q
    show Pst X Y Z Γ Ns σ τ h w m (KP σ r) (((den (er a)).v σ h).bind (fldR tb)) (((vd a).p τ).bind fun rs τ1 => (opQ (fldP tb τ1 rs.1 rs.2) τ1).bind fun s τ1 => .ok (rs.1, s) τ1)
    refine (A.p I x q).fin fun Z1 Ns1 h1 d rs τ1 n kp => ?_
    obtain ⟨rfl, d0, t0, u, f1, f2, wv, f3, f4⟩ := kp
    cases q : fldP tb τ1 rs.1 rs.2 with
    | none => exact trivial
    | some s =>
      have gr : getR τ1 rs.1 rs.2 = some u := by unfold getR; rw [f2]; exact f3
      unfold fldP at q
      rw [gr] at q
      obtain ⟨d1, A, M, B, P⟩ := W.path rs.2 wv f3
      have ed := P.dp h1 fun _ _ => rfl
      rw [f4] at ed
      cases ed
      have wu := P.w
      cases u with
      | ins c ts =>
        dsimp only at q
        cases q2 : tb.lookup c with
        | none => rw [q2] at q; cases q
        | some i =>
          rw [q2] at q
          dsimp only at q
          split at q
          · rename_i cc
            obtain ⟨im, lt⟩ := cc
            cases q
            cases wu with
            | ins mm g r =>
              rename_i nn ds N0
              have lt2 : i < ds.length := by rw [r.length]; exact lt
              have eS : fldR tb (.ref nn) h1 = .ok ds[i] h1 := by
                simp only [fldR, insD, g, q2]
                rw [List.getElem?_eq_getElem lt2]; rfl
              rw [eS]
              refine .at n ⟨rfl, d0, t0, ts[i], f1, f2, wv, ?_, ?_⟩
              · rw [getP_app _ f3]
                simp [getP, chIx, kids, im, List.getElem?_eq_getElem lt]
              · rw [dpath_app _ f4]
                simp [dpath, g, List.getElem?_eq_getElem lt2]
            | imm mm _ _ _ => rw [im] at mm; cases mm
          · cases q
      | _ => cases q
  · exact fun I x q => SV.x H I x q
theorem sndV_tpl (A : SndV a) : SndV (.tpl a) := by
  refine .of (g := fun σ h => ((den (er a)).v σ h).bind fun d h1 => biD .tuple [d] h1) ?_ rfl rfl ?_
  · show Den.of (fun σ h => ((((den (er a)).v σ h).bind fun d h1 => (Res.ok [] h1).bind fun ds h2 => .ok (d :: ds) h2)).bind (biD .tuple)) = _
    congr 1
    funext σ h
    cases (den (er a)).v σ h <;> rfl
  intro X Y Z Γ Ns σ τ h ty w m I x e
  dsimp only at e ⊢
  split at e
  · rename_i ty0 w1 m1 e1
    split at e
    · cases e
    · rename_i ni
      cases e
      refine (A.v I x e1).fin fun Z1 Ns1 h1 d t τ1 n kv => ?_
      obtain ⟨ni, N, v, p, nx⟩ := kv
      cases q : lstT t with
      | none => exact trivial
      | some xs =>
        cases t <;> first | (cases q; done) | skip
        cases q
        cases ty with
        | F => cases v.2
        | O =>
          cases v with
          | lst g r =>
            simp only [biD, g]
            exact .at n ⟨ni, _, .tup r, p.sub (List.sublist_cons_self ..), fun k hk => nx k (List.mem_cons_of_mem _ hk)⟩
        | B rs =>
          cases v with
          | lst y g r =>
            simp only [biD, g]
            exact .at n ⟨ni, [], .tup r, .nil, fun n hn => by cases hn⟩
        | I => exact absurd rfl ni
  · cases e
theorem sndV_rng (E : SndV es) : SndV (.rng es) where
  v := fun I x q => by cases q
  t := fun I x q => by cases q
  a := fun I x q => by cases q
  o := fun I x q => by cases q
  i := fun {X Y Z Γ Ns σ τ h ty w m} I x q => by
    replace q : (match (et es).a Γ with
      | some (as, w, m) => (tyAll .F as).map fun _ => (Wy.F, w, m)
      | none => none) = some (ty, w, m) := q
    show Pst X Y Z Γ Ns σ τ h w m (KI X Y ty) (((den (er es)).a σ h).bind rngR) (((vd es).a τ).bind fun as τ1 => (opQ (valsA as) τ1).bind fun ts τ1 => opQ (rngT ts) τ1)
    split at q
    · rename_i tas w' m' ea
      cases ek : tyAll .F tas with
      | none => rw [ek] at q; cases q
      | some z =>
        rw [ek] at q
        cases q
        refine (E.a I x ea).fin fun Z1 Ns1 h1 ds as τ1 n ka => ?_
        obtain ⟨N, ka, p, nx⟩ := ka
        obtain ⟨ts, e1, v⟩ := AK.vl (base := .F) ⟨.nil, rfl⟩ ka ek
        rw [e1]
        show Pst X Y Z Γ Ns σ τ h w m (KI X Y .F) (rngR ds h1) (opQ (rngT ts) τ1)
        cases q : rngT ts with
        | none => exact trivial
        | some xs =>
          obtain ⟨ys, e2, r2, f2⟩ := rng_ok (ka.rps e1) q
          unfold rngR
          rw [e2]
          exact .at n ⟨r2, f2, fun p hp => by cases hp⟩
    · cases q
  p := fun I x q => by cases q
  x := fun I x q => by cases q
theorem KI.of {ty : Wy} {z : Wy} {d : D} {t : T} {xs : List T} (n : Nx X Y Z Γ Ns σ τ h w m Z1 Ns1 τ1 h1) (x : Xok X Y Z Ns h) (kv : KV X Y ty Z1 Ns1 h1 d t τ1) (e : ty.item = some z) (q : lstT t = some xs) : ∃ Z2 rs k ds, Nx X Y Z Γ Ns σ τ h w m Z2 Ns1 τ1 h1 ∧ z = .B rs ∧ d = .ref k ∧ U Z2 Y Ns1 rs k ∧ h1[k]? = some (.lst ds) ∧ Rps Z2 (U Z2 Y Ns1 rs) h1 ds xs := by
  obtain ⟨l, zz⟩ := le_item e
  obtain ⟨Z2, n2, _, N, v, _⟩ := kv.le n x l
  rcases zz with rfl | ⟨rs, rfl⟩
  · cases t <;> first | (cases q; done) | cases v.2
  · obtain ⟨k, ds, e1, y, g, r⟩ := lst_okD v q
    exact ⟨Z2, rs, k, ds, n2, rfl, e1, y, g, r⟩
theorem item_ok (A : SndV a) (I : Inv Z Y Γ Ns σ τ h) (x : Xok X Y Z Ns h) {ty : Wy} (q : (Ety.of (et a).v).i Γ = some (ty, w, m)) {f : D → Hh → Res (List D × Gd)} {g : List T → List T}
    (hf : ∀ {Z : Nat → Prop} {Ns : Os} {h : Hh} {rs : List Nat} {k : Nat} {ds : List D} {ts : List T}, h[k]? = some (.lst ds) → Rps Z (U Z Y Ns rs) h ds ts → ∃ es, f (.ref k) h = .ok (es, [(k, ds)]) h ∧ Rps Z (U Z Y Ns rs) h es (g ts)) :
    Pst X Y Z Γ Ns σ τ h w m (KI X Y ty) (((den (er a)).v σ h).bind f) (((vd a).v τ).bind fun x τ1 => (opQ (lstT x) τ1).bind fun xs τ1 => .ok (g xs) τ1) := by
  unfold Ety.of at q
  dsimp only at q
  split at q
  · rename_i ty0 w1 m1 e1
    cases e3 : ty0.item with
    | none => rw [e3] at q; cases q
    | some z =>
      rw [e3] at q
      cases q
      refine (A.v I x e1).fin fun Z1 Ns1 h1 d t τ1 n kv => ?_
      cases q : lstT t with
      | none => exact trivial
      | some xs =>
        obtain ⟨Z2, rs, k, ds, n2, rfl, rfl, u, gg, r⟩ := KI.of n x kv e3 q
        obtain ⟨es, e4, r4⟩ := hf gg r
        rw [e4]
        refine .at n2 ⟨r4, fun p hp => ?_⟩
        simp only [List.mem_singleton] at hp
        subst hp
        exact ⟨u, gg⟩
  · cases q
theorem sndV_enum (A : SndV a) : SndV (.enum a) where
  v := fun I x q => by cases q
  t := fun I x q => by cases q
  a := fun I x q => by cases q
  o := fun I x q => by cases q
  i := fun {X Y Z Γ Ns σ τ h ty w m} I x q => item_ok (f := enumR) (g := numT 0) A I x q fun {Z Ns h rs k ds ts} gg r => ⟨numD 0 ds, by simp only [enumR, lstA, gg], num_ok 0 r⟩
  p := fun I x q => by cases q
  x := fun I x q => by cases q
theorem sndV_rev (A : SndV a) : SndV (.rev a) where
  v := fun I x q => by cases q
  t := fun I x q => by cases q
  a := fun I x q => by cases q
  o := fun I x q => by cases q
  i := fun {X Y Z Γ Ns σ τ h ty w m} I x q => item_ok (f := revR) (g := List.reverse) A I x q fun {Z Ns h rs k ds ts} gg r => ⟨ds.reverse, by simp only [revR, lstA, gg], r.reverse⟩
  p := fun I x q => by cases q
  x := fun I x q => by cases q
theorem sndV_zip (A : SndV a) (B : SndV b) : SndV (.zip a b) where
  v := fun I x q => by cases q
  t := fun I x q => by cases q
  a := fun I x q => by cases q
  o := fun I x q => by cases q
  i := fun {X Y Z Γ Ns σ τ h ty w m} I x q => by
    refine two_ok (K2 := KI X Y ty) (f := zipR) (g := fun x y τ2 => (opQ (lstT x) τ2).bind fun xs τ2 => (opQ (lstT y) τ2).bind fun ys τ2 => if xs.length = ys.length then .ok (zipT xs ys) τ2 else .bad) A B I x q fun tx ty' Z1 Ns1 h1 d1 t1 d2 t2 τ1 ek n kk => ?_
    cases i1 : tx.item with
    | none => rw [i1] at ek; cases ek
    | some z1 =>
      cases i2 : ty'.item with
      | none => rw [i1, i2] at ek; cases ek
      | some z2 =>
        rw [i1, i2] at ek
        simp only [Option.bind_some, Option.some.injEq] at ek
        cases q1 : lstT t1 with
        | none => exact trivial
        | some xs =>
          cases q2 : lstT t2 with
          | none => exact trivial
          | some ys =>
            show Pst X Y Z Γ Ns σ τ h w m (KI X Y ty) _ (if xs.length = ys.length then .ok (zipT xs ys) τ1 else .bad)
            split
            · rename_i ll
              obtain ⟨_, rx, k1, ds1, _, rfl, rfl, u1, g1, s1⟩ := KI.of n x kk.fst i1 q1
              obtain ⟨_, ry, k2, ds2, _, rfl, rfl, u2, g2, s2⟩ := KI.of n x kk.snd i2 q2
              have lx : tx.le (.B rx) = true := (le_item i1).1
              have ly : ty'.le (.B ry) = true := (le_item i2).1
              obtain ⟨Z2, n2, r1, r2⟩ := kk.bor n x lx ly
              subst ek
              obtain ⟨k1', ds1', e1, y1, g1', s1'⟩ := lst_okD r1 q1
              obtain ⟨k2', ds2', e2, y2, g2', s2'⟩ := lst_okD r2 q2
              cases e1
              cases e2
              simp only [zipR, lstA, g1', g2']
              rw [if_pos (by rw [s1'.length, s2'.length]; exact ll)]
              refine .at n2 ⟨zip_ok s1' s2', fun p hp => ?_⟩
              simp only [List.mem_cons, List.not_mem_nil, or_false] at hp
              rcases hp with rfl | rfl
              · exact ⟨y1, g1'⟩
              · exact ⟨y2, g2'⟩
            · exact trivial
  p := fun I x q => by cases q
  x := fun I x q => by cases q
theorem setR_ln {r : Nat} {s : List Stp} {u : T} : (setR τ r s u).length = τ.length := by
  unfold setR
  split
  · simp
  · rfl
theorem setR_ne {r i : Nat} {s : List Stp} {u : T} (c : i ≠ r) : (setR τ r s u)[i]? = τ[i]? := by
  unfold setR
  split
  · exact List.getElem?_set_ne (Ne.symm c)
  · rfl
theorem setR_same {r : Nat} {s : List Stp} {t u : T} (e : τ[r]? = some (some t)) : (setR τ r s u)[r]? = some (some (setP t s u)) := by
  unfold setR
  rw [e]
  exact List.getElem?_set_self (List.getElem?_eq_some_iff.mp e).1
/-- an owned thing is changed at the end of a path -/
theorem put_nx {r : Nat} {s : List Stp} {d0 d1 : D} {t0 u u' : T} {A M B M' Nv : List Nat} {h' : Hh} (I : Inv Z Y Γ Ns σ τ h) (x : Xok X Y Z Ns h) (hΓ : Γ[r]? = some (some .O)) (e1 : σ[r]? = some (some d0)) (e2 : τ[r]? = some (some t0))
    (P : AtP Z h d0 t0 (Ns r) s u d1 A M B) (len : h.length ≤ h'.length) (sm : ∀ n, n < h.length → n ∉ M → h'[n]? = h[n]?) (wv : W Z h' d1 u' M') (nd : M'.Nodup)
    (sb : ∀ n, n ∈ M' → n ∈ M ∨ n ∈ Nv) (pv : Tmp Z Y Ns h Nv) (nx : ∀ n, n ∈ Nv → ¬ X n) : Nx X Y Z Γ Ns σ τ h [r] [] Z (upN Ns r (A ++ M' ++ B)) (setR τ r s u') h' := by
  have ndN := I.nd r
  have eN := P.e
  have inN : ∀ n, n ∈ A ++ M ++ B → n ∈ Ns r := fun n hn => by rw [eN]; exact hn
  have nAB : ∀ n, n ∈ A ++ B → n ∉ M := fun n hn hM => by
    rw [eN] at ndN
    rw [List.nodup_append] at ndN
    obtain ⟨n1, n2, n3⟩ := ndN
    rw [List.nodup_append] at n1
    rcases List.mem_append.mp hn with q | q
    · exact n1.2.2 n q n hM rfl
    · exact n3 n (List.mem_append_right _ hM) n q rfl
  have smAB : ∀ n ∈ A ++ B, h'[n]? = h[n]? := fun n hn => sm n (I.ow r n (inN n (by simp at hn ⊢; rcases hn with q | q <;> simp [q]))).2.2 (nAB n hn)
  have nM : ∀ i n, i ≠ r → n ∈ Ns i → n ∉ M := fun i n c hn hM => c (I.dj i r n hn (inN n (by simp [hM])))
  have smZ : ∀ n, Z n → h'[n]? = h[n]? := fun n z => sm n (I.zl n z) fun hM => (I.ow r n (inN n (by simp [hM]))).1 z
  have smY : ∀ n, Y n → h'[n]? = h[n]? := fun n z => sm n (I.yl n z) fun hM => (I.ow r n (inN n (by simp [hM]))).2.1 z
  have inP : ∀ n, n ∈ A ++ M' ++ B → n ∈ Ns r ∨ n ∈ Nv := fun n hn => by
    simp only [List.mem_append] at hn
    rcases hn with (q | q) | q
    · exact .inl (inN n (by simp [q]))
    · rcases sb n q with q | q
      · exact .inl (inN n (by simp [q]))
      · exact .inr q
    · exact .inl (inN n (by simp [q]))
  have g : Gr X Y Z Ns h Z (upN Ns r (A ++ M' ++ B)) h' [r] := by
    refine ⟨len, smZ, smY, fun n q => ⟨sm n (x n q).1 fun hM => (x n q).2.2.2 r (inN n (by simp [hM])), (x n q).2.1, fun i hi => ?_⟩, fun i hi n hn => ?_, fun _ z => z, fun _ _ z => z⟩
    · by_cases c : i = r
      · subst c
        rw [upN_same] at hi
        rcases inP n hi with q2 | q2
        · exact (x n q).2.2.2 i q2
        · exact nx n q2 q
      · rw [upN_ne c] at hi
        exact (x n q).2.2.2 i hi
    · have c : i ≠ r := fun z => hi (by simp [z])
      exact ⟨sm n (I.ow i n hn).2.2 (nM i n c hn), .inl (by rw [upN_ne c]; exact hn)⟩
  have rest : ∀ i j n, n ∈ upN Ns r (A ++ M' ++ B) i → n ∈ upN Ns r (A ++ M' ++ B) j → i = j := fun i j n hi hj => by
    by_cases c : i = r
    · by_cases c2 : j = r
      · rw [c, c2]
      · subst c
        rw [upN_same] at hi
        rw [upN_ne c2] at hj
        rcases inP n hi with q | q
        · exact I.dj i j n q hj
        · exact absurd hj ((pv.ow n q).2.2.2 j)
    · rw [upN_ne c] at hi
      by_cases c2 : j = r
      · subst c2
        rw [upN_same] at hj
        rcases inP n hj with q | q
        · exact I.dj i j n hi q
        · exact absurd hi ((pv.ow n q).2.2.2 i)
      · rw [upN_ne c2] at hj
        exact I.dj i j n hi hj
  refine ⟨⟨by rw [setR_ln]; exact I.ln, by rw [inval_len]; exact I.lg, fun i ty e => ?_, fun i => ?_, rest, fun i n hn => ?_, fun n z => Nat.lt_of_lt_of_le (I.zl n z) len, fun n z => Nat.lt_of_lt_of_le (I.yl n z) len⟩, g, fun i hi => ?_⟩
  · obtain ⟨ea, _, fr⟩ := inval_some e
    obtain ⟨d, t, q1, q2, v⟩ := I.val i ty ea
    by_cases c : i = r
    · subst c
      rw [e1] at q1; cases q1
      rw [e2] at q2; cases q2
      refine ⟨d0, setP t0 s u', e1, setR_same e2, ?_⟩
      have wn := P.put Z h' u' M' (fun _ z => z) smZ smAB wv
      rw [upN_same]
      rw [hΓ] at ea
      cases ea
      exact wn
    · refine ⟨d, t, q1, by rw [setR_ne c]; exact q2, ?_⟩
      have := v.go g fr fun n hn => sm n (I.ow i n hn).2.2 (nM i n c hn)
      rw [upN_ne c]
      exact this
  · by_cases c : i = r
    · subst c
      rw [upN_same]
      rw [eN] at ndN
      rw [List.nodup_append] at ndN ⊢
      obtain ⟨n1, n2, n3⟩ := ndN
      rw [List.nodup_append] at n1
      refine ⟨List.nodup_append.mpr ⟨n1.1, nd, fun a ha b hb q => ?_⟩, n2, fun a ha b hb q => ?_⟩
      · subst q
        rcases sb a hb with q | q
        · exact n1.2.2 a ha a q rfl
        · exact (pv.ow a q).2.2.2 i (inN a (by simp [ha]))
      · subst q
        rcases List.mem_append.mp ha with q | q
        · exact n3 a (List.mem_append_left _ q) a hb rfl
        · rcases sb a q with q | q
          · exact n3 a (List.mem_append_right _ q) a hb rfl
          · exact (pv.ow a q).2.2.2 i (inN a (by simp [hb]))
    · rw [upN_ne c]; exact I.nd i
  · have : n ∈ Ns i ∨ n ∈ Nv := by
      by_cases c : i = r
      · subst c; rw [upN_same] at hn; exact inP n hn
      · rw [upN_ne c] at hn; exact .inl hn
    rcases this with q | q
    · exact ⟨(I.ow i n q).1, (I.ow i n q).2.1, Nat.lt_of_lt_of_le (I.ow i n q).2.2 len⟩
    · exact ⟨(pv.ow n q).2.1, (pv.ow n q).2.2.1, Nat.lt_of_lt_of_le (pv.ow n q).1 len⟩
  · have c : i ≠ r := fun z => hi (by simp [z])
    exact ⟨upN_ne c, setR_ne c⟩
theorem isO_ok {r : Nat} (e : isO Γ r = true) : Γ[r]? = some (some .O) := of_decide_eq_true e
theorem KV.own {ty : Wy} {d : D} {t : T} (k : KV X Y ty Z Ns h d t τ) (l : ty.le .O = true) : ∃ N, W Z h d t N ∧ Tmp Z Y Ns h N ∧ ∀ n, n ∈ N → ¬ X n := by
  obtain ⟨ni, N, v, p, nx⟩ := k
  cases ty with
  | F => exact ⟨[], v.1.own v.2, .nil, fun n hn => by cases hn⟩
  | O => exact ⟨N, v, p, nx⟩
  | B rs => cases l
  | I => cases l
theorem set_len {n : Nat} {o : O} : (h.set n o).length = h.length := by simp
/-- a list at the end of a path is written -/
theorem lst_nx {r : Nat} {s : List Stp} {d : D} {ts ts' : List T} {Nv : List Nat} {f : List D → List D} (I : Inv Z Y Γ Ns σ τ h) (x : Xok X Y Z Ns h) (hΓ : Γ[r]? = some (some .O)) (k : PathK Z Ns σ h τ d r s) (g : getR τ r s = some (.lst ts))
    (pv : Tmp Z Y Ns h Nv) (nx : ∀ n, n ∈ Nv → ¬ X n)
    (hw : ∀ (n : Nat) (ds : List D) (M0 : List Nat) (h' : Hh), M0.Nodup → n ∉ M0 → (∀ k ∈ n :: M0, k ∈ Ns r) → Ws Z h ds ts M0 → (∀ k, Z k → h'[k]? = h[k]?) → (∀ k ∈ M0, h'[k]? = h[k]?) → (∀ k ∈ Nv, h'[k]? = h[k]?) → ∃ M1, Ws Z h' (f ds) ts' M1 ∧ M1.Nodup ∧ n ∉ M1 ∧ ∀ k, k ∈ M1 → k ∈ M0 ∨ k ∈ Nv) :
    ∃ n ds N', d = .ref n ∧ h[n]? = some (.lst ds) ∧ ds.length = ts.length ∧ Nx X Y Z Γ Ns σ τ h [r] [] Z (upN Ns r N') (setR τ r s (.lst ts')) (h.set n (.lst (f ds))) := by
  obtain ⟨d0, t0, u, f1, f2, wv, f3, f4⟩ := k
  unfold getR at g
  rw [f2] at g
  dsimp only at g
  rw [f3] at g
  cases g
  obtain ⟨d1, A, M, B, P⟩ := W.path s wv f3
  have ed := P.dp h fun _ _ => rfl
  rw [f4] at ed
  cases ed
  have wu := P.w
  have ndN := I.nd r
  rw [P.e] at ndN
  have ndM : M.Nodup := (List.nodup_append.mp (List.nodup_append.mp ndN).1).2.1
  have inN : ∀ n, n ∈ M → n ∈ Ns r := fun n hn => by rw [P.e]; simp [hn]
  cases wu with
  | @lst n ds ts M0 q ws =>
    obtain ⟨nM0, ndM0⟩ := List.nodup_cons.mp ndM
    have hn := I.ow r n (inN n (by simp))
    have sm : ∀ k, k ≠ n → (h.set n (.lst (f ds)))[k]? = h[k]? := fun k c => List.getElem?_set_ne (Ne.symm c)
    obtain ⟨M1, w1, nd1, nn1, sb1⟩ := hw n ds M0 (h.set n (.lst (f ds))) ndM0 nM0 (fun k hk => inN k hk) ws (fun k z => sm k fun c => hn.1 (c ▸ z)) (fun k hk => sm k fun c => nM0 (c ▸ hk)) (fun k hk => sm k fun c => (pv.ow k hk).2.2.2 r (c ▸ inN n (by simp)))
    refine ⟨n, ds, A ++ (n :: M1) ++ B, rfl, q, ws.length, put_nx I x hΓ f1 f2 P (by rw [set_len]; exact Nat.le_refl _) (fun k _ hk => sm k fun c => hk (by simp [c])) (.lst (List.getElem?_set_self hn.2.2) w1) (List.nodup_cons.mpr ⟨nn1, nd1⟩) (fun k hk => ?_) pv nx⟩
    rcases List.mem_cons.mp hk with rfl | hk
    · exact .inl (by simp)
    · rcases sb1 k hk with q | q
      · exact .inl (by simp [q])
      · exact .inr q
theorem sndV_app (A : SndV a) (B : SndV b) : SndV (.app a b) := by
  refine .of (g := fun σ h => ((den (er a)).v σ h).bind fun o h1 => if bmOk .append o h1 = true then ((den (er b)).v σ h1).bind fun d h2 => bmD .append o [d] h2 else .bad) ?_ rfl rfl ?_
  · show Den.of _ = _
    congr 1
    funext σ h
    cases (den (er a)).v σ h with
    | ok o h1 =>
      show (if bmOk .append o h1 = true then _ else _) = (if bmOk .append o h1 = true then _ else _)
      split
      · show ((((den (er b)).v σ h1).bind fun d h1 => (Res.ok [] h1).bind fun ds h2 => .ok (d :: ds) h2)).bind _ = _
        cases (den (er b)).v σ h1 <;> rfl
      · rfl
    | _ => rfl
  intro X Y Z Γ Ns σ τ h ty w m I x e
  dsimp only at e ⊢
  split at e
  · rename_i r w1 m1 e1
    split at e
    · rename_i te w2 m2 e2
      split at e
      · rename_i c
        simp only [Bool.and_eq_true, Bool.not_eq_true', List.contains_eq_mem, decide_eq_false_iff_not] at c
        obtain ⟨⟨fr, l⟩, ho⟩ := c
        cases e
        refine (A.p I x e1).step (fun i hi => by simp [hi]) (fun i ty q => inval_left i ty (inval_left i ty q)) fun Z1 Ns1 h1 d rs τ1 n kp => ?_
        obtain ⟨rfl, pk⟩ := kp
        cases gl : isLst (getR τ1 rs.1 rs.2) with
        | false => exact trivial
        | true =>
          have bo : bmOk .append d h1 = true := by
            obtain ⟨d0, t0, u, f1, f2, wv, f3, f4⟩ := pk
            obtain ⟨d1, A, M, B, P⟩ := W.path rs.2 wv f3
            have ed := P.dp h1 fun _ _ => rfl
            rw [f4] at ed
            cases ed
            unfold getR at gl
            rw [f2] at gl
            dsimp only at gl
            rw [f3] at gl
            have wu := P.w
            cases u <;> first | (cases gl; done) | skip
            cases wu with
            | lst q _ => simp only [bmOk, q]
          rw [bo]
          show Pst X Y Z Γ Ns σ τ h (w1 ++ w2 ++ [rs.1]) (m1 ++ m2 ++ []) (KV X Y .F) (((den (er b)).v σ h1).bind fun d2 h2 => bmD .append d [d2] h2) (((vd b).v τ1).bind fun t τ2 => appQ rs.1 rs.2 t τ2)
          refine (Pst.carry n (B.v n.inv (n.xok x) e2) fun _ q => q).stepL fun Z2 Ns2 h2 d2 t2 τ2 n2 kk => ?_
          have pk2 := pk.nx kk.1 fr
          obtain ⟨Nv, wv, pv, nxv⟩ := kk.2.own l
          cases q : getR τ2 rs.1 rs.2 with
          | none => simp only [appQ, q]; exact trivial
          | some u =>
            cases u with
            | lst ts =>
              simp only [appQ, q]
              split
              · rename_i lt
                have hΓ := inval_app' _ _ (isO_ok ho)
                obtain ⟨nn, ds, N', rfl, g, ll, n3⟩ := lst_nx (f := fun ds => ds ++ [d2]) (ts' := ts ++ [t2]) n2.inv (n2.xok x) hΓ pk2 q pv nxv (fun n ds M0 h' nd nM sb ws sz s0 sv => ⟨M0 ++ Nv, (ws.mono (fun _ z => z) sz s0).append (by simpa using Ws.cons (W.mono (fun _ z => z) sz wv sv) .nil), List.nodup_append.mpr ⟨nd, pv.nd, fun a ha b hb q => (pv.ow b hb).2.2.2 _ (q ▸ sb a (by simp [ha]))⟩, fun q => by
                  rcases List.mem_append.mp q with q | q
                  · exact nM q
                  · exact (pv.ow n q).2.2.2 _ (sb n (by simp)), fun k hk => List.mem_append.mp hk⟩)
                have lt2 : ds.length < sizeLine := by rw [ll]; exact lt
                simp only [bmD, g, if_pos lt2]
                exact .at (n2.trans n3) (.flat0 (t := .non) rfl)
              · exact trivial
            | _ => simp only [appQ, q]; exact trivial
      · cases e
    · cases e
  · cases e
theorem sndV_pop (A : SndV a) : SndV (.pop a) := by
  refine .of (g := fun σ h => ((den (er a)).v σ h).bind fun o h1 => if bmOk .pop o h1 = true then bmD .pop o [] h1 else .bad) ?_ rfl rfl ?_
  · show Den.of _ = _
    congr 1
  intro X Y Z Γ Ns σ τ h ty w m I x e
  dsimp only at e ⊢
  split at e
  · rename_i r w1 m1 e1
    split at e
    · rename_i ho
      cases e
      refine (A.p I x e1).stepL fun Z1 Ns1 h1 d rs τ1 n kp => ?_
      obtain ⟨rfl, pk⟩ := kp
      cases q : getR τ1 rs.1 rs.2 with
      | none => simp only [popQ, q]; exact trivial
      | some u =>
        cases u with
        | lst ts =>
          simp only [popQ, q]
          cases q2 : ts[ts.length - 1]? with
          | none => exact trivial
          | some y =>
            dsimp only
            have hΓ := isO_ok ho
            obtain ⟨d0, t0, u, f1, f2, wv, f3, f4⟩ := pk
            have g := q
            unfold getR at g
            rw [f2] at g
            dsimp only at g
            rw [f3] at g
            cases g
            obtain ⟨d1, A, M, B, P⟩ := W.path rs.2 wv f3
            have ed := P.dp h1 fun _ _ => rfl
            rw [f4] at ed
            cases ed
            have wu := P.w
            have ndN := n.inv.nd rs.1
            rw [P.e] at ndN
            have ndM : M.Nodup := (List.nodup_append.mp (List.nodup_append.mp ndN).1).2.1
            have inN : ∀ k, k ∈ M → k ∈ Ns1 rs.1 := fun k hk => by rw [P.e]; simp [hk]
            have dAB : ∀ k, k ∈ M → k ∉ A ++ B := fun k hk q => by
              rw [List.nodup_append] at ndN
              obtain ⟨n1, n2, n3⟩ := ndN
              rw [List.nodup_append] at n1
              rcases List.mem_append.mp q with q | q
              · exact n1.2.2 k q k hk rfl
              · exact n3 k (List.mem_append_right _ hk) k q rfl
            cases wu with
            | @lst nn ds _ M0 q0 ws =>
              obtain ⟨nM0, ndM0⟩ := List.nodup_cons.mp ndM
              obtain ⟨ini, tsL, dsI, dl, M1, M2, rfl, rfl, rfl, w1', w2', hd⟩ : ∃ (ini : List T) (y' : T) (dsI : List D) (dl : D) (M1 M2 : List Nat), ts = ini ++ [y'] ∧ ds = dsI ++ [dl] ∧ M0 = M1 ++ M2 ∧ Ws Z1 h1 dsI ini M1 ∧ W Z1 h1 dl y' M2 ∧ y' = y := by
                clear f3 f4 P wv ndM nM0 ndM0 inN dAB ndN q0 q
                have key : ∀ (ts : List T) (ds : List D) (M0 : List Nat), Ws Z1 h1 ds ts M0 → ts[ts.length - 1]? = some y → ∃ (ini : List T) (y' : T) (dsI : List D) (dl : D) (M1 M2 : List Nat), ts = ini ++ [y'] ∧ ds = dsI ++ [dl] ∧ M0 = M1 ++ M2 ∧ Ws Z1 h1 dsI ini M1 ∧ W Z1 h1 dl y' M2 ∧ y' = y := by
                  intro ts
                  induction ts with
                  | nil => intro ds M0 _ e; simp at e
                  | cons t ts ih =>
                    intro ds M0 ws e
                    cases ws with
                    | cons a r =>
                      cases ts with
                      | nil => cases r; simp at e; subst e; exact ⟨[], t, [], _, [], _, rfl, rfl, by simp, .nil, a, rfl⟩
                      | cons t2 ts2 =>
                        obtain ⟨ini, y', dsI, dl, M1, M2, e1, e2, e3, e4, e5, e6⟩ := ih _ _ r (by simpa using e)
                        exact ⟨t :: ini, y', _ :: dsI, dl, _, M2, by rw [e1]; rfl, by rw [e2]; rfl, by rw [e3, List.append_assoc], .cons a e4, e5, e6⟩
                exact key ts ds M0 ws q2
              subst hd
              have hn := n.inv.ow rs.1 nn (inN nn (by simp))
              have sm : ∀ k, k ≠ nn → (h1.set nn (.lst dsI))[k]? = h1[k]? := fun k c => List.getElem?_set_ne (Ne.symm c)
              obtain ⟨nd1, nd2, nd12⟩ := List.nodup_append.mp ndM0
              have smZ : ∀ k, Z1 k → (h1.set nn (.lst dsI))[k]? = h1[k]? := fun k z => sm k fun c => hn.1 (c ▸ z)
              have sm1 : ∀ k ∈ M1, (h1.set nn (.lst dsI))[k]? = h1[k]? := fun k hk => sm k fun c => nM0 (by simp [← c, hk])
              have sm2 : ∀ k ∈ M2, (h1.set nn (.lst dsI))[k]? = h1[k]? := fun k hk => sm k fun c => nM0 (by simp [← c, hk])
              have n3 := put_nx (Nv := []) (M' := nn :: M1) (u' := .lst ini) n.inv (n.xok x) hΓ f1 f2 P (h' := h1.set nn (.lst dsI)) (by rw [set_len]; exact Nat.le_refl _) (fun k _ hk => sm k fun c => hk (by simp [c])) (.lst (List.getElem?_set_self hn.2.2) (w1'.mono (fun _ z => z) smZ sm1)) (List.nodup_cons.mpr ⟨fun q => nM0 (by simp [q]), nd1⟩) (fun k hk => .inl (by simp at hk ⊢; rcases hk with hk | hk <;> simp [hk])) .nil (fun k hk => by cases hk)
              have bo : bmOk .pop (.ref nn) h1 = true := by simp only [bmOk, q0]
              rw [bo, if_pos rfl]
              have eB : bmD .pop (.ref nn) [] h1 = .ok dl (h1.set nn (.lst dsI)) := by
                simp [bmD, q0]
              rw [eB]
              simp only [List.dropLast_concat]
              refine .at (n.trans n3) ⟨by decide, M2, w2'.mono (fun _ z => z) smZ sm2, ⟨nd2, fun k hk => ?_⟩, fun k hk q => (n.xok x k q).2.2.2 rs.1 (inN k (by simp [hk]))⟩
              obtain ⟨z1, z2, z3⟩ := n.inv.ow rs.1 k (inN k (by simp [hk]))
              refine ⟨by rw [set_len]; exact z3, z1, z2, fun i hi => ?_⟩
              by_cases c : i = rs.1
              · subst c
                rw [upN_same] at hi
                simp only [List.mem_append, List.mem_cons] at hi
                rcases hi with (hi | hi | hi) | hi
                · exact dAB k (by simp [hk]) (by simp [hi])
                · exact nM0 (by simp [← hi, hk])
                · exact nd12 k hi k hk rfl
                · exact dAB k (by simp [hk]) (by simp [hi])
              · rw [upN_ne c] at hi
                exact c (n.inv.dj i rs.1 k hi (inN k (by simp [hk])))
        | _ => simp only [popQ, q]; exact trivial
    · cases e
  · cases e
end
end L3

namespace L3
open PySem L2
section
variable {X Y Z : Nat → Prop} {Γ : G} {Ns : Os} {σ : Sl} {τ : Sm} {h : Hh}
def Yc (Y : Nat → Prop) (Ns : Os) (N bs : List Nat) : Nat → Prop := fun n => Y n ∨ n ∈ N ∨ ∃ r, r ∈ bs ∧ n ∈ Ns r
/-- the arguments of a call, as the called one holds them -/
structure Fr (Z Y : Nat → Prop) (Ns : Os) (h : Hh) (N Nf bs : List Nat) (io : List Pm) (ds : List D) (ts : List T) (Nc : Os) : Prop where
  l1 : ds.length = io.length
  l2 : ts.length = io.length
  b : ∀ (j : Nat) (d : D) (t : T), io[j]? = some .b → ds[j]? = some d → ts[j]? = some t → Rp Z (U Z (Yc Y Ns N bs) Nc []) h d t
  o : ∀ (j : Nat) (d : D) (t : T), io[j]? = some .o → ds[j]? = some d → ts[j]? = some t → W Z h d t (Nc j)
  i : ∀ (j : Nat) (d : D) (t : T), io[j]? = some .i → ds[j]? = some d → ts[j]? = some t → Val Z (Yc Y Ns N bs) Nc h .I d t (Nc j)
  sub : ∀ j n, n ∈ Nc j → (∃ r, r ∉ bs ∧ n ∈ Ns r) ∨ n ∈ Nf
  nd : ∀ j, (Nc j).Nodup
  dj : ∀ i j n, n ∈ Nc i → n ∈ Nc j → i = j
/-- what is left alone by a call -/
structure Lf (X Y Z : Nat → Prop) (Ns : Os) (h : Hh) (N : List Nat) (Nc : Os) (Z' : Nat → Prop) (Nc' : Os) (h' : Hh) (N' : List Nat) : Prop where
  len : h.length ≤ h'.length
  zs : ∀ n, Z n → h'[n]? = h[n]?
  zz : ∀ n, Z n → Z' n
  ys : ∀ n, Y n → h'[n]? = h[n]? ∧ (Z' n → Z n)
  xs : ∀ n, X n → h'[n]? = h[n]? ∧ ¬ Z' n ∧ (∀ j, n ∉ Nc' j) ∧ n ∉ N'
  ns : ∀ n, n ∈ N → h'[n]? = h[n]? ∧ (∀ j, n ∉ Nc' j) ∧ n ∉ N'
  os : ∀ i n, n ∈ Ns i → (∀ j, n ∉ Nc j) → h'[n]? = h[n]? ∧ ¬ Z' n ∧ (∀ j, n ∉ Nc' j) ∧ n ∉ N'
theorem gam_get {io : List Pm} {j : Nat} {ty : Wy} (e : (gam io)[j]? = some (some ty)) : (io[j]? = some .b ∧ ty = .B []) ∨ (io[j]? = some .o ∧ ty = .O) ∨ (io[j]? = some .i ∧ ty = .I) := by
  unfold gam at e
  rw [List.getElem?_map] at e
  cases q : io[j]? with
  | none => rw [q] at e; cases e
  | some p => rw [q] at e; cases p <;> simp at e <;> simp [e]
theorem call_core {io : List Pm} {rk : Wy} {f : Fn} {g : VFn} {N Nf bs : List Nat} {ds : List D} {ts : List T} {Nc : Os} (S : Sim io rk f g) (I : Inv Z Y Γ Ns σ τ h) (x : Xok X Y Z Ns h) (pN : Tmp Z Y Ns h (N ++ Nf)) (nx : ∀ n, n ∈ N ++ Nf → ¬ X n)
    (F : Fr Z Y Ns h N Nf bs io ds ts Nc) : match g ts with
    | .bad => True
    | .ok t os => ∃ d h' Z' Nc' N' τ', f ds h = .ok d h' ∧ Inv Z' (Yc Y Ns N bs) (gamO io) Nc' (ds.map some) τ' h' ∧ outs io τ' = os ∧ Lf X Y Z Ns h N Nc Z' Nc' h' N' ∧ Val Z' (Yc Y Ns N bs) Nc' h' rk d t N' ∧ Tmp Z' (Yc Y Ns N bs) Nc' h' N'
    | .exc c xs os => ∃ h' Z' Nc' τ', f ds h = .exc c (embs xs) h' ∧ flat0s xs = true ∧ Inv Z' (Yc Y Ns N bs) (gamO io) Nc' (ds.map some) τ' h' ∧ outs io τ' = os ∧ Lf X Y Z Ns h N Nc Z' Nc' h' [] := by
  have pl := pN.left
  have pr := pN.right
  have dNf : ∀ n, n ∈ N → n ∉ Nf := fun n a b => (List.nodup_append.mp pN.nd).2.2 n a n b rfl
  have cN : ∀ j n, n ∈ Nc j → ¬ Z n ∧ ¬ Yc Y Ns N bs n ∧ n < h.length ∧ ¬ X n := fun j n hn => by
    rcases F.sub j n hn with ⟨r, hr, q⟩ | q
    · obtain ⟨a, b, c⟩ := I.ow r n q
      refine ⟨a, fun y => ?_, c, fun q2 => (x n q2).2.2.2 r q⟩
      rcases y with y | y | ⟨r2, h2, q2⟩
      · exact b y
      · exact (pl.ow n y).2.2.2 r q
      · exact hr (I.dj r r2 n q q2 ▸ h2)
    · obtain ⟨a, b, c, d⟩ := pr.ow n q
      refine ⟨b, fun y => ?_, a, nx n (List.mem_append_right _ q)⟩
      rcases y with y | y | ⟨r2, h2, q2⟩
      · exact c y
      · exact dNf n y q
      · exact d r2 q2
  have J : Inv Z (Yc Y Ns N bs) (gam io) Nc (ds.map some) (ts.map some) h := by
    refine ⟨by simp [F.l1, F.l2], by simp [gam, F.l1], fun j ty e => ?_, F.nd, F.dj, fun j n hn => ⟨(cN j n hn).1, (cN j n hn).2.1, (cN j n hn).2.2.1⟩, I.zl, fun n y => ?_⟩
    · have lj : j < io.length := by
        rcases gam_get e with ⟨q, _⟩ | ⟨q, _⟩ | ⟨q, _⟩ <;> exact (List.getElem?_eq_some_iff.mp q).1
      have e1 : ds[j]? = some (ds[j]'(by rw [F.l1]; exact lj)) := List.getElem?_eq_getElem _
      have e2 : ts[j]? = some (ts[j]'(by rw [F.l2]; exact lj)) := List.getElem?_eq_getElem _
      refine ⟨_, _, by rw [List.getElem?_map, e1]; rfl, by rw [List.getElem?_map, e2]; rfl, ?_⟩
      rcases gam_get e with ⟨q, rfl⟩ | ⟨q, rfl⟩ | ⟨q, rfl⟩
      · exact F.b j _ _ q e1 e2
      · exact F.o j _ _ q e1 e2
      · exact F.i j _ _ q e1 e2
    · rcases y with y | y | ⟨r, _, y⟩
      · exact I.yl n y
      · exact (pl.ow n y).1
      · exact (I.ow r n y).2.2
  have XO : Xok (fun n => (X n ∨ ∃ i, n ∈ Ns i) ∧ ¬ Yc Y Ns N bs n ∧ ∀ j, n ∉ Nc j) (Yc Y Ns N bs) Z Nc h := fun n q => by
    obtain ⟨q, y, c⟩ := q
    rcases q with q | ⟨i, q⟩
    · exact ⟨(x n q).1, (x n q).2.1, y, c⟩
    · exact ⟨(I.ow i n q).2.2, (I.ow i n q).1, y, c⟩
  have sX : ∀ n, X n → (X n ∨ ∃ i, n ∈ Ns i) ∧ ¬ Yc Y Ns N bs n ∧ ∀ j, n ∉ Nc j := fun n q => by
    refine ⟨.inl q, fun y => ?_, fun j hj => (cN j n hj).2.2.2 q⟩
    rcases y with y | y | ⟨r, _, y⟩
    · exact (x n q).2.2.1 y
    · exact nx n (List.mem_append_left _ y) q
    · exact (x n q).2.2.2 r y
  have key := S _ Z (Yc Y Ns N bs) Nc ds ts h F.l1 XO J
  have left : ∀ {Z' : Nat → Prop} {Nc' : Os} {h' : Hh} {τ' : Sm} {N' : List Nat}, Inv Z' (Yc Y Ns N bs) (gamO io) Nc' (ds.map some) τ' h' → Gr (fun n => (X n ∨ ∃ i, n ∈ Ns i) ∧ ¬ Yc Y Ns N bs n ∧ ∀ j, n ∉ Nc j) (Yc Y Ns N bs) Z Nc h Z' Nc' h' (ixs io) → Tmp Z' (Yc Y Ns N bs) Nc' h' N' → (∀ n, n ∈ N' → ¬ ((X n ∨ ∃ i, n ∈ Ns i) ∧ ¬ Yc Y Ns N bs n ∧ ∀ j, n ∉ Nc j)) → Lf X Y Z Ns h N Nc Z' Nc' h' N' := by
    intro Z' Nc' h' τ' N' J' gr pt nxt
    refine ⟨gr.len, gr.zs, gr.zz, fun n y => ⟨gr.ys n (.inl y), gr.yz n (.inl y)⟩, fun n q => ?_, fun n hn => ⟨gr.ys n (.inr (.inl hn)), fun j hj => (J'.ow j n hj).2.1 (.inr (.inl hn)), fun q => (pt.ow n q).2.2.1 (.inr (.inl hn))⟩, fun i n hn hc => ?_⟩
    · obtain ⟨a, b, c⟩ := gr.xs n (sX n q)
      exact ⟨a, b, c, fun q2 => nxt n q2 (sX n q)⟩
    · by_cases y : Yc Y Ns N bs n
      · exact ⟨gr.ys n y, fun z => (I.ow i n hn).1 (gr.yz n y z), fun j hj => (J'.ow j n hj).2.1 y, fun q => (pt.ow n q).2.2.1 y⟩
      · obtain ⟨a, b, c⟩ := gr.xs n ⟨.inr ⟨i, hn⟩, y, hc⟩
        exact ⟨a, b, c, fun q2 => nxt n q2 ⟨.inr ⟨i, hn⟩, y, hc⟩⟩
  cases e : g ts with
  | bad => exact trivial
  | ok t os =>
    rw [e] at key
    obtain ⟨d, h', Z', Nc', N', τ', e1, J', eo, gr, v, pt, nxt⟩ := key
    exact ⟨d, h', Z', Nc', N', τ', e1, J', eo, left J' gr pt nxt, v, pt⟩
  | exc c xs os =>
    rw [e] at key
    obtain ⟨h', Z', Nc', τ', e1, fl, J', eo, gr⟩ := key
    exact ⟨h', Z', Nc', τ', e1, fl, J', eo, left J' gr .nil fun n hn => by cases hn⟩
theorem AK.len : ∀ {tas : List TA} {ds : List D} {as : List VA} {N : List Nat}, AK Z Y Ns σ h τ tas ds as N → ds.length = tas.length ∧ as.length = tas.length
  | [], ds, as, N, k => by
    cases ds with
    | cons _ _ => exact k.elim
    | nil =>
      cases as with
      | cons _ _ => exact k.elim
      | nil => exact ⟨rfl, rfl⟩
  | .p i :: r, ds, as, N, k => by
    cases ds with
    | nil => exact k.elim
    | cons d ds =>
      cases as with
      | nil => exact k.elim
      | cons a as =>
        cases a with
        | v _ => exact k.elim
        | p j q => have := AK.len k.2.2; simp [this]
  | .v ty :: r, ds, as, N, k => by
    cases ds with
    | nil => exact k.elim
    | cons d ds =>
      cases as with
      | nil => exact k.elim
      | cons a as =>
        cases a with
        | p _ _ => exact k.elim
        | v t =>
          obtain ⟨_, _, _, _, _, k⟩ := k
          have := AK.len k
          simp [this]
/-- an argument in hand -/
def A1 (Z Y : Nat → Prop) (Ns : Os) (σ : Sl) (h : Hh) (τ : Sm) (N : List Nat) (ta : TA) (d : D) (a : VA) : Prop := match ta, a with
  | .v ty, .v t => ty ≠ .I ∧ ∃ N1, Val Z Y Ns h ty d t N1 ∧ ∀ n, n ∈ N1 → n ∈ N
  | .p r, .p r' s => r' = r ∧ PathK Z Ns σ h τ d r s
  | _, _ => False
theorem A1.mono {N N' : List Nat} {ta : TA} {d : D} {a : VA} (k : A1 Z Y Ns σ h τ N ta d a) (s : ∀ n, n ∈ N → n ∈ N') : A1 Z Y Ns σ h τ N' ta d a := by
  cases ta with
  | v ty =>
    cases a with
    | v t => obtain ⟨ni, N1, v, q⟩ := k; exact ⟨ni, N1, v, fun n hn => s n (q n hn)⟩
    | p _ _ => exact k.elim
  | p r => cases a <;> exact k
theorem AK.get : ∀ {tas : List TA} {ds : List D} {as : List VA} {N : List Nat} {j : Nat} {ta : TA}, AK Z Y Ns σ h τ tas ds as N → tas[j]? = some ta → ∃ d a, ds[j]? = some d ∧ as[j]? = some a ∧ A1 Z Y Ns σ h τ N ta d a
  | [], ds, as, N, j, ta, k, e => by simp at e
  | .p i :: r, ds, as, N, j, ta, k, e => by
    cases ds with
    | nil => exact k.elim
    | cons d ds =>
      cases as with
      | nil => exact k.elim
      | cons a as =>
        cases a with
        | v _ => exact k.elim
        | p i' s =>
          obtain ⟨rfl, pk, k⟩ := k
          cases j with
          | zero => simp at e; subst e; exact ⟨d, _, rfl, rfl, rfl, pk⟩
          | succ j =>
            obtain ⟨d', a', e1, e2, q⟩ := AK.get (j := j) k (by simpa using e)
            exact ⟨d', a', by simpa using e1, by simpa using e2, q⟩
  | .v ty :: r, ds, as, N, j, ta, k, e => by
    cases ds with
    | nil => exact k.elim
    | cons d ds =>
      cases as with
      | nil => exact k.elim
      | cons a as =>
        cases a with
        | p _ _ => exact k.elim
        | v t =>
          obtain ⟨N1, N2, rfl, ni, v, k⟩ := k
          cases j with
          | zero => simp at e; subst e; exact ⟨d, _, rfl, rfl, ni, N1, v, fun n hn => List.mem_append_left _ hn⟩
          | succ j =>
            obtain ⟨d', a', e1, e2, q⟩ := AK.get (j := j) k (by simpa using e)
            exact ⟨d', a', by simpa using e1, by simpa using e2, q.mono fun n hn => List.mem_append_right _ hn⟩
theorem ioOk_len : ∀ {io : List Pm} {as : List TA}, ioOk Γ io as = true → as.length = io.length
  | [], [], _ => rfl
  | .b :: io, .v ty :: r, e => by rw [ioOk, Bool.and_eq_true] at e; simp [ioOk_len e.2]
  | .o :: io, .p i :: r, e => by rw [ioOk, Bool.and_eq_true] at e; simp [ioOk_len e.2]
  | [], _ :: _, e => by cases e
  | .b :: _, [], e => by cases e
  | .o :: _, [], e => by cases e
  | .i :: _, [], e => by cases e
  | .b :: io, .p _ :: r, e => by cases e
  | .o :: io, .v _ :: r, e => by cases e
  | .i :: io, _ :: r, e => by cases e
theorem ioOk_get : ∀ {io : List Pm} {as : List TA} {j : Nat} {p : Pm}, ioOk Γ io as = true → io[j]? = some p → (p = .b ∧ ∃ ty, as[j]? = some (.v ty) ∧ ty ≠ .I) ∨ (p = .o ∧ ∃ r, as[j]? = some (.p r) ∧ Γ[r]? = some (some .O))
  | [], _, j, p, _, e => by simp at e
  | .b :: io, .v ty :: r, 0, p, e, q => by
    rw [ioOk, Bool.and_eq_true] at e
    simp at q
    exact .inl ⟨q.symm, ty, rfl, of_decide_eq_true e.1⟩
  | .o :: io, .p i :: r, 0, p, e, q => by
    rw [ioOk, Bool.and_eq_true] at e
    simp at q
    exact .inr ⟨q.symm, i, rfl, of_decide_eq_true e.1⟩
  | .b :: io, .v ty :: r, j + 1, p, e, q => by
    rw [ioOk, Bool.and_eq_true] at e
    have := ioOk_get (j := j) e.2 (by simpa using q)
    simpa using this
  | .o :: io, .p i :: r, j + 1, p, e, q => by
    rw [ioOk, Bool.and_eq_true] at e
    have := ioOk_get (j := j) e.2 (by simpa using q)
    simpa using this
  | .b :: _, [], _, _, e, _ => by cases e
  | .o :: _, [], _, _, e, _ => by cases e
  | .i :: _, [], _, _, e, _ => by cases e
  | .b :: io, .p _ :: r, _, _, e, _ => by cases e
  | .o :: io, .v _ :: r, _, _, e, _ => by cases e
  | .i :: io, _ :: r, _, _, e, _ => by cases e
theorem rootsA_mem : ∀ {as : List TA} {j r : Nat}, as[j]? = some (.p r) → r ∈ rootsA as
  | [], _, _, e => by simp at e
  | .v ty :: as, 0, r, e => by simp at e
  | .v ty :: as, j + 1, r, e => rootsA_mem (j := j) (as := as) (by simpa using e)
  | .p i :: as, 0, r, e => by simp at e; subst e; simp [rootsA]
  | .p i :: as, j + 1, r, e => by simp [rootsA, rootsA_mem (j := j) (as := as) (by simpa using e)]
theorem rootsA_inj : ∀ {as : List TA} {i j r : Nat}, (rootsA as).Nodup → as[i]? = some (.p r) → as[j]? = some (.p r) → i = j
  | [], _, _, _, _, e, _ => by simp at e
  | .v ty :: as, 0, _, r, _, e, _ => by simp at e
  | .v ty :: as, _ + 1, 0, r, _, _, e => by simp at e
  | .v ty :: as, i + 1, j + 1, r, n, e, q => congrArg (· + 1) (rootsA_inj (as := as) (i := i) (j := j) (r := r) n (by simpa using e) (by simpa using q))
  | .p k :: as, 0, 0, r, n, e, q => rfl
  | .p k :: as, 0, j + 1, r, n, e, q => by
    simp at e; subst e
    exact absurd (rootsA_mem (as := as) (j := j) (by simpa using q)) (List.nodup_cons.mp n).1
  | .p k :: as, i + 1, 0, r, n, e, q => by
    simp at q; subst q
    exact absurd (rootsA_mem (as := as) (j := i) (by simpa using e)) (List.nodup_cons.mp n).1
  | .p k :: as, i + 1, j + 1, r, n, e, q => congrArg (· + 1) (rootsA_inj (as := as) (i := i) (j := j) (r := r) (List.nodup_cons.mp n).2 (by simpa using e) (by simpa using q))
theorem borA_mem : ∀ {as : List TA} {j r : Nat} {rs : List Nat}, as[j]? = some (.v (.B rs)) → r ∈ rs → r ∈ borA as
  | [], _, _, _, e, _ => by simp at e
  | a :: as, 0, r, rs, e, q => by simp at e; subst e; simp [borA, q]
  | a :: as, j + 1, r, rs, e, q => by
    have := borA_mem (as := as) (j := j) (by simpa using e) q
    unfold borA
    split <;> simp_all
theorem borA_of : ∀ {as : List TA} {r : Nat}, r ∈ borA as → ∃ (j : Nat) (rs : List Nat), as[j]? = some (TA.v (.B rs)) ∧ r ∈ rs
  | [], _, e => by simp [borA] at e
  | .p i :: as, r, e => by
    obtain ⟨j, rs', e1, e2⟩ := borA_of (as := as) (r := r) e
    exact ⟨j + 1, rs', by simpa using e1, e2⟩
  | .v ty :: as, r, e => by
    cases ty with
    | B rs =>
      rw [borA] at e
      rcases List.mem_append.mp e with q | q
      · exact ⟨0, rs, rfl, q⟩
      · obtain ⟨j, rs', e1, e2⟩ := borA_of q
        exact ⟨j + 1, rs', by simpa using e1, e2⟩
    | _ =>
      obtain ⟨j, rs', e1, e2⟩ := borA_of (as := as) (r := r) e
      exact ⟨j + 1, rs', by simpa using e1, e2⟩
theorem takeAs_get : ∀ {as : List VA} {ts : List T}, takeAs τ as = some ts → ts.length = as.length ∧ ∀ (j : Nat) (a : VA), as[j]? = some a → ∃ t, ts[j]? = some t ∧ takeA τ a = some t
  | [], ts, e => by cases e; exact ⟨rfl, fun j a q => by simp at q⟩
  | a :: as, ts, e => by
    unfold takeAs at e
    cases q : takeA τ a with
    | none => rw [q] at e; cases e
    | some t =>
      rw [q] at e
      cases q2 : takeAs τ as with
      | none => rw [q2] at e; cases e
      | some us =>
        rw [q2] at e
        cases e
        obtain ⟨l, k⟩ := takeAs_get q2
        refine ⟨by simp [l], fun j b e => ?_⟩
        cases j with
        | zero => simp at e; subst e; exact ⟨t, rfl, q⟩
        | succ j => exact k j b (by simpa using e)
theorem wb_get : ∀ {io : List Pm} {as : List VA} {τ' τ1 τ2 : Sm}, wb io as (outs io τ') τ1 = some τ2 → as.length = io.length → (∀ (j : Nat), io[j]? = some Pm.o → ∃ o, τ'[j]? = some (some o)) → (∀ (i j r : Nat) (s s' : List Stp), as[i]? = some (.p r s) → as[j]? = some (.p r s') → i = j) →
    τ2.length = τ1.length ∧ (∀ (i : Nat), (∀ (j : Nat) (s : List Stp), as[j]? ≠ some (VA.p i s)) → τ2[i]? = τ1[i]?) ∧ (∀ (j r : Nat) (s : List Stp) (t0 o : T), as[j]? = some (.p r s) → io[j]? = some .o → τ1[r]? = some (some t0) → τ'[j]? = some (some o) → τ2[r]? = some (some (setP t0 s o)))
  | [], as, τ', τ1, τ2, e, l, ho, inj => by
    cases as with
    | cons _ _ => cases l
    | nil =>
      unfold outs wb at e
      cases e
      exact ⟨rfl, fun _ _ => rfl, fun j r s t0 o q => by simp at q⟩
  | .b :: io, as, τ', τ1, τ2, e, l, ho, inj => by
    cases as with
    | nil => cases l
    | cons a as =>
      have e' : ∃ τ'', wb io as (outs io τ'') τ1 = some τ2 ∧ ∀ j, τ''[j]? = τ'[j + 1]? := by
        cases τ' with
        | nil =>
          refine ⟨[], ?_, fun j => by simp⟩
          have z1 : outs (.b :: io) [] = [] := by simp [outs]
          have z2 : outs io [] = [] := by cases io <;> simp [outs]
          rw [z1] at e
          rw [z2]
          unfold wb at e
          exact e
        | cons o τ' =>
          refine ⟨τ', ?_, fun j => by simp⟩
          have z1 : outs (.b :: io) (o :: τ') = outs io τ' := by simp [outs]
          rw [z1] at e
          unfold wb at e
          exact e
      obtain ⟨τ'', e', sh⟩ := e'
      obtain ⟨k1, k2, k3⟩ := wb_get e' (by simpa using l) (fun j q => by rw [sh]; exact ho (j + 1) (by simpa using q)) (fun i j r s s' a b => by simpa using inj (i + 1) (j + 1) r s s' (by simpa using a) (by simpa using b))
      refine ⟨k1, fun i hi => k2 i fun j s => by simpa using hi (j + 1) s, fun j r s t0 o q1 q2 q3 q4 => ?_⟩
      cases j with
      | zero => simp at q2
      | succ j => exact k3 j r s t0 o (by simpa using q1) (by simpa using q2) q3 (by rw [sh]; exact q4)
  | .i :: io, as, τ', τ1, τ2, e, l, ho, inj => by
    cases as with
    | nil => cases l
    | cons a as => unfold wb at e; cases e
  | .o :: io, as, τ', τ1, τ2, e, l, ho, inj => by
    cases as with
    | nil => cases l
    | cons a as =>
      obtain ⟨o0, eo⟩ := ho 0 rfl
      cases τ' with
      | nil => simp at eo
      | cons o τ' =>
        simp at eo
        subst eo
        have z1 : outs (.o :: io) (some o0 :: τ') = o0 :: outs io τ' := by simp [outs]
        rw [z1] at e
        cases a with
        | v t => unfold wb at e; cases e
        | p r s =>
          unfold wb at e
          obtain ⟨k1, k2, k3⟩ := wb_get e (by simpa using l) (fun j q => by simpa using ho (j + 1) (by simpa using q)) (fun i j r s s' a b => by simpa using inj (i + 1) (j + 1) r s s' (by simpa using a) (by simpa using b))
          have nr : ∀ (j : Nat) (s' : List Stp), as[j]? ≠ some (.p r s') := fun j s' q => by
            have := inj 0 (j + 1) r s s' rfl (by simpa using q)
            cases this
          refine ⟨by rw [k1, setR_ln], fun i hi => ?_, fun j r' s' t0 o' q1 q2 q3 q4 => ?_⟩
          · have c : i ≠ r := fun z => hi 0 s (by simp [z])
            rw [k2 i fun j s => by simpa using hi (j + 1) s, setR_ne c]
          · cases j with
            | zero =>
              simp at q1 q4
              obtain ⟨rfl, rfl⟩ := q1
              subst q4
              rw [k2 r nr]
              exact setR_same q3
            | succ j =>
              have c : r' ≠ r := fun z => nr j s' (by subst z; simpa using q1)
              exact k3 j r' s' t0 o' (by simpa using q1) (by simpa using q2) (by rw [setR_ne c]; exact q3) (by simpa using q4)
end
end L3

namespace L3
open PySem L2
mutual
theorem dflat_rp {Z Y : Nat → Prop} {h : Hh} : ∀ {x : D}, dflat x = true → Rp Z Y h x (ub x)
  | .non, _ => .non
  | .bl b, _ => .bl b
  | .int i, _ => .int i
  | .str i, _ => .str i
  | .tup xs, f => .tup (dflats_rp f)
  | .rol _, f => by cases f
  | .ref _, f => by cases f
  | .xcp _ _ _ _, f => by cases f
theorem dflats_rp {Z Y : Nat → Prop} {h : Hh} : ∀ {xs : List D}, dflats xs = true → Rps Z Y h xs (ubs xs)
  | [], _ => .nil
  | x :: xs, f => by
    rw [dflats, Bool.and_eq_true] at f
    exact .cons (dflat_rp f.1) (dflats_rp f.2)
end
mutual
theorem dflat_flat : ∀ {x : D}, dflat x = true → flat0 (ub x) = true
  | .non, _ => rfl
  | .bl b, _ => rfl
  | .int i, _ => rfl
  | .str i, _ => rfl
  | .tup xs, f => dflats_flat (xs := xs) f
  | .rol _, f => by cases f
  | .ref _, f => by cases f
  | .xcp _ _ _ _, f => by cases f
theorem dflats_flat : ∀ {xs : List D}, dflats xs = true → flat0s (ubs xs) = true
  | [], _ => rfl
  | x :: xs, f => by
    rw [dflats, Bool.and_eq_true] at f
    rw [ubs, flat0s, dflat_flat f.1, dflats_flat f.2]; rfl
end
section
variable {X Y Z : Nat → Prop} {Γ : G} {Ns : Os} {σ : Sl} {τ : Sm} {h : Hh} {tas : List TA} {ds : List D} {as : List VA} {N Nf : List Nat} {io : List Pm}
/-- arguments in hand -/
structure AL (Z Y : Nat → Prop) (Ns : Os) (σ : Sl) (h : Hh) (τ : Sm) (N : List Nat) (tas : List TA) (ds : List D) (as : List VA) : Prop where
  len : ds.length = tas.length ∧ as.length = tas.length
  get : ∀ {j : Nat} {ta : TA}, tas[j]? = some ta → ∃ d a, ds[j]? = some d ∧ as[j]? = some a ∧ A1 Z Y Ns σ h τ N ta d a
theorem AK.al (k : AK Z Y Ns σ h τ tas ds as N) : AL Z Y Ns σ h τ N tas ds as := ⟨k.len, fun e => k.get e⟩
theorem AL.nil : AL Z Y Ns σ h τ N [] [] [] := ⟨⟨rfl, rfl⟩, fun e => by simp at e⟩
theorem AL.cons {ta : TA} {d : D} {a : VA} (k : A1 Z Y Ns σ h τ N ta d a) (r : AL Z Y Ns σ h τ N tas ds as) : AL Z Y Ns σ h τ N (ta :: tas) (d :: ds) (a :: as) := by
  refine ⟨by simp [r.len], fun {j ta'} e => ?_⟩
  cases j with
  | zero => simp at e; subst e; exact ⟨d, a, rfl, rfl, k⟩
  | succ j => simpa using r.get (j := j) (by simpa using e)
theorem AL.mono {N' : List Nat} (k : AL Z Y Ns σ h τ N tas ds as) (s : ∀ n, n ∈ N → n ∈ N') : AL Z Y Ns σ h τ N' tas ds as := ⟨k.len, fun e => by
  obtain ⟨d, a, e1, e2, q⟩ := k.get e
  exact ⟨d, a, e1, e2, q.mono s⟩⟩
theorem AL.tail {ta : TA} {d : D} {a : VA} (k : AL Z Y Ns σ h τ N (ta :: tas) (d :: ds) (a :: as)) : AL Z Y Ns σ h τ N tas ds as := ⟨by have := k.len; simpa using this, fun {j ta'} e => by simpa using k.get (j := j + 1) (by simpa using e)⟩
theorem AL.pick {tz : List TA} {zs : List D} {az : List VA} (k : AL Z Y Ns σ h τ N tas ds as) (kz : AL Z Y Ns σ h τ N tz zs az) : ∀ {b : List Ar} {tx : List TA} {ax : List VA}, pickS b tas tz = some tx → pickV b as az = some ax → ∃ xs, pickD b ds zs = some xs ∧ AL Z Y Ns σ h τ N tx xs ax
  | [], tx, ax, e1, e2 => by cases e1; cases e2; exact ⟨[], rfl, .nil⟩
  | .p i :: r, tx, ax, e1, e2 => by
    unfold pickS at e1
    unfold pickV at e2
    cases q1 : tas[i]? with
    | none => rw [q1] at e1; cases e1
    | some ta =>
      obtain ⟨d, a, f1, f2, A⟩ := k.get q1
      rw [q1] at e1
      rw [f2] at e2
      dsimp only at e1 e2
      cases q3 : pickS r tas tz with
      | none => rw [q3] at e1; cases e1
      | some tr =>
        cases q4 : pickV r as az with
        | none => rw [q4] at e2; cases e2
        | some ar =>
          obtain ⟨xs, e5, K⟩ := AL.pick k kz q3 q4
          rw [q3] at e1
          rw [q4] at e2
          cases e1
          cases e2
          exact ⟨d :: xs, by simp [pickD, f1, e5], .cons A K⟩
  | .k i :: r, tx, ax, e1, e2 => by
    unfold pickS at e1
    unfold pickV at e2
    cases q1 : tz[i]? with
    | none => rw [q1] at e1; cases e1
    | some ta =>
      obtain ⟨d, a, f1, f2, A⟩ := kz.get q1
      rw [q1] at e1
      rw [f2] at e2
      dsimp only at e1 e2
      cases q3 : pickS r tas tz with
      | none => rw [q3] at e1; cases e1
      | some tr =>
        cases q4 : pickV r as az with
        | none => rw [q4] at e2; cases e2
        | some ar =>
          obtain ⟨xs, e5, K⟩ := AL.pick k kz q3 q4
          rw [q3] at e1
          rw [q4] at e2
          cases e1
          cases e2
          exact ⟨d :: xs, by simp [pickD, f1, e5], .cons A K⟩
  | .d x :: r, tx, ax, e1, e2 => by
    unfold pickS at e1
    unfold pickV at e2
    have hx : dflat x = true ∧ ∃ tr, pickS r tas tz = some tr ∧ tx = .v .F :: tr := by
      split at e1
      · rename_i c
        cases q3 : pickS r tas tz with
        | none => rw [q3] at e1; cases e1
        | some tr => rw [q3] at e1; cases e1; exact ⟨c, tr, rfl, rfl⟩
      · cases e1
    obtain ⟨fx, tr, q3, rfl⟩ := hx
    cases q4 : pickV r as az with
    | none => rw [q4] at e2; cases e2
    | some ar =>
      obtain ⟨xs, e5, K⟩ := AL.pick k kz q3 q4
      rw [q4] at e2
      cases e2
      refine ⟨x :: xs, by simp [pickD, e5], .cons ⟨by decide, [], ⟨?_, ?_⟩, fun n hn => by cases hn⟩ K⟩
      · exact dflat_rp fx
      · exact flat_of0 (dflat_flat fx)
/-- where the arguments that go in and out lie -/
def Qs (Z : Nat → Prop) (Ns : Os) (σ : Sl) (h : Hh) (τ : Sm) (tas : List TA) (ds : List D) (as : List VA) (q : Nat → List Nat × List Nat × List Nat) : Prop :=
  ∀ j, (∀ (r : Nat) (s : List Stp), as[j]? = some (.p r s) → ∃ d0 t0 u d, tas[j]? = some (.p r) ∧ ds[j]? = some d ∧ σ[r]? = some (some d0) ∧ τ[r]? = some (some t0) ∧ getP t0 s = some u ∧ AtP Z h d0 t0 (Ns r) s u d (q j).1 (q j).2.1 (q j).2.2) ∧
    ((∀ (r : Nat) (s : List Stp), as[j]? ≠ some (.p r s)) → (q j).2.1 = [])
theorem qs_of (k : AL Z Y Ns σ h τ N tas ds as) : ∃ q, Qs Z Ns σ h τ tas ds as q := by
  apply Classical.axiomOfChoice (r := fun (j : Nat) (q : List Nat × List Nat × List Nat) => (∀ (r : Nat) (s : List Stp), as[j]? = some (.p r s) → ∃ d0 t0 u d, tas[j]? = some (.p r) ∧ ds[j]? = some d ∧ σ[r]? = some (some d0) ∧ τ[r]? = some (some t0) ∧ getP t0 s = some u ∧ AtP Z h d0 t0 (Ns r) s u d q.1 q.2.1 q.2.2) ∧
    ((∀ (r : Nat) (s : List Stp), as[j]? ≠ some (.p r s)) → q.2.1 = []))
  intro j
  obtain ⟨l1, l2⟩ := k.len
  cases e : as[j]? with
  | none => exact ⟨([], [], []), ⟨fun r s q => (by cases q), fun _ => rfl⟩⟩
  | some a =>
    cases a with
    | v t => exact ⟨([], [], []), ⟨fun r s q => (by cases q), fun _ => rfl⟩⟩
    | p r s =>
      have lj : j < tas.length := by rw [← l2]; exact (List.getElem?_eq_some_iff.mp e).1
      have et : tas[j]? = some tas[j] := List.getElem?_eq_getElem lj
      obtain ⟨d, a', e1, e2, A⟩ := k.get et
      rw [e] at e2
      cases e2
      cases ta : tas[j] with
      | v ty => rw [ta] at A; exact A.elim
      | p r' =>
        rw [ta] at A et
        obtain ⟨rfl, d0, t0, u, f1, f2, wv, f3, f4⟩ := A
        obtain ⟨d1, A, M, B, P⟩ := W.path s wv f3
        have ed := P.dp h fun _ _ => rfl
        rw [f4] at ed
        cases ed
        exact ⟨(A, M, B), ⟨fun r2 s2 q => (by cases q; exact ⟨d0, t0, u, d, et, e1, f1, f2, f3, P⟩), fun q => absurd rfl (q _ s)⟩⟩
/-- the called one's own -/
def Nq (k : Nat) (Nf : List Nat) (q : Nat → List Nat × List Nat × List Nat) : Os := fun j => if j < k then (if j = 0 then Nf else []) else (q (j - k)).2.1
variable {q : Nat → List Nat × List Nat × List Nat}
theorem q_sub (Q : Qs Z Ns σ h τ tas ds as q) {j n : Nat} (hn : n ∈ (q j).2.1) : ∃ (r : Nat) (s : List Stp) (d0 : D) (t0 u : T) (d : D), as[j]? = some (.p r s) ∧ tas[j]? = some (.p r) ∧ ds[j]? = some d ∧ σ[r]? = some (some d0) ∧ τ[r]? = some (some t0) ∧ getP t0 s = some u ∧ AtP Z h d0 t0 (Ns r) s u d (q j).1 (q j).2.1 (q j).2.2 ∧ n ∈ Ns r := by
  by_cases c : ∃ r s, as[j]? = some (.p r s)
  · obtain ⟨r, s, e⟩ := c
    obtain ⟨d0, t0, u, d, a, b, f1, f2, f3, P⟩ := (Q j).1 r s e
    exact ⟨r, s, d0, t0, u, d, e, a, b, f1, f2, f3, P, by rw [P.e]; simp [hn]⟩
  · rw [(Q j).2 fun r s e => c ⟨r, s, e⟩] at hn
    cases hn
theorem fr_of {k : Nat} {pio : List Pm} {pd : List D} {pt ts : List T} (I : Inv Z Y Γ Ns σ τ h) (K : AL Z Y Ns σ h τ N tas ds as) (p : Tmp Z Y Ns h (N ++ Nf)) (hio : ioOk Γ io tas = true) (hr : (rootsA tas).Nodup) (hf : ∀ (j : Nat) (ty : Wy), tas[j]? = some (.v ty) → ty.free (rootsA tas) = true) (ht : takeAs τ as = some ts)
    (Q : Qs Z Ns σ h τ tas ds as q) (hk : pio.length = k) (hd : pd.length = k) (hT : pt.length = k)
    (hp : ∀ (j : Nat) (d : D) (t : T), j < k → pd[j]? = some d → pt[j]? = some t → j = 0 ∧ pio[j]? = some .i ∧ Val Z (Yc Y Ns N (borA tas)) (Nq k Nf q) h .I d t Nf) :
    Fr Z Y Ns h N Nf (borA tas) (pio ++ io) (pd ++ ds) (pt ++ ts) (Nq k Nf q) := by
  obtain ⟨l1, l2⟩ := K.len
  have l3 := ioOk_len hio
  obtain ⟨l4, tk⟩ := takeAs_get ht
  have hi0 : ∀ j, j < k → ∃ d t, pd[j]? = some d ∧ pt[j]? = some t ∧ (j = 0 ∧ pio[j]? = some .i ∧ Val Z (Yc Y Ns N (borA tas)) (Nq k Nf q) h .I d t Nf) := fun j lj => by
    have e1 : pd[j]? = some (pd[j]'(by omega)) := List.getElem?_eq_getElem _
    have e2 : pt[j]? = some (pt[j]'(by omega)) := List.getElem?_eq_getElem _
    exact ⟨_, _, e1, e2, hp j _ _ lj e1 e2⟩
  have sh : ∀ {α : Type} (a b : List α) (j : Nat), a.length = k → ¬ j < k → (a ++ b)[j]? = b[j - k]? := fun a b j e c => by rw [List.getElem?_append_right (by omega), e]
  have sl : ∀ {α : Type} (a b : List α) (j : Nat), a.length = k → j < k → (a ++ b)[j]? = a[j]? := fun a b j e c => List.getElem?_append_left (by omega)
  have bs : ∀ (j : Nat) (r : Nat), tas[j]? = some (.p r) → r ∉ borA tas := fun j r e q => by
    obtain ⟨j2, rs, e2, q2⟩ := borA_of q
    exact free_dj (hf j2 _ e2) r q2 (rootsA_mem e)
  refine ⟨by simp [hk, hd, l1, l3], by simp [hk, hT, l4, l2, l3], fun j d t e1 e2 e3 => ?_, fun j d t e1 e2 e3 => ?_, fun j d t e1 e2 e3 => ?_, fun j n hn => ?_, fun j => ?_, fun i j n hi hj => ?_⟩
  · by_cases c : j < k
    · obtain ⟨_, _, _, _, rfl, ei, _⟩ := hi0 j c
      rw [sl pio io _ hk c, ei] at e1
      cases e1
    · rw [sh pio io j hk c] at e1
      rw [sh pd ds j hd c] at e2
      rw [sh pt ts j hT c] at e3
      rcases ioOk_get hio e1 with ⟨_, ty, ea, ni⟩ | ⟨e, _⟩
      · obtain ⟨d', a, f1, f2, A⟩ := K.get ea
        rw [e2] at f1
        cases f1
        cases a with
        | p _ _ => exact A.elim
        | v t' =>
          obtain ⟨ni, N1, v, s1⟩ := A
          obtain ⟨t2, g1, g2⟩ := tk _ _ f2
          rw [e3] at g1
          cases g1
          cases g2
          cases ty with
          | F => exact v.1.mono (fun _ z => z) (fun _ z => .inl z) (fun _ _ => rfl) fun _ _ => rfl
          | O => exact W.rp v fun n hn => .inr (.inl (.inr (.inl (s1 n hn))))
          | B rs =>
            refine Rp.mono (fun _ z => z) (fun n u => ?_) (fun _ _ => rfl) (fun _ _ => rfl) v
            rcases u with u | u | ⟨r, hr, u⟩
            · exact .inl u
            · exact .inr (.inl (.inl u))
            · exact .inr (.inl (.inr (.inr ⟨r, borA_mem ea hr, u⟩)))
          | I => exact absurd rfl ni
      · cases e
  · by_cases c : j < k
    · obtain ⟨_, _, _, _, rfl, ei, _⟩ := hi0 j c
      rw [sl pio io _ hk c, ei] at e1
      cases e1
    · rw [sh pio io j hk c] at e1
      rw [sh pd ds j hd c] at e2
      rw [sh pt ts j hT c] at e3
      rcases ioOk_get hio e1 with ⟨e, _⟩ | ⟨_, r, ea, _⟩
      · cases e
      · obtain ⟨d', a, f1, f2, A⟩ := K.get ea
        cases a with
        | v _ => exact A.elim
        | p r' s =>
          obtain ⟨rfl, _⟩ := A
          obtain ⟨d0, t0, u, d2, a1, a2, a3, a4, a5, P⟩ := (Q _).1 _ _ f2
          rw [e2] at a2
          cases a2
          obtain ⟨t2, g1, g2⟩ := tk _ _ f2
          rw [e3] at g1
          cases g1
          simp only [takeA, getR, a4, a5] at g2
          cases g2
          unfold Nq
          rw [if_neg c]
          exact P.w
  · by_cases c : j < k
    · obtain ⟨d', t', f1, f2, rfl, ei, v⟩ := hi0 j c
      rw [sl pd ds _ hd c, f1] at e2
      rw [sl pt ts _ hT c, f2] at e3
      cases e2
      cases e3
      have : Nq k Nf q 0 = Nf := by unfold Nq; rw [if_pos c]; rfl
      rw [this]
      exact v
    · rw [sh pio io j hk c] at e1
      rcases ioOk_get hio e1 with ⟨e, _⟩ | ⟨e, _⟩ <;> cases e
  · unfold Nq at hn
    by_cases c : j < k
    · rw [if_pos c] at hn
      by_cases c0 : j = 0
      · rw [if_pos c0] at hn; exact .inr hn
      · rw [if_neg c0] at hn; cases hn
    · rw [if_neg c] at hn
      obtain ⟨r, s, d0, t0, u, d, a1, a2, _, _, _, _, _, hm⟩ := q_sub Q hn
      exact .inl ⟨r, bs _ r a2, hm⟩
  · unfold Nq
    split
    · split
      · exact p.right.nd
      · exact List.nodup_nil
    · by_cases c : (q (j - k)).2.1 = []
      · rw [c]; exact List.nodup_nil
      · obtain ⟨n, hn⟩ := List.exists_mem_of_ne_nil _ c
        obtain ⟨r, s, d0, t0, u, d, a1, a2, _, _, _, _, P, hm⟩ := q_sub Q hn
        have := I.nd r
        rw [P.e] at this
        exact (List.nodup_append.mp (List.nodup_append.mp this).1).2.1
  · unfold Nq at hi hj
    by_cases c : i < k
    · rw [if_pos c] at hi
      by_cases c0 : i = 0
      · rw [if_pos c0] at hi
        by_cases c2 : j < k
        · rw [if_pos c2] at hj
          by_cases c3 : j = 0
          · rw [c0, c3]
          · rw [if_neg c3] at hj; cases hj
        · rw [if_neg c2] at hj
          obtain ⟨r, s, d0, t0, u, d, a1, a2, _, _, _, _, _, hm⟩ := q_sub Q hj
          exact absurd hm ((p.right.ow n hi).2.2.2 r)
      · rw [if_neg c0] at hi; cases hi
    · rw [if_neg c] at hi
      obtain ⟨r, s, d0, t0, u, d, a1, a2, _, _, _, _, _, hm⟩ := q_sub Q hi
      by_cases c2 : j < k
      · rw [if_pos c2] at hj
        by_cases c3 : j = 0
        · rw [if_pos c3] at hj
          exact absurd hm ((p.right.ow n hj).2.2.2 r)
        · rw [if_neg c3] at hj; cases hj
      · rw [if_neg c2] at hj
        obtain ⟨r', s', _, _, _, _, b1, b2, _, _, _, _, _, hm'⟩ := q_sub Q hj
        have er := I.dj r r' n hm hm'
        subst er
        have := rootsA_inj hr a2 b2
        omega
/-- the caller's own, behind a call -/
def N2 (tas : List TA) (q : Nat → List Nat × List Nat × List Nat) (M : Os) (Ns : Os) : Os := fun r => match (List.range tas.length).find? fun j => decide (tas[j]? = some (.p r)) with
  | some j => (q j).1 ++ M j ++ (q j).2.2
  | none => Ns r
theorem N2_at {M : Os} {j r : Nat} (hr : (rootsA tas).Nodup) (e : tas[j]? = some (.p r)) : N2 tas q M Ns r = (q j).1 ++ M j ++ (q j).2.2 := by
  unfold N2
  have lj : j < tas.length := (List.getElem?_eq_some_iff.mp e).1
  cases f : (List.range tas.length).find? fun j => decide (tas[j]? = some (.p r)) with
  | none =>
    rw [List.find?_eq_none] at f
    have := f j (by simpa using lj)
    simp [e] at this
  | some j' =>
    have := List.find?_some f
    simp at this
    rw [rootsA_inj hr this e]
theorem N2_ne {M : Os} {r : Nat} (e : r ∉ rootsA tas) : N2 tas q M Ns r = Ns r := by
  unfold N2
  cases f : (List.range tas.length).find? fun j => decide (tas[j]? = some (.p r)) with
  | none => rfl
  | some j' =>
    have := List.find?_some f
    simp at this
    exact absurd (rootsA_mem this) e
theorem rootsA_of : ∀ {as : List TA} {r : Nat}, r ∈ rootsA as → ∃ (j : Nat), as[j]? = some (TA.p r)
  | [], _, e => by simp [rootsA] at e
  | .v _ :: as, r, e => by
    obtain ⟨j, e1⟩ := rootsA_of (as := as) (r := r) e
    exact ⟨j + 1, by simpa using e1⟩
  | .p i :: as, r, e => by
    simp [rootsA] at e
    rcases e with rfl | e
    · exact ⟨0, rfl⟩
    · obtain ⟨j, e1⟩ := rootsA_of (as := as) (r := r) e
      exact ⟨j + 1, by simpa using e1⟩
theorem after {k : Nat} {pio : List Pm} {pd : List D} {Z' : Nat → Prop} {Nc' : Os} {h' : Hh} {N' : List Nat} {τ' τ2 : Sm} (I : Inv Z Y Γ Ns σ τ h) (x : Xok X Y Z Ns h) (K : AL Z Y Ns σ h τ N tas ds as) (p : Tmp Z Y Ns h (N ++ Nf)) (nx : ∀ n, n ∈ N ++ Nf → ¬ X n) (hio : ioOk Γ io tas = true) (hr : (rootsA tas).Nodup) (hf : ∀ (j : Nat) (ty : Wy), tas[j]? = some (.v ty) → ty.free (rootsA tas) = true)
    (Q : Qs Z Ns σ h τ tas ds as q) (hk : pio.length = k) (hd : pd.length = k)
    (J : Inv Z' (Yc Y Ns N (borA tas)) (gamO (pio ++ io)) Nc' ((pd ++ ds).map some) τ' h') (L : Lf X Y Z Ns h N (Nq k Nf q) Z' Nc' h' N') (pt : ∀ n, n ∈ N' → ∀ j, n ∉ Nc' j) (hw : wb io as (outs io (τ'.drop k)) τ = some τ2) :
    Nx X Y Z Γ Ns σ τ h (rootsA tas) [] (zN Z' N) (N2 tas q (fun j => Nc' (k + j)) Ns) τ2 h' ∧ (∀ i n, n ∈ N2 tas q (fun j => Nc' (k + j)) Ns i → n ∉ N' ∧ (∀ j, j < k → n ∉ Nc' j)) ∧ (∀ n, n ∈ N → n ∉ N' ∧ ∀ j, n ∉ Nc' j) ∧ (∀ j n, n ∈ Nc' j → ¬ X n) := by
  obtain ⟨l1, l2⟩ := K.len
  have l3 := ioOk_len hio
  have pl := p.left
  have bs : ∀ (j : Nat) (r : Nat), tas[j]? = some (.p r) → r ∉ borA tas := fun j r e q => by
    obtain ⟨j2, rs, e2, q2⟩ := borA_of q
    exact free_dj (hf j2 _ e2) r q2 (rootsA_mem e)
  -- what is focused on
  have fc : ∀ (i n : Nat), n ∈ Ns i → (∀ (j : Nat), tas[j]? = some (.p i) → n ∉ (q j).2.1) → ∀ j, n ∉ Nq k Nf q j := fun i n hn hc j hj => by
    unfold Nq at hj
    by_cases c : j < k
    · rw [if_pos c] at hj
      by_cases c0 : j = 0
      · rw [if_pos c0] at hj; exact (p.right.ow n hj).2.2.2 i hn
      · rw [if_neg c0] at hj; cases hj
    · rw [if_neg c] at hj
      obtain ⟨r, s, d0, t0, u, d, a1, a2, _, _, _, _, _, hm⟩ := q_sub Q hj
      have := I.dj i r n hn hm
      subst this
      exact hc _ a2 hj
  -- one that goes in and out
  have one : ∀ (j r : Nat), tas[j]? = some (.p r) → ∃ (s : List Stp) (d0 : D) (t0 u : T) (d : D) (o : T), as[j]? = some (.p r s) ∧ io[j]? = some .o ∧ ds[j]? = some d ∧ σ[r]? = some (some d0) ∧ τ[r]? = some (some t0) ∧ AtP Z h d0 t0 (Ns r) s u d (q j).1 (q j).2.1 (q j).2.2 ∧ (τ'.drop k)[j]? = some (some o) ∧ W Z' h' d o (Nc' (k + j)) ∧ Γ[r]? = some (some .O) := fun j r e => by
    obtain ⟨d, a, f1, f2, A⟩ := K.get e
    cases a with
    | v _ => exact A.elim
    | p r' s =>
      obtain ⟨rfl, _⟩ := A
      obtain ⟨d0, t0, u, d2, a1, a2, a3, a4, a5, P⟩ := (Q j).1 _ _ f2
      rw [f1] at a2
      cases a2
      have lj : j < io.length := by rw [← l3]; exact (List.getElem?_eq_some_iff.mp e).1
      have ei : io[j]? = some io[j] := List.getElem?_eq_getElem lj
      rcases ioOk_get hio ei with ⟨_, ty, ea, _⟩ | ⟨eo, r2, ea, ho⟩
      · rw [e] at ea; cases ea
      · rw [e] at ea
        cases ea
        rw [eo] at ei
        have eg : (gamO (pio ++ io))[k + j]? = some (some .O) := by
          unfold gamO
          rw [List.getElem?_map, List.getElem?_append_right (by omega), hk, Nat.add_sub_cancel_left, ei]; rfl
        obtain ⟨d', o, g1, g2, w⟩ := J.val _ _ eg
        rw [List.getElem?_map, List.getElem?_append_right (by omega), hd, Nat.add_sub_cancel_left, f1] at g1
        simp at g1
        subst g1
        exact ⟨s, d0, t0, u, d, o, f2, ei, f1, a3, a4, P, by rw [List.getElem?_drop]; exact g2, w, ho⟩
  -- A and B of it
  have AB : ∀ (j r n : Nat), tas[j]? = some (.p r) → n ∈ (q j).1 ++ (q j).2.2 → n ∈ Ns r ∧ (∀ j, n ∉ Nq k Nf q j) := fun j r n e hn => by
    obtain ⟨s, d0, t0, u, d, o, _, _, _, _, _, P, _⟩ := one j r e
    have inN : n ∈ Ns r := by rw [P.e]; simp at hn ⊢; rcases hn with hn | hn <;> simp [hn]
    refine ⟨inN, fc r n inN fun j2 e2 hm => ?_⟩
    have := rootsA_inj hr e e2
    subst this
    have nd := I.nd r
    rw [P.e] at nd
    rw [List.nodup_append] at nd
    obtain ⟨n1, n2, n3⟩ := nd
    rw [List.nodup_append] at n1
    rcases List.mem_append.mp hn with q | q
    · exact n1.2.2 n q n hm rfl
    · exact n3 n (List.mem_append_right _ hm) n q rfl
  obtain ⟨wl, wn, wa⟩ := wb_get hw (by omega) (fun j ej => by
    have lj : j < io.length := (List.getElem?_eq_some_iff.mp ej).1
    rcases ioOk_get hio ej with ⟨e, _⟩ | ⟨_, r, ea, _⟩
    · cases e
    · obtain ⟨_, _, _, _, _, o, _, _, _, _, _, _, eo, _⟩ := one j r ea
      exact ⟨o, eo⟩) (fun i j r s s' a b => by
    have ti := (Q i).1 _ _ a
    have tj := (Q j).1 _ _ b
    obtain ⟨_, _, _, _, a1, _⟩ := ti
    obtain ⟨_, _, _, _, b1, _⟩ := tj
    exact rootsA_inj hr a1 b1)
  have nr : ∀ i, i ∉ rootsA tas → ∀ (j : Nat) (s : List Stp), as[j]? ≠ some (.p i s) := fun i hi j s e => by
    obtain ⟨_, _, _, _, a1, _⟩ := (Q j).1 _ _ e
    exact hi (rootsA_mem a1)
  -- nodes of the new slots
  have nod : ∀ (i n : Nat), n ∈ N2 tas q (fun j => Nc' (k + j)) Ns i → (∃ j, tas[j]? = some (.p i) ∧ n ∈ Nc' (k + j)) ∨ (n ∈ Ns i ∧ ∀ j, n ∉ Nq k Nf q j) := fun i n hn => by
    by_cases c : i ∈ rootsA tas
    · obtain ⟨j, e⟩ := rootsA_of c
      rw [N2_at hr e] at hn
      simp only [List.mem_append] at hn
      rcases hn with (hn | hn) | hn
      · exact .inr (AB j i n e (by simp [hn]))
      · exact .inl ⟨j, e, hn⟩
      · exact .inr (AB j i n e (by simp [hn]))
    · rw [N2_ne c] at hn
      exact .inr ⟨hn, fc i n hn fun j e => absurd (rootsA_mem e) c⟩
  have ncX : ∀ j n, n ∈ Nc' j → ¬ X n := fun j n hn q => (L.xs n q).2.2.1 j hn
  have g : Gr X Y Z Ns h (zN Z' N) (N2 tas q (fun j => Nc' (k + j)) Ns) h' (rootsA tas) := by
    refine ⟨L.len, L.zs, fun n y => (L.ys n y).1, fun n qx => ⟨(L.xs n qx).1, fun z => ?_, fun i hi => ?_⟩, fun i hi n hn => ?_, fun n z => .inl (L.zz n z), fun n y z => ?_⟩
    · rcases z with z | z
      · exact (L.xs n qx).2.1 z
      · exact nx n (List.mem_append_left _ z) qx
    · rcases nod i n hi with ⟨j, _, hn⟩ | ⟨hn, _⟩
      · exact ncX _ n hn qx
      · exact (x n qx).2.2.2 i hn
    · have := L.os i n hn (fc i n hn fun j e => absurd (rootsA_mem e) hi)
      exact ⟨this.1, .inl (by rw [N2_ne hi]; exact hn)⟩
    · rcases z with z | z
      · exact (L.ys n y).2 z
      · exact absurd y (pl.ow n z).2.2.1
  refine ⟨⟨⟨by rw [wl]; exact I.ln, by rw [inval_len]; exact I.lg, fun i ty e => ?_, fun i => ?_, fun i j n hi hj => ?_, fun i n hn => ?_, fun n z => ?_, fun n y => Nat.lt_of_lt_of_le (I.yl n y) L.len⟩, g, fun i hi => ⟨N2_ne hi, wn i (nr i hi)⟩⟩, fun i n hn => ?_, fun n hn => ⟨(L.ns n hn).2.2, (L.ns n hn).2.1⟩, ncX⟩
  · obtain ⟨ea, _, fr⟩ := inval_some e
    obtain ⟨d, t, q1, q2, v⟩ := I.val i ty ea
    by_cases c : i ∈ rootsA tas
    · obtain ⟨j, ej⟩ := rootsA_of c
      obtain ⟨s, d0, t0, u, d, o, b1, b2, b3, b4, b5, P, b6, wo, ho⟩ := one j i ej
      rw [ho] at ea
      cases ea
      refine ⟨d0, setP t0 s o, b4, wa j i s t0 o b1 b2 b5 b6, ?_⟩
      rw [N2_at hr ej]
      refine P.put (zN Z' N) h' o _ (fun n z => .inl (L.zz n z)) L.zs (fun n hn => ?_) (W.mono (fun _ z => .inl z) (fun _ _ => rfl) wo fun _ _ => rfl)
      obtain ⟨i1, i2⟩ := AB j i n ej hn
      exact (L.os i n i1 i2).1
    · refine ⟨d, t, q1, by rw [wn i (nr i c)]; exact q2, ?_⟩
      rw [N2_ne c]
      exact v.go g fr fun n hn => (L.os i n hn (fc i n hn fun j e => absurd (rootsA_mem e) c)).1
  · by_cases c : i ∈ rootsA tas
    · obtain ⟨j, e⟩ := rootsA_of c
      rw [N2_at hr e]
      obtain ⟨s, d0, t0, u, d, o, _, _, _, _, _, P, _⟩ := one j i e
      have nd := I.nd i
      rw [P.e] at nd
      rw [List.nodup_append] at nd
      obtain ⟨n1, n2, n3⟩ := nd
      rw [List.nodup_append] at n1
      have dis : ∀ n, n ∈ (q j).1 ++ (q j).2.2 → n ∉ Nc' (k + j) := fun n hn => by
        obtain ⟨i1, i2⟩ := AB j i n e hn
        exact (L.os i n i1 i2).2.2.1 _
      refine List.nodup_append.mpr ⟨List.nodup_append.mpr ⟨n1.1, J.nd _, fun a ha b hb z => dis a (by simp [ha]) (z ▸ hb)⟩, n2, fun a ha b hb z => ?_⟩
      rcases List.mem_append.mp ha with ha | ha
      · exact n3 a (List.mem_append_left _ ha) b hb z
      · exact dis b (by simp [hb]) (z ▸ ha)
    · rw [N2_ne c]; exact I.nd i
  · rcases nod i n hi with ⟨j1, e1, m1⟩ | ⟨m1, c1⟩
    · rcases nod j n hj with ⟨j2, e2, m2⟩ | ⟨m2, c2⟩
      · have := J.dj _ _ n m1 m2
        have : j1 = j2 := by omega
        subst this
        rw [e1] at e2
        cases e2
        rfl
      · exact absurd m1 ((L.os j n m2 c2).2.2.1 _)
    · rcases nod j n hj with ⟨j2, e2, m2⟩ | ⟨m2, c2⟩
      · exact absurd m2 ((L.os i n m1 c1).2.2.1 _)
      · exact I.dj i j n m1 m2
  · rcases nod i n hn with ⟨j1, e1, m1⟩ | ⟨m1, c1⟩
    · obtain ⟨a, b, c⟩ := J.ow _ n m1
      refine ⟨fun z => ?_, fun y => b (.inl y), c⟩
      rcases z with z | z
      · exact a z
      · exact b (.inr (.inl z))
    · obtain ⟨a, b, c⟩ := I.ow i n m1
      refine ⟨fun z => ?_, b, Nat.lt_of_lt_of_le c L.len⟩
      rcases z with z | z
      · exact (L.os i n m1 c1).2.1 z
      · exact (pl.ow n z).2.2.2 i m1
  · rcases z with z | z
    · exact J.zl n z
    · exact Nat.lt_of_lt_of_le (pl.ow n z).1 L.len
  · rcases nod i n hn with ⟨j1, e1, m1⟩ | ⟨m1, c1⟩
    · exact ⟨fun z => pt n z _ m1, fun j lj hj => by have := J.dj _ _ n m1 hj; omega⟩
    · exact ⟨(L.os i n m1 c1).2.2.2, fun j _ => (L.os i n m1 c1).2.2.1 j⟩
/-- a call -/
theorem call_ok {Z1 : Nat → Prop} {Ns1 : Os} {τ1 : Sm} {h1 : Hh} {w m w2 m2 : List Nat} {ty : Wy} {f : GFn} (n : Nx X Y Z Γ Ns σ τ h w m Z1 Ns1 τ1 h1) (x : Xok X Y Z Ns h) (K : AL Z1 Y Ns1 σ h1 τ1 N tas ds as) (p : Tmp Z1 Y Ns1 h1 N) (nx : ∀ n, n ∈ N → ¬ X n) (e : callS f.io f.rk tas Γ w m = some (ty, w2, m2)) :
    Pst X Y Z Γ Ns σ τ h w2 m2 (KV X Y ty) (f.run ds h1) (callV f as τ1) := by
  unfold callS at e
  dsimp only at e
  split at e
  · rename_i c
    simp only [Bool.and_eq_true, decide_eq_true_eq, List.all_eq_true] at c
    obtain ⟨⟨hio, hr⟩, hf'⟩ := c
    cases er : resTy f.rk tas with
    | none => rw [er] at e; cases e
    | some z =>
      rw [er] at e
      cases e
      have hf : ∀ (j : Nat) (ty : Wy), tas[j]? = some (.v ty) → ty.free (rootsA tas) = true := fun j ty q => hf' _ (List.mem_of_getElem? q)
      unfold callV
      cases ht : takeAs τ1 as with
      | none => exact trivial
      | some ts =>
        dsimp only
        obtain ⟨q, Q⟩ := qs_of K
        have p0 : Tmp Z1 Y Ns1 h1 (N ++ []) := by simpa using p
        have nx0 : ∀ n, n ∈ N ++ [] → ¬ X n := by simpa using nx
        have F : Fr Z1 Y Ns1 h1 N [] (borA tas) f.io ds ts (Nq 0 [] q) := by
          have := fr_of (k := 0) (pio := []) (pd := []) (pt := []) n.inv K p0 hio hr hf ht Q rfl rfl rfl (fun j d t l => by omega)
          simpa using this
        have C := call_core f.ok n.inv (n.xok x) p0 nx0 F
        cases eg : f.tree ts with
        | bad => exact trivial
        | exc c xs os =>
          rw [eg] at C
          obtain ⟨h', Z', Nc', τ', e1, fl, J, eo, L⟩ := C
          dsimp only
          cases ew : wb f.io as os τ1 with
          | none => exact trivial
          | some τ2 =>
            obtain ⟨nn, _⟩ := after (k := 0) (pio := []) (pd := []) n.inv (n.xok x) K p0 nx0 hio hr hf Q rfl rfl (by simpa using J) L (fun n hn => by cases hn) (by rw [← eo] at ew; simpa using ew)
            exact ⟨h', _, _, e1, fl, n.trans nn⟩
        | ok t os =>
          rw [eg] at C
          obtain ⟨d, h', Z', Nc', N', τ', e1, J, eo, L, v, pt⟩ := C
          dsimp only
          cases ew : wb f.io as os τ1 with
          | none => exact trivial
          | some τ2 =>
            obtain ⟨nn, dj, dn, _⟩ := after (k := 0) (pio := []) (pd := []) n.inv (n.xok x) K p0 nx0 hio hr hf Q rfl rfl (by simpa using J) L (fun n hn => (pt.ow n hn).2.2.2) (by rw [← eo] at ew; simpa using ew)
            refine ⟨d, h', _, _, e1, n.trans nn, ?_⟩
            have T : Tmp (zN Z' N) Y (N2 tas q (fun j => Nc' (0 + j)) Ns1) h' N' := ⟨pt.nd, fun k hk => ⟨(pt.ow k hk).1, fun z => by
              rcases z with z | z
              · exact (pt.ow k hk).2.1 z
              · exact (pt.ow k hk).2.2.1 (.inr (.inl z)), fun y => (pt.ow k hk).2.2.1 (.inl y), fun i hi => (dj i k hi).1 hk⟩⟩
            have nX : ∀ k, k ∈ N' → ¬ X k := fun k hk q => (L.xs k q).2.2.2 hk
            unfold resTy at er
            split at er
            · rename_i er'
              rw [er'] at v
              cases er
              exact ⟨by decide, [], ⟨v.1.mono (fun _ z => .inl z) (fun _ z => .inl z) (fun _ _ => rfl) fun _ _ => rfl, v.2⟩, .nil, fun n hn => by cases hn⟩
            · rename_i er'
              rw [er'] at v
              cases er
              exact ⟨by decide, N', W.mono (fun _ z => .inl z) (fun _ _ => rfl) v fun _ _ => rfl, T, nX⟩
            · rename_i er'
              rw [er'] at v
              cases er
              refine ⟨by simp, [], ?_, .nil, fun n hn => by cases hn⟩
              refine Rp.mono (fun _ z => .inl z) (fun n u => ?_) (fun _ _ => rfl) (fun _ _ => rfl) v
              rcases u with u | (u | u | ⟨r, hr2, u⟩) | ⟨r, hr2, _⟩
              · exact .inl (.inl u)
              · exact .inr (.inl u)
              · exact .inl (.inr u)
              · have c : r ∉ rootsA tas := fun z => by
                  obtain ⟨j2, rs, e2, q2⟩ := borA_of hr2
                  exact free_dj (hf j2 _ e2) r q2 z
                exact .inr (.inr ⟨r, hr2, by rw [N2_ne c]; exact u⟩)
              · cases hr2
            · cases er
  · cases e
end
end L3

namespace L3
open PySem L2
section
variable {α β γ δ : Type} {X X' Y Z Z1 Z2 : Nat → Prop} {Γ Γ' : G} {Ns Ns1 Ns2 : Os} {σ : Sl} {τ τ1 τ2 : Sm} {h h1 h2 : Hh} {w m w1 m1 w2 m2 wf mf : List Nat} {K : (Nat → Prop) → Os → Hh → α → β → Sm → Prop} {K2 : (Nat → Prop) → Os → Hh → γ → δ → Sm → Prop} {r : Res α} {q : Q β} {a b c e es kes o it test elt : VE}
theorem Nx.comp (n : Nx X Y Z Γ Ns σ τ h w1 m1 Z1 Ns1 τ1 h1) (k : Nx X' Y Z1 Γ' Ns1 σ τ1 h1 w2 m2 Z2 Ns2 τ2 h2) (sX : ∀ n, X n → X' n) (sw : ∀ i, i ∈ w1 ++ w2 → i ∈ wf) (sΓ : ∀ (i : Nat) (ty : Wy), (inval Γ wf mf)[i]? = some (some ty) → (inval Γ' w2 m2)[i]? = some (some ty)) : Nx X Y Z Γ Ns σ τ h wf mf Z2 Ns2 τ2 h2 where
  inv := k.inv.less (by have := n.inv.lg; rw [inval_len] at this ⊢; exact this) sΓ
  gr := (n.gr.trans (k.gr.lessX sX)).mono sw
  fx := fun i hi => by
    have x := n.fx i fun z => hi (sw i (List.mem_append_left _ z))
    have y := k.fx i fun z => hi (sw i (List.mem_append_right _ z))
    exact ⟨y.1.trans x.1, y.2.trans x.2⟩
theorem Pst.go {f : α → Hh → Res γ} {g : β → Sm → Q δ} (n : Nx X Y Z Γ Ns σ τ h w1 m1 Z1 Ns1 τ1 h1) (P : Pst X' Y Z1 Γ' Ns1 σ τ1 h1 w2 m2 K r q) (sX : ∀ n, X n → X' n) (sw : ∀ i, i ∈ w1 ++ w2 → i ∈ wf) (sΓ : ∀ (i : Nat) (ty : Wy), (inval Γ wf mf)[i]? = some (some ty) → (inval Γ' w2 m2)[i]? = some (some ty))
    (c : ∀ Z2 Ns2 h2 a b τ2, Nx X' Y Z1 Γ' Ns1 σ τ1 h1 w2 m2 Z2 Ns2 τ2 h2 → K Z2 Ns2 h2 a b τ2 → Pst X Y Z Γ Ns σ τ h wf mf K2 (f a h2) (g b τ2)) : Pst X Y Z Γ Ns σ τ h wf mf K2 (r.bind f) (q.bind g) := by
  cases q with
  | bad => exact trivial
  | exc c ts τ' =>
    obtain ⟨h', Z', Ns', rfl, fl, k⟩ := P
    exact ⟨h', Z', Ns', rfl, fl, n.comp k sX sw sΓ⟩
  | ok b τ' =>
    obtain ⟨a, h', Z', Ns', rfl, k, kk⟩ := P
    exact c Z' Ns' h' a b τ' k kk
theorem callS_ws {io : List Pm} {rk ty : Wy} {tas : List TA} (e : callS io rk tas Γ w m = some (ty, wf, mf)) : wf = w ++ rootsA tas ∧ mf = m ++ [] := by
  unfold callS at e
  dsimp only at e
  split at e
  · cases er : resTy rk tas with
    | none => rw [er] at e; cases e
    | some z => rw [er] at e; cases e; exact ⟨rfl, rfl⟩
  · cases e
theorem args_ok {bb : Option (List Ar)} {tas tzs tx : List TA} {ds zs : List D} {as az ax : List VA} {N : List Nat} {f : Fn} (k : AL Z Y Ns σ h τ N tas ds as) (kz : AL Z Y Ns σ h τ N tzs zs az) (e1 : argsS bb tas tzs = some tx) (e2 : argsV bb as az = some ax) : ∃ xs, argsR bb ds zs f h = f xs h ∧ AL Z Y Ns σ h τ N tx xs ax := by
  cases bb with
  | none => cases e1; cases e2; exact ⟨ds, rfl, k⟩
  | some b =>
    obtain ⟨xs, e, q⟩ := AL.pick k kz e1 e2
    exact ⟨xs, by simp only [argsR, e], q⟩
theorem sndV_call (f : GFn) (y : Str) (bb : Option (List Ar)) (ks : List Str) (E : SndV es) (F : SndV kes) : SndV (.call f y bb es ks kes) := by
  refine .of rfl rfl rfl ?_
  intro X Y Z Γ Ns σ τ h ty wf mf I x e
  dsimp only at e
  split at e
  · rename_i tas tzs w m e2
    split at e
    · rename_i tx ea
      unfold twoV' at e2
      split at e2
      · cases e2
      · rename_i t1 w1 m1 e1
        split at e2
        · cases e2
        · rename_i t2 w2 m2 e3
          split at e2
          · rename_i fr
            cases e2
            obtain ⟨rfl, rfl⟩ := callS_ws e
            refine (E.a I x e1).step (fun i hi => by simp [hi]) (fun i ty q => inval_left i ty (inval_left i ty q)) fun Z1 Ns1 h1 ds as τ1 n ka => ?_
            obtain ⟨N, ka, p, nx⟩ := ka
            refine Pst.go n (F.a n.inv (p.xok (n.xok x)) e3) (fun _ q => .inl q) (fun i hi => by simp at hi ⊢; rcases hi with hi | hi <;> simp [hi]) (fun i ty q => inval_app i ty (inval_left i ty q)) fun Z2 Ns2 h2 zs az τ2 k kz => ?_
            obtain ⟨N2, k1, k2, p2, nx2⟩ := KA.and ka p nx k fr kz
            cases ev : argsV bb as az with
            | none => exact trivial
            | some ax =>
              obtain ⟨xs, e5, al⟩ := args_ok (f := f.run) (k1.al.mono fun n hn => List.mem_append_left _ hn) (k2.al.mono fun n hn => List.mem_append_right _ hn) ea ev
              show Pst X Y Z Γ Ns σ τ h _ _ (KV X Y ty) (argsR bb ds zs f.run h2) (callV f ax τ2)
              rw [e5]
              exact call_ok (n.trans (k.lessX fun _ q => .inl q)) x al p2 nx2 e
          · cases e2
    · cases e
  · cases e
theorem cls_ok {ta : TA} {d : D} {va : VA} {N : List Nat} {cc : Nat} (A : A1 Z Y Ns σ h τ N ta d va) (e : clsA τ cc va = true) : ∃ ds, insD d h = some (cc, ds) := by
  unfold clsA at e
  cases ta with
  | v ty =>
    cases va with
    | p _ _ => exact A.elim
    | v t =>
      obtain ⟨ni, N1, v, _⟩ := A
      have r := v.rpT ni
      simp only [takeA] at e
      cases r with
      | ins m y q r => simp [clsT] at e; subst e; exact ⟨_, by simp only [insD, q]; rfl⟩
      | imm m y q r => simp [clsT] at e; subst e; exact ⟨_, by simp only [insD, q]; rfl⟩
      | _ => simp [clsT] at e
  | p r =>
    cases va with
    | v _ => exact A.elim
    | p r' s =>
      obtain ⟨rfl, d0, t0, u, f1, f2, wv, f3, f4⟩ := A
      obtain ⟨d1, A, M, B, P⟩ := W.path s wv f3
      have ed := P.dp h fun _ _ => rfl
      rw [f4] at ed
      cases ed
      simp only [takeA, getR, f2, f3] at e
      have wu := P.w
      cases wu with
      | ins m q r => simp [clsT] at e; subst e; exact ⟨_, by simp only [insD, q]; rfl⟩
      | imm m y q r => simp [clsT] at e; subst e; exact ⟨_, by simp only [insD, q]; rfl⟩
      | _ => simp [clsT] at e
theorem sndV_meth (cc : Nat) (f : GFn) (y : Str) (bb : Option (List Ar)) (ks : List Str) (O : SndV o) (E : SndV es) (F : SndV kes) : SndV (.meth cc f y bb o es ks kes) := by
  refine .of rfl rfl rfl ?_
  intro X Y Z Γ Ns σ τ h ty wf mf I x e
  dsimp only at e
  split at e
  · rename_i tx w1 m1 e1
    split at e
    · rename_i tas tzs w m e2
      split at e
      · rename_i fr
        split at e
        · rename_i tt ea
          unfold twoV' at e2
          split at e2
          · cases e2
          · rename_i t1 w2 m2 e3
            split at e2
            · cases e2
            · rename_i t2 w3 m3 e4
              split at e2
              · rename_i fr2
                cases e2
                obtain ⟨rfl, rfl⟩ := callS_ws e
                have fx1 : freeA w2 [tx] = true := by
                  cases tx with
                  | v ty => simp [freeA, free_app] at fr ⊢; exact fr.1
                  | p r => simp [freeA] at fr ⊢; exact fr.1
                have fx2 : freeA w3 [tx] = true := by
                  cases tx with
                  | v ty => simp [freeA, free_app] at fr ⊢; exact fr.2
                  | p r => simp [freeA] at fr ⊢; exact fr.2
                refine (O.x I x e1).step (fun i hi => by simp [hi]) (fun i ty q => inval_left i ty (inval_left i ty q)) fun Z1 Ns1 h1 d va τ1 n kx => ?_
                obtain ⟨N, ak, p, nx⟩ := kx.ak
                cases ec : clsA τ1 cc va with
                | false => exact trivial
                | true =>
                  obtain ⟨dd, a', e5, e6, A⟩ := ak.get (j := 0) rfl
                  cases e5
                  cases e6
                  obtain ⟨fs, ei⟩ := cls_ok A ec
                  have em : ∀ {γ : Type} (g : Fn → Res γ), methR [(cc, f.run)] d h1 g = g f.run := fun g => by simp [methR, ei, List.lookup]
                  rw [em]
                  show Pst X Y Z Γ Ns σ τ h _ _ (KV X Y ty) (((den (er es)).a σ h1).bind fun ds h2 => ((den (er kes)).a σ h2).bind fun zs h3 => argsR bb (d :: ds) zs f.run h3) (((vd es).a τ1).bind fun as τ2 => ((vd kes).a τ2).bind fun zs τ3 => (opQ (argsV bb (va :: as) zs) τ3).bind fun as τ3 => callV f as τ3)
                  refine Pst.go n (E.a n.inv (p.xok (n.xok x)) e3) (fun _ q => .inl q) (fun i hi => by simp at hi ⊢; rcases hi with hi | hi <;> simp [hi]) (fun i ty q => by
                    have := inval_left i ty q
                    rw [← List.append_assoc, ← List.append_assoc] at this
                    exact inval_app i ty (inval_left i ty this)) fun Z2 Ns2 h2 ds as τ2 k ka => ?_
                  obtain ⟨N2, k1, k2, p2, nx2⟩ := KA.and ak p nx k fx1 ka
                  have n2 : Nx X Y Z Γ Ns σ τ h (w1 ++ w2) (m1 ++ m2) Z2 Ns2 τ2 h2 := n.trans (k.lessX fun _ q => .inl q)
                  refine Pst.go n2 (F.a k.inv (p2.xok (n2.xok x)) e4) (fun _ q => .inl q) (fun i hi => by simp at hi ⊢; rcases hi with hi | hi | hi <;> simp [hi]) (fun i ty q => by
                    obtain ⟨a1, b1, c1⟩ := inval_some (inval_left i ty q)
                    simp only [free_app, List.mem_append, not_or] at b1 c1
                    exact inval_of (inval_of (inval_of a1 b1.1 c1.1) b1.2.1 c1.2.1) b1.2.2 c1.2.2) fun Z3 Ns3 h3 zs az τ3 k3 kz => ?_
                  have fxA : freeA w3 ([tx] ++ tas) = true := by
                    cases tx with
                    | v ty => simp [freeA] at fx2 ⊢; exact ⟨fx2, fr2⟩
                    | p r => simp [freeA] at fx2 ⊢; exact ⟨fx2, fr2⟩
                  obtain ⟨N3, k4, k5, p5, nx5⟩ := KA.and (k1.app k2) p2 nx2 k3 fxA kz
                  cases ev : argsV bb (va :: as) az with
                  | none => exact trivial
                  | some ax =>
                    obtain ⟨xs, e8, al⟩ := args_ok (f := f.run) (k4.al.mono fun n hn => List.mem_append_left N3 hn) (k5.al.mono fun n hn => List.mem_append_right (N ++ N2) hn) ea ev
                    show Pst X Y Z Γ Ns σ τ h _ _ (KV X Y ty) (argsR bb (d :: ds) zs f.run h3) (callV f ax τ3)
                    replace e8 : argsR bb (d :: ds) zs f.run h3 = f.run xs h3 := e8
                    rw [e8]
                    refine call_ok (n2.comp (wf := w1 ++ (w2 ++ w3)) (mf := m1 ++ (m2 ++ m3)) k3 (fun _ q => .inl q) (fun i hi => by simpa using hi) (fun i ty q => ?_)) x al p5 nx5 e
                    obtain ⟨a1, b1, c1⟩ := inval_some q
                    simp only [free_app, List.mem_append, not_or] at b1 c1
                    exact inval_of (inval_of (inval_of a1 b1.1 c1.1) b1.2.1 c1.2.1) b1.2.2 c1.2.2
              · cases e2
        · cases e
      · cases e
    · cases e
  · cases e
theorem sndV_leno (cc : Nat) (f : GFn) (O : SndV o) : SndV (.leno cc f o) := by
  refine .of rfl rfl rfl ?_
  intro X Y Z Γ Ns σ τ h ty wf mf I x e
  dsimp only at e
  split at e
  · rename_i tx w1 m1 e1
    split at e
    · rename_i c
      simp only [Bool.and_eq_true, decide_eq_true_eq] at c
      obtain ⟨⟨ei, ek⟩, ni⟩ := c
      cases e
      refine (O.v I x e1).fin fun Z1 Ns1 h1 d t τ1 n kv => ?_
      obtain ⟨ni', N, v, p, nx⟩ := kv
      have A : A1 Z1 Y Ns1 σ h1 τ1 N (.v tx) d (.v t) := ⟨ni, N, v, fun _ q => q⟩
      cases ec : clsA τ1 cc (.v t) with
      | false => exact trivial
      | true =>
        obtain ⟨fs, eI⟩ := cls_ok A ec
        have em : ∀ {γ : Type} (g : Fn → Res γ), methR [(cc, f.run)] d h1 g = g f.run := fun g => by simp [methR, eI, List.lookup]
        rw [em]
        have call : callS f.io f.rk [.v tx] Γ wf mf = some (.F, wf ++ [], mf ++ []) := by
          unfold callS
          rw [ei, ek]
          have : tx.free [] = true := by cases tx <;> simp [Wy.free]
          simp [ioOk, rootsA, ni, this, resTy]
        have P := call_ok (f := f) n x (AL.cons A .nil) p nx call
        rw [List.append_nil, List.append_nil] at P
        refine P.fin fun Z2 Ns2 h2 d2 t2 τ2 n2 k2 => ?_
        obtain ⟨_, r⟩ := k2.rp
        cases r with
        | int i =>
          simp only [lenR, lenQ]
          split
          · exact .at n2 (.flat0 (t := .int i) rfl)
          · exact trivial
        | _ => exact trivial
    · cases e
  · cases e
theorem pick_self {x y : D} {ds zs : List D} : ∀ {r : List Ar}, (r.all fun | .p 0 => false | _ => true) = true → pickD r (x :: ds) zs = pickD r (y :: ds) zs
  | [], _ => rfl
  | .p 0 :: r, e => by simp at e
  | .p (i + 1) :: r, e => by simp only [pickD, List.getElem?_cons_succ, pick_self (x := x) (y := y) (r := r) (by simpa using e)]
  | .k j :: r, e => by simp only [pickD, pick_self (x := x) (y := y) (r := r) (by simpa using e)]
  | .d z :: r, e => by simp only [pickD, pick_self (x := x) (y := y) (r := r) (by simpa using e)]
/-- with an own object ahead -/
theorem args_self {bb : Option (List Ar)} {tas tzs tx : List TA} {ds zs : List D} {as az ax : List VA} {N : List Nat} {f : Fn} {d0 : D} {h' : Hh} (k : AL Z Y Ns σ h τ N tas ds as) (kz : AL Z Y Ns σ h τ N tzs zs az) (sb : selfB bb = true) (e1 : argsS bb (.v .F :: tas) tzs = some tx) (e2 : argsV bb (.v .non :: as) az = some ax) : ∃ xs, argsR bb (d0 :: ds) zs f h' = f (d0 :: xs) h' ∧ AL Z Y Ns σ h τ N tx.tail xs ax.tail := by
  have k0 : AL Z Y Ns σ h τ N (.v .F :: tas) (.non :: ds) (.v .non :: as) := .cons ⟨by decide, [], ⟨.non, rfl⟩, fun n hn => by cases hn⟩ k
  cases bb with
  | none => cases e1; cases e2; exact ⟨ds, rfl, k⟩
  | some b =>
    cases b with
    | nil => cases sb
    | cons a r =>
      cases a with
      | k j => cases sb
      | d z => cases sb
      | p i =>
        cases i with
        | succ i => cases sb
        | zero =>
          obtain ⟨xs, e, q⟩ := AL.pick k0 kz e1 e2
          simp only [pickD, List.getElem?_cons_zero] at e
          cases q2 : pickD r (.non :: ds) zs with
          | none => rw [q2] at e; cases e
          | some ys =>
            rw [q2] at e
            cases e
            have e3 : pickD r (d0 :: ds) zs = some ys := by rw [pick_self (y := .non) sb]; exact q2
            refine ⟨ys, by simp only [argsR, pickD, List.getElem?_cons_zero, e3, Option.map_some], ?_⟩
            cases tx with
            | nil => cases q.len.1
            | cons t tx =>
              cases ax with
              | nil => cases q.len.2
              | cons a ax => exact q.tail
theorem Nx.alloc {oo : O} (I : Inv Z Y Γ Ns σ τ h) (x : Xok X Y Z Ns h) : Nx X Y Z Γ Ns σ τ h [] [] Z Ns τ (h ++ [oo]) := ⟨I.new.less (by rw [inval_len]; exact I.lg) (inval_nil' Γ), .new I x, fun _ _ => ⟨rfl, rfl⟩⟩
theorem AL.nx {tas : List TA} {ds : List D} {as : List VA} {N : List Nat} (k : AL Z Y Ns σ h τ N tas ds as) (n : Nx X Y Z Γ Ns σ τ h [] [] Z1 Ns1 τ1 h1) (s : ∀ k ∈ N, h1[k]? = h[k]?) : AL Z1 Y Ns1 σ h1 τ1 N tas ds as := ⟨k.len, fun {j ta} e => by
  obtain ⟨d, a, e1, e2, A⟩ := k.get e
  refine ⟨d, a, e1, e2, ?_⟩
  cases ta with
  | v ty =>
    cases a with
    | p _ _ => exact A.elim
    | v t =>
      obtain ⟨ni, N1, v, q⟩ := A
      exact ⟨ni, N1, v.go n.gr (by cases ty <;> simp [Wy.free]) fun k hk => s k (q k hk), q⟩
  | p r =>
    cases a with
    | v _ => exact A.elim
    | p r' s => exact ⟨A.1, A.2.nx n (by simp)⟩⟩
theorem sndV_make (cc : Nat) (f : GFn) (bb : Option (List Ar)) (ks : List Str) (E : SndV es) (F : SndV kes) : SndV (.make cc f bb es ks kes) := by
  refine .of rfl rfl rfl ?_
  intro X Y Z Γ Ns σ τ h ty wf mf I x e
  dsimp only at e
  split at e
  · rename_i tas tzs w m e2
    split at e
    · rename_i tx ea
      split at e
      · rename_i c
        simp only [Bool.and_eq_true, decide_eq_true_eq] at c
        obtain ⟨⟨ei, sb⟩, ek⟩ := c
        cases ec : callS f.io.tail .F tx.tail Γ w m with
        | none => rw [ec] at e; cases e
        | some r =>
          obtain ⟨ty0, w0, m0⟩ := r
          rw [ec] at e
          simp only [Option.map_some, Option.some.injEq, Prod.mk.injEq] at e
          obtain ⟨ety, rfl, rfl⟩ := e
          unfold twoV' at e2
          split at e2
          · cases e2
          · rename_i t1 w1 m1 e1
            split at e2
            · cases e2
            · rename_i t2 w2 m2 e3
              split at e2
              · rename_i fr
                cases e2
                obtain ⟨rfl, rfl⟩ := callS_ws ec
                refine (E.a I x e1).step (fun i hi => by simp [hi]) (fun i ty q => inval_left i ty (inval_left i ty q)) fun Z1 Ns1 h1 ds as τ1 n ka => ?_
                obtain ⟨N0, ka, p, nx⟩ := ka
                refine Pst.go n (F.a n.inv (p.xok (n.xok x)) e3) (fun _ q => .inl q) (fun i hi => by simp at hi ⊢; rcases hi with hi | hi <;> simp [hi]) (fun i ty q => inval_app i ty (inval_left i ty q)) fun Z2 Ns2 h2 zs az τ2 k kz => ?_
                obtain ⟨N2', k1, k2, p2, nx2⟩ := KA.and ka p nx k fr kz
                generalize hN : N0 ++ N2' = N at p2 nx2
                have al1 : AL Z2 Y Ns2 σ h2 τ2 N tas ds as := k1.al.mono fun n hn => by rw [← hN]; exact List.mem_append_left _ hn
                have al2 : AL Z2 Y Ns2 σ h2 τ2 N tzs zs az := k2.al.mono fun n hn => by rw [← hN]; exact List.mem_append_right _ hn
                have n2 : Nx X Y Z Γ Ns σ τ h (w1 ++ w2) (m1 ++ m2) Z2 Ns2 τ2 h2 := n.trans (k.lessX fun _ q => .inl q)
                cases ev : argsV bb (.v .non :: as) az with
                | none => exact trivial
                | some ax =>
                  show Pst X Y Z Γ Ns σ τ h _ _ (KV X Y ty) (makeR cc f.run bb ds zs h2) (makeV cc f ax.tail τ2)
                  obtain ⟨xs, e5, al⟩ := args_self (f := f.run) (d0 := .ref h2.length) (h' := h2 ++ [.ins cc []]) al1 al2 sb ea ev
                  unfold makeR
                  rw [e5]
                  have x2 := n2.xok x
                  have na : Nx X Y Z2 (inval Γ (w1 ++ w2) (m1 ++ m2)) Ns2 σ τ2 h2 [] [] Z2 Ns2 τ2 (h2 ++ [.ins cc []]) := .alloc n2.inv x2
                  have n3 : Nx X Y Z Γ Ns σ τ h (w1 ++ w2) (m1 ++ m2) Z2 Ns2 τ2 (h2 ++ [.ins cc []]) := n2.then na.gr n2.inv.new
                  have al3 : AL Z2 Y Ns2 σ (h2 ++ [.ins cc []]) τ2 N tx.tail xs ax.tail := al.nx na fun k hk => get_app (p2.ow k hk).1
                  have p3 : Tmp Z2 Y Ns2 (h2 ++ [.ins cc []]) (N ++ [h2.length]) := by
                    have q := Tmp.new (o := .ins cc []) p2 n2.inv
                    obtain ⟨q1, q2⟩ := List.nodup_cons.mp q.nd
                    refine ⟨List.nodup_append.mpr ⟨q2, by simp, fun a ha b hb z => ?_⟩, fun k hk => q.ow k (by simp at hk ⊢; rcases hk with hk | hk <;> simp [hk])⟩
                    simp at hb
                    subst hb
                    exact q1 (z ▸ ha)
                  have nx3 : ∀ k, k ∈ N ++ [h2.length] → ¬ X k := fun k hk q => by
                    rcases List.mem_append.mp hk with hk | hk
                    · exact nx2 k hk q
                    · simp at hk; subst hk; have := (x2 _ q).1; omega
                  unfold callS at ec
                  dsimp only at ec
                  split at ec
                  · rename_i c
                    simp only [Bool.and_eq_true, decide_eq_true_eq, List.all_eq_true] at c
                    obtain ⟨⟨hio, hr⟩, hf'⟩ := c
                    have hf : ∀ (j : Nat) (ty : Wy), tx.tail[j]? = some (.v ty) → ty.free (rootsA tx.tail) = true := fun j ty q => hf' _ (List.mem_of_getElem? q)
                    have eio : f.io = [.i] ++ f.io.tail := by
                      cases q : f.io with
                      | nil => rw [q] at ei; cases ei
                      | cons a r => rw [q] at ei; simp at ei; subst ei; rfl
                    unfold makeV
                    cases ht : takeAs τ2 ax.tail with
                    | none => exact trivial
                    | some ts =>
                      dsimp only
                      obtain ⟨q, Q⟩ := qs_of al3
                      have FF : Fr Z2 Y Ns2 (h2 ++ [.ins cc []]) N [h2.length] (borA tx.tail) ([.i] ++ f.io.tail) ([.ref h2.length] ++ xs) ([.ins cc []] ++ ts) (Nq 1 [h2.length] q) := by
                        refine fr_of (k := 1) n3.inv al3 p3 hio hr hf ht Q rfl rfl rfl fun j d t l e1 e2 => ?_
                        have : j = 0 := by omega
                        subst this
                        simp at e1 e2
                        subst e1
                        subst e2
                        exact ⟨rfl, rfl, h2.length, cc, [], [], [], rfl, rfl, rfl, get_new, .nil⟩
                      have S := f.ok
                      rw [eio] at S
                      have C := call_core S n3.inv (n3.xok x) p3 nx3 FF
                      show Pst X Y Z Γ Ns σ τ h _ _ (KV X Y ty) ((f.run ([.ref h2.length] ++ xs) (h2 ++ [.ins cc []])).bind _) _
                      cases eg : f.tree ([.ins cc []] ++ ts) with
                      | bad => simp only [List.singleton_append] at eg; rw [eg]; exact trivial
                      | exc c ys os =>
                        rw [eg] at C
                        obtain ⟨h', Z', Nc', τ', e1, fl, J, eo, L⟩ := C
                        simp only [List.singleton_append] at eg
                        rw [eg]
                        cases os with
                        | nil => exact trivial
                        | cons o os =>
                          dsimp only
                          cases ew : wb f.io.tail ax.tail os τ2 with
                          | none => exact trivial
                          | some τ3 =>
                            have eo2 : outs f.io.tail (τ'.drop 1) = os := by
                              cases τ' with
                              | nil => simp [outs] at eo
                              | cons z τ' =>
                                cases z with
                                | none =>
                                  have g0 : (gamO ([.i] ++ f.io.tail))[0]? = some (some .I) := rfl
                                  obtain ⟨_, _, _, q, _⟩ := J.val 0 _ g0
                                  simp at q
                                | some z => simp [outs] at eo; exact eo.2
                            obtain ⟨nn, _⟩ := after (k := 1) n3.inv (n3.xok x) al3 p3 nx3 hio hr hf Q rfl rfl J L (fun n hn => by cases hn) (by rw [eo2]; exact ew)
                            exact ⟨h', _, _, by rw [e1]; rfl, fl, n3.trans nn⟩
                      | ok t os =>
                        rw [eg] at C
                        obtain ⟨d, h', Z', Nc', N', τ', e1, J, eo, L, v, pt⟩ := C
                        simp only [List.singleton_append] at eg
                        rw [eg]
                        cases t <;> first | exact trivial | skip
                        cases os with
                        | nil => exact trivial
                        | cons o os =>
                          dsimp only
                          split
                          · rename_i cl
                            cases ew : wb f.io.tail ax.tail os τ2 with
                            | none => exact trivial
                            | some τ3 =>
                              have g0 : (gamO ([.i] ++ f.io.tail))[0]? = some (some .I) := rfl
                              obtain ⟨dd, tt, q1, q2, vI⟩ := J.val 0 _ g0
                              simp at q1
                              subst q1
                              obtain ⟨n', c', ds', ts', M, en, et', eN, eh, ws⟩ := vI
                              cases en
                              subst et'
                              have eo2 : o = .ins c' ts' ∧ outs f.io.tail (τ'.drop 1) = os := by
                                cases τ' with
                                | nil => simp at q2
                                | cons z τ' =>
                                  simp at q2
                                  subst q2
                                  simp [outs] at eo
                                  exact ⟨eo.1.symm, eo.2⟩
                              obtain ⟨rfl, eo3⟩ := eo2
                              simp [clsT] at cl
                              subst cl
                              rw [ek] at v
                              have dn : d = .non := by
                                have := v.1
                                cases this
                                rfl
                              subst dn
                              obtain ⟨nn, dj, dn, nX⟩ := after (k := 1) n3.inv (n3.xok x) al3 p3 nx3 hio hr hf Q rfl rfl J L (fun n hn => (pt.ow n hn).2.2.2) (by rw [eo3]; exact ew)
                              have nt := n3.trans nn
                              have T : Tmp (zN Z' N) Y (N2 tx.tail q (fun j => Nc' (1 + j)) Ns2) h' (Nc' 0) := ⟨J.nd 0, fun k hk => by
                                obtain ⟨z1, z2, z3⟩ := J.ow 0 k hk
                                refine ⟨z3, fun z => ?_, fun y => z2 (.inl y), fun i hi => (dj i k hi).2 0 (by omega) hk⟩
                                rcases z with z | z
                                · exact z1 z
                                · exact z2 (.inr (.inl z))⟩
                              have WI : Ws (zN Z' N) h' ds' ts' M := ws.mono (fun _ z => .inl z) (fun _ _ => rfl) fun _ _ => rfl
                              rw [e1]
                              show Pst X Y Z Γ Ns σ τ h _ _ (KV X Y ty) (.ok (.ref h2.length) h') _
                              by_cases im : imm c' = true
                              · rw [if_pos im] at ety
                                subst ety
                                refine .at (nt.then (.frz (nt.xok x) T fun k hk => nX 0 k hk) (nt.inv.frz T)) ⟨by decide, [], ⟨.imm im (.inr (by rw [eN]; simp)) eh ?_, by rw [flat]; exact im⟩, .nil, fun n hn => by cases hn⟩
                                exact (WI.mono (fun _ z => .inl z) (fun _ _ => rfl) fun _ _ => rfl).rp fun k hk => .inr (by rw [eN]; simp [hk])
                              · rw [if_neg im] at ety
                                subst ety
                                refine .at nt ⟨by decide, Nc' 0, ?_, T, fun k hk => nX 0 k hk⟩
                                have : W (zN Z' N) h' (.ref h2.length) (.ins c' ts') (h2.length :: M) := .ins (by simpa using im) eh WI
                                rw [eN]
                                exact this
                          · exact trivial
                  · cases ec
              · cases e2
      · cases e
    · cases e
  · cases e
end
end L3

namespace L3
open PySem L2
section
variable {α β γ δ : Type} {X X' Y Z Z1 Z2 : Nat → Prop} {Γ Γ' : G} {Ns Ns1 Ns2 : Os} {σ : Sl} {τ τ1 τ2 : Sm} {h h1 h2 : Hh} {w m w1 m1 w2 m2 wf mf : List Nat} {a b c e es kes o it test elt : VE}
/-- flat or borrowed -/
def FB : Wy → Bool
  | .F => true
  | .B _ => true
  | _ => false
theorem Val.any {ty : Wy} {d : D} {t : T} {N N' : List Nat} (f : FB ty = true) (v : Val Z Y Ns h ty d t N) : Val Z Y Ns h ty d t N' := by
  cases ty <;> first | exact v | cases f
/-- things held alike -/
def Vals2 (Z Y : Nat → Prop) (Ns : Os) (h : Hh) (ty : Wy) (ds : List D) (ts : List T) : Prop := match ty with
  | .F => Rps Z Z h ds ts ∧ flats ts = true
  | .B rs => Rps Z (U Z Y Ns rs) h ds ts
  | _ => False
theorem Vals2.tup {ty : Wy} {d : D} {ts : List T} {N : List Nat} (f : FB ty = true) (v : Val Z Y Ns h ty d (.tup ts) N) : ∃ ds, d = .tup ds ∧ Vals2 Z Y Ns h ty ds ts := by
  cases ty with
  | F =>
    obtain ⟨r, fl⟩ := v
    cases r with
    | tup r => exact ⟨_, rfl, r, fl⟩
  | B rs =>
    cases v with
    | tup r => exact ⟨_, rfl, r⟩
  | _ => cases f
theorem Vals2.cons {ty : Wy} {ds : List D} {t : T} {ts : List T} (v : Vals2 Z Y Ns h ty ds (t :: ts)) : ∃ d es, ds = d :: es ∧ Val Z Y Ns h ty d t [] ∧ Vals2 Z Y Ns h ty es ts := by
  cases ty with
  | F =>
    obtain ⟨r, fl⟩ := v
    cases r with
    | cons a r =>
      rw [flats, Bool.and_eq_true] at fl
      exact ⟨_, _, rfl, ⟨a, fl.1⟩, r, fl.2⟩
  | B rs =>
    cases v with
    | cons a r => exact ⟨_, _, rfl, a, r⟩
  | O => exact v.elim
  | I => exact v.elim
theorem Vals2.nil' {ty : Wy} {ds : List D} (v : Vals2 Z Y Ns h ty ds []) : ds = [] := by
  cases ty with
  | F => cases v.1; rfl
  | B rs => cases v; rfl
  | O => exact v.elim
  | I => exact v.elim
def AsgR (Z Y : Nat → Prop) (Ns : Os) (h : Hh) (ty : Wy) (is : List Nat) (σ σ' : Sl) (τ τ' : Sm) : Prop :=
  σ'.length = σ.length ∧ τ'.length = τ.length ∧ (∀ i, i ∉ is → σ'[i]? = σ[i]? ∧ τ'[i]? = τ[i]?) ∧ ∀ i, i ∈ is → i < σ.length → ∃ d' t', σ'[i]? = some (some d') ∧ τ'[i]? = some (some t') ∧ Val Z Y Ns h ty d' t' []
theorem asg_ok {ty : Wy} (f : FB ty = true) : ∀ (g : Tg),
    (∀ {d : D} {t : T} {σ : Sl} {τ τ' : Sm}, Val Z Y Ns h ty d t [] → τ.length = σ.length → asgV g t τ = some τ' → ∃ σ', asgT g d σ = some σ' ∧ AsgR Z Y Ns h ty (tgs g) σ σ' τ τ') ∧
    (∀ {ds : List D} {ts : List T} {σ : Sl} {τ τ' : Sm}, Vals2 Z Y Ns h ty ds ts → τ.length = σ.length → asgVs g ts τ = some τ' → ∃ σ', asgTs g ds σ = some σ' ∧ AsgR Z Y Ns h ty (tgs g) σ σ' τ τ') := by
  intro g
  induction g with
  | n i =>
    refine ⟨fun {d t σ τ τ'} v l e => ?_, fun {ds ts σ τ τ'} v l e => by simp [asgVs] at e⟩
    simp only [asgV, Option.some.injEq] at e
    subst e
    refine ⟨σ.set i (some d), by simp [asgT], by simp, by simp, fun j hj => ?_, fun j hj lj => ?_⟩
    · have : i ≠ j := fun z => hj (by simp [tgs, z])
      exact ⟨List.getElem?_set_ne this, List.getElem?_set_ne this⟩
    · simp [tgs] at hj
      subst hj
      exact ⟨d, t, List.getElem?_set_self lj, List.getElem?_set_self (by omega), v⟩
  | tup ts ih =>
    refine ⟨fun {d t σ τ τ'} v l e => ?_, fun {ds ts σ τ τ'} v l e => by simp [asgVs] at e⟩
    cases t with
    | tup us =>
      obtain ⟨ds, rfl, v2⟩ := Vals2.tup f v
      simp only [asgV] at e
      obtain ⟨σ', e1, r⟩ := ih.2 v2 l e
      exact ⟨σ', by simp only [asgT]; exact e1, r⟩
    | _ => simp [asgV] at e
  | nil =>
    refine ⟨fun {d t σ τ τ'} v l e => by simp [asgV] at e, fun {ds ts σ τ τ'} v l e => ?_⟩
    cases ts with
    | nil =>
      simp only [asgVs, Option.some.injEq] at e
      subst e
      have := v.nil'
      subst this
      exact ⟨σ, by simp [asgTs], rfl, rfl, fun _ _ => ⟨rfl, rfl⟩, fun i hi => by simp [tgs] at hi⟩
    | cons _ _ => simp [asgVs] at e
  | cons a b iha ihb =>
    refine ⟨fun {d t σ τ τ'} v l e => by simp [asgV] at e, fun {ds ts σ τ τ'} v l e => ?_⟩
    cases ts with
    | nil => simp [asgVs] at e
    | cons t ts =>
      obtain ⟨d, es, rfl, v1, v2⟩ := v.cons
      simp only [asgVs] at e
      cases q : asgV a t τ with
      | none => rw [q] at e; cases e
      | some τm =>
        rw [q] at e
        obtain ⟨σm, e1, l1, l2, o1, n1⟩ := iha.1 v1 l q
        obtain ⟨σ', e2, l3, l4, o2, n2⟩ := ihb.2 (σ := σm) v2 (by omega) e
        refine ⟨σ', by simp only [asgTs, e1, Option.bind_some]; exact e2, by omega, by omega, fun i hi => ?_, fun i hi li => ?_⟩
        · simp [tgs] at hi
          have x := o1 i hi.1
          have y := o2 i hi.2
          exact ⟨y.1.trans x.1, y.2.trans x.2⟩
        · by_cases c : i ∈ tgs b
          · exact n2 i c (by omega)
          · simp [tgs, c] at hi
            obtain ⟨d', t', x1, x2, x3⟩ := n1 i hi li
            exact ⟨d', t', by rw [(o2 i c).1]; exact x1, by rw [(o2 i c).2]; exact x2, x3⟩
theorem set_all_get {ty : Wy} : ∀ (is : List Nat) (Γ : G) (i : Nat) (ty' : Wy), (is.foldl (fun Γ i => Γ.set i (some ty)) Γ)[i]? = some (some ty') → (i ∈ is ∧ ty' = ty) ∨ (i ∉ is ∧ Γ[i]? = some (some ty'))
  | [], Γ, i, ty', e => .inr ⟨by simp, e⟩
  | k :: is, Γ, i, ty', e => by
    rcases set_all_get is (Γ.set k (some ty)) i ty' e with ⟨a, b⟩ | ⟨a, b⟩
    · exact .inl ⟨by simp [a], b⟩
    · by_cases c : k = i
      · subst c
        by_cases l : k < Γ.length
        · rw [List.getElem?_set_self l] at b
          simp at b
          exact .inl ⟨by simp, b.symm⟩
        · rw [List.getElem?_eq_none (by simp; omega)] at b
          cases b
      · rw [List.getElem?_set_ne c] at b
        exact .inr ⟨by simp [a, Ne.symm c], b⟩
theorem set_all_len {ty : Wy} : ∀ (is : List Nat) (Γ : G), (is.foldl (fun Γ i => Γ.set i (some ty)) Γ).length = Γ.length
  | [], Γ => rfl
  | k :: is, Γ => by rw [List.foldl_cons, set_all_len is]; simp
theorem asgG_get {g : Tg} {ty ty' : Wy} {i : Nat} (e : (asgG g ty Γ)[i]? = some (some ty')) : (i ∈ tgs g ∧ ty' = ty) ∨ (i ∉ tgs g ∧ Γ[i]? = some (some ty') ∧ ty'.free (tgs g) = true) := by
  unfold asgG at e
  rcases set_all_get _ _ _ _ e with q | ⟨q1, q2⟩
  · exact .inl q
  · obtain ⟨a, _, c⟩ := inval_some q2
    exact .inr ⟨q1, a, c⟩
theorem asgG_len {g : Tg} {ty : Wy} : (asgG g ty Γ).length = Γ.length := by unfold asgG; rw [set_all_len, inval_len]
theorem asgG_of {g : Tg} {ty ty' : Wy} {i : Nat} (h1 : i ∉ tgs g) (h2 : Γ[i]? = some (some ty')) (h3 : ty'.free (tgs g) = true) : (asgG g ty Γ)[i]? = some (some ty') := by
  unfold asgG
  have key : ∀ (is : List Nat) (Γ : G), i ∉ is → (is.foldl (fun Γ i => Γ.set i (some ty)) Γ)[i]? = Γ[i]? := by
    intro is
    induction is with
    | nil => intro Γ _; rfl
    | cons k is ih =>
      intro Γ hi
      simp at hi
      rw [List.foldl_cons, ih _ hi.2, List.getElem?_set_ne (fun z => hi.1 z.symm)]
  rw [key _ _ h1]
  exact inval_of h2 h1 h3
theorem asg_inv {ty : Wy} {g : Tg} {d : D} {t : T} {τ' : Sm} (f : FB ty = true) (I : Inv Z Y Γ Ns σ τ h) (v : Val Z Y Ns h ty d t []) (e : asgV g t τ = some τ') : ∃ σ', asgT g d σ = some σ' ∧ Inv Z Y (asgG g ty Γ) Ns σ' τ' h ∧ σ'.length = σ.length ∧ τ'.length = τ.length ∧ (∀ i, i ∉ tgs g → σ'[i]? = σ[i]? ∧ τ'[i]? = τ[i]?) := by
  obtain ⟨σ', e1, l1, l2, o, n⟩ := (asg_ok f g).1 v I.ln e
  refine ⟨σ', e1, ⟨by rw [l2, l1]; exact I.ln, by rw [asgG_len, l1]; exact I.lg, fun i ty' q => ?_, I.nd, I.dj, I.ow, I.zl, I.yl⟩, l1, l2, o⟩
  have li : i < σ.length := by
    have := (List.getElem?_eq_some_iff.mp q).1
    rw [asgG_len, I.lg] at this
    exact this
  rcases asgG_get q with ⟨a, rfl⟩ | ⟨a, b, _⟩
  · obtain ⟨d', t', x1, x2, x3⟩ := n i a li
    exact ⟨d', t', x1, x2, x3.any f⟩
  · obtain ⟨d', t', x1, x2, x3⟩ := I.val i ty' b
    exact ⟨d', t', by rw [(o i a).1]; exact x1, by rw [(o i a).2]; exact x2, x3⟩
theorem wipeD_ne : ∀ {own : List Nat} {i : Nat}, i ∉ own → (wipeD σ own)[i]? = σ[i]?
  | [], _, _ => rfl
  | k :: own, i, hi => by
    simp at hi
    rw [wipeD, List.getElem?_set_ne (fun z => hi.1 z.symm), wipeD_ne hi.2]
theorem wipeV_ne : ∀ {own : List Nat} {i : Nat}, i ∉ own → (wipeV τ own)[i]? = τ[i]?
  | [], _, _ => rfl
  | k :: own, i, hi => by
    simp at hi
    rw [wipeV, List.getElem?_set_ne (fun z => hi.1 z.symm), wipeV_ne hi.2]
theorem wipeD_len : ∀ {own : List Nat}, (wipeD σ own).length = σ.length
  | [] => rfl
  | k :: own => by rw [wipeD]; simp [wipeD_len]
theorem wipeV_len : ∀ {own : List Nat}, (wipeV τ own).length = τ.length
  | [] => rfl
  | k :: own => by rw [wipeV]; simp [wipeV_len]
theorem rst_len {τ0 : Sm} : ∀ {own : List Nat}, (rst τ0 own τ).length = τ.length
  | [] => rfl
  | k :: own => by rw [rst]; simp [rst_len]
theorem rst_ne {τ0 : Sm} : ∀ {own : List Nat} {i : Nat}, i ∉ own → (rst τ0 own τ)[i]? = τ[i]?
  | [], _, _ => rfl
  | k :: own, i, hi => by
    simp at hi
    rw [rst, List.getElem?_set_ne (fun z => hi.1 z.symm), rst_ne hi.2]
theorem Inv.wipe {own : List Nat} (I : Inv Z Y Γ Ns σ τ h) (hΓ : ∀ (i : Nat) (ty : Wy), Γ[i]? = some (some ty) → i ∉ own) : Inv Z Y Γ Ns (wipeD σ own) (wipeV τ own) h :=
  ⟨by rw [wipeD_len, wipeV_len]; exact I.ln, by rw [wipeD_len]; exact I.lg, fun i ty e => by
    obtain ⟨d, t, a, b, v⟩ := I.val i ty e
    exact ⟨d, t, by rw [wipeD_ne (hΓ i ty e)]; exact a, by rw [wipeV_ne (hΓ i ty e)]; exact b, v⟩, I.nd, I.dj, I.ow, I.zl, I.yl⟩
theorem Gr.tmp {nn : Nat} {oo : O} {N : List Nat} (I : Inv Z Y Γ Ns σ τ h) (x : Xok X Y Z Ns h) (p : Tmp Z Y Ns h N) (hn : nn ∈ N) (nx : ¬ X nn) : Gr X Y Z Ns h Z Ns (h.set nn oo) [] := by
  obtain ⟨a, b, c, d⟩ := p.ow nn hn
  have sm : ∀ k, k ≠ nn → (h.set nn oo)[k]? = h[k]? := fun k c => List.getElem?_set_ne (Ne.symm c)
  exact ⟨by simp, fun k z => sm k fun q => b (q ▸ z), fun k z => sm k fun q => c (q ▸ z), fun k z => ⟨sm k fun q => nx (q ▸ z), (x k z).2.1, (x k z).2.2.2⟩, fun i _ k hk => ⟨sm k fun q => d i (q ▸ hk), .inl hk⟩, fun _ z => z, fun _ _ z => z⟩
theorem Inv.tmp {nn : Nat} {oo : O} {N : List Nat} (I : Inv Z Y Γ Ns σ τ h) (p : Tmp Z Y Ns h N) (hn : nn ∈ N) : Inv Z Y Γ Ns σ τ (h.set nn oo) :=
  I.to (Gr.tmp (X := fun _ => False) I (fun _ z => z.elim) p hn fun z => z) (fun n z => by simp; exact I.zl n z) fun i n hn => (I.ow i n hn).1
/-- what was gathered -/
def AC (Z Y : Nat → Prop) (Ns : Os) (h : Hh) (ty : Wy) (ds : List D) (ts : List T) (N : List Nat) : Prop := match ty with
  | .F => Rps Z Z h ds ts ∧ flats ts = true ∧ N = []
  | .O => Ws Z h ds ts N
  | .B rs => Rps Z (U Z Y Ns rs) h ds ts ∧ N = []
  | .I => False
theorem AC.go {ty : Wy} {ds : List D} {ts : List T} {N : List Nat} (v : AC Z Y Ns h ty ds ts N) (g : Gr X Y Z Ns h Z1 Ns1 h1 w) (f : ty.free w = true) (sN : ∀ n ∈ N, h1[n]? = h[n]?) : AC Z1 Y Ns1 h1 ty ds ts N := by
  cases ty with
  | F => exact ⟨v.1.mono g.zz g.zz g.zs g.zs, v.2⟩
  | O => exact Ws.mono g.zz g.zs v sN
  | B rs => exact ⟨v.1.mono g.zz (U.mono g (free_dj f)) g.zs (U.same g (free_dj f)), v.2⟩
  | I => exact v.elim
theorem flats_app {ts : List T} {t : T} (f : flats ts = true) (g : flat t = true) : flats (ts ++ [t]) = true := by
  induction ts with
  | nil => simp [flats, g]
  | cons u ts ih =>
    rw [flats, Bool.and_eq_true] at f
    rw [List.cons_append, flats, f.1, ih f.2]; rfl
theorem AC.snoc {ty : Wy} {ds : List D} {ts : List T} {N N2 : List Nat} {d : D} {t : T} (v : AC Z Y Ns h ty ds ts N) (k : Val Z Y Ns h ty d t N2) : ∃ N3, AC Z Y Ns h ty (ds ++ [d]) (ts ++ [t]) N3 ∧ N3.Sublist (N ++ N2) := by
  cases ty with
  | F => exact ⟨[], ⟨v.1.append (.cons k.1 .nil), flats_app v.2.1 k.2, rfl⟩, List.nil_sublist _⟩
  | O => exact ⟨N ++ (N2 ++ []), Ws.append v (.cons k .nil), by simp⟩
  | B rs => exact ⟨[], ⟨v.1.append (.cons k .nil), rfl⟩, List.nil_sublist _⟩
  | I => exact v.elim
/-- what is walked stays -/
theorem KI.go {ty : Wy} {ds : List D} {gd : Gd} {ts : List T} (k : KI X Y ty Z Ns h (ds, gd) ts τ) (g : Gr X' Y Z Ns h Z1 Ns1 h1 w) (f : ty.free w = true) : KI X Y ty Z1 Ns1 h1 (ds, gd) ts τ1 := by
  cases ty with
  | F => exact ⟨k.1.mono g.zz g.zz g.zs g.zs, k.2.1, fun p hp => ⟨g.zz _ (k.2.2 p hp).1, (g.zs _ (k.2.2 p hp).1).trans (k.2.2 p hp).2⟩⟩
  | B rs => exact ⟨k.1.mono g.zz (U.mono g (free_dj f)) g.zs (U.same g (free_dj f)), fun p hp => ⟨U.mono g (free_dj f) _ (k.2 p hp).1, (U.same g (free_dj f) _ (k.2 p hp).1).trans (k.2 p hp).2⟩⟩
  | O => exact k.elim
  | I => exact k.elim
theorem KI.gd {ty : Wy} {ds : List D} {gd : Gd} {ts : List T} (k : KI X Y ty Z Ns h (ds, gd) ts τ) : gdOk gd h := fun p hp => by
  cases ty with
  | F => exact ⟨_, (k.2.2 p hp).2, rfl⟩
  | B rs => exact ⟨_, (k.2 p hp).2, rfl⟩
  | O => exact k.elim
  | I => exact k.elim
theorem KI.cons {ty : Wy} {ds : List D} {gd : Gd} {t : T} {ts : List T} (k : KI X Y ty Z Ns h (ds, gd) (t :: ts) τ) : ∃ d es, ds = d :: es ∧ FB ty = true ∧ Val Z Y Ns h ty d t [] ∧ KI X Y ty Z Ns h (es, gd) ts τ := by
  cases ty with
  | F =>
    obtain ⟨r, fl, q⟩ := k
    dsimp only at r
    cases r with
    | cons a r =>
      rw [flats, Bool.and_eq_true] at fl
      exact ⟨_, _, rfl, rfl, ⟨a, fl.1⟩, r, fl.2, q⟩
  | B rs =>
    obtain ⟨r, q⟩ := k
    dsimp only at r
    cases r with
    | cons a r => exact ⟨_, _, rfl, rfl, a, r, q⟩
  | O => exact k.elim
  | I => exact k.elim
theorem KI.nil' {ty : Wy} {ds : List D} {gd : Gd} (k : KI X Y ty Z Ns h (ds, gd) [] τ) : ds = [] := by
  cases ty with
  | F => have := k.1; cases this; rfl
  | B rs => have := k.1; cases this; rfl
  | O => exact k.elim
  | I => exact k.elim
/-- one turn -/
theorem turn_ok {own : List Nat} {g : Tg} {ity y : Wy} {w0 w' m' : List Nat} {d : D} {t : T} (T : SndV test) (E : SndV elt) (hc : compT1 own g ity (et test).t (et elt).v (inval Γ (w0 ++ own) own) = some (y, w', m')) (hw : ∀ i, i ∈ w' → i ∈ w0) (hm : m' = []) (ho : ∀ i, i ∈ own → i ∉ w')
    (fi : FB ity = true) (I : Inv Z Y (inval Γ (w0 ++ own) own) Ns σ τ h) (x : Xok X Y Z Ns h) (v : Val Z Y Ns h ity d t []) : match turnV g own (vd test).t (vd elt).v t τ with
    | .ok o τ' => ∃ o' h' Z' Ns', turnC g (den (er test)).t (den (er elt)).v (wipeD σ own) d h = .ok o' h' ∧ Nx X Y Z (inval Γ (w0 ++ own) own) Ns σ τ h (w0 ++ own) own Z' Ns' τ' h' ∧ Gr X Y Z Ns h Z' Ns' h' w' ∧ (match o, o' with
      | none, none => True
      | some t', some d' => KV X Y y Z' Ns' h' d' t' τ'
      | _, _ => False)
    | _ => True := by
  unfold compT1 at hc
  split at hc
  · rename_i c
    simp only [Bool.and_eq_true, List.all_eq_true] at c
    obtain ⟨⟨fr, nd⟩, tw⟩ := c
    have tw' : ∀ i, i ∈ tgs g → i ∈ own := fun i hi => by simpa using tw i hi
    have hΓ : ∀ (i : Nat) (ty : Wy), (inval Γ (w0 ++ own) own)[i]? = some (some ty) → i ∉ own := fun i ty e => (inval_some e).2.1
    unfold turnV turnC
    cases ea : asgV g t (wipeV τ own) with
    | none => exact trivial
    | some τa =>
      obtain ⟨σa, e1, Ia, l1, l2, oth⟩ := asg_inv fi (I.wipe hΓ) v ea
      rw [e1]
      dsimp only
      unfold tst at hc
      split at hc
      · cases hc
      · rename_i wt mt et1
        split at hc
        · cases hc
        · rename_i ty we me ee
          cases hc
          have back : ∀ {Z' : Nat → Prop} {Ns' : Os} {τ' : Sm} {h' : Hh} {wx mx : List Nat}, (∀ i, i ∈ wx → i ∈ wt ++ we) → (∀ i, i ∈ mx → i ∈ mt ++ me) → Nx X Y Z (asgG g ity (inval Γ (w0 ++ own) own)) Ns σa τa h wx mx Z' Ns' τ' h' → Nx X Y Z (inval Γ (w0 ++ own) own) Ns σ τ h (w0 ++ own) own Z' Ns' (rst τ own τ') h' ∧ Gr X Y Z Ns h Z' Ns' h' (wt ++ we) := by
            intro Z' Ns' τ' h' wx mx sx smx n
            have wx0 : ∀ i, i ∈ wx → i ∈ w0 := fun i hi => hw i (sx i hi)
            have mx0 : ∀ i, i ∉ mx := fun i hi => by have := smx i hi; rw [hm] at this; cases this
            refine ⟨⟨⟨by rw [rst_len, n.inv.ln, l1, wipeD_len], by rw [inval_len]; exact I.lg, fun i ty e => ?_, n.inv.nd, n.inv.dj, n.inv.ow, n.inv.zl, n.inv.yl⟩, n.gr.mono fun i hi => List.mem_append_left _ (wx0 i hi), fun i hi => ?_⟩, n.gr.mono sx⟩
            · obtain ⟨a1, b1, c1⟩ := inval_some e
              have it : i ∉ tgs g := fun z => b1 (tw' i z)
              rw [free_app] at c1
              have fo : ty.free (tgs g) = true := by
                cases ty with
                | B rs =>
                  simp only [Wy.free, List.all_eq_true] at c1 ⊢
                  intro r hr
                  have := c1.2 r hr
                  simp at this ⊢
                  exact fun z => this (tw' r z)
                | _ => rfl
              have fw : ty.free wx = true := by
                cases ty with
                | B rs =>
                  simp only [Wy.free, List.all_eq_true] at c1 ⊢
                  intro r hr
                  have := c1.1 r hr
                  simp at this ⊢
                  exact fun z => this (wx0 r z)
                | _ => rfl
              have e2 : (inval (asgG g ity (inval Γ (w0 ++ own) own)) wx mx)[i]? = some (some ty) := inval_of (asgG_of it a1 fo) (mx0 i) fw
              obtain ⟨d', t', x1, x2, x3⟩ := n.inv.val i ty e2
              refine ⟨d', t', ?_, by rw [rst_ne b1]; exact x2, x3⟩
              rw [(oth i it).1, wipeD_ne b1] at x1
              exact x1
            · simp at hi
              have q := n.fx i fun z => hi.1 (wx0 i z)
              refine ⟨q.1, ?_⟩
              rw [rst_ne hi.2, q.2, (oth i fun z => hi.2 (tw' i z)).2, wipeV_ne hi.2]
          have PT := T.t Ia x et1
          cases eT : (vd test).t τa with
          | bad => exact trivial
          | exc _ _ _ => exact trivial
          | ok k τt =>
            rw [eT] at PT
            obtain ⟨k', ht, Zt, Nst, e2, nt, rfl⟩ := PT
            rw [e2]
            simp only [q_ok, bind_ok]
            cases k' with
            | false =>
              simp only [Bool.false_eq_true, if_false]
              obtain ⟨n', g'⟩ := back (fun i hi => List.mem_append_left _ hi) (fun i hi => List.mem_append_left _ hi) nt
              exact ⟨none, ht, Zt, Nst, rfl, n', g', trivial⟩
            | true =>
              simp only [if_true]
              have PE := E.v nt.inv (nt.xok x) ee
              cases eE : (vd elt).v τt with
              | bad => exact trivial
              | exc _ _ _ => exact trivial
              | ok y' τe =>
                rw [eE] at PE
                obtain ⟨dy, he, Ze, Nse, e3, ne, kv⟩ := PE
                rw [e3]
                simp only [q_ok, bind_ok]
                obtain ⟨n', g'⟩ := back (fun i hi => hi) (fun i hi => hi) (nt.trans ne)
                exact ⟨some dy, he, Ze, Nse, rfl, n', g', kv⟩
  · cases hc
theorem free_sub {ty : Wy} (f : ty.free w = true) (s : ∀ i, i ∈ w1 → i ∈ w) : ty.free w1 = true := by
  cases ty with
  | B rs =>
    simp only [Wy.free, List.all_eq_true] at f ⊢
    intro r hr
    have := f r hr
    simp at this ⊢
    exact fun z => this (s r z)
  | _ => rfl
theorem inval_idem {w0 own : List Nat} : ∀ (i : Nat) (ty : Wy), (inval Γ (w0 ++ own) own)[i]? = some (some ty) → (inval (inval Γ (w0 ++ own) own) (w0 ++ own) own)[i]? = some (some ty) := fun i ty e => by
  obtain ⟨a, b, c⟩ := inval_some e
  exact inval_of e b c
/-- all turns -/
theorem turns_ok {own : List Nat} {g : Tg} {ity y : Wy} {w0 w' m' : List Nat} {gd : Gd} {nn : Nat} (T : SndV test) (E : SndV elt) (hc : compT1 own g ity (et test).t (et elt).v (inval Γ (w0 ++ own) own) = some (y, w', m')) (hw : ∀ i, i ∈ w' → i ∈ w0) (hm : m' = []) (ho : ∀ i, i ∈ own → i ∉ w') (fi : ity.free w' = true) (fy : y.free w' = true) :
    ∀ (ts : List L3.T) {ds : List D} {accD : List D} {accT : List L3.T} {NA : List Nat} {Z : Nat → Prop} {Ns : Os} {τ τ2 : Sm} {h : Hh} {ys : List L3.T}, Inv Z Y (inval Γ (w0 ++ own) own) Ns σ τ h → Xok X Y Z Ns h → KI X Y ity Z Ns h (ds, gd) ts τ → h[nn]? = some (.lst accD) → AC Z Y Ns h y accD accT NA → Tmp Z Y Ns h (nn :: NA) → (∀ n, n ∈ nn :: NA → ¬ X n) →
      turnsV (turnV g own (vd test).t (vd elt).v) ts τ = .ok ys τ2 → accT.length + ys.length ≤ sizeLine →
      ∃ h2 Z2 Ns2 accD2 NA2, turns (turnC g (den (er test)).t (den (er elt)).v (wipeD σ own)) gd nn ds h = .ok () h2 ∧ Nx X Y Z (inval Γ (w0 ++ own) own) Ns σ τ h (w0 ++ own) own Z2 Ns2 τ2 h2 ∧ h2[nn]? = some (.lst accD2) ∧ AC Z2 Y Ns2 h2 y accD2 (accT ++ ys) NA2 ∧ Tmp Z2 Y Ns2 h2 (nn :: NA2) ∧ (∀ n, n ∈ nn :: NA2 → ¬ X n)
  | [], ds, accD, accT, NA, Z, Ns, τ, τ2, h, ys, I, x, ki, en, ac, p, nx, e, l => by
    have := ki.nil'
    subst this
    unfold turnsV at e
    cases e
    refine ⟨h, Z, Ns, accD, NA, ?_, ⟨I.less (by rw [inval_len]; exact I.lg) fun i ty q => (inval_some q).1, .refl x, fun _ _ => ⟨rfl, rfl⟩⟩, en, by simpa using ac, p, nx⟩
    unfold turns
    rw [if_pos ki.gd]
  | t :: ts, ds, accD, accT, NA, Z, Ns, τ, τ2, h, ys, I, x, ki, en, ac, p, nx, e, l => by
    obtain ⟨d, es, rfl, fb, v, ki2⟩ := ki.cons
    unfold turnsV at e
    have K := turn_ok (X := xN X (nn :: NA)) T E hc hw hm ho fb I (p.xok x) v
    cases et' : turnV g own (vd test).t (vd elt).v t τ with
    | bad => rw [et'] at e; cases e
    | exc _ _ _ => rw [et'] at e; cases e
    | ok oo τ1 =>
      rw [et'] at e K
      obtain ⟨o', h1, Z1, Ns1, e1, n1, g1, ko⟩ := K
      simp only [q_ok] at e
      have p1 : Tmp Z1 Y Ns1 h1 (nn :: NA) := p.go n1.gr
      have en1 : h1[nn]? = some (.lst accD) := (n1.gr.xNs nn (by simp)).trans en
      have ac1 : AC Z1 Y Ns1 h1 y accD accT NA := ac.go g1 fy fun k hk => n1.gr.xNs k (by simp [hk])
      have ki1 : KI X Y ity Z1 Ns1 h1 (es, gd) ts τ1 := ki2.go g1 fi
      have I1 : Inv Z1 Y (inval Γ (w0 ++ own) own) Ns1 σ τ1 h1 := n1.inv.less (by rw [inval_len]; have := n1.inv.lg; rw [inval_len, inval_len] at this; exact this) inval_idem
      have n1' : Nx X Y Z (inval Γ (w0 ++ own) own) Ns σ τ h (w0 ++ own) own Z1 Ns1 τ1 h1 := n1.lessX fun _ q => .inl q
      cases eR : turnsV (turnV g own (vd test).t (vd elt).v) ts τ1 with
      | bad => rw [eR] at e; cases e
      | exc _ _ _ => rw [eR] at e; cases e
      | ok zs τ3 =>
        rw [eR] at e
        simp only [q_ok] at e
        cases e
        have fin : ∀ {h2 : Hh} {Z2 : Nat → Prop} {Ns2 : Os} {Z1' : Nat → Prop} {h1' : Hh}, Nx X Y Z (inval Γ (w0 ++ own) own) Ns σ τ h (w0 ++ own) own Z1' Ns1 τ1 h1' → Nx X Y Z1' (inval Γ (w0 ++ own) own) Ns1 σ τ1 h1' (w0 ++ own) own Z2 Ns2 τ2 h2 → Nx X Y Z (inval Γ (w0 ++ own) own) Ns σ τ h (w0 ++ own) own Z2 Ns2 τ2 h2 := fun a b => a.comp b (fun _ q => q) (fun i hi => (List.mem_append.mp hi).elim id id) fun i ty q => q
        cases oo with
        | none =>
          cases o' with
          | some _ => exact ko.elim
          | none =>
            obtain ⟨h2, Z2, Ns2, accD2, NA2, e2, n2, en2, ac2, p2, nx2⟩ := turns_ok T E hc hw hm ho fi fy ts I1 (n1'.xok x) ki1 en1 ac1 p1 nx eR l
            refine ⟨h2, Z2, Ns2, accD2, NA2, ?_, fin n1' n2, en2, ac2, p2, nx2⟩
            rw [turns.eq_def]
            dsimp only
            rw [if_pos ki.gd, e1]
            exact e2
        | some t' =>
          cases o' with
          | none => exact ko.elim
          | some d' =>
            obtain ⟨ni, Ny, vy, py, nxy⟩ := ko
            simp only [List.length_cons] at l
            have la : accD.length = accT.length := by
              cases y with
              | F => exact ac.1.length
              | O => exact Ws.length ac
              | B rs => exact ac.1.length
              | I => exact ac.elim
            have hnn : nn ∈ nn :: NA := by simp
            have x1 : Xok X Y Z1 Ns1 h1 := n1'.xok x
            have gs := Gr.tmp (oo := .lst (accD ++ [d'])) I1 x1 p1 hnn (nx nn hnn)
            have Is : Inv Z1 Y (inval Γ (w0 ++ own) own) Ns1 σ τ1 (h1.set nn (.lst (accD ++ [d']))) := I1.tmp p1 hnn
            have ns : Nx X Y Z (inval Γ (w0 ++ own) own) Ns σ τ h (w0 ++ own) own Z1 Ns1 τ1 (h1.set nn (.lst (accD ++ [d']))) := n1'.then gs (n1.inv.tmp p1 hnn)
            have sm : ∀ k, k ≠ nn → (h1.set nn (.lst (accD ++ [d'])))[k]? = h1[k]? := fun k c => List.getElem?_set_ne (Ne.symm c)
            have nNA : nn ∉ NA := (List.nodup_cons.mp p1.nd).1
            have nNy : ∀ k, k ∈ Ny → k ∉ nn :: NA := fun k hk q => nxy k hk (.inr q)
            obtain ⟨N3, ac3, sb⟩ := AC.snoc ac1 vy
            have sN3 : ∀ k ∈ N3, (h1.set nn (.lst (accD ++ [d'])))[k]? = h1[k]? := fun k hk => sm k fun c => by
              subst c
              rcases List.mem_append.mp (sb.subset hk) with q | q
              · exact nNA q
              · exact nNy _ q (by simp)
            have ac4 : AC Z1 Y Ns1 (h1.set nn (.lst (accD ++ [d']))) y (accD ++ [d']) (accT ++ [t']) N3 := ac3.go gs (free_sub fy fun i hi => by cases hi) sN3
            have pA : Tmp Z1 Y Ns1 h1 (nn :: (NA ++ Ny)) := by
              have := p1.app py nNy
              simpa using this
            have p4 : Tmp Z1 Y Ns1 (h1.set nn (.lst (accD ++ [d']))) (nn :: N3) := by
              have q := pA.sub (sb.cons₂ nn)
              exact ⟨q.nd, fun k hk => by have := q.ow k hk; simpa using this⟩
            have nx4 : ∀ k, k ∈ nn :: N3 → ¬ X k := fun k hk q => by
              rcases List.mem_cons.mp hk with rfl | hk
              · exact nx k (by simp) q
              · rcases List.mem_append.mp (sb.subset hk) with z | z
                · exact nx k (by simp [z]) q
                · exact nxy k z (.inl q)
            have ki4 : KI X Y ity Z1 Ns1 (h1.set nn (.lst (accD ++ [d']))) (es, gd) ts τ1 := ki1.go gs (free_sub fi fun i hi => by cases hi)
            have en4 : (h1.set nn (.lst (accD ++ [d'])))[nn]? = some (.lst (accD ++ [d'])) := List.getElem?_set_self (p1.ow nn hnn).1
            obtain ⟨h2, Z2, Ns2, accD2, NA2, e2, n2, en2, ac2, p2, nx2⟩ := turns_ok T E hc hw hm ho fi fy ts Is (ns.xok x) ki4 en4 ac4 p4 nx4 eR (by simp; omega)
            refine ⟨h2, Z2, Ns2, accD2, NA2, ?_, fin ns n2, en2, by simpa using ac2, p2, nx2⟩
            rw [turns.eq_def]
            dsimp only
            rw [if_pos ki.gd, e1]
            simp only [bind_ok, en1]
            rw [if_pos (by omega)]
            exact e2
theorem sndV_comp (own : List (Str × Nat)) (g : Tg) (A : SndV it) (T : SndV test) (E : SndV elt) : SndV (.comp own g it test elt) := by
  refine .of rfl rfl rfl ?_
  intro X Y Z Γ Ns σ τ h ty wf mf I x e
  dsimp only at e
  split at e
  · rename_i ity wi mi e1
    split at e
    · rename_i y w' m' e2
      cases e
      unfold compS at e2
      split at e2
      · rename_i y0 w0 m0 ec0
        split at e2
        · rename_i y w2 m2 ec
          split at e2
          · rename_i cc
            simp only [Bool.and_eq_true, List.all_eq_true, List.isEmpty_iff] at cc
            obtain ⟨⟨⟨⟨hw, hm⟩, fi⟩, fy⟩, ho⟩ := cc
            have hw' : ∀ i, i ∈ w2 → i ∈ w0 := fun i hi => by simpa using hw i hi
            have ho' : ∀ i, i ∈ own.map (·.2) → i ∉ w2 := fun i hi => by simpa using ho i hi
            rw [free_app] at fy
            have ew : w' = w0 ++ own.map (·.2) ∧ m' = (own.map (·.2)).filter (liveG (inval Γ wi mi)) ∧ y ≠ .I := by
              cases y with
              | I => cases e2
              | F => cases e2; exact ⟨rfl, rfl, by simp⟩
              | O => cases e2; exact ⟨rfl, rfl, by simp⟩
              | B rs => cases e2; exact ⟨rfl, rfl, by simp⟩
            obtain ⟨rfl, rfl, ni⟩ := ew
            refine Pst.more (w := wi ++ (w0 ++ own.map (·.2))) (m := mi ++ own.map (·.2)) ?_ (fun i hi => hi) (fun i ty q => by
              obtain ⟨a1, b1, c1⟩ := inval_some q
              refine inval_of a1 (fun z => ?_) c1
              rcases List.mem_append.mp z with z | z
              · exact b1 (List.mem_append_left _ z)
              · refine b1 (List.mem_append_right _ (List.mem_filter.mpr ⟨z, ?_⟩))
                have : (inval Γ wi mi)[i]? = some (some ty) := inval_of a1 (fun z => b1 (List.mem_append_left _ z)) (free_app.mp c1).1
                unfold liveG
                rw [this])
            refine (A.i I x e1).stepL fun Z1 Ns1 h1 s ts τ1 n ki => ?_
            obtain ⟨ds, gd⟩ := s
            show Pst X Y Z Γ Ns σ τ h _ _ (KV X Y ty) (compR (turnC g (den (er test)).t (den (er elt)).v (wipeD σ (own.map (·.2)))) (ds, gd) h1) (compQ (turnV g (own.map (·.2)) (vd test).t (vd elt).v) ts τ1)
            unfold compQ compR
            cases eR : turnsV (turnV g (own.map (·.2)) (vd test).t (vd elt).v) ts τ1 with
            | bad => exact trivial
            | exc _ _ _ => exact trivial
            | ok ys τ2 =>
              simp only [noexcQ, q_ok]
              split
              · rename_i ll
                have I1 := n.inv
                have x1 := n.xok x
                have na : Nx X Y Z1 (inval Γ wi mi) Ns1 σ τ1 h1 [] [] Z1 Ns1 τ1 (h1 ++ [.lst []]) := .alloc I1 x1
                have P0 : Tmp Z1 Y Ns1 (h1 ++ [.lst []]) [h1.length] := Tmp.new .nil I1
                have nx0 : ∀ k, k ∈ [h1.length] → ¬ X k := fun k hk q => by simp at hk; subst hk; have := (x1 _ q).1; omega
                have I0 : Inv Z1 Y (inval (inval Γ wi mi) (w0 ++ own.map (·.2)) (own.map (·.2))) Ns1 σ τ1 (h1 ++ [.lst []]) := I1.new.less (by rw [inval_len]; exact I1.lg) fun i ty q => (inval_some q).1
                have ki0 : KI X Y ity Z1 Ns1 (h1 ++ [.lst []]) (ds, gd) ts τ1 := ki.go na.gr (free_sub fi fun i hi => by cases hi)
                have ac0 : AC Z1 Y Ns1 (h1 ++ [.lst []]) y [] [] [] := by
                  cases y with
                  | F => exact ⟨.nil, rfl, rfl⟩
                  | O => exact .nil
                  | B rs => exact ⟨.nil, rfl⟩
                  | I => exact absurd rfl ni
                obtain ⟨h2, Z2, Ns2, accD2, NA2, e3, n2, en2, ac2, p2, nx2⟩ := turns_ok T E ec hw' hm ho' fi fy.1 ts I0 (na.xok x1) ki0 get_new ac0 P0 nx0 eR (by simpa using ll)
                rw [e3]
                show Pst X Y Z Γ Ns σ τ h _ _ (KV X Y ty) (.ok (.ref h1.length) h2) (.ok (.lst ys) τ2)
                have nt : Nx X Y Z Γ Ns σ τ h (wi ++ (w0 ++ own.map (·.2))) (mi ++ own.map (·.2)) Z2 Ns2 τ2 h2 := by
                  refine (n.then na.gr I1.new).comp n2 (fun _ q => q) (fun i hi => hi) fun i ty q => ?_
                  exact inval_idem i ty (inval_app i ty q)
                rw [List.nil_append] at ac2
                cases y with
                | F =>
                  cases e2
                  obtain ⟨r, fl, rfl⟩ := ac2
                  exact .at nt ⟨by decide, [h1.length], .lst en2 (r.own fl), p2, nx2⟩
                | O => cases e2; exact .at nt ⟨by decide, h1.length :: NA2, .lst en2 ac2, p2, nx2⟩
                | B rs =>
                  cases e2
                  obtain ⟨r, rfl⟩ := ac2
                  refine .at (nt.then (.frz (nt.xok x) p2 nx2) (nt.inv.frz p2)) ⟨by simp, [], .lst (.inl (.inr (by simp))) en2 (r.mono (fun _ z => .inl z) (fun n u => ?_) (fun _ _ => rfl) fun _ _ => rfl), .nil, fun n hn => by cases hn⟩
                  rcases u with u | u | u
                  · exact .inl (.inl u)
                  · exact .inr (.inl u)
                  · exact .inr (.inr u)
                | I => exact absurd rfl ni
              · exact trivial
          · cases e2
        · cases e2
      · cases e2
    · cases e
  · cases e
end
end L3

namespace L3
open PySem L2
theorem sndV_all : ∀ e : VE, SndV e := by
  intro e
  induction e with
  | var i => exact sndV_var i
  | mv i => exact sndV_mv i
  | cst t => exact sndV_cst t
  | glob x t => exact sndV_glob x t
  | fl e A => exact sndV_fl A
  | bin op a b A B => exact sndV_bin op A B
  | cat k a b A B => exact sndV_cat k A B
  | neg a A => exact sndV_neg A
  | not a A => exact sndV_not A
  | and a b A B => exact sndV_and A B
  | or a b A B => exact sndV_or A B
  | cmp op a b A B => exact sndV_cmp op A B
  | chain op op' a b c A B C => exact sndV_chain op op' A B C
  | ife c a b C A B => exact sndV_ife C A B
  | tup es E => exact sndV_tup E
  | lst es E => exact sndV_lst E
  | sub a i A B => exact sndV_sub A B
  | slc k a lo hi A B C => exact sndV_slc k A B C
  | call f x b es ks kes E F => exact sndV_call f x b ks E F
  | meth c f m b o es ks kes O E F => exact sndV_meth c f m b ks O E F
  | make c f b es ks kes E F => exact sndV_make c f b ks E F
  | fld tb f a A => exact sndV_fld tb f A
  | bi b es E => exact sndV_bi b E
  | lis k e A => exact sndV_lis k A
  | tpl e A => exact sndV_tpl A
  | isi a t A => exact sndV_isi A t
  | app o e A B => exact sndV_app A B
  | pop o A => exact sndV_pop A
  | comp own g it test elt A B C => exact sndV_comp own g A B C
  | rng es E => exact sndV_rng E
  | enum a A => exact sndV_enum A
  | zip a b A B => exact sndV_zip A B
  | rev a A => exact sndV_rev A
  | lrng a b A B => exact sndV_lrng A B
  | rsl k a A => exact sndV_rsl k A
  | leno c f o O => exact sndV_leno c f O
  | xf v f tb c ts => exact sndV_xf v f tb c ts
  | xis v t b => exact sndV_xis v t b
  | ref e A => exact sndV_ref A
  | rv i => exact sndV_rv i
  | nil => exact sndV_nil
  | cons e es E F => exact sndV_cons E F
section
variable {α β : Type} {X Y Z Z1 Z2 : Nat → Prop} {Γ Γ' Γ1 Γ2 pin : G} {Ns Ns1 Ns2 : Os} {σ σ1 σ2 : Sl} {τ τ1 τ2 : Sm} {h h1 h2 : Hh} {w m w1 m1 w2 m2 ws as ws' as' : List Nat} {rk : Wy}
theorem le_refl (a : Wy) : a.le a = true := by cases a <;> simp [Wy.le]
theorem leW_refl : ∀ a : Option Wy, leW a a = true
  | none => rfl
  | some a => le_refl a
theorem leG_refl : ∀ Γ : G, leG Γ Γ = true
  | [] => rfl
  | a :: Γ => by rw [leG, leW_refl, leG_refl]; rfl
theorem leG_len : ∀ {Γ Γ' : G}, leG Γ Γ' = true → Γ'.length = Γ.length
  | [], [], _ => rfl
  | a :: x, b :: y, e => by rw [leG, Bool.and_eq_true] at e; simp [leG_len e.2]
  | [], _ :: _, e => by cases e
  | _ :: _, [], e => by cases e
theorem leG_get : ∀ {Γ Γ' : G} {i : Nat} {ty' : Wy}, leG Γ Γ' = true → Γ'[i]? = some (some ty') → ∃ ty, Γ[i]? = some (some ty) ∧ ty.le ty' = true
  | [], [], _, _, _, e => by simp at e
  | a :: x, b :: y, 0, ty', e, q => by
    rw [leG, Bool.and_eq_true] at e
    simp at q
    subst q
    cases a with
    | none => cases e.1
    | some ty => exact ⟨ty, rfl, e.1⟩
  | a :: x, b :: y, i + 1, ty', e, q => by
    rw [leG, Bool.and_eq_true] at e
    obtain ⟨ty, q1, q2⟩ := leG_get (i := i) e.2 (by simpa using q)
    exact ⟨ty, by simpa using q1, q2⟩
  | [], _ :: _, _, _, e, _ => by cases e
  | _ :: _, [], _, _, e, _ => by cases e
/-- slots that are frozen -/
def fz (Γ Γ' : G) (i : Nat) : Bool := match Γ[i]?, Γ'[i]? with
  | some (some .O), some (some (.B _)) => true
  | some (some .F), some (some .O) => true
  | _, _ => false
theorem Inv.weak (I : Inv Z Y Γ Ns σ τ h) (x : Xok X Y Z Ns h) (l : leG Γ Γ' = true) : ∃ Z' Ns', Inv Z' Y Γ' Ns' σ τ h ∧ Gr X Y Z Ns h Z' Ns' h [] := by
  refine ⟨fun n => Z n ∨ ∃ i, fz Γ Γ' i = true ∧ n ∈ Ns i, fun i => if fz Γ Γ' i = true then [] else Ns i, ?_, ?_⟩
  · have ns : ∀ i n, n ∈ (if fz Γ Γ' i = true then [] else Ns i) → n ∈ Ns i ∧ fz Γ Γ' i = false := fun i n hn => by
      split at hn
      · cases hn
      · rename_i c; exact ⟨hn, by simpa using c⟩
    refine ⟨I.ln, by rw [leG_len l]; exact I.lg, fun i ty' e => ?_, fun i => ?_, fun i j n hi hj => I.dj i j n (ns i n hi).1 (ns j n hj).1, fun i n hn => ⟨fun z => ?_, (I.ow i n (ns i n hn).1).2⟩, fun n z => ?_, I.yl⟩
    · obtain ⟨ty, e1, l1⟩ := leG_get l e
      obtain ⟨d, t, e2, e3, v⟩ := I.val i ty e1
      refine ⟨d, t, e2, e3, ?_⟩
      have zz : ∀ n, Z n → (Z n ∨ ∃ i, fz Γ Γ' i = true ∧ n ∈ Ns i) := fun _ z => .inl z
      cases ty with
      | F =>
        cases ty' with
        | F => exact ⟨v.1.mono zz zz (fun _ _ => rfl) fun _ _ => rfl, v.2⟩
        | O =>
          have : fz Γ Γ' i = true := by unfold fz; rw [e1, e]
          rw [if_pos this]
          exact W.mono zz (fun _ _ => rfl) (v.1.own v.2) fun _ _ => rfl
        | B rs => exact v.1.mono zz (fun n z => .inl (.inl z)) (fun _ _ => rfl) fun _ _ => rfl
        | I => cases l1
      | O =>
        cases ty' with
        | F => cases l1
        | O =>
          have : fz Γ Γ' i = false := by unfold fz; rw [e1, e]
          rw [if_neg (by simp [this])]
          exact W.mono zz (fun _ _ => rfl) v fun _ _ => rfl
        | B rs =>
          have : fz Γ Γ' i = true := by unfold fz; rw [e1, e]
          exact (W.mono zz (fun _ _ => rfl) v fun _ _ => rfl).rp fun n hn => .inl (.inr ⟨i, this, hn⟩)
        | I => cases l1
      | B rs =>
        cases ty' with
        | B rs' =>
          refine Rp.mono zz (fun n u => ?_) (fun _ _ => rfl) (fun _ _ => rfl) v
          rcases u with u | u | ⟨r, hr, u⟩
          · exact .inl (.inl u)
          · exact .inr (.inl u)
          · by_cases c : fz Γ Γ' r = true
            · exact .inl (.inr ⟨r, c, u⟩)
            · refine .inr (.inr ⟨r, ?_, by show n ∈ (if fz Γ Γ' r = true then [] else Ns r); rw [if_neg c]; exact u⟩)
              unfold Wy.le at l1
              rw [List.all_eq_true] at l1
              simpa using l1 r hr
        | _ => cases l1
      | I =>
        cases ty' with
        | I =>
          have : fz Γ Γ' i = false := by unfold fz; rw [e1, e]
          rw [if_neg (by simp [this])]
          obtain ⟨n, c, ds, ts, M, a1, a2, a3, a4, a5⟩ := v
          exact ⟨n, c, ds, ts, M, a1, a2, a3, a4, a5.mono zz (fun _ _ => rfl) fun _ _ => rfl⟩
        | _ => cases l1
    · split
      · exact List.nodup_nil
      · exact I.nd i
    · obtain ⟨hi, fi⟩ := ns i n hn
      rcases z with z | ⟨j, fj, z⟩
      · exact (I.ow i n hi).1 z
      · have := I.dj i j n hi z
        subst this
        rw [fi] at fj
        cases fj
    · rcases z with z | ⟨j, _, z⟩
      · exact I.zl n z
      · exact (I.ow j n z).2.2
  · refine ⟨Nat.le_refl _, fun _ _ => rfl, fun _ _ => rfl, fun n q => ⟨rfl, fun z => ?_, fun i hi => ?_⟩, fun i _ n hn => ⟨rfl, ?_⟩, fun _ z => .inl z, fun n y z => ?_⟩
    · rcases z with z | ⟨j, _, z⟩
      · exact (x n q).2.1 z
      · exact (x n q).2.2.2 j z
    · split at hi
      · cases hi
      · exact (x n q).2.2.2 i hi
    · by_cases c : fz Γ Γ' i = true
      · exact .inr (.inr ⟨i, c, hn⟩)
      · exact .inl (by rw [if_neg c]; exact hn)
    · rcases z with z | ⟨j, _, z⟩
      · exact z
      · exact absurd y (I.ow j n z).2.1
structure NxS (X Y Z : Nat → Prop) (Ns : Os) (σ : Sl) (h : Hh) (ws as : List Nat) (Γ' : G) (Z' : Nat → Prop) (Ns' : Os) (σ' : Sl) (τ' : Sm) (h' : Hh) : Prop where
  inv : Inv Z' Y Γ' Ns' σ' τ' h'
  gr : Gr X Y Z Ns h Z' Ns' h' ws
  sg : ∀ i, i ∉ as → σ'[i]? = σ[i]?
def PstS (rk : Wy) (pin : G) (X Y Z : Nat → Prop) (Ns : Os) (σ : Sl) (h : Hh) (r : SR) (o : Out) (q : VO) : Prop := match q with
  | .bad => True
  | .next τ' => ∃ Γ' σ' h' Z' Ns', r.nx = some Γ' ∧ o = .next σ' h' ∧ NxS X Y Z Ns σ h r.ws r.as Γ' Z' Ns' σ' τ' h'
  | .brk τ' => ∃ Γ' σ' h' Z' Ns', r.bk = some Γ' ∧ o = .brk σ' h' ∧ NxS X Y Z Ns σ h r.ws r.as Γ' Z' Ns' σ' τ' h'
  | .cnt τ' => ∃ Γ' σ' h' Z' Ns', r.ct = some Γ' ∧ o = .cnt σ' h' ∧ NxS X Y Z Ns σ h r.ws r.as Γ' Z' Ns' σ' τ' h'
  | .exc c ts τ' => ∃ Γ' σ' h' Z' Ns', r.ex = some Γ' ∧ o = .exc c (embs ts) σ' h' ∧ flat0s ts = true ∧ NxS X Y Z Ns σ h r.ws r.as Γ' Z' Ns' σ' τ' h'
  | .ret t τ' => ∃ d σ' h' Z' Ns', o = .ret d h' ∧ NxS X Y Z Ns σ h r.ws r.as pin Z' Ns' σ' τ' h' ∧ KV X Y rk Z' Ns' h' d t τ'
theorem NxS.weak (n : NxS X Y Z Ns σ h ws as Γ Z1 Ns1 σ1 τ1 h1) (x : Xok X Y Z Ns h) (l : leG Γ Γ' = true) (sw : ∀ i, i ∈ ws → i ∈ ws') (sa : ∀ i, i ∈ as → i ∈ as') : ∃ Z2 Ns2, NxS X Y Z Ns σ h ws' as' Γ' Z2 Ns2 σ1 τ1 h1 ∧ Gr X Y Z1 Ns1 h1 Z2 Ns2 h1 [] := by
  obtain ⟨Z2, Ns2, I2, g2⟩ := n.inv.weak (n.gr.xok x) l
  exact ⟨Z2, Ns2, ⟨I2, (by simpa using n.gr.trans g2 : Gr X Y Z Ns h Z2 Ns2 h1 ws).mono sw, fun i hi => n.sg i fun z => hi (sa i z)⟩, g2⟩
theorem NxS.trans (a : NxS X Y Z Ns σ h ws as Γ1 Z1 Ns1 σ1 τ1 h1) (b : NxS X Y Z1 Ns1 σ1 h1 ws' as' Γ2 Z2 Ns2 σ2 τ2 h2) : NxS X Y Z Ns σ h (ws ++ ws') (as ++ as') Γ2 Z2 Ns2 σ2 τ2 h2 :=
  ⟨b.inv, a.gr.trans b.gr, fun i hi => by
    rw [List.mem_append] at hi
    exact (b.sg i fun z => hi (.inr z)).trans (a.sg i fun z => hi (.inl z))⟩
theorem Nx.s (n : Nx X Y Z Γ Ns σ τ h w m Z1 Ns1 τ1 h1) : NxS X Y Z Ns σ h w [] (inval Γ w m) Z1 Ns1 σ τ1 h1 := ⟨n.inv, n.gr, fun _ _ => rfl⟩
/-- wider -/
structure LeSR (r r' : SR) : Prop where
  nx : ∀ Γ, r.nx = some Γ → ∃ Γ', r'.nx = some Γ' ∧ leG Γ Γ' = true
  bk : ∀ Γ, r.bk = some Γ → ∃ Γ', r'.bk = some Γ' ∧ leG Γ Γ' = true
  ct : ∀ Γ, r.ct = some Γ → ∃ Γ', r'.ct = some Γ' ∧ leG Γ Γ' = true
  ex : ∀ Γ, r.ex = some Γ → ∃ Γ', r'.ex = some Γ' ∧ leG Γ Γ' = true
  ws : ∀ i, i ∈ r.ws → i ∈ r'.ws
  as : ∀ i, i ∈ r.as → i ∈ r'.as
theorem KV.gr {ty : Wy} {d : D} {t : T} (k : KV X Y ty Z Ns h d t τ) (I : Inv Z Y Γ Ns σ τ1 h) (x : Xok X Y Z Ns h) (l : leG Γ Γ' = true) : ∃ Z' Ns', Inv Z' Y Γ' Ns' σ τ1 h ∧ Gr X Y Z Ns h Z' Ns' h [] ∧ KV X Y ty Z' Ns' h d t τ2 := by
  obtain ⟨ni, N, v, p, nx⟩ := k
  obtain ⟨Z', Ns', I', g⟩ := I.weak (p.xok x) l
  refine ⟨Z', Ns', I', g.lessX fun _ q => .inl q, ni, N, v.go g (by cases ty <;> simp [Wy.free]) fun n hn => rfl, p.go g, nx⟩
theorem PstS.le {r r' : SR} {o : Out} {q : VO} (p : PstS rk pin X Y Z Ns σ h r o q) (x : Xok X Y Z Ns h) (l : LeSR r r') : PstS rk pin X Y Z Ns σ h r' o q := by
  cases q with
  | bad => exact trivial
  | next τ' =>
    obtain ⟨Γ1, σ1, h1, Z1, Ns1, e, eo, n⟩ := p
    obtain ⟨Γ2, e2, le⟩ := l.nx _ e
    obtain ⟨Z2, Ns2, n2, _⟩ := n.weak x le l.ws l.as
    exact ⟨Γ2, σ1, h1, Z2, Ns2, e2, eo, n2⟩
  | brk τ' =>
    obtain ⟨Γ1, σ1, h1, Z1, Ns1, e, eo, n⟩ := p
    obtain ⟨Γ2, e2, le⟩ := l.bk _ e
    obtain ⟨Z2, Ns2, n2, _⟩ := n.weak x le l.ws l.as
    exact ⟨Γ2, σ1, h1, Z2, Ns2, e2, eo, n2⟩
  | cnt τ' =>
    obtain ⟨Γ1, σ1, h1, Z1, Ns1, e, eo, n⟩ := p
    obtain ⟨Γ2, e2, le⟩ := l.ct _ e
    obtain ⟨Z2, Ns2, n2, _⟩ := n.weak x le l.ws l.as
    exact ⟨Γ2, σ1, h1, Z2, Ns2, e2, eo, n2⟩
  | exc c ts τ' =>
    obtain ⟨Γ1, σ1, h1, Z1, Ns1, e, eo, fl, n⟩ := p
    obtain ⟨Γ2, e2, le⟩ := l.ex _ e
    obtain ⟨Z2, Ns2, n2, _⟩ := n.weak x le l.ws l.as
    exact ⟨Γ2, σ1, h1, Z2, Ns2, e2, eo, fl, n2⟩
  | ret t τ' =>
    obtain ⟨d, σ1, h1, Z1, Ns1, eo, n, k⟩ := p
    exact ⟨d, σ1, h1, Z1, Ns1, eo, ⟨n.inv, n.gr.mono l.ws, fun i hi => n.sg i fun z => hi (l.as i z)⟩, k⟩
/-- behind a statement -/
theorem PstS.carry {r : SR} {o : Out} {q : VO} (n : NxS X Y Z Ns σ h ws as Γ1 Z1 Ns1 σ1 τ1 h1) (p : PstS rk pin X Y Z1 Ns1 σ1 h1 r o q) : PstS rk pin X Y Z Ns σ h { r with ws := ws ++ r.ws, as := as ++ r.as } o q := by
  cases q with
  | bad => exact trivial
  | next τ' =>
    obtain ⟨Γ1, σ1, h1, Z1, Ns1, e, eo, n2⟩ := p
    exact ⟨Γ1, σ1, h1, Z1, Ns1, e, eo, n.trans n2⟩
  | brk τ' =>
    obtain ⟨Γ1, σ1, h1, Z1, Ns1, e, eo, n2⟩ := p
    exact ⟨Γ1, σ1, h1, Z1, Ns1, e, eo, n.trans n2⟩
  | cnt τ' =>
    obtain ⟨Γ1, σ1, h1, Z1, Ns1, e, eo, n2⟩ := p
    exact ⟨Γ1, σ1, h1, Z1, Ns1, e, eo, n.trans n2⟩
  | exc c ts τ' =>
    obtain ⟨Γ1, σ1, h1, Z1, Ns1, e, eo, fl, n2⟩ := p
    exact ⟨Γ1, σ1, h1, Z1, Ns1, e, eo, fl, n.trans n2⟩
  | ret t τ' =>
    obtain ⟨d, σ1, h1, Z1, Ns1, eo, n2, k⟩ := p
    exact ⟨d, σ1, h1, Z1, Ns1, eo, n.trans n2, k⟩
theorem jo_ok {a b c : Option G} (e : joG a b = some c) : (∀ Γ, a = some Γ → ∃ Γ', c = some Γ' ∧ leG Γ Γ' = true) ∧ (∀ Γ, b = some Γ → ∃ Γ', c = some Γ' ∧ leG Γ Γ' = true) := by
  cases a with
  | none =>
    simp only [joG, Option.some.injEq] at e
    subst e
    exact ⟨fun Γ q => (by cases q), fun Γ q => ⟨Γ, q, leG_refl Γ⟩⟩
  | some x =>
    cases b with
    | none =>
      simp only [joG, Option.some.injEq] at e
      subst e
      exact ⟨fun Γ q => ⟨Γ, q, leG_refl Γ⟩, fun Γ q => (by cases q)⟩
    | some y =>
      simp only [joG] at e
      split at e
      · rename_i c
        rw [Bool.and_eq_true] at c
        cases e
        exact ⟨fun Γ q => (by cases q; exact ⟨_, rfl, c.1⟩), fun Γ q => (by cases q; exact ⟨_, rfl, c.2⟩)⟩
      · cases e
theorem both_ok {r1 r2 r : SR} {nx : Option G} (e : both r1 r2 nx = some r) : r.nx = nx ∧ r.ws = r1.ws ++ r2.ws ∧ r.as = r1.as ++ r2.as ∧
    (∀ Γ, r1.bk = some Γ → ∃ Γ', r.bk = some Γ' ∧ leG Γ Γ' = true) ∧ (∀ Γ, r1.ct = some Γ → ∃ Γ', r.ct = some Γ' ∧ leG Γ Γ' = true) ∧ (∀ Γ, r1.ex = some Γ → ∃ Γ', r.ex = some Γ' ∧ leG Γ Γ' = true) ∧
    (∀ Γ, r2.bk = some Γ → ∃ Γ', r.bk = some Γ' ∧ leG Γ Γ' = true) ∧ (∀ Γ, r2.ct = some Γ → ∃ Γ', r.ct = some Γ' ∧ leG Γ Γ' = true) ∧ (∀ Γ, r2.ex = some Γ → ∃ Γ', r.ex = some Γ' ∧ leG Γ Γ' = true) := by
  unfold both at e
  split at e
  · rename_i bk ct ex e1 e2 e3
    cases e
    exact ⟨rfl, rfl, rfl, (jo_ok e1).1, (jo_ok e2).1, (jo_ok e3).1, (jo_ok e1).2, (jo_ok e2).2, (jo_ok e3).2⟩
  · cases e
/-- an expression in a statement -/
theorem Pst.outS {K : (Nat → Prop) → Os → Hh → α → β → Sm → Prop} {r : Res α} {q : Q β} {f : α → Hh → Out} {g : β → Sm → VO} {R : SR} (p : Pst X Y Z Γ Ns σ τ h w m K r q) (x : Xok X Y Z Ns h) (ex : ∃ Γ', R.ex = some Γ' ∧ leG (inval Γ w m) Γ' = true) (sw : ∀ i, i ∈ w → i ∈ R.ws)
    (c : ∀ Z1 Ns1 h1 a b τ1, Nx X Y Z Γ Ns σ τ h w m Z1 Ns1 τ1 h1 → K Z1 Ns1 h1 a b τ1 → PstS rk pin X Y Z Ns σ h R (f a h1) (g b τ1)) : PstS rk pin X Y Z Ns σ h R (r.out σ f) (q.out g) := by
  cases q with
  | bad => exact trivial
  | exc cc ts τ' =>
    obtain ⟨h1, Z1, Ns1, rfl, fl, n⟩ := p
    obtain ⟨Γ', e, l⟩ := ex
    obtain ⟨Z2, Ns2, n2, _⟩ := n.s.weak x l sw (as' := R.as) (fun i hi => by cases hi)
    exact ⟨Γ', σ, h1, Z2, Ns2, e, rfl, fl, n2⟩
  | ok b τ1 =>
    obtain ⟨a, h1, Z1, Ns1, rfl, n, k⟩ := p
    exact c Z1 Ns1 h1 a b τ1 n k
end
end L3

namespace L3
open PySem L2
section
variable {α β : Type} {X Y Z Z1 Z2 : Nat → Prop} {Γ Γ' Γ1 Γ2 pin : G} {Ns Ns1 Ns2 : Os} {σ σ1 σ2 : Sl} {τ τ1 τ2 : Sm} {h h1 h2 : Hh} {w m w1 m1 w2 m2 ws as ws' as' : List Nat} {rk : Wy}
/-- slots get things of their own: M what each one owns -/
structure Put (Z Y : Nat → Prop) (Ns : Os) (h : Hh) (ty : Wy) (is : List Nat) (N : List Nat) (σ σ' : Sl) (τ τ' : Sm) (M : Os) : Prop where
  l1 : σ'.length = σ.length
  l2 : τ'.length = τ.length
  oth : ∀ i, i ∉ is → σ'[i]? = σ[i]? ∧ τ'[i]? = τ[i]?
  val : ∀ i, i ∈ is → i < σ.length → ∃ d' t', σ'[i]? = some (some d') ∧ τ'[i]? = some (some t') ∧ Val Z Y Ns h ty d' t' (M i)
  sub : ∀ i, (M i).Sublist N
  dj : ∀ i j n, n ∈ M i → n ∈ M j → i = j
  nil : ∀ i, i ∉ is → M i = []
def upM (Ns : Os) (is : List Nat) (M : Os) : Os := fun i => if i ∈ is then M i else Ns i
theorem upM_in {Ns M : Os} {is : List Nat} {i : Nat} (h : i ∈ is) : upM Ns is M i = M i := if_pos h
theorem upM_ne {Ns M : Os} {is : List Nat} {i : Nat} (h : i ∉ is) : upM Ns is M i = Ns i := if_neg h
theorem Put.inv {ty : Wy} {is N : List Nat} {σ' : Sl} {τ' : Sm} {M : Os} (P : Put Z Y Ns h ty is N σ σ' τ τ' M) (I : Inv Z Y Γ Ns σ τ h) (x : Xok X Y Z Ns h) (p : Tmp Z Y Ns h N) (nx : ∀ n, n ∈ N → ¬ X n) (fr : ty.free is = true) (hl : Γ'.length = σ.length)
    (hΓ : ∀ (i : Nat) (ty' : Wy), Γ'[i]? = some (some ty') → (i ∈ is ∧ ty' = ty) ∨ (i ∉ is ∧ Γ[i]? = some (some ty') ∧ ty'.free is = true)) :
    Inv Z Y Γ' (upM Ns is M) σ' τ' h ∧ Gr X Y Z Ns h Z (upM Ns is M) h is := by
  have nod : ∀ i n, n ∈ upM Ns is M i → (i ∈ is ∧ n ∈ M i ∧ n ∈ N) ∨ (i ∉ is ∧ n ∈ Ns i) := fun i n hn => by
    by_cases c : i ∈ is
    · rw [upM_in c] at hn; exact .inl ⟨c, hn, (P.sub i).subset hn⟩
    · rw [upM_ne c] at hn; exact .inr ⟨c, hn⟩
  have g : Gr X Y Z Ns h Z (upM Ns is M) h is := by
    refine ⟨Nat.le_refl _, fun _ _ => rfl, fun _ _ => rfl, fun n q => ⟨rfl, (x n q).2.1, fun i hi => ?_⟩, fun i hi n hn => ⟨rfl, .inl (by rw [upM_ne hi]; exact hn)⟩, fun _ z => z, fun _ _ z => z⟩
    rcases nod i n hi with ⟨_, _, q2⟩ | ⟨_, q2⟩
    · exact nx n q2 q
    · exact (x n q).2.2.2 i q2
  refine ⟨⟨by rw [P.l2, P.l1]; exact I.ln, by rw [P.l1]; exact hl, fun i ty' e => ?_, fun i => ?_, fun i j n hi hj => ?_, fun i n hn => ?_, I.zl, I.yl⟩, g⟩
  · have li : i < σ.length := by rw [← hl]; exact (List.getElem?_eq_some_iff.mp e).1
    rcases hΓ i ty' e with ⟨c, rfl⟩ | ⟨c, e1, f1⟩
    · obtain ⟨d', t', a, b, v⟩ := P.val i c li
      refine ⟨d', t', a, b, ?_⟩
      rw [upM_in c]
      exact v.go g fr fun _ _ => rfl
    · obtain ⟨d', t', a, b, v⟩ := I.val i ty' e1
      refine ⟨d', t', by rw [(P.oth i c).1]; exact a, by rw [(P.oth i c).2]; exact b, ?_⟩
      rw [upM_ne c]
      exact v.go g f1 fun _ _ => rfl
  · by_cases c : i ∈ is
    · rw [upM_in c]; exact (P.sub i).nodup p.nd
    · rw [upM_ne c]; exact I.nd i
  · rcases nod i n hi with ⟨c1, q1, r1⟩ | ⟨c1, q1⟩
    · rcases nod j n hj with ⟨c2, q2, r2⟩ | ⟨c2, q2⟩
      · exact P.dj i j n q1 q2
      · exact absurd q2 ((p.ow n r1).2.2.2 j)
    · rcases nod j n hj with ⟨c2, q2, r2⟩ | ⟨c2, q2⟩
      · exact absurd q1 ((p.ow n r2).2.2.2 i)
      · exact I.dj i j n q1 q2
  · rcases nod i n hn with ⟨c1, q1, r1⟩ | ⟨c1, q1⟩
    · exact ⟨(p.ow n r1).2.1, (p.ow n r1).2.2.1, (p.ow n r1).1⟩
    · exact I.ow i n q1
theorem put_one {ty : Wy} {d : D} {t : T} {N : List Nat} {i : Nat} (l : τ.length = σ.length) (v : Val Z Y Ns h ty d t N) : Put Z Y Ns h ty [i] N σ (σ.set i (some d)) τ (τ.set i (some t)) (fun j => if j = i then N else []) := by
  refine ⟨by simp, by simp, fun j hj => ?_, fun j hj lj => ?_, fun j => ?_, fun j k n hj hk => ?_, fun j hj => ?_⟩
  · have : i ≠ j := fun z => hj (by simp [z])
    exact ⟨List.getElem?_set_ne this, List.getElem?_set_ne this⟩
  · simp at hj
    subst hj
    exact ⟨d, t, List.getElem?_set_self lj, List.getElem?_set_self (by omega), by simpa using v⟩
  · split
    · exact .refl _
    · exact List.nil_sublist _
  · split at hj
    · split at hk
      · omega
      · cases hk
    · cases hj
  · have : j ≠ i := fun z => hj (by simp [z])
    simp [this]
/-- an owned tuple is taken apart -/
theorem putO : ∀ (g : Tg),
    (∀ {d : D} {t : T} {N : List Nat} {σ : Sl} {τ τ' : Sm}, W Z h d t N → N.Nodup → (tgs g).Nodup → τ.length = σ.length → asgV g t τ = some τ' → ∃ σ' M, asgT g d σ = some σ' ∧ Put Z Y Ns h .O (tgs g) N σ σ' τ τ' M) ∧
    (∀ {ds : List D} {ts : List T} {N : List Nat} {σ : Sl} {τ τ' : Sm}, Ws Z h ds ts N → N.Nodup → (tgs g).Nodup → τ.length = σ.length → asgVs g ts τ = some τ' → ∃ σ' M, asgTs g ds σ = some σ' ∧ Put Z Y Ns h .O (tgs g) N σ σ' τ τ' M) := by
  intro g
  induction g with
  | n i =>
    refine ⟨fun {d t N σ τ τ'} v nd ng l e => ?_, fun {ds ts N σ τ τ'} v nd ng l e => by simp [asgVs] at e⟩
    simp only [asgV, Option.some.injEq] at e
    subst e
    exact ⟨_, _, by simp [asgT], put_one l v⟩
  | tup ts ih =>
    refine ⟨fun {d t N σ τ τ'} v nd ng l e => ?_, fun {ds ts N σ τ τ'} v nd ng l e => by simp [asgVs] at e⟩
    cases t with
    | tup us =>
      cases v with
      | tup r =>
        simp only [asgV] at e
        obtain ⟨σ', M, e1, P⟩ := ih.2 r nd ng l e
        exact ⟨σ', M, by simp only [asgT]; exact e1, P⟩
    | _ => simp [asgV] at e
  | nil =>
    refine ⟨fun {d t N σ τ τ'} v nd ng l e => by simp [asgV] at e, fun {ds ts N σ τ τ'} v nd ng l e => ?_⟩
    cases ts with
    | nil =>
      simp only [asgVs, Option.some.injEq] at e
      subst e
      cases v
      exact ⟨σ, fun _ => [], by simp [asgTs], rfl, rfl, fun _ _ => ⟨rfl, rfl⟩, fun i hi => (by simp [tgs] at hi), fun _ => List.nil_sublist _, fun i j n hn => (by cases hn), fun _ _ => rfl⟩
    | cons _ _ => simp [asgVs] at e
  | cons a b iha ihb =>
    refine ⟨fun {d t N σ τ τ'} v nd ng l e => by simp [asgV] at e, fun {ds ts N σ τ τ'} v nd ng l e => ?_⟩
    cases ts with
    | nil => simp [asgVs] at e
    | cons t ts =>
      cases v with
      | @cons d _ es _ N1 N2 v1 v2 =>
        simp only [asgVs] at e
        cases q : asgV a t τ with
        | none => rw [q] at e; cases e
        | some τm =>
          rw [q] at e
          obtain ⟨nd1, nd2, nd12⟩ := List.nodup_append.mp nd
          simp only [tgs] at ng
          obtain ⟨ng1, ng2, ng12⟩ := List.nodup_append.mp ng
          obtain ⟨σm, Ma, e1, Pa⟩ := iha.1 v1 nd1 ng1 l q
          obtain ⟨σ', Mb, e2, Pb⟩ := ihb.2 (σ := σm) v2 nd2 ng2 (by rw [Pa.l1, Pa.l2]; exact l) e
          have dab : ∀ i, i ∈ tgs a → i ∉ tgs b := fun i x y => ng12 i x i y rfl
          refine ⟨σ', fun i => if i ∈ tgs a then Ma i else Mb i, by simp only [asgTs, e1, Option.bind_some]; exact e2, by rw [Pb.l1, Pa.l1], by rw [Pb.l2, Pa.l2], fun i hi => ?_, fun i hi li => ?_, fun i => ?_, fun i j n hi hj => ?_, fun i hi => ?_⟩
          · simp [tgs] at hi
            have x := Pa.oth i hi.1
            have y := Pb.oth i hi.2
            exact ⟨y.1.trans x.1, y.2.trans x.2⟩
          · by_cases c : i ∈ tgs a
            · obtain ⟨d', t', x1, x2, x3⟩ := Pa.val i c li
              have y := Pb.oth i (dab i c)
              exact ⟨d', t', by rw [y.1]; exact x1, by rw [y.2]; exact x2, by rw [if_pos c]; exact x3⟩
            · simp [tgs, c] at hi
              obtain ⟨d', t', x1, x2, x3⟩ := Pb.val i hi (by rw [Pa.l1]; exact li)
              exact ⟨d', t', x1, x2, by rw [if_neg c]; exact x3⟩
          · split
            · exact (Pa.sub i).trans (List.sublist_append_left _ _)
            · exact (Pb.sub i).trans (List.sublist_append_right _ _)
          · split at hi
            · split at hj
              · exact Pa.dj i j n hi hj
              · exact absurd rfl (nd12 n ((Pa.sub i).subset hi) n ((Pb.sub j).subset hj))
            · split at hj
              · exact absurd rfl (nd12 n ((Pa.sub j).subset hj) n ((Pb.sub i).subset hi))
              · exact Pb.dj i j n hi hj
          · simp [tgs] at hi
            rw [if_neg hi.1]
            exact Pb.nil i hi.2
/-- whatever is held is taken apart -/
theorem put_any {g : Tg} {ty : Wy} {d : D} {t : T} {N : List Nat} {τ' : Sm} (ni : ty ≠ .I) (v : Val Z Y Ns h ty d t N) (nd : N.Nodup) (ng : (tgs g).Nodup) (l : τ.length = σ.length) (e : asgV g t τ = some τ') : ∃ σ' M, asgT g d σ = some σ' ∧ Put Z Y Ns h ty (tgs g) N σ σ' τ τ' M := by
  have fb : FB ty = true → ∃ σ' M, asgT g d σ = some σ' ∧ Put Z Y Ns h ty (tgs g) N σ σ' τ τ' M := fun f => by
    obtain ⟨σ', e1, l1, l2, o, n⟩ := (asg_ok f g).1 (v.any (N' := []) f) l e
    exact ⟨σ', fun _ => [], e1, l1, l2, o, n, fun _ => List.nil_sublist _, fun i j n hn => (by cases hn), fun _ _ => rfl⟩
  cases ty with
  | F => exact fb rfl
  | B rs => exact fb rfl
  | O => exact (putO g).1 v nd ng l e
  | I => exact absurd rfl ni
/-- behind an expression, slots get its value -/
theorem put_nxS {g : Tg} {ty : Wy} {d : D} {t : T} {τ' : Sm} (n : Nx X Y Z Γ Ns σ τ h w m Z1 Ns1 τ1 h1) (x : Xok X Y Z Ns h) (k : KV X Y ty Z1 Ns1 h1 d t τ1) (ng : (tgs g).Nodup) (fr : ty.free (tgs g) = true) (e : asgV g t τ1 = some τ') :
    ∃ σ' Ns2, asgT g d σ = some σ' ∧ NxS X Y Z Ns σ h (w ++ tgs g) (m ++ tgs g) (asgG g ty (inval Γ w m)) Z1 Ns2 σ' τ' h1 := by
  obtain ⟨ni, N, v, p, nx⟩ := k
  obtain ⟨σ', M, e1, P⟩ := put_any ni v p.nd ng n.inv.ln e
  obtain ⟨I2, g2⟩ := P.inv (Γ' := asgG g ty (inval Γ w m)) n.inv (n.xok x) p nx fr (by rw [asgG_len]; exact n.inv.lg) fun i ty' q => asgG_get q
  exact ⟨σ', _, e1, I2, n.gr.trans g2, fun i hi => (P.oth i fun z => hi (by simp [z])).1⟩
theorem asgG_one {i : Nat} {ty : Wy} : asgG (.n i) ty Γ = (inval Γ [i] [i]).set i (some ty) := rfl
/-- twoV slots at once -/
theorem put_two {i j : Nat} {tx ty : Wy} {d1 d2 : D} {t1 t2 : T} (n : Nx X Y Z Γ Ns σ τ h w m Z1 Ns1 τ1 h1) (x : Xok X Y Z Ns h) (k : K12 X Y tx ty Z1 Ns1 h1 d1 t1 d2 t2 τ1) (ij : i ≠ j) (fx : tx.free [i, j] = true) (fy : ty.free [i, j] = true) :
    ∃ Ns2, NxS X Y Z Ns σ h (w ++ [i, j]) (m ++ [i, j]) (((inval (inval Γ w m) [i, j] [i, j]).set i (some tx)).set j (some ty)) Z1 Ns2 ((σ.set i (some d1)).set j (some d2)) ((τ1.set i (some t1)).set j (some t2)) h1 := by
  obtain ⟨ni1, ni2, N1, N2, v1, v2, p, nx⟩ := k
  have I1 := n.inv
  have P1 := put_one (i := i) I1.ln v1
  have lΓ : (inval Γ w m).length = σ.length := I1.lg
  obtain ⟨Ia, ga⟩ := P1.inv (X := xN X N2) (Γ' := asgG (.n i) tx (inval Γ w m)) I1 (p.right.xok (n.xok x)) p.left (fun k hk q => by
    rcases q with q | q
    · exact nx k (by simp [hk]) q
    · exact (List.nodup_append.mp p.nd).2.2 k hk k q rfl) (free_sub fx (fun k hk => by simp at hk; simp [hk])) (by rw [asgG_len]; exact lΓ) (fun k ty' q => asgG_get (g := .n i) q)
  have p2 := p.right.go ga
  have v2' := v2.go ga (free_sub fy (fun k hk => by simp at hk; simp [hk])) fun k hk => ga.xNs k hk
  have P2 := put_one (i := j) Ia.ln v2'
  have xa : Xok X Y Z1 (upM Ns1 [i] fun j => if j = i then N1 else []) h1 := fun k q => (ga.xok (p.right.xok (n.xok x))) k (.inl q)
  obtain ⟨Ib, gb⟩ := P2.inv (Γ' := ((inval (inval Γ w m) [i, j] [i, j]).set i (some tx)).set j (some ty)) Ia xa p2 (fun k hk => nx k (by simp [hk])) (free_sub fy (fun k hk => by simp at hk; simp [hk])) (by simp [inval_len] at lΓ ⊢; exact lΓ) (fun k ty' q => by
    by_cases c : k = j
    · subst c
      by_cases l : k < ((inval (inval Γ w m) [i, k] [i, k]).set i (some tx)).length
      · rw [List.getElem?_set_self l] at q
        simp at q
        exact .inl ⟨by simp, q.symm⟩
      · rw [List.getElem?_eq_none (by simpa using l)] at q
        cases q
    · rw [List.getElem?_set_ne (Ne.symm c)] at q
      refine .inr ⟨by simpa using c, ?_⟩
      by_cases c2 : k = i
      · subst c2
        by_cases l : k < (inval (inval Γ w m) [k, j] [k, j]).length
        · rw [List.getElem?_set_self l] at q
          simp at q
          subst q
          refine ⟨?_, free_sub fx (fun k hk => by simp at hk; simp [hk])⟩
          rw [asgG_one, List.getElem?_set_self (by rw [inval_len] at l ⊢; exact l)]
        · rw [List.getElem?_eq_none (by simpa using l)] at q
          cases q
      · rw [List.getElem?_set_ne (Ne.symm c2)] at q
        obtain ⟨a1, b1, c1⟩ := inval_some q
        refine ⟨asgG_of (by simpa [tgs] using c2) a1 (free_sub c1 fun k hk => by simp [tgs] at hk; simp [hk]), free_sub c1 fun k hk => by simp at hk; simp [hk]⟩)
  refine ⟨_, Ib, ((n.gr.trans ((ga.lessX fun _ q => .inl q).trans gb)).mono fun k hk => by simpa using hk), fun k hk => ?_⟩
  simp at hk
  rw [List.getElem?_set_ne (fun z => hk.2.2 z.symm), List.getElem?_set_ne (fun z => hk.2.1 z.symm)]
end
end L3

namespace L3
open PySem L2
def Sok (s : VS) : Prop := ∀ {rk : Wy} {pin : G} {X Y Z : Nat → Prop} {Γ : G} {Ns : Os} {σ : Sl} {τ : Sm} {h : Hh} {r : SR}, s.uni → Inv Z Y Γ Ns σ τ h → Xok X Y Z Ns h → st rk pin s Γ = some r → PstS rk pin X Y Z Ns σ h r (exec (erS s) σ h) (vx s τ)
section
variable {α β : Type} {X X' Y Z Z1 Z2 : Nat → Prop} {Γ Γ' Γ1 Γ2 pin : G} {Ns Ns1 Ns2 : Os} {σ σ1 σ2 : Sl} {τ τ1 τ2 : Sm} {h h1 h2 : Hh} {w m w1 m1 w2 m2 ws as ws' as' wf mf : List Nat} {rk : Wy}
theorem Pst.goS {K : (Nat → Prop) → Os → Hh → α → β → Sm → Prop} {r : Res α} {q : Q β} {f : α → Hh → Out} {g : β → Sm → VO} {R : SR} (n : Nx X Y Z Γ Ns σ τ h w1 m1 Z1 Ns1 τ1 h1) (P : Pst X' Y Z1 Γ' Ns1 σ τ1 h1 w2 m2 K r q) (x : Xok X Y Z Ns h) (sX : ∀ n, X n → X' n) (sΓ : ∀ (i : Nat) (ty : Wy), (inval Γ wf mf)[i]? = some (some ty) → (inval Γ' w2 m2)[i]? = some (some ty)) (ex : ∃ Γ', R.ex = some Γ' ∧ leG (inval Γ wf mf) Γ' = true) (sw : ∀ i, i ∈ w1 ++ w2 → i ∈ wf) (sw2 : ∀ i, i ∈ wf → i ∈ R.ws)
    (c : ∀ Z2 Ns2 h2 a b τ2, Nx X' Y Z1 Γ' Ns1 σ τ1 h1 w2 m2 Z2 Ns2 τ2 h2 → K Z2 Ns2 h2 a b τ2 → PstS rk pin X Y Z Ns σ h R (f a h2) (g b τ2)) : PstS rk pin X Y Z Ns σ h R (r.out σ f) (q.out g) := by
  cases q with
  | bad => exact trivial
  | exc cc ts τ' =>
    obtain ⟨h', Z', Ns', rfl, fl, k⟩ := P
    obtain ⟨Γ3, e, l⟩ := ex
    obtain ⟨Z3, Ns3, n3, _⟩ := (n.comp k sX sw sΓ).s.weak x l sw2 (as' := R.as) (fun i hi => by cases hi)
    exact ⟨Γ3, σ, h', Z3, Ns3, e, rfl, fl, n3⟩
  | ok b τ' =>
    obtain ⟨a, h', Z', Ns', rfl, k, kk⟩ := P
    exact c Z' Ns' h' a b τ' k kk
theorem LeSR.refl (r : SR) : LeSR r r := ⟨fun Γ e => ⟨Γ, e, leG_refl Γ⟩, fun Γ e => ⟨Γ, e, leG_refl Γ⟩, fun Γ e => ⟨Γ, e, leG_refl Γ⟩, fun Γ e => ⟨Γ, e, leG_refl Γ⟩, fun _ h => h, fun _ h => h⟩
/-- the first of twoV -/
theorem LeSR.fst {r1 r2 r : SR} {nx : Option G} (e : both r1 r2 nx = some r) (n : ∀ Γ, r1.nx = some Γ → ∃ Γ', nx = some Γ' ∧ leG Γ Γ' = true) : LeSR r1 r := by
  obtain ⟨a, b, c, d1, d2, d3, _⟩ := both_ok e
  exact ⟨fun Γ q => by rw [a]; exact n Γ q, d1, d2, d3, fun i hi => by rw [b]; exact List.mem_append_left _ hi, fun i hi => by rw [c]; exact List.mem_append_left _ hi⟩
theorem LeSR.snd {r1 r2 r : SR} {nx : Option G} (e : both r1 r2 nx = some r) (n : ∀ Γ, r2.nx = some Γ → ∃ Γ', nx = some Γ' ∧ leG Γ Γ' = true) : LeSR r2 r := by
  obtain ⟨a, b, c, _, _, _, d1, d2, d3⟩ := both_ok e
  exact ⟨fun Γ q => by rw [a]; exact n Γ q, d1, d2, d3, fun i hi => by rw [b]; exact List.mem_append_right _ hi, fun i hi => by rw [c]; exact List.mem_append_right _ hi⟩
theorem NxS.refl (I : Inv Z Y Γ Ns σ τ h) (x : Xok X Y Z Ns h) : NxS X Y Z Ns σ h ws as Γ Z Ns σ τ h := ⟨I, .refl x, fun _ _ => rfl⟩
theorem sok_nil : Sok .nil := fun _ I x e => by cases e; exact ⟨_, _, _, _, _, rfl, rfl, .refl I x⟩
theorem sok_pass : Sok .pass := fun _ I x e => by cases e; exact ⟨_, _, _, _, _, rfl, rfl, .refl I x⟩
theorem sok_brk : Sok .brk := fun _ I x e => by cases e; exact ⟨_, _, _, _, _, rfl, rfl, .refl I x⟩
theorem sok_cnt : Sok .cnt := fun _ I x e => by cases e; exact ⟨_, _, _, _, _, rfl, rfl, .refl I x⟩
theorem sok_never : Sok .never := fun _ I x e => trivial
theorem sok_cons {s r : VS} (A : Sok s) (B : Sok r) : Sok (.cons s r) := by
  intro rk pin X Y Z Γ Ns σ τ h R u I x e
  simp only [st] at e
  show PstS rk pin X Y Z Ns σ h R ((exec (erS s) σ h).seq (exec (erS r))) ((vx s τ).seq (vx r))
  cases e1 : st rk pin s Γ with
  | none => rw [e1] at e; cases e
  | some r1 =>
    rw [e1] at e
    dsimp only at e
    have P := A u.1 I x e1
    cases en : r1.nx with
    | none =>
      rw [en] at e
      cases e
      cases ev : vx s τ with
      | next τ1 =>
        rw [ev] at P
        obtain ⟨Γ1, _, _, _, _, e2, _⟩ := P
        rw [en] at e2
        cases e2
      | bad => exact trivial
      | ret t τ1 => rw [ev] at P; obtain ⟨d, σ1, h1, Z1, Ns1, eo, n, k⟩ := P; rw [eo]; exact ⟨d, σ1, h1, Z1, Ns1, rfl, n, k⟩
      | brk τ1 => rw [ev] at P; obtain ⟨Γ1, σ1, h1, Z1, Ns1, e2, eo, n⟩ := P; rw [eo]; exact ⟨Γ1, σ1, h1, Z1, Ns1, e2, rfl, n⟩
      | cnt τ1 => rw [ev] at P; obtain ⟨Γ1, σ1, h1, Z1, Ns1, e2, eo, n⟩ := P; rw [eo]; exact ⟨Γ1, σ1, h1, Z1, Ns1, e2, rfl, n⟩
      | exc c ts τ1 => rw [ev] at P; obtain ⟨Γ1, σ1, h1, Z1, Ns1, e2, eo, fl, n⟩ := P; rw [eo]; exact ⟨Γ1, σ1, h1, Z1, Ns1, e2, rfl, fl, n⟩
    | some Γ1 =>
      rw [en] at e
      dsimp only at e
      cases e2 : st rk pin r Γ1 with
      | none => rw [e2] at e; cases e
      | some r2 =>
        rw [e2] at e
        dsimp only at e
        obtain ⟨b1, b2, b3, c1, c2, c3, d1, d2, d3⟩ := both_ok e
        have up : ∀ {q : VO} {o : Out}, (∀ τ', q ≠ .next τ') → PstS rk pin X Y Z Ns σ h r1 o q → PstS rk pin X Y Z Ns σ h R o q := by
          intro q o nn p
          have z := p
          have l : LeSR { r1 with nx := none } R := ⟨fun Γ q => (by cases q), c1, c2, c3, fun i hi => by rw [b2]; exact List.mem_append_left _ hi, fun i hi => by rw [b3]; exact List.mem_append_left _ hi⟩
          refine PstS.le (r := { r1 with nx := none }) ?_ x l
          cases q with
          | next τ' => exact absurd rfl (nn τ')
          | _ => exact z
        cases ev : vx s τ with
        | next τ1 =>
          rw [ev] at P
          obtain ⟨Γ1', σ1, h1, Z1, Ns1, e3, eo, n⟩ := P
          rw [en] at e3
          cases e3
          rw [eo]
          show PstS rk pin X Y Z Ns σ h R (exec (erS r) σ1 h1) (vx r τ1)
          have P2 := (B u.2 n.inv (n.gr.xok x) e2).carry n
          refine P2.le x ⟨fun Γ q => ?_, d1, d2, d3, fun i hi => by rw [b2]; exact hi, fun i hi => by rw [b3]; exact hi⟩
          rw [b1]
          exact ⟨Γ, q, leG_refl Γ⟩
        | bad => exact trivial
        | ret t τ1 => rw [ev] at P; have := up (fun _ q => by cases q) P; obtain ⟨d, σ1, h1, Z1, Ns1, eo, n, k⟩ := this; rw [eo]; exact ⟨d, σ1, h1, Z1, Ns1, rfl, n, k⟩
        | brk τ1 => rw [ev] at P; have := up (fun _ q => by cases q) P; obtain ⟨Γ1, σ1, h1, Z1, Ns1, e2, eo, n⟩ := this; rw [eo]; exact ⟨Γ1, σ1, h1, Z1, Ns1, e2, rfl, n⟩
        | cnt τ1 => rw [ev] at P; have := up (fun _ q => by cases q) P; obtain ⟨Γ1, σ1, h1, Z1, Ns1, e2, eo, n⟩ := this; rw [eo]; exact ⟨Γ1, σ1, h1, Z1, Ns1, e2, rfl, n⟩
        | exc c ts τ1 => rw [ev] at P; have := up (fun _ q => by cases q) P; obtain ⟨Γ1, σ1, h1, Z1, Ns1, e2, eo, fl, n⟩ := this; rw [eo]; exact ⟨Γ1, σ1, h1, Z1, Ns1, e2, rfl, fl, n⟩
theorem sok_expr (e : VE) : Sok (.expr e) := by
  intro rk pin X Y Z Γ Ns σ τ h R u I x q
  simp only [st] at q
  cases e1 : (et e).v Γ with
  | none => rw [e1] at q; cases q
  | some r =>
    obtain ⟨ty, w, m⟩ := r
    rw [e1] at q
    cases q
    show PstS rk pin X Y Z Ns σ h (sE Γ w m) (((den (er e)).v σ h).out σ fun _ h1 => .next σ h1) (((vd e).v τ).out fun _ τ1 => .next τ1)
    refine ((sndV_all e).v I x e1).outS x ⟨_, rfl, leG_refl _⟩ (fun i hi => hi) fun Z1 Ns1 h1 d t τ1 n k => ⟨_, _, _, _, _, rfl, rfl, n.inv, n.gr, fun _ _ => rfl⟩
theorem sok_asg (i : Nat) (e : VE) : Sok (.asg i e) := by
  intro rk pin X Y Z Γ Ns σ τ h R u I x q
  simp only [st] at q
  cases e1 : (et e).v Γ with
  | none => rw [e1] at q; cases q
  | some r =>
    obtain ⟨ty, w, m⟩ := r
    rw [e1] at q
    dsimp only at q
    split at q
    · rename_i c
      rw [Bool.and_eq_true] at c
      cases q
      show PstS rk pin X Y Z Ns σ h _ (((den (er e)).v σ h).out σ fun d h1 => .next (σ.set i (some d)) h1) (((vd e).v τ).out fun t τ1 => .next (τ1.set i (some t)))
      refine ((sndV_all e).v I x e1).outS x ⟨_, rfl, leG_refl _⟩ (fun i hi => by simp [hi]) fun Z1 Ns1 h1 d t τ1 n k => ?_
      obtain ⟨σ', Ns2, e2, n2⟩ := put_nxS (g := .n i) (τ' := τ1.set i (some t)) n x k (by simp [tgs]) c.1 (by simp [asgV])
      simp only [asgT, Option.some.injEq] at e2
      subst e2
      exact ⟨_, _, _, _, _, rfl, rfl, n2⟩
    · cases q
theorem sok_unp (g : Tg) (e : VE) : Sok (.unp g e) := by
  intro rk pin X Y Z Γ Ns σ τ h R u I x q
  simp only [st] at q
  cases e1 : (et e).v Γ with
  | none => rw [e1] at q; cases q
  | some r =>
    obtain ⟨ty, w, m⟩ := r
    rw [e1] at q
    dsimp only at q
    split at q
    · rename_i c
      simp only [Bool.and_eq_true, decide_eq_true_eq] at c
      cases q
      show PstS rk pin X Y Z Ns σ h _ (((den (er e)).v σ h).out σ fun d h1 => unpR g d σ h1) (((vd e).v τ).out fun t τ1 => unpQ g t τ1)
      refine ((sndV_all e).v I x e1).outS x ⟨_, rfl, leG_refl _⟩ (fun i hi => by simp [hi]) fun Z1 Ns1 h1 d t τ1 n k => ?_
      unfold unpQ unpR
      cases ea : asgV g t τ1 with
      | none => exact trivial
      | some τ' =>
        obtain ⟨σ', Ns2, e2, n2⟩ := put_nxS n x k c.2 c.1.1 ea
        rw [e2]
        exact ⟨_, _, _, _, _, rfl, rfl, n2⟩
    · cases q
theorem sok_par (i j : Nat) (a b : VE) : Sok (.par i j a b) := by
  intro rk pin X Y Z Γ Ns σ τ h R u I x q
  simp only [st] at q
  cases e0 : twoV (et a).v (et b).v (fun x y => some (x, y)) Γ with
  | none => rw [e0] at q; cases q
  | some r =>
    obtain ⟨⟨tx, ty⟩, w, m⟩ := r
    rw [e0] at q
    dsimp only at q
    split at q
    · rename_i c
      simp only [Bool.and_eq_true, decide_eq_true_eq] at c
      obtain ⟨⟨⟨⟨fx, fy⟩, _⟩, _⟩, ij⟩ := c
      cases q
      unfold twoV at e0
      split at e0
      · cases e0
      · rename_i tx' w1 m1 e1
        split at e0
        · cases e0
        · rename_i ty' w2 m2 e2
          split at e0
          · rename_i fr
            cases e0
            show PstS rk pin X Y Z Ns σ h _ (((den (er a)).v σ h).out σ fun x h1 => ((den (er b)).v σ h1).out σ fun y h2 => .next ((σ.set i (some x)).set j (some y)) h2) (((vd a).v τ).out fun x τ1 => ((vd b).v τ1).out fun y τ2 => .next ((τ2.set i (some x)).set j (some y)))
            have PA := (sndV_all a).v I x e1
            cases qa : (vd a).v τ with
            | bad => exact trivial
            | exc cc ts τ' =>
              rw [qa] at PA
              obtain ⟨h', Z', Ns', er, fl, n⟩ := PA
              rw [er]
              exact ⟨_, σ, h', Z', Ns', rfl, rfl, fl, (n.left (w2 := w2) (m2 := m2)).inv, n.gr.mono fun i hi => by simp [hi], fun _ _ => rfl⟩
            | ok t1 τ1 =>
              rw [qa] at PA
              obtain ⟨d1, h1, Z1, Ns1, er, n, k⟩ := PA
              rw [er]
              obtain ⟨ni, N, v, p, nx⟩ := k
              show PstS rk pin X Y Z Ns σ h _ (((den (L3.er b)).v σ h1).out σ fun y h2 => .next ((σ.set i (some d1)).set j (some y)) h2) (((vd b).v τ1).out fun y τ2 => .next ((τ2.set i (some t1)).set j (some y)))
              refine Pst.goS (wf := w1 ++ w2) (mf := m1 ++ m2) n ((sndV_all b).v n.inv (p.xok (n.xok x)) e2) x (fun _ q => .inl q) inval_app ⟨_, rfl, leG_refl _⟩ (fun i hi => hi) (fun i hi => by simp at hi ⊢; rcases hi with hi | hi <;> simp [hi]) fun Z2 Ns2 h2 d2 t2 τ2 k2 kv => ?_
              have k12 := KV.and ni v p nx k2 fr kv
              obtain ⟨Ns3, n3⟩ := put_two (n.trans (k2.lessX fun _ q => .inl q)) x k12 ij fx fy
              exact ⟨_, _, _, _, _, rfl, rfl, n3⟩
          · cases e0
    · cases q
theorem sok_ret (e : VE) : Sok (.ret e) := by
  intro rk pin X Y Z Γ Ns σ τ h R u I x q
  simp only [st] at q
  cases e1 : (et e).v Γ with
  | none => rw [e1] at q; cases q
  | some r =>
    obtain ⟨ty, w, m⟩ := r
    rw [e1] at q
    dsimp only at q
    split at q
    · rename_i c
      rw [Bool.and_eq_true] at c
      cases q
      show PstS rk pin X Y Z Ns σ h _ (((den (er e)).v σ h).out σ fun d h1 => .ret d h1) (((vd e).v τ).out fun t τ1 => .ret t τ1)
      refine ((sndV_all e).v I x e1).outS x ⟨_, rfl, leG_refl _⟩ (fun i hi => hi) fun Z1 Ns1 h1 d t τ1 n k => ?_
      obtain ⟨Z2, n2, k2⟩ := k.le n x c.1
      obtain ⟨Z3, Ns3, I3, g3, k3⟩ := k2.gr n2.inv (n2.xok x) c.2
      exact ⟨d, σ, h1, Z3, Ns3, rfl, ⟨I3, (by simpa using n2.gr.trans g3 : Gr X Y Z Ns h Z3 Ns3 h1 w), fun _ _ => rfl⟩, k3⟩
    · cases q
theorem sok_retN : Sok .retN := by
  intro rk pin X Y Z Γ Ns σ τ h R u I x q
  simp only [st] at q
  split at q
  · rename_i c
    rw [Bool.and_eq_true] at c
    cases q
    obtain ⟨Z2, n2, k2⟩ := KV.le (Nx.refl I x) x (KV.flat0 (t := .non) (τ := τ) rfl) c.1
    obtain ⟨Z3, Ns3, I3, g3, k3⟩ := k2.gr (n2.inv.less I.lg (inval_nil Γ)) (n2.xok x) c.2
    exact ⟨.non, σ, h, Z3, Ns3, rfl, ⟨I3, (by simpa using n2.gr.trans g3 : Gr X Y Z Ns h Z3 Ns3 h []), fun _ _ => rfl⟩, k3⟩
  · cases q
theorem sok_ife (c : VE) {t u : VS} (A : Sok t) (B : Sok u) : Sok (.ife c t u) := by
  intro rk pin X Y Z Γ Ns σ τ h R un I x q
  simp only [st] at q
  cases e1 : (et c).t Γ with
  | none => rw [e1] at q; cases q
  | some r =>
    obtain ⟨w, m⟩ := r
    rw [e1] at q
    dsimp only at q
    split at q
    · rename_i r1 r2 e2 e3
      cases e4 : joG r1.nx r2.nx with
      | none => rw [e4] at q; cases q
      | some nx =>
        rw [e4] at q
        dsimp only at q
        cases e5 : both r1 r2 nx with
        | none => rw [e5] at q; cases q
        | some r =>
          rw [e5] at q
          dsimp only at q
          obtain ⟨j1, j2⟩ := jo_ok e4
          have l1 := LeSR.fst e5 j1
          have l2 := LeSR.snd e5 j2
          obtain ⟨b1, b2, b3, c1, c2, c3, d1, d2, d3⟩ := both_ok q
          obtain ⟨f1, _⟩ := both_ok e5
          show PstS rk pin X Y Z Ns σ h R (((den (er c)).t σ h).out σ fun k h1 => if k = true then exec (erS t) σ h1 else exec (erS u) σ h1) (((vd c).t τ).out fun k τ1 => if k = true then vx t τ1 else vx u τ1)
          refine ((sndV_all c).t I x e1).outS x (c3 _ rfl) (fun i hi => by rw [b2]; exact List.mem_append_left _ hi) fun Z1 Ns1 h1 k k' τ1 n kv => ?_
          cases kv
          have lift : ∀ {r' : SR} {o : Out} {q' : VO}, LeSR r' r → PstS rk pin X Y Z1 Ns1 σ h1 r' o q' → PstS rk pin X Y Z Ns σ h R o q' := fun {r' o q'} l p => by
            refine ((p.le (n.xok x) l).carry n.s).le x ⟨fun Γ q => ?_, d1, d2, d3, fun i hi => by rw [b2]; exact hi, fun i hi => by rw [b3]; simp at hi ⊢; simp [hi, sE]⟩
            rw [b1]
            replace q : r.nx = some Γ := q
            rw [f1] at q
            exact ⟨Γ, q, leG_refl Γ⟩
          cases k with
          | true => exact lift l1 (A un.1 n.inv (n.xok x) e2)
          | false => exact lift l2 (B un.2 n.inv (n.xok x) e3)
    · cases q
end
end L3

namespace L3
open PySem L2
section
variable {α β : Type} {X X' Y Z Z1 Z2 : Nat → Prop} {Γ Γ' Γ1 Γ2 pin : G} {Ns Ns1 Ns2 : Os} {σ σ1 σ2 : Sl} {τ τ1 τ2 : Sm} {h h1 h2 : Hh} {w m w1 m1 w2 m2 ws as ws' as' wf mf : List Nat} {rk : Wy}
theorem ws_set {ds : List D} {ts : List T} {M0 Nv : List Nat} {j : Nat} {d : D} {t : T} {h' : Hh} (lj : j < ts.length) (ws : Ws Z h ds ts M0) (nd : M0.Nodup) (nv : Nv.Nodup) (dj : ∀ k, k ∈ Nv → k ∉ M0) (sz : ∀ k, Z k → h'[k]? = h[k]?) (s0 : ∀ k ∈ M0, h'[k]? = h[k]?) (wv : W Z h' d t Nv) : ∃ M1, Ws Z h' (ds.set j d) (ts.set j t) M1 ∧ M1.Nodup ∧ ∀ k, k ∈ M1 → k ∈ M0 ∨ k ∈ Nv := by
  obtain ⟨d0, A, M, B, e0, w0, rfl, put⟩ := ws.focus (List.getElem?_eq_getElem lj)
  rw [List.nodup_append] at nd
  obtain ⟨n1, n2, n3⟩ := nd
  rw [List.nodup_append] at n1
  refine ⟨A ++ Nv ++ B, put Z h' d t Nv (fun _ z => z) sz (fun k hk => s0 k (by simp at hk ⊢; rcases hk with hk | hk <;> simp [hk])) wv, List.nodup_append.mpr ⟨List.nodup_append.mpr ⟨n1.1, nv, fun a ha b hb q => dj b hb (by subst q; simp [ha])⟩, n2, fun a ha b hb q => ?_⟩, fun k hk => ?_⟩
  · subst q
    rcases List.mem_append.mp ha with z | z
    · exact n3 a (List.mem_append_left _ z) a hb rfl
    · exact dj a z (by simp [hb])
  · simp only [List.mem_append] at hk
    rcases hk with (hk | hk) | hk
    · exact .inl (by simp [hk])
    · exact .inr hk
    · exact .inl (by simp [hk])
theorem ws_put {ds : List D} {ts : List T} {M0 Nv : List Nat} {j : Nat} {d : D} {t : T} {h' : Hh} (ws : Ws Z h ds ts M0) (nd : M0.Nodup) (nv : Nv.Nodup) (dj : ∀ k, k ∈ Nv → k ∉ M0) (sz : ∀ k, Z k → h'[k]? = h[k]?) (s0 : ∀ k ∈ M0, h'[k]? = h[k]?) (wv : W Z h' d t Nv) : ∃ M1, Ws Z h' (putD j d ds) (putT j t ts) M1 ∧ M1.Nodup ∧ ∀ k, k ∈ M1 → k ∈ M0 ∨ k ∈ Nv := by
  unfold putD putT
  by_cases c : j < ts.length
  · rw [if_pos c, if_pos (by rw [ws.length]; exact c)]
    exact ws_set c ws nd nv dj sz s0 wv
  · rw [if_neg c, if_neg (by rw [ws.length]; exact c)]
    refine ⟨M0 ++ (Nv ++ []), (ws.mono (fun _ z => z) sz s0).append (.cons wv .nil), ?_, fun k hk => by simpa using hk⟩
    rw [List.append_nil]
    exact List.nodup_append.mpr ⟨nd, nv, fun a ha b hb q => dj b hb (q ▸ ha)⟩
/-- an object at the end of a path is written -/
theorem ins_nx {r c : Nat} {s : List Stp} {d : D} {ts ts' : List T} {Nv : List Nat} {f : List D → List D} (im : imm c = false) (I : Inv Z Y Γ Ns σ τ h) (x : Xok X Y Z Ns h) (hΓ : Γ[r]? = some (some .O)) (k : PathK Z Ns σ h τ d r s) (g : getR τ r s = some (.ins c ts))
    (pv : Tmp Z Y Ns h Nv) (nx : ∀ n, n ∈ Nv → ¬ X n)
    (hw : ∀ (ds : List D) (M0 : List Nat) (h' : Hh), M0.Nodup → (∀ k ∈ M0, k ∈ Ns r) → Ws Z h ds ts M0 → (∀ k, Z k → h'[k]? = h[k]?) → (∀ k ∈ M0, h'[k]? = h[k]?) → (∀ k ∈ Nv, h'[k]? = h[k]?) → ∃ M1, Ws Z h' (f ds) ts' M1 ∧ M1.Nodup ∧ ∀ k, k ∈ M1 → k ∈ M0 ∨ k ∈ Nv) :
    ∃ n ds N', d = .ref n ∧ h[n]? = some (.ins c ds) ∧ ds.length = ts.length ∧ Nx X Y Z Γ Ns σ τ h [r] [] Z (upN Ns r N') (setR τ r s (.ins c ts')) (h.set n (.ins c (f ds))) := by
  obtain ⟨d0, t0, u, f1, f2, wv, f3, f4⟩ := k
  unfold getR at g
  rw [f2] at g
  dsimp only at g
  rw [f3] at g
  cases g
  obtain ⟨d1, A, M, B, P⟩ := W.path s wv f3
  have ed := P.dp h fun _ _ => rfl
  rw [f4] at ed
  cases ed
  have wu := P.w
  have ndN := I.nd r
  rw [P.e] at ndN
  have ndM : M.Nodup := (List.nodup_append.mp (List.nodup_append.mp ndN).1).2.1
  have inN : ∀ n, n ∈ M → n ∈ Ns r := fun n hn => by rw [P.e]; simp [hn]
  cases wu with
  | imm mm _ _ _ => rw [im] at mm; cases mm
  | @ins n c ds ts M0 mm q ws =>
    obtain ⟨nM0, ndM0⟩ := List.nodup_cons.mp ndM
    have hn := I.ow r n (inN n (by simp))
    have sm : ∀ k, k ≠ n → (h.set n (.ins c (f ds)))[k]? = h[k]? := fun k c => List.getElem?_set_ne (Ne.symm c)
    have nNv : n ∉ Nv := fun z => (pv.ow n z).2.2.2 r (inN n (by simp))
    obtain ⟨M1, w1, nd1, sb1⟩ := hw ds M0 (h.set n (.ins c (f ds))) ndM0 (fun k hk => inN k (by simp [hk])) ws (fun k z => sm k fun c => hn.1 (c ▸ z)) (fun k hk => sm k fun c => nM0 (c ▸ hk)) (fun k hk => sm k fun c => nNv (c ▸ hk))
    have nn1 : n ∉ M1 := fun z => (sb1 n z).elim nM0 nNv
    refine ⟨n, ds, A ++ (n :: M1) ++ B, rfl, q, ws.length, put_nx I x hΓ f1 f2 P (by rw [set_len]; exact Nat.le_refl _) (fun k _ hk => sm k fun c => hk (by simp [c])) (.ins mm (List.getElem?_set_self hn.2.2) w1) (List.nodup_cons.mpr ⟨nn1, nd1⟩) (fun k hk => ?_) pv nx⟩
    rcases List.mem_cons.mp hk with rfl | hk
    · exact .inl (by simp)
    · rcases sb1 k hk with q | q
      · exact .inl (by simp [q])
      · exact .inr q
theorem isO3 {r : Nat} {w m w' m' w2 m2 : List Nat} (e : isO (inval (inval (inval Γ w m) w' m') w2 m2) r = true) : (inval Γ (w ++ (w' ++ w2)) (m ++ (m' ++ m2)))[r]? = some (some .O) := by
  obtain ⟨a1, b1, _⟩ := inval_some (isO_ok e)
  obtain ⟨a2, b2, _⟩ := inval_some a1
  obtain ⟨a3, b3, _⟩ := inval_some a2
  exact inval_of a3 (by simp [b1, b2, b3]) rfl
theorem isO2 {r : Nat} {w m w' m' : List Nat} (e : isO (inval (inval Γ w m) w' m') r = true) : (inval Γ (w ++ w') (m ++ m'))[r]? = some (some .O) := by
  obtain ⟨a1, b1, _⟩ := inval_some (isO_ok e)
  obtain ⟨a2, b2, _⟩ := inval_some a1
  exact inval_of a2 (by simp [b1, b2]) rfl
theorem NxS.of (n : Nx X Y Z Γ Ns σ τ h w m Z1 Ns1 τ1 h1) (e1 : w = w2) (e2 : m = m2) : NxS X Y Z Ns σ h w2 as (inval Γ w2 m2) Z1 Ns1 σ τ1 h1 := by
  subst e1
  subst e2
  exact ⟨n.inv, n.gr, fun _ _ => rfl⟩
theorem sok_sts (o i e : VE) : Sok (.sts o i e) := by
  intro rk pin X Y Z Γ Ns σ τ h R u I x q
  simp only [st] at q
  cases e1 : (et e).v Γ with
  | none => rw [e1] at q; cases q
  | some r0 =>
    obtain ⟨te, w, m⟩ := r0
    rw [e1] at q
    dsimp only at q
    cases e2 : (et o).p (inval Γ w m) with
    | none => rw [e2] at q; cases q
    | some r1 =>
      obtain ⟨r, w', m'⟩ := r1
      rw [e2] at q
      dsimp only at q
      cases e3 : (et i).v (inval (inval Γ w m) w' m') with
      | none => rw [e3] at q; cases q
      | some r2 =>
        obtain ⟨ti, w2, m2⟩ := r2
        rw [e3] at q
        dsimp only at q
        split at q
        · rename_i c
          simp only [Bool.and_eq_true, Bool.not_eq_true', List.contains_eq_mem, decide_eq_false_iff_not] at c
          obtain ⟨⟨⟨l, fr⟩, nr⟩, ho⟩ := c
          cases q
          show PstS rk pin X Y Z Ns σ h _ (((den (er e)).v σ h).out σ fun v h1 => ((den (er o)).v σ h1).out σ fun x h2 => ((den (er i)).v σ h2).out σ fun y h3 => (stsD x y v h3).out σ fun _ h4 => .next σ h4) (((vd e).v τ).out fun t τ1 => ((vd o).p τ1).out fun rs τ2 => ((vd i).v τ2).out fun y τ3 => stsQ rs.1 rs.2 y t τ3)
          have all : ∀ (a : Nat) (ty : Wy), (inval Γ (w ++ (w' ++ (w2 ++ [r]))) (m ++ (m' ++ (m2 ++ []))))[a]? = some (some ty) → (inval Γ w m)[a]? = some (some ty) ∧ (inval (inval Γ w m) w' m')[a]? = some (some ty) ∧ (inval (inval (inval Γ w m) w' m') w2 m2)[a]? = some (some ty) := fun a ty q => by
            obtain ⟨a1, b1, c1⟩ := inval_some q
            simp only [free_app, List.mem_append, not_or] at b1 c1
            have s1 := inval_of a1 b1.1 c1.1
            have s2 := inval_of s1 b1.2.1 c1.2.1
            exact ⟨s1, s2, inval_of s2 b1.2.2.1 c1.2.2.1⟩
          have P1 := (sndV_all e).v I x e1
          cases q1 : (vd e).v τ with
          | bad => exact trivial
          | exc cc ts τ' =>
            rw [q1] at P1
            obtain ⟨h', Z', Ns', er, fl, n⟩ := P1
            rw [er]
            exact ⟨_, σ, h', Z', Ns', rfl, rfl, fl, n.inv.less (by rw [inval_len]; exact I.lg) (fun a ty q => (all a ty q).1), n.gr.mono fun i hi => (by simp [sE, hi]), fun _ _ => rfl⟩
          | ok t τ1 =>
            rw [q1] at P1
            obtain ⟨d, h1, Z1, Ns1, er, n, kv⟩ := P1
            rw [er]
            obtain ⟨ni, N, v, p, nx⟩ := kv
            show PstS rk pin X Y Z Ns σ h _ (((den (L3.er o)).v σ h1).out σ fun x h2 => ((den (L3.er i)).v σ h2).out σ fun y h3 => (stsD x y d h3).out σ fun _ h4 => .next σ h4) (((vd o).p τ1).out fun rs τ2 => ((vd i).v τ2).out fun y τ3 => stsQ rs.1 rs.2 y t τ3)
            refine Pst.goS (wf := w ++ (w' ++ (w2 ++ [r]))) (mf := m ++ (m' ++ (m2 ++ []))) n ((sndV_all o).p n.inv (p.xok (n.xok x)) e2) x (fun _ q => .inl q) (fun a ty q => (all a ty q).2.1) ⟨_, rfl, leG_refl _⟩ (fun i hi => by simp at hi ⊢; rcases hi with hi | hi <;> simp [hi]) (fun i hi => hi) fun Z2 Ns2 h2 dx rs τ2 k2 kp => ?_
            obtain ⟨rfl, pk⟩ := kp
            have n12 : Nx X Y Z Γ Ns σ τ h (w ++ w') (m ++ m') Z2 Ns2 τ2 h2 := n.trans (k2.lessX fun _ q => .inl q)
            obtain ⟨_, p'⟩ := v.nx p k2 (free_app.mp fr).1
            refine Pst.goS (wf := w ++ (w' ++ (w2 ++ [rs.1]))) (mf := m ++ (m' ++ (m2 ++ []))) n12 ((sndV_all i).v k2.inv (p'.xok (n12.xok x)) e3) x (fun _ q => .inl q) (fun a ty q => (all a ty q).2.2) ⟨_, rfl, leG_refl _⟩ (fun i hi => by simp at hi ⊢; rcases hi with hi | hi | hi <;> simp [hi]) (fun i hi => hi) fun Z3 Ns3 h3 dy ty τ3 k3 ky => ?_
            have k23 := k2.trans k3
            obtain ⟨v3, p3⟩ := v.nx p k23 fr
            have n13 := n.trans (k23.lessX fun _ q => .inl q)
            have pk3 := pk.nx k3 nr
            obtain ⟨Nv, wv, pv, nxv⟩ := KV.own (τ := τ3) (⟨ni, N, v3, p3, nx⟩ : KV X Y te Z3 Ns3 h3 d t τ3) l
            obtain ⟨_, ry⟩ := ky.rp
            unfold stsQ
            cases g : getR τ3 rs.1 rs.2 with
            | none => exact trivial
            | some uu =>
              cases uu with
              | lst ts =>
                cases ty with
                | int kk =>
                  cases ry
                  dsimp only
                  cases q2 : ixN ts.length kk with
                  | none => exact trivial
                  | some j =>
                    dsimp only
                    split
                    · rename_i lj
                      obtain ⟨nn, ds, N', rfl, gh, ll, n4⟩ := lst_nx (f := fun ds => ds.set j d) (ts' := ts.set j t) n13.inv (n13.xok x) (isO3 ho) pk3 g pv nxv (fun n ds M0 h' nd nM sb ws sz s0 sv => by
                        obtain ⟨M1, a1, a2, a3⟩ := ws_set (d := d) (t := t) lj ws nd pv.nd (fun k hk z => (pv.ow k hk).2.2.2 _ (sb k (by simp [z]))) sz s0 (W.mono (fun _ z => z) sz wv sv)
                        exact ⟨M1, a1, a2, fun z => (a3 n z).elim nM fun z => (pv.ow n z).2.2.2 _ (sb n (by simp)), a3⟩)
                      have eS : stsD (.ref nn) (.int kk) d h3 = .ok () (h3.set nn (.lst (ds.set j d))) := by
                        simp only [stsD, gh, ll, q2]
                      rw [eS]
                      exact ⟨_, _, _, _, _, rfl, rfl, NxS.of (n13.trans n4) (by simp [sE]) (by simp)⟩
                    · exact trivial
                | _ => exact trivial
              | _ => exact trivial
        · cases q
theorem sok_stf (tb : List (Nat × Nat)) (f : Str) (o e : VE) : Sok (.stf tb f o e) := by
  intro rk pin X Y Z Γ Ns σ τ h R u I x q
  simp only [st] at q
  cases e1 : (et e).v Γ with
  | none => rw [e1] at q; cases q
  | some r0 =>
    obtain ⟨te, w, m⟩ := r0
    rw [e1] at q
    dsimp only at q
    cases e2 : (et o).p (inval Γ w m) with
    | none => rw [e2] at q; cases q
    | some r1 =>
      obtain ⟨r, w', m'⟩ := r1
      rw [e2] at q
      dsimp only at q
      split at q
      · rename_i c
        simp only [Bool.and_eq_true] at c
        obtain ⟨⟨l, fr⟩, ho⟩ := c
        cases q
        show PstS rk pin X Y Z Ns σ h _ (((den (er e)).v σ h).out σ fun v h1 => ((den (er o)).v σ h1).out σ fun x h2 => (stfR tb x v h2).out σ fun _ h3 => .next σ h3) (((vd e).v τ).out fun t τ1 => ((vd o).p τ1).out fun rs τ2 => stfQ tb rs.1 rs.2 t τ2)
        have all : ∀ (a : Nat) (ty : Wy), (inval Γ (w ++ (w' ++ [r])) (m ++ (m' ++ [])))[a]? = some (some ty) → (inval Γ w m)[a]? = some (some ty) ∧ (inval (inval Γ w m) w' m')[a]? = some (some ty) := fun a ty q => by
          obtain ⟨a1, b1, c1⟩ := inval_some q
          simp only [free_app, List.mem_append, not_or] at b1 c1
          have s1 := inval_of a1 b1.1 c1.1
          exact ⟨s1, inval_of s1 b1.2.1 c1.2.1⟩
        have P1 := (sndV_all e).v I x e1
        cases q1 : (vd e).v τ with
        | bad => exact trivial
        | exc cc ts τ' =>
          rw [q1] at P1
          obtain ⟨h', Z', Ns', er, fl, n⟩ := P1
          rw [er]
          exact ⟨_, σ, h', Z', Ns', rfl, rfl, fl, n.inv.less (by rw [inval_len]; exact I.lg) (fun a ty q => (all a ty q).1), n.gr.mono fun i hi => (by simp [sE, hi]), fun _ _ => rfl⟩
        | ok t τ1 =>
          rw [q1] at P1
          obtain ⟨d, h1, Z1, Ns1, er, n, kv⟩ := P1
          rw [er]
          obtain ⟨ni, N, v, p, nx⟩ := kv
          show PstS rk pin X Y Z Ns σ h _ (((den (L3.er o)).v σ h1).out σ fun x h2 => (stfR tb x d h2).out σ fun _ h3 => .next σ h3) (((vd o).p τ1).out fun rs τ2 => stfQ tb rs.1 rs.2 t τ2)
          refine Pst.goS (wf := w ++ (w' ++ [r])) (mf := m ++ (m' ++ [])) n ((sndV_all o).p n.inv (p.xok (n.xok x)) e2) x (fun _ q => .inl q) (fun a ty q => (all a ty q).2) ⟨_, rfl, leG_refl _⟩ (fun i hi => by simp at hi ⊢; rcases hi with hi | hi <;> simp [hi]) (fun i hi => hi) fun Z2 Ns2 h2 dx rs τ2 k2 kp => ?_
          obtain ⟨rfl, pk⟩ := kp
          have n12 : Nx X Y Z Γ Ns σ τ h (w ++ w') (m ++ m') Z2 Ns2 τ2 h2 := n.trans (k2.lessX fun _ q => .inl q)
          obtain ⟨v3, p3⟩ := v.nx p k2 fr
          obtain ⟨Nv, wv, pv, nxv⟩ := KV.own (τ := τ2) (⟨ni, N, v3, p3, nx⟩ : KV X Y te Z2 Ns2 h2 d t τ2) l
          unfold stfQ
          cases g : getR τ2 rs.1 rs.2 with
          | none => exact trivial
          | some uu =>
            cases uu with
            | ins cc ts =>
              dsimp only
              cases q2 : tb.lookup cc with
              | none => exact trivial
              | some j =>
                dsimp only
                split
                · rename_i c
                  obtain ⟨lj, im⟩ := c
                  obtain ⟨nn, ds, N', rfl, gh, ll, n4⟩ := ins_nx (f := fun ds => putD j d ds) (ts' := putT j t ts) im n12.inv (n12.xok x) (isO2 ho) pk g pv nxv (fun ds M0 h' nd sb ws sz s0 sv => ws_put ws nd pv.nd (fun k hk z => (pv.ow k hk).2.2.2 _ (sb k z)) sz s0 (W.mono (fun _ z => z) sz wv sv))
                  have eS : stfR tb (.ref nn) d h2 = .ok () (h2.set nn (.ins cc (putD j d ds))) := by
                    simp only [stfR, gh, q2]
                    rw [if_pos (by omega)]
                  rw [eS]
                  exact ⟨_, _, _, _, _, rfl, rfl, NxS.of (n12.trans n4) (by simp [sE]) (by simp)⟩
                · exact trivial
            | _ => exact trivial
      · cases q
theorem leG_of : ∀ {Γ Γ' : G}, Γ'.length = Γ.length → (∀ (i : Nat) (ty' : Wy), Γ'[i]? = some (some ty') → ∃ ty, Γ[i]? = some (some ty) ∧ ty.le ty' = true) → leG Γ Γ' = true
  | [], [], _, _ => rfl
  | a :: x, b :: y, l, f => by
    rw [leG, Bool.and_eq_true]
    refine ⟨?_, leG_of (by simpa using l) fun i ty' q => by simpa using f (i + 1) ty' (by simpa using q)⟩
    cases b with
    | none => cases a <;> rfl
    | some ty' =>
      obtain ⟨ty, e, l2⟩ := f 0 ty' rfl
      simp at e
      subst e
      exact l2
  | [], _ :: _, l, _ => by simp at l
  | _ :: _, [], l, _ => by simp at l
theorem leG_inval (sw : ∀ i, i ∈ w → i ∈ w2) (sm : ∀ i, i ∈ m → i ∈ m2) : leG (inval Γ w m) (inval Γ w2 m2) = true := by
  refine leG_of (by rw [inval_len, inval_len]) fun i ty q => ?_
  obtain ⟨a, b, c⟩ := inval_some q
  exact ⟨ty, inval_of a (fun z => b (sm i z)) (free_sub c sw), le_refl ty⟩
theorem sti_nx {i nn c k : Nat} {ds : List D} {ts : List T} {M M1 Nv : List Nat} {d : D} {t : T} (I : Inv Z Y Γ Ns σ τ h) (x : Xok X Y Z Ns h) (hΓ : Γ[i]? = some (some .I)) (s1 : σ[i]? = some (some (.ref nn))) (s2 : τ[i]? = some (some (.ins c ts))) (eN : Ns i = nn :: M) (pv : Tmp Z Y Ns h Nv) (nx : ∀ n, n ∈ Nv → ¬ X n)
    (w1 : Ws Z (h.set nn (.ins c (putD k d ds))) (putD k d ds) (putT k t ts) M1) (nd1 : M1.Nodup) (sb : ∀ n, n ∈ M1 → n ∈ M ∨ n ∈ Nv) : Nx X Y Z Γ Ns σ τ h [i] [] Z (upN Ns i (nn :: M1)) (τ.set i (some (.ins c (putT k t ts)))) (h.set nn (.ins c (putD k d ds))) := by
  have ndN := I.nd i
  rw [eN] at ndN
  obtain ⟨nM, ndM⟩ := List.nodup_cons.mp ndN
  have inN : ∀ n, n ∈ nn :: M → n ∈ Ns i := fun n hn => by rw [eN]; exact hn
  have hn := I.ow i nn (inN nn (by simp))
  have sm : ∀ k', k' ≠ nn → (h.set nn (.ins c (putD k d ds)))[k']? = h[k']? := fun k' c => List.getElem?_set_ne (Ne.symm c)
  have inP : ∀ n, n ∈ nn :: M1 → n ∈ Ns i ∨ n ∈ Nv := fun n hn => by
    rcases List.mem_cons.mp hn with rfl | hn
    · exact .inl (inN _ (by simp))
    · rcases sb n hn with q | q
      · exact .inl (inN n (by simp [q]))
      · exact .inr q
  have nn1 : nn ∉ M1 := fun z => by
    rcases sb nn z with q | q
    · exact nM q
    · exact (pv.ow nn q).2.2.2 i (inN nn (by simp))
  have ne : ∀ j n, j ≠ i → n ∈ Ns j → n ≠ nn := fun j n c hn z => c (I.dj j i n hn (z ▸ inN nn (by simp)))
  have g : Gr X Y Z Ns h Z (upN Ns i (nn :: M1)) (h.set nn (.ins c (putD k d ds))) [i] := by
    refine ⟨by simp, fun n z => sm n fun q => hn.1 (q ▸ z), fun n z => sm n fun q => hn.2.1 (q ▸ z), fun n q => ⟨sm n fun z => (x n q).2.2.2 i (z ▸ inN nn (by simp)), (x n q).2.1, fun j hj => ?_⟩, fun j hj n hn => ?_, fun _ z => z, fun _ _ z => z⟩
    · by_cases c : j = i
      · subst c
        rw [upN_same] at hj
        rcases inP n hj with z | z
        · exact (x n q).2.2.2 j z
        · exact nx n z q
      · rw [upN_ne c] at hj
        exact (x n q).2.2.2 j hj
    · have c : j ≠ i := fun z => hj (by simp [z])
      exact ⟨sm n (ne j n c hn), .inl (by rw [upN_ne c]; exact hn)⟩
  refine ⟨⟨by simp; exact I.ln, by rw [inval_len]; exact I.lg, fun j ty e => ?_, fun j => ?_, fun j k' n hj hk => ?_, fun j n hj => ?_, fun n z => by simp; exact I.zl n z, fun n z => by simp; exact I.yl n z⟩, g, fun j hj => ?_⟩
  · obtain ⟨ea, _, fr⟩ := inval_some e
    by_cases c : j = i
    · subst c
      rw [hΓ] at ea
      cases ea
      refine ⟨.ref nn, _, s1, List.getElem?_set_self (List.getElem?_eq_some_iff.mp s2).1, ?_⟩
      rw [upN_same]
      exact ⟨nn, _, _, _, M1, rfl, rfl, rfl, List.getElem?_set_self hn.2.2, w1⟩
    · obtain ⟨d', t', q1, q2, v⟩ := I.val j ty ea
      refine ⟨d', t', q1, by rw [List.getElem?_set_ne (Ne.symm c)]; exact q2, ?_⟩
      rw [upN_ne c]
      exact v.go g fr fun n hn => sm n (ne j n c hn)
  · by_cases c : j = i
    · subst c; rw [upN_same]; exact List.nodup_cons.mpr ⟨nn1, nd1⟩
    · rw [upN_ne c]; exact I.nd j
  · by_cases c : j = i
    · by_cases c2 : k' = i
      · rw [c, c2]
      · subst c
        rw [upN_same] at hj
        rw [upN_ne c2] at hk
        rcases inP n hj with q | q
        · exact I.dj j k' n q hk
        · exact absurd hk ((pv.ow n q).2.2.2 k')
    · rw [upN_ne c] at hj
      by_cases c2 : k' = i
      · subst c2
        rw [upN_same] at hk
        rcases inP n hk with q | q
        · exact I.dj j k' n hj q
        · exact absurd hj ((pv.ow n q).2.2.2 j)
      · rw [upN_ne c2] at hk
        exact I.dj j k' n hj hk
  · have : n ∈ Ns j ∨ n ∈ Nv := by
      by_cases c : j = i
      · subst c; rw [upN_same] at hj; exact inP n hj
      · rw [upN_ne c] at hj; exact .inl hj
    rcases this with q | q
    · have := I.ow j n q; simpa using this
    · have := pv.ow n q; simp; exact ⟨this.2.1, this.2.2.1, this.1⟩
  · have c : j ≠ i := fun z => hj (by simp [z])
    exact ⟨upN_ne c, List.getElem?_set_ne (Ne.symm c)⟩
theorem sok_sti (i c k : Nat) (f : Str) (e : VE) : Sok (.sti i c k f e) := by
  intro rk pin X Y Z Γ Ns σ τ h R u I x q
  simp only [st] at q
  cases e1 : (et e).v Γ with
  | none => rw [e1] at q; cases q
  | some r0 =>
    obtain ⟨te, w, m⟩ := r0
    rw [e1] at q
    dsimp only at q
    split at q
    · rename_i cc
      simp only [Bool.and_eq_true, decide_eq_true_eq] at cc
      obtain ⟨l, hΓ⟩ := cc
      cases q
      show PstS rk pin X Y Z Ns σ h _ (((den (er e)).v σ h).out σ fun v h1 => (varR σ i h1).out σ fun x h2 => (stfR [(c, k)] x v h2).out σ fun _ h3 => .next σ h3) (((vd e).v τ).out fun t τ1 => stiQ i c k t τ1)
      refine ((sndV_all e).v I x e1).outS x ⟨_, rfl, ?_⟩ (fun i hi => by simp [sE, hi]) fun Z1 Ns1 h1 d t τ1 n kv => ?_
      · exact leG_inval (fun i hi => by simp [hi]) fun i hi => by simp [hi]
      obtain ⟨Nv, wv, pv, nxv⟩ := kv.own l
      obtain ⟨dd, tt, s1, s2, nn, cc, ds, ts, M, rfl, rfl, eN, eh, ws⟩ := n.inv.val i _ hΓ
      unfold stiQ varR
      rw [s1, s2]
      dsimp only
      split
      · rename_i c2
        obtain ⟨rfl, lk⟩ := c2
        have ndN := n.inv.nd i
        rw [eN] at ndN
        obtain ⟨nM, ndM⟩ := List.nodup_cons.mp ndN
        have inN : ∀ k', k' ∈ nn :: M → k' ∈ Ns1 i := fun k' hn => by rw [eN]; exact hn
        have hn := n.inv.ow i nn (inN nn (by simp))
        have sm : ∀ k', k' ≠ nn → (h1.set nn (.ins cc (putD k d ds)))[k']? = h1[k']? := fun k' c => List.getElem?_set_ne (Ne.symm c)
        have sz : ∀ k', Z1 k' → (h1.set nn (.ins cc (putD k d ds)))[k']? = h1[k']? := fun k' z => sm k' fun q => hn.1 (q ▸ z)
        obtain ⟨M1, a1, a2, a3⟩ := ws_put (j := k) (d := d) (t := t) (h' := h1.set nn (.ins cc (putD k d ds))) ws ndM pv.nd (fun k' hk z => (pv.ow k' hk).2.2.2 i (inN k' (by simp [z]))) sz (fun k' hk => sm k' fun q => nM (q ▸ hk)) (W.mono (fun _ z => z) sz wv fun k' hk => sm k' fun q => (pv.ow k' hk).2.2.2 i (q ▸ inN nn (by simp)))
        have n4 := sti_nx (ds := ds) (c := cc) (k := k) n.inv (n.xok x) hΓ s1 s2 eN pv nxv a1 a2 a3
        have eS : stfR [(cc, k)] (.ref nn) d h1 = .ok () (h1.set nn (.ins cc (putD k d ds))) := by
          simp only [stfR, eh, List.lookup, beq_self_eq_true]
          rw [if_pos (by rw [ws.length]; exact lk)]
        show PstS rk pin X Y Z Ns σ h _ ((stfR [(cc, k)] (.ref nn) d h1).out σ fun _ h3 => .next σ h3) _
        rw [eS]
        exact ⟨_, _, _, _, _, rfl, rfl, NxS.of (n.trans n4) (by simp [sE]) (by simp)⟩
      · exact trivial
    · cases q
theorem al_embs : ∀ {tas : List TA} {ds : List D} {as : List VA} {N : List Nat} {ts : List T}, AL Z Y Ns σ h τ N tas ds as → valsA as = some ts → flat0s ts = true → ds = embs ts
  | [], ds, as, N, ts, k, e, f => by
    obtain ⟨l1, l2⟩ := k.len
    cases ds with
    | cons _ _ => simp at l1
    | nil =>
      cases as with
      | cons _ _ => simp at l2
      | nil => cases e; rfl
  | ta :: tas, ds, as, N, ts, k, e, f => by
    obtain ⟨l1, l2⟩ := k.len
    cases ds with
    | nil => simp at l1
    | cons d ds =>
      cases as with
      | nil => simp at l2
      | cons a as =>
        cases a with
        | p _ _ => cases e
        | v t =>
          unfold valsA at e
          cases q : valsA as with
          | none => rw [q] at e; cases e
          | some us =>
            rw [q] at e
            cases e
            rw [flat0s, Bool.and_eq_true] at f
            obtain ⟨d', a', e1, e2, A⟩ := k.get (j := 0) rfl
            cases e1
            cases e2
            cases ta with
            | p _ => exact A.elim
            | v ty =>
              obtain ⟨ni, N1, v, _⟩ := A
              rw [embs, (v.rpT ni).emb f.1, al_embs k.tail q f.2]
theorem sok_rais (c : Nat) (b : List Ar) (es : VE) : Sok (.rais c b es) := by
  intro rk pin X Y Z Γ Ns σ τ h R u I x q
  simp only [st] at q
  cases e1 : (et es).a Γ with
  | none => rw [e1] at q; cases q
  | some r0 =>
    obtain ⟨tas, w, m⟩ := r0
    rw [e1] at q
    dsimp only at q
    cases e2 : pickS b tas [] with
    | none => rw [e2] at q; cases q
    | some tx =>
      rw [e2] at q
      cases q
      show PstS rk pin X Y Z Ns σ h _ (((den (er es)).a σ h).out σ fun ds h1 => raisR c b ds σ h1) (((vd es).a τ).out fun as τ1 => raisQ c b as τ1)
      refine ((sndV_all es).a I x e1).outS x ⟨_, rfl, leG_refl _⟩ (fun i hi => hi) fun Z1 Ns1 h1 ds as τ1 n ka => ?_
      obtain ⟨N, ka, p, nx⟩ := ka
      unfold raisQ raisR
      cases q1 : pickV b as [] with
      | none => exact trivial
      | some ax =>
        dsimp only
        cases q2 : valsA ax with
        | none => exact trivial
        | some ts =>
          dsimp only
          by_cases f : flat0s ts = true
          · obtain ⟨xs, e3, al⟩ := AL.pick ka.al AL.nil e2 q1
            rw [e3, if_pos f]
            have := al_embs al q2 f
            subst this
            exact ⟨_, _, _, _, _, rfl, rfl, f, n.inv, n.gr, fun _ _ => rfl⟩
          · rw [if_neg f]
            exact trivial
theorem loopS_ok {f : G → Option SR} {r : SR} (e : loopS f Γ = some (Γ1, r)) : f Γ1 = some r ∧ leG Γ Γ1 = true ∧ leO r.nx Γ1 = true ∧ leO r.ct Γ1 = true := by
  unfold loopS at e
  split at e
  · cases e
  · split at e
    · cases e
    · rename_i r' er
      split at e
      · rename_i c
        cases e
        simp only [Bool.and_eq_true] at c
        exact ⟨er, c.1.1, c.1.2, c.2⟩
      · cases e
theorem leO_some {a : Option G} (l : leO a Γ = true) (e : a = some Γ') : leG Γ' Γ = true := by subst e; exact l
/-- wider, with the same slots as before -/
theorem PstS.again {r R : SR} {o : Out} {q : VO} (n : NxS X Y Z Ns σ h R.ws R.as Γ1 Z1 Ns1 σ1 τ1 h1) (x : Xok X Y Z Ns h) (p : PstS rk pin X Y Z1 Ns1 σ1 h1 R o q) : PstS rk pin X Y Z Ns σ h R o q :=
  (p.carry n).le x ⟨fun Γ e => ⟨Γ, e, leG_refl Γ⟩, fun Γ e => ⟨Γ, e, leG_refl Γ⟩, fun Γ e => ⟨Γ, e, leG_refl Γ⟩, fun Γ e => ⟨Γ, e, leG_refl Γ⟩, fun i hi => (List.mem_append.mp hi).elim id id, fun i hi => (List.mem_append.mp hi).elim id id⟩
theorem NxS.mono (n : NxS X Y Z Ns σ h ws as Γ Z1 Ns1 σ1 τ1 h1) (sw : ∀ i, i ∈ ws → i ∈ ws') (sa : ∀ i, i ∈ as → i ∈ as') : NxS X Y Z Ns σ h ws' as' Γ Z1 Ns1 σ1 τ1 h1 := ⟨n.inv, n.gr.mono sw, fun i hi => n.sg i fun z => hi (sa i z)⟩
theorem sok_whl (c : VE) {b : VS} (B : Sok b) : Sok (.whl c b) := by
  intro rk pin X Y Z Γ Ns σ τ h R un I x q
  simp only [st] at q
  split at q
  · cases q
  · rename_i Γ1 r el
    obtain ⟨ef, l0, ln, lc⟩ := loopS_ok el
    split at ef
    · rename_i w ec
      rw [ec] at q
      dsimp only at q
      cases eb : st rk pin b (inval Γ1 w []) with
      | none => rw [eb] at ef; cases ef
      | some rb =>
        rw [eb] at ef
        dsimp only at ef
        cases ej : joG (some (inval Γ1 w [])) r.bk with
        | none => rw [ej] at q; cases q
        | some nx =>
          rw [ej] at q
          cases q
          obtain ⟨j1, j2⟩ := jo_ok ej
          obtain ⟨b1, b2, b3, c1, c2, c3, d1, d2, d3⟩ := both_ok ef
          -- turn by turn
          have key : ∀ (k : Nat) {Z : Nat → Prop} {Ns : Os} {σ : Sl} {τ : Sm} {h : Hh}, Inv Z Y Γ1 Ns σ τ h → Xok X Y Z Ns h → PstS rk pin X Y Z Ns σ h ⟨nx, none, none, r.ex, r.ws, r.as⟩ (iter (den (er c)).t (exec (erS b)) k σ h) (viter (vd c).t (vx b) k τ) := by
            intro k
            induction k with
            | zero => intro Z Ns σ τ h I x; exact trivial
            | succ k ih =>
              intro Z Ns σ τ h I x
              show PstS rk pin X Y Z Ns σ h _ (((den (er c)).t σ h).out σ fun kk h1 => if kk = true then (exec (erS b) σ h1).turn (iter (den (er c)).t (exec (erS b)) k) else .next σ h1) (((vd c).t τ).out fun kk τ1 => if kk = true then (vx b τ1).turn (viter (vd c).t (vx b) k) else .next τ1)
              refine ((sndV_all c).t I x ec).outS x (c3 _ rfl) (fun i hi => by rw [b2]; exact List.mem_append_left _ hi) fun Z1 Ns1 h1 kk kk' τ1 n kv => ?_
              cases kv
              cases kk with
              | false =>
                obtain ⟨Γ', e', l'⟩ := j1 _ rfl
                obtain ⟨Z2, Ns2, n2, _⟩ := n.s.weak x l' (ws' := r.ws) (as' := r.as) (fun i hi => by rw [b2]; exact List.mem_append_left _ hi) (fun i hi => by cases hi)
                exact ⟨Γ', _, _, Z2, Ns2, e', rfl, n2⟩
              | true =>
                show PstS rk pin X Y Z Ns σ h _ ((exec (erS b) σ h1).turn (iter (den (er c)).t (exec (erS b)) k)) ((vx b τ1).turn (viter (vd c).t (vx b) k))
                have PB := (B (show b.uni from un) n.inv (n.xok x) eb).carry n.s
                have sw : ∀ i, i ∈ w ++ rb.ws → i ∈ r.ws := fun i hi => by rw [b2]; exact hi
                have sa : ∀ i, i ∈ ([] : List Nat) ++ rb.as → i ∈ r.as := fun i hi => by rw [b3]; simpa [sE] using hi
                have go : ∀ {σ2 : Sl} {h2 : Hh} {τ2 : Sm} {Z2 : Nat → Prop} {Ns2 : Os} {Γ2 : G}, leG Γ2 Γ1 = true → NxS X Y Z Ns σ h (w ++ rb.ws) ([] ++ rb.as) Γ2 Z2 Ns2 σ2 τ2 h2 → PstS rk pin X Y Z Ns σ h ⟨nx, none, none, r.ex, r.ws, r.as⟩ (iter (den (er c)).t (exec (erS b)) k σ2 h2) (viter (vd c).t (vx b) k τ2) := by
                  intro σ2 h2 τ2 Z2 Ns2 Γ2 l n2
                  obtain ⟨Z3, Ns3, n3, _⟩ := n2.weak x l sw sa
                  exact PstS.again (R := ⟨nx, none, none, r.ex, r.ws, r.as⟩) (r := r) n3 x (ih n3.inv (n3.gr.xok x))
                cases ev : vx b τ1 with
                | bad => exact trivial
                | next τ2 =>
                  rw [ev] at PB
                  obtain ⟨Γ2, σ2, h2, Z2, Ns2, e2, eo, n2⟩ := PB
                  rw [eo]
                  refine go (leO_some ln ?_) n2
                  rw [b1]; exact e2
                | cnt τ2 =>
                  rw [ev] at PB
                  obtain ⟨Γ2, σ2, h2, Z2, Ns2, e2, eo, n2⟩ := PB
                  rw [eo]
                  obtain ⟨Γ3, e3, l3⟩ := d2 _ e2
                  obtain ⟨Z3, Ns3, n3, _⟩ := n2.weak x l3 (fun i hi => hi) (fun i hi => hi)
                  exact go (leO_some lc e3) n3
                | brk τ2 =>
                  rw [ev] at PB
                  obtain ⟨Γ2, σ2, h2, Z2, Ns2, e2, eo, n2⟩ := PB
                  rw [eo]
                  obtain ⟨Γ3, e3, l3⟩ := d1 _ e2
                  obtain ⟨Γ4, e4, l4⟩ := j2 _ e3
                  obtain ⟨Z3, Ns3, n3, _⟩ := n2.weak x l3 (fun i hi => hi) (fun i hi => hi)
                  obtain ⟨Z4, Ns4, n4, _⟩ := n3.weak x l4 sw sa
                  exact ⟨Γ4, _, _, Z4, Ns4, e4, rfl, n4⟩
                | ret t τ2 =>
                  rw [ev] at PB
                  obtain ⟨d, σ2, h2, Z2, Ns2, eo, n2, kv⟩ := PB
                  rw [eo]
                  exact ⟨d, σ2, h2, Z2, Ns2, rfl, n2.mono sw sa, kv⟩
                | exc cc ts τ2 =>
                  rw [ev] at PB
                  obtain ⟨Γ2, σ2, h2, Z2, Ns2, e2, eo, fl, n2⟩ := PB
                  rw [eo]
                  obtain ⟨Γ3, e3, l3⟩ := d3 _ e2
                  obtain ⟨Z3, Ns3, n3, _⟩ := n2.weak x l3 sw sa
                  exact ⟨Γ3, _, _, Z3, Ns3, e3, rfl, fl, n3⟩
          obtain ⟨Z0, Ns0, I0, g0⟩ := I.weak x l0
          have n0 : NxS X Y Z Ns σ h r.ws r.as Γ1 Z0 Ns0 σ τ h := ⟨I0, g0.mono fun i hi => (by cases hi), fun _ _ => rfl⟩
          show PstS rk pin X Y Z Ns σ h _ (whlR (den (er c)).t (exec (erS b)) σ h) (vwhl (vd c).t (vx b) τ)
          by_cases ex : ∃ k, viter (vd c).t (vx b) k τ ≠ .bad
          · have ev : vwhl (vd c).t (vx b) τ = viter (vd c).t (vx b) ex.choose τ := by unfold vwhl; rw [dif_pos ex]
            have P := PstS.again (R := ⟨nx, none, none, r.ex, r.ws, r.as⟩) (r := r) n0 x (key ex.choose I0 (n0.gr.xok x))
            have nb : iter (den (er c)).t (exec (erS b)) ex.choose σ h ≠ .bad := by
              intro z
              have hb := ex.choose_spec
              rw [z] at P
              cases eq : viter (vd c).t (vx b) ex.choose τ with
              | bad => exact hb eq
              | next _ => rw [eq] at P; obtain ⟨_, _, _, _, _, _, z, _⟩ := P; cases z
              | ret _ _ => rw [eq] at P; obtain ⟨_, _, _, _, _, z, _⟩ := P; cases z
              | brk _ => rw [eq] at P; obtain ⟨_, _, _, _, _, _, z, _⟩ := P; cases z
              | cnt _ => rw [eq] at P; obtain ⟨_, _, _, _, _, _, z, _⟩ := P; cases z
              | exc _ _ _ => rw [eq] at P; obtain ⟨_, _, _, _, _, _, z, _⟩ := P; cases z
            rw [ev, whlR_of ex.choose rfl nb]
            exact P
          · have ev : vwhl (vd c).t (vx b) τ = .bad := by unfold vwhl; rw [dif_neg ex]
            rw [ev]
            exact trivial
    · cases ef
theorem item_nxS {g : Tg} {ty : Wy} {d : D} {t : T} {τ' : Sm} (I : Inv Z Y Γ Ns σ τ h) (x : Xok X Y Z Ns h) (f : FB ty = true) (v : Val Z Y Ns h ty d t []) (ng : (tgs g).Nodup) (fr : ty.free (tgs g) = true) (e : asgV g t τ = some τ') :
    ∃ σ' Ns2, asgT g d σ = some σ' ∧ NxS X Y Z Ns σ h (tgs g) (tgs g) (asgG g ty Γ) Z Ns2 σ' τ' h := by
  obtain ⟨σ', M, e1, P⟩ := put_any (by cases ty <;> first | (cases f; done) | simp) v List.nodup_nil ng I.ln e
  obtain ⟨I2, g2⟩ := P.inv (Γ' := asgG g ty Γ) I x .nil (fun n hn => by cases hn) fr (by rw [asgG_len]; exact I.lg) fun i ty' q => asgG_get q
  exact ⟨σ', _, e1, I2, g2, fun i hi => (P.oth i hi).1⟩
theorem sok_fr (g : Tg) (it : VE) {b : VS} (B : Sok b) : Sok (.fr g it b) := by
  intro rk pin X Y Z Γ Ns σ τ h R un I x q
  simp only [st] at q
  cases e1 : (et it).i Γ with
  | none => rw [e1] at q; cases q
  | some r0 =>
    obtain ⟨ity, w, m⟩ := r0
    rw [e1] at q
    dsimp only at q
    split at q
    · rename_i c
      simp only [Bool.and_eq_true, decide_eq_true_eq] at c
      obtain ⟨fr, ng⟩ := c
      split at q
      · cases q
      · rename_i Γ1 r el
        obtain ⟨ef, l0, ln, lc⟩ := loopS_ok el
        cases eb : st rk pin b (asgG g ity Γ1) with
        | none => rw [eb] at ef; cases ef
        | some rb =>
          rw [eb] at ef
          dsimp only at ef
          split at ef
          · rename_i fw
            cases ef
            split at q
            · rename_i nx ex ej ex'
              cases q
              obtain ⟨j1, j2⟩ := jo_ok ej
              obtain ⟨x1, x2⟩ := jo_ok ex'
              show PstS rk pin X Y Z Ns σ h _ (((den (er it)).i σ h).out σ fun s h1 => forR g (exec (erS b)) s.2 s.1 σ h1) (((vd it).i τ).out fun ts τ1 => vfor g (vx b) ts τ1)
              refine ((sndV_all it).i I x e1).outS x (x1 _ rfl) (fun i hi => by simp [hi]) fun Z1 Ns1 h1 s ts τ1 n ki => ?_
              obtain ⟨ds, gd⟩ := s
              -- turn by turn
              have key : ∀ (ts : List T) {ds : List D} {Z : Nat → Prop} {Ns : Os} {σ : Sl} {τ : Sm} {h : Hh}, Inv Z Y Γ1 Ns σ τ h → Xok X Y Z Ns h → KI X Y ity Z Ns h (ds, gd) ts τ → PstS rk pin X Y Z Ns σ h ⟨nx, none, none, ex, tgs g ++ r.ws, tgs g ++ r.as⟩ (forR g (exec (erS b)) gd ds σ h) (vfor g (vx b) ts τ) := by
                intro ts
                induction ts with
                | nil =>
                  intro ds Z Ns σ τ h I x ki
                  have := ki.nil'
                  subst this
                  obtain ⟨Γ', e', l'⟩ := j1 _ rfl
                  obtain ⟨Z2, Ns2, n2, _⟩ := (NxS.refl (ws := []) (as := []) I x).weak x l' (ws' := tgs g ++ r.ws) (as' := tgs g ++ r.as) (fun i hi => by cases hi) (fun i hi => by cases hi)
                  unfold forR vfor
                  rw [if_pos ki.gd]
                  exact ⟨Γ', _, _, Z2, Ns2, e', rfl, n2⟩
                | cons t ts ih =>
                  intro ds Z Ns σ τ h I x ki
                  obtain ⟨d, es, rfl, fb, v, ki2⟩ := ki.cons
                  unfold vfor
                  cases ea : asgV g t τ with
                  | none => exact trivial
                  | some τa =>
                    obtain ⟨σa, Nsa, e2, na⟩ := item_nxS I x fb v ng fr ea
                    rw [forR.eq_def]
                    dsimp only
                    rw [if_pos ki.gd, e2]
                    have xa := na.gr.xok x
                    have PB := (B (show b.uni from un) na.inv xa eb).carry na
                    have go : ∀ {σ2 : Sl} {h2 : Hh} {τ2 : Sm} {Z2 : Nat → Prop} {Ns2 : Os} {Γ2 : G}, leG Γ2 Γ1 = true → NxS X Y Z Ns σ h (tgs g ++ r.ws) (tgs g ++ r.as) Γ2 Z2 Ns2 σ2 τ2 h2 → PstS rk pin X Y Z Ns σ h ⟨nx, none, none, ex, tgs g ++ r.ws, tgs g ++ r.as⟩ (forR g (exec (erS b)) gd es σ2 h2) (vfor g (vx b) ts τ2) := by
                      intro σ2 h2 τ2 Z2 Ns2 Γ2 l n2
                      obtain ⟨Z3, Ns3, n3, _⟩ := n2.weak x l (fun i hi => hi) (fun i hi => hi)
                      exact PstS.again (R := ⟨nx, none, none, ex, tgs g ++ r.ws, tgs g ++ r.as⟩) (r := r) n3 x (ih n3.inv (n3.gr.xok x) (ki2.go n3.gr (free_app.mpr ⟨fr, fw⟩)))
                    dsimp only
                    cases ev : vx b τa with
                    | bad => exact trivial
                    | next τ2 =>
                      rw [ev] at PB
                      obtain ⟨Γ2, σ2, h2, Z2, Ns2, e2, eo, n2⟩ := PB
                      rw [eo]
                      exact go (leO_some ln e2) n2
                    | cnt τ2 =>
                      rw [ev] at PB
                      obtain ⟨Γ2, σ2, h2, Z2, Ns2, e2, eo, n2⟩ := PB
                      rw [eo]
                      exact go (leO_some lc e2) n2
                    | brk τ2 =>
                      rw [ev] at PB
                      obtain ⟨Γ2, σ2, h2, Z2, Ns2, e2, eo, n2⟩ := PB
                      rw [eo]
                      obtain ⟨Γ4, e4, l4⟩ := j2 _ e2
                      obtain ⟨Z4, Ns4, n4, _⟩ := n2.weak x l4 (fun i hi => hi) (fun i hi => hi)
                      exact ⟨Γ4, _, _, Z4, Ns4, e4, rfl, n4⟩
                    | ret t τ2 =>
                      rw [ev] at PB
                      obtain ⟨d, σ2, h2, Z2, Ns2, eo, n2, kv⟩ := PB
                      rw [eo]
                      exact ⟨d, σ2, h2, Z2, Ns2, rfl, n2, kv⟩
                    | exc cc ts τ2 =>
                      rw [ev] at PB
                      obtain ⟨Γ2, σ2, h2, Z2, Ns2, e2, eo, fl, n2⟩ := PB
                      rw [eo]
                      obtain ⟨Γ3, e3, l3⟩ := x2 _ e2
                      obtain ⟨Z3, Ns3, n3, _⟩ := n2.weak x l3 (fun i hi => hi) (fun i hi => hi)
                      exact ⟨Γ3, _, _, Z3, Ns3, e3, rfl, fl, n3⟩
              obtain ⟨Z0, Ns0, I0, g0⟩ := n.inv.weak (n.xok x) l0
              have n0 : NxS X Y Z1 Ns1 σ h1 [] [] Γ1 Z0 Ns0 σ τ1 h1 := ⟨I0, g0, fun _ _ => rfl⟩
              have P := ((key ts I0 (g0.xok (n.xok x)) (ki.go g0 (free_sub (w := tgs g) fr fun i hi => by cases hi))).carry n0).carry n.s
              refine P.le x ⟨fun Γ e => ⟨Γ, e, leG_refl Γ⟩, fun Γ e => ⟨Γ, e, leG_refl Γ⟩, fun Γ e => ⟨Γ, e, leG_refl Γ⟩, fun Γ e => ⟨Γ, e, leG_refl Γ⟩, fun i hi => ?_, fun i hi => ?_⟩
              · simpa using hi
              · simp at hi ⊢
                rcases hi with hi | hi <;> simp [hi]
            · cases q
          · cases ef
    · cases q
def Hok (s : VS) : Prop := ∀ {rk : Wy} {pin : G} {X Y Z : Nat → Prop} {Γ : G} {Ns : Os} {σ : Sl} {τ : Sm} {h : Hh} {r : SR} {c : Nat} {ts : List T}, s.uni → Inv Z Y Γ Ns σ τ h → Xok X Y Z Ns h → flat0s ts = true → stH rk pin s Γ = some r → PstS rk pin X Y Z Ns σ h r (execH (erS s) c (embs ts) σ h) (vxH s c ts τ)
def Dok : VS → Prop
  | .hnd _ _ f => ∀ c ts, Sok (f c ts)
  | _ => True
theorem unset_inv {v : Option Nat} (I : Inv Z Y Γ Ns σ τ h) : Inv Z Y (unsetG v Γ) Ns (unsetD v σ) (unsetV v τ) h := by
  cases v with
  | none => exact I
  | some i =>
    refine ⟨by simp [unsetD, unsetV]; exact I.ln, by simp [unsetG, unsetD, inval_len]; exact I.lg, fun j ty e => ?_, I.nd, I.dj, I.ow, I.zl, I.yl⟩
    obtain ⟨a, b, _⟩ := inval_some e
    obtain ⟨d, t, q1, q2, v⟩ := I.val j ty a
    have c : i ≠ j := fun z => b (by simp [z])
    exact ⟨d, t, by simp [unsetD, List.getElem?_set_ne c]; exact q1, by simp [unsetV, List.getElem?_set_ne c]; exact q2, v⟩
theorem unset_sg {v : Option Nat} {i : Nat} (h : i ∉ vlist v) : (unsetD v σ)[i]? = σ[i]? := by
  cases v with
  | none => rfl
  | some k =>
    simp [vlist] at h
    exact List.getElem?_set_ne (fun z => h z.symm)
theorem NxS.unset {v : Option Nat} (n : NxS X Y Z Ns (unsetD v σ) h ws as Γ Z1 Ns1 σ1 τ1 h1) : NxS X Y Z Ns σ h (vlist v ++ ws) (vlist v ++ as) (unsetG v Γ) Z1 Ns1 (unsetD v σ1) (unsetV v τ1) h1 :=
  ⟨unset_inv n.inv, n.gr.mono fun i hi => List.mem_append_right _ hi, fun i hi => by
    rw [List.mem_append, not_or] at hi
    rw [unset_sg hi.1, n.sg i hi.2, unset_sg hi.1]⟩
theorem hok_nil : Hok .nil := fun _ I x f e => by cases e; exact ⟨_, _, _, _, _, rfl, rfl, f, .refl I x⟩
theorem hok_cons {s r : VS} (A : Dok s) (B : Hok r) : Hok (.cons s r) := by
  intro rk pin X Y Z Γ Ns σ τ h R c ts un I x f q
  cases s with
  | hnd cs v F =>
    simp only [stH] at q
    split at q
    · rename_i r1 r2 e1 e2
      cases ej : joG (unsetO v r1.nx) r2.nx with
      | none => rw [ej] at q; cases q
      | some nx =>
        rw [ej] at q
        dsimp only at q
        obtain ⟨j1, j2⟩ := jo_ok ej
        have l1 := LeSR.fst q j1
        have l2 := LeSR.snd q j2
        show PstS rk pin X Y Z Ns σ h R (if (cs.any fun x => subN c x) = true then (exec (erS (F c (ubs (embs ts)))) (unsetD v σ) h).unset v else execH (erS r) c (embs ts) σ h) (if (cs.any fun x => subN c x) = true then (vx (F c ts) (unsetV v τ)).unset v else vxH r c ts τ)
        rw [ubs_embs f]
        split
        · obtain ⟨u1, u2⟩ := un.1 c ts f
          have P : PstS rk pin X Y Z Ns (unsetD v σ) h r1 (exec (erS (F c ts)) (unsetD v σ) h) (vx (F c ts) (unsetV v τ)) := A c ts u2 (unset_inv (v := v) I) x (by rw [u1]; exact e1)
          refine PstS.le (r := ⟨unsetO v r1.nx, unsetO v r1.bk, unsetO v r1.ct, unsetO v r1.ex, vlist v ++ r1.ws, vlist v ++ r1.as⟩) ?_ x l1
          cases ev : vx (F c ts) (unsetV v τ) with
          | bad => exact trivial
          | next τ2 =>
            rw [ev] at P
            obtain ⟨Γ2, σ2, h2, Z2, Ns2, e2, eo, n2⟩ := P
            rw [eo]
            exact ⟨_, _, _, Z2, Ns2, by rw [e2]; rfl, rfl, n2.unset⟩
          | cnt τ2 =>
            rw [ev] at P
            obtain ⟨Γ2, σ2, h2, Z2, Ns2, e2, eo, n2⟩ := P
            rw [eo]
            exact ⟨_, _, _, Z2, Ns2, by rw [e2]; rfl, rfl, n2.unset⟩
          | brk τ2 =>
            rw [ev] at P
            obtain ⟨Γ2, σ2, h2, Z2, Ns2, e2, eo, n2⟩ := P
            rw [eo]
            exact ⟨_, _, _, Z2, Ns2, by rw [e2]; rfl, rfl, n2.unset⟩
          | exc cc us τ2 =>
            rw [ev] at P
            obtain ⟨Γ2, σ2, h2, Z2, Ns2, e2, eo, fl, n2⟩ := P
            rw [eo]
            exact ⟨_, _, _, Z2, Ns2, by rw [e2]; rfl, rfl, fl, n2.unset⟩
          | ret t τ2 =>
            rw [ev] at P
            obtain ⟨d, σ2, h2, Z2, Ns2, eo, n2, kv⟩ := P
            rw [eo]
            exact ⟨d, σ2, h2, Z2, Ns2, rfl, ⟨n2.inv, n2.gr.mono fun i hi => List.mem_append_right _ hi, fun i hi => by
              rw [List.mem_append, not_or] at hi
              rw [n2.sg i hi.2, unset_sg hi.1]⟩, kv⟩
        · exact (B un.2 I x f e2).le x l2
    · cases q
  | _ => simp [stH] at q
theorem sok_tr {b hs : VS} (A : Sok b) (B : Hok hs) : Sok (.tr b hs) := by
  intro rk pin X Y Z Γ Ns σ τ h R un I x q
  simp only [st] at q
  cases e1 : st rk pin b Γ with
  | none => rw [e1] at q; cases q
  | some r1 =>
    rw [e1] at q
    dsimp only at q
    have P := A un.1 I x e1
    show PstS rk pin X Y Z Ns σ h R ((exec (erS b) σ h).catch fun c ds σ h => if flDs ds = true then execH (erS hs) c ds σ h else .bad) ((vx b τ).catch (vxH hs))
    cases ex : r1.ex with
    | none =>
      rw [ex] at q
      cases q
      cases ev : vx b τ with
      | bad => exact trivial
      | next τ2 => rw [ev] at P; obtain ⟨Γ2, σ2, h2, Z2, Ns2, e2, eo, n2⟩ := P; rw [eo]; exact ⟨_, _, _, Z2, Ns2, e2, rfl, n2⟩
      | cnt τ2 => rw [ev] at P; obtain ⟨Γ2, σ2, h2, Z2, Ns2, e2, eo, n2⟩ := P; rw [eo]; exact ⟨_, _, _, Z2, Ns2, e2, rfl, n2⟩
      | brk τ2 => rw [ev] at P; obtain ⟨Γ2, σ2, h2, Z2, Ns2, e2, eo, n2⟩ := P; rw [eo]; exact ⟨_, _, _, Z2, Ns2, e2, rfl, n2⟩
      | ret t τ2 => rw [ev] at P; obtain ⟨d, σ2, h2, Z2, Ns2, eo, n2, kv⟩ := P; rw [eo]; exact ⟨_, _, _, Z2, Ns2, rfl, n2, kv⟩
      | exc cc ts τ2 => rw [ev] at P; obtain ⟨Γ2, σ2, h2, Z2, Ns2, e2, _⟩ := P; rw [ex] at e2; cases e2
    | some Γh =>
      rw [ex] at q
      dsimp only at q
      cases e2 : stH rk pin hs Γh with
      | none => rw [e2] at q; cases q
      | some r2 =>
        rw [e2] at q
        dsimp only at q
        cases ej : joG r1.nx r2.nx with
        | none => rw [ej] at q; cases q
        | some nx =>
          rw [ej] at q
          dsimp only at q
          obtain ⟨j1, j2⟩ := jo_ok ej
          have l1 := LeSR.fst (r1 := { r1 with ex := none }) q j1
          have l2 := LeSR.snd q j2
          have up : ∀ {o : Out} {v : VO}, PstS rk pin X Y Z Ns σ h { r1 with ex := none } o v → PstS rk pin X Y Z Ns σ h R o v := fun p => p.le x l1
          cases ev : vx b τ with
          | bad => exact trivial
          | next τ2 => rw [ev] at P; obtain ⟨Γ2, σ2, h2, Z2, Ns2, e2, eo, n2⟩ := P; rw [eo]; exact up (v := .next τ2) ⟨_, _, _, Z2, Ns2, e2, rfl, n2⟩
          | cnt τ2 => rw [ev] at P; obtain ⟨Γ2, σ2, h2, Z2, Ns2, e2, eo, n2⟩ := P; rw [eo]; exact up (v := .cnt τ2) ⟨_, _, _, Z2, Ns2, e2, rfl, n2⟩
          | brk τ2 => rw [ev] at P; obtain ⟨Γ2, σ2, h2, Z2, Ns2, e2, eo, n2⟩ := P; rw [eo]; exact up (v := .brk τ2) ⟨_, _, _, Z2, Ns2, e2, rfl, n2⟩
          | ret t τ2 => rw [ev] at P; obtain ⟨d, σ2, h2, Z2, Ns2, eo, n2, kv⟩ := P; rw [eo]; exact up (v := .ret t τ2) ⟨_, _, _, Z2, Ns2, rfl, n2, kv⟩
          | exc cc ts τ2 =>
            rw [ev] at P
            obtain ⟨Γ2, σ2, h2, Z2, Ns2, e3, eo, fl, n2⟩ := P
            rw [ex] at e3
            cases e3
            rw [eo]
            show PstS rk pin X Y Z Ns σ h R (if flDs (embs ts) = true then execH (erS hs) cc (embs ts) σ2 h2 else .bad) (vxH hs cc ts τ2)
            rw [if_pos (flDs_embs fl)]
            have P2 := (B (c := cc) un.2 n2.inv (n2.gr.xok x) fl e2).carry n2
            obtain ⟨b1, b2, b3, _, _, _, d1, d2, d3⟩ := both_ok q
            exact P2.le x ⟨fun Γ e => by rw [b1]; exact j2 Γ e, d1, d2, d3, fun i hi => by rw [b2]; exact hi, fun i hi => by rw [b3]; exact hi⟩
theorem st_allV : ∀ s : VS, Sok s ∧ Hok s ∧ Dok s := by
  have nh : ∀ {s : VS}, (∀ rk pin Γ, stH rk pin s Γ = none) → Hok s := fun hs => by
    intro rk pin X Y Z Γ Ns σ τ h R c ts un I x f q
    rw [hs] at q
    cases q
  intro s
  induction s with
  | nil => exact ⟨sok_nil, hok_nil, trivial⟩
  | cons s r A B => exact ⟨sok_cons A.1 B.1, hok_cons A.2.2 B.2.1, trivial⟩
  | pass => exact ⟨sok_pass, nh fun _ _ _ => by simp [stH], trivial⟩
  | expr e => exact ⟨sok_expr e, nh fun _ _ _ => by simp [stH], trivial⟩
  | asg i e => exact ⟨sok_asg i e, nh fun _ _ _ => by simp [stH], trivial⟩
  | par i j a b => exact ⟨sok_par i j a b, nh fun _ _ _ => by simp [stH], trivial⟩
  | unp g e => exact ⟨sok_unp g e, nh fun _ _ _ => by simp [stH], trivial⟩
  | sts o i e => exact ⟨sok_sts o i e, nh fun _ _ _ => by simp [stH], trivial⟩
  | ret e => exact ⟨sok_ret e, nh fun _ _ _ => by simp [stH], trivial⟩
  | retN => exact ⟨sok_retN, nh fun _ _ _ => by simp [stH], trivial⟩
  | ife c t u A B => exact ⟨sok_ife c A.1 B.1, nh fun _ _ _ => by simp [stH], trivial⟩
  | whl c b B => exact ⟨sok_whl c B.1, nh fun _ _ _ => by simp [stH], trivial⟩
  | fr g it b B => exact ⟨sok_fr g it B.1, nh fun _ _ _ => by simp [stH], trivial⟩
  | brk => exact ⟨sok_brk, nh fun _ _ _ => by simp [stH], trivial⟩
  | cnt => exact ⟨sok_cnt, nh fun _ _ _ => by simp [stH], trivial⟩
  | never => exact ⟨sok_never, nh fun _ _ _ => by simp [stH], trivial⟩
  | stf tb f o e => exact ⟨sok_stf tb f o e, nh fun _ _ _ => by simp [stH], trivial⟩
  | sti i c k f e => exact ⟨sok_sti i c k f e, nh fun _ _ _ => by simp [stH], trivial⟩
  | rais c b es => exact ⟨sok_rais c b es, nh fun _ _ _ => by simp [stH], trivial⟩
  | tr b hs A B => exact ⟨sok_tr A.1 B.2.1, nh fun _ _ _ => by simp [stH], trivial⟩
  | hnd cs v f F => exact ⟨fun _ _ _ q => (by simp [st] at q), nh fun _ _ _ => by simp [stH], fun c ts => (F c ts).1⟩
end
end L3

namespace L3
open PySem L2
theorem outs_take : ∀ (io : List Pm) (τ : Sm), outs io (τ.take io.length) = outs io τ
  | [], τ => by cases τ <;> simp [outs]
  | p :: io, [] => by simp
  | .b :: io, t :: τ => by simp only [List.length_cons, List.take_succ_cons, outs]; exact outs_take io τ
  | .o :: io, none :: τ => by simp only [List.length_cons, List.take_succ_cons, outs]; exact outs_take io τ
  | .i :: io, none :: τ => by simp only [List.length_cons, List.take_succ_cons, outs]; exact outs_take io τ
  | .o :: io, some t :: τ => by simp only [List.length_cons, List.take_succ_cons, outs]; rw [outs_take io τ]
  | .i :: io, some t :: τ => by simp only [List.length_cons, List.take_succ_cons, outs]; rw [outs_take io τ]
theorem sim_of {io : List Pm} {rk : Wy} {n : Nat} {b : VS} (u : b.uni) (hs : fnS io rk n b = true) : Sim io rk (fn io.length n (erS b)) (vfn io n b) := by
  intro X Z Y Ns ds ts h ld x I
  unfold fnS at hs
  cases es : st rk (gamO io ++ List.replicate (n - io.length) none) b (gam io ++ List.replicate (n - io.length) none) with
  | none => rw [es] at hs; cases hs
  | some r =>
    rw [es] at hs
    dsimp only at hs
    simp only [Bool.and_eq_true, List.all_eq_true, decide_eq_true_eq] at hs
    obtain ⟨⟨⟨⟨⟨hn, hx⟩, hp⟩, hN⟩, hk⟩, hl⟩ := hs
    have lt : ts.length = io.length := by have := I.ln; simp at this; omega
    have e1 : fn io.length n (erS b) ds h = fnR (exec (erS b) (startD n ds) h) := if_pos ld
    have e2 : vfn io n b ts = vfR io (vx b (startT n ts)) := if_pos lt
    rw [e1, e2]
    have gl : (gam io).length = io.length := by simp [gam]
    have gO : (gamO io).length = io.length := by simp [gamO]
    -- the frame at the beginning
    have N0 : ∀ i k, k ∈ (if i < io.length then Ns i else []) → i < io.length ∧ k ∈ Ns i := fun i k hk => by
      split at hk
      · rename_i c; exact ⟨c, hk⟩
      · cases hk
    have x0 : Xok (fun k => X k ∨ ∃ i, io.length ≤ i ∧ k ∈ Ns i) Y Z (fun i => if i < io.length then Ns i else []) h := fun k q => by
      rcases q with q | ⟨i, li, q⟩
      · exact ⟨(x k q).1, (x k q).2.1, (x k q).2.2.1, fun j hj => (x k q).2.2.2 j (N0 j k hj).2⟩
      · refine ⟨(I.ow i k q).2.2, (I.ow i k q).1, (I.ow i k q).2.1, fun j hj => ?_⟩
        obtain ⟨a, b⟩ := N0 j k hj
        have := I.dj i j k q b
        omega
    have I0 : Inv Z Y (gam io ++ List.replicate (n - io.length) none) (fun i => if i < io.length then Ns i else []) (startD n ds) (startT n ts) h := by
      refine ⟨by simp [startD, startT, ld, lt], by simp [startD, gl, ld], fun i ty e => ?_, fun i => ?_, fun i j k hi hj => I.dj i j k (N0 i k hi).2 (N0 j k hj).2, fun i k hk => I.ow i k (N0 i k hk).2, I.zl, I.yl⟩
      · by_cases c : i < io.length
        · rw [List.getElem?_append_left (by omega)] at e
          obtain ⟨d, t, q1, q2, v⟩ := I.val i ty e
          refine ⟨d, t, by unfold startD; rw [List.getElem?_append_left (by simp; omega)]; exact q1, by unfold startT; rw [List.getElem?_append_left (by simp; omega)]; exact q2, ?_⟩
          have gi := gam_get e
          rcases gi with ⟨_, rfl⟩ | ⟨_, rfl⟩ | ⟨_, rfl⟩
          · exact Rp.mono (fun _ z => z) (fun k u => by
              rcases u with u | u | ⟨r, hr, _⟩
              · exact .inl u
              · exact .inr (.inl u)
              · cases hr) (fun _ _ => rfl) (fun _ _ => rfl) v
          · rw [if_pos c]; exact v
          · rw [if_pos c]; exact v
        · rw [List.getElem?_append_right (by omega)] at e
          have := List.mem_of_getElem? e
          simp at this
      · split
        · exact I.nd i
        · exact List.nodup_nil
    have P := (st_allV b).1 u I0 x0 es
    -- back to the parameters
    have back : ∀ {Z' : Nat → Prop} {Ns' : Os} {σ' : Sl} {τ' : Sm} {h' : Hh}, NxS (fun k => X k ∨ ∃ i, io.length ≤ i ∧ k ∈ Ns i) Y Z (fun i => if i < io.length then Ns i else []) (startD n ds) h r.ws r.as (gamO io ++ List.replicate (n - io.length) none) Z' Ns' σ' τ' h' →
        Inv Z' Y (gamO io) (fun i => if i < io.length then Ns' i else Ns i) (ds.map some) (τ'.take io.length) h' ∧ Gr X Y Z Ns h Z' (fun i => if i < io.length then Ns' i else Ns i) h' (ixs io) := by
      intro Z' Ns' σ' τ' h' n'
      have lσ : σ'.length = n := by have := n'.inv.lg; simp [gO] at this; omega
      have nod : ∀ i k, k ∈ (if i < io.length then Ns' i else Ns i) → (i < io.length ∧ k ∈ Ns' i) ∨ (io.length ≤ i ∧ k ∈ Ns i) := fun i k hk => by
        split at hk
        · rename_i c; exact .inl ⟨c, hk⟩
        · rename_i c; exact .inr ⟨by omega, hk⟩
      have oth : ∀ i k, io.length ≤ i → k ∈ Ns i → h'[k]? = h[k]? ∧ ¬ Z' k ∧ ∀ j, k ∉ Ns' j := fun i k li hk => n'.gr.xs k (.inr ⟨i, li, hk⟩)
      refine ⟨⟨by simp; have := n'.inv.ln; omega, by simp [gO, ld], fun i ty e => ?_, fun i => ?_, fun i j k hi hj => ?_, fun i k hk => ?_, n'.inv.zl, n'.inv.yl⟩, ⟨n'.gr.len, n'.gr.zs, n'.gr.ys, fun k q => ?_, fun i hi k hk => ?_, n'.gr.zz, n'.gr.yz⟩⟩
      · have c : i < io.length := by have := (List.getElem?_eq_some_iff.mp e).1; omega
        obtain ⟨d, t, q1, q2, v⟩ := n'.inv.val i ty (by rw [List.getElem?_append_left (by omega)]; exact e)
        have pi : i ∉ r.as := by
          have q := hp i (by
            simp only [List.mem_filter, List.mem_range, decide_eq_true_eq]
            refine ⟨c, fun z => ?_⟩
            unfold gamO at e
            rw [List.getElem?_map, z] at e
            cases e)
          simpa using q
        refine ⟨d, t, ?_, by rw [List.getElem?_take_of_lt c]; exact q2, ?_⟩
        · rw [n'.sg i pi] at q1
          unfold startD at q1
          rw [List.getElem?_append_left (by simp; omega)] at q1
          exact q1
        · have ty' : ty = .O ∨ ty = .I := by
            unfold gamO at e
            rw [List.getElem?_map] at e
            cases q : io[i]? with
            | none => rw [q] at e; cases e
            | some p => rw [q] at e; cases p <;> simp at e <;> simp [e]
          rcases ty' with rfl | rfl
          · rw [if_pos c]; exact v
          · rw [if_pos c]; exact v
      · split
        · exact n'.inv.nd i
        · exact I.nd i
      · rcases nod i k hi with ⟨a1, a2⟩ | ⟨a1, a2⟩
        · rcases nod j k hj with ⟨b1, b2⟩ | ⟨b1, b2⟩
          · exact n'.inv.dj i j k a2 b2
          · exact absurd a2 ((oth j k b1 b2).2.2 i)
        · rcases nod j k hj with ⟨b1, b2⟩ | ⟨b1, b2⟩
          · exact absurd b2 ((oth i k a1 a2).2.2 j)
          · exact I.dj i j k a2 b2
      · rcases nod i k hk with ⟨a1, a2⟩ | ⟨a1, a2⟩
        · exact n'.inv.ow i k a2
        · exact ⟨(oth i k a1 a2).2.1, (I.ow i k a2).2.1, Nat.lt_of_lt_of_le (I.ow i k a2).2.2 n'.gr.len⟩
      · obtain ⟨a, b, c⟩ := n'.gr.xs k (.inl q)
        refine ⟨a, b, fun i hi => ?_⟩
        rcases nod i k hi with ⟨a1, a2⟩ | ⟨a1, a2⟩
        · exact c i a2
        · exact (x k q).2.2.2 i a2
      · have c : io.length ≤ i := by simp [ixs] at hi; omega
        refine ⟨(oth i k c hk).1, .inl ?_⟩
        rw [if_neg (by omega)]
        exact hk
    have fin : ∀ {Z' : Nat → Prop} {Ns' : Os} {σ' : Sl} {τ' : Sm} {h' : Hh} {d : D} {t : T}, NxS (fun k => X k ∨ ∃ i, io.length ≤ i ∧ k ∈ Ns i) Y Z (fun i => if i < io.length then Ns i else []) (startD n ds) h r.ws r.as (gamO io ++ List.replicate (n - io.length) none) Z' Ns' σ' τ' h' → KV (fun k => X k ∨ ∃ i, io.length ≤ i ∧ k ∈ Ns i) Y rk Z' Ns' h' d t τ' →
        ∃ d2 h2 Z2 Ns2 N2 τ2, (Res.ok d h' : Res D) = .ok d2 h2 ∧ Inv Z2 Y (gamO io) Ns2 (ds.map some) τ2 h2 ∧ outs io τ2 = outs io τ' ∧ Gr X Y Z Ns h Z2 Ns2 h2 (ixs io) ∧ Val Z2 Y Ns2 h2 rk d2 t N2 ∧ Tmp Z2 Y Ns2 h2 N2 ∧ ∀ k, k ∈ N2 → ¬ X k := by
      intro Z' Ns' σ' τ' h' d t n' kv
      obtain ⟨I2, g2⟩ := back n'
      obtain ⟨ni, N, v, p, nx⟩ := kv
      refine ⟨d, h', Z', _, N, _, rfl, I2, outs_take io τ', g2, ?_, ⟨p.nd, fun k hk => ⟨(p.ow k hk).1, (p.ow k hk).2.1, (p.ow k hk).2.2.1, fun i hi => ?_⟩⟩, fun k hk q => nx k hk (.inl q)⟩
      · cases rk with
        | F => exact v
        | O => exact v
        | I => cases hk
        | B rs =>
          cases rs with
          | cons _ _ => cases hk
          | nil =>
            exact Rp.mono (fun _ z => z) (fun k u => by
              rcases u with u | u | ⟨r, hr, _⟩
              · exact .inl u
              · exact .inr (.inl u)
              · cases hr) (fun _ _ => rfl) (fun _ _ => rfl) v
      · split at hi
        · exact (p.ow k hk).2.2.2 i hi
        · rename_i c; exact nx k hk (.inr ⟨i, by omega, hi⟩)
    cases ev : vx b (startT n ts) with
    | bad => exact trivial
    | brk τ' => exact trivial
    | cnt τ' => exact trivial
    | next τ' =>
      rw [ev] at P
      obtain ⟨Γ', σ', h', Z', Ns', en, eo, n'⟩ := P
      rw [eo]
      obtain ⟨Z2, Ns2, n2, _⟩ := n'.weak x0 (leO_some hn en) (fun i hi => hi) (fun i hi => hi)
      have lF : Wy.le .F rk = true := by rw [en] at hN; exact hN
      have k0 : KV (fun k => X k ∨ ∃ i, io.length ≤ i ∧ k ∈ Ns i) Y rk Z2 Ns2 h' .non .non τ' := by
        refine ⟨?_, [], ?_, .nil, fun k hk => by cases hk⟩
        · intro z; rw [z] at lF; cases lF
        · cases rk with
          | F => exact ⟨.non, rfl⟩
          | O => exact .non
          | B rs => exact .non
          | I => cases lF
      exact fin n2 k0
    | ret t τ' =>
      rw [ev] at P
      obtain ⟨d, σ', h', Z', Ns', eo, n', kv⟩ := P
      rw [eo]
      exact fin n' kv
    | exc c xs τ' =>
      rw [ev] at P
      obtain ⟨Γ', σ', h', Z', Ns', en, eo, fl, n'⟩ := P
      rw [eo]
      obtain ⟨Z2, Ns2, n2, _⟩ := n'.weak x0 (leO_some hx en) (fun i hi => hi) (fun i hi => hi)
      obtain ⟨I3, g3⟩ := back n2
      exact ⟨h', Z2, _, _, rfl, fl, I3, outs_take io τ', g3⟩
/-- a def -/
noncomputable def gfn (io : List Pm) (rk : Wy) (n : Nat) (b : VS) (u : b.uni) (hs : fnS io rk n b = true) : GFn := ⟨fn io.length n (erS b), vfn io n b, io, rk, sim_of u hs⟩
/-- none at all -/
def badG (io : List Pm) (rk : Wy) : GFn := ⟨fun _ _ => .bad, fun _ => .bad, io, rk, fun _ _ _ _ _ _ _ _ _ _ => trivial⟩
/-- the law's entry -/
theorem law_entry {f : GFn} (hio : f.io = [.b]) (hrk : f.rk = .F) {ns : List Int} (p : f.tree [.rol (ns.map T.int)] = .ok (.bl true) []) : ∃ h', f.run [.rol (ns.map D.int)] [] = .ok (.bl true) h' := by
  have S := f.ok
  rw [hio, hrk] at S
  have rr : ∀ (ns : List Int), Rps (fun _ => False) (U (fun _ => False) (fun _ => False) (fun _ => []) []) [] (ns.map D.int) (ns.map T.int) := by
    intro ns
    induction ns with
    | nil => exact .nil
    | cons n ns ih => exact .cons (.int n) ih
  have I : Inv (fun _ => False) (fun _ => False) (gam [.b]) (fun _ => []) ([D.rol (ns.map D.int)].map some) ([T.rol (ns.map T.int)].map some) [] := by
    refine ⟨rfl, rfl, fun i ty e => ?_, fun i => List.nodup_nil, fun i j n hn => (by cases hn), fun i n hn => (by cases hn), fun n z => z.elim, fun n z => z.elim⟩
    cases i with
    | zero =>
      simp [gam] at e
      subst e
      exact ⟨_, _, rfl, rfl, .rol (rr ns)⟩
    | succ i => simp [gam] at e
  have := S (fun _ => False) _ _ _ _ _ _ rfl (fun n z => z.elim) I
  rw [p] at this
  obtain ⟨d, h', Z', Ns', N, τ', e, _, _, _, v, _⟩ := this
  have hd : d = .bl true := by
    have := v.1
    cases this
    rfl
  subst hd
  exact ⟨h', e⟩
end L3

namespace L3
open PySem L2
section
variable (τ : Sm)
theorem yv_var (i : Nat) : (vd (.var i)).v τ = varQ τ i := (rfl)
theorem yt_var (i : Nat) : (vd (.var i)).t τ = ((vd (.var i)).v τ).bind fun x τ1 => opQ (truT x) τ1 := (rfl)
theorem yo_var (i : Nat) : (vd (.var i)).o τ = ((vd (.var i)).v τ).bind intQ := (rfl)
theorem yi_var (i : Nat) : (vd (.var i)).i τ = ((vd (.var i)).v τ).bind fun x τ1 => opQ (seqT x) τ1 := (rfl)
theorem yx_var (i : Nat) : (vd (.var i)).x τ = ((vd (.var i)).v τ).bind fun x τ1 => .ok (.v x) τ1 := (rfl)
theorem yv_mv (i : Nat) : (vd (.mv i)).v τ = varQ τ i := (rfl)
theorem yt_mv (i : Nat) : (vd (.mv i)).t τ = ((vd (.mv i)).v τ).bind fun x τ1 => opQ (truT x) τ1 := (rfl)
theorem yo_mv (i : Nat) : (vd (.mv i)).o τ = ((vd (.mv i)).v τ).bind intQ := (rfl)
theorem yi_mv (i : Nat) : (vd (.mv i)).i τ = ((vd (.mv i)).v τ).bind fun x τ1 => opQ (seqT x) τ1 := (rfl)
theorem yx_mv (i : Nat) : (vd (.mv i)).x τ = ((vd (.mv i)).v τ).bind fun x τ1 => .ok (.v x) τ1 := (rfl)
theorem yv_cst (t : T) : (vd (.cst t)).v τ = .ok t τ := (rfl)
theorem yt_cst (t : T) : (vd (.cst t)).t τ = ((vd (.cst t)).v τ).bind fun x τ1 => opQ (truT x) τ1 := (rfl)
theorem yo_cst (t : T) : (vd (.cst t)).o τ = ((vd (.cst t)).v τ).bind intQ := (rfl)
theorem yi_cst (t : T) : (vd (.cst t)).i τ = ((vd (.cst t)).v τ).bind fun x τ1 => opQ (seqT x) τ1 := (rfl)
theorem yx_cst (t : T) : (vd (.cst t)).x τ = ((vd (.cst t)).v τ).bind fun x τ1 => .ok (.v x) τ1 := (rfl)
theorem yv_glob (x : Str) (t : T) : (vd (.glob x t)).v τ = .ok t τ := (rfl)
theorem yt_glob (x : Str) (t : T) : (vd (.glob x t)).t τ = ((vd (.glob x t)).v τ).bind fun x τ1 => opQ (truT x) τ1 := (rfl)
theorem yo_glob (x : Str) (t : T) : (vd (.glob x t)).o τ = ((vd (.glob x t)).v τ).bind intQ := (rfl)
theorem yi_glob (x : Str) (t : T) : (vd (.glob x t)).i τ = ((vd (.glob x t)).v τ).bind fun x τ1 => opQ (seqT x) τ1 := (rfl)
theorem yx_glob (x : Str) (t : T) : (vd (.glob x t)).x τ = ((vd (.glob x t)).v τ).bind fun x τ1 => .ok (.v x) τ1 := (rfl)
theorem yv_fl (e : VE) : (vd (.fl e)).v τ = ((vd e).v τ).bind flQ := (rfl)
theorem yt_fl (e : VE) : (vd (.fl e)).t τ = ((vd (.fl e)).v τ).bind fun x τ1 => opQ (truT x) τ1 := (rfl)
theorem yo_fl (e : VE) : (vd (.fl e)).o τ = ((vd (.fl e)).v τ).bind intQ := (rfl)
theorem yi_fl (e : VE) : (vd (.fl e)).i τ = ((vd (.fl e)).v τ).bind fun x τ1 => opQ (seqT x) τ1 := (rfl)
theorem yx_fl (e : VE) : (vd (.fl e)).x τ = ((vd (.fl e)).v τ).bind fun x τ1 => .ok (.v x) τ1 := (rfl)
theorem yv_bin (op : Operator) (a b : VE) : (vd (.bin op a b)).v τ = ((vd a).v τ).bind fun x τ1 => ((vd b).v τ1).bind fun y τ2 => opQ (binT op x y) τ2 := (rfl)
theorem yt_bin (op : Operator) (a b : VE) : (vd (.bin op a b)).t τ = ((vd (.bin op a b)).v τ).bind fun x τ1 => opQ (truT x) τ1 := (rfl)
theorem yo_bin (op : Operator) (a b : VE) : (vd (.bin op a b)).o τ = ((vd (.bin op a b)).v τ).bind intQ := (rfl)
theorem yi_bin (op : Operator) (a b : VE) : (vd (.bin op a b)).i τ = ((vd (.bin op a b)).v τ).bind fun x τ1 => opQ (seqT x) τ1 := (rfl)
theorem yx_bin (op : Operator) (a b : VE) : (vd (.bin op a b)).x τ = ((vd (.bin op a b)).v τ).bind fun x τ1 => .ok (.v x) τ1 := (rfl)
theorem yv_cat (k : Bool) (a b : VE) : (vd (.cat k a b)).v τ = ((vd a).v τ).bind fun x τ1 => ((vd b).v τ1).bind fun y τ2 => newQ k (catT x y) τ2 := (rfl)
theorem yt_cat (k : Bool) (a b : VE) : (vd (.cat k a b)).t τ = ((vd (.cat k a b)).v τ).bind fun x τ1 => opQ (truT x) τ1 := (rfl)
theorem yo_cat (k : Bool) (a b : VE) : (vd (.cat k a b)).o τ = ((vd (.cat k a b)).v τ).bind intQ := (rfl)
theorem yi_cat (k : Bool) (a b : VE) : (vd (.cat k a b)).i τ = ((vd (.cat k a b)).v τ).bind fun x τ1 => opQ (seqT x) τ1 := (rfl)
theorem yx_cat (k : Bool) (a b : VE) : (vd (.cat k a b)).x τ = ((vd (.cat k a b)).v τ).bind fun x τ1 => .ok (.v x) τ1 := (rfl)
theorem yv_neg (a : VE) : (vd (.neg a)).v τ = ((vd a).v τ).bind negQ := (rfl)
theorem yt_neg (a : VE) : (vd (.neg a)).t τ = ((vd (.neg a)).v τ).bind fun x τ1 => opQ (truT x) τ1 := (rfl)
theorem yo_neg (a : VE) : (vd (.neg a)).o τ = ((vd (.neg a)).v τ).bind intQ := (rfl)
theorem yi_neg (a : VE) : (vd (.neg a)).i τ = ((vd (.neg a)).v τ).bind fun x τ1 => opQ (seqT x) τ1 := (rfl)
theorem yx_neg (a : VE) : (vd (.neg a)).x τ = ((vd (.neg a)).v τ).bind fun x τ1 => .ok (.v x) τ1 := (rfl)
theorem yv_not (a : VE) : (vd (.not a)).v τ = (((vd a).v τ).bind fun x τ1 => opQ (truT x) τ1).bind fun b τ1 => .ok (.bl (!b)) τ1 := (rfl)
theorem yo_not (a : VE) : (vd (.not a)).o τ = ((vd (.not a)).v τ).bind intQ := (rfl)
theorem yi_not (a : VE) : (vd (.not a)).i τ = ((vd (.not a)).v τ).bind fun x τ1 => opQ (seqT x) τ1 := (rfl)
theorem yx_not (a : VE) : (vd (.not a)).x τ = ((vd (.not a)).v τ).bind fun x τ1 => .ok (.v x) τ1 := (rfl)
theorem yv_and (a b : VE) : (vd (.and a b)).v τ = ((vd a).v τ).bind fun x τ1 => boolQ x ((vd b).v τ1) (.ok (.bl false) τ1) := (rfl)
theorem yo_and (a b : VE) : (vd (.and a b)).o τ = ((vd (.and a b)).v τ).bind intQ := (rfl)
theorem yi_and (a b : VE) : (vd (.and a b)).i τ = ((vd (.and a b)).v τ).bind fun x τ1 => opQ (seqT x) τ1 := (rfl)
theorem yx_and (a b : VE) : (vd (.and a b)).x τ = ((vd (.and a b)).v τ).bind fun x τ1 => .ok (.v x) τ1 := (rfl)
theorem yv_or (a b : VE) : (vd (.or a b)).v τ = ((vd a).v τ).bind fun x τ1 => boolQ x (.ok (.bl true) τ1) ((vd b).v τ1) := (rfl)
theorem yo_or (a b : VE) : (vd (.or a b)).o τ = ((vd (.or a b)).v τ).bind intQ := (rfl)
theorem yi_or (a b : VE) : (vd (.or a b)).i τ = ((vd (.or a b)).v τ).bind fun x τ1 => opQ (seqT x) τ1 := (rfl)
theorem yx_or (a b : VE) : (vd (.or a b)).x τ = ((vd (.or a b)).v τ).bind fun x τ1 => .ok (.v x) τ1 := (rfl)
theorem yv_cmp (op : CmpOp) (a b : VE) : (vd (.cmp op a b)).v τ = ((vd a).v τ).bind fun x τ1 => ((vd b).v τ1).bind fun y τ2 => blQ (cmpT op x y) τ2 := (rfl)
theorem yt_cmp (op : CmpOp) (a b : VE) : (vd (.cmp op a b)).t τ = ((vd (.cmp op a b)).v τ).bind fun x τ1 => opQ (truT x) τ1 := (rfl)
theorem yo_cmp (op : CmpOp) (a b : VE) : (vd (.cmp op a b)).o τ = ((vd (.cmp op a b)).v τ).bind intQ := (rfl)
theorem yi_cmp (op : CmpOp) (a b : VE) : (vd (.cmp op a b)).i τ = ((vd (.cmp op a b)).v τ).bind fun x τ1 => opQ (seqT x) τ1 := (rfl)
theorem yx_cmp (op : CmpOp) (a b : VE) : (vd (.cmp op a b)).x τ = ((vd (.cmp op a b)).v τ).bind fun x τ1 => .ok (.v x) τ1 := (rfl)
theorem yv_chain (op op' : CmpOp) (a b c : VE) : (vd (.chain op op' a b c)).v τ = ((vd a).v τ).bind fun x τ1 => ((vd b).v τ1).bind fun y τ2 => (blQ (cmpT op x y) τ2).bind fun z τ3 => boolQ z (((vd c).v τ3).bind fun w τ4 => blQ (cmpT op' y w) τ4) (.ok (.bl false) τ3) := (rfl)
theorem yt_chain (op op' : CmpOp) (a b c : VE) : (vd (.chain op op' a b c)).t τ = ((vd (.chain op op' a b c)).v τ).bind fun x τ1 => opQ (truT x) τ1 := (rfl)
theorem yo_chain (op op' : CmpOp) (a b c : VE) : (vd (.chain op op' a b c)).o τ = ((vd (.chain op op' a b c)).v τ).bind intQ := (rfl)
theorem yi_chain (op op' : CmpOp) (a b c : VE) : (vd (.chain op op' a b c)).i τ = ((vd (.chain op op' a b c)).v τ).bind fun x τ1 => opQ (seqT x) τ1 := (rfl)
theorem yx_chain (op op' : CmpOp) (a b c : VE) : (vd (.chain op op' a b c)).x τ = ((vd (.chain op op' a b c)).v τ).bind fun x τ1 => .ok (.v x) τ1 := (rfl)
theorem yv_ife (c a b : VE) : (vd (.ife c a b)).v τ = ((vd c).t τ).bind fun k τ1 => if k = true then (vd a).v τ1 else (vd b).v τ1 := (rfl)
theorem yo_ife (c a b : VE) : (vd (.ife c a b)).o τ = ((vd (.ife c a b)).v τ).bind intQ := (rfl)
theorem yi_ife (c a b : VE) : (vd (.ife c a b)).i τ = ((vd (.ife c a b)).v τ).bind fun x τ1 => opQ (seqT x) τ1 := (rfl)
theorem yx_ife (c a b : VE) : (vd (.ife c a b)).x τ = ((vd (.ife c a b)).v τ).bind fun x τ1 => .ok (.v x) τ1 := (rfl)
theorem yv_tup (es : VE) : (vd (.tup es)).v τ = ((vd es).a τ).bind fun as τ1 => (opQ (valsA as) τ1).bind fun ts τ1 => (opQ (few 1000 ts) τ1).bind fun ts τ1 => .ok (.tup ts) τ1 := (rfl)
theorem yt_tup (es : VE) : (vd (.tup es)).t τ = ((vd (.tup es)).v τ).bind fun x τ1 => opQ (truT x) τ1 := (rfl)
theorem yo_tup (es : VE) : (vd (.tup es)).o τ = ((vd (.tup es)).v τ).bind intQ := (rfl)
theorem yi_tup (es : VE) : (vd (.tup es)).i τ = ((vd (.tup es)).v τ).bind fun x τ1 => opQ (seqT x) τ1 := (rfl)
theorem yx_tup (es : VE) : (vd (.tup es)).x τ = ((vd (.tup es)).v τ).bind fun x τ1 => .ok (.v x) τ1 := (rfl)
theorem yv_lst (es : VE) : (vd (.lst es)).v τ = ((vd es).a τ).bind fun as τ1 => (opQ (valsA as) τ1).bind fun ts τ1 => (opQ (few 1000 ts) τ1).bind fun ts τ1 => .ok (.lst ts) τ1 := (rfl)
theorem yt_lst (es : VE) : (vd (.lst es)).t τ = ((vd (.lst es)).v τ).bind fun x τ1 => opQ (truT x) τ1 := (rfl)
theorem yo_lst (es : VE) : (vd (.lst es)).o τ = ((vd (.lst es)).v τ).bind intQ := (rfl)
theorem yi_lst (es : VE) : (vd (.lst es)).i τ = ((vd (.lst es)).v τ).bind fun x τ1 => opQ (seqT x) τ1 := (rfl)
theorem yx_lst (es : VE) : (vd (.lst es)).x τ = ((vd (.lst es)).v τ).bind fun x τ1 => .ok (.v x) τ1 := (rfl)
theorem yv_sub (a i : VE) : (vd (.sub a i)).v τ = ((vd a).v τ).bind fun x τ1 => ((vd i).v τ1).bind fun y τ2 => opQ (subT x y) τ2 := (rfl)
theorem yt_sub (a i : VE) : (vd (.sub a i)).t τ = ((vd (.sub a i)).v τ).bind fun x τ1 => opQ (truT x) τ1 := (rfl)
theorem yo_sub (a i : VE) : (vd (.sub a i)).o τ = ((vd (.sub a i)).v τ).bind intQ := (rfl)
theorem yi_sub (a i : VE) : (vd (.sub a i)).i τ = ((vd (.sub a i)).v τ).bind fun x τ1 => opQ (seqT x) τ1 := (rfl)
theorem yx_sub (a i : VE) : (vd (.sub a i)).x τ = ((vd (.sub a i)).v τ).bind fun x τ1 => .ok (.v x) τ1 := (rfl)
theorem yv_slc (k : Bool) (a lo hi : VE) : (vd (.slc k a lo hi)).v τ = ((vd a).v τ).bind fun x τ1 => ((vd lo).o τ1).bind fun l τ2 => ((vd hi).o τ2).bind fun u τ3 => newQ k (slcT x l u) τ3 := (rfl)
theorem yt_slc (k : Bool) (a lo hi : VE) : (vd (.slc k a lo hi)).t τ = ((vd (.slc k a lo hi)).v τ).bind fun x τ1 => opQ (truT x) τ1 := (rfl)
theorem yo_slc (k : Bool) (a lo hi : VE) : (vd (.slc k a lo hi)).o τ = ((vd (.slc k a lo hi)).v τ).bind intQ := (rfl)
theorem yi_slc (k : Bool) (a lo hi : VE) : (vd (.slc k a lo hi)).i τ = ((vd (.slc k a lo hi)).v τ).bind fun x τ1 => opQ (seqT x) τ1 := (rfl)
theorem yx_slc (k : Bool) (a lo hi : VE) : (vd (.slc k a lo hi)).x τ = ((vd (.slc k a lo hi)).v τ).bind fun x τ1 => .ok (.v x) τ1 := (rfl)
theorem yv_call (f : GFn) (x : Str) (b : Option (List Ar)) (es : VE) (ks : List Str) (kes : VE) : (vd (.call f x b es ks kes)).v τ = ((vd es).a τ).bind fun as τ1 => ((vd kes).a τ1).bind fun zs τ2 => (opQ (argsV b as zs) τ2).bind fun as τ2 => callV f as τ2 := (rfl)
theorem yt_call (f : GFn) (x : Str) (b : Option (List Ar)) (es : VE) (ks : List Str) (kes : VE) : (vd (.call f x b es ks kes)).t τ = ((vd (.call f x b es ks kes)).v τ).bind fun x τ1 => opQ (truT x) τ1 := (rfl)
theorem yo_call (f : GFn) (x : Str) (b : Option (List Ar)) (es : VE) (ks : List Str) (kes : VE) : (vd (.call f x b es ks kes)).o τ = ((vd (.call f x b es ks kes)).v τ).bind intQ := (rfl)
theorem yi_call (f : GFn) (x : Str) (b : Option (List Ar)) (es : VE) (ks : List Str) (kes : VE) : (vd (.call f x b es ks kes)).i τ = ((vd (.call f x b es ks kes)).v τ).bind fun x τ1 => opQ (seqT x) τ1 := (rfl)
theorem yx_call (f : GFn) (x : Str) (b : Option (List Ar)) (es : VE) (ks : List Str) (kes : VE) : (vd (.call f x b es ks kes)).x τ = ((vd (.call f x b es ks kes)).v τ).bind fun x τ1 => .ok (.v x) τ1 := (rfl)
theorem yv_meth (c : Nat) (f : GFn) (m : Str) (b : Option (List Ar)) (o es : VE) (ks : List Str) (kes : VE) : (vd (.meth c f m b o es ks kes)).v τ = ((vd o).x τ).bind fun x τ1 => if clsA τ1 c x = true then ((vd es).a τ1).bind fun as τ2 => ((vd kes).a τ2).bind fun zs τ3 => (opQ (argsV b (x :: as) zs) τ3).bind fun as τ3 => callV f as τ3 else .bad := (rfl)
theorem yt_meth (c : Nat) (f : GFn) (m : Str) (b : Option (List Ar)) (o es : VE) (ks : List Str) (kes : VE) : (vd (.meth c f m b o es ks kes)).t τ = ((vd (.meth c f m b o es ks kes)).v τ).bind fun x τ1 => opQ (truT x) τ1 := (rfl)
theorem yo_meth (c : Nat) (f : GFn) (m : Str) (b : Option (List Ar)) (o es : VE) (ks : List Str) (kes : VE) : (vd (.meth c f m b o es ks kes)).o τ = ((vd (.meth c f m b o es ks kes)).v τ).bind intQ := (rfl)
theorem yi_meth (c : Nat) (f : GFn) (m : Str) (b : Option (List Ar)) (o es : VE) (ks : List Str) (kes : VE) : (vd (.meth c f m b o es ks kes)).i τ = ((vd (.meth c f m b o es ks kes)).v τ).bind fun x τ1 => opQ (seqT x) τ1 := (rfl)
theorem yx_meth (c : Nat) (f : GFn) (m : Str) (b : Option (List Ar)) (o es : VE) (ks : List Str) (kes : VE) : (vd (.meth c f m b o es ks kes)).x τ = ((vd (.meth c f m b o es ks kes)).v τ).bind fun x τ1 => .ok (.v x) τ1 := (rfl)
theorem yv_make (c : Nat) (f : GFn) (b : Option (List Ar)) (es : VE) (ks : List Str) (kes : VE) : (vd (.make c f b es ks kes)).v τ = ((vd es).a τ).bind fun as τ1 => ((vd kes).a τ1).bind fun zs τ2 => (opQ (argsV b (.v .non :: as) zs) τ2).bind fun as τ2 => makeV c f as.tail τ2 := (rfl)
theorem yt_make (c : Nat) (f : GFn) (b : Option (List Ar)) (es : VE) (ks : List Str) (kes : VE) : (vd (.make c f b es ks kes)).t τ = ((vd (.make c f b es ks kes)).v τ).bind fun x τ1 => opQ (truT x) τ1 := (rfl)
theorem yo_make (c : Nat) (f : GFn) (b : Option (List Ar)) (es : VE) (ks : List Str) (kes : VE) : (vd (.make c f b es ks kes)).o τ = ((vd (.make c f b es ks kes)).v τ).bind intQ := (rfl)
theorem yi_make (c : Nat) (f : GFn) (b : Option (List Ar)) (es : VE) (ks : List Str) (kes : VE) : (vd (.make c f b es ks kes)).i τ = ((vd (.make c f b es ks kes)).v τ).bind fun x τ1 => opQ (seqT x) τ1 := (rfl)
theorem yx_make (c : Nat) (f : GFn) (b : Option (List Ar)) (es : VE) (ks : List Str) (kes : VE) : (vd (.make c f b es ks kes)).x τ = ((vd (.make c f b es ks kes)).v τ).bind fun x τ1 => .ok (.v x) τ1 := (rfl)
theorem yv_fld (tb : List (Nat × Nat)) (f : Str) (a : VE) : (vd (.fld tb f a)).v τ = ((vd a).v τ).bind fun x τ1 => opQ (fldT tb x) τ1 := (rfl)
theorem yt_fld (tb : List (Nat × Nat)) (f : Str) (a : VE) : (vd (.fld tb f a)).t τ = ((vd (.fld tb f a)).v τ).bind fun x τ1 => opQ (truT x) τ1 := (rfl)
theorem yo_fld (tb : List (Nat × Nat)) (f : Str) (a : VE) : (vd (.fld tb f a)).o τ = ((vd (.fld tb f a)).v τ).bind intQ := (rfl)
theorem yi_fld (tb : List (Nat × Nat)) (f : Str) (a : VE) : (vd (.fld tb f a)).i τ = ((vd (.fld tb f a)).v τ).bind fun x τ1 => opQ (seqT x) τ1 := (rfl)
theorem yx_fld (tb : List (Nat × Nat)) (f : Str) (a : VE) : (vd (.fld tb f a)).x τ = ((vd (.fld tb f a)).v τ).bind fun x τ1 => .ok (.v x) τ1 := (rfl)
theorem yv_bi (b : Bi) (es : VE) : (vd (.bi b es)).v τ = ((vd es).a τ).bind fun as τ1 => (opQ (valsA as) τ1).bind fun ts τ1 => opQ (biT b ts) τ1 := (rfl)
theorem yt_bi (b : Bi) (es : VE) : (vd (.bi b es)).t τ = ((vd (.bi b es)).v τ).bind fun x τ1 => opQ (truT x) τ1 := (rfl)
theorem yo_bi (b : Bi) (es : VE) : (vd (.bi b es)).o τ = ((vd (.bi b es)).v τ).bind intQ := (rfl)
theorem yi_bi (b : Bi) (es : VE) : (vd (.bi b es)).i τ = ((vd (.bi b es)).v τ).bind fun x τ1 => opQ (seqT x) τ1 := (rfl)
theorem yx_bi (b : Bi) (es : VE) : (vd (.bi b es)).x τ = ((vd (.bi b es)).v τ).bind fun x τ1 => .ok (.v x) τ1 := (rfl)
theorem yv_lis (k : Bool) (e : VE) : (vd (.lis k e)).v τ = ((vd e).v τ).bind fun x τ1 => newQ k (itemsT x) τ1 := (rfl)
theorem yt_lis (k : Bool) (e : VE) : (vd (.lis k e)).t τ = ((vd (.lis k e)).v τ).bind fun x τ1 => opQ (truT x) τ1 := (rfl)
theorem yo_lis (k : Bool) (e : VE) : (vd (.lis k e)).o τ = ((vd (.lis k e)).v τ).bind intQ := (rfl)
theorem yi_lis (k : Bool) (e : VE) : (vd (.lis k e)).i τ = ((vd (.lis k e)).v τ).bind fun x τ1 => opQ (seqT x) τ1 := (rfl)
theorem yx_lis (k : Bool) (e : VE) : (vd (.lis k e)).x τ = ((vd (.lis k e)).v τ).bind fun x τ1 => .ok (.v x) τ1 := (rfl)
theorem yv_tpl (e : VE) : (vd (.tpl e)).v τ = ((vd e).v τ).bind fun x τ1 => (opQ (lstT x) τ1).bind fun xs τ1 => .ok (.tup xs) τ1 := (rfl)
theorem yt_tpl (e : VE) : (vd (.tpl e)).t τ = ((vd (.tpl e)).v τ).bind fun x τ1 => opQ (truT x) τ1 := (rfl)
theorem yo_tpl (e : VE) : (vd (.tpl e)).o τ = ((vd (.tpl e)).v τ).bind intQ := (rfl)
theorem yi_tpl (e : VE) : (vd (.tpl e)).i τ = ((vd (.tpl e)).v τ).bind fun x τ1 => opQ (seqT x) τ1 := (rfl)
theorem yx_tpl (e : VE) : (vd (.tpl e)).x τ = ((vd (.tpl e)).v τ).bind fun x τ1 => .ok (.v x) τ1 := (rfl)
theorem yv_isi (a : VE) (t : Ty) : (vd (.isi a t)).v τ = ((vd a).v τ).bind fun x τ1 => blQ ((tyT x).map fun k => isTy k t) τ1 := (rfl)
theorem yt_isi (a : VE) (t : Ty) : (vd (.isi a t)).t τ = ((vd (.isi a t)).v τ).bind fun x τ1 => opQ (truT x) τ1 := (rfl)
theorem yo_isi (a : VE) (t : Ty) : (vd (.isi a t)).o τ = ((vd (.isi a t)).v τ).bind intQ := (rfl)
theorem yi_isi (a : VE) (t : Ty) : (vd (.isi a t)).i τ = ((vd (.isi a t)).v τ).bind fun x τ1 => opQ (seqT x) τ1 := (rfl)
theorem yx_isi (a : VE) (t : Ty) : (vd (.isi a t)).x τ = ((vd (.isi a t)).v τ).bind fun x τ1 => .ok (.v x) τ1 := (rfl)
theorem yv_app (o e : VE) : (vd (.app o e)).v τ = ((vd o).p τ).bind fun rs τ1 => if isLst (getR τ1 rs.1 rs.2) = true then ((vd e).v τ1).bind fun t τ2 => appQ rs.1 rs.2 t τ2 else .bad := (rfl)
theorem yt_app (o e : VE) : (vd (.app o e)).t τ = ((vd (.app o e)).v τ).bind fun x τ1 => opQ (truT x) τ1 := (rfl)
theorem yo_app (o e : VE) : (vd (.app o e)).o τ = ((vd (.app o e)).v τ).bind intQ := (rfl)
theorem yi_app (o e : VE) : (vd (.app o e)).i τ = ((vd (.app o e)).v τ).bind fun x τ1 => opQ (seqT x) τ1 := (rfl)
theorem yx_app (o e : VE) : (vd (.app o e)).x τ = ((vd (.app o e)).v τ).bind fun x τ1 => .ok (.v x) τ1 := (rfl)
theorem yv_pop (o : VE) : (vd (.pop o)).v τ = ((vd o).p τ).bind fun rs τ1 => popQ rs.1 rs.2 τ1 := (rfl)
theorem yt_pop (o : VE) : (vd (.pop o)).t τ = ((vd (.pop o)).v τ).bind fun x τ1 => opQ (truT x) τ1 := (rfl)
theorem yo_pop (o : VE) : (vd (.pop o)).o τ = ((vd (.pop o)).v τ).bind intQ := (rfl)
theorem yi_pop (o : VE) : (vd (.pop o)).i τ = ((vd (.pop o)).v τ).bind fun x τ1 => opQ (seqT x) τ1 := (rfl)
theorem yx_pop (o : VE) : (vd (.pop o)).x τ = ((vd (.pop o)).v τ).bind fun x τ1 => .ok (.v x) τ1 := (rfl)
theorem yv_comp (own : List (Str × Nat)) (g : Tg) (it test elt : VE) : (vd (.comp own g it test elt)).v τ = ((vd it).i τ).bind fun s τ1 => compQ (turnV g (own.map (·.2)) (vd test).t (vd elt).v) s τ1 := (rfl)
theorem yt_comp (own : List (Str × Nat)) (g : Tg) (it test elt : VE) : (vd (.comp own g it test elt)).t τ = ((vd (.comp own g it test elt)).v τ).bind fun x τ1 => opQ (truT x) τ1 := (rfl)
theorem yo_comp (own : List (Str × Nat)) (g : Tg) (it test elt : VE) : (vd (.comp own g it test elt)).o τ = ((vd (.comp own g it test elt)).v τ).bind intQ := (rfl)
theorem yi_comp (own : List (Str × Nat)) (g : Tg) (it test elt : VE) : (vd (.comp own g it test elt)).i τ = ((vd (.comp own g it test elt)).v τ).bind fun x τ1 => opQ (seqT x) τ1 := (rfl)
theorem yx_comp (own : List (Str × Nat)) (g : Tg) (it test elt : VE) : (vd (.comp own g it test elt)).x τ = ((vd (.comp own g it test elt)).v τ).bind fun x τ1 => .ok (.v x) τ1 := (rfl)
theorem yv_lrng (a b : VE) : (vd (.lrng a b)).v τ = ((vd a).v τ).bind fun x τ1 => ((vd b).v τ1).bind fun y τ2 => opQ (lrngT x y) τ2 := (rfl)
theorem yt_lrng (a b : VE) : (vd (.lrng a b)).t τ = ((vd (.lrng a b)).v τ).bind fun x τ1 => opQ (truT x) τ1 := (rfl)
theorem yo_lrng (a b : VE) : (vd (.lrng a b)).o τ = ((vd (.lrng a b)).v τ).bind intQ := (rfl)
theorem yi_lrng (a b : VE) : (vd (.lrng a b)).i τ = ((vd (.lrng a b)).v τ).bind fun x τ1 => opQ (seqT x) τ1 := (rfl)
theorem yx_lrng (a b : VE) : (vd (.lrng a b)).x τ = ((vd (.lrng a b)).v τ).bind fun x τ1 => .ok (.v x) τ1 := (rfl)
theorem yv_rsl (k : Bool) (a : VE) : (vd (.rsl k a)).v τ = ((vd a).v τ).bind fun x τ1 => newQ k ((lstT x).map List.reverse) τ1 := (rfl)
theorem yt_rsl (k : Bool) (a : VE) : (vd (.rsl k a)).t τ = ((vd (.rsl k a)).v τ).bind fun x τ1 => opQ (truT x) τ1 := (rfl)
theorem yo_rsl (k : Bool) (a : VE) : (vd (.rsl k a)).o τ = ((vd (.rsl k a)).v τ).bind intQ := (rfl)
theorem yi_rsl (k : Bool) (a : VE) : (vd (.rsl k a)).i τ = ((vd (.rsl k a)).v τ).bind fun x τ1 => opQ (seqT x) τ1 := (rfl)
theorem yx_rsl (k : Bool) (a : VE) : (vd (.rsl k a)).x τ = ((vd (.rsl k a)).v τ).bind fun x τ1 => .ok (.v x) τ1 := (rfl)
theorem yv_leno (c : Nat) (f : GFn) (o : VE) : (vd (.leno c f o)).v τ = ((vd o).v τ).bind fun x τ1 => if clsA τ1 c (.v x) = true then (callV f [.v x] τ1).bind lenQ else .bad := (rfl)
theorem yt_leno (c : Nat) (f : GFn) (o : VE) : (vd (.leno c f o)).t τ = ((vd (.leno c f o)).v τ).bind fun x τ1 => opQ (truT x) τ1 := (rfl)
theorem yo_leno (c : Nat) (f : GFn) (o : VE) : (vd (.leno c f o)).o τ = ((vd (.leno c f o)).v τ).bind intQ := (rfl)
theorem yi_leno (c : Nat) (f : GFn) (o : VE) : (vd (.leno c f o)).i τ = ((vd (.leno c f o)).v τ).bind fun x τ1 => opQ (seqT x) τ1 := (rfl)
theorem yx_leno (c : Nat) (f : GFn) (o : VE) : (vd (.leno c f o)).x τ = ((vd (.leno c f o)).v τ).bind fun x τ1 => .ok (.v x) τ1 := (rfl)
theorem yv_xf (v : Nat) (f : Str) (tb : List (Nat × Nat)) (c : Nat) (ts : List T) : (vd (.xf v f tb c ts)).v τ = opQ (xfT tb c ts) τ := (rfl)
theorem yt_xf (v : Nat) (f : Str) (tb : List (Nat × Nat)) (c : Nat) (ts : List T) : (vd (.xf v f tb c ts)).t τ = ((vd (.xf v f tb c ts)).v τ).bind fun x τ1 => opQ (truT x) τ1 := (rfl)
theorem yo_xf (v : Nat) (f : Str) (tb : List (Nat × Nat)) (c : Nat) (ts : List T) : (vd (.xf v f tb c ts)).o τ = ((vd (.xf v f tb c ts)).v τ).bind intQ := (rfl)
theorem yi_xf (v : Nat) (f : Str) (tb : List (Nat × Nat)) (c : Nat) (ts : List T) : (vd (.xf v f tb c ts)).i τ = ((vd (.xf v f tb c ts)).v τ).bind fun x τ1 => opQ (seqT x) τ1 := (rfl)
theorem yx_xf (v : Nat) (f : Str) (tb : List (Nat × Nat)) (c : Nat) (ts : List T) : (vd (.xf v f tb c ts)).x τ = ((vd (.xf v f tb c ts)).v τ).bind fun x τ1 => .ok (.v x) τ1 := (rfl)
theorem yv_xis (v : Nat) (t : String) (b : Bool) : (vd (.xis v t b)).v τ = .ok (.bl b) τ := (rfl)
theorem yt_xis (v : Nat) (t : String) (b : Bool) : (vd (.xis v t b)).t τ = ((vd (.xis v t b)).v τ).bind fun x τ1 => opQ (truT x) τ1 := (rfl)
theorem yo_xis (v : Nat) (t : String) (b : Bool) : (vd (.xis v t b)).o τ = ((vd (.xis v t b)).v τ).bind intQ := (rfl)
theorem yi_xis (v : Nat) (t : String) (b : Bool) : (vd (.xis v t b)).i τ = ((vd (.xis v t b)).v τ).bind fun x τ1 => opQ (seqT x) τ1 := (rfl)
theorem yx_xis (v : Nat) (t : String) (b : Bool) : (vd (.xis v t b)).x τ = ((vd (.xis v t b)).v τ).bind fun x τ1 => .ok (.v x) τ1 := (rfl)
theorem yt_not (a : VE) : (vd (.not a)).t τ = ((vd a).t τ).bind fun b τ1 => .ok (!b) τ1 := (rfl)
theorem yt_and (a b : VE) : (vd (.and a b)).t τ = ((vd a).t τ).bind fun k τ1 => if k = true then (vd b).t τ1 else .ok false τ1 := (rfl)
theorem yt_or (a b : VE) : (vd (.or a b)).t τ = ((vd a).t τ).bind fun k τ1 => if k = true then .ok true τ1 else (vd b).t τ1 := (rfl)
theorem yp_var (i : Nat) : (vd (.var i)).p τ = .ok (i, []) τ := (rfl)
theorem yp_sub (a i : VE) : (vd (.sub a i)).p τ = ((vd a).p τ).bind fun rs τ1 => ((vd i).v τ1).bind fun y τ2 => (opQ (subP τ2 rs.1 rs.2 y) τ2).bind fun s τ2 => .ok (rs.1, s) τ2 := (rfl)
theorem yp_fld (tb : List (Nat × Nat)) (f : Str) (a : VE) : (vd (.fld tb f a)).p τ = ((vd a).p τ).bind fun rs τ1 => (opQ (fldP tb τ1 rs.1 rs.2) τ1).bind fun s τ1 => .ok (rs.1, s) τ1 := (rfl)
theorem yi_rng (es : VE) : (vd (.rng es)).i τ = ((vd es).a τ).bind fun as τ1 => (opQ (valsA as) τ1).bind fun ts τ1 => opQ (rngT ts) τ1 := (rfl)
theorem yi_enum (a : VE) : (vd (.enum a)).i τ = ((vd a).v τ).bind fun x τ1 => (opQ (lstT x) τ1).bind fun xs τ1 => .ok (numT 0 xs) τ1 := (rfl)
theorem yi_zip (a b : VE) : (vd (.zip a b)).i τ = ((vd a).v τ).bind fun x τ1 => ((vd b).v τ1).bind fun y τ2 => (opQ (lstT x) τ2).bind fun xs τ2 => (opQ (lstT y) τ2).bind fun ys τ2 => if xs.length = ys.length then .ok (zipT xs ys) τ2 else .bad := (rfl)
theorem yi_rev (a : VE) : (vd (.rev a)).i τ = ((vd a).v τ).bind fun x τ1 => (opQ (lstT x) τ1).bind fun xs τ1 => .ok xs.reverse τ1 := (rfl)
theorem yx_ref (e : VE) : (vd (.ref e)).x τ = ((vd e).p τ).bind fun rs τ1 => if (getR τ1 rs.1 rs.2).isSome = true then .ok (.p rs.1 rs.2) τ1 else .bad := (rfl)
theorem yx_rv (i : Nat) : (vd (.rv i)).x τ = .ok (.p i []) τ := (rfl)
theorem ya_nil  : (vd .nil).a τ = .ok [] τ := (rfl)
theorem yt_nil  : (vd .nil).t τ = .ok true τ := (rfl)
theorem yo_nil  : (vd .nil).o τ = .ok none τ := (rfl)
theorem ya_cons (e es : VE) : (vd (.cons e es)).a τ = ((vd e).x τ).bind fun d τ1 => ((vd es).a τ1).bind fun ds τ2 => .ok (d :: ds) τ2 := (rfl)
theorem ys_nil  : vx .nil τ = .next τ := (rfl)
theorem ys_cons (s r : VS) : vx (.cons s r) τ = (vx s τ).seq (vx r) := (rfl)
theorem ys_pass  : vx .pass τ = .next τ := (rfl)
theorem ys_expr (e : VE) : vx (.expr e) τ = ((vd e).v τ).out fun _ τ1 => .next τ1 := (rfl)
theorem ys_asg (i : Nat) (e : VE) : vx (.asg i e) τ = ((vd e).v τ).out fun t τ1 => .next (τ1.set i (some t)) := (rfl)
theorem ys_par (i j : Nat) (a b : VE) : vx (.par i j a b) τ = ((vd a).v τ).out fun x τ1 => ((vd b).v τ1).out fun y τ2 => .next ((τ2.set i (some x)).set j (some y)) := (rfl)
theorem ys_unp (g : Tg) (e : VE) : vx (.unp g e) τ = ((vd e).v τ).out fun t τ1 => unpQ g t τ1 := (rfl)
theorem ys_sts (o i e : VE) : vx (.sts o i e) τ = ((vd e).v τ).out fun t τ1 => ((vd o).p τ1).out fun rs τ2 => ((vd i).v τ2).out fun y τ3 => stsQ rs.1 rs.2 y t τ3 := (rfl)
theorem ys_ret (e : VE) : vx (.ret e) τ = ((vd e).v τ).out fun t τ1 => .ret t τ1 := (rfl)
theorem ys_retN  : vx .retN τ = .ret .non τ := (rfl)
theorem ys_ife (c : VE) (t u : VS) : vx (.ife c t u) τ = ((vd c).t τ).out fun k τ1 => if k = true then vx t τ1 else vx u τ1 := (rfl)
theorem ys_whl (c : VE) (b : VS) : vx (.whl c b) τ = vwhl (vd c).t (vx b) τ := (rfl)
theorem ys_fr (g : Tg) (it : VE) (b : VS) : vx (.fr g it b) τ = ((vd it).i τ).out fun ts τ1 => vfor g (vx b) ts τ1 := (rfl)
theorem ys_brk  : vx .brk τ = .brk τ := (rfl)
theorem ys_cnt  : vx .cnt τ = .cnt τ := (rfl)
theorem ys_stf (tb : List (Nat × Nat)) (f : Str) (o e : VE) : vx (.stf tb f o e) τ = ((vd e).v τ).out fun t τ1 => ((vd o).p τ1).out fun rs τ2 => stfQ tb rs.1 rs.2 t τ2 := (rfl)
theorem ys_sti (i c k : Nat) (f : Str) (e : VE) : vx (.sti i c k f e) τ = ((vd e).v τ).out fun t τ1 => stiQ i c k t τ1 := (rfl)
theorem ys_rais (c : Nat) (b : List Ar) (es : VE) : vx (.rais c b es) τ = ((vd es).a τ).out fun as τ1 => raisQ c b as τ1 := (rfl)
theorem ys_tr (b hs : VS) : vx (.tr b hs) τ = (vx b τ).catch (vxH hs) := (rfl)
end

theorem y_var0 (t : T) (τ : Sm) : varQ (some t :: τ) 0 = .ok t (some t :: τ) := (rfl)
def varX (τ0 : Sm) : Sm → Nat → Q T
  | some t :: _, 0 => .ok t τ0
  | _ :: τ, i + 1 => varX τ0 τ i
  | _, _ => .bad
theorem varX_eq (τ0 : Sm) : ∀ (τ : Sm) (i : Nat), varX τ0 τ i = match τ[i]? with | some (some t) => .ok t τ0 | _ => .bad
  | [], i => by simp [varX]
  | some t :: τ, 0 => rfl
  | none :: τ, 0 => rfl
  | o :: τ, i + 1 => by cases o <;> simp [varX, varX_eq τ0 τ i]
theorem y_var (τ : Sm) (i : Nat) : varQ τ i = varX τ τ i := by rw [varX_eq]; rfl
theorem yX0 (τ0 : Sm) (t : T) (τ : Sm) : varX τ0 (some t :: τ) 0 = .ok t τ0 := (rfl)
theorem yXs (τ0 : Sm) (o : Option T) (τ : Sm) (i : Nat) : varX τ0 (o :: τ) (i + 1) = varX τ0 τ i := by cases o <;> rfl
theorem opQ_some {α : Type} (a : α) (τ : Sm) : opQ (some a) τ = .ok a τ := (rfl)
theorem opQ_none {α : Type} (τ : Sm) : opQ (none : Option α) τ = .bad := (rfl)
theorem blQ_some (b : Bool) (τ : Sm) : blQ (some b) τ = .ok (.bl b) τ := (rfl)
theorem intQ_int (i : Int) (τ : Sm) : intQ (.int i) τ = .ok (some i) τ := (rfl)
theorem negQ_int (i : Int) (τ : Sm) : negQ (.int i) τ = .ok (.int (-i)) τ := (rfl)
theorem boolQ_bl {α : Type} (b : Bool) (f g : Q α) : boolQ (.bl b) f g = if b = true then f else g := by cases b <;> rfl
theorem flQ_ok {t : T} (τ : Sm) (f : flat t = true) : flQ t τ = .ok t τ := if_pos f
theorem newQ_t {xs : List T} (τ : Sm) (f : flats xs = true) : newQ true (some xs) τ = .ok (.lst xs) τ := by simp [newQ, f]
theorem newQ_f (xs : List T) (τ : Sm) : newQ false (some xs) τ = .ok (.lst xs) τ := by simp [newQ]
theorem few_ok {α : Type} (n : Nat) {xs : List α} (f : xs.length ≤ n) : few n xs = some xs := if_pos f
theorem b_add (i j : Int) : binT .Add (.int i) (.int j) = some (.int (i + j)) := (rfl)
theorem b_sub (i j : Int) : binT .Sub (.int i) (.int j) = some (.int (i - j)) := (rfl)
theorem b_mul {i j : Int} (e : i.natAbs.log2 + j.natAbs.log2 < 1000000) : binT .Mult (.int i) (.int j) = some (.int (i * j)) := if_pos e
theorem b_fdiv {i j : Int} (e : j ≠ 0 ∧ j.natAbs.log2 < 9000) : binT .FloorDiv (.int i) (.int j) = some (.int (i.fdiv j)) := if_pos e
theorem b_mod {i j : Int} (e : j ≠ 0) : binT .Mod (.int i) (.int j) = some (.int (i.fmod j)) := if_pos e
theorem b_pow {i j : Int} (e : 0 ≤ j ∧ j ≤ 1000000 ∧ i.natAbs < 2 ^ 64) : binT .Pow (.int i) (.int j) = some (.int (i ^ j.toNat)) := if_pos e
theorem p6 : binT .Pow (.int 10) (.int 6) = some (.int 1000000) := (rfl)
theorem p9 : binT .Pow (.int 10) (.int 9) = some (.int 1000000000) := (rfl)
theorem p18 : binT .Pow (.int 10) (.int 18) = some (.int 1000000000000000000) := (rfl)
theorem p20 : binT .Pow (.int 10) (.int 20) = some (.int 100000000000000000000) := (rfl)
theorem p30 : binT .Pow (.int 10) (.int 30) = some (.int 1000000000000000000000000000000) := (rfl)
theorem c_lt (i j : Int) : cmpT .Lt (.int i) (.int j) = some (decide (i < j)) := (rfl)
theorem c_le (i j : Int) : cmpT .LtE (.int i) (.int j) = some (decide (i ≤ j)) := (rfl)
theorem c_gt (i j : Int) : cmpT .Gt (.int i) (.int j) = some (decide (j < i)) := (rfl)
theorem c_ge (i j : Int) : cmpT .GtE (.int i) (.int j) = some (decide (j ≤ i)) := (rfl)
theorem c_eqi (i j : Int) : cmpT .Eq (.int i) (.int j) = some (decide (i = j)) := (rfl)
theorem c_nei (i j : Int) : cmpT .NotEq (.int i) (.int j) = some (!decide (i = j)) := (rfl)
theorem c_eqs (i j : Str) : cmpT .Eq (.str i) (.str j) = some (decide (i = j)) := (rfl)
theorem c_nes (i j : Str) : cmpT .NotEq (.str i) (.str j) = some (!decide (i = j)) := (rfl)
theorem c_eqb (i j : Bool) : cmpT .Eq (.bl i) (.bl j) = some (decide (i = j)) := (rfl)
theorem c_is0 : cmpT .Is .non .non = some true := (rfl)
theorem c_isn : cmpT .IsNot .non .non = some false := (rfl)
theorem c_is1 (i : Int) : cmpT .Is (.int i) .non = some false := (rfl)
theorem c_is2 (i : Bool) : cmpT .Is (.bl i) .non = some false := (rfl)
theorem c_is3 (i : Str) : cmpT .Is (.str i) .non = some false := (rfl)
theorem c_is4 (i : List T) : cmpT .Is (.tup i) .non = some false := (rfl)
theorem c_is5 (i : List T) : cmpT .Is (.lst i) .non = some false := (rfl)
theorem c_is6 (c : Nat) (i : List T) : cmpT .Is (.ins c i) .non = some false := (rfl)
theorem c_in1 (i : Int) : cmpT .IsNot (.int i) .non = some true := (rfl)
theorem c_in4 (i : List T) : cmpT .IsNot (.tup i) .non = some true := (rfl)
theorem c_in5 (i : List T) : cmpT .IsNot (.lst i) .non = some true := (rfl)
theorem c_in6 (c : Nat) (i : List T) : cmpT .IsNot (.ins c i) .non = some true := (rfl)
theorem t_bl (b : Bool) : truT (.bl b) = some b := (rfl)
theorem t_int (i : Int) : truT (.int i) = some (i != 0) := (rfl)
theorem t_non : truT .non = some false := (rfl)
theorem t_tup (xs : List T) : truT (.tup xs) = some (!xs.isEmpty) := (rfl)
theorem t_lst (xs : List T) : truT (.lst xs) = some (!xs.isEmpty) := (rfl)
theorem k_non : tyT .non = some .non := (rfl)
theorem k_bl (b : Bool) : tyT (.bl b) = some .bool := (rfl)
theorem k_int (i : Int) : tyT (.int i) = some .int := (rfl)
theorem k_str (i : Str) : tyT (.str i) = some .str := (rfl)
theorem k_tup (i : List T) : tyT (.tup i) = some .tuple := (rfl)
theorem k_lst (i : List T) : tyT (.lst i) = some .list := (rfl)
theorem s_tup (xs : List T) (i : Int) : subT (.tup xs) (.int i) = atI xs i := (rfl)
theorem s_lst (xs : List T) (i : Int) : subT (.lst xs) (.int i) = atI xs i := (rfl)
theorem q_lst (xs : List T) : seqT (.lst xs) = some xs := (rfl)
theorem q_tup (xs : List T) : seqT (.tup xs) = some xs := (rfl)
theorem l_lst (xs : List T) : lstT (.lst xs) = some xs := (rfl)
theorem i_lst (xs : List T) : itemsT (.lst xs) = some xs := (rfl)
theorem i_tup (xs : List T) : itemsT (.tup xs) = some xs := (rfl)
theorem z_lst (xs : List T) (lo hi : Option Int) : slcT (.lst xs) lo hi = some (cutT xs lo hi) := (rfl)
theorem z_rol (xs : List T) (lo hi : Option Int) : slcT (.rol xs) lo hi = some (cutT xs lo hi) := (rfl)
theorem n_abs (i : Int) : biT .abs [.int i] = some (.int (i.natAbs : Int)) := by
  show some (T.int (if i < 0 then -i else i)) = _
  congr 2
  split <;> omega
theorem n_min (i j : Int) : biT .min [.int i, .int j] = some (.int (min i j)) := by
  show some (T.int (if j < i then j else i)) = _
  congr 2
  split <;> omega
theorem n_max (i j : Int) : biT .max [.int i, .int j] = some (.int (max i j)) := by
  show some (T.int (if j > i then j else i)) = _
  congr 2
  split <;> omega
theorem n_lent (xs : List T) : biT .len [.tup xs] = some (.int xs.length) := (rfl)
theorem n_lenl (xs : List T) : biT .len [.lst xs] = some (.int xs.length) := (rfl)
theorem va_nil : valsA [] = some [] := (rfl)
theorem va_v (t : T) (r : List VA) : valsA (.v t :: r) = (valsA r).map (t :: ·) := (rfl)
theorem ta_nil (τ : Sm) : takeAs τ [] = some [] := (rfl)
theorem ta_v (τ : Sm) (t : T) (r : List VA) : takeAs τ (.v t :: r) = (takeAs τ r).map (t :: ·) := (rfl)
theorem ta_p (τ : Sm) (i : Nat) (s : List Stp) (r : List VA) : takeAs τ (.p i s :: r) = (getR τ i s).bind fun t => (takeAs τ r).map (t :: ·) := by
  show (match takeA τ (.p i s) with | some t => (takeAs τ r).map (t :: ·) | none => none) = _
  show (match getR τ i s with | some t => (takeAs τ r).map (t :: ·) | none => none) = _
  cases getR τ i s <;> rfl
/-- the thing at a slot -/
def slt : Sm → Nat → Option T
  | o :: _, 0 => o
  | _ :: τ, i + 1 => slt τ i
  | [], _ => none
theorem slt_eq : ∀ (τ : Sm) (i : Nat), slt τ i = match τ[i]? with | some (some t) => some t | _ => none
  | [], i => by simp [slt]
  | some t :: τ, 0 => rfl
  | none :: τ, 0 => rfl
  | o :: τ, i + 1 => by simp [slt, slt_eq τ i]
theorem slt0 (o : Option T) (τ : Sm) : slt (o :: τ) 0 = o := (rfl)
theorem slts (o : Option T) (τ : Sm) (i : Nat) : slt (o :: τ) (i + 1) = slt τ i := (rfl)
theorem getR_slt (τ : Sm) (r : Nat) (s : List Stp) : getR τ r s = (slt τ r).bind fun t => getP t s := by
  unfold getR; rw [slt_eq]
  cases τ[r]? with
  | none => rfl
  | some o => cases o <;> rfl
theorem setR_slt (τ : Sm) (r : Nat) (s : List Stp) (x : T) : setR τ r s x = match slt τ r with | some t => τ.set r (some (setP t s x)) | none => τ := by
  unfold setR; rw [slt_eq]
  cases τ[r]? with
  | none => rfl
  | some o => cases o <;> rfl
theorem getP_nil (t : T) : getP t [] = some t := by unfold getP; rfl
theorem setP_nil (t x : T) : setP t [] x = x := by unfold setP; rfl
theorem getP_i (ts : List T) (k : Nat) (r : List Stp) : getP (.lst ts) (.i k :: r) = (ts[k]?).bind fun u => getP u r := by
  simp only [getP, chIx, kids]
  cases ts[k]? <;> rfl
theorem setP_i {ts : List T} {k : Nat} {u : T} (r : List Stp) (x : T) (e : ts[k]? = some u) : setP (.lst ts) (.i k :: r) x = .lst (ts.set k (setP u r x)) := by
  simp only [setP, chIx, kids, e, T.with]
theorem isLst_lst (ts : List T) : isLst (some (.lst ts)) = true := (rfl)
theorem appQ_ok {τ : Sm} {r : Nat} {s : List Stp} {ts : List T} (t : T) (e : getR τ r s = some (.lst ts)) (l : ts.length < sizeLine) : appQ r s t τ = .ok .non (setR τ r s (.lst (ts ++ [t]))) := by
  unfold appQ; rw [e]; exact if_pos l
theorem stsQ_ok {τ : Sm} {r j : Nat} {s : List Stp} {ts : List T} {k : Int} (t : T) (e : getR τ r s = some (.lst ts)) (i : ixN ts.length k = some j) (l : j < ts.length) : stsQ r s (.int k) t τ = .next (setR τ r s (.lst (ts.set j t))) := by
  unfold stsQ; rw [e]; dsimp only; rw [i]; exact if_pos l
theorem argsV_none (as zs : List VA) : argsV none as zs = some as := (rfl)
theorem argsV_some (b : List Ar) (as zs : List VA) : argsV (some b) as zs = pickV b as zs := (rfl)
theorem pk_nil (as zs : List VA) : pickV [] as zs = some [] := (rfl)
theorem pk_p (i : Nat) (r : List Ar) (as zs : List VA) : pickV (.p i :: r) as zs = (as[i]?).bind fun x => (pickV r as zs).map (x :: ·) := by
  simp only [pickV]; cases as[i]? <;> rfl
theorem pk_k (i : Nat) (r : List Ar) (as zs : List VA) : pickV (.k i :: r) as zs = (zs[i]?).bind fun x => (pickV r as zs).map (x :: ·) := by
  simp only [pickV]; cases zs[i]? <;> rfl
theorem pk_d (d : D) (r : List Ar) (as zs : List VA) : pickV (.d d :: r) as zs = (pickV r as zs).map (.v (ub d) :: ·) := (rfl)
theorem wb_nil (τ : Sm) : wb [] [] [] τ = some τ := (rfl)
theorem wb_b (io : List Pm) (a : VA) (as : List VA) (os : List T) (τ : Sm) : wb (.b :: io) (a :: as) os τ = wb io as os τ := (rfl)
theorem wb_o (io : List Pm) (r : Nat) (s : List Stp) (as : List VA) (o : T) (os : List T) (τ : Sm) : wb (.o :: io) (.p r s :: as) (o :: os) τ = wb io as os (setR τ r s o) := (rfl)
def okW {α : Type} (t : α) : Option Sm → Q α
  | some τ => .ok t τ
  | none => .bad
def exW (c : Nat) (xs : List T) : Option Sm → Q T
  | some τ => .exc c xs τ
  | none => .bad
def backQ (io : List Pm) (as : List VA) (τ : Sm) : VR → Q T
  | .bad => .bad
  | .ok t os => okW t (wb io as os τ)
  | .exc c xs os => exW c xs (wb io as os τ)
def callK (f : GFn) (as : List VA) (τ : Sm) : Option (List T) → Q T
  | some ts => backQ f.io as τ (f.tree ts)
  | none => .bad
theorem callV_K (f : GFn) (as : List VA) (τ : Sm) : callV f as τ = callK f as τ (takeAs τ as) := by
  unfold callV
  cases takeAs τ as with
  | none => rfl
  | some ts =>
    show (match f.tree ts with | .bad => _ | .ok t os => _ | .exc c xs os => _) = backQ f.io as τ (f.tree ts)
    cases f.tree ts with
    | bad => rfl
    | ok t os => show (match wb f.io as os τ with | some τ' => Q.ok t τ' | none => .bad) = okW t (wb f.io as os τ); cases wb f.io as os τ <;> rfl
    | exc c xs os => show (match wb f.io as os τ with | some τ' => Q.exc c xs τ' | none => .bad) = exW c xs (wb f.io as os τ); cases wb f.io as os τ <;> rfl
theorem callK_some (f : GFn) (as : List VA) (τ : Sm) (ts : List T) : callK f as τ (some ts) = backQ f.io as τ (f.tree ts) := (rfl)
theorem backQ_ok (io : List Pm) (as : List VA) (τ : Sm) (t : T) (os : List T) : backQ io as τ (.ok t os) = okW t (wb io as os τ) := (rfl)
theorem backQ_exc (io : List Pm) (as : List VA) (τ : Sm) (c : Nat) (t os : List T) : backQ io as τ (.exc c t os) = exW c t (wb io as os τ) := (rfl)
theorem okW_some {α : Type} (t : α) (τ : Sm) : okW t (some τ) = .ok t τ := (rfl)
theorem exW_some (c : Nat) (t : List T) (τ : Sm) : exW c t (some τ) = .exc c t τ := (rfl)
theorem vfR_ret (io : List Pm) (t : T) (τ : Sm) : vfR io (.ret t τ) = .ok t (outs io τ) := (rfl)
theorem vfR_next (io : List Pm) (τ : Sm) : vfR io (.next τ) = .ok .non (outs io τ) := (rfl)
theorem vfR_exc (io : List Pm) (c : Nat) (ts : List T) (τ : Sm) : vfR io (.exc c ts τ) = .exc c ts (outs io τ) := (rfl)
theorem outs_nil (τ : Sm) : outs [] τ = [] := by cases τ <;> simp [outs]
theorem outs_b (io : List Pm) (o : Option T) (τ : Sm) : outs (.b :: io) (o :: τ) = outs io τ := by cases o <;> simp [outs]
theorem outs_o (io : List Pm) (t : T) (τ : Sm) : outs (.o :: io) (some t :: τ) = t :: outs io τ := by simp [outs]
theorem outs_i (io : List Pm) (t : T) (τ : Sm) : outs (.i :: io) (some t :: τ) = t :: outs io τ := by simp [outs]
/-- a call whose outcome is known -/
theorem call_ok' {f : GFn} {as : List VA} {ts os : List T} {t : T} {τ τ' : Sm} (e1 : takeAs τ as = some ts) (e2 : f.tree ts = .ok t os) (e3 : wb f.io as os τ = some τ') : callV f as τ = .ok t τ' := by
  unfold callV; rw [e1]; dsimp only; rw [e2]; dsimp only; rw [e3]
theorem at0 {α : Type} (x : α) (xs : List α) : atI (x :: xs) 0 = some x := by simp [atI, ixN]
theorem at1 {α : Type} (x y : α) (xs : List α) : atI (x :: y :: xs) 1 = some y := by
  simp [atI, ixN]; split <;> simp_all <;> omega

def rQ (c : Nat) (τ : Sm) : Option (List T) → VO
  | some ts => if flat0s ts = true then .exc c ts τ else .bad
  | none => .bad
theorem rQ_some (c : Nat) (τ : Sm) (ts : List T) : rQ c τ (some ts) = if flat0s ts = true then .exc c ts τ else .bad := (rfl)
theorem raisQ_eq (c : Nat) (b : List Ar) (as : List VA) (τ : Sm) : raisQ c b as τ = rQ c τ ((pickV b as []).bind valsA) := by
  unfold raisQ
  cases pickV b as [] with
  | none => rfl
  | some xs =>
    show (match valsA xs with | some ts => if flat0s ts = true then VO.exc c ts τ else .bad | none => .bad) = rQ c τ (valsA xs)
    cases valsA xs <;> rfl
theorem vc_next (τ : Sm) (f : Nat → List T → Sm → VO) : (VO.next τ).catch f = .next τ := (rfl)
theorem vc_ret (t : T) (τ : Sm) (f : Nat → List T → Sm → VO) : (VO.ret t τ).catch f = .ret t τ := (rfl)
theorem vc_brk (τ : Sm) (f : Nat → List T → Sm → VO) : (VO.brk τ).catch f = .brk τ := (rfl)
theorem vc_cnt (τ : Sm) (f : Nat → List T → Sm → VO) : (VO.cnt τ).catch f = .cnt τ := (rfl)
theorem vc_exc (c : Nat) (ts : List T) (τ : Sm) (f : Nat → List T → Sm → VO) : (VO.exc c ts τ).catch f = f c ts τ := (rfl)
theorem vh_nil (c : Nat) (ts : List T) (τ : Sm) : vxH .nil c ts τ = .exc c ts τ := (rfl)
theorem vh_cons (cs : List String) (v : Option Nat) (f : Nat → List T → VS) (r : VS) (c : Nat) (ts : List T) (τ : Sm) : vxH (.cons (.hnd cs v f) r) c ts τ = if (cs.any fun x => subN c x) = true then (vx (f c ts) (unsetV v τ)).unset v else vxH r c ts τ := (rfl)
theorem uv_some (i : Nat) (τ : Sm) : unsetV (some i) τ = τ.set i none := (rfl)
theorem uv_none (τ : Sm) : unsetV none τ = τ := (rfl)
theorem vu_next (v : Option Nat) (τ : Sm) : (VO.next τ).unset v = .next (unsetV v τ) := (rfl)
theorem vu_brk (v : Option Nat) (τ : Sm) : (VO.brk τ).unset v = .brk (unsetV v τ) := (rfl)
theorem vu_cnt (v : Option Nat) (τ : Sm) : (VO.cnt τ).unset v = .cnt (unsetV v τ) := (rfl)
theorem vu_ret (v : Option Nat) (t : T) (τ : Sm) : (VO.ret t τ).unset v = .ret t τ := (rfl)
/-- to be reckoned by the kernel -/
def Dec (p : Prop) : Prop := p
theorem dec_in {p : Prop} (h : p) : Dec p := h
theorem subN_t {c : Nat} {x : String} (h : Dec (subN c x = true)) : subN c x = true := h
theorem subN_f {c : Nat} {x : String} (h : Dec (subN c x = false)) : subN c x = false := h
theorem anyN_t {c : Nat} {cs : List String} (h : Dec ((cs.any fun x => subN c x) = true)) : (cs.any fun x => subN c x) = true := h
theorem anyN_f {c : Nat} {cs : List String} (h : Dec ((cs.any fun x => subN c x) = false)) : (cs.any fun x => subN c x) = false := h
theorem f0_int (i : Int) : flat0 (.int i) = true := (rfl)
theorem f0_str (i : Str) : flat0 (.str i) = true := (rfl)
theorem f0_bl (i : Bool) : flat0 (.bl i) = true := (rfl)
theorem f0_non : flat0 .non = true := (rfl)
theorem f0_tup (xs : List T) : flat0 (.tup xs) = flat0s xs := (rfl)
theorem f0_nil : flat0s [] = true := (rfl)
theorem f0_cons (t : T) (ts : List T) : flat0s (t :: ts) = (flat0 t && flat0s ts) := (rfl)

theorem q_ok' {α β : Type} (a : α) (τ : Sm) (f : α → Sm → Q β) : (Q.ok a τ).bind f = f a τ := (rfl)
theorem q_exc' {α β : Type} (c : Nat) (ts : List T) (τ : Sm) (f : α → Sm → Q β) : (Q.exc c ts τ : Q α).bind f = .exc c ts τ := (rfl)
theorem q_bad' {α β : Type} (f : α → Sm → Q β) : (Q.bad : Q α).bind f = .bad := (rfl)
theorem qo_ok' {α : Type} (a : α) (τ : Sm) (f : α → Sm → VO) : (Q.ok a τ).out f = f a τ := (rfl)
theorem qo_exc' {α : Type} (c : Nat) (ts : List T) (τ : Sm) (f : α → Sm → VO) : (Q.exc c ts τ : Q α).out f = .exc c ts τ := (rfl)
theorem qo_bad' {α : Type} (f : α → Sm → VO) : (Q.bad : Q α).out f = .bad := (rfl)
theorem vs_next' (τ : Sm) (f : Sm → VO) : (VO.next τ).seq f = f τ := (rfl)
theorem vs_ret' (t : T) (τ : Sm) (f : Sm → VO) : (VO.ret t τ).seq f = .ret t τ := (rfl)
theorem vs_brk' (τ : Sm) (f : Sm → VO) : (VO.brk τ).seq f = .brk τ := (rfl)
theorem vs_cnt' (τ : Sm) (f : Sm → VO) : (VO.cnt τ).seq f = .cnt τ := (rfl)
theorem vs_exc' (c : Nat) (ts : List T) (τ : Sm) (f : Sm → VO) : (VO.exc c ts τ).seq f = .exc c ts τ := (rfl)
theorem vs_bad' (f : Sm → VO) : VO.bad.seq f = .bad := (rfl)
theorem vt_next' (τ : Sm) (f : Sm → VO) : (VO.next τ).turn f = f τ := (rfl)
theorem vt_cnt' (τ : Sm) (f : Sm → VO) : (VO.cnt τ).turn f = f τ := (rfl)
theorem vt_brk' (τ : Sm) (f : Sm → VO) : (VO.brk τ).turn f = .next τ := (rfl)
theorem vt_ret' (t : T) (τ : Sm) (f : Sm → VO) : (VO.ret t τ).turn f = .ret t τ := (rfl)
theorem vt_exc' (c : Nat) (ts : List T) (τ : Sm) (f : Sm → VO) : (VO.exc c ts τ).turn f = .exc c ts τ := (rfl)
theorem vt_bad' (f : Sm → VO) : VO.bad.turn f = .bad := (rfl)
theorem ct_ins (c : Nat) (xs : List T) : clsT (.ins c xs) = some c := (rfl)
theorem ite_t {α : Type} (a b : α) : (if true = true then a else b) = a := if_pos (of_eq_true (eq_true (Eq.refl true)))
theorem ite_f {α : Type} (a b : α) : (if false = true then a else b) = b := if_neg (fun h => Bool.noConfusion h)
theorem ite_t2 {α : Type} (a b : α) : (if True then a else b) = a := if_pos (of_eq_true (Eq.refl True))
theorem ite_f2 {α : Type} (a b : α) : (if False then a else b) = b := if_neg (fun h => h.elim)

theorem cg_bind {α β : Type} {r r' : Q α} {f : α → Sm → Q β} (h : r = r') : r.bind f = r'.bind f := by rw [h]
theorem cg_out {α : Type} {r r' : Q α} {f : α → Sm → VO} (h : r = r') : r.out f = r'.out f := by rw [h]
theorem cg_seq {r r' : VO} {f : Sm → VO} (h : r = r') : r.seq f = r'.seq f := by rw [h]
theorem cg_turn {r r' : VO} {f : Sm → VO} (h : r = r') : r.turn f = r'.turn f := by rw [h]
theorem cg_catch {r r' : VO} {f : Nat → List T → Sm → VO} (h : r = r') : r.catch f = r'.catch f := by rw [h]
theorem cg_vx {s : VS} {τ τ' : Sm} (h : τ = τ') : vx s τ = vx s τ' := by rw [h]
theorem iI_lt {α : Type} {i j : Int} {a b : α} (h : i < j) : (if i < j then a else b) = a := if_pos h
theorem iI_nlt {α : Type} {i j : Int} {a b : α} (h : ¬ i < j) : (if i < j then a else b) = b := if_neg h
theorem iI_le {α : Type} {i j : Int} {a b : α} (h : i ≤ j) : (if i ≤ j then a else b) = a := if_pos h
theorem iI_nle {α : Type} {i j : Int} {a b : α} (h : ¬ i ≤ j) : (if i ≤ j then a else b) = b := if_neg h
theorem iI_eq {α : Type} {i j : Int} {a b : α} (h : i = j) : (if i = j then a else b) = a := if_pos h
theorem iI_ne {α : Type} {i j : Int} {a b : α} (h : ¬ i = j) : (if i = j then a else b) = b := if_neg h

end L3

namespace L3
open PySem L2
theorem gcd_pos_r (t b : Int) (hb : b ≠ 0) : 0 < Int.gcd t b := by
  rcases Nat.eq_zero_or_pos (Int.gcd t b) with q | q
  · rw [Int.gcd_eq_zero_iff] at q; exact absurd q.2 hb
  · exact q
theorem fdiv_pos_num (t b : Int) (hb : 0 < b) : t.fdiv (Int.gcd t b : Nat) = (Rat.divInt t b).num ∧ b.fdiv (Int.gcd t b : Nat) = ((Rat.divInt t b).den : Int) := by
  have hne : b ≠ 0 := by omega
  have g0 := gcd_pos_r t b hne
  have d1 : ((Int.gcd t b : Nat) : Int) ∣ t := Int.gcd_dvd_left ..
  have d2 : ((Int.gcd t b : Nat) : Int) ∣ b := Int.gcd_dvd_right ..
  constructor
  · rw [Rat.num_divInt, Int.sign_eq_one_of_pos hb, Int.one_mul, Int.gcd_comm b t, Int.fdiv_eq_ediv_of_dvd d1]
  · rw [Rat.den_divInt, if_neg hne, Int.gcd_comm b t, Int.fdiv_eq_ediv_of_dvd d2]
    have : b = (b.natAbs : Int) := by omega
    generalize Int.gcd t b = g at *
    rw [this, Int.natAbs_natCast]; norm_cast
theorem fdiv_neg_num (t b : Int) (hb : b < 0) : t.fdiv (-(Int.gcd t b : Nat)) = (Rat.divInt t b).num ∧ b.fdiv (-(Int.gcd t b : Nat)) = ((Rat.divInt t b).den : Int) := by
  have q : Rat.divInt t b = Rat.divInt (-t) (-b) := by
    rw [Rat.divInt_eq_divInt_iff (by omega) (by omega)]; grind
  have w := fdiv_pos_num (-t) (-b) (by omega)
  rw [← q] at w
  have e : Int.gcd (-t) (-b) = Int.gcd t b := by simp
  rw [e] at w
  have u := fun (a g : Int) => Int.neg_fdiv_neg (-a) g
  simp only [Int.neg_neg] at u
  rw [u, u]
  exact w
theorem log_lt {i : Int} {k : Nat} (e : i.natAbs < 2 ^ (k + 1)) : i.natAbs.log2 ≤ k := by
  by_cases c : i.natAbs = 0
  · rw [c]; exact Nat.zero_le _
  · have := (Nat.log2_lt c).mpr e; omega
/-- so many bits above and below -/
def Sz (n : Nat) (q : Rat) : Prop := q.num.natAbs < 2 ^ n ∧ q.den < 2 ^ n
theorem Sz.mono {n m : Nat} {q : Rat} (h : Sz n q) (l : n ≤ m) : Sz m q :=
  ⟨Nat.lt_of_lt_of_le h.1 (Nat.pow_le_pow_right (by decide) l), Nat.lt_of_lt_of_le h.2 (Nat.pow_le_pow_right (by decide) l)⟩
theorem den_pos (q : Rat) : 0 < q.den := Nat.pos_of_ne_zero q.den_nz
theorem log_bit {i : Int} {k : Nat} (e : i.natAbs < 2 ^ k) : i.natAbs.log2 ≤ k := by
  cases k with
  | zero => have : i.natAbs = 0 := by simpa using e
            rw [this]; exact Nat.zero_le _
  | succ k => have := log_lt e; omega
theorem mul_bits {a b n m : Nat} (h1 : a < 2 ^ n) (h2 : b < 2 ^ m) : a * b < 2 ^ (n + m) := by
  rw [Nat.pow_add]; exact Nat.mul_lt_mul'' h1 h2
theorem divInt_sz {t b : Int} {n : Nat} (hb : b ≠ 0) (h1 : t.natAbs < 2 ^ n) (h2 : b.natAbs < 2 ^ n) : Sz n (Rat.divInt t b) := by
  constructor
  · rw [Rat.num_divInt]
    refine Nat.lt_of_le_of_lt (Int.natAbs_ediv_le_natAbs _ _) ?_
    rw [Int.natAbs_mul]
    have : b.sign.natAbs ≤ 1 := by
      rcases Int.lt_trichotomy b 0 with h | h | h
      · rw [Int.sign_eq_neg_one_of_neg h]; decide
      · exact absurd h hb
      · rw [Int.sign_eq_one_of_pos h]; decide
    have := Nat.mul_le_mul_right t.natAbs this
    omega
  · rw [Rat.den_divInt, if_neg hb]
    exact Nat.lt_of_le_of_lt (Nat.div_le_self _ _) h2
theorem add_divInt (a b : Rat) : Rat.divInt (a.num * b.den + b.num * a.den) (a.den * b.den) = a + b := by
  have := Rat.divInt_add_divInt a.num b.num (d₁ := a.den) (d₂ := b.den) (by have := den_pos a; omega) (by have := den_pos b; omega)
  rw [Rat.num_divInt_den, Rat.num_divInt_den] at this
  exact this.symm
theorem sub_divInt (a b : Rat) : Rat.divInt (a.num * b.den - b.num * a.den) (a.den * b.den) = a - b := by
  have := Rat.divInt_sub_divInt a.num b.num (d₁ := a.den) (d₂ := b.den) (by have := den_pos a; omega) (by have := den_pos b; omega)
  rw [Rat.num_divInt_den, Rat.num_divInt_den] at this
  exact this.symm
theorem mul_divInt (a b : Rat) : Rat.divInt (a.num * b.num) (a.den * b.den) = a * b := by
  have := Rat.divInt_mul_divInt a.num b.num (d₁ := a.den) (d₂ := b.den)
  rw [Rat.num_divInt_den, Rat.num_divInt_den] at this
  exact this.symm
theorem div_divInt (a b : Rat) (hb : b.num ≠ 0) : Rat.divInt (a.num * b.den) (a.den * b.num) = a / b := by
  have hz : b ≠ 0 := fun e => hb (by rw [e]; rfl)
  have h0 : Rat.divInt (a.num * b.den) (a.den * b.num) * Rat.divInt b.num b.den = Rat.divInt a.num a.den := by
    have ha := den_pos a
    have hd := den_pos b
    rw [Rat.divInt_mul_divInt, Rat.divInt_eq_divInt_iff (Int.mul_ne_zero (Int.mul_ne_zero (by omega) hb) (by omega)) (by omega)]
    grind
  rw [Rat.num_divInt_den, Rat.num_divInt_den] at h0
  grind
/-- the bits of what is reckoned -/
theorem cross_bits {a b : Rat} {n m : Nat} (ha : Sz n a) (hb : Sz m b) : (a.num * b.den + b.num * a.den).natAbs < 2 ^ (n + m + 1) ∧ (a.num * b.den - b.num * a.den).natAbs < 2 ^ (n + m + 1) ∧ ((a.den : Int) * b.den).natAbs < 2 ^ (n + m + 1) ∧ (a.num * b.num).natAbs < 2 ^ (n + m + 1) ∧ (a.num * b.den).natAbs < 2 ^ (n + m + 1) ∧ ((a.den : Int) * b.num).natAbs < 2 ^ (n + m + 1) := by
  have h1 := mul_bits ha.1 hb.2
  have h2 := mul_bits hb.1 ha.2
  have h3 := mul_bits ha.2 hb.2
  have h4 := mul_bits ha.1 hb.1
  have h5 := mul_bits ha.2 hb.1
  rw [Nat.add_comm m n] at h2
  have e : 2 ^ (n + m + 1) = 2 ^ (n + m) + 2 ^ (n + m) := by rw [Nat.pow_succ]; omega
  have n1 : (a.num * b.den).natAbs = a.num.natAbs * b.den := by rw [Int.natAbs_mul]; rfl
  have n2 : (b.num * a.den).natAbs = b.num.natAbs * a.den := by rw [Int.natAbs_mul]; rfl
  have n3 : ((a.den : Int) * b.den).natAbs = a.den * b.den := by rw [Int.natAbs_mul]; rfl
  have n4 : (a.num * b.num).natAbs = a.num.natAbs * b.num.natAbs := Int.natAbs_mul ..
  have n5 : ((a.den : Int) * b.num).natAbs = a.den * b.num.natAbs := by rw [Int.natAbs_mul]; rfl
  rw [← n1] at h1; rw [← n2] at h2; rw [← n3] at h3; rw [← n4] at h4; rw [← n5] at h5
  refine ⟨by omega, by omega, by omega, by omega, by omega, by omega⟩
theorem add_sz {a b : Rat} {n m : Nat} (ha : Sz n a) (hb : Sz m b) : Sz (n + m + 1) (a + b) := by
  obtain ⟨h1, _, h3, _⟩ := cross_bits ha hb
  rw [← add_divInt]
  exact divInt_sz (by have := den_pos a; have := den_pos b; exact Int.mul_ne_zero (by omega) (by omega)) h1 h3
theorem sub_sz {a b : Rat} {n m : Nat} (ha : Sz n a) (hb : Sz m b) : Sz (n + m + 1) (a - b) := by
  obtain ⟨_, h1, h3, _⟩ := cross_bits ha hb
  rw [← sub_divInt]
  exact divInt_sz (by have := den_pos a; have := den_pos b; exact Int.mul_ne_zero (by omega) (by omega)) h1 h3
theorem mul_sz {a b : Rat} {n m : Nat} (ha : Sz n a) (hb : Sz m b) : Sz (n + m + 1) (a * b) := by
  obtain ⟨_, _, h3, h1, _⟩ := cross_bits ha hb
  rw [← mul_divInt]
  exact divInt_sz (by have := den_pos a; have := den_pos b; exact Int.mul_ne_zero (by omega) (by omega)) h1 h3
theorem div_sz {a b : Rat} {n m : Nat} (ha : Sz n a) (hb : Sz m b) (hz : b.num ≠ 0) : Sz (n + m + 1) (a / b) := by
  obtain ⟨_, _, _, _, h1, h3⟩ := cross_bits ha hb
  rw [← div_divInt a b hz]
  exact divInt_sz (by have := den_pos a; exact Int.mul_ne_zero (by omega) hz) h1 h3
theorem pow_big {i : Nat} {n : Nat} (h : i < 2 ^ n) (l : n ≤ 9000) : i < 2 ^ 9000 := Nat.lt_of_lt_of_le h (Nat.pow_le_pow_right (by decide) l)
theorem mul_sz_ok {a b : Int} {n m : Nat} (ha : a.natAbs < 2 ^ n) (hb : b.natAbs < 2 ^ m) (l : n + m < 1000000) : a.natAbs.log2 + b.natAbs.log2 < 1000000 := by have := log_bit ha; have := log_bit hb; omega
end L3

namespace L3
open PySem L2
/-- n things, by places -/
def tl (n : Nat) (f : Nat → T) : List T := (List.range n).map f
def tab (n : Nat) (f : Nat → T) : T := .lst (tl n f)
theorem tl_len (n : Nat) (f : Nat → T) : (tl n f).length = n := by simp [tl]
theorem tl_get {n : Nat} {f : Nat → T} {i : Nat} (h : i < n) : (tl n f)[i]? = some (f i) := by simp [tl, h]
theorem tl_zero (f : Nat → T) : tl 0 f = [] := rfl
theorem tl_succ (n : Nat) (f : Nat → T) : tl (n + 1) f = tl n f ++ [f n] := by simp [tl, List.range_succ]
theorem tl_cons (n : Nat) (f : Nat → T) : tl (n + 1) f = f 0 :: tl n (fun i => f (i + 1)) := by
  simp [tl, List.range_succ_eq_map, Function.comp_def]
theorem tl_congr {n : Nat} {f g : Nat → T} (h : ∀ i, i < n → f i = g i) : tl n f = tl n g := by
  unfold tl; apply List.map_congr_left; intro i hi; exact h i (List.mem_range.mp hi)
theorem tab_congr {n m : Nat} {f g : Nat → T} (e : n = m) (h : ∀ i, i < n → f i = g i) : tab n f = tab m g := by
  subst e; unfold tab; rw [tl_congr h]
theorem tl_empty (n : Nat) (f : Nat → T) : (tl n f).isEmpty = decide (n = 0) := by
  cases n with
  | zero => rfl
  | succ n => rw [tl_cons]; simp
theorem tl_map (n : Nat) (f : Nat → T) (g : T → T) : (tl n f).map g = tl n fun i => g (f i) := by simp [tl, Function.comp_def]
theorem tl_reverse (n : Nat) (f : Nat → T) : (tl n f).reverse = tl n fun i => f (n - 1 - i) := by
  apply List.ext_getElem?
  intro i
  by_cases h : i < n
  · rw [List.getElem?_reverse (by rw [tl_len]; exact h), tl_len, tl_get (by omega), tl_get h]
  · rw [List.getElem?_eq_none (by rw [List.length_reverse, tl_len]; omega), List.getElem?_eq_none (by rw [tl_len]; omega)]
theorem tl_append (n m : Nat) (f g : Nat → T) : tl n f ++ tl m g = tl (n + m) fun i => if i < n then f i else g (i - n) := by
  apply List.ext_getElem?
  intro i
  by_cases h : i < n
  · rw [List.getElem?_append_left (by rw [tl_len]; exact h), tl_get h, tl_get (by omega), if_pos h]
  · rw [List.getElem?_append_right (by rw [tl_len]; omega), tl_len]
    by_cases h2 : i - n < m
    · rw [tl_get h2, tl_get (by omega), if_neg h]
    · rw [List.getElem?_eq_none (by rw [tl_len]; omega), List.getElem?_eq_none (by rw [tl_len]; omega)]
theorem tl_set (n j : Nat) (f : Nat → T) (x : T) : (tl n f).set j x = tl n fun i => if i = j then x else f i := by
  apply List.ext_getElem?
  intro i
  by_cases h : i < n
  · rw [tl_get h]
    by_cases e : i = j
    · subst e; rw [List.getElem?_set_self (by rw [tl_len]; exact h), if_pos rfl]
    · rw [List.getElem?_set_ne (Ne.symm e), tl_get h, if_neg e]
  · rw [List.getElem?_eq_none (by rw [List.length_set, tl_len]; omega), List.getElem?_eq_none (by rw [tl_len]; omega)]
theorem tl_drop (n k : Nat) (f : Nat → T) : (tl n f).drop k = tl (n - k) fun i => f (k + i) := by
  apply List.ext_getElem?
  intro i
  rw [List.getElem?_drop]
  by_cases h : k + i < n
  · rw [tl_get h, tl_get (by omega)]
  · rw [List.getElem?_eq_none (by rw [tl_len]; omega), List.getElem?_eq_none (by rw [tl_len]; omega)]
theorem tl_take (n k : Nat) (f : Nat → T) (h : k ≤ n) : (tl n f).take k = tl k f := by
  apply List.ext_getElem?
  intro i
  by_cases h2 : i < k
  · rw [List.getElem?_take_of_lt h2, tl_get (by omega), tl_get h2]
  · rw [List.getElem?_eq_none (by rw [List.length_take, tl_len]; omega), List.getElem?_eq_none (by rw [tl_len]; omega)]
theorem num_tl : ∀ (n k : Nat) (f : Nat → T), numT k (tl n f) = tl n fun i => .tup [.int ((k + i : Nat) : Int), f i]
  | 0, k, f => rfl
  | n + 1, k, f => by
    rw [tl_cons, numT, num_tl n (k + 1), tl_cons]
    congr 1
    exact tl_congr fun i _ => by rw [show k + 1 + i = k + (i + 1) by omega]
theorem num0_tl (n : Nat) (f : Nat → T) : numT 0 (tl n f) = tl n fun i => .tup [.int (i : Int), f i] := by
  rw [num_tl]
  exact tl_congr fun i _ => by rw [Nat.zero_add]
theorem zip_tl : ∀ (n : Nat) (f g : Nat → T), zipT (tl n f) (tl n g) = tl n fun i => .tup [f i, g i]
  | 0, f, g => rfl
  | n + 1, f, g => by rw [tl_cons, tl_cons, zipT, zip_tl n, tl_cons]
theorem ixN_pos {n : Nat} {x : Int} (h0 : 0 ≤ x) (h1 : x < n) : ixN n x = some x.toNat := by
  unfold ixN; rw [if_pos h0, if_pos (by omega)]
theorem ixN_neg {n : Nat} {x : Int} (h0 : x < 0) (h1 : -(n : Int) ≤ x) : ixN n x = some (n + x).toNat := by
  unfold ixN; rw [if_neg (by omega), if_pos (by omega)]; congr 1; omega
theorem at_tl {n : Nat} {f : Nat → T} {x : Int} (h0 : 0 ≤ x) (h1 : x < n) : atI (tl n f) x = some (f x.toNat) := by
  unfold atI; rw [tl_len, ixN_pos h0 h1]; exact tl_get (by omega)
theorem at_tlN {n : Nat} {f : Nat → T} {x : Int} (h0 : x < 0) (h1 : -(n : Int) ≤ x) : atI (tl n f) x = some (f (n + x).toNat) := by
  unfold atI; rw [tl_len, ixN_neg h0 h1]; exact tl_get (by omega)
theorem s_tab (n : Nat) (f : Nat → T) (i : Int) : subT (tab n f) (.int i) = atI (tl n f) i := rfl
theorem q_tab (n : Nat) (f : Nat → T) : seqT (tab n f) = some (tl n f) := rfl
theorem l_tab (n : Nat) (f : Nat → T) : lstT (tab n f) = some (tl n f) := rfl
theorem i_tab (n : Nat) (f : Nat → T) : itemsT (tab n f) = some (tl n f) := rfl
theorem t_tab (n : Nat) (f : Nat → T) : truT (tab n f) = some (!decide (n = 0)) := by show some (!(tl n f).isEmpty) = _; rw [tl_empty]
theorem k_tab (n : Nat) (f : Nat → T) : tyT (tab n f) = some .list := rfl
theorem n_tab (n : Nat) (f : Nat → T) : biT .len [tab n f] = some (.int n) := by show some (T.int (tl n f).length) = _; rw [tl_len]
theorem n_tl (n : Nat) (f : Nat → T) : biT .len [.lst (tl n f)] = some (.int n) := n_tab n f
theorem rng_tl {n : Int} (h0 : 0 ≤ n) (h : n < 1000000) : rngT [.int n] = some (tl n.toNat fun i => .int (i : Int)) := by
  simp only [rngT]; rw [if_pos (by omega)]; rfl
theorem rng2_tl {a b : Int} (h0 : -1000000 < a) (h1 : a < 1000000) (h2 : -1000000 < b) (h : b < 1000000) : rngT [.int a, .int b] = some (tl (b - a).toNat fun i => .int (a + (i : Int))) := by
  simp only [rngT]; rw [if_pos (by omega)]; rfl
theorem flats_tl {n : Nat} {f : Nat → T} (h : ∀ i, i < n → flat (f i) = true) : flats (tl n f) = true := by
  have key : ∀ (l : List Nat), (∀ i ∈ l, flat (f i) = true) → flats (l.map f) = true := by
    intro l
    induction l with
    | nil => intro _; rfl
    | cons a l ih => intro h; rw [List.map_cons, flats, h a (by simp), ih fun i hi => h i (by simp [hi])]; rfl
  exact key _ fun i hi => h i (List.mem_range.mp hi)
theorem cat_tl {n m : Nat} {f g : Nat → T} (h : n + m ≤ 1000000) : catT (tab n f) (tab m g) = some (tl n f ++ tl m g) := by
  show (if (tl n f).length + (tl m g).length ≤ sizeLine then some (tl n f ++ tl m g) else none) = _
  rw [if_pos (by rw [tl_len, tl_len, sizeLine_eq]; omega)]
def lv (x : Option T) (f : Nat → T) : Nat → Option T
  | 0 => x
  | i + 1 => some (f i)
theorem lv_zero (x : Option T) (f : Nat → T) : lv x f 0 = x := rfl
theorem lv_succ (x : Option T) (f : Nat → T) (i : Nat) : lv x f (i + 1) = some (f i) := rfl
def turn1 (g : Tg) (b : Sm → VO) (t : T) (τ : Sm) : VO := match asgV g t τ with
  | none => .bad
  | some τ2 => (b τ2).turn .next
theorem vfor_one (g : Tg) (b : Sm → VO) (t : T) (ts : List T) (τ τ' : Sm) (h : turn1 g b t τ = .next τ') (nb : ∀ τ2, asgV g t τ = some τ2 → ∀ τ3, b τ2 ≠ .brk τ3) : vfor g b (t :: ts) τ = vfor g b ts τ' := by
  unfold turn1 at h
  rw [vfor]
  cases e : asgV g t τ with
  | none => rw [e] at h; cases h
  | some τ2 =>
    rw [e] at h
    dsimp only at h ⊢
    cases e2 : b τ2 with
    | next τ3 => rw [e2] at h; cases h; rfl
    | cnt τ3 => rw [e2] at h; cases h; rfl
    | brk τ3 => exact absurd e2 (nb τ2 e τ3)
    | ret _ _ => rw [e2] at h; cases h
    | exc _ _ _ => rw [e2] at h; cases h
    | bad => rw [e2] at h; cases h
/-- a turn goes on to τ' -/
def goes (g : Tg) (b : Sm → VO) (t : T) (τ τ' : Sm) : Prop := ∃ τ2, asgV g t τ = some τ2 ∧ (b τ2 = .next τ' ∨ b τ2 = .cnt τ')
theorem vfor_go {g : Tg} {b : Sm → VO} {t : T} {ts : List T} {τ τ' : Sm} (h : goes g b t τ τ') : vfor g b (t :: ts) τ = vfor g b ts τ' := by
  obtain ⟨τ2, e, h | h⟩ := h
  · rw [vfor, e]; dsimp only; rw [h]; rfl
  · rw [vfor, e]; dsimp only; rw [h]; rfl
/-- a loop by places: how the slots stand ahead of each turn -/
theorem vfor_tl {g : Tg} {b : Sm → VO} {n : Nat} {f : Nat → T} (st : Nat → Sm) (h : ∀ i, i < n → goes g b (f i) (st i) (st (i + 1))) : vfor g b (tl n f) (st 0) = .next (st n) := by
  have key : ∀ (m k : Nat), k + m = n → vfor g b (tl m fun i => f (k + i)) (st k) = .next (st n) := by
    intro m
    induction m with
    | zero => intro k e; obtain rfl : k = n := (by omega); rfl
    | succ m ih =>
      intro k e
      rw [tl_cons, show f (k + 0) = f k by rw [Nat.add_zero], vfor_go (h k (by omega))]
      have := ih (k + 1) (by omega)
      rw [tl_congr (g := fun i => f (k + 1 + i)) fun i _ => by rw [show k + (i + 1) = k + 1 + i by omega]]
      exact this
  have := key n 0 (by omega)
  rw [tl_congr (g := f) fun i _ => by rw [Nat.zero_add]] at this
  exact this
/-- a loop that is left at place k -/
theorem vfor_left {g : Tg} {b : Sm → VO} {n : Nat} {f : Nat → T} (st : Nat → Sm) (k : Nat) (hk : k < n) (h : ∀ i, i < k → goes g b (f i) (st i) (st (i + 1))) {o : VO} {τ2 : Sm} (e : asgV g (f k) (st k) = some τ2) (e2 : b τ2 = o) (ho : ∀ τ, o ≠ .next τ ∧ o ≠ .cnt τ ∧ o ≠ .brk τ) : vfor g b (tl n f) (st 0) = o := by
  have key : ∀ (m j : Nat), j + m = k → vfor g b (tl (n - j) fun i => f (j + i)) (st j) = o := by
    intro m
    induction m with
    | zero =>
      intro j e0
      obtain rfl : j = k := by omega
      obtain ⟨q, hq⟩ : ∃ q, n - j = q + 1 := ⟨n - j - 1, by omega⟩
      rw [hq, tl_cons, vfor]
      rw [show f (j + 0) = f j by rw [Nat.add_zero], e]
      dsimp only
      rw [e2]
      cases o with
      | next τ => exact absurd rfl (ho τ).1
      | cnt τ => exact absurd rfl (ho τ).2.1
      | brk τ => exact absurd rfl (ho τ).2.2
      | ret _ _ => rfl
      | exc _ _ _ => rfl
      | bad => rfl
    | succ m ih =>
      intro j e0
      obtain ⟨q, hq⟩ : ∃ q, n - j = q + 1 := ⟨n - j - 1, by omega⟩
      rw [hq, tl_cons, show f (j + 0) = f j by rw [Nat.add_zero], vfor_go (h j (by omega))]
      have := ih (j + 1) (by omega)
      rw [show n - (j + 1) = q by omega] at this
      rw [tl_congr (g := fun i => f (j + 1 + i)) fun i _ => by rw [show j + (i + 1) = j + 1 + i by omega]]
      exact this
  have := key k 0 (by omega)
  rw [Nat.sub_zero, tl_congr (g := f) fun i _ => by rw [Nat.zero_add]] at this
  exact this
theorem comp_tl {f : T → Sm → Q (Option T)} {n : Nat} {a b : Nat → T} {τ : Sm} (l : n ≤ 1000000) (h : ∀ i, i < n → f (a i) τ = .ok (some (b i)) τ) : compQ f (tl n a) τ = .ok (tab n b) τ := by
  have key : ∀ (m k : Nat), k + m = n → turnsV f (tl m fun i => a (k + i)) τ = .ok (tl m fun i => b (k + i)) τ := by
    intro m
    induction m with
    | zero => intro k e; rfl
    | succ m ih =>
      intro k e
      rw [tl_cons, tl_cons, turnsV, h (k + 0) (by omega), q_ok]
      have := ih (k + 1) (by omega)
      rw [tl_congr (g := fun i => a (k + 1 + i)) fun i _ => by rw [show k + (i + 1) = k + 1 + i by omega], this, q_ok]
      dsimp only
      rw [tl_congr (g := fun i => b (k + (i + 1))) fun i _ => by rw [show k + 1 + i = k + (i + 1) by omega]]
  have e := key n 0 (by omega)
  rw [tl_congr (g := a) fun i _ => by rw [Nat.zero_add], tl_congr (g := b) (f := fun i => b (0 + i)) fun i _ => by rw [Nat.zero_add]] at e
  unfold compQ
  rw [e]
  simp only [noexcQ, q_ok]
  rw [if_pos (by rw [tl_len, sizeLine_eq]; omega)]
  rfl
/-- one that changes the slots as it goes -/
theorem comp_go {f : T → Sm → Q (Option T)} {n : Nat} {a b : Nat → T} (st : Nat → Sm) (l : n ≤ 1000000) (h : ∀ i, i < n → f (a i) (st i) = .ok (some (b i)) (st (i + 1))) : compQ f (tl n a) (st 0) = .ok (tab n b) (st n) := by
  have key : ∀ (m k : Nat), k + m = n → turnsV f (tl m fun i => a (k + i)) (st k) = .ok (tl m fun i => b (k + i)) (st n) := by
    intro m
    induction m with
    | zero => intro k e; obtain rfl : k = n := (by omega); rfl
    | succ m ih =>
      intro k e
      rw [tl_cons, tl_cons, turnsV]
      have h0 := h k (by omega)
      rw [show a (k + 0) = a k by rw [Nat.add_zero], h0, q_ok]
      have := ih (k + 1) (by omega)
      rw [tl_congr (g := fun i => a (k + 1 + i)) fun i _ => by rw [show k + (i + 1) = k + 1 + i by omega], this, q_ok]
      dsimp only
      rw [tl_congr (f := fun i => b (k + 1 + i)) (g := fun i => b (k + (i + 1))) fun i _ => by rw [show k + 1 + i = k + (i + 1) by omega]]
      rfl
  have e := key n 0 (by omega)
  rw [tl_congr (g := a) fun i _ => by rw [Nat.zero_add], tl_congr (g := b) (f := fun i => b (0 + i)) fun i _ => by rw [Nat.zero_add]] at e
  unfold compQ
  rw [e]
  simp only [noexcQ, q_ok]
  rw [if_pos (by rw [tl_len, sizeLine_eq]; omega)]
  rfl
/-- one that takes the first m alone -/
theorem comp_first {f : T → Sm → Q (Option T)} {n m : Nat} {a b : Nat → T} {τ : Sm} (l : n ≤ 1000000) (hm : m ≤ n) (h : ∀ i, i < m → f (a i) τ = .ok (some (b i)) τ) (h2 : ∀ i, m ≤ i → i < n → f (a i) τ = .ok none τ) : compQ f (tl n a) τ = .ok (tab m b) τ := by
  have none_ : ∀ (q k : Nat), m ≤ k → k + q ≤ n → turnsV f (tl q fun i => a (k + i)) τ = .ok [] τ := by
    intro q
    induction q with
    | zero => intro k _ _; rfl
    | succ q ih =>
      intro k h1 h3
      rw [tl_cons, turnsV, h2 (k + 0) (by omega) (by omega), q_ok]
      have := ih (k + 1) (by omega) (by omega)
      rw [tl_congr (g := fun i => a (k + 1 + i)) fun i _ => by rw [show k + (i + 1) = k + 1 + i by omega], this, q_ok]
  have key : ∀ (q k : Nat), k + q = m → turnsV f (tl (n - k) fun i => a (k + i)) τ = .ok (tl q fun i => b (k + i)) τ := by
    intro q
    induction q with
    | zero => intro k e; rw [none_ (n - k) k (by omega) (by omega)]; rfl
    | succ q ih =>
      intro k e
      obtain ⟨z, hz⟩ : ∃ z, n - k = z + 1 := ⟨n - k - 1, by omega⟩
      rw [hz, tl_cons, tl_cons, turnsV, h (k + 0) (by omega), q_ok]
      have := ih (k + 1) (by omega)
      rw [show n - (k + 1) = z by omega] at this
      rw [tl_congr (g := fun i => a (k + 1 + i)) fun i _ => by rw [show k + (i + 1) = k + 1 + i by omega], this, q_ok]
      dsimp only
      rw [tl_congr (g := fun i => b (k + (i + 1))) fun i _ => by rw [show k + 1 + i = k + (i + 1) by omega]]
  have e := key m 0 (by omega)
  rw [Nat.sub_zero, tl_congr (g := a) fun i _ => by rw [Nat.zero_add], tl_congr (g := b) (f := fun i => b (0 + i)) fun i _ => by rw [Nat.zero_add]] at e
  unfold compQ
  rw [e]
  simp only [noexcQ, q_ok]
  rw [if_pos (by rw [tl_len, sizeLine_eq]; omega)]
  rfl
end L3

namespace L3
open PySem L2
noncomputable def ir_law_flow : VS :=
  (.cons (.ret (.lst (.cons (.lis true (.slc true (.var 0) .nil (.cst (.int 63)))) (.cons (.cst (.int 0)) (.cons (.cst (.int 0)) (.cons (.cst (.int 7)) .nil))))))
  .nil)
theorem su_law_flow : ir_law_flow.uni := by simp only [ir_law_flow, VS.uni, and_self]
theorem ss_law_flow : fnS [.b] .O 1 ir_law_flow = true := by decide +kernel
noncomputable def m_law_flow : GFn := gfn [.b] .O 1 ir_law_flow su_law_flow ss_law_flow
theorem io_law_flow : m_law_flow.io = [.b] := rfl
theorem tr_law_flow : m_law_flow.tree = vfn [.b] 1 ir_law_flow := rfl

noncomputable def ir_law_draw : VS :=
  (.cons (.ife (.cmp .Gt (.sub (.var 0) (.cst (.int 2))) (.cst (.int 0)))
    (.cons (.asg 2 (.bin .Mod (.sub (.var 0) (.cst (.int 2))) (.var 1)))
    (.cons (.sts (.var 0) (.cst (.int 2)) (.bin .FloorDiv (.sub (.var 0) (.cst (.int 2))) (.var 1)))
    (.cons (.ret (.var 2))
    .nil)))
    .nil)
  (.cons (.asg 3 (.cst (.int 0)))
  (.cons (.ife (.cmp .Lt (.sub (.var 0) (.cst (.int 1))) (.bi .len (.cons (.sub (.var 0) (.cst (.int 0))) .nil)))
    (.cons (.asg 3 (.fl (.sub (.sub (.var 0) (.cst (.int 0))) (.sub (.var 0) (.cst (.int 1))))))
    .nil)
    .nil)
  (.cons (.sts (.var 0) (.cst (.int 1)) (.bin .Add (.sub (.var 0) (.cst (.int 1))) (.cst (.int 1))))
  (.cons (.ife (.cmp .GtE (.bi .abs (.cons (.var 3) .nil)) (.bin .Pow (.cst (.int 10)) (.cst (.int 18))))
    (.cons (.asg 2 (.bin .Mod (.bi .abs (.cons (.var 3) .nil)) (.var 1)))
    (.cons (.sts (.var 0) (.cst (.int 2)) (.bin .FloorDiv (.bi .abs (.cons (.var 3) .nil)) (.var 1)))
    (.cons (.ret (.var 2))
    .nil)))
    .nil)
  (.cons (.asg 4 (.bin .Add (.bin .Add (.bin .Mult (.sub (.var 0) (.cst (.int 3))) (.cst (.int 1103515245))) (.bin .Mult (.var 3) (.cst (.int 48271)))) (.cst (.int 12345))))
  (.cons (.asg 4 (.bin .Mod (.bin .Add (.var 4) (.sub (.var 0) (.cst (.int 1)))) (.cst (.int 2305843009213693951))))
  (.cons (.sts (.var 0) (.cst (.int 3)) (.var 4))
  (.cons (.asg 5 (.bin .Add (.bin .Mult (.var 4) (.cst (.int 69069))) (.bin .Mult (.bin .FloorDiv (.var 4) (.cst (.int 65536))) (.cst (.int 40503)))))
  (.cons (.ife (.cmp .Gt (.var 1) (.bin .Pow (.cst (.int 10)) (.cst (.int 6))))
    (.cons (.ret (.bin .Mod (.bin .Mult (.var 5) (.var 4)) (.var 1)))
    .nil)
    .nil)
  (.cons (.ret (.bin .Mod (.bin .FloorDiv (.bin .Mod (.var 5) (.cst (.int 2147483647))) (.cst (.int 64))) (.var 1)))
  .nil)))))))))))
theorem su_law_draw : ir_law_draw.uni := by simp only [ir_law_draw, VS.uni, and_self]
theorem ss_law_draw : fnS [.o, .b] .F 6 ir_law_draw = true := by decide +kernel
noncomputable def m_law_draw : GFn := gfn [.o, .b] .F 6 ir_law_draw su_law_draw ss_law_draw
theorem io_law_draw : m_law_draw.io = [.o, .b] := rfl
theorem tr_law_draw : m_law_draw.tree = vfn [.o, .b] 6 ir_law_draw := rfl

noncomputable def ir_law_great : VS :=
  (.cons (.asg 1 (.fl (.sub (.lst (.cons (.cst (.int 3)) (.cons (.cst (.int 13)) (.cons (.cst (.int 1000)) (.cons (.bin .Pow (.cst (.int 10)) (.cst (.int 9))) (.cons (.bin .Pow (.cst (.int 10)) (.cst (.int 30))) .nil)))))) (.call m_law_draw "_law_draw" none (.cons (.rv 0) (.cons (.cst (.int 5)) .nil)) [] .nil))))
  (.cons (.ret (.bin .Sub (.call m_law_draw "_law_draw" none (.cons (.rv 0) (.cons (.bin .Add (.bin .Mult (.cst (.int 2)) (.var 1)) (.cst (.int 1))) .nil)) [] .nil) (.var 1)))
  .nil))
theorem su_law_great : ir_law_great.uni := by simp only [ir_law_great, VS.uni, and_self]
theorem ss_law_great : fnS [.o] .F 2 ir_law_great = true := by decide +kernel
noncomputable def m_law_great : GFn := gfn [.o] .F 2 ir_law_great su_law_great ss_law_great
theorem io_law_great : m_law_great.io = [.o] := rfl
theorem tr_law_great : m_law_great.tree = vfn [.o] 2 ir_law_great := rfl

noncomputable def ir_law_strange : VS :=
  (.cons (.ret (.sub (.lst (.cons (.cst (.bl true)) (.cons (.cst (.bl false)) (.cons (.cst .non) (.cons (.cst (.str "3")) (.cons (.lst (.cons (.cst (.int 1)) .nil)) (.cons (.tup (.cons (.cst (.int 1)) (.cons (.cst (.int 1)) .nil))) (.cons (.cst (.str "")) (.cons (.lst .nil) .nil))))))))) (.bin .Mod (.var 0) (.cst (.int 8)))))
  .nil)
theorem su_law_strange : ir_law_strange.uni := by simp only [ir_law_strange, VS.uni, and_self]
theorem ss_law_strange : fnS [.b] .O 1 ir_law_strange = true := by decide +kernel
noncomputable def m_law_strange : GFn := gfn [.b] .O 1 ir_law_strange su_law_strange ss_law_strange
theorem io_law_strange : m_law_strange.io = [.b] := rfl
theorem tr_law_strange : m_law_strange.tree = vfn [.b] 1 ir_law_strange := rfl

noncomputable def ir_is_whole : VS :=
  (.cons (.ret (.and (.isi (.var 0) .int) (.not (.isi (.var 0) .bool))))
  .nil)
theorem su_is_whole : ir_is_whole.uni := by simp only [ir_is_whole, VS.uni, and_self]
theorem ss_is_whole : fnS [.b] .F 1 ir_is_whole = true := by decide +kernel
noncomputable def m_is_whole : GFn := gfn [.b] .F 1 ir_is_whole su_is_whole ss_is_whole
theorem io_is_whole : m_is_whole.io = [.b] := rfl
theorem tr_is_whole : m_is_whole.tree = vfn [.b] 1 ir_is_whole := rfl

noncomputable def lb_common_0 : VS :=
  (.cons (.par 0 1 (.var 1) (.bin .Mod (.var 0) (.var 1)))
    .nil)
noncomputable def ir_common : VS :=
  (.cons (.par 0 1 (.bi .abs (.cons (.var 0) .nil)) (.bi .abs (.cons (.var 1) .nil)))
  (.cons (.whl (.var 1) lb_common_0)
  (.cons (.ret (.var 0))
  .nil)))
theorem su_common : ir_common.uni := by simp only [ir_common, lb_common_0, VS.uni, and_self]
theorem ss_common : fnS [.b, .b] .F 2 ir_common = true := by decide +kernel
noncomputable def m_common : GFn := gfn [.b, .b] .F 2 ir_common su_common ss_common
theorem io_common : m_common.io = [.b, .b] := rfl
theorem tr_common : m_common.tree = vfn [.b, .b] 2 ir_common := rfl

noncomputable def ir_part : VS :=
  (.cons (.ife (.or (.not (.call m_is_whole "is_whole" none (.cons (.var 0) .nil) [] .nil)) (.or (.not (.call m_is_whole "is_whole" none (.cons (.var 1) .nil) [] .nil)) (.cmp .Eq (.var 1) (.cst (.int 0)))))
    (.cons (.rais 3 [.d (.str "BadPart")] .nil)
    .nil)
    .nil)
  (.cons (.asg 2 (.call m_common "common" none (.cons (.var 0) (.cons (.var 1) .nil)) [] .nil))
  (.cons (.ife (.cmp .Lt (.var 1) (.cst (.int 0)))
    (.cons (.asg 2 (.neg (.var 2)))
    .nil)
    .nil)
  (.cons (.ret (.tup (.cons (.bin .FloorDiv (.var 0) (.var 2)) (.cons (.bin .FloorDiv (.var 1) (.var 2)) .nil))))
  .nil))))
theorem su_part : ir_part.uni := by simp only [ir_part, VS.uni, and_self]
theorem ss_part : fnS [.b, .b] .F 3 ir_part = true := by decide +kernel
noncomputable def m_part : GFn := gfn [.b, .b] .F 3 ir_part su_part ss_part
theorem io_part : m_part.io = [.b, .b] := rfl
theorem tr_part : m_part.tree = vfn [.b, .b] 3 ir_part := rfl

noncomputable def ir_law_refused : VS :=
  (.cons (.tr
    (.cons (.expr (.call m_part "part" (some [.p 0, .p 1]) (.cons (.var 0) (.cons (.var 1) .nil)) [] .nil))
    .nil)
    (.cons (.hnd ["BadPart"] (some 2) (fun c ts => (.cons (.ife (.or (.not (.xis 2 "LagError" (subN c "LagError"))) (.xis 2 "Unlike" (subN c "Unlike"))) (.cons (.ret (.cst (.bl false))) .nil) .nil) (.cons (.ret (.and (.xis 2 "ValueError" (subN c "ValueError")) (.cmp .Eq (.xf 2 "word" [(3, 0)] c ts) (.cst (.str "BadPart"))))) .nil))))
    .nil))
  (.cons (.ret (.cst (.bl false)))
  .nil))
theorem su_law_refused : ir_law_refused.uni := by
  simp only [ir_law_refused, VS.uni, and_self, and_true, true_and]
  repeat' (first | exact True.intro | exact (fun _ _ _ _ _ _ => rfl) | exact (fun _ _ _ => ⟨fun _ _ _ => rfl, by simp only [VS.uni, and_self]⟩) | apply And.intro)
theorem ss_law_refused : fnS [.b, .b] .F 3 ir_law_refused = true := by decide +kernel
noncomputable def m_law_refused : GFn := gfn [.b, .b] .F 3 ir_law_refused su_law_refused ss_law_refused
theorem io_law_refused : m_law_refused.io = [.b, .b] := rfl
theorem tr_law_refused : m_law_refused.tree = vfn [.b, .b] 3 ir_law_refused := rfl

noncomputable def lb_law_same_0 (rec : GFn) : VS :=
  (.cons (.ife (.not (.call rec "_law_same" none (.cons (.sub (.var 0) (.var 2)) (.cons (.sub (.var 1) (.var 2)) .nil)) [] .nil))
      (.cons (.ret (.cst (.bl false)))
      .nil)
      .nil)
    .nil)
noncomputable def ir_law_same (rec : GFn) : VS :=
  (.cons (.ife (.isi (.var 1) .bool)
    (.cons (.ret (.and (.isi (.var 0) .bool) (.cmp .Eq (.var 0) (.var 1))))
    .nil)
    .nil)
  (.cons (.ife (.cmp .Is (.var 1) (.cst .non))
    (.cons (.ret (.cmp .Is (.var 0) (.cst .non)))
    .nil)
    .nil)
  (.cons (.ife (.isi (.var 1) .int)
    (.cons (.ret (.and (.isi (.var 0) .int) (.and (.not (.isi (.var 0) .bool)) (.cmp .Eq (.var 0) (.var 1)))))
    .nil)
    .nil)
  (.cons (.ife (.isi (.var 1) .str)
    (.cons (.ret (.and (.isi (.var 0) .str) (.cmp .Eq (.var 0) (.var 1))))
    .nil)
    .nil)
  (.cons (.ife (.and (.isi (.var 1) .tuple) (.not (.isi (.var 0) .tuple)))
    (.cons (.ret (.cst (.bl false)))
    .nil)
    .nil)
  (.cons (.ife (.and (.isi (.var 1) .list) (.not (.isi (.var 0) .list)))
    (.cons (.ret (.cst (.bl false)))
    .nil)
    .nil)
  (.cons (.ife (.cmp .NotEq (.bi .len (.cons (.var 0) .nil)) (.bi .len (.cons (.var 1) .nil)))
    (.cons (.ret (.cst (.bl false)))
    .nil)
    .nil)
  (.cons (.fr (.n 2) (.rng (.cons (.bi .len (.cons (.var 1) .nil)) .nil)) (lb_law_same_0 rec))
  (.cons (.ret (.cst (.bl true)))
  .nil)))))))))
theorem su_law_same (rec : GFn) : (ir_law_same rec).uni := by simp only [ir_law_same, lb_law_same_0, VS.uni, and_self]
theorem ss_law_same (rec : GFn) (h1 : rec.io = [.b, .b]) (h2 : rec.rk = .F) : fnS [.b, .b] .F 3 (ir_law_same rec) = true := by
  obtain ⟨run, tree, io, rk, ok⟩ := rec
  cases h1
  cases h2
  kernel_rfl
noncomputable def m_law_same : Nat → {g : GFn // g.io = [.b, .b] ∧ g.rk = .F}
  | 0 => ⟨badG [.b, .b] .F, rfl, rfl⟩
  | d + 1 => ⟨gfn [.b, .b] .F 3 (ir_law_same (m_law_same d).1) (su_law_same _) (ss_law_same _ (m_law_same d).2.1 (m_law_same d).2.2), rfl, rfl⟩
theorem io_law_same (d : Nat) : (m_law_same d).1.io = [.b, .b] := (m_law_same d).2.1
theorem tr_law_same (d : Nat) : (m_law_same (d + 1)).1.tree = vfn [.b, .b] 3 (ir_law_same (m_law_same d).1) := rfl

noncomputable def lb_law_low_0 : VS :=
  (.cons (.par 2 3 (.var 3) (.bin .Mod (.var 2) (.var 3)))
    .nil)
noncomputable def ir_law_low : VS :=
  (.cons (.asg 2 (.bi .abs (.cons (.var 0) .nil)))
  (.cons (.asg 3 (.bi .abs (.cons (.var 1) .nil)))
  (.cons (.whl (.var 3) lb_law_low_0)
  (.cons (.ife (.cmp .Lt (.var 1) (.cst (.int 0)))
    (.cons (.asg 2 (.neg (.var 2)))
    .nil)
    .nil)
  (.cons (.ret (.tup (.cons (.bin .FloorDiv (.var 0) (.var 2)) (.cons (.bin .FloorDiv (.var 1) (.var 2)) .nil))))
  .nil)))))
theorem su_law_low : ir_law_low.uni := by simp only [ir_law_low, lb_law_low_0, VS.uni, and_self]
theorem ss_law_low : fnS [.b, .b] .F 4 ir_law_low = true := by decide +kernel
noncomputable def m_law_low : GFn := gfn [.b, .b] .F 4 ir_law_low su_law_low ss_law_low
theorem io_law_low : m_law_low.io = [.b, .b] := rfl
theorem tr_law_low : m_law_low.tree = vfn [.b, .b] 4 ir_law_low := rfl

noncomputable def ir_law_k01 : VS :=
  (.cons (.asg 1 (.call m_law_flow "_law_flow" none (.cons (.var 0) .nil) [] .nil))
  (.cons (.asg 2 (.call m_law_great "_law_great" none (.cons (.rv 1) .nil) [] .nil))
  (.cons (.asg 3 (.call m_law_great "_law_great" none (.cons (.rv 1) .nil) [] .nil))
  (.cons (.asg 4 (.fl (.sub (.lst (.cons (.cst (.int 1)) (.cons (.cst (.int 1)) (.cons (.cst (.int 2)) (.cons (.cst (.int 3)) (.cons (.cst (.int 30030)) (.cons (.bin .Pow (.cst (.int 10)) (.cst (.int 20))) .nil))))))) (.call m_law_draw "_law_draw" none (.cons (.rv 1) (.cons (.cst (.int 6)) .nil)) [] .nil))))
  (.cons (.asg 5 (.call m_law_strange "_law_strange" none (.cons (.call m_law_draw "_law_draw" none (.cons (.rv 1) (.cons (.cst (.int 8)) .nil)) [] .nil) .nil) [] .nil))
  (.cons (.ife (.cmp .Eq (.call m_law_draw "_law_draw" none (.cons (.rv 1) (.cons (.cst (.int 9)) .nil)) [] .nil) (.cst (.int 0)))
    (.cons (.asg 3 (.cst (.int 0)))
    .nil)
    .nil)
  (.cons (.ife (.or (.not (.call m_law_refused "_law_refused" none (.cons (.var 5) (.cons (.var 3) .nil)) [] .nil)) (.or (.not (.call m_law_refused "_law_refused" none (.cons (.var 2) (.cons (.var 5) .nil)) [] .nil)) (.not (.call m_law_refused "_law_refused" none (.cons (.bin .Mult (.var 2) (.var 4)) (.cons (.cst (.int 0)) .nil)) [] .nil))))
    (.cons (.ret (.cst (.bl false)))
    .nil)
    .nil)
  (.cons (.ife (.not (.call m_law_refused "_law_refused" none (.cons (.var 5) (.cons (.var 5) .nil)) [] .nil))
    (.cons (.ret (.cst (.bl false)))
    .nil)
    .nil)
  (.cons (.ife (.not (.call (m_law_same 8).1 "_law_same" none (.cons (.call m_part "part" (some [.p 0, .d (.int 1)]) (.cons (.bin .Mult (.var 2) (.var 4)) .nil) [] .nil) (.cons (.tup (.cons (.bin .Mult (.var 2) (.var 4)) (.cons (.cst (.int 1)) .nil))) .nil)) [] .nil))
    (.cons (.ret (.cst (.bl false)))
    .nil)
    .nil)
  (.cons (.ife (.cmp .Eq (.var 3) (.cst (.int 0)))
    (.cons (.ret (.call m_law_refused "_law_refused" none (.cons (.var 2) (.cons (.var 3) .nil)) [] .nil))
    .nil)
    .nil)
  (.cons (.ret (.call (m_law_same 8).1 "_law_same" none (.cons (.call m_part "part" (some [.p 0, .p 1]) (.cons (.bin .Mult (.var 2) (.var 4)) (.cons (.bin .Mult (.var 3) (.var 4)) .nil)) [] .nil) (.cons (.call m_law_low "_law_low" none (.cons (.var 2) (.cons (.var 3) .nil)) [] .nil) .nil)) [] .nil))
  .nil)))))))))))
theorem su_law_k01 : ir_law_k01.uni := by simp only [ir_law_k01, VS.uni, and_self]
theorem ss_law_k01 : fnS [.b] .F 6 ir_law_k01 = true := by decide +kernel
noncomputable def m_law_k01 : GFn := gfn [.b] .F 6 ir_law_k01 su_law_k01 ss_law_k01
theorem io_law_k01 : m_law_k01.io = [.b] := rfl
theorem tr_law_k01 : m_law_k01.tree = vfn [.b] 6 ir_law_k01 := rfl

noncomputable def ir_law_any_part : VS :=
  (.cons (.asg 1 (.fl (.sub (.lst (.cons (.cst (.int 1)) (.cons (.cst (.int 2)) (.cons (.cst (.int 3)) (.cons (.cst (.int 12)) (.cons (.cst (.int 1000)) (.cons (.bin .Pow (.cst (.int 10)) (.cst (.int 9))) (.cons (.bin .Pow (.cst (.int 10)) (.cst (.int 30))) .nil)))))))) (.call m_law_draw "_law_draw" none (.cons (.rv 0) (.cons (.cst (.int 7)) .nil)) [] .nil))))
  (.cons (.ret (.call m_law_low "_law_low" none (.cons (.call m_law_great "_law_great" none (.cons (.rv 0) .nil) [] .nil) (.cons (.bin .Add (.cst (.int 1)) (.call m_law_draw "_law_draw" none (.cons (.rv 0) (.cons (.var 1) .nil)) [] .nil)) .nil)) [] .nil))
  .nil))
theorem su_law_any_part : ir_law_any_part.uni := by simp only [ir_law_any_part, VS.uni, and_self]
theorem ss_law_any_part : fnS [.o] .F 2 ir_law_any_part = true := by decide +kernel
noncomputable def m_law_any_part : GFn := gfn [.o] .F 2 ir_law_any_part su_law_any_part ss_law_any_part
theorem io_law_any_part : m_law_any_part.io = [.o] := rfl
theorem tr_law_any_part : m_law_any_part.tree = vfn [.o] 2 ir_law_any_part := rfl

noncomputable def ir_plus : VS :=
  (.cons (.ret (.call m_part "part" (some [.p 0, .p 1]) (.cons (.bin .Add (.bin .Mult (.sub (.var 0) (.cst (.int 0))) (.sub (.var 1) (.cst (.int 1)))) (.bin .Mult (.sub (.var 1) (.cst (.int 0))) (.sub (.var 0) (.cst (.int 1))))) (.cons (.bin .Mult (.sub (.var 0) (.cst (.int 1))) (.sub (.var 1) (.cst (.int 1)))) .nil)) [] .nil))
  .nil)
theorem su_plus : ir_plus.uni := by simp only [ir_plus, VS.uni, and_self]
theorem ss_plus : fnS [.b, .b] .F 2 ir_plus = true := by decide +kernel
noncomputable def m_plus : GFn := gfn [.b, .b] .F 2 ir_plus su_plus ss_plus
theorem io_plus : m_plus.io = [.b, .b] := rfl
theorem tr_plus : m_plus.tree = vfn [.b, .b] 2 ir_plus := rfl

noncomputable def ir_law_add : VS :=
  (.cons (.ret (.call m_law_low "_law_low" none (.cons (.bin .Add (.bin .Mult (.sub (.var 0) (.cst (.int 0))) (.sub (.var 1) (.cst (.int 1)))) (.bin .Mult (.sub (.var 1) (.cst (.int 0))) (.sub (.var 0) (.cst (.int 1))))) (.cons (.bin .Mult (.sub (.var 0) (.cst (.int 1))) (.sub (.var 1) (.cst (.int 1)))) .nil)) [] .nil))
  .nil)
theorem su_law_add : ir_law_add.uni := by simp only [ir_law_add, VS.uni, and_self]
theorem ss_law_add : fnS [.b, .b] .F 2 ir_law_add = true := by decide +kernel
noncomputable def m_law_add : GFn := gfn [.b, .b] .F 2 ir_law_add su_law_add ss_law_add
theorem io_law_add : m_law_add.io = [.b, .b] := rfl
theorem tr_law_add : m_law_add.tree = vfn [.b, .b] 2 ir_law_add := rfl

noncomputable def ir_minus : VS :=
  (.cons (.ret (.call m_part "part" (some [.p 0, .p 1]) (.cons (.bin .Sub (.bin .Mult (.sub (.var 0) (.cst (.int 0))) (.sub (.var 1) (.cst (.int 1)))) (.bin .Mult (.sub (.var 1) (.cst (.int 0))) (.sub (.var 0) (.cst (.int 1))))) (.cons (.bin .Mult (.sub (.var 0) (.cst (.int 1))) (.sub (.var 1) (.cst (.int 1)))) .nil)) [] .nil))
  .nil)
theorem su_minus : ir_minus.uni := by simp only [ir_minus, VS.uni, and_self]
theorem ss_minus : fnS [.b, .b] .F 2 ir_minus = true := by decide +kernel
noncomputable def m_minus : GFn := gfn [.b, .b] .F 2 ir_minus su_minus ss_minus
theorem io_minus : m_minus.io = [.b, .b] := rfl
theorem tr_minus : m_minus.tree = vfn [.b, .b] 2 ir_minus := rfl

noncomputable def ir_law_less : VS :=
  (.cons (.ret (.call m_law_low "_law_low" none (.cons (.bin .Sub (.bin .Mult (.sub (.var 0) (.cst (.int 0))) (.sub (.var 1) (.cst (.int 1)))) (.bin .Mult (.sub (.var 1) (.cst (.int 0))) (.sub (.var 0) (.cst (.int 1))))) (.cons (.bin .Mult (.sub (.var 0) (.cst (.int 1))) (.sub (.var 1) (.cst (.int 1)))) .nil)) [] .nil))
  .nil)
theorem su_law_less : ir_law_less.uni := by simp only [ir_law_less, VS.uni, and_self]
theorem ss_law_less : fnS [.b, .b] .F 2 ir_law_less = true := by decide +kernel
noncomputable def m_law_less : GFn := gfn [.b, .b] .F 2 ir_law_less su_law_less ss_law_less
theorem io_law_less : m_law_less.io = [.b, .b] := rfl
theorem tr_law_less : m_law_less.tree = vfn [.b, .b] 2 ir_law_less := rfl

noncomputable def ir_times : VS :=
  (.cons (.ret (.call m_part "part" (some [.p 0, .p 1]) (.cons (.bin .Mult (.sub (.var 0) (.cst (.int 0))) (.sub (.var 1) (.cst (.int 0)))) (.cons (.bin .Mult (.sub (.var 0) (.cst (.int 1))) (.sub (.var 1) (.cst (.int 1)))) .nil)) [] .nil))
  .nil)
theorem su_times : ir_times.uni := by simp only [ir_times, VS.uni, and_self]
theorem ss_times : fnS [.b, .b] .F 2 ir_times = true := by decide +kernel
noncomputable def m_times : GFn := gfn [.b, .b] .F 2 ir_times su_times ss_times
theorem io_times : m_times.io = [.b, .b] := rfl
theorem tr_times : m_times.tree = vfn [.b, .b] 2 ir_times := rfl

noncomputable def ir_law_mul : VS :=
  (.cons (.ret (.call m_law_low "_law_low" none (.cons (.bin .Mult (.sub (.var 0) (.cst (.int 0))) (.sub (.var 1) (.cst (.int 0)))) (.cons (.bin .Mult (.sub (.var 0) (.cst (.int 1))) (.sub (.var 1) (.cst (.int 1)))) .nil)) [] .nil))
  .nil)
theorem su_law_mul : ir_law_mul.uni := by simp only [ir_law_mul, VS.uni, and_self]
theorem ss_law_mul : fnS [.b, .b] .F 2 ir_law_mul = true := by decide +kernel
noncomputable def m_law_mul : GFn := gfn [.b, .b] .F 2 ir_law_mul su_law_mul ss_law_mul
theorem io_law_mul : m_law_mul.io = [.b, .b] := rfl
theorem tr_law_mul : m_law_mul.tree = vfn [.b, .b] 2 ir_law_mul := rfl

noncomputable def ir_order : VS :=
  (.cons (.par 2 3 (.bin .Mult (.sub (.var 0) (.cst (.int 0))) (.sub (.var 1) (.cst (.int 1)))) (.bin .Mult (.sub (.var 1) (.cst (.int 0))) (.sub (.var 0) (.cst (.int 1)))))
  (.cons (.ife (.cmp .Eq (.var 2) (.var 3))
    (.cons (.ret (.cst (.int 0)))
    .nil)
    .nil)
  (.cons (.ret (.ife (.cmp .Lt (.var 2) (.var 3)) (.neg (.cst (.int 1))) (.cst (.int 1))))
  .nil)))
theorem su_order : ir_order.uni := by simp only [ir_order, VS.uni, and_self]
theorem ss_order : fnS [.b, .b] .F 4 ir_order = true := by decide +kernel
noncomputable def m_order : GFn := gfn [.b, .b] .F 4 ir_order su_order ss_order
theorem io_order : m_order.io = [.b, .b] := rfl
theorem tr_order : m_order.tree = vfn [.b, .b] 4 ir_order := rfl

noncomputable def ir_over : VS :=
  (.cons (.ife (.cmp .Eq (.sub (.var 1) (.cst (.int 0))) (.cst (.int 0)))
    (.cons (.rais 24 [.d (.str "NoShare")] .nil)
    .nil)
    .nil)
  (.cons (.ret (.call m_part "part" (some [.p 0, .p 1]) (.cons (.bin .Mult (.sub (.var 0) (.cst (.int 0))) (.sub (.var 1) (.cst (.int 1)))) (.cons (.bin .Mult (.sub (.var 0) (.cst (.int 1))) (.sub (.var 1) (.cst (.int 0)))) .nil)) [] .nil))
  .nil))
theorem su_over : ir_over.uni := by simp only [ir_over, VS.uni, and_self]
theorem ss_over : fnS [.b, .b] .F 2 ir_over = true := by decide +kernel
noncomputable def m_over : GFn := gfn [.b, .b] .F 2 ir_over su_over ss_over
theorem io_over : m_over.io = [.b, .b] := rfl
theorem tr_over : m_over.tree = vfn [.b, .b] 2 ir_over := rfl

noncomputable def ir_law_div : VS :=
  (.cons (.ret (.call m_law_low "_law_low" none (.cons (.bin .Mult (.sub (.var 0) (.cst (.int 0))) (.sub (.var 1) (.cst (.int 1)))) (.cons (.bin .Mult (.sub (.var 0) (.cst (.int 1))) (.sub (.var 1) (.cst (.int 0)))) .nil)) [] .nil))
  .nil)
theorem su_law_div : ir_law_div.uni := by simp only [ir_law_div, VS.uni, and_self]
theorem ss_law_div : fnS [.b, .b] .F 2 ir_law_div = true := by decide +kernel
noncomputable def m_law_div : GFn := gfn [.b, .b] .F 2 ir_law_div su_law_div ss_law_div
theorem io_law_div : m_law_div.io = [.b, .b] := rfl
theorem tr_law_div : m_law_div.tree = vfn [.b, .b] 2 ir_law_div := rfl

noncomputable def ir_law_k03 : VS :=
  (.cons (.asg 1 (.call m_law_flow "_law_flow" none (.cons (.var 0) .nil) [] .nil))
  (.cons (.asg 2 (.call m_law_any_part "_law_any_part" none (.cons (.rv 1) .nil) [] .nil))
  (.cons (.asg 3 (.call m_law_any_part "_law_any_part" none (.cons (.rv 1) .nil) [] .nil))
  (.cons (.asg 4 (.call m_law_draw "_law_draw" none (.cons (.rv 1) (.cons (.cst (.int 6)) .nil)) [] .nil))
  (.cons (.ife (.cmp .Eq (.var 4) (.cst (.int 0)))
    (.cons (.asg 3 (.var 2))
    .nil)
    .nil)
  (.cons (.ife (.cmp .Eq (.var 4) (.cst (.int 1)))
    (.cons (.asg 3 (.tup (.cons (.neg (.sub (.var 2) (.cst (.int 0)))) (.cons (.sub (.var 2) (.cst (.int 1))) .nil))))
    .nil)
    .nil)
  (.cons (.ife (.cmp .Eq (.var 4) (.cst (.int 2)))
    (.cons (.asg 3 (.tup (.cons (.cst (.int 0)) (.cons (.cst (.int 1)) .nil))))
    .nil)
    .nil)
  (.cons (.ife (.not (.call (m_law_same 8).1 "_law_same" none (.cons (.call m_plus "plus" none (.cons (.var 2) (.cons (.var 3) .nil)) [] .nil) (.cons (.call m_law_add "_law_add" none (.cons (.var 2) (.cons (.var 3) .nil)) [] .nil) .nil)) [] .nil))
    (.cons (.ret (.cst (.bl false)))
    .nil)
    .nil)
  (.cons (.ife (.not (.call (m_law_same 8).1 "_law_same" none (.cons (.call m_minus "minus" none (.cons (.var 2) (.cons (.var 3) .nil)) [] .nil) (.cons (.call m_law_less "_law_less" none (.cons (.var 2) (.cons (.var 3) .nil)) [] .nil) .nil)) [] .nil))
    (.cons (.ret (.cst (.bl false)))
    .nil)
    .nil)
  (.cons (.ife (.not (.call (m_law_same 8).1 "_law_same" none (.cons (.call m_times "times" none (.cons (.var 2) (.cons (.var 3) .nil)) [] .nil) (.cons (.call m_law_mul "_law_mul" none (.cons (.var 2) (.cons (.var 3) .nil)) [] .nil) .nil)) [] .nil))
    (.cons (.ret (.cst (.bl false)))
    .nil)
    .nil)
  (.cons (.asg 5 (.cst (.int 0)))
  (.cons (.ife (.cmp .Lt (.bin .Mult (.sub (.var 2) (.cst (.int 0))) (.sub (.var 3) (.cst (.int 1)))) (.bin .Mult (.sub (.var 3) (.cst (.int 0))) (.sub (.var 2) (.cst (.int 1)))))
    (.cons (.asg 5 (.neg (.cst (.int 1))))
    .nil)
    .nil)
  (.cons (.ife (.cmp .Gt (.bin .Mult (.sub (.var 2) (.cst (.int 0))) (.sub (.var 3) (.cst (.int 1)))) (.bin .Mult (.sub (.var 3) (.cst (.int 0))) (.sub (.var 2) (.cst (.int 1)))))
    (.cons (.asg 5 (.cst (.int 1)))
    .nil)
    .nil)
  (.cons (.ife (.or (.not (.call (m_law_same 8).1 "_law_same" none (.cons (.call m_order "order" none (.cons (.var 2) (.cons (.var 3) .nil)) [] .nil) (.cons (.var 5) .nil)) [] .nil)) (.not (.call (m_law_same 8).1 "_law_same" none (.cons (.call m_order "order" none (.cons (.var 3) (.cons (.var 2) .nil)) [] .nil) (.cons (.neg (.var 5)) .nil)) [] .nil)))
    (.cons (.ret (.cst (.bl false)))
    .nil)
    .nil)
  (.cons (.ife (.cmp .NotEq (.sub (.var 3) (.cst (.int 0))) (.cst (.int 0)))
    (.cons (.asg 6 (.call m_over "over" none (.cons (.var 2) (.cons (.var 3) .nil)) [] .nil))
    (.cons (.ret (.and (.call (m_law_same 8).1 "_law_same" none (.cons (.var 6) (.cons (.call m_law_div "_law_div" none (.cons (.var 2) (.cons (.var 3) .nil)) [] .nil) .nil)) [] .nil) (.call (m_law_same 8).1 "_law_same" none (.cons (.call m_times "times" none (.cons (.var 6) (.cons (.var 3) .nil)) [] .nil) (.cons (.var 2) .nil)) [] .nil)))
    .nil))
    .nil)
  (.cons (.tr
    (.cons (.expr (.call m_over "over" none (.cons (.var 2) (.cons (.var 3) .nil)) [] .nil))
    .nil)
    (.cons (.hnd ["NoShare"] (some 7) (fun c ts => (.cons (.ret (.and (.xis 7 "ZeroDivisionError" (subN c "ZeroDivisionError")) (.and (.not (.xis 7 "LagError" (subN c "LagError"))) (.cmp .Eq (.xf 7 "word" [(24, 0)] c ts) (.cst (.str "NoShare")))))) .nil)))
    .nil))
  (.cons (.ret (.cst (.bl false)))
  .nil)))))))))))))))))
theorem su_law_k03 : ir_law_k03.uni := by
  simp only [ir_law_k03, VS.uni, and_self, and_true, true_and]
  repeat' (first | exact True.intro | exact (fun _ _ _ _ _ _ => rfl) | exact (fun _ _ _ => ⟨fun _ _ _ => rfl, by simp only [VS.uni, and_self]⟩) | apply And.intro)
theorem ss_law_k03 : fnS [.b] .F 8 ir_law_k03 = true := by decide +kernel
noncomputable def m_law_k03 : GFn := gfn [.b] .F 8 ir_law_k03 su_law_k03 ss_law_k03
theorem io_law_k03 : m_law_k03.io = [.b] := rfl
theorem tr_law_k03 : m_law_k03.tree = vfn [.b] 8 ir_law_k03 := rfl

noncomputable def lb_law_total_0 : VS :=
  (.cons (.asg 1 (.call m_law_add "_law_add" none (.cons (.var 1) (.cons (.var 2) .nil)) [] .nil))
    .nil)
noncomputable def ir_law_total : VS :=
  (.cons (.asg 1 (.tup (.cons (.cst (.int 0)) (.cons (.cst (.int 1)) .nil))))
  (.cons (.fr (.n 2) (.var 0) lb_law_total_0)
  (.cons (.ret (.var 1))
  .nil)))
theorem su_law_total : ir_law_total.uni := by simp only [ir_law_total, lb_law_total_0, VS.uni, and_self]
theorem ss_law_total : fnS [.b] .F 3 ir_law_total = true := by decide +kernel
noncomputable def m_law_total : GFn := gfn [.b] .F 3 ir_law_total su_law_total ss_law_total
theorem io_law_total : m_law_total.io = [.b] := rfl
theorem tr_law_total : m_law_total.tree = vfn [.b] 3 ir_law_total := rfl

noncomputable def lb_total_0 : VS :=
  (.cons (.asg 2 (.call m_plus "plus" none (.cons (.var 2) (.cons (.var 3) .nil)) [] .nil))
    .nil)
noncomputable def ir_total : VS :=
  (.cons (.asg 2 (.fl (.var 1)))
  (.cons (.fr (.n 3) (.var 0) lb_total_0)
  (.cons (.ret (.var 2))
  .nil)))
theorem su_total : ir_total.uni := by simp only [ir_total, lb_total_0, VS.uni, and_self]
theorem ss_total : fnS [.b, .b] .F 4 ir_total = true := by decide +kernel
noncomputable def m_total : GFn := gfn [.b, .b] .F 4 ir_total su_total ss_total
theorem io_total : m_total.io = [.b, .b] := rfl
theorem tr_total : m_total.tree = vfn [.b, .b] 4 ir_total := rfl

noncomputable def ce_law_k04_0 : VE :=
  (.call m_law_any_part "_law_any_part" none (.cons (.rv 1) .nil) [] .nil)
noncomputable def ir_law_k04 : VS :=
  (.cons (.asg 1 (.call m_law_flow "_law_flow" none (.cons (.var 0) .nil) [] .nil))
  (.cons (.asg 2 (.comp [("_law_k", 6)] (.n 6) (.rng (.cons (.call m_law_draw "_law_draw" none (.cons (.rv 1) (.cons (.cst (.int 13)) .nil)) [] .nil) .nil)) .nil ce_law_k04_0))
  (.cons (.ife (.and (.var 2) (.cmp .Eq (.call m_law_draw "_law_draw" none (.cons (.rv 1) (.cons (.cst (.int 3)) .nil)) [] .nil) (.cst (.int 0))))
    (.cons (.asg 2 (.cat true (.var 2) (.lst (.cons (.fl (.sub (.var 2) (.cst (.int 0)))) (.cons (.fl (.sub (.var 2) (.neg (.cst (.int 1))))) .nil)))))
    .nil)
    .nil)
  (.cons (.asg 3 (.call m_law_any_part "_law_any_part" none (.cons (.rv 1) .nil) [] .nil))
  (.cons (.asg 4 (.lis true (.var 2)))
  (.cons (.asg 5 (.call m_law_total "_law_total" none (.cons (.var 2) .nil) [] .nil))
  (.cons (.ife (.or (.not (.call (m_law_same 8).1 "_law_same" none (.cons (.glob "NOUGHT" (.tup [(.int 0), (.int 1)])) (.cons (.tup (.cons (.cst (.int 0)) (.cons (.cst (.int 1)) .nil))) .nil)) [] .nil)) (.not (.call (m_law_same 8).1 "_law_same" none (.cons (.glob "ONE" (.tup [(.int 1), (.int 1)])) (.cons (.tup (.cons (.cst (.int 1)) (.cons (.cst (.int 1)) .nil))) .nil)) [] .nil)))
    (.cons (.ret (.cst (.bl false)))
    .nil)
    .nil)
  (.cons (.ife (.or (.not (.call (m_law_same 8).1 "_law_same" none (.cons (.call m_total "total" (some [.p 0, .d (.tup [(.int 0), (.int 1)])]) (.cons (.var 4) .nil) [] .nil) (.cons (.var 5) .nil)) [] .nil)) (.not (.call (m_law_same 8).1 "_law_same" none (.cons (.call m_total "total" (some [.p 0, .k 0]) (.cons (.var 4) .nil) ["start"] (.cons (.var 3) .nil)) (.cons (.call m_law_add "_law_add" none (.cons (.var 3) (.cons (.var 5) .nil)) [] .nil) .nil)) [] .nil)))
    (.cons (.ret (.cst (.bl false)))
    .nil)
    .nil)
  (.cons (.ife (.not (.call (m_law_same 8).1 "_law_same" none (.cons (.call m_total "total" (some [.p 0, .k 0]) (.cons (.rsl true (.var 4)) .nil) ["start"] (.cons (.var 3) .nil)) (.cons (.call m_law_add "_law_add" none (.cons (.var 3) (.cons (.var 5) .nil)) [] .nil) .nil)) [] .nil))
    (.cons (.ret (.cst (.bl false)))
    .nil)
    .nil)
  (.cons (.ret (.and (.call (m_law_same 8).1 "_law_same" none (.cons (.var 4) (.cons (.var 2) .nil)) [] .nil) (.call (m_law_same 8).1 "_law_same" none (.cons (.call m_total "total" (some [.p 0, .d (.tup [(.int 0), (.int 1)])]) (.cons (.var 4) .nil) [] .nil) (.cons (.var 5) .nil)) [] .nil)))
  .nil))))))))))
theorem su_law_k04 : ir_law_k04.uni := by simp only [ir_law_k04, VS.uni, and_self]
theorem ss_law_k04 : fnS [.b] .F 7 ir_law_k04 = true := by decide +kernel
noncomputable def m_law_k04 : GFn := gfn [.b] .F 7 ir_law_k04 su_law_k04 ss_law_k04
theorem io_law_k04 : m_law_k04.io = [.b] := rfl
theorem tr_law_k04 : m_law_k04.tree = vfn [.b] 7 ir_law_k04 := rfl
end L3

namespace L3
open PySem L2
local macro_rules | `(tactic| walk_at "d") => `(tactic| (first | with_reducible assumption | omega | ((with_reducible refine dec_in ?_); decide +kernel)))
structure Fw where
  xs : List Int
  i : Nat
  c : Nat
  s : Nat
  s1 : s < 2305843009213693951
def Fw.t (φ : Fw) : T := .lst [.lst (φ.xs.map T.int), .int φ.i, .int φ.c, .int φ.s]
theorem at_of {α : Type} (xs : List α) (j : Nat) (h : j < xs.length) : atI xs (j : Int) = some xs[j] := by
  unfold atI; rw [ixN_pos (by omega) (by omega)]; simp [h]
theorem at2 {α : Type} (x y z : α) (xs : List α) : atI (x :: y :: z :: xs) 2 = some z := at_of (x :: y :: z :: xs) 2 (by simp)
theorem at3 {α : Type} (x y z u : α) (xs : List α) : atI (x :: y :: z :: u :: xs) 3 = some u := at_of (x :: y :: z :: u :: xs) 3 (by simp)
theorem flats_int : ∀ (ns : List Int), flats (ns.map T.int) = true
  | [] => rfl
  | n :: ns => by rw [List.map_cons, flats, flats_int ns]; rfl
theorem flow_ex (ns : List Int) : ∃ φ : Fw, m_law_flow.tree [.rol (ns.map T.int)] = .ok φ.t [] := by
  obtain ⟨ys, e⟩ : ∃ ys : List Int, cutT (ns.map T.int) none (some 63) = ys.map T.int := ⟨((ns.drop (HT.sIx (ns.map T.int).length 0 none)).take (HT.sIx (ns.map T.int).length (ns.map T.int).length (some 63) - HT.sIx (ns.map T.int).length 0 none)), by
    unfold cutT
    rw [List.map_take, List.map_drop]⟩
  have k1 := flats_int
  refine ⟨⟨ys, 0, 0, 7, by decide⟩, ?_⟩
  rw [tr_law_flow]
  unfold ir_law_flow
  simp (disch := walk_at "d") only [Bool.false_or, Bool.not_true, List.append_nil, List.length_cons, List.length_nil, List.map_cons, List.map_nil, List.replicate, Nat.reduceAdd, Nat.reduceLeDiff, Nat.reduceSub, Nat.zero_add, Option.map_some, few, i_lst, intQ_int, newQ, opQ_some, outs_b, outs_nil, q_ok', qo_ok', startT, va_nil, va_v, vfR_ret, vfn, vs_ret', yX0, y_var, ya_cons, ya_nil, yo_cst, yo_nil, ys_cons, ys_ret, yv_cst, yv_lis, yv_lst, yv_slc, yv_var, yx_cst, yx_lis, z_rol, ↓reduceIte, *]
  rfl
noncomputable def fl0 (ns : List Int) : Fw := (flow_ex ns).choose
theorem flow_sp (ns : List Int) : m_law_flow.tree [.rol (ns.map T.int)] = .ok (fl0 ns).t [] := (flow_ex ns).choose_spec
theorem log_ok {i : Int} {k : Nat} (e : i.natAbs < 2 ^ (k + 1)) : i.natAbs.log2 ≤ k := log_lt e
theorem mulS {i j : Int} (hi : i.natAbs < 1180591620717411303424) (hj : j.natAbs < 1180591620717411303424) : i.natAbs.log2 + j.natAbs.log2 < 1000000 := by
  have := log_lt (i := i) (k := 69) (by omega)
  have := log_lt (i := j) (k := 69) (by omega)
  omega
theorem draw_ex (φ : Fw) (n : Int) (h0 : 0 < n) (hn : n.natAbs.log2 < 9000) :
    ∃ (r : Nat) (φ' : Fw), m_law_draw.tree [φ.t, .int n] = .ok (.int r) [φ'.t] ∧ (r : Int) < n := by
  obtain ⟨xs, i, c, s, s1⟩ := φ
  have nn : n ≠ 0 ∧ n.natAbs.log2 < 9000 := ⟨by omega, hn⟩
  have kd := fun i => b_fdiv (i := i) nn
  have km := fun i => b_mod (i := i) nn.1
  have m0 : ∀ i : Int, ∃ r : Nat, i.fmod n = r ∧ (r : Int) < n := fun i => ⟨(i.fmod n).toNat, (Int.toNat_of_nonneg (Int.fmod_nonneg_of_pos i h0)).symm, by rw [Int.toNat_of_nonneg (Int.fmod_nonneg_of_pos i h0)]; exact Int.fmod_lt_of_pos i h0⟩
  have q0 : ∀ i : Int, 0 ≤ i → ∃ r : Nat, i.fdiv n = r := fun i z => ⟨(i.fdiv n).toNat, (Int.toNat_of_nonneg (Int.fdiv_nonneg z (Int.le_of_lt h0))).symm⟩
  have a2 := @at2 T
  have a3 := @at3 T
  have i1 : ixN 4 1 = some 1 := rfl
  have i2 : ixN 4 2 = some 2 := rfl
  have i3 : ixN 4 3 = some 3 := rfl
  have fi : ∀ i : Int, flQ (.int i) = fun τ => Q.ok (T.int i) τ := fun _ => rfl
  rw [tr_law_draw]
  unfold ir_law_draw
  simp only [Fw.t]
  simp (disch := walk_at "d") only [List.cons_append, List.length_cons, List.length_nil, List.map_cons, List.map_nil, List.nil_append, List.replicate, List.set_cons_succ, List.set_cons_zero, Nat.reduceAdd, Nat.reduceLT, Nat.reduceSub, Nat.zero_add, Option.bind_some, blQ_some, c_gt, decide_eq_true_eq, getP_nil, getR_slt, opQ_some, q_ok', qo_ok', s_lst, setP_nil, setR_slt, slt0, startT, stsQ, t_bl, vfn, vs_next', vs_ret', yX0, yXs, y_var, yp_var, ys_asg, ys_cons, ys_ife, ys_nil, ys_ret, ys_sts, yt_cmp, yv_bin, yv_cmp, yv_cst, yv_sub, yv_var, ↓reduceIte, *]
  by_cases cc : 0 < (c : Int)
  · obtain ⟨r, er, hr⟩ := m0 c
    obtain ⟨q, eq⟩ := q0 c (by omega)
    simp (disch := walk_at "d") only [outs_b, outs_nil, outs_o, vfR_ret, vs_ret', ↓reduceIte, *]
    exact ⟨r, ⟨xs, i, q, s, s1⟩, rfl, hr⟩
  · simp (disch := walk_at "d") only [List.set_cons_succ, List.set_cons_zero, Option.map_some, at0, at1, blQ_some, c_lt, decide_eq_true_eq, n_lenl, opQ_some, q_ok', qo_ok', s_lst, t_bl, va_nil, va_v, vs_next', yX0, y_var, ya_cons, ya_nil, ys_asg, ys_cons, ys_ife, ys_nil, yt_cmp, yv_bi, yv_cmp, yv_cst, yv_fl, yv_sub, yv_var, yx_sub, ↓reduceIte, *]
    have hcell : ∃ cell : Int, (if (i : Int) < ((List.map T.int xs).length : Int) then
                (((opQ (atI (List.map T.int xs) i)
                              [some (T.lst [T.lst (List.map T.int xs), T.int i, T.int c, T.int s]), some (T.int n),
                                none, some (T.int 0), none, none]).bind
                          flQ).out
                      fun t τ1 => VO.next (List.set τ1 3 (some t))).seq
                  (vx VS.nil)
              else
                VO.next
                  [some (T.lst [T.lst (List.map T.int xs), T.int i, T.int c, T.int s]), some (T.int n), none,
                    some (T.int 0), none, none]) = VO.next [some (T.lst [T.lst (List.map T.int xs), T.int i, T.int c, T.int s]), some (T.int n), none, some (T.int cell), none, none] := by
      by_cases ci : (i : Int) < ((List.map T.int xs).length : Int)
      · have cj : i < (List.map T.int xs).length := by omega
        refine ⟨xs[i]'(by simpa using cj), ?_⟩
        rw [if_pos ci, at_of _ _ cj]
        simp [opQ_some, fi, ys_nil]
      · exact ⟨0, if_neg ci⟩
    obtain ⟨cell, hc⟩ := hcell
    rw [hc]
    simp (disch := walk_at "d") only [List.length_cons, List.length_nil, List.set_cons_succ, List.set_cons_zero, Nat.reduceAdd, Nat.reduceLT, Nat.zero_add, Option.bind_some, Option.map_some, at1, b_add, blQ_some, c_ge, decide_eq_true_eq, getP_nil, getR_slt, n_abs, opQ_some, p18, q_ok', qo_ok', s_lst, setP_nil, setR_slt, slt0, stsQ, t_bl, va_nil, va_v, vs_next', vs_ret', yX0, yXs, y_var, ya_cons, ya_nil, yp_var, ys_asg, ys_cons, ys_ife, ys_nil, ys_ret, ys_sts, yt_cmp, yv_bi, yv_bin, yv_cmp, yv_cst, yv_sub, yv_var, yx_var, ↓reduceIte, *]
    by_cases cg : (1000000000000000000 : Int) ≤ (cell.natAbs : Int)
    · obtain ⟨r, er, hr⟩ := m0 (cell.natAbs : Int)
      obtain ⟨q, eq⟩ := q0 (cell.natAbs : Int) (by omega)
      simp (disch := walk_at "d") only [outs_b, outs_nil, outs_o, vfR_ret, vs_ret', ↓reduceIte, *]
      exact ⟨r, ⟨xs, i + 1, q, s, s1⟩, rfl, hr⟩
    · have k1 := b_mul (i := s) (j := 1103515245) (mulS (by omega) (by decide))
      have k2 := b_mul (i := cell) (j := 48271) (mulS (by omega) (by decide))
      have k3 := fun i => b_mod (i := i) (j := 2305843009213693951) (by decide)
      simp (disch := walk_at "d") only [List.length_cons, List.length_nil, List.set_cons_succ, List.set_cons_zero, Nat.lt_add_one, Nat.reduceAdd, Nat.zero_add, Option.bind_some, at1, b_add, getP_nil, getR_slt, opQ_some, q_ok', qo_ok', s_lst, setP_nil, setR_slt, slt0, stsQ, vs_next', yX0, yXs, y_var, yp_var, ys_asg, ys_cons, ys_sts, yv_bin, yv_cst, yv_sub, yv_var, ↓reduceIte, *]
      generalize hw : ((s : Int) * 1103515245 + cell * 48271 + 12345 + ((i : Int) + 1)).fmod 2305843009213693951 = w
      have w0 : 0 ≤ w := by rw [← hw]; exact Int.fmod_nonneg_of_pos _ (by decide)
      have w1 : w < 2305843009213693951 := by rw [← hw]; exact Int.fmod_lt_of_pos _ (by decide)
      have k4 := b_mul (i := w) (j := 69069) (mulS (by omega) (by decide))
      have k5 := b_fdiv (i := w) (j := 65536) (by decide)
      have ew : w.fdiv 65536 = w / 65536 := Int.fdiv_eq_ediv_of_nonneg _ (by decide)
      have k6 := b_mul (i := w / 65536) (j := 40503) (mulS (by omega) (by decide))
      have k7 := b_mul (i := w * 69069 + w / 65536 * 40503) (j := w) (by
        have := log_lt (i := w) (k := 60) (by omega)
        have := log_lt (i := w * 69069 + w / 65536 * 40503) (k := 90) (by omega)
        omega)
      have k8 := fun i => b_mod (i := i) (j := 2147483647) (by decide)
      have k9 := fun i => b_fdiv (i := i) (j := 64) (by decide)
      obtain ⟨w, rfl⟩ := Int.eq_ofNat_of_zero_le w0
      simp (disch := walk_at "d") only [List.set_cons_succ, List.set_cons_zero, b_add, blQ_some, c_gt, decide_eq_true_eq, opQ_some, p6, q_ok', qo_ok', t_bl, vs_next', vs_ret', yX0, yXs, y_var, ys_cons, ys_ife, ys_nil, ys_ret, yt_cmp, yv_bin, yv_cmp, yv_cst, yv_var, *]
      by_cases cs : 1000000 < n
      · obtain ⟨r, er, hr⟩ := m0 (((w : Int) * 69069 + (w : Int) / 65536 * 40503) * (w : Int))
        simp (disch := walk_at "d") only [outs_b, outs_nil, outs_o, vfR_ret, vs_ret', ↓reduceIte, *]
        exact ⟨r, ⟨xs, i + 1, c, w, by omega⟩, rfl, hr⟩
      · obtain ⟨r, er, hr⟩ := m0 ((((w : Int) * 69069 + (w : Int) / 65536 * 40503).fmod 2147483647).fdiv 64)
        simp (disch := walk_at "d") only [opQ_some, outs_b, outs_nil, outs_o, q_ok', qo_ok', vfR_ret, vs_next', vs_ret', yX0, yXs, y_var, ys_cons, ys_ret, yv_bin, yv_cst, yv_var, ↓reduceIte, *]
        exact ⟨r, ⟨xs, i + 1, c, w, by omega⟩, rfl, hr⟩
theorem lg {n : Int} (h : n < 10000000000000000000000000000000000000000) (h0 : 0 < n) : n.natAbs.log2 < 9000 := by
  have := log_lt (i := n) (k := 140) (by omega)
  omega
/-- the number that a draw gives, and the flow behind it -/
noncomputable def dr (φ : Fw) (n : Int) : Nat := if h : 0 < n ∧ n.natAbs.log2 < 9000 then (draw_ex φ n h.1 h.2).choose else 0
noncomputable def dF (φ : Fw) (n : Int) : Fw := if h : 0 < n ∧ n.natAbs.log2 < 9000 then (draw_ex φ n h.1 h.2).choose_spec.choose else φ
theorem draw_big (φ : Fw) {n : Int} (h0 : 0 < n) (h1 : n.natAbs.log2 < 9000) : m_law_draw.tree [φ.t, .int n] = .ok (.int (dr φ n)) [(dF φ n).t] ∧ (dr φ n : Int) < n := by
  unfold dr dF
  rw [dif_pos ⟨h0, h1⟩, dif_pos ⟨h0, h1⟩]
  exact (draw_ex φ n h0 h1).choose_spec.choose_spec
theorem draw_sp (φ : Fw) {n : Int} (h0 : 0 < n) (h1 : n < 10000000000000000000000000000000000000000) : m_law_draw.tree [φ.t, .int n] = .ok (.int (dr φ n)) [(dF φ n).t] := (draw_big φ h0 (lg h1 h0)).1
theorem dr_lt (φ : Fw) {n : Int} (h0 : 0 < n) (h1 : n < 10000000000000000000000000000000000000000) : (dr φ n : Int) < n := (draw_big φ h0 (lg h1 h0)).2
theorem dr_ltN (φ : Fw) {n : Nat} (h0 : 0 < n) (h1 : n < 10000000000000000000000000000000000000000) : dr φ n < n := by have := dr_lt φ (n := n) (by omega) (by omega); omega
mutual
/-- so deep at most, lists and tuples short -/
def okD : Nat → T → Bool
  | 0, _ => false
  | _ + 1, .non => true
  | _ + 1, .bl _ => true
  | _ + 1, .int _ => true
  | _ + 1, .str _ => true
  | k + 1, .tup xs => decide (xs.length < 1000000) && okDs k xs
  | k + 1, .lst xs => decide (xs.length < 1000000) && okDs k xs
  | _ + 1, _ => false
def okDs : Nat → List T → Bool
  | _, [] => true
  | 0, _ :: _ => false
  | k + 1, t :: ts => okD (k + 1) t && okDs (k + 1) ts
end
theorem okD_int (k : Nat) (i : Int) : okD (k + 1) (.int i) = true := by simp [okD]
theorem okD_str (k : Nat) (i : Str) : okD (k + 1) (.str i) = true := by simp [okD]
theorem okD_bl (k : Nat) (i : Bool) : okD (k + 1) (.bl i) = true := by simp [okD]
theorem okD_non (k : Nat) : okD (k + 1) .non = true := by simp [okD]
theorem okDs_nil (k : Nat) : okDs k [] = true := by simp [okDs]
theorem okDs_cons {k : Nat} {t : T} {ts : List T} (h : okD (k + 1) t = true) (h2 : okDs (k + 1) ts = true) : okDs (k + 1) (t :: ts) = true := by rw [okDs, h, h2]; rfl
theorem okD_tup (k : Nat) {xs : List T} (l : xs.length < 1000000) (h : okDs k xs = true) : okD (k + 1) (.tup xs) = true := by rw [okD, h]; simpa using l
theorem okD_lst (k : Nat) {xs : List T} (l : xs.length < 1000000) (h : okDs k xs = true) : okD (k + 1) (.lst xs) = true := by rw [okD, h]; simpa using l
theorem okDs_get : ∀ {k : Nat} {ts : List T} {i : Nat} {t : T}, okDs k ts = true → ts[i]? = some t → okD k t = true
  | _, [], _, _, _, e => by simp at e
  | 0, _ :: _, _, _, h, _ => by simp [okDs] at h
  | k + 1, u :: ts, 0, t, h, e => by simp at e; subst e; rw [okDs, Bool.and_eq_true] at h; exact h.1
  | k + 1, u :: ts, i + 1, t, h, e => by rw [okDs, Bool.and_eq_true] at h; exact okDs_get (i := i) h.2 (by simpa using e)
theorem okDs_of (k : Nat) : ∀ (ts : List T), (∀ t ∈ ts, okD (k + 1) t = true) → okDs (k + 1) ts = true
  | [], _ => by simp [okDs]
  | t :: ts, h => by rw [okDs, h t (by simp), okDs_of k ts fun x hx => h x (by simp [hx])]; rfl
theorem okD_tab (k : Nat) {n : Nat} {f : Nat → T} (l : n < 1000000) (h : ∀ i, i < n → okD (k + 1) (f i) = true) : okD (k + 2) (tab n f) = true :=
  okD_lst _ (by rw [tl_len]; exact l) (okDs_of k _ fun t ht => by
    obtain ⟨i, hi, rfl⟩ := List.mem_map.mp ht
    exact h i (List.mem_range.mp hi))
theorem same_loop (rec : GFn) (hio : rec.io = [.b, .b]) (d : T) (xs : List T) (hx : ∀ i, subT d (.int i) = atI xs i)
    (hr : ∀ (i : Nat) (x : T), xs[i]? = some x → rec.tree [x, x] = .ok (.bl true) []) (z : Option T) :
    vfor (.n 2) (vx (lb_law_same_0 rec)) (tl xs.length fun i => .int (i : Int)) [some d, some d, z] = .next [some d, some d, lv z (fun i => .int (i : Int)) xs.length] := by
  refine vfor_tl (fun i => [some d, some d, lv z (fun i => .int (i : Int)) i]) fun i hi => ⟨[some d, some d, some (.int i)], rfl, .inl ?_⟩
  have a1 := at_of xs i hi
  have a3 := hr i _ (List.getElem?_eq_getElem hi)
  unfold lb_law_same_0
  simp (disch := walk_at "d") only [Bool.false_eq_true, Bool.not_true, Option.map_some, argsV_none, backQ_ok, callK_some, callV_K, lv_succ, okW_some, opQ_some, q_ok', qo_ok', t_bl, ta_nil, ta_v, vs_next', vs_ret', wb_b, wb_nil, yX0, yXs, y_var, ya_cons, ya_nil, ys_cons, ys_ife, ys_nil, ys_ret, yt_call, yt_not, yv_call, yv_cst, yv_sub, yv_var, yx_sub, ↓reduceIte, *]
theorem same_refl : ∀ (k : Nat) (t : T), okD k t = true → (m_law_same k).1.tree [t, t] = .ok (.bl true) [] := by
  intro k
  induction k with
  | zero => intro t h; simp [okD] at h
  | succ k ih =>
    intro t h
    rw [tr_law_same]
    unfold ir_law_same
    have io := io_law_same k
    cases t with
    | non => simp (disch := walk_at "d") only [Bool.false_eq_true, List.cons_append, List.length_cons, List.length_nil, List.map_cons, List.map_nil, List.nil_append, List.replicate, Nat.reduceAdd, Nat.reduceSub, Nat.zero_add, Option.map_some, blQ_some, c_is0, isTy, k_non, opQ_some, outs_b, outs_nil, q_ok', qo_ok', startT, t_bl, vfR_ret, vfn, vs_next', vs_ret', yX0, yXs, y_var, ys_cons, ys_ife, ys_nil, ys_ret, yt_cmp, yt_isi, yv_and, yv_cmp, yv_cst, yv_isi, yv_var, ↓reduceIte]
    | bl a => simp (disch := walk_at "d") only [List.cons_append, List.length_cons, List.length_nil, List.map_cons, List.map_nil, List.nil_append, List.replicate, Nat.reduceAdd, Nat.reduceSub, Nat.zero_add, Option.map_some, blQ_some, boolQ_bl, c_eqb, decide_true, isTy, k_bl, opQ_some, outs_b, outs_nil, q_ok', qo_ok', startT, t_bl, vfR_ret, vfn, vs_ret', yX0, yXs, y_var, ys_cons, ys_ife, ys_nil, ys_ret, yt_isi, yv_and, yv_cmp, yv_isi, yv_var, ↓reduceIte]
    | int a => simp (disch := walk_at "d") only [Bool.false_eq_true, Bool.not_false, List.cons_append, List.length_cons, List.length_nil, List.map_cons, List.map_nil, List.nil_append, List.replicate, Nat.reduceAdd, Nat.reduceSub, Nat.zero_add, Option.map_some, blQ_some, boolQ_bl, c_eqi, c_is1, decide_true, isTy, k_int, opQ_some, outs_b, outs_nil, q_ok', qo_ok', startT, t_bl, vfR_ret, vfn, vs_next', vs_ret', yX0, yXs, y_var, ys_cons, ys_ife, ys_nil, ys_ret, yt_cmp, yt_isi, yv_and, yv_cmp, yv_cst, yv_isi, yv_not, yv_var, ↓reduceIte]
    | str a => simp (disch := walk_at "d") only [Bool.false_eq_true, List.cons_append, List.length_cons, List.length_nil, List.map_cons, List.map_nil, List.nil_append, List.replicate, Nat.reduceAdd, Nat.reduceSub, Nat.zero_add, Option.map_some, blQ_some, boolQ_bl, c_eqs, c_is3, decide_true, isTy, k_str, opQ_some, outs_b, outs_nil, q_ok', qo_ok', startT, t_bl, vfR_ret, vfn, vs_next', vs_ret', yX0, yXs, y_var, ys_cons, ys_ife, ys_nil, ys_ret, yt_cmp, yt_isi, yv_and, yv_cmp, yv_cst, yv_isi, yv_not, yv_var, ↓reduceIte]
    | tup xs =>
      rw [okD, Bool.and_eq_true, decide_eq_true_eq] at h
      have el := same_loop (m_law_same k).1 io (.tup xs) xs (fun i => rfl) (fun i x e => ih x (okDs_get h.2 e)) none
      have er := rng_tl (n := xs.length) (by omega) (by omega)
      have ys := ys_fr
      clear ih h
      simp (disch := walk_at "d") only [Bool.false_eq_true, Bool.not_true, Int.toNat_natCast, List.cons_append, List.length_cons, List.length_nil, List.map_cons, List.map_nil, List.nil_append, List.replicate, Nat.reduceAdd, Nat.reduceSub, Nat.zero_add, Option.map_some, blQ_some, c_is4, c_nei, decide_true, isTy, k_tup, n_lent, opQ_some, outs_b, outs_nil, q_ok', qo_ok', startT, t_bl, va_nil, va_v, vfR_ret, vfn, vs_next', vs_ret', yX0, yXs, y_var, ya_cons, ya_nil, yi_rng, ys_cons, ys_ife, ys_nil, ys_ret, yt_and, yt_cmp, yt_isi, yt_not, yv_and, yv_bi, yv_cmp, yv_cst, yv_isi, yv_not, yv_var, yx_bi, yx_var, ↓reduceIte, *]
    | lst xs =>
      rw [okD, Bool.and_eq_true, decide_eq_true_eq] at h
      have el := same_loop (m_law_same k).1 io (.lst xs) xs (fun i => rfl) (fun i x e => ih x (okDs_get h.2 e)) none
      have er := rng_tl (n := xs.length) (by omega) (by omega)
      have ys := ys_fr
      clear ih h
      simp (disch := walk_at "d") only [Bool.false_eq_true, Bool.not_true, Int.toNat_natCast, List.cons_append, List.length_cons, List.length_nil, List.map_cons, List.map_nil, List.nil_append, List.replicate, Nat.reduceAdd, Nat.reduceSub, Nat.zero_add, Option.map_some, blQ_some, c_is5, c_nei, decide_true, isTy, k_lst, n_lenl, opQ_some, outs_b, outs_nil, q_ok', qo_ok', startT, t_bl, va_nil, va_v, vfR_ret, vfn, vs_next', vs_ret', yX0, yXs, y_var, ya_cons, ya_nil, yi_rng, ys_cons, ys_ife, ys_nil, ys_ret, yt_and, yt_cmp, yt_isi, yt_not, yv_and, yv_bi, yv_cmp, yv_cst, yv_isi, yv_not, yv_var, yx_bi, yx_var, ↓reduceIte, *]
    | _ => simp [okD] at h
theorem same_sp {t : T} (h : okD 8 t = true) : (m_law_same 8).1.tree [t, t] = .ok (.bl true) [] := same_refl 8 t h
theorem is_wholeI_sp (i : Int) : m_is_whole.tree [.int i] = .ok (.bl true) [] := by
  rw [tr_is_whole]; unfold ir_is_whole; simp (disch := walk_at "d") only [Bool.not_false, List.append_nil, List.length_cons, List.length_nil, List.map_cons, List.map_nil, List.replicate, Nat.reduceSub, Nat.zero_add, Option.map_some, blQ_some, boolQ_bl, isTy, k_int, opQ_some, outs_b, outs_nil, q_ok', qo_ok', startT, t_bl, vfR_ret, vfn, vs_ret', yX0, y_var, ys_cons, ys_ret, yv_and, yv_isi, yv_not, yv_var, ↓reduceIte]
theorem is_wholeB_sp (i : Bool) : m_is_whole.tree [.bl i] = .ok (.bl false) [] := by
  rw [tr_is_whole]; unfold ir_is_whole; simp (disch := walk_at "d") only [Bool.not_true, List.append_nil, List.length_cons, List.length_nil, List.map_cons, List.map_nil, List.replicate, Nat.reduceSub, Nat.zero_add, Option.map_some, blQ_some, boolQ_bl, isTy, k_bl, opQ_some, outs_b, outs_nil, q_ok', qo_ok', startT, t_bl, vfR_ret, vfn, vs_ret', yX0, y_var, ys_cons, ys_ret, yv_and, yv_isi, yv_not, yv_var, ↓reduceIte]
theorem is_wholeN_sp : m_is_whole.tree [.non] = .ok (.bl false) [] := by
  rw [tr_is_whole]; unfold ir_is_whole; simp (disch := walk_at "d") only [Bool.false_eq_true, Bool.not_false, List.append_nil, List.length_cons, List.length_nil, List.map_cons, List.map_nil, List.replicate, Nat.reduceSub, Nat.zero_add, Option.map_some, blQ_some, boolQ_bl, isTy, k_non, opQ_some, outs_b, outs_nil, q_ok', qo_ok', startT, t_bl, vfR_ret, vfn, vs_ret', yX0, y_var, ys_cons, ys_ret, yv_and, yv_isi, yv_not, yv_var, ↓reduceIte]
theorem is_wholeS_sp (i : Str) : m_is_whole.tree [.str i] = .ok (.bl false) [] := by
  rw [tr_is_whole]; unfold ir_is_whole; simp (disch := walk_at "d") only [Bool.false_eq_true, Bool.not_false, List.append_nil, List.length_cons, List.length_nil, List.map_cons, List.map_nil, List.replicate, Nat.reduceSub, Nat.zero_add, Option.map_some, blQ_some, boolQ_bl, isTy, k_str, opQ_some, outs_b, outs_nil, q_ok', qo_ok', startT, t_bl, vfR_ret, vfn, vs_ret', yX0, y_var, ys_cons, ys_ret, yv_and, yv_isi, yv_not, yv_var, ↓reduceIte]
theorem is_wholeT_sp (i : List T) : m_is_whole.tree [.tup i] = .ok (.bl false) [] := by
  rw [tr_is_whole]; unfold ir_is_whole; simp (disch := walk_at "d") only [Bool.false_eq_true, Bool.not_false, List.append_nil, List.length_cons, List.length_nil, List.map_cons, List.map_nil, List.replicate, Nat.reduceSub, Nat.zero_add, Option.map_some, blQ_some, boolQ_bl, isTy, k_tup, opQ_some, outs_b, outs_nil, q_ok', qo_ok', startT, t_bl, vfR_ret, vfn, vs_ret', yX0, y_var, ys_cons, ys_ret, yv_and, yv_isi, yv_not, yv_var, ↓reduceIte]
theorem is_wholeL_sp (i : List T) : m_is_whole.tree [.lst i] = .ok (.bl false) [] := by
  rw [tr_is_whole]; unfold ir_is_whole; simp (disch := walk_at "d") only [Bool.false_eq_true, Bool.not_false, List.append_nil, List.length_cons, List.length_nil, List.map_cons, List.map_nil, List.replicate, Nat.reduceSub, Nat.zero_add, Option.map_some, blQ_some, boolQ_bl, isTy, k_lst, opQ_some, outs_b, outs_nil, q_ok', qo_ok', startT, t_bl, vfR_ret, vfn, vs_ret', yX0, y_var, ys_cons, ys_ret, yv_and, yv_isi, yv_not, yv_var, ↓reduceIte]
theorem gcd_iter (i j : Nat) (b0 : VS) (hb : b0 = .cons (.par i j (.var j) (.bin .Mod (.var i) (.var j))) .nil) (hij : i ≠ j) (σ : Sm) (hi : i < σ.length) (hj : j < σ.length) : ∀ (b a : Nat), ∃ n, viter (vd (.var j)).t (vx b0) n ((σ.set i (some (.int a))).set j (some (.int b))) = .next ((σ.set i (some (.int (Nat.gcd a b : Nat)))).set j (some (.int 0))) := by
  subst hb
  intro b
  induction b using Nat.strongRecOn with
  | ind b ih =>
    intro a
    have vj : ∀ (x : Option T) (y : T) , varQ ((σ.set i x).set j (some y)) j = .ok y ((σ.set i x).set j (some y)) := by
      intro x y; unfold varQ; rw [List.getElem?_set_self (by simp [hj])]
    have vi : ∀ (x : T) (y : Option T) , varQ ((σ.set i (some x)).set j y) i = .ok x ((σ.set i (some x)).set j y) := by
      intro x y; unfold varQ; rw [List.getElem?_set_ne (Ne.symm hij), List.getElem?_set_self hi]
    by_cases c : b = 0
    · subst c
      refine ⟨1, ?_⟩
      unfold viter
      rw [yt_var, yv_var, vj]
      simp [t_int, opQ_some]
    · obtain ⟨n, e⟩ := ih (a % b) (Nat.mod_lt _ (by omega)) b
      refine ⟨n + 1, ?_⟩
      unfold viter
      rw [yt_var, yv_var, vj]
      have q : (((b : Int) != 0)) = true := by simp [c]
      simp only [q_ok, t_int, q, opQ_some, qo_ok, if_true, ys_cons, ys_par, yv_var, yv_bin, vj, vi]
      rw [b_mod (by omega)]
      simp only [opQ_some, qo_ok, vs_next, ys_nil, vt_next]
      have w : (((σ.set i (some (.int a))).set j (some (.int b))).set i (some (.int b))).set j (some (.int ((a : Int).fmod b))) = (σ.set i (some (.int b))).set j (some (.int ((a % b : Nat) : Int))) := by
        have q2 : (a : Int).fmod b = ((a % b : Nat) : Int) := by
          rw [Int.fmod_eq_emod_of_nonneg _ (by omega)]; simp
        rw [q2, List.set_comm _ _ (Ne.symm hij), List.set_set, List.set_set]
      rw [w, e, Nat.gcd_comm b (a % b), ← Nat.gcd_rec, Nat.gcd_comm]
theorem gcd01_sp (a b : Nat) : vx (.whl (.var 1) lb_common_0) [some (.int a), some (.int b)] = .next [some (.int (Nat.gcd a b : Nat)), some (.int 0)] := by
  obtain ⟨n, e⟩ := gcd_iter 0 1 lb_common_0 rfl (by decide) [none, none] (by decide) (by decide) b a
  exact vwhl_of n e (by simp)
theorem gcd23_sp (x y : Option T) (a b : Nat) : vx (.whl (.var 3) lb_law_low_0) [x, y, some (.int a), some (.int b)] = .next [x, y, some (.int (Nat.gcd a b : Nat)), some (.int 0)] := by
  obtain ⟨n, e⟩ := gcd_iter 2 3 lb_law_low_0 rfl (by decide) [x, y, none, none] (by simp) (by simp) b a
  exact vwhl_of n e (by simp)
theorem gcd_nat (a b : Int) : Nat.gcd a.natAbs b.natAbs = Int.gcd a b := rfl
theorem common_sp (a b : Int) : m_common.tree [.int a, .int b] = .ok (.int (Int.gcd a b : Nat)) [] := by
  rw [tr_common]; unfold ir_common
  simp (disch := walk_at "d") only [List.append_nil, List.length_cons, List.length_nil, List.map_cons, List.map_nil, List.replicate, List.set_cons_succ, List.set_cons_zero, Nat.reduceAdd, Nat.reduceSub, Nat.zero_add, Option.map_some, gcd01_sp, n_abs, opQ_some, outs_b, outs_nil, q_ok', qo_ok', startT, va_nil, va_v, vfR_ret, vfn, vs_next', vs_ret', yX0, yXs, y_var, ya_cons, ya_nil, ys_cons, ys_par, ys_ret, yv_bi, yv_var, yx_var, ↓reduceIte]
  rfl
end L3

namespace L3
open PySem L2
local macro_rules | `(tactic| walk_at "d") => `(tactic| (first | with_reducible assumption | omega | ((with_reducible refine dec_in ?_); decide +kernel)))
def pq (q : Rat) : T := .tup [.int q.num, .int q.den]
theorem flat_pq (q : Rat) : flat (pq q) = true := rfl
theorem flat0_pq (q : Rat) : flat0 (pq q) = true := rfl
theorem okD_pq (k : Nat) (q : Rat) : okD (k + 2) (pq q) = true := by simp [pq, okD, okDs]
theorem s_pq0 (q : Rat) : subT (pq q) (.int 0) = some (.int q.num) := rfl
theorem s_pq1 (q : Rat) : subT (pq q) (.int 1) = some (.int q.den) := by
  show atI [T.int q.num, T.int q.den] 1 = _
  exact at1 _ _ _
theorem k_pq (q : Rat) : tyT (pq q) = some .tuple := rfl
theorem n_pq (q : Rat) : biT .len [pq q] = some (.int 2) := rfl
theorem pq_zero : pq 0 = .tup [.int 0, .int 1] := rfl
theorem pq_one : pq 1 = .tup [.int 1, .int 1] := rfl
theorem pq_int (i : Int) : T.tup [.int i, .int 1] = pq (i : Rat) := rfl
theorem pq_inj {a b : Rat} (h : pq a = pq b) : a = b := by
  unfold pq at h
  simp only [T.tup.injEq, List.cons.injEq, T.int.injEq, and_true] at h
  exact Rat.ext h.1 (by omega)
/-- sizes within the bounds -/
def Lim (q : Rat) : Prop := q.den < 2 ^ 4400 ∧ q.num.natAbs < 2 ^ 400000
theorem fdS {b : Int} {n : Nat} (h : b.natAbs < 2 ^ n) (hn : n < 9000) : b.natAbs.log2 < 9000 := by have := log_bit h; omega
theorem low_big (t b : Int) (hb : b ≠ 0) (hs : b.natAbs.log2 < 9000) : m_law_low.tree [.int t, .int b] = .ok (pq (Rat.divInt t b)) [] := by
  have g0 := gcd_pos_r t b hb
  have gl : Int.gcd t b ≤ b.natAbs := Nat.gcd_le_right _ (by omega)
  have gs : (Int.gcd t b).log2 < 9000 := by
    have h1 : b.natAbs < 2 ^ 9000 := (Nat.log2_lt (by omega)).mp hs
    rw [Nat.log2_lt (by omega)]; exact Nat.lt_of_le_of_lt gl h1
  have e : Nat.gcd t.natAbs b.natAbs = Int.gcd t b := rfl
  rw [tr_law_low]
  unfold ir_law_low
  by_cases c : b < 0
  · have q := fdiv_neg_num t b c
    have k : -((Int.gcd t b : Nat) : Int) ≠ 0 ∧ (-((Int.gcd t b : Nat) : Int)).natAbs.log2 < 9000 := ⟨by omega, by rw [Int.natAbs_neg]; exact gs⟩
    have k2 := fun i => b_fdiv (i := i) k
    clear hs
    simp (disch := walk_at "d") only [List.cons_append, List.length_cons, List.length_nil, List.map_cons, List.map_nil, List.nil_append, List.replicate, List.set_cons_succ, List.set_cons_zero, Nat.reduceAdd, Nat.reduceLeDiff, Nat.reduceSub, Nat.zero_add, Option.map_some, blQ_some, c_lt, decide_true, few, gcd23_sp, n_abs, negQ_int, opQ_some, outs_b, outs_nil, q_ok', qo_ok', startT, t_bl, va_nil, va_v, vfR_ret, vfn, vs_next', vs_ret', yX0, yXs, y_var, ya_cons, ya_nil, ys_asg, ys_cons, ys_ife, ys_nil, ys_ret, yt_cmp, yv_bi, yv_bin, yv_cmp, yv_cst, yv_neg, yv_tup, yv_var, yx_bin, yx_var, ↓reduceIte, *]
    rw [pq]
  · have q := fdiv_pos_num t b (by omega)
    have k : ((Int.gcd t b : Nat) : Int) ≠ 0 ∧ (((Int.gcd t b : Nat) : Int)).natAbs.log2 < 9000 := ⟨by omega, gs⟩
    have k2 := fun i => b_fdiv (i := i) k
    clear hs
    simp (disch := walk_at "d") only [Bool.false_eq_true, List.cons_append, List.length_cons, List.length_nil, List.map_cons, List.map_nil, List.nil_append, List.replicate, List.set_cons_succ, List.set_cons_zero, Nat.reduceAdd, Nat.reduceLeDiff, Nat.reduceSub, Nat.zero_add, Option.map_some, blQ_some, c_lt, decide_false, few, gcd23_sp, n_abs, opQ_some, outs_b, outs_nil, q_ok', qo_ok', startT, t_bl, va_nil, va_v, vfR_ret, vfn, vs_next', vs_ret', yX0, yXs, y_var, ya_cons, ya_nil, ys_asg, ys_cons, ys_ife, ys_nil, ys_ret, yt_cmp, yv_bi, yv_bin, yv_cmp, yv_cst, yv_neg, yv_tup, yv_var, yx_bin, yx_var, ↓reduceIte, *]
    rw [pq]
theorem part_big (t b : Int) (hb : b ≠ 0) (hs : b.natAbs.log2 < 9000) : m_part.tree [.int t, .int b] = .ok (pq (Rat.divInt t b)) [] := by
  have g0 := gcd_pos_r t b hb
  have gl : Int.gcd t b ≤ b.natAbs := Nat.gcd_le_right _ (by omega)
  have gs : (Int.gcd t b).log2 < 9000 := by
    have h1 : b.natAbs < 2 ^ 9000 := (Nat.log2_lt (by omega)).mp hs
    rw [Nat.log2_lt (by omega)]; exact Nat.lt_of_le_of_lt gl h1
  rw [tr_part]
  unfold ir_part
  by_cases c : b < 0
  · have q := fdiv_neg_num t b c
    have k : -((Int.gcd t b : Nat) : Int) ≠ 0 ∧ (-((Int.gcd t b : Nat) : Int)).natAbs.log2 < 9000 := ⟨by omega, by rw [Int.natAbs_neg]; exact gs⟩
    have k2 := fun i => b_fdiv (i := i) k
    clear hs
    simp (disch := walk_at "d") only [Bool.and_self, Bool.false_eq_true, Bool.not_true, List.cons_append, List.length_cons, List.length_nil, List.map_cons, List.map_nil, List.nil_append, List.replicate, List.set_cons_succ, List.set_cons_zero, Nat.reduceAdd, Nat.reduceLeDiff, Nat.reduceSub, Nat.zero_add, Option.bind_some, Option.map_some, argsV_none, backQ_ok, blQ_some, c_eqi, c_lt, callK_some, callV_K, common_sp, decide_false, decide_true, f0_cons, f0_nil, f0_str, few, io_common, io_is_whole, is_wholeI_sp, negQ_int, okW_some, opQ_some, outs_b, outs_nil, pk_d, pk_nil, q_ok', qo_ok', rQ_some, raisQ_eq, startT, t_bl, ta_nil, ta_v, ub, va_nil, va_v, vfR_ret, vfn, vs_exc', vs_next', vs_ret', wb_b, wb_nil, yX0, yXs, y_var, ya_cons, ya_nil, ys_asg, ys_cons, ys_ife, ys_nil, ys_rais, ys_ret, yt_call, yt_cmp, yt_not, yt_or, yv_bin, yv_call, yv_cmp, yv_cst, yv_neg, yv_tup, yv_var, yx_bin, yx_var, ↓reduceIte, *]
    rw [pq]
  · have q := fdiv_pos_num t b (by omega)
    have k : ((Int.gcd t b : Nat) : Int) ≠ 0 ∧ (((Int.gcd t b : Nat) : Int)).natAbs.log2 < 9000 := ⟨by omega, gs⟩
    have k2 := fun i => b_fdiv (i := i) k
    clear hs
    simp (disch := walk_at "d") only [Bool.and_self, Bool.false_eq_true, Bool.not_true, List.cons_append, List.length_cons, List.length_nil, List.map_cons, List.map_nil, List.nil_append, List.replicate, List.set_cons_succ, List.set_cons_zero, Nat.reduceAdd, Nat.reduceLeDiff, Nat.reduceSub, Nat.zero_add, Option.bind_some, Option.map_some, argsV_none, backQ_ok, blQ_some, c_eqi, c_lt, callK_some, callV_K, common_sp, decide_false, f0_cons, f0_nil, f0_str, few, io_common, io_is_whole, is_wholeI_sp, okW_some, opQ_some, outs_b, outs_nil, pk_d, pk_nil, q_ok', qo_ok', rQ_some, raisQ_eq, startT, t_bl, ta_nil, ta_v, ub, va_nil, va_v, vfR_ret, vfn, vs_exc', vs_next', vs_ret', wb_b, wb_nil, yX0, yXs, y_var, ya_cons, ya_nil, ys_asg, ys_cons, ys_ife, ys_nil, ys_rais, ys_ret, yt_call, yt_cmp, yt_not, yt_or, yv_bin, yv_call, yv_cmp, yv_cst, yv_neg, yv_tup, yv_var, yx_bin, yx_var, ↓reduceIte, *]
    rw [pq]
/-- the class of BadPart, NoShare -/
theorem part0_sp (t : Int) : m_part.tree [.int t, .int 0] = .exc 3 [.str "BadPart"] [] := by
  rw [tr_part]; unfold ir_part; simp (disch := walk_at "d") only [Bool.and_self, Bool.false_eq_true, Bool.not_true, List.cons_append, List.length_cons, List.length_nil, List.map_cons, List.map_nil, List.nil_append, List.replicate, Nat.reduceAdd, Nat.reduceSub, Nat.zero_add, Option.bind_some, Option.map_some, argsV_none, backQ_ok, blQ_some, c_eqi, callK_some, callV_K, decide_true, f0_cons, f0_nil, f0_str, io_is_whole, is_wholeI_sp, okW_some, opQ_some, outs_b, outs_nil, pk_d, pk_nil, q_ok', qo_ok', rQ_some, raisQ_eq, startT, t_bl, ta_nil, ta_v, ub, va_nil, va_v, vfR_exc, vfn, vs_exc', wb_b, wb_nil, yX0, yXs, y_var, ya_cons, ya_nil, ys_cons, ys_ife, ys_nil, ys_rais, yt_call, yt_cmp, yt_not, yt_or, yv_call, yv_cmp, yv_cst, yv_var, yx_var, ↓reduceIte]
theorem lg2 {b : Int} (h0 : b ≠ 0) (h1 : -10000000000000000000000000000000000000000 < b) (h2 : b < 10000000000000000000000000000000000000000) : b.natAbs.log2 < 9000 := by
  have := log_lt (i := b) (k := 140) (by omega)
  omega
theorem low_sp {t b : Int} (h0 : b ≠ 0) (h1 : -10000000000000000000000000000000000000000 < b) (h2 : b < 10000000000000000000000000000000000000000) : m_law_low.tree [.int t, .int b] = .ok (pq (Rat.divInt t b)) [] := low_big t b h0 (lg2 h0 h1 h2)
theorem part_sp {t b : Int} (h0 : b ≠ 0) (h1 : -10000000000000000000000000000000000000000 < b) (h2 : b < 10000000000000000000000000000000000000000) : m_part.tree [.int t, .int b] = .ok (pq (Rat.divInt t b)) [] := part_big t b h0 (lg2 h0 h1 h2)
theorem bits2 {a b : Rat} (ha : Lim a) (hb : Lim b) : ((a.den : Int) * b.den).natAbs.log2 < 9000 := by
  have h := mul_bits ha.1 hb.1
  have e : ((a.den : Int) * b.den).natAbs = a.den * b.den := by rw [Int.natAbs_mul]; rfl
  rw [← e] at h
  have := log_bit h
  omega
theorem mulL {x y : Int} {n m : Nat} (hx : x.natAbs < 2 ^ n) (hy : y.natAbs < 2 ^ m) (h : n + m < 1000000) : binT .Mult (.int x) (.int y) = some (.int (x * y)) := b_mul (mul_sz_ok hx hy h)
theorem nd_mul {a b : Rat} (ha : Lim a) (hb : Lim b) : binT .Mult (.int a.num) (.int (b.den : Int)) = some (.int (a.num * b.den)) := mulL ha.2 (y := (b.den : Int)) hb.1 (by omega)
theorem dd_mul {a b : Rat} (ha : Lim a) (hb : Lim b) : binT .Mult (.int (a.den : Int)) (.int (b.den : Int)) = some (.int (a.den * b.den)) := mulL (x := (a.den : Int)) ha.1 (y := (b.den : Int)) hb.1 (by omega)
theorem nn_mul {a b : Rat} (ha : Lim a) (hb : Lim b) : binT .Mult (.int a.num) (.int b.num) = some (.int (a.num * b.num)) := mulL ha.2 hb.2 (by omega)
theorem dn_mul {a b : Rat} (ha : Lim a) (hb : Lim b) : binT .Mult (.int (a.den : Int)) (.int b.num) = some (.int (a.den * b.num)) := mulL (x := (a.den : Int)) ha.1 hb.2 (by omega)
theorem dd_nz (a b : Rat) : (a.den : Int) * b.den ≠ 0 := by have := den_pos a; have := den_pos b; exact Int.mul_ne_zero (by omega) (by omega)
section
variable {a b : Rat} (ha : Lim a) (hb : Lim b)
include ha hb
theorem plus_sp : m_plus.tree [pq a, pq b] = .ok (pq (a + b)) [] := by
  have k1 := nd_mul ha hb; have k2 := nd_mul hb ha; have k3 := dd_mul ha hb
  have e := part_big (a.num * b.den + b.num * a.den) (a.den * b.den) (dd_nz a b) (bits2 ha hb)
  rw [add_divInt] at e
  rw [tr_plus]; unfold ir_plus; clear ha hb
  simp (disch := walk_at "d") only [List.append_nil, List.getElem?_cons_succ, List.getElem?_cons_zero, List.length_cons, List.length_nil, List.map_cons, List.map_nil, List.replicate, Nat.reduceAdd, Nat.reduceSub, Nat.zero_add, Option.bind_some, Option.map_some, argsV_some, b_add, backQ_ok, callK_some, callV_K, io_part, okW_some, opQ_some, outs_b, outs_nil, pk_nil, pk_p, q_ok', qo_ok', s_pq0, s_pq1, startT, ta_nil, ta_v, vfR_ret, vfn, vs_ret', wb_b, wb_nil, yX0, yXs, y_var, ya_cons, ya_nil, ys_cons, ys_ret, yv_bin, yv_call, yv_cst, yv_sub, yv_var, yx_bin, ↓reduceIte, *]
theorem law_add_sp : m_law_add.tree [pq a, pq b] = .ok (pq (a + b)) [] := by
  have k1 := nd_mul ha hb; have k2 := nd_mul hb ha; have k3 := dd_mul ha hb
  have e := low_big (a.num * b.den + b.num * a.den) (a.den * b.den) (dd_nz a b) (bits2 ha hb)
  rw [add_divInt] at e
  rw [tr_law_add]; unfold ir_law_add; clear ha hb
  simp (disch := walk_at "d") only [List.append_nil, List.length_cons, List.length_nil, List.map_cons, List.map_nil, List.replicate, Nat.reduceAdd, Nat.reduceSub, Nat.zero_add, Option.map_some, argsV_none, b_add, backQ_ok, callK_some, callV_K, io_law_low, okW_some, opQ_some, outs_b, outs_nil, q_ok', qo_ok', s_pq0, s_pq1, startT, ta_nil, ta_v, vfR_ret, vfn, vs_ret', wb_b, wb_nil, yX0, yXs, y_var, ya_cons, ya_nil, ys_cons, ys_ret, yv_bin, yv_call, yv_cst, yv_sub, yv_var, yx_bin, ↓reduceIte, *]
theorem minus_sp : m_minus.tree [pq a, pq b] = .ok (pq (a - b)) [] := by
  have k1 := nd_mul ha hb; have k2 := nd_mul hb ha; have k3 := dd_mul ha hb
  have e := part_big (a.num * b.den - b.num * a.den) (a.den * b.den) (dd_nz a b) (bits2 ha hb)
  rw [sub_divInt] at e
  rw [tr_minus]; unfold ir_minus; clear ha hb
  simp (disch := walk_at "d") only [List.append_nil, List.getElem?_cons_succ, List.getElem?_cons_zero, List.length_cons, List.length_nil, List.map_cons, List.map_nil, List.replicate, Nat.reduceAdd, Nat.reduceSub, Nat.zero_add, Option.bind_some, Option.map_some, argsV_some, b_sub, backQ_ok, callK_some, callV_K, io_part, okW_some, opQ_some, outs_b, outs_nil, pk_nil, pk_p, q_ok', qo_ok', s_pq0, s_pq1, startT, ta_nil, ta_v, vfR_ret, vfn, vs_ret', wb_b, wb_nil, yX0, yXs, y_var, ya_cons, ya_nil, ys_cons, ys_ret, yv_bin, yv_call, yv_cst, yv_sub, yv_var, yx_bin, ↓reduceIte, *]
theorem law_less_sp : m_law_less.tree [pq a, pq b] = .ok (pq (a - b)) [] := by
  have k1 := nd_mul ha hb; have k2 := nd_mul hb ha; have k3 := dd_mul ha hb
  have e := low_big (a.num * b.den - b.num * a.den) (a.den * b.den) (dd_nz a b) (bits2 ha hb)
  rw [sub_divInt] at e
  rw [tr_law_less]; unfold ir_law_less; clear ha hb
  simp (disch := walk_at "d") only [List.append_nil, List.length_cons, List.length_nil, List.map_cons, List.map_nil, List.replicate, Nat.reduceAdd, Nat.reduceSub, Nat.zero_add, Option.map_some, argsV_none, b_sub, backQ_ok, callK_some, callV_K, io_law_low, okW_some, opQ_some, outs_b, outs_nil, q_ok', qo_ok', s_pq0, s_pq1, startT, ta_nil, ta_v, vfR_ret, vfn, vs_ret', wb_b, wb_nil, yX0, yXs, y_var, ya_cons, ya_nil, ys_cons, ys_ret, yv_bin, yv_call, yv_cst, yv_sub, yv_var, yx_bin, ↓reduceIte, *]
theorem times_sp : m_times.tree [pq a, pq b] = .ok (pq (a * b)) [] := by
  have k1 := nn_mul ha hb; have k3 := dd_mul ha hb
  have e := part_big (a.num * b.num) (a.den * b.den) (dd_nz a b) (bits2 ha hb)
  rw [mul_divInt] at e
  rw [tr_times]; unfold ir_times; clear ha hb
  simp (disch := walk_at "d") only [List.append_nil, List.getElem?_cons_succ, List.getElem?_cons_zero, List.length_cons, List.length_nil, List.map_cons, List.map_nil, List.replicate, Nat.reduceAdd, Nat.reduceSub, Nat.zero_add, Option.bind_some, Option.map_some, argsV_some, backQ_ok, callK_some, callV_K, io_part, okW_some, opQ_some, outs_b, outs_nil, pk_nil, pk_p, q_ok', qo_ok', s_pq0, s_pq1, startT, ta_nil, ta_v, vfR_ret, vfn, vs_ret', wb_b, wb_nil, yX0, yXs, y_var, ya_cons, ya_nil, ys_cons, ys_ret, yv_bin, yv_call, yv_cst, yv_sub, yv_var, yx_bin, ↓reduceIte, *]
theorem law_mul_sp : m_law_mul.tree [pq a, pq b] = .ok (pq (a * b)) [] := by
  have k1 := nn_mul ha hb; have k3 := dd_mul ha hb
  have e := low_big (a.num * b.num) (a.den * b.den) (dd_nz a b) (bits2 ha hb)
  rw [mul_divInt] at e
  rw [tr_law_mul]; unfold ir_law_mul; clear ha hb
  simp (disch := walk_at "d") only [List.append_nil, List.length_cons, List.length_nil, List.map_cons, List.map_nil, List.replicate, Nat.reduceAdd, Nat.reduceSub, Nat.zero_add, Option.map_some, argsV_none, backQ_ok, callK_some, callV_K, io_law_low, okW_some, opQ_some, outs_b, outs_nil, q_ok', qo_ok', s_pq0, s_pq1, startT, ta_nil, ta_v, vfR_ret, vfn, vs_ret', wb_b, wb_nil, yX0, yXs, y_var, ya_cons, ya_nil, ys_cons, ys_ret, yv_bin, yv_call, yv_cst, yv_sub, yv_var, yx_bin, ↓reduceIte, *]
end
end L3

namespace L3
open PySem L2
local macro_rules | `(tactic| walk_at "d") => `(tactic| (first | with_reducible assumption | omega | ((with_reducible refine dec_in ?_); decide +kernel)))
local macro_rules | `(tactic| walk_at "okd") => `(tactic| repeat' (first | with_reducible exact okD_int _ _ | with_reducible exact okD_str _ _ | with_reducible exact okD_bl _ _ | with_reducible exact okD_non _ | with_reducible exact okDs_nil _ | with_reducible exact okD_pq _ _ | with_reducible apply okDs_cons | (with_reducible refine okD_tup _ (by simp) ?_) | (with_reducible refine okD_lst _ (by simp) ?_) | (with_reducible refine okD_tab _ (by omega) fun _ _ => ?_)))
theorem mul_sp {x y : Int} (h1 : -1000000000000000000000000000000000000000000000000000000000000 < x) (h2 : x < 1000000000000000000000000000000000000000000000000000000000000) (h3 : -1000000000000000000000000000000000000000000000000000000000000 < y) (h4 : y < 1000000000000000000000000000000000000000000000000000000000000) : binT .Mult (.int x) (.int y) = some (.int (x * y)) :=
  b_mul (by
    have := log_lt (i := x) (k := 200) (by omega)
    have := log_lt (i := y) (k := 200) (by omega)
    omega)
theorem num_ne {q : Rat} (h : q ≠ 0) : q.num ≠ 0 := fun e => h (Rat.num_eq_zero.mp e)
theorem over_sp {a b : Rat} (ha : Lim a) (hb : Lim b) (hn : b.num.natAbs < 2 ^ 4400) (hz : b ≠ 0) : m_over.tree [pq a, pq b] = .ok (pq (a / b)) [] := by
  have k1 := nd_mul ha hb; have k3 := dn_mul ha hb
  have nz := num_ne hz
  have h := mul_bits ha.1 hn
  have e0 : ((a.den : Int) * b.num).natAbs = a.den * b.num.natAbs := by rw [Int.natAbs_mul]; rfl
  rw [← e0] at h
  have l := log_bit h
  have e := part_big (a.num * b.den) (a.den * b.num) (Int.mul_ne_zero (by have := den_pos a; omega) nz) (by omega)
  rw [div_divInt a b nz] at e
  rw [tr_over]; unfold ir_over; clear ha hb h hn l e0
  simp (disch := walk_at "d") only [Bool.and_self, Bool.false_eq_true, List.append_nil, List.getElem?_cons_succ, List.getElem?_cons_zero, List.length_cons, List.length_nil, List.map_cons, List.map_nil, List.replicate, Nat.reduceAdd, Nat.reduceSub, Nat.zero_add, Option.bind_some, Option.map_some, argsV_some, backQ_ok, blQ_some, c_eqi, callK_some, callV_K, decide_false, f0_cons, f0_nil, f0_str, io_part, okW_some, opQ_some, outs_b, outs_nil, pk_d, pk_nil, pk_p, q_ok', qo_ok', rQ_some, raisQ_eq, s_pq0, s_pq1, startT, t_bl, ta_nil, ta_v, ub, va_nil, va_v, vfR_ret, vfn, vs_exc', vs_next', vs_ret', wb_b, wb_nil, yX0, yXs, y_var, ya_cons, ya_nil, ys_cons, ys_ife, ys_nil, ys_rais, ys_ret, yt_cmp, yv_bin, yv_call, yv_cmp, yv_cst, yv_sub, yv_var, yx_bin, ↓reduceIte, *]
theorem over0_sp (a : Rat) : m_over.tree [pq a, pq 0] = .exc 24 [.str "NoShare"] [] := by
  have e : (0 : Rat).num = 0 := rfl
  rw [tr_over]; unfold ir_over
  simp (disch := walk_at "d") only [Bool.and_self, List.append_nil, List.length_cons, List.length_nil, List.map_cons, List.map_nil, List.replicate, Nat.reduceAdd, Nat.reduceSub, Nat.zero_add, Option.bind_some, Option.map_some, blQ_some, c_eqi, decide_true, f0_cons, f0_nil, f0_str, opQ_some, outs_b, outs_nil, pk_d, pk_nil, q_ok', qo_ok', rQ_some, raisQ_eq, s_pq0, startT, t_bl, ub, va_nil, va_v, vfR_exc, vfn, vs_exc', yX0, yXs, y_var, ya_nil, ys_cons, ys_ife, ys_nil, ys_rais, yt_cmp, yv_cmp, yv_cst, yv_sub, yv_var, ↓reduceIte, *]
theorem law_div_sp {a b : Rat} (ha : Lim a) (hb : Lim b) (hn : b.num.natAbs < 2 ^ 4400) (hz : b ≠ 0) : m_law_div.tree [pq a, pq b] = .ok (pq (a / b)) [] := by
  have k1 := nd_mul ha hb; have k3 := dn_mul ha hb
  have nz := num_ne hz
  have h := mul_bits ha.1 hn
  have e0 : ((a.den : Int) * b.num).natAbs = a.den * b.num.natAbs := by rw [Int.natAbs_mul]; rfl
  rw [← e0] at h
  have l := log_bit h
  have e := low_big (a.num * b.den) (a.den * b.num) (Int.mul_ne_zero (by have := den_pos a; omega) nz) (by omega)
  rw [div_divInt a b nz] at e
  rw [tr_law_div]; unfold ir_law_div; clear ha hb h hn l e0
  simp (disch := walk_at "d") only [List.append_nil, List.length_cons, List.length_nil, List.map_cons, List.map_nil, List.replicate, Nat.reduceAdd, Nat.reduceSub, Nat.zero_add, Option.map_some, argsV_none, backQ_ok, callK_some, callV_K, io_law_low, okW_some, opQ_some, outs_b, outs_nil, q_ok', qo_ok', s_pq0, s_pq1, startT, ta_nil, ta_v, vfR_ret, vfn, vs_ret', wb_b, wb_nil, yX0, yXs, y_var, ya_cons, ya_nil, ys_cons, ys_ret, yv_bin, yv_call, yv_cst, yv_sub, yv_var, yx_bin, ↓reduceIte, *]
/-- less, the same, greater -/
def ordR (a b : Rat) : Int := if a = b then 0 else if a < b then -1 else 1
theorem cross_eq (a b : Rat) : a.num * b.den = b.num * a.den ↔ a = b := by
  constructor
  · intro h
    have := (Rat.divInt_eq_divInt_iff (by have := den_pos a; omega) (by have := den_pos b; omega)).mpr h
    rwa [Rat.num_divInt_den, Rat.num_divInt_den] at this
  · intro h; subst h; rfl
theorem cross_lt (a b : Rat) : a.num * b.den < b.num * a.den ↔ a < b := by
  rw [Rat.lt_iff]
theorem order_sp {a b : Rat} (ha : Lim a) (hb : Lim b) : m_order.tree [pq a, pq b] = .ok (.int (ordR a b)) [] := by
  have k1 := nd_mul ha hb; have k3 := nd_mul hb ha
  have e1 := cross_eq a b
  have e2 := cross_lt a b
  rw [tr_order]; unfold ir_order ordR; clear ha hb
  by_cases c1 : a = b
  · rw [if_pos c1]
    have x1 := e1.mpr c1
    clear e1 e2 c1
    simp (disch := walk_at "d") only [List.cons_append, List.length_cons, List.length_nil, List.map_cons, List.map_nil, List.nil_append, List.replicate, List.set_cons_succ, List.set_cons_zero, Nat.reduceAdd, Nat.reduceSub, Nat.zero_add, blQ_some, c_eqi, decide_true, opQ_some, outs_b, outs_nil, q_ok', qo_ok', s_pq0, s_pq1, startT, t_bl, vfR_ret, vfn, vs_next', vs_ret', yX0, yXs, y_var, ys_cons, ys_ife, ys_nil, ys_par, ys_ret, yt_cmp, yv_bin, yv_cmp, yv_cst, yv_sub, yv_var, ↓reduceIte, *]
  · rw [if_neg c1]
    have x1 : ¬ (a.num * b.den = b.num * a.den) := fun h => c1 (e1.mp h)
    by_cases c2 : a < b
    · rw [if_pos c2]
      have x2 := e2.mpr c2
      clear e1 e2 c1 c2
      simp (disch := walk_at "d") only [Bool.false_eq_true, Int.reduceNeg, List.cons_append, List.length_cons, List.length_nil, List.map_cons, List.map_nil, List.nil_append, List.replicate, List.set_cons_succ, List.set_cons_zero, Nat.reduceAdd, Nat.reduceSub, Nat.zero_add, blQ_some, c_eqi, c_lt, decide_false, decide_true, negQ_int, opQ_some, outs_b, outs_nil, q_ok', qo_ok', s_pq0, s_pq1, startT, t_bl, vfR_ret, vfn, vs_next', vs_ret', yX0, yXs, y_var, ys_cons, ys_ife, ys_nil, ys_par, ys_ret, yt_cmp, yv_bin, yv_cmp, yv_cst, yv_ife, yv_neg, yv_sub, yv_var, ↓reduceIte, *]
    · rw [if_neg c2]
      have x2 : ¬ (a.num * b.den < b.num * a.den) := fun h => c2 (e2.mp h)
      clear e1 e2 c1 c2
      simp (disch := walk_at "d") only [Bool.false_eq_true, Int.reduceNeg, List.cons_append, List.length_cons, List.length_nil, List.map_cons, List.map_nil, List.nil_append, List.replicate, List.set_cons_succ, List.set_cons_zero, Nat.reduceAdd, Nat.reduceSub, Nat.zero_add, blQ_some, c_eqi, c_lt, decide_false, negQ_int, opQ_some, outs_b, outs_nil, q_ok', qo_ok', s_pq0, s_pq1, startT, t_bl, vfR_ret, vfn, vs_next', vs_ret', yX0, yXs, y_var, ys_cons, ys_ife, ys_nil, ys_par, ys_ret, yt_cmp, yv_bin, yv_cmp, yv_cst, yv_ife, yv_neg, yv_sub, yv_var, ↓reduceIte, *]
theorem great_ex (φ : Fw) : ∃ (v : Int) (φ' : Fw), m_law_great.tree [φ.t] = .ok (.int v) [φ'.t] ∧ -1000000000000000000000000000000 ≤ v ∧ v ≤ 1000000000000000000000000000000 := by
  have h := dr_lt φ (n := 5) (by omega) (by omega)
  have d1 := draw_sp φ (n := 5) (by omega) (by omega)
  generalize dr φ 5 = r at *
  generalize dF φ 5 = φ1 at *
  have key : ∀ s : Int, 0 < s → s ≤ 1000000000000000000000000000000 → atI [T.int 3, T.int 13, T.int 1000, T.int 1000000000, T.int 1000000000000000000000000000000] (r : Int) = some (.int s) → ∃ (v : Int) (φ' : Fw), m_law_great.tree [φ.t] = .ok (.int v) [φ'.t] ∧ -1000000000000000000000000000000 ≤ v ∧ v ≤ 1000000000000000000000000000000 := by
    intro s s0 s1 es
    have h2 := dr_lt φ1 (n := 2 * s + 1) (by omega) (by omega)
    refine ⟨(dr φ1 (2 * s + 1) : Int) - s, dF φ1 (2 * s + 1), ?_, by omega, by omega⟩
    rw [tr_law_great]; unfold ir_law_great
    clear h h2
    simp (disch := walk_at "d") only [List.cons_append, List.length_cons, List.length_nil, List.map_cons, List.map_nil, List.nil_append, List.replicate, List.set_cons_succ, List.set_cons_zero, Nat.reduceAdd, Nat.reduceLeDiff, Nat.reduceSub, Nat.zero_add, Option.bind_some, Option.map_some, argsV_none, b_add, b_sub, backQ_ok, callK_some, callV_K, draw_sp, few, flQ, flat, getP_nil, getR_slt, io_law_draw, mul_sp, okW_some, opQ_some, outs_nil, outs_o, p30, p9, q_ok', qo_ok', s_lst, setP_nil, setR_slt, slt0, startT, ta_nil, ta_p, ta_v, va_nil, va_v, vfR_ret, vfn, vs_next', vs_ret', wb_b, wb_nil, wb_o, yX0, yXs, y_var, ya_cons, ya_nil, ys_asg, ys_cons, ys_ret, yv_bin, yv_call, yv_cst, yv_fl, yv_lst, yv_sub, yv_var, yx_bin, yx_cst, yx_rv, ↓reduceIte, *]
  match r, h, key with
  | 0, _, key => exact key 3 (by decide) (by decide) rfl
  | 1, _, key => exact key 13 (by decide) (by decide) rfl
  | 2, _, key => exact key 1000 (by decide) (by decide) rfl
  | 3, _, key => exact key 1000000000 (by decide) (by decide) rfl
  | 4, _, key => exact key 1000000000000000000000000000000 (by decide) (by decide) rfl
  | r + 5, h, _ => omega
noncomputable def gr (φ : Fw) : Int := (great_ex φ).choose
noncomputable def grF (φ : Fw) : Fw := (great_ex φ).choose_spec.choose
theorem great_sp (φ : Fw) : m_law_great.tree [φ.t] = .ok (.int (gr φ)) [(grF φ).t] := (great_ex φ).choose_spec.choose_spec.1
theorem gr_lim (φ : Fw) : -1000000000000000000000000000000 ≤ gr φ ∧ gr φ ≤ 1000000000000000000000000000000 := (great_ex φ).choose_spec.choose_spec.2
/-- a part of up to thirty figures above and below -/
def Grt (q : Rat) : Prop := q.num.natAbs ≤ 1000000000000000000000000000000 ∧ q.den ≤ 1000000000000000000000000000000
theorem any_part_ex (φ : Fw) : ∃ (q : Rat) (φ' : Fw), m_law_any_part.tree [φ.t] = .ok (pq q) [φ'.t] ∧ Grt q := by
  have h := dr_lt φ (n := 7) (by omega) (by omega)
  have d1 := draw_sp φ (n := 7) (by omega) (by omega)
  generalize dr φ 7 = r at *
  generalize dF φ 7 = φ1 at *
  have key : ∀ s : Int, 0 < s → s ≤ 1000000000000000000000000000000 → atI [T.int 1, T.int 2, T.int 3, T.int 12, T.int 1000, T.int 1000000000, T.int 1000000000000000000000000000000] (r : Int) = some (.int s) → ∃ (q : Rat) (φ' : Fw), m_law_any_part.tree [φ.t] = .ok (pq q) [φ'.t] ∧ Grt q := by
    intro s s0 s1 es
    have g1 := gr_lim φ1
    have h2 := dr_lt (grF φ1) (n := s) (by omega) (by omega)
    refine ⟨Rat.divInt (gr φ1) (1 + (dr (grF φ1) s : Int)), dF (grF φ1) s, ?_, ?_, ?_⟩
    · rw [tr_law_any_part]; unfold ir_law_any_part
      have l := low_sp (t := gr φ1) (b := 1 + (dr (grF φ1) s : Int)) (by omega) (by omega) (by omega)
      clear h h2 g1
      simp (disch := walk_at "d") only [List.cons_append, List.length_cons, List.length_nil, List.map_cons, List.map_nil, List.nil_append, List.replicate, List.set_cons_succ, List.set_cons_zero, Nat.reduceAdd, Nat.reduceLeDiff, Nat.reduceSub, Nat.zero_add, Option.bind_some, Option.map_some, argsV_none, b_add, backQ_ok, callK_some, callV_K, draw_sp, few, flQ, flat, getP_nil, getR_slt, great_sp, io_law_draw, io_law_great, io_law_low, okW_some, opQ_some, outs_nil, outs_o, p30, p9, q_ok', qo_ok', s_lst, setP_nil, setR_slt, slt0, startT, ta_nil, ta_p, ta_v, va_nil, va_v, vfR_ret, vfn, vs_next', vs_ret', wb_b, wb_nil, wb_o, yX0, yXs, y_var, ya_cons, ya_nil, ys_asg, ys_cons, ys_ret, yv_bin, yv_call, yv_cst, yv_fl, yv_lst, yv_sub, yv_var, yx_bin, yx_call, yx_cst, yx_rv, yx_var, ↓reduceIte, *]
    · rw [Rat.num_divInt, Int.sign_eq_one_of_pos (by omega), Int.one_mul]
      refine Nat.le_trans (Int.natAbs_ediv_le_natAbs _ _) (by omega)
    · rw [Rat.den_divInt, if_neg (by omega)]
      refine Nat.le_trans (Nat.div_le_self _ _) (by omega)
  match r, h, key with
  | 0, _, key => exact key 1 (by decide) (by decide) rfl
  | 1, _, key => exact key 2 (by decide) (by decide) rfl
  | 2, _, key => exact key 3 (by decide) (by decide) rfl
  | 3, _, key => exact key 12 (by decide) (by decide) rfl
  | 4, _, key => exact key 1000 (by decide) (by decide) rfl
  | 5, _, key => exact key 1000000000 (by decide) (by decide) rfl
  | 6, _, key => exact key 1000000000000000000000000000000 (by decide) (by decide) rfl
  | r + 7, h, _ => omega
noncomputable def ap (φ : Fw) : Rat := (any_part_ex φ).choose
noncomputable def apF (φ : Fw) : Fw := (any_part_ex φ).choose_spec.choose
theorem any_part_sp (φ : Fw) : m_law_any_part.tree [φ.t] = .ok (pq (ap φ)) [(apF φ).t] := (any_part_ex φ).choose_spec.choose_spec.1
theorem ap_lim (φ : Fw) : Grt (ap φ) := (any_part_ex φ).choose_spec.choose_spec.2
end L3

namespace L3
open PySem L2
local macro_rules | `(tactic| walk_at "d") => `(tactic| (first | with_reducible assumption | omega | ((with_reducible refine dec_in ?_); decide +kernel)))
local macro_rules | `(tactic| walk_at "okd") => `(tactic| repeat' (first | with_reducible exact okD_int _ _ | with_reducible exact okD_str _ _ | with_reducible exact okD_bl _ _ | with_reducible exact okD_non _ | with_reducible exact okDs_nil _ | with_reducible exact okD_pq _ _ | with_reducible apply okDs_cons | (with_reducible refine okD_tup _ (by simp) ?_) | (with_reducible refine okD_lst _ (by simp) ?_) | (with_reducible refine okD_tab _ (by omega) fun _ _ => ?_)))
/-- a thing that is no whole number -/
def Odd (t : T) : Prop := m_is_whole.tree [t] = .ok (.bl false) []
theorem strange_ex (r : Nat) : ∃ s, m_law_strange.tree [.int r] = .ok s [] ∧ Odd s := by
  have h : r % 8 < 8 := Nat.mod_lt _ (by decide)
  have e := b_mod (i := (r : Int)) (j := 8) (by decide)
  have e2 : ((r : Int)).fmod 8 = ((r % 8 : Nat) : Int) := by
    rw [Int.fmod_eq_emod_of_nonneg _ (by omega)]; simp
  rw [e2] at e
  generalize r % 8 = k at *
  have key : ∀ s : T, atI [T.bl true, T.bl false, .non, .str "3", .lst [.int 1], .tup [.int 1, .int 1], .str "", .lst []] (k : Int) = some s → Odd s → ∃ s, m_law_strange.tree [.int r] = .ok s [] ∧ Odd s := by
    intro s es os
    refine ⟨s, ?_, os⟩
    rw [tr_law_strange]; unfold ir_law_strange
    clear e2 os
    simp (disch := walk_at "d") only [List.append_nil, List.length_cons, List.length_nil, List.map_cons, List.map_nil, List.replicate, Nat.reduceAdd, Nat.reduceLeDiff, Nat.reduceSub, Nat.zero_add, Option.map_some, few, opQ_some, outs_b, outs_nil, q_ok', qo_ok', s_lst, startT, va_nil, va_v, vfR_ret, vfn, vs_ret', yX0, y_var, ya_cons, ya_nil, ys_cons, ys_ret, yv_bin, yv_cst, yv_lst, yv_sub, yv_tup, yv_var, yx_cst, yx_lst, yx_tup, ↓reduceIte, *]
  match k, h, key with
  | 0, _, key => exact key _ rfl (is_wholeB_sp _)
  | 1, _, key => exact key _ rfl (is_wholeB_sp _)
  | 2, _, key => exact key _ rfl is_wholeN_sp
  | 3, _, key => exact key _ rfl (is_wholeS_sp _)
  | 4, _, key => exact key _ rfl (is_wholeL_sp _)
  | 5, _, key => exact key _ rfl (is_wholeT_sp _)
  | 6, _, key => exact key _ rfl (is_wholeS_sp _)
  | 7, _, key => exact key _ rfl (is_wholeL_sp _)
  | r + 8, h, _ => omega
noncomputable def strg (r : Nat) : T := (strange_ex r).choose
theorem strange_sp (r : Nat) : m_law_strange.tree [.int r] = .ok (strg r) [] := (strange_ex r).choose_spec.1
theorem strg_odd (r : Nat) : m_is_whole.tree [strg r] = .ok (.bl false) [] := (strange_ex r).choose_spec.2
theorem partL {s t : T} (h : m_is_whole.tree [s] = .ok (.bl false) []) : m_part.tree [s, t] = .exc 3 [.str "BadPart"] [] := by
  rw [tr_part]; unfold ir_part; simp (disch := walk_at "d") only [Bool.and_self, Bool.not_false, List.cons_append, List.length_cons, List.length_nil, List.map_cons, List.map_nil, List.nil_append, List.replicate, Nat.reduceAdd, Nat.reduceSub, Nat.zero_add, Option.bind_some, Option.map_some, argsV_none, backQ_ok, callK_some, callV_K, f0_cons, f0_nil, f0_str, io_is_whole, okW_some, opQ_some, outs_b, outs_nil, pk_d, pk_nil, q_ok', qo_ok', rQ_some, raisQ_eq, startT, t_bl, ta_nil, ta_v, ub, va_nil, va_v, vfR_exc, vfn, vs_exc', wb_b, wb_nil, yX0, y_var, ya_cons, ya_nil, ys_cons, ys_ife, ys_nil, ys_rais, yt_call, yt_cmp, yt_not, yt_or, yv_call, yv_cmp, yv_cst, yv_var, yx_var, ↓reduceIte, *]
theorem partR {s : Int} {t : T} (h : m_is_whole.tree [t] = .ok (.bl false) []) : m_part.tree [.int s, t] = .exc 3 [.str "BadPart"] [] := by
  rw [tr_part]; unfold ir_part; simp (disch := walk_at "d") only [Bool.and_self, Bool.false_eq_true, Bool.not_false, Bool.not_true, List.cons_append, List.length_cons, List.length_nil, List.map_cons, List.map_nil, List.nil_append, List.replicate, Nat.reduceAdd, Nat.reduceSub, Nat.zero_add, Option.bind_some, Option.map_some, argsV_none, backQ_ok, callK_some, callV_K, f0_cons, f0_nil, f0_str, io_is_whole, is_wholeI_sp, okW_some, opQ_some, outs_b, outs_nil, pk_d, pk_nil, q_ok', qo_ok', rQ_some, raisQ_eq, startT, t_bl, ta_nil, ta_v, ub, va_nil, va_v, vfR_exc, vfn, vs_exc', wb_b, wb_nil, yX0, yXs, y_var, ya_cons, ya_nil, ys_cons, ys_ife, ys_nil, ys_rais, yt_call, yt_cmp, yt_not, yt_or, yv_call, yv_cmp, yv_cst, yv_var, yx_var, ↓reduceIte, *]
theorem refused {s t : T} (h : m_part.tree [s, t] = .exc 3 [.str "BadPart"] []) : m_law_refused.tree [s, t] = .ok (.bl true) [] := by
  rw [tr_law_refused]; unfold ir_law_refused
  simp (disch := walk_at "d") only [Bool.and_self, Bool.false_eq_true, Bool.not_true, List.cons_append, List.getElem?_cons_succ, List.getElem?_cons_zero, List.length_cons, List.length_nil, List.lookup_cons, List.map_cons, List.map_nil, List.nil_append, List.replicate, List.set_cons_succ, List.set_cons_zero, Nat.reduceAdd, Nat.reduceSub, Nat.zero_add, Option.bind_some, Option.map_some, anyN_t, argsV_some, backQ_exc, beq_self_eq_true, blQ_some, boolQ_bl, c_eqs, callK_some, callV_K, decide_true, exW_some, f0_cons, f0_nil, f0_str, io_part, opQ_some, outs_b, outs_nil, pk_nil, pk_p, q_ok', qo_exc', qo_ok', startT, subN_f, subN_t, t_bl, ta_nil, ta_v, uv_some, vc_exc, vfR_ret, vfn, vh_cons, vs_exc', vs_next', vs_ret', vu_ret, wb_b, wb_nil, xfT, yX0, yXs, y_var, ya_cons, ya_nil, ys_cons, ys_expr, ys_ife, ys_nil, ys_ret, ys_tr, yt_not, yt_or, yt_xis, yv_and, yv_call, yv_cmp, yv_cst, yv_var, yv_xf, yv_xis, yx_var, ↓reduceIte, *]
end L3

namespace L3
open PySem L2
local macro_rules | `(tactic| walk_at "d") => `(tactic| (first | with_reducible assumption | omega | ((with_reducible refine dec_in ?_); decide +kernel)))
local macro_rules | `(tactic| walk_at "okd") => `(tactic| repeat' (first | with_reducible exact okD_int _ _ | with_reducible exact okD_str _ _ | with_reducible exact okD_bl _ _ | with_reducible exact okD_non _ | with_reducible exact okDs_nil _ | with_reducible exact okD_pq _ _ | with_reducible apply okDs_cons | (with_reducible refine okD_tup _ (by simp) ?_) | (with_reducible refine okD_lst _ (by simp) ?_) | (with_reducible refine okD_tab _ (by omega) fun _ _ => ?_)))
theorem k01_tree (ns : List Int) : m_law_k01.tree [.rol (ns.map T.int)] = .ok (.bl true) [] := by
  have h := dr_lt (grF (grF (fl0 ns))) (n := 6) (by omega) (by omega)
  have d1 := draw_sp (grF (grF (fl0 ns))) (n := 6) (by omega) (by omega)
  have g1 := gr_lim (fl0 ns)
  have g2 := gr_lim (grF (fl0 ns))
  have e1 := great_sp (fl0 ns)
  have e2 := great_sp (grF (fl0 ns))
  generalize gr (fl0 ns) = a at *
  generalize gr (grF (fl0 ns)) = b at *
  generalize grF (grF (fl0 ns)) = φ2 at *
  generalize dr φ2 6 = r at *
  have e3 := draw_sp (dF φ2 6) (n := 8) (by omega) (by omega)
  have so := strg_odd (dr (dF φ2 6) 8)
  have e4 := strange_sp (dr (dF φ2 6) 8)
  generalize dF (dF φ2 6) 8 = φ3 at *
  generalize strg (dr (dF φ2 6) 8) = s at *
  generalize dr (dF φ2 6) 8 = r8 at *
  have r1 := fun t => refused (partL (t := t) so)
  have r2 := fun x => refused (partR (s := x) so)
  have r3 := fun x => refused (part0_sp x)
  have key : ∀ m : Int, 0 < m → m ≤ 100000000000000000000 → atI [T.int 1, T.int 1, T.int 2, T.int 3, T.int 30030, T.int 100000000000000000000] (r : Int) = some (.int m) → m_law_k01.tree [.rol (ns.map T.int)] = .ok (.bl true) [] := by
    intro m m0 m1 em
    have p1 := part_sp (t := a * m) (b := 1) (by omega) (by omega) (by omega)
    have k1 : Rat.divInt (a * m) 1 = ((a * m : Int) : Rat) := Rat.num_divInt_den ((a * m : Int) : Rat)
    have ma : binT .Mult (.int a) (.int m) = some (.int (a * m)) := mul_sp (by omega) (by omega) (by omega) (by omega)
    have mb : binT .Mult (.int b) (.int m) = some (.int (b * m)) := mul_sp (by omega) (by omega) (by omega) (by omega)
    have s1 := same_sp (t := pq ((a * m : Int) : Rat)) (by walk_at "okd")
    have pi := pq_int (a * m)
    rw [k1] at p1
    rw [tr_law_k01]; unfold ir_law_k01
    clear h
    by_cases c : (dr φ3 9 : Int) = 0
    · simp (disch := walk_at "d") only [Bool.false_eq_true, Bool.not_true, List.cons_append, List.getElem?_cons_zero, List.length_cons, List.length_nil, List.map_cons, List.map_nil, List.nil_append, List.replicate, List.set_cons_succ, List.set_cons_zero, Nat.reduceAdd, Nat.reduceLeDiff, Nat.reduceSub, Nat.zero_add, Option.bind_some, Option.map_some, argsV_none, argsV_some, backQ_ok, blQ_some, c_eqi, callK_some, callV_K, decide_true, draw_sp, few, flQ, flat, flow_sp, getP_nil, getR_slt, io_law_draw, io_law_flow, io_law_great, io_law_refused, io_law_same, io_law_strange, io_part, okW_some, opQ_some, outs_b, outs_nil, p20, pk_d, pk_nil, pk_p, q_ok', qo_ok', s_lst, setP_nil, setR_slt, slt0, slts, startT, t_bl, ta_nil, ta_p, ta_v, ub, va_nil, va_v, vfR_ret, vfn, vs_next', vs_ret', wb_b, wb_nil, wb_o, yX0, yXs, y_var, ya_cons, ya_nil, ys_asg, ys_cons, ys_ife, ys_nil, ys_ret, yt_call, yt_cmp, yt_not, yt_or, yv_bin, yv_call, yv_cmp, yv_cst, yv_fl, yv_lst, yv_sub, yv_tup, yv_var, yx_bin, yx_call, yx_cst, yx_rv, yx_tup, yx_var, ↓reduceIte, *]
    · by_cases c2 : b = 0
      · simp (disch := walk_at "d") only [Bool.false_eq_true, Bool.not_true, List.cons_append, List.getElem?_cons_zero, List.length_cons, List.length_nil, List.map_cons, List.map_nil, List.nil_append, List.replicate, List.set_cons_succ, List.set_cons_zero, Nat.reduceAdd, Nat.reduceLeDiff, Nat.reduceSub, Nat.zero_add, Option.bind_some, Option.map_some, argsV_none, argsV_some, backQ_ok, blQ_some, c_eqi, callK_some, callV_K, decide_false, decide_true, draw_sp, few, flQ, flat, flow_sp, getP_nil, getR_slt, io_law_draw, io_law_flow, io_law_great, io_law_refused, io_law_same, io_law_strange, io_part, okW_some, opQ_some, outs_b, outs_nil, p20, pk_d, pk_nil, pk_p, q_ok', qo_ok', s_lst, setP_nil, setR_slt, slt0, slts, startT, t_bl, ta_nil, ta_p, ta_v, ub, va_nil, va_v, vfR_ret, vfn, vs_next', vs_ret', wb_b, wb_nil, wb_o, yX0, yXs, y_var, ya_cons, ya_nil, ys_asg, ys_cons, ys_ife, ys_nil, ys_ret, yt_call, yt_cmp, yt_not, yt_or, yv_bin, yv_call, yv_cmp, yv_cst, yv_fl, yv_lst, yv_sub, yv_tup, yv_var, yx_bin, yx_call, yx_cst, yx_rv, yx_tup, yx_var, ↓reduceIte, *]
      · have bm : b * m ≠ 0 := Int.mul_ne_zero c2 (by omega)
        have l1 := log_lt (i := b * m) (k := 200) (by 
          rw [Int.natAbs_mul]
          calc b.natAbs * m.natAbs ≤ 1000000000000000000000000000000 * 100000000000000000000 := Nat.mul_le_mul (by omega) (by omega)
            _ < _ := by decide)
        have p2 := part_big (a * m) (b * m) bm (by omega)
        have l2 := low_sp (t := a) (b := b) c2 (by omega) (by omega)
        have k2 : Rat.divInt (a * m) (b * m) = Rat.divInt a b := Rat.divInt_mul_right (by omega)
        rw [k2] at p2
        have s2 := same_sp (t := pq (Rat.divInt a b)) (by walk_at "okd")
        clear l1 bm
        simp (disch := walk_at "d") only [Bool.false_eq_true, Bool.not_true, List.cons_append, List.getElem?_cons_succ, List.getElem?_cons_zero, List.length_cons, List.length_nil, List.map_cons, List.map_nil, List.nil_append, List.replicate, List.set_cons_succ, List.set_cons_zero, Nat.reduceAdd, Nat.reduceLeDiff, Nat.reduceSub, Nat.zero_add, Option.bind_some, Option.map_some, argsV_none, argsV_some, backQ_ok, blQ_some, c_eqi, callK_some, callV_K, decide_false, draw_sp, few, flQ, flat, flow_sp, getP_nil, getR_slt, io_law_draw, io_law_flow, io_law_great, io_law_low, io_law_refused, io_law_same, io_law_strange, io_part, okW_some, opQ_some, outs_b, outs_nil, p20, pk_d, pk_nil, pk_p, q_ok', qo_ok', s_lst, setP_nil, setR_slt, slt0, slts, startT, t_bl, ta_nil, ta_p, ta_v, ub, va_nil, va_v, vfR_ret, vfn, vs_next', vs_ret', wb_b, wb_nil, wb_o, yX0, yXs, y_var, ya_cons, ya_nil, ys_asg, ys_cons, ys_ife, ys_nil, ys_ret, yt_call, yt_cmp, yt_not, yt_or, yv_bin, yv_call, yv_cmp, yv_cst, yv_fl, yv_lst, yv_sub, yv_tup, yv_var, yx_bin, yx_call, yx_cst, yx_rv, yx_tup, yx_var, ↓reduceIte, *]
  match r, h, key with
  | 0, _, key => exact key 1 (by decide) (by decide) rfl
  | 1, _, key => exact key 1 (by decide) (by decide) rfl
  | 2, _, key => exact key 2 (by decide) (by decide) rfl
  | 3, _, key => exact key 3 (by decide) (by decide) rfl
  | 4, _, key => exact key 30030 (by decide) (by decide) rfl
  | 5, _, key => exact key 100000000000000000000 (by decide) (by decide) rfl
  | r + 6, h, _ => omega
end L3

set_option maxHeartbeats 0
namespace Glue
open PySem L2 L3
def top (i : Nat) : Stmt := PySem.Challenge.pw_lagwedge_k01_lowest_terms.main.body.getD i (.Pass ⟨0, 0, 0, 0⟩)
def low (s : Stmt) (j : Nat) : Stmt := match s with
  | .ClassDef _ _ _ b _ _ _ _ _ _ _ => b.getD j (.Pass ⟨0, 0, 0, 0⟩)
  | _ => .Pass ⟨0, 0, 0, 0⟩
def d__law_flow : He.DefD := ⟨("_law_flow", none), "_law_flow", "_law_flow", defArgs (top 9), defBody (top 9), defScope (top 9), [], []⟩
def d__law_draw : He.DefD := ⟨("_law_draw", none), "_law_draw", "_law_draw", defArgs (top 10), defBody (top 10), defScope (top 10), [], []⟩
def d__law_great : He.DefD := ⟨("_law_great", none), "_law_great", "_law_great", defArgs (top 11), defBody (top 11), defScope (top 11), [], []⟩
def d__law_strange : He.DefD := ⟨("_law_strange", none), "_law_strange", "_law_strange", defArgs (top 12), defBody (top 12), defScope (top 12), [], []⟩
def d_is_whole : He.DefD := ⟨("is_whole", none), "is_whole", "is_whole", defArgs (top 5), defBody (top 5), defScope (top 5), [], []⟩
def d_common : He.DefD := ⟨("common", none), "common", "common", defArgs (top 6), defBody (top 6), defScope (top 6), [], []⟩
def d_part : He.DefD := ⟨("part", none), "part", "part", defArgs (top 7), defBody (top 7), defScope (top 7), [(.int 1)], []⟩
def d__law_refused : He.DefD := ⟨("_law_refused", none), "_law_refused", "_law_refused", defArgs (top 15), defBody (top 15), defScope (top 15), [], []⟩
def d__law_same : He.DefD := ⟨("_law_same", none), "_law_same", "_law_same", defArgs (top 13), defBody (top 13), defScope (top 13), [], []⟩
def d__law_low : He.DefD := ⟨("_law_low", none), "_law_low", "_law_low", defArgs (top 14), defBody (top 14), defScope (top 14), [], []⟩
def d_law : He.DefD := ⟨("law", none), "law", "law", defArgs (top 16), defBody (top 16), defScope (top 16), [], []⟩
def d_LagError___init__ : He.DefD := ⟨("LagError", some "__init__"), "__init__", "LagError.__init__", defArgs (low (top 1) 0), defBody (low (top 1) 0), defScope (low (top 1) 0), [], []⟩
def d_BadPart___init__ : He.DefD := ⟨("BadPart", some "__init__"), "__init__", "BadPart.__init__", defArgs (low (top 2) 0), defBody (low (top 2) 0), defScope (low (top 2) 0), [], []⟩
def fnL : List He.DefD := [d__law_flow, d__law_draw, d__law_great, d__law_strange, d_is_whole, d_common, d_part, d__law_refused, d__law_same, d__law_low, d_law, d_LagError___init__, d_BadPart___init__]
def faL : List He.Fa := [.glo "_law_flow", .glo "_law_draw", .glo "_law_great", .glo "_law_strange", .glo "is_whole", .glo "common", .glo "part", .glo "_law_refused", .glo "_law_same", .glo "_law_low", .glo "law", .free "abs", .free "bool", .free "int", .free "isinstance", .free "len", .free "list", .free "range", .free "str", .free "tuple", .glo "BadPart", .glo "LagError", .glo "Unlike", .meth "LagError" "__init__", .noat "LagError" "word", .meth "BadPart" "__init__", .noat "BadPart" "word"]
def okL (K : Frag) : Bool := (faL.all fun f => f.ok K) && exB K (He.ga K "LagError") mVE "ValueError.__new__" && exB K (He.ga K "BadPart") mVE "ValueError.__new__" && upKB K (He.ga K "LagError") (He.ma K (He.ga K "LagError") "__init__") && xaB K
abbrev R : PySem.W.OpenRow := PySem.W.OpenLaw.row PySem.Challenge.rw_lagwedge_k01_lowest_terms
abbrev hk : PySem.W.Hook := hookX 5 okL fnL
def ob (s : PySem.W.SharedT) : He.AlD := obsXG 5 okL fnL (HandSHeadRun.getT s)
theorem ob_eq (s : PySem.W.SharedT) : ob s = hk.obs s.abs := obsXG_eq (HandSHeadRun.getT_eq s)
def loose : List PySem.Str := [PySem.Str.ofString "LagError", PySem.Str.ofString "BadPart", PySem.Str.ofString "Unlike", PySem.Str.ofString "is_whole", PySem.Str.ofString "common", PySem.Str.ofString "part", PySem.Str.ofString "_law_flow", PySem.Str.ofString "_law_draw", PySem.Str.ofString "_law_great", PySem.Str.ofString "_law_strange", PySem.Str.ofString "_law_same", PySem.Str.ofString "_law_low", PySem.Str.ofString "_law_refused"]
theorem run (w : World) : HandSHeadRun.RunEq R (PySem.W.view R.prog [16]) hk ob 6000 loose w := by
  intro os
  kernel_rfl
abbrev N__law_flow : List Str := ["_law_script"]
theorem sc__law_flow : FnScope N__law_flow ["_law_script"] (defScope (top 9)) := sc_of (by decide +kernel)
theorem ck__law_flow : chkB N__law_flow (defScope (top 9)) true (erS ir_law_flow) (defBody (top 9)) = true := by decide +kernel
abbrev N__law_draw : List Str := ["_law_flow_here", "_law_size", "_law_found", "_law_cell", "_law_here", "_law_mixed"]
theorem sc__law_draw : FnScope N__law_draw ["_law_flow_here", "_law_size"] (defScope (top 10)) := sc_of (by decide +kernel)
theorem ck__law_draw : chkB N__law_draw (defScope (top 10)) true (erS ir_law_draw) (defBody (top 10)) = true := by decide +kernel
abbrev N__law_great : List Str := ["_law_flow_here", "_law_size"]
theorem sc__law_great : FnScope N__law_great ["_law_flow_here"] (defScope (top 11)) := sc_of (by decide +kernel)
theorem ck__law_great : chkB N__law_great (defScope (top 11)) true (erS ir_law_great) (defBody (top 11)) = true := by decide +kernel
abbrev N__law_strange : List Str := ["_law_k"]
theorem sc__law_strange : FnScope N__law_strange ["_law_k"] (defScope (top 12)) := sc_of (by decide +kernel)
theorem ck__law_strange : chkB N__law_strange (defScope (top 12)) true (erS ir_law_strange) (defBody (top 12)) = true := by decide +kernel
abbrev N_is_whole : List Str := ["thing"]
theorem sc_is_whole : FnScope N_is_whole ["thing"] (defScope (top 5)) := sc_of (by decide +kernel)
theorem ck_is_whole : chkB N_is_whole (defScope (top 5)) true (erS ir_is_whole) (defBody (top 5)) = true := by decide +kernel
abbrev N_common : List Str := ["one", "other"]
theorem sc_common : FnScope N_common ["one", "other"] (defScope (top 6)) := sc_of (by decide +kernel)
theorem ck_common : chkB N_common (defScope (top 6)) true (erS ir_common) (defBody (top 6)) = true := by decide +kernel
abbrev N_part : List Str := ["top", "bottom", "by"]
theorem sc_part : FnScope N_part ["top", "bottom"] (defScope (top 7)) := sc_of (by decide +kernel)
theorem ck_part : chkB N_part (defScope (top 7)) true (erS ir_part) (defBody (top 7)) = true := by decide +kernel
abbrev N__law_refused : List Str := ["_law_top", "_law_bottom", "e"]
theorem sc__law_refused : FnScope N__law_refused ["_law_top", "_law_bottom"] (defScope (top 15)) := sc_of (by decide +kernel)
theorem ck__law_refused : chkB N__law_refused (defScope (top 15)) true (erS ir_law_refused) (defBody (top 15)) = true := by decide +kernel
abbrev N__law_same : List Str := ["_law_found", "_law_due", "_law_k"]
theorem sc__law_same : FnScope N__law_same ["_law_found", "_law_due"] (defScope (top 13)) := sc_of (by decide +kernel)
theorem ck__law_same (rec : GFn) : chkB N__law_same (defScope (top 13)) true (erS (ir_law_same rec)) (defBody (top 13)) = true := by kernel_rfl
abbrev N__law_low : List Str := ["_law_top", "_law_bottom", "_law_one", "_law_two"]
theorem sc__law_low : FnScope N__law_low ["_law_top", "_law_bottom"] (defScope (top 14)) := sc_of (by decide +kernel)
theorem ck__law_low : chkB N__law_low (defScope (top 14)) true (erS ir_law_low) (defBody (top 14)) = true := by decide +kernel
abbrev N_law : List Str := ["_law_script", "_law_flow_here", "_law_top", "_law_bottom", "_law_by", "_law_strange_here"]
theorem sc_law : FnScope N_law ["_law_script"] (defScope (top 16)) := sc_of (by decide +kernel)
theorem ck_law : chkB N_law (defScope (top 16)) true (erS ir_law_k01) (defBody (top 16)) = true := by decide +kernel
section
variable {P : Program} {w : World} {K : Frag} {mg : Str → Option Value} {base : Heap}
theorem ok__law_flow {a : Addr} {fd : FuncData} (F : FunD K "_law_flow" "_law_flow" (defArgs (top 9)) (defBody (top 9)) (defScope (top 9)) (d__law_flow.dvs K) (d__law_flow.kws K) a fd) (f_list : mg "list" = none) : FnOk P w K mg base (L2.CX P w) 1 a fd ["_law_script"] (spF K mg m_law_flow.run) := by
  have n : (erS ir_law_flow).need P w K mg base 0 := by
    unfold ir_law_flow
    simp only [ubs, flDs, kinS, kinE, erS, er, emb, embs, S.need, E.need, E.alen, and_true, true_and, Bi.name, Ty.name, List.mem_cons, List.not_mem_nil, or_false, forall_eq, forall_eq_or_imp, Nat.reduceAdd, Nat.zero_add]
    repeat' (first | with_reducible apply And.intro | (first | exact True.intro | exact f_list))
  exact fn_ok F sc__law_flow ck__law_flow n
theorem ok__law_draw {a : Addr} {fd : FuncData} (F : FunD K "_law_draw" "_law_draw" (defArgs (top 10)) (defBody (top 10)) (defScope (top 10)) (d__law_draw.dvs K) (d__law_draw.kws K) a fd) (f_abs : mg "abs" = none) (f_len : mg "len" = none) : FnOk P w K mg base (L2.CX P w) 1 a fd ["_law_flow_here", "_law_size"] (spF K mg m_law_draw.run) := by
  have n : (erS ir_law_draw).need P w K mg base 0 := by
    unfold ir_law_draw
    simp only [ubs, flDs, kinS, kinE, erS, er, emb, embs, S.need, E.need, E.alen, and_true, true_and, Bi.name, Ty.name, List.mem_cons, List.not_mem_nil, or_false, forall_eq, forall_eq_or_imp, Nat.reduceAdd, Nat.zero_add]
    repeat' (first | with_reducible apply And.intro | (first | exact True.intro | exact f_abs | exact f_len))
  exact fn_ok F sc__law_draw ck__law_draw n
theorem ok__law_great {a : Addr} {fd : FuncData} (F : FunD K "_law_great" "_law_great" (defArgs (top 11)) (defBody (top 11)) (defScope (top 11)) (d__law_great.dvs K) (d__law_great.kws K) a fd) (c__law_draw_2_ : Cal P w K mg base 1 "_law_draw" 2 [] none m_law_draw.run) : FnOk P w K mg base (L2.CX P w) 2 a fd ["_law_flow_here"] (spF K mg m_law_great.run) := by
  have n : (erS ir_law_great).need P w K mg base 1 := by
    unfold ir_law_great
    simp only [ubs, flDs, kinS, kinE, erS, er, emb, embs, S.need, E.need, E.alen, and_true, true_and, Bi.name, Ty.name, List.mem_cons, List.not_mem_nil, or_false, forall_eq, forall_eq_or_imp, Nat.reduceAdd, Nat.zero_add]
    repeat' (first | with_reducible apply And.intro | (first | exact True.intro | with_reducible exact c__law_draw_2_.mono (by decide)))
  exact fn_ok F sc__law_great ck__law_great n
theorem ok__law_strange {a : Addr} {fd : FuncData} (F : FunD K "_law_strange" "_law_strange" (defArgs (top 12)) (defBody (top 12)) (defScope (top 12)) (d__law_strange.dvs K) (d__law_strange.kws K) a fd)  : FnOk P w K mg base (L2.CX P w) 1 a fd ["_law_k"] (spF K mg m_law_strange.run) := by
  have n : (erS ir_law_strange).need P w K mg base 0 := by
    unfold ir_law_strange
    simp only [ubs, flDs, kinS, kinE, erS, er, emb, embs, S.need, E.need, E.alen, and_true, true_and, Bi.name, Ty.name, List.mem_cons, List.not_mem_nil, or_false, forall_eq, forall_eq_or_imp, Nat.reduceAdd, Nat.zero_add]
    repeat' (first | with_reducible apply And.intro | (first | exact True.intro))
  exact fn_ok F sc__law_strange ck__law_strange n
theorem ok_is_whole {a : Addr} {fd : FuncData} (F : FunD K "is_whole" "is_whole" (defArgs (top 5)) (defBody (top 5)) (defScope (top 5)) (d_is_whole.dvs K) (d_is_whole.kws K) a fd) (f_bool : mg "bool" = none) (f_int : mg "int" = none) (f_isinstance : mg "isinstance" = none) : FnOk P w K mg base (L2.CX P w) 1 a fd ["thing"] (spF K mg m_is_whole.run) := by
  have n : (erS ir_is_whole).need P w K mg base 0 := by
    unfold ir_is_whole
    simp only [ubs, flDs, kinS, kinE, erS, er, emb, embs, S.need, E.need, E.alen, and_true, true_and, Bi.name, Ty.name, List.mem_cons, List.not_mem_nil, or_false, forall_eq, forall_eq_or_imp, Nat.reduceAdd, Nat.zero_add]
    repeat' (first | with_reducible apply And.intro | (first | exact True.intro | exact f_bool | exact f_int | exact f_isinstance))
  exact fn_ok F sc_is_whole ck_is_whole n
theorem ok_common {a : Addr} {fd : FuncData} (F : FunD K "common" "common" (defArgs (top 6)) (defBody (top 6)) (defScope (top 6)) (d_common.dvs K) (d_common.kws K) a fd) (f_abs : mg "abs" = none) : FnOk P w K mg base (L2.CX P w) 1 a fd ["one", "other"] (spF K mg m_common.run) := by
  have n : (erS ir_common).need P w K mg base 0 := by
    unfold ir_common
    simp only [ubs, flDs, kinS, kinE, erS, er, emb, embs, S.need, E.need, E.alen, and_true, true_and, Bi.name, Ty.name, List.mem_cons, List.not_mem_nil, or_false, forall_eq, forall_eq_or_imp, Nat.reduceAdd, Nat.zero_add, lb_common_0]
    repeat' (first | with_reducible apply And.intro | (first | exact True.intro | exact f_abs))
  exact fn_ok F sc_common ck_common n
theorem ok_part {a : Addr} {fd : FuncData} (F : FunD K "part" "part" (defArgs (top 7)) (defBody (top 7)) (defScope (top 7)) (d_part.dvs K) (d_part.kws K) a fd) (c_common_2_ : Cal P w K mg base 1 "common" 2 [] none m_common.run) (c_is_whole_1_ : Cal P w K mg base 1 "is_whole" 1 [] none m_is_whole.run) (ra_BadPart : Rai P w K mg base 3 3 0 [.d (.str "BadPart")]) : FnOk P w K mg base (L2.CX P w) 4 a fd ["top", "bottom"] (spF K mg m_part.run) := by
  have n : (erS ir_part).need P w K mg base 3 := by
    unfold ir_part
    simp only [ubs, flDs, kinS, kinE, erS, er, emb, embs, S.need, E.need, E.alen, and_true, true_and, Bi.name, Ty.name, List.mem_cons, List.not_mem_nil, or_false, forall_eq, forall_eq_or_imp, Nat.reduceAdd, Nat.zero_add]
    repeat' (first | with_reducible apply And.intro | (first | exact True.intro | with_reducible exact c_common_2_.mono (by decide) | with_reducible exact c_is_whole_1_.mono (by decide) | with_reducible exact ra_BadPart.mono (by decide)))
  exact fn_ok F sc_part ck_part n
theorem ok__law_refused {a : Addr} {fd : FuncData} (F : FunD K "_law_refused" "_law_refused" (defArgs (top 15)) (defBody (top 15)) (defScope (top 15)) (d__law_refused.dvs K) (d__law_refused.kws K) a fd) (c_part_2_ : Cal P w K mg base 4 "part" 2 [] (some [.p 0, .p 1]) m_part.run) (xal : XAll K mg) (mx_BadPart : mg (Str.ofString "BadPart") = some (.ref (He.ga K "BadPart"))) (mx_LagError : mg (Str.ofString "LagError") = some (.ref (He.ga K "LagError"))) (mx_Unlike : mg (Str.ofString "Unlike") = some (.ref (He.ga K "Unlike"))) : FnOk P w K mg base (L2.CX P w) 5 a fd ["_law_top", "_law_bottom"] (spF K mg m_law_refused.run) := by
  have n : (erS ir_law_refused).need P w K mg base 4 := by
    unfold ir_law_refused
    simp only [ubs, flDs, kinS, kinE, erS, er, emb, embs, S.need, E.need, E.alen, and_true, true_and, Bi.name, Ty.name, List.mem_cons, List.not_mem_nil, or_false, forall_eq, forall_eq_or_imp, Nat.reduceAdd, Nat.zero_add]
    repeat' (first | with_reducible apply And.intro | (first | exact True.intro | with_reducible exact c_part_2_.mono (by decide) | exact xal | (intro c ds h; simp only [embs_ubs h, erS, er, emb, fillS, fillE]) | exact .inl (by decide +kernel) | exact .inl rfl | exact hx_own mx_BadPart (by decide +kernel) | exact .inr (some_ne mx_BadPart) | exact hx_own mx_LagError (by decide +kernel) | exact .inr (some_ne mx_LagError) | exact hx_own mx_Unlike (by decide +kernel) | exact .inr (some_ne mx_Unlike)))
  exact fn_ok F sc__law_refused ck__law_refused n
theorem nd__law_same {rec : GFn} {k : Nat} (hk : 0 ≤ k) (cr : Cal P w K mg base k "_law_same" 2 [] none rec.run) (f_bool : mg "bool" = none) (f_int : mg "int" = none) (f_isinstance : mg "isinstance" = none) (f_len : mg "len" = none) (f_list : mg "list" = none) (f_range : mg "range" = none) (f_str : mg "str" = none) (f_tuple : mg "tuple" = none) : (erS (ir_law_same rec)).need P w K mg base k := by
  unfold ir_law_same
  simp only [ubs, flDs, kinS, kinE, erS, er, emb, embs, S.need, E.need, E.alen, and_true, true_and, Bi.name, Ty.name, List.mem_cons, List.not_mem_nil, or_false, forall_eq, forall_eq_or_imp, Nat.reduceAdd, Nat.zero_add, lb_law_same_0]
  repeat' (first | with_reducible apply And.intro | (first | exact True.intro | exact f_bool | exact f_int | exact f_isinstance | exact f_len | exact f_list | exact f_range | exact f_str | exact f_tuple | with_reducible exact cr))
theorem ok__law_same {a : Addr} {fd : FuncData} (F : FunD K "_law_same" "_law_same" (defArgs (top 13)) (defBody (top 13)) (defScope (top 13)) (d__law_same.dvs K) (d__law_same.kws K) a fd) (hm : mg "_law_same" = some (.ref a)) (hb : Bnd K fd ["_law_found", "_law_due"] 2 [] none) (f_bool : mg "bool" = none) (f_int : mg "int" = none) (f_isinstance : mg "isinstance" = none) (f_len : mg "len" = none) (f_list : mg "list" = none) (f_range : mg "range" = none) (f_str : mg "str" = none) (f_tuple : mg "tuple" = none) : ∀ d, FnOk P w K mg base (L2.CX P w) (1 + d) a fd ["_law_found", "_law_due"] (spF K mg (m_law_same d).1.run)
  | 0 => ok_bad
  | d + 1 => fn_ok F sc__law_same (ck__law_same _) (nd__law_same (by omega) (cal_of hm F hb (ok__law_same F hm hb f_bool f_int f_isinstance f_len f_list f_range f_str f_tuple d)) f_bool f_int f_isinstance f_len f_list f_range f_str f_tuple)
theorem ok__law_low {a : Addr} {fd : FuncData} (F : FunD K "_law_low" "_law_low" (defArgs (top 14)) (defBody (top 14)) (defScope (top 14)) (d__law_low.dvs K) (d__law_low.kws K) a fd) (f_abs : mg "abs" = none) : FnOk P w K mg base (L2.CX P w) 1 a fd ["_law_top", "_law_bottom"] (spF K mg m_law_low.run) := by
  have n : (erS ir_law_low).need P w K mg base 0 := by
    unfold ir_law_low
    simp only [ubs, flDs, kinS, kinE, erS, er, emb, embs, S.need, E.need, E.alen, and_true, true_and, Bi.name, Ty.name, List.mem_cons, List.not_mem_nil, or_false, forall_eq, forall_eq_or_imp, Nat.reduceAdd, Nat.zero_add, lb_law_low_0]
    repeat' (first | with_reducible apply And.intro | (first | exact True.intro | exact f_abs))
  exact fn_ok F sc__law_low ck__law_low n
theorem ok_law {a : Addr} {fd : FuncData} (F : FunD K "law" "law" (defArgs (top 16)) (defBody (top 16)) (defScope (top 16)) (d_law.dvs K) (d_law.kws K) a fd) (c__law_draw_2_ : Cal P w K mg base 1 "_law_draw" 2 [] none m_law_draw.run) (c__law_flow_1_ : Cal P w K mg base 1 "_law_flow" 1 [] none m_law_flow.run) (c__law_great_1_ : Cal P w K mg base 2 "_law_great" 1 [] none m_law_great.run) (c__law_low_2_ : Cal P w K mg base 1 "_law_low" 2 [] none m_law_low.run) (c__law_refused_2_ : Cal P w K mg base 5 "_law_refused" 2 [] none m_law_refused.run) (c__law_same_2_ : Cal P w K mg base 9 "_law_same" 2 [] none (m_law_same 8).1.run) (c__law_strange_1_ : Cal P w K mg base 1 "_law_strange" 1 [] none m_law_strange.run) (c_part_1_ : Cal P w K mg base 4 "part" 1 [] (some [.p 0, .d (.int 1)]) m_part.run) (c_part_2_ : Cal P w K mg base 4 "part" 2 [] (some [.p 0, .p 1]) m_part.run) : FnOk P w K mg base (L2.CX P w) 10 a fd ["_law_script"] (spF K mg m_law_k01.run) := by
  have n : (erS ir_law_k01).need P w K mg base 9 := by
    unfold ir_law_k01
    simp only [ubs, flDs, kinS, kinE, erS, er, emb, embs, S.need, E.need, E.alen, and_true, true_and, Bi.name, Ty.name, List.mem_cons, List.not_mem_nil, or_false, forall_eq, forall_eq_or_imp, Nat.reduceAdd, Nat.zero_add]
    repeat' (first | with_reducible apply And.intro | (first | exact True.intro | with_reducible exact c__law_draw_2_.mono (by decide) | with_reducible exact c__law_flow_1_.mono (by decide) | with_reducible exact c__law_great_1_.mono (by decide) | with_reducible exact c__law_low_2_.mono (by decide) | with_reducible exact c__law_refused_2_.mono (by decide) | with_reducible exact c__law_same_2_.mono (by decide) | with_reducible exact c__law_strange_1_.mono (by decide) | with_reducible exact c_part_1_.mono (by decide) | with_reducible exact c_part_2_.mono (by decide)))
  exact fn_ok F sc_law ck_law n
end
theorem facts {P : Program} {w : World} {K : Frag} {h : Heap} {mg : Str → Option Value} {f : Addr} (X : K.In h) (G : h.Ns mainGlobals mg) (hfa : mg ("law" : Str) = some (.ref f)) (c : SaysX okL fnL K) :
    ∃ fd : FuncData, (∀ (s : Shared) (v : Value), BindsTo s fd ⟨[v], []⟩ [("_law_script", v)]) ∧ ∀ base : Heap, K.In base → base.Ns mainGlobals mg → FnOk P w K mg base CX0 10 f fd ["_law_script"] (fun vs H Q _ => spF K mg m_law_k01.run vs H Q fun _ _ _ => False) := by
  have cc := c.oks
  unfold okL at cc
  simp only [Bool.and_eq_true] at cc
  have fa := fun {f : He.Fa} (h : f ∈ faL) => fact_at cc.1.1.1.1 h
  have f_abs : mg "abs" = none := He.free_ok X G (fa (f := .free "abs") (by unfold faL; simp))
  have f_bool : mg "bool" = none := He.free_ok X G (fa (f := .free "bool") (by unfold faL; simp))
  have f_int : mg "int" = none := He.free_ok X G (fa (f := .free "int") (by unfold faL; simp))
  have f_isinstance : mg "isinstance" = none := He.free_ok X G (fa (f := .free "isinstance") (by unfold faL; simp))
  have f_len : mg "len" = none := He.free_ok X G (fa (f := .free "len") (by unfold faL; simp))
  have f_list : mg "list" = none := He.free_ok X G (fa (f := .free "list") (by unfold faL; simp))
  have f_range : mg "range" = none := He.free_ok X G (fa (f := .free "range") (by unfold faL; simp))
  have f_str : mg "str" = none := He.free_ok X G (fa (f := .free "str") (by unfold faL; simp))
  have f_tuple : mg "tuple" = none := He.free_ok X G (fa (f := .free "tuple") (by unfold faL; simp))
  have mx_BadPart : mg (Str.ofString "BadPart") = some (.ref (He.ga K "BadPart")) := He.glo_ok X G (fa (f := .glo "BadPart") (by unfold faL; simp))
  have mx_LagError : mg (Str.ofString "LagError") = some (.ref (He.ga K "LagError")) := He.glo_ok X G (fa (f := .glo "LagError") (by unfold faL; simp))
  have mx_Unlike : mg (Str.ofString "Unlike") = some (.ref (He.ga K "Unlike")) := He.glo_ok X G (fa (f := .glo "Unlike") (by unfold faL; simp))
  have xal : XAll K mg := xa_ok X G cc.2
  obtain ⟨fd__law_flow, F__law_flow⟩ := c.def_ 0 (d := d__law_flow) rfl
  have mm__law_flow : mg "_law_flow" = some (.ref (He.ga K "_law_flow")) := He.glo_ok X G (fa (f := .glo "_law_flow") (by unfold faL; simp))
  obtain ⟨fd__law_draw, F__law_draw⟩ := c.def_ 1 (d := d__law_draw) rfl
  have mm__law_draw : mg "_law_draw" = some (.ref (He.ga K "_law_draw")) := He.glo_ok X G (fa (f := .glo "_law_draw") (by unfold faL; simp))
  obtain ⟨fd__law_great, F__law_great⟩ := c.def_ 2 (d := d__law_great) rfl
  have mm__law_great : mg "_law_great" = some (.ref (He.ga K "_law_great")) := He.glo_ok X G (fa (f := .glo "_law_great") (by unfold faL; simp))
  obtain ⟨fd__law_strange, F__law_strange⟩ := c.def_ 3 (d := d__law_strange) rfl
  have mm__law_strange : mg "_law_strange" = some (.ref (He.ga K "_law_strange")) := He.glo_ok X G (fa (f := .glo "_law_strange") (by unfold faL; simp))
  obtain ⟨fd_is_whole, F_is_whole⟩ := c.def_ 4 (d := d_is_whole) rfl
  have mm_is_whole : mg "is_whole" = some (.ref (He.ga K "is_whole")) := He.glo_ok X G (fa (f := .glo "is_whole") (by unfold faL; simp))
  obtain ⟨fd_common, F_common⟩ := c.def_ 5 (d := d_common) rfl
  have mm_common : mg "common" = some (.ref (He.ga K "common")) := He.glo_ok X G (fa (f := .glo "common") (by unfold faL; simp))
  obtain ⟨fd_part, F_part⟩ := c.def_ 6 (d := d_part) rfl
  have mm_part : mg "part" = some (.ref (He.ga K "part")) := He.glo_ok X G (fa (f := .glo "part") (by unfold faL; simp))
  obtain ⟨fd__law_refused, F__law_refused⟩ := c.def_ 7 (d := d__law_refused) rfl
  have mm__law_refused : mg "_law_refused" = some (.ref (He.ga K "_law_refused")) := He.glo_ok X G (fa (f := .glo "_law_refused") (by unfold faL; simp))
  obtain ⟨fd__law_same, F__law_same⟩ := c.def_ 8 (d := d__law_same) rfl
  have mm__law_same : mg "_law_same" = some (.ref (He.ga K "_law_same")) := He.glo_ok X G (fa (f := .glo "_law_same") (by unfold faL; simp))
  obtain ⟨fd__law_low, F__law_low⟩ := c.def_ 9 (d := d__law_low) rfl
  have mm__law_low : mg "_law_low" = some (.ref (He.ga K "_law_low")) := He.glo_ok X G (fa (f := .glo "_law_low") (by unfold faL; simp))
  obtain ⟨fd_law, F_law⟩ := c.def_ 10 (d := d_law) rfl
  have mm_law : mg "law" = some (.ref (He.ga K "law")) := He.glo_ok X G (fa (f := .glo "law") (by unfold faL; simp))
  have e := hfa.symm.trans mm_law
  cases e
  have b__law_flow_1_ : Bnd K fd__law_flow ["_law_script"] 1 [] none := bnd_all (FunD.bindsN F__law_flow fun _ _ _ _ _ _ us hl => match us, hl with | [_], _ => rfl)
  have b__law_draw_2_ : Bnd K fd__law_draw ["_law_flow_here", "_law_size"] 2 [] none := bnd_all (FunD.bindsN F__law_draw fun _ _ _ _ _ _ us hl => match us, hl with | [_, _], _ => rfl)
  have b__law_great_1_ : Bnd K fd__law_great ["_law_flow_here"] 1 [] none := bnd_all (FunD.bindsN F__law_great fun _ _ _ _ _ _ us hl => match us, hl with | [_], _ => rfl)
  have b__law_strange_1_ : Bnd K fd__law_strange ["_law_k"] 1 [] none := bnd_all (FunD.bindsN F__law_strange fun _ _ _ _ _ _ us hl => match us, hl with | [_], _ => rfl)
  have b_is_whole_1_ : Bnd K fd_is_whole ["thing"] 1 [] none := bnd_all (FunD.bindsN F_is_whole fun _ _ _ _ _ _ us hl => match us, hl with | [_], _ => rfl)
  have b_common_2_ : Bnd K fd_common ["one", "other"] 2 [] none := bnd_all (FunD.bindsN F_common fun _ _ _ _ _ _ us hl => match us, hl with | [_, _], _ => rfl)
  have b_part_1_ : Bnd K fd_part ["top", "bottom"] 1 [] (some [.p 0, .d (.int 1)]) := bnd_d (R := [.a 0, .d 0]) (dD := [(.int 1)]) F_part (by simp [He.DefD.dvs, d_part]) (fun ρ H => (.cons (.int _) .nil)) fun _ _ _ _ _ _ _ us ws its l1 l2 l3 => match us, ws, its, l1, l2, l3 with | [u0], [], [t0], _, _, _ => ⟨_, _, rfl, rfl, rfl⟩
  have b_part_2_ : Bnd K fd_part ["top", "bottom"] 2 [] (some [.p 0, .p 1]) := bnd_d (R := [.a 0, .a 1]) (dD := [(.int 1)]) F_part (by simp [He.DefD.dvs, d_part]) (fun ρ H => (.cons (.int _) .nil)) fun _ _ _ _ _ _ _ us ws its l1 l2 l3 => match us, ws, its, l1, l2, l3 with | [u0, u1], [], [t0], _, _, _ => ⟨_, _, rfl, rfl, rfl⟩
  have b__law_refused_2_ : Bnd K fd__law_refused ["_law_top", "_law_bottom"] 2 [] none := bnd_all (FunD.bindsN F__law_refused fun _ _ _ _ _ _ us hl => match us, hl with | [_, _], _ => rfl)
  have b__law_same_2_ : Bnd K fd__law_same ["_law_found", "_law_due"] 2 [] none := bnd_all (FunD.bindsN F__law_same fun _ _ _ _ _ _ us hl => match us, hl with | [_, _], _ => rfl)
  have b__law_low_2_ : Bnd K fd__law_low ["_law_top", "_law_bottom"] 2 [] none := bnd_all (FunD.bindsN F__law_low fun _ _ _ _ _ _ us hl => match us, hl with | [_, _], _ => rfl)
  have b := FunD.bindsA (ps := ["_law_script"]) F_law fun _ _ _ _ _ _ us hl => match us, hl with | [_], _ => rfl
  refine ⟨fd_law, fun s v => b s [v] rfl, fun base _ _ => ?_⟩
  obtain ⟨fd_LagError___init__, F_LagError___init__⟩ := c.def_ 11 (d := d_LagError___init__) rfl
  have b_LagError___init__ : Bnd K fd_LagError___init__ ["self", "word"] 2 [] none := bnd_all (FunD.bindsN F_LagError___init__ fun _ _ _ _ _ _ us hl => match us, hl with | [_, _], _ => rfl)
  have s_LagError___init__ : FnScope ["self", "word"] ["self", "word"] (defScope (low (top 1) 0)) := sc_of (by decide +kernel)
  have o_LagError___init__ := init_ok (P := P) (w := w) (mg := mg) (base := base) (its := [("word", .p 0)]) (n := 1) F_LagError___init__ s_LagError___init__ rfl (by decide +kernel) (by simp) (by decide)
  have upf := up_ok (P := P) (w := w) (mg := mg) (base := base) cc.1.2 mx_LagError o_LagError___init__ b_LagError___init__
  obtain ⟨fd_BadPart___init__, F_BadPart___init__⟩ := c.def_ 12 (d := d_BadPart___init__) rfl
  have b_BadPart___init__ : Bnd K fd_BadPart___init__ ["self"] 1 [] none := bnd_all (FunD.bindsN F_BadPart___init__ fun _ _ _ _ _ _ us hl => match us, hl with | [_], _ => rfl)
  have s_BadPart___init__ : FnScope ["self"] ["self"] (defScope (low (top 2) 0)) := sc_of (by decide +kernel)
  have o_BadPart___init__ := init_up (P := P) (w := w) (mg := mg) (base := base) (its := []) (z := "BadPart") (n := 0) upf F_BadPart___init__ s_BadPart___init__ rfl (by decide +kernel) (by decide)
  have ra_BadPart : Rai P w K mg base 3 3 0 [.d (.str "BadPart")] := rai_of (its := [("word", .s "BadPart")]) (show mg (clsN 3) = _ from mx_BadPart) (exB_ok tk_VE cc.1.1.2) (He.meth_ok (fa (f := .meth "BadPart" "__init__") (by unfold faL; simp))) b_BadPart___init__ (by have h1 := 0; intro f hf; simp only [show fldN 3 = (["word"] : List Str) from by decide +kernel, List.mem_cons, List.not_mem_nil, or_false] at hf; rcases hf with rfl <;> first | exact He.noat_ok (fa (f := .noat "BadPart" "word") (by unfold faL; simp))) (by kernel_rfl) o_BadPart___init__
  have o__law_flow := ok__law_flow (P := P) (w := w) (mg := mg) (base := base) F__law_flow f_list
  have c__law_flow_1_ : Cal P w K mg base 1 "_law_flow" 1 [] none m_law_flow.run := cal_of mm__law_flow F__law_flow b__law_flow_1_ o__law_flow
  have o__law_draw := ok__law_draw (P := P) (w := w) (mg := mg) (base := base) F__law_draw f_abs f_len
  have c__law_draw_2_ : Cal P w K mg base 1 "_law_draw" 2 [] none m_law_draw.run := cal_of mm__law_draw F__law_draw b__law_draw_2_ o__law_draw
  have o__law_great := ok__law_great (P := P) (w := w) (mg := mg) (base := base) F__law_great c__law_draw_2_
  have c__law_great_1_ : Cal P w K mg base 2 "_law_great" 1 [] none m_law_great.run := cal_of mm__law_great F__law_great b__law_great_1_ o__law_great
  have o__law_strange := ok__law_strange (P := P) (w := w) (mg := mg) (base := base) F__law_strange 
  have c__law_strange_1_ : Cal P w K mg base 1 "_law_strange" 1 [] none m_law_strange.run := cal_of mm__law_strange F__law_strange b__law_strange_1_ o__law_strange
  have o_is_whole := ok_is_whole (P := P) (w := w) (mg := mg) (base := base) F_is_whole f_bool f_int f_isinstance
  have c_is_whole_1_ : Cal P w K mg base 1 "is_whole" 1 [] none m_is_whole.run := cal_of mm_is_whole F_is_whole b_is_whole_1_ o_is_whole
  have o_common := ok_common (P := P) (w := w) (mg := mg) (base := base) F_common f_abs
  have c_common_2_ : Cal P w K mg base 1 "common" 2 [] none m_common.run := cal_of mm_common F_common b_common_2_ o_common
  have o_part := ok_part (P := P) (w := w) (mg := mg) (base := base) F_part c_common_2_ c_is_whole_1_ ra_BadPart
  have c_part_1_ : Cal P w K mg base 4 "part" 1 [] (some [.p 0, .d (.int 1)]) m_part.run := cal_of mm_part F_part b_part_1_ o_part
  have c_part_2_ : Cal P w K mg base 4 "part" 2 [] (some [.p 0, .p 1]) m_part.run := cal_of mm_part F_part b_part_2_ o_part
  have o__law_refused := ok__law_refused (P := P) (w := w) (mg := mg) (base := base) F__law_refused c_part_2_ xal mx_BadPart mx_LagError mx_Unlike
  have c__law_refused_2_ : Cal P w K mg base 5 "_law_refused" 2 [] none m_law_refused.run := cal_of mm__law_refused F__law_refused b__law_refused_2_ o__law_refused
  have o__law_same := ok__law_same (P := P) (w := w) (base := base) F__law_same mm__law_same b__law_same_2_ f_bool f_int f_isinstance f_len f_list f_range f_str f_tuple 8
  have c__law_same_2_ : Cal P w K mg base 9 "_law_same" 2 [] none (m_law_same 8).1.run := cal_of mm__law_same F__law_same b__law_same_2_ o__law_same
  have o__law_low := ok__law_low (P := P) (w := w) (mg := mg) (base := base) F__law_low f_abs
  have c__law_low_2_ : Cal P w K mg base 1 "_law_low" 2 [] none m_law_low.run := cal_of mm__law_low F__law_low b__law_low_2_ o__law_low
  exact ok_cx0 (ok_law F_law c__law_draw_2_ c__law_flow_1_ c__law_great_1_ c__law_low_2_ c__law_refused_2_ c__law_same_2_ c__law_strange_1_ c_part_1_ c_part_2_)
end Glue
open PySem PySem.W PySem.Calls PyProof.Rows
theorem PySem.Challenge.cw_lagwedge_k01_lowest_terms_holds : PySem.Challenge.rw_lagwedge_k01_lowest_terms.Holds := by
  w_on; o_law
  refine HandSHeadRun.head_any (r := OpenLaw.row PySem.Challenge.rw_lagwedge_k01_lowest_terms) (q := view (OpenLaw.row PySem.Challenge.rw_lagwedge_k01_lowest_terms).prog [16]) (H := Glue.hk) (ob := Glue.ob) (M := 6000) (loose := Glue.loose) (d := HandSHeadRun.topDef (OpenLaw.row PySem.Challenge.rw_lagwedge_k01_lowest_terms).prog 16) (kwd := []) Glue.ob_eq
    (by kernel_rfl) (fun s => by kernel_rfl) Glue.run (by kernel_rfl) (by kernel_rfl) (by kernel_rfl) (by rfl) (by first | assumption | decide +kernel) (by decide +kernel) ⟨rfl, rfl, rfl, rfl, rfl, by decide +kernel⟩ ?hw ?hc
  case hw => w_witness2
  case hc =>
    refine L2.walk_ofE (l := PySem.Challenge.rw_lagwedge_k01_lowest_terms) (n := 63) (k := 10) (x := "_law_script") (CX := L2.CX0) rfl (by decide) (by kernel_rfl) ⟨rfl, by decide, by decide⟩ ?F (fun _ _ _ _ z => z)
    intro w mg fa h Y G hmg0
    obtain ⟨K, KX, c⟩ := Y
    have hmg : mg ("law" : PySem.Str) = some (.ref fa) := by
      have e : (HandSHeadRun.topDef (OpenLaw.row PySem.Challenge.rw_lagwedge_k01_lowest_terms).prog 16).name = ("law" : PySem.Str) := by kernel_rfl
      rw [← e]
      exact hmg0
    obtain ⟨fd, hb, hF⟩ := Glue.facts (P := (PySem.Challenge.rw_lagwedge_k01_lowest_terms).prog) (w := w) KX G hmg c
    exact ⟨K, fd, fun vs H Q _ => L3.spF K mg L3.m_law_k01.run vs H Q fun _ _ _ => False, KX, hb, fun H a ns hl hO hS => L3.entry hO hS (L3.law_entry rfl rfl (by first | exact L3.k01_tree ns | exact L3.k01_tree ns hl)), hF⟩

