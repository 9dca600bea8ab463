import PyProof.Rows.All
import HandS.ForMost
import HandS.Exc
import HandS.ExcOwn
import HandS.TryMany
import HandS.WordsExc
import HandS.Flow
import HandS.ExcIs
import HandS.TupLe
import HandS.SortRule
import HandS.NamedTupSort
import HandS.Conv
import HandS.More
import HandS.Iter
import HandS.Zip
import KE.DataMinMax
import HandS.TupAny
import HandS.IsInst
import HandS.Deep
import HandS.Dict
import HandS.TupLen
import HandS.WordsDict
import KE.SortData
import KE.DataCmp
import KE.DataFind
import HandS.SortInts
import HandS.Style
import HandS.Rev
import KE.KDictDisplayH
import HandS.Codes
import HandS.Defaults
import HandS.Head0
import HandS.Head1
import HandS.Head2
import HandS.HeadEnd
import HandS.HeadHook1
import HandS.HeadHook2
import PySem.Challenge.RW_roundshome_k45_whole_rows_that_steps_mak
set_option Elab.async false
set_option linter.all false
set_option maxRecDepth 100000
/-! Values as trees, and what a value of the heap stands for. -/
namespace Bell
open PySem PySem.Spec PyProof.Rows L2

/-- a value as a tree -/
inductive D where
  | non | bl (b : Bool) | int (i : Int) | str (x : Str)
  | lst (xs : List D) | tup (xs : List D)
  | dic (t : Bool) (kvs : List (D × D))
  | scr (ns : List Int)
  | obj (C : Nat) (fs : List (Str × D))
deriving Inhabited

abbrev Env := List (Option D)
/-- how a piece of code ends -/
inductive Out (α : Type) where
  | ok (a : α) (ρ : Env)
  | exc (c : Nat) (ρ : Env)
  | stuck
/-- how a call ends: the value and the changed arguments -/
inductive Res where
  | ret (d : D) (outs : List D)
  | exc (c : Nat) (outs : List D)
  | stuck

def kD : Key → D
  | .inl i => .int i
  | .inr x => .str x
def tD (ks : List Key) : D := .tup (ks.map kD)

/-- a dict -/
def DicO : HO → Prop
  | .dK _ => True
  | .dT _ => True
  | _ => False
/-- what stood there stands there, perhaps a locked dict now -/
def LeAt (H : Hp) (b : Addr) (o : HO) : Prop := H b = some o ∨ (DicO o ∧ ∃ ob, H b = some (.frz ob o))
theorem LeAt.eq {H : Hp} {b : Addr} {o : HO} (h : LeAt H b o) (n : ¬ DicO o) : H b = some o := h.elim id fun z => absurd z.1 n
theorem LeAt.rd {H : Hp} {b : Addr} {o : HO} (h : LeAt H b o) : Rd H b o := h.imp id fun z => z.2
theorem LeAt.upd {H : Hp} {b D : Addr} {o x : HO} (h : LeAt H b o) (n : b ≠ D) : LeAt (upd H D x) b o := by
  unfold LeAt at *
  rw [upd_ne n]
  exact h
theorem LeAt.trans {H H' : Hp} {b : Addr} {o : HO} (h : LeAt H b o) (k : ∀ o1, H b = some o1 → LeAt H' b o1) : LeAt H' b o := by
  rcases h with h | ⟨q, ob, h⟩
  · exact k _ h
  · exact .inr ⟨q, ob, (k _ h).eq fun z => z⟩
/-! ### what stands for a tree, away from the addresses in S -/
mutual
inductive Fz (S : Addr → Prop) (H : Hp) : V → D → Prop
  | non : Fz S H .non .non
  | bl (b : Bool) : Fz S H (.bl b) (.bl b)
  | int (i : Int) : Fz S H (.int i) (.int i)
  | str (x : Str) : Fz S H (.str x) (.str x)
  | lst {a : Addr} {vs : List V} {ds : List D} : ¬ S a → H a = some (.lst vs) → FzL S H vs ds → Fz S H (.ref a) (.lst ds)
  | tup {a : Addr} {vs : List V} {ds : List D} : ¬ S a → H a = some (.tup vs) → FzL S H vs ds → Fz S H (.ref a) (.tup ds)
  | scr {a : Addr} {o : Obj} {ns : List Int} : ¬ S a → H a = some (.frz o (.lst (ns.map V.int))) → Fz S H (.ref a) (.scr ns)
  | dK {a : Addr} {kvs : List (Key × V)} {es : List (D × D)} : ¬ S a → Rd H a (.dK kvs) → FzK S H kvs es → Fz S H (.ref a) (.dic false es)
  | dT {a : Addr} {kvs : List (List Key × V)} {es : List (D × D)} : ¬ S a → Rd H a (.dT kvs) → FzT S H kvs es → Fz S H (.ref a) (.dic true es)
  | obj {a C dx : Addr} {fs : List (Str × V)} {es : List (Str × D)} : ¬ S a → H a = some (.ins C dx fs) → FzF S H fs es → Fz S H (.ref a) (.obj C es)
inductive FzL (S : Addr → Prop) (H : Hp) : List V → List D → Prop
  | nil : FzL S H [] []
  | cons {v : V} {vs : List V} {d : D} {ds : List D} : Fz S H v d → FzL S H vs ds → FzL S H (v :: vs) (d :: ds)
inductive FzK (S : Addr → Prop) (H : Hp) : List (Key × V) → List (D × D) → Prop
  | nil : FzK S H [] []
  | cons {k : Key} {v : V} {kvs : List (Key × V)} {d : D} {es : List (D × D)} : Fz S H v d → FzK S H kvs es → FzK S H ((k, v) :: kvs) ((kD k, d) :: es)
inductive FzT (S : Addr → Prop) (H : Hp) : List (List Key × V) → List (D × D) → Prop
  | nil : FzT S H [] []
  | cons {k : List Key} {v : V} {kvs : List (List Key × V)} {d : D} {es : List (D × D)} : Fz S H v d → FzT S H kvs es → FzT S H ((k, v) :: kvs) ((tD k, d) :: es)
inductive FzF (S : Addr → Prop) (H : Hp) : List (Str × V) → List (Str × D) → Prop
  | nil : FzF S H [] []
  | cons {x : Str} {v : V} {fs : List (Str × V)} {d : D} {es : List (Str × D)} : Fz S H v d → FzF S H fs es → FzF S H ((x, v) :: fs) ((x, d) :: es)
end

/-- from one heap to a later one: what stands away from S stays, away from S' -/
def Ext (S : Addr → Prop) (H : Hp) (S' : Addr → Prop) (H' : Hp) : Prop := ∀ b o, H b = some o → ¬ S b → LeAt H' b o ∧ ¬ S' b
theorem Ext.refl (S : Addr → Prop) (H : Hp) : Ext S H S H := fun _ _ h n => ⟨.inl h, n⟩
theorem Ext.trans {S S1 S2 : Addr → Prop} {H H1 H2 : Hp} (a : Ext S H S1 H1) (b : Ext S1 H1 S2 H2) : Ext S H S2 H2 := fun c o h n => by
  obtain ⟨h1 | ⟨q, ob, h1⟩, n1⟩ := a c o h n
  · exact b c o h1 n1
  · obtain ⟨h2, n2⟩ := b c _ h1 n1
    exact ⟨.inr ⟨q, ob, h2.eq fun z => z⟩, n2⟩
/-- a new object, not in S -/
theorem Ext.new {S : Addr → Prop} {H : Hp} {p : Addr} {o : HO} (hp : H p = none) : Ext S H S (upd H p o) := fun b u h n => ⟨.inl (by rw [upd_ne (ne_of_none h hp)]; exact h), n⟩
/-- an object in S is changed -/
theorem Ext.own {S : Addr → Prop} {H : Hp} {p : Addr} {o : HO} (hp : S p) : Ext S H S (upd H p o) := fun b u h n => ⟨.inl (by
  have e : b ≠ p := fun z => n (by rw [z]; exact hp)
  rw [upd_ne e]; exact h), n⟩
theorem Ext.less {S S' : Addr → Prop} {H : Hp} (h : ∀ a, S' a → S a) : Ext S H S' H := fun _ _ e n => ⟨.inl e, fun z => n (h _ z)⟩
/-- what is new may be taken into S -/
theorem Ext.more {S S' : Addr → Prop} {H : Hp} (h : ∀ a o, S' a → H a = some o → S a) : Ext S H S' H := fun b o e n => ⟨.inl e, fun z => n (h b o z e)⟩

section
variable {S S' : Addr → Prop} {H H' : Hp}
theorem Rd.extn (e : Ext S H S' H') {a : Addr} {u : HO} (r : Rd H a u) (n : ¬ S a) : ¬ S' a := by
  rcases r with r | ⟨ob, r⟩
  · exact (e _ _ r n).2
  · exact (e _ _ r n).2
theorem Rd.ext (e : Ext S H S' H') {a : Addr} {u : HO} (r : Rd H a u) (n : ¬ S a) : Rd H' a u := by
  rcases r with r | ⟨ob, r⟩
  · exact (e _ _ r n).1.rd
  · exact .inr ⟨ob, (e _ _ r n).1.eq fun z => z⟩
mutual
theorem Fz.ext (e : Ext S H S' H') : ∀ {d : D} {v : V}, Fz S H v d → Fz S' H' v d
  | .non, _, h => by cases h; exact .non
  | .bl _, _, h => by cases h; exact .bl _
  | .int _, _, h => by cases h; exact .int _
  | .str _, _, h => by cases h; exact .str _
  | .lst ds, _, h => by
    cases h with
    | lst n r x =>
      obtain ⟨r', n'⟩ := e _ _ r n
      exact .lst n' (r'.eq fun z => z) (FzL.ext e x)
  | .tup ds, _, h => by
    cases h with
    | tup n r x =>
      obtain ⟨r', n'⟩ := e _ _ r n
      exact .tup n' (r'.eq fun z => z) (FzL.ext e x)
  | .scr _, _, h => by
    cases h with
    | scr n r =>
      obtain ⟨r', n'⟩ := e _ _ r n
      exact .scr n' (r'.eq fun z => z)
  | .dic _ es, _, h => by
    cases h with
    | dK n r x => exact .dK (Rd.extn e r n) (Rd.ext e r n) (FzK.ext e x)
    | dT n r x => exact .dT (Rd.extn e r n) (Rd.ext e r n) (FzT.ext e x)
  | .obj _ es, _, h => by
    cases h with
    | obj n r x =>
      obtain ⟨r', n'⟩ := e _ _ r n
      exact .obj n' (r'.eq fun z => z) (FzF.ext e x)
theorem FzL.ext (e : Ext S H S' H') : ∀ {ds : List D} {vs : List V}, FzL S H vs ds → FzL S' H' vs ds
  | [], _, h => by cases h; exact .nil
  | d :: ds, _, h => by
    cases h with
    | cons a b => exact .cons (Fz.ext e a) (FzL.ext e b)
theorem FzK.ext (e : Ext S H S' H') : ∀ {es : List (D × D)} {kvs : List (Key × V)}, FzK S H kvs es → FzK S' H' kvs es
  | [], _, h => by cases h; exact .nil
  | (_, d) :: ds, _, h => by
    cases h with
    | cons a b => exact .cons (Fz.ext e a) (FzK.ext e b)
theorem FzT.ext (e : Ext S H S' H') : ∀ {es : List (D × D)} {kvs : List (List Key × V)}, FzT S H kvs es → FzT S' H' kvs es
  | [], _, h => by cases h; exact .nil
  | (_, d) :: ds, _, h => by
    cases h with
    | cons a b => exact .cons (Fz.ext e a) (FzT.ext e b)
theorem FzF.ext (e : Ext S H S' H') : ∀ {es : List (Str × D)} {fs : List (Str × V)}, FzF S H fs es → FzF S' H' fs es
  | [], _, h => by cases h; exact .nil
  | (_, d) :: ds, _, h => by
    cases h with
    | cons a b => exact .cons (Fz.ext e a) (FzF.ext e b)
end
theorem FzL.length : ∀ {vs : List V} {ds : List D}, FzL S H vs ds → vs.length = ds.length
  | _, _, .nil => rfl
  | _, _, .cons _ t => congrArg (· + 1) (FzL.length t)
theorem FzL.get : ∀ {vs : List V} {ds : List D} {i : Nat} {d : D}, FzL S H vs ds → ds[i]? = some d → ∃ v, vs[i]? = some v ∧ Fz S H v d
  | _, _, _, _, .nil, e => by simp at e
  | _, _, 0, _, .cons r _, e => by simp at e; subst e; exact ⟨_, rfl, r⟩
  | _, _, i + 1, d, .cons _ t, e => FzL.get (i := i) t (by simpa using e)
theorem FzL.getV : ∀ {vs : List V} {ds : List D} {i : Nat} {v : V}, FzL S H vs ds → vs[i]? = some v → ∃ d, ds[i]? = some d ∧ Fz S H v d
  | _, _, _, _, .nil, e => by simp at e
  | _, _, 0, _, .cons r _, e => by simp at e; subst e; exact ⟨_, rfl, r⟩
  | _, _, i + 1, d, .cons _ t, e => FzL.getV (i := i) t (by simpa using e)
theorem FzL.append : ∀ {vs ws : List V} {ds es : List D}, FzL S H vs ds → FzL S H ws es → FzL S H (vs ++ ws) (ds ++ es)
  | _, _, _, _, .nil, s => s
  | _, _, _, _, .cons r t, s => .cons r (FzL.append t s)
theorem FzL.take : ∀ {vs : List V} {ds : List D} (n : Nat), FzL S H vs ds → FzL S H (vs.take n) (ds.take n)
  | _, _, 0, _ => .nil
  | _, _, _ + 1, .nil => .nil
  | _, _, n + 1, .cons r t => .cons r (FzL.take n t)
theorem FzL.drop : ∀ {vs : List V} {ds : List D} (n : Nat), FzL S H vs ds → FzL S H (vs.drop n) (ds.drop n)
  | _, _, 0, r => r
  | _, _, _ + 1, .nil => .nil
  | _, _, n + 1, .cons _ t => FzL.drop n t
theorem FzL.set {v : V} {d : D} (r : Fz S H v d) : ∀ {vs : List V} {ds : List D} (i : Nat), FzL S H vs ds → FzL S H (vs.set i v) (ds.set i d)
  | _, _, _, .nil => .nil
  | _, _, 0, .cons _ t => .cons r t
  | _, _, i + 1, .cons q t => .cons q (FzL.set r i t)
theorem FzL.dropLast : ∀ {vs : List V} {ds : List D}, FzL S H vs ds → FzL S H vs.dropLast ds.dropLast
  | _, _, h => by
    rw [List.dropLast_eq_take, List.dropLast_eq_take, h.length]
    exact h.take _
theorem FzL.reverse : ∀ {vs : List V} {ds : List D}, FzL S H vs ds → FzL S H vs.reverse ds.reverse
  | _, _, .nil => .nil
  | _, _, .cons r t => by
    rw [List.reverse_cons, List.reverse_cons]
    exact (FzL.reverse t).append (.cons r .nil)
theorem FzL.rep {vs : List V} {ds : List D} (h : FzL S H vs ds) : ∀ k : Nat, FzL S H (List.replicate k vs).flatten (List.replicate k ds).flatten
  | 0 => .nil
  | k + 1 => by
    rw [List.replicate_succ, List.replicate_succ, List.flatten_cons, List.flatten_cons]
    exact h.append (FzL.rep h k)
theorem FzL.ints : ∀ {ns : List Int} {vs : List V}, FzL S H vs (ns.map D.int) → vs = ns.map V.int
  | [], _, h => by cases h; rfl
  | n :: ns, _, h => by
    cases h with
    | cons a b =>
      cases a
      rw [FzL.ints b]
      rfl
theorem FzL.strs : ∀ {ns : List Str} {vs : List V}, FzL S H vs (ns.map D.str) → vs = ns.map V.str
  | [], _, h => by cases h; rfl
  | n :: ns, _, h => by
    cases h with
    | cons a b =>
      cases a
      rw [FzL.strs b]
      rfl
theorem FzL.of_ints : ∀ ns : List Int, FzL S H (ns.map V.int) (ns.map D.int)
  | [] => .nil
  | n :: ns => .cons (.int n) (FzL.of_ints ns)
theorem FzL.of_strs : ∀ ns : List Str, FzL S H (ns.map V.str) (ns.map D.str)
  | [] => .nil
  | n :: ns => .cons (.str n) (FzL.of_strs ns)
end

/-- for an operand: its root may stand in S -/
inductive Bz (S : Addr → Prop) (H : Hp) : V → D → Prop
  | fz {v : V} {d : D} : Fz S H v d → Bz S H v d
  | lst {a : Addr} {vs : List V} {ds : List D} : H a = some (.lst vs) → FzL S H vs ds → Bz S H (.ref a) (.lst ds)
  | dK {a : Addr} {kvs : List (Key × V)} {es : List (D × D)} : Rd H a (.dK kvs) → FzK S H kvs es → Bz S H (.ref a) (.dic false es)
  | dT {a : Addr} {kvs : List (List Key × V)} {es : List (D × D)} : Rd H a (.dT kvs) → FzT S H kvs es → Bz S H (.ref a) (.dic true es)
  | obj {a C dx : Addr} {fs : List (Str × V)} {es : List (Str × D)} : H a = some (.ins C dx fs) → FzF S H fs es → Bz S H (.ref a) (.obj C es)
section
variable {S : Addr → Prop} {H : Hp} {v : V}
theorem Bz.non (h : Bz S H v .non) : v = .non := by cases h with | fz h => cases h; rfl
theorem Bz.int {i : Int} (h : Bz S H v (.int i)) : v = .int i := by cases h with | fz h => cases h; rfl
theorem Bz.bl {b : Bool} (h : Bz S H v (.bl b)) : v = .bl b := by cases h with | fz h => cases h; rfl
theorem Bz.str {x : Str} (h : Bz S H v (.str x)) : v = .str x := by cases h with | fz h => cases h; rfl
theorem Bz.lst_ {ds : List D} (h : Bz S H v (.lst ds)) : ∃ a vs, v = .ref a ∧ H a = some (.lst vs) ∧ FzL S H vs ds := by
  cases h with
  | fz h => cases h with | lst n r x => exact ⟨_, _, rfl, r, x⟩
  | lst h x => exact ⟨_, _, rfl, h, x⟩
theorem Bz.scr_ {ns : List Int} (h : Bz S H v (.scr ns)) : ∃ a o, v = .ref a ∧ H a = some (.frz o (.lst (ns.map V.int))) := by
  cases h with
  | fz h => cases h with | scr n r => exact ⟨_, _, rfl, r⟩
theorem Bz.tup_ {ds : List D} (h : Bz S H v (.tup ds)) : ∃ a vs, v = .ref a ∧ H a = some (.tup vs) ∧ FzL S H vs ds := by
  cases h with
  | fz h => cases h with | tup n r x => exact ⟨_, _, rfl, r, x⟩
theorem Bz.dK_ {es : List (D × D)} (h : Bz S H v (.dic false es)) : ∃ a kvs, v = .ref a ∧ Rd H a (.dK kvs) ∧ FzK S H kvs es := by
  cases h with
  | fz h => cases h with | dK n r x => exact ⟨_, _, rfl, r, x⟩
  | dK h x => exact ⟨_, _, rfl, h, x⟩
theorem Bz.dT_ {es : List (D × D)} (h : Bz S H v (.dic true es)) : ∃ a kvs, v = .ref a ∧ Rd H a (.dT kvs) ∧ FzT S H kvs es := by
  cases h with
  | fz h => cases h with | dT n r x => exact ⟨_, _, rfl, r, x⟩
  | dT h x => exact ⟨_, _, rfl, h, x⟩
theorem Bz.obj_ {C : Nat} {es : List (Str × D)} (h : Bz S H v (.obj C es)) : ∃ a dx fs, v = .ref a ∧ H a = some (.ins C dx fs) ∧ FzF S H fs es := by
  cases h with
  | fz h => cases h with | obj n r x => exact ⟨_, _, _, rfl, r, x⟩
  | obj h x => exact ⟨_, _, _, rfl, h, x⟩
end

/-! ### data, for == -/
mutual
def toP : D → PyData
  | .non => .none
  | .bl b => .bool b
  | .int i => .int i
  | .str x => .str x
  | .lst xs => .list (toPs xs)
  | .tup xs => .tuple (toPs xs)
  | .dic _ _ => .dict []
  | .scr _ => .dict []
  | .obj _ _ => .dict []
def toPs : List D → List PyData
  | [] => []
  | d :: ds => toP d :: toPs ds
end
theorem toPs_map : ∀ ds : List D, toPs ds = ds.map toP
  | [] => rfl
  | d :: ds => by rw [toPs, toPs_map ds]; rfl
section
variable {S : Addr → Prop} {H : Hp} {K : PySem.W.Frag}
mutual
theorem Fz.dp : ∀ {d : D} {v : V}, Fz S H v d → (toP d).canLay0 = true → Dp K H v (toP d)
  | .non, _, h, _ => by cases h; exact .non
  | .bl _, _, h, _ => by cases h; exact .bl _
  | .int _, _, h, _ => by cases h; exact .int _
  | .str _, _, h, _ => by cases h; exact .str _
  | .lst ds, _, h, q => by
    cases h with
    | lst n r x => exact .lst (.inl (.inl r)) (FzL.dp x (by simpa [toP, PyData.canLay0] using q))
  | .tup ds, _, h, q => by
    cases h with
    | tup n r x => exact .tup (.inl (.inl r)) (FzL.dp x (by simpa [toP, PyData.canLay0] using q))
  | .dic _ _, _, _, q => by simp [toP, PyData.canLay0] at q
  | .scr _, _, _, q => by simp [toP, PyData.canLay0] at q
  | .obj _ _, _, _, q => by simp [toP, PyData.canLay0] at q
theorem FzL.dp : ∀ {ds : List D} {vs : List V}, FzL S H vs ds → PyData.canLayAll0 (toPs ds) = true → DpAll K H vs (toPs ds)
  | [], _, h, _ => by cases h; exact .nil
  | d :: ds, _, h, q => by
    cases h with
    | cons a b =>
      rw [toPs, PyData.canLayAll0, Bool.and_eq_true] at q
      exact .cons (Fz.dp a q.1) (FzL.dp b q.2)
end
theorem Bz.dp {d : D} {v : V} (h : Bz S H v d) (q : (toP d).canLay0 = true) : Dp K H v (toP d) := by
  cases h with
  | fz h => exact h.dp q
  | lst h x => exact .lst (.inl (.inl h)) (FzL.dp x (by simpa [toP, PyData.canLay0] using q))
  | dK h x => simp [toP, PyData.canLay0] at q
  | dT h x => simp [toP, PyData.canLay0] at q
  | obj h x => simp [toP, PyData.canLay0] at q
end
end Bell
set_option Elab.async false
set_option linter.all false
set_option maxRecDepth 100000
/-! Rules beside the kit's own: >= of tuples of ints, sorted of tuples of ints. -/
namespace L2
open PySem PySem.Spec PyProof.Rows
theorem lexAt_ge : ∀ (xs ys : List Int) (e r : Nat → Bool) (z : Bool) (i : Nat), (∀ j, j < xs.length → j < ys.length → e (i + j) = decide (xs.getD j 0 = ys.getD j 0)) → (∀ j, j < xs.length → j < ys.length → r (i + j) = decide (ys.getD j 0 ≤ xs.getD j 0)) → z = decide (ys.length ≤ xs.length) →
    Ob.lexAt e r z i (min xs.length ys.length) = !HT.lexLt xs ys
  | [], [], e, r, z, i, _, _, hz => by rw [hz]; rfl
  | [], _ :: _, e, r, z, i, _, _, hz => by rw [hz]; rfl
  | _ :: _, [], e, r, z, i, _, _, hz => by rw [hz]; rfl
  | x :: xs, y :: ys, e, r, z, i, he, hr, hz => by
    have h0 := he 0 (by simp) (by simp)
    have r0 := hr 0 (by simp) (by simp)
    rw [Nat.add_zero] at h0 r0
    have m : min (x :: xs).length (y :: ys).length = min xs.length ys.length + 1 := by first | (simp; done) | (simp; omega)
    rw [m, Ob.lexAt_succ, h0, HT.lexLt_cons]
    have ih := lexAt_ge xs ys e r z (i + 1) (fun j h1 h2 => by
      have := he (j + 1) (by simpa using h1) (by simpa using h2)
      rw [show i + 1 + j = i + (j + 1) by omega, this]
      rfl) (fun j h1 h2 => by
      have := hr (j + 1) (by simpa using h1) (by simpa using h2)
      rw [show i + 1 + j = i + (j + 1) by omega, this]
      rfl) (by rw [hz]; simp)
    rw [ih, r0]
    show (if decide (x = y) = true then !HT.lexLt xs ys else decide (y ≤ x)) = !(if x = y then HT.lexLt xs ys else decide (x < y))
    by_cases q : x = y
    · simp [q]
    · simp only [q, decide_false, Bool.false_eq_true, if_false]
      by_cases q2 : x < y
      · simp [q2]
      · have : y ≤ x := by omega
        simp [q2, this]
def rGeT (K : PySem.W.Frag) : R2 := fun x y H Q => ∃ (a b : Addr) (ns ms : List Int), x = .ref a ∧ y = .ref b ∧ SqT K H a (ns.map V.int) ∧ SqT K H b (ms.map V.int) ∧ Q (.bl (!HT.lexLt ns ms)) H
theorem op_geT {X : Cx} (hu : X.A.units < cLine) : OpR X (compareOp .GtE) (rGeT X.K) := by
  intro pins s σ H x y v u Q I rx ry h
  obtain ⟨a, b, ns, ms, rfl, rfl, ha, hb, q⟩ := h
  cases rx
  cases ry
  obtain ⟨its, r1, p1, _⟩ := I.tuple ha
  obtain ⟨its2, r2, p2, _⟩ := I.tuple hb
  have i1 : IntsAre its ns := Vals.ints r1
  have i2 : IntsAre its2 ms := Vals.ints r2
  have e1 : its.toArray.size = ns.length := by rw [List.size_toArray]; exact i1.length
  have e2 : its2.toArray.size = ms.length := by rw [List.size_toArray]; exact i2.length
  have at1 : ∀ j (h1 : j < its.toArray.size), ∃ t, its.toArray[j] = .int (ns.getD j 0) t := fun j h1 => PyProof.Rows.IntsAre.int_at i1 _ _ (by simp at h1; simp [h1])
  have at2 : ∀ j (h1 : j < its2.toArray.size), ∃ t, its2.toArray[j] = .int (ms.getD j 0) t := fun j h1 => PyProof.Rows.IntsAre.int_at i2 _ _ (by simp at h1; simp [h1])
  have R := Ob.RcOp.tuples_ge (A := X.A) (s := s) (e := fun j => decide (ns.getD j 0 = ms.getD j 0)) (r := fun j => decide (ms.getD j 0 ≤ ns.getD j 0)) p1 p2 hu (fun j h1 h2 => by
    obtain ⟨t, et⟩ := at1 j h1
    obtain ⟨t', et'⟩ := at2 j h2
    rw [et, et']
    have z : (ns.getD j 0 == ms.getD j 0) = decide (ns.getD j 0 = ms.getD j 0) := by
      by_cases q : ns.getD j 0 = ms.getD j 0
      · rw [decide_eq_true q]; exact beq_iff_eq.mpr q
      · rw [decide_eq_false q]; exact beq_eq_false_iff_ne.mpr q
    rw [← z]
    exact SeqAt.EqAt.int_int _ _ _ _) (fun j h1 h2 _ => by
    obtain ⟨t, et⟩ := at1 j h1
    obtain ⟨t', et'⟩ := at2 j h2
    rw [et, et']
    exact Ob.RcOp.ge_int _ _ _ _)
  rw [e1, e2] at R
  have key := lexAt_ge ns ms (fun j => decide (ns.getD j 0 = ms.getD j 0)) (fun j => decide (ms.getD j 0 ≤ ns.getD j 0)) (decide (ms.length ≤ ns.length)) 0 (fun j _ _ => by rw [Nat.zero_add]) (fun j _ _ => by rw [Nat.zero_add]) rfl
  rw [key] at R
  have z : wpAny (model X.prog X.w) X.A (compareOp .GtE (.ref a) (.ref b)) (EP X pins σ Q) X.xe s := R X.prog X.w X.xe (EP X pins σ Q) ⟨.bl (!HT.lexLt ns ms), H, I, rfl, q⟩
  exact z
end L2

/-! ### tuples of ints, sorted -/
namespace SrtL
open PySem PySem.Calls PySem.W PyProof.Rows SrtO
section
variable {prog : Program} {w : World} {A : Around} {E : Value → Shared → Prop} {s : Shared}
def IsTI (h : Heap) (v : Value) (ns : List Int) : Prop := ∃ a o xs n, v = .ref a ∧ h.get? a = some o ∧ o.cls = .type "tuple" ∧ o.data = .seq xs n ∧ IntsAre xs.toList ns
theorem IsTI.keeps {h h' : Heap} {v : Value} {ns : List Int} (p : IsTI h v ns) (k : ∀ b o, h.get? b = some o → o.cls = .type "tuple" → h'.get? b = some o) : IsTI h' v ns := by
  obtain ⟨a, o, xs, n, e, ho, hc, hd, hi⟩ := p
  exact ⟨a, o, xs, n, e, k _ _ ho hc, hc, hd, hi⟩
theorem katlex_ints : ∀ {us ws : List Value} {xs ys : List Int} {i : Nat}, IntsAre us xs → IntsAre ws ys → KatLex prog w A true (decide (us.length < ws.length)) (fun r s' => s' = s ∧ r = HT.lexLt xs ys) (us.zip ws) i s
  | [], [], xs, ys, i, h1, h2 => by
    cases h1; cases h2
    exact kat_nil ⟨rfl, rfl⟩
  | [], u :: ws, xs, ys, i, h1, h2 => by
    cases h1; cases h2
    exact kat_nil ⟨rfl, rfl⟩
  | u :: us, [], xs, ys, i, h1, h2 => by
    cases h1; cases h2
    exact kat_nil ⟨rfl, rfl⟩
  | u :: us, v :: ws, xs, ys, i, h1, h2 => by
    cases h1 with
    | @cons x t _ _ h1 =>
    cases h2 with
    | @cons y t' _ _ h2 =>
    refine kat_cons (SeqAt.EqAt.int_int x t y t' prog w _ _ ?_)
    refine kat_go (fun e1 => ?_) (fun e1 => ?_)
    · have ex : x = y := by simpa using e1
      refine kat_yes ?_
      have ih := katlex_ints (i := i + 1) h1 h2
      have e2 : decide (us.length < ws.length) = decide ((Value.int x t :: us).length < (Value.int y t' :: ws).length) := by simp
      rw [e2] at ih
      have e3 : ∀ a b, HT.lexLt (x :: a) (y :: b) = HT.lexLt a b := fun a b => by rw [HT.lexLt_cons, if_pos ex]
      rw [e3]
      exact ih
    · have ex : ¬ x = y := by simpa using e1
      refine kat_no ?_
      have e3 : ∀ a b, HT.lexLt (x :: a) (y :: b) = decide (x < y) := fun a b => by rw [HT.lexLt_cons, if_neg ex]
      rw [e3]
      cases i with
      | zero => exact oneLt_int ⟨rfl, rfl⟩
      | succ i => exact kat_one _ _ (PyProof.Rows.lt_int (Q := PySem.W.BoolBack _) ⟨rfl, rfl⟩)
theorem ti_cmp {vs : List Value} {k : Value → List Int} (hp : ∀ v ∈ vs, IsTI s.heap v (k v)) : Cmp prog w A s (tuples' true) (fun p => p.1 ∈ vs) (lt2 fun v u => HT.lexLt (k v) (k u)) := by
  intro p q hm hm'
  have h1 := hp _ hm
  have h2 := hp _ hm'
  show wpAny (model prog w) A (keyLt' (tuples' true) p.1 q.1) (fun r s' => s' = s ∧ r = HT.lexLt (k p.1) (k q.1)) (fun _ _ => False) s
  obtain ⟨a, o, xs, n, e, ho, hc, hd, hi⟩ := h1
  obtain ⟨a', o', xs', n', e', ho', hc', hd', hi'⟩ := h2
  rw [e, e']
  refine PySem.W.kat_lt ho hd ho' hd' ?_
  have := katlex_ints (prog := prog) (w := w) (A := A) (s := s) (i := 0) hi hi'
  rw [Array.length_toList, Array.length_toList] at this
  rw [← e, ← e']
  exact this
theorem ti_firsts {h : Heap} {k : Value → List Int} : ∀ {vs : List Value}, (∀ v ∈ vs, IsTI h v (k v) ∧ k v ≠ []) → ∃ fs : List Value, PySem.W.KatTups h vs fs ∧ fs.length = vs.length ∧ ∀ f ∈ fs, ∃ x t, f = Value.int x t
  | [], _ => ⟨[], PySem.W.KatTups.nil, rfl, fun _ hm => by simp at hm⟩
  | v :: vs, hp => by
    obtain ⟨fs, h1, h2, h3⟩ := ti_firsts (vs := vs) fun v' hm => hp v' (List.mem_cons_of_mem _ hm)
    obtain ⟨⟨a, o, xs, n, e, ho, hc, hd, hi⟩, ne⟩ := hp v (List.mem_cons_self ..)
    subst e
    generalize k (.ref a) = ns at hi ne
    generalize hx : xs.toList = us at hi
    cases hi with
    | nil => exact absurd rfl ne
    | @cons x t _ _ hi =>
      refine ⟨.int x t :: fs, PySem.W.KatTups.cons ho hc hd ?_ h1, by rw [List.length_cons, List.length_cons, h2], fun f hm => ?_⟩
      · rw [← Array.getElem?_toList, hx]
        rfl
      · rcases List.mem_cons.mp hm with rfl | hm
        · exact ⟨x, t, rfl⟩
        · exact h3 f hm
theorem ti_sortableO {a : Addr} {vs : List Value} {k : Value → List Int} (h0 : 0 < vs.length) (hp : ∀ v ∈ vs, IsTI s.heap v (k v) ∧ k v ≠ []) (ha : ∀ o, s.heap.get? a = some o → o.cls ≠ .type "tuple") : SortableO prog w A s a vs fun v u => HT.lexLt (k v) (k u) := by
  intro h' keep
  have hp' : ∀ v ∈ vs, IsTI h' v (k v) ∧ k v ≠ [] := fun v hm => ⟨(hp v hm).1.keeps fun b o e c => keep b o (fun z => by subst z; exact ha o e c) e, (hp v hm).2⟩
  obtain ⟨fs, h1, h2, h3⟩ := ti_firsts hp'
  refine ⟨tuples' true, fun Q E hq => ?_, ti_cmp fun v hm => (hp' v hm).1⟩
  refine PySem.W.kat_kind (T := .type "int") h1 (by omega) (fun f hm => ?_) (by rfl) ?_
  · obtain ⟨x, t, rfl⟩ := h3 f hm
    exact PySem.W.Looks.now
  · have e : (Value.type "int" != Value.type "tuple") = true := by first | decide +kernel | rfl | decide
    rw [e]
    exact hq
/-- the first items, if they are -/
theorem ti_mapF {M : Model} {k : Value → List Int} : ∀ (vs : List Value) {Q : List (Option Value) → Shared → Prop}, (∀ v ∈ vs, IsTI s.heap v (k v)) → (∀ fs : List (Option Value), fs.map Option.isSome = vs.map (fun v => !(k v).isEmpty) → Q fs s) → wpAny M A (vs.mapM firstOfTuple') Q E s
  | [], _, _, h => by rw [List.mapM_nil]; exact wpAny_pure (h [] rfl)
  | v :: vs, Q, hp, h => by
    obtain ⟨a, o, xs, n, e, ho, hc, hd, hi⟩ := hp v (List.mem_cons_self ..)
    have hs : (xs[0]?).isSome = !(k v).isEmpty := by
      rw [← Array.getElem?_toList]
      generalize xs.toList = us at hi
      generalize k v = ns at hi
      cases hi <;> rfl
    rw [List.mapM_cons]
    refine wpAny_bind ?_
    subst e
    rw [kas_first_eq]
    refine wpAny_bind (Looks.here (show Looks M s.heap (typeOf (.ref a)) o.cls from (Looks.ld ho).andThen .now) ?_)
    rw [hc, if_neg (by first | decide | simp)]
    refine wpAny_bind (listItems_at ho hd (wpAny_pure ?_))
    exact wpAny_bind (ti_mapF vs (Q := fun bs s' => wpAny M A (pure (xs[0]? :: bs)) Q E s') (fun v' hm => hp v' (List.mem_cons_of_mem _ hm)) fun fs hf => wpAny_pure (h _ (by rw [List.map_cons, List.map_cons, hs, hf])))
theorem ti_look {M : Model} {v : Value} {ns : List Int} (h : IsTI s.heap v ns) : Looks M s.heap (typeOf v) (.type "tuple") := by
  obtain ⟨a, o, xs, n, rfl, ho, hc, hd, hi⟩ := h
  have := show Looks M s.heap (typeOf (.ref a)) o.cls from (Looks.ld ho).andThen .now
  rw [hc] at this
  exact this
/-- their kind, one of them being empty -/
theorem ti_kind {M : Model} {vs : List Value} {k : Value → List Int} {Q : SortKind → Shared → Prop} (h2 : 2 ≤ vs.length) (hp : ∀ v ∈ vs, IsTI s.heap v (k v)) (ne : ¬ ∀ v ∈ vs, k v ≠ []) (h : Q (if (vs.head?.any fun v => !(k v).isEmpty) = true then general' else oneType') s) : wpAny M A (keyKind' vs.toArray) Q E s := by
  rw [kat_kind_eq, List.mapM_toArray, map_eq_pure_bind]
  refine wpAny_bind (wpAny_bind (ti_mapF vs hp fun fs hf => wpAny_pure ?_))
  have na : ¬ (fs.toArray.all fun x => x.isSome) = true := by
    intro z
    rw [List.all_toArray] at z
    refine ne fun v hv e => ?_
    obtain ⟨i, hi, rfl⟩ := List.mem_iff_getElem.mp hv
    have l : i < fs.length := by
      have := congrArg List.length hf
      rw [List.length_map, List.length_map] at this
      omega
    have q := congrArg (fun l => l[i]?) hf
    simp only [List.getElem?_map, List.getElem?_eq_getElem hi, List.getElem?_eq_getElem l, Option.map_some, e] at q
    have := List.all_eq_true.mp z _ (List.getElem_mem l)
    rw [this] at q
    cases q
  rw [if_neg na]
  have ef : ((fs.toArray[0]?.bind id).isSome) = vs.head?.any fun v => !(k v).isEmpty := by
    cases vs with
    | nil => simp at h2
    | cons v vs =>
      cases fs with
      | nil => exact absurd (congrArg List.length hf) (by simp)
      | cons f fs =>
        rw [List.map_cons, List.map_cons] at hf
        have hf := (List.cons.inj hf).1
        first | exact hf | (simpa using hf)
  rw [← ef] at h
  by_cases f0 : ((fs.toArray[0]?.bind id).isSome) = true
  · rw [if_pos f0] at h ⊢
    exact wpAny_pure h
  · rw [if_neg f0] at h ⊢
    obtain ⟨v₁, v₂, rest, rfl⟩ : ∃ v₁ v₂ rest, vs = v₁ :: v₂ :: rest := by
      match vs, h2 with
      | [], h2 => simp at h2
      | [_], h2 => simp at h2
      | v₁ :: v₂ :: rest, _ => exact ⟨v₁, v₂, rest, rfl⟩
    rw [oneTypeOnly'_eq, List.mapM_toArray, map_eq_pure_bind]
    refine wpAny_bind (wpAny_bind (wpAny_bind (kas_mapM (r := Value.type "tuple") _ (fun v hv Q' hq => (ti_look (hp v hv)).here hq) (wpAny_pure ?_))))
    have hall : ((List.map (fun _ => Value.type "tuple") (v₁ :: v₂ :: rest)).toArray.all fun x => x == Value.type "tuple") = true := by
      simp only [List.all_toArray, List.all_map, List.all_eq_true]
      intro _ _
      exact beq_self_eq_true _
    have h0 : (List.map (fun _ => Value.type "tuple") (v₁ :: v₂ :: rest)).toArray[0]? = some (Value.type "tuple") := by simp
    rw [h0]
    simp only [hall, if_true]
    exact wpAny_pure (wpAny_pure h)
theorem ti_tup {h : Heap} {v : Value} {ns : List Int} (p : IsTI h v ns) : ∃ a dd xs n sl, v = .ref a ∧ h.get? a = some { cls := .type "tuple", dict := dd, data := .seq xs n, slots := sl } ∧ IntsAre xs.toList ns := by
  obtain ⟨a, o, xs, n, e, ho, hc, hd, hi⟩ := p
  obtain ⟨cls, dd, data, sl⟩ := o
  simp only at hc hd
  subst hc hd
  exact ⟨a, dd, xs, n, sl, e, ho, hi⟩
theorem ti_cmpG {vs : List Value} {k : Value → List Int} (hu : A.units < cLine) (hp : ∀ v ∈ vs, IsTI s.heap v (k v)) : Cmp prog w A s general' (fun p => p.1 ∈ vs) (lt2 fun v u => HT.lexLt (k v) (k u)) := by
  intro p q hm hm'
  obtain ⟨a, dd, xs, n, sl, e, ho, hi⟩ := ti_tup (hp _ hm)
  obtain ⟨a', dd', xs', n', sl', e', ho', hi'⟩ := ti_tup (hp _ hm')
  show wpAny (model prog w) A (oneLt' false p.1 q.1) (fun r s' => s' = s ∧ r = HT.lexLt (k p.1) (k q.1)) (fun _ _ => False) s
  generalize k p.1 = ns at hi ⊢
  generalize k q.1 = ms at hi' ⊢
  rw [e, e']
  exact kat_one _ _ (HT.lt_tupInts ⟨_, ho, rfl, _, rfl⟩ ⟨_, ho', rfl, _, rfl⟩ hi hi' hu ⟨rfl, rfl⟩)
theorem ti_cmpO {vs : List Value} {k : Value → List Int} (hu : A.units < cLine) (hp : ∀ v ∈ vs, IsTI s.heap v (k v)) : Cmp prog w A s oneType' (fun p => p.1 ∈ vs) (lt2 fun v u => HT.lexLt (k v) (k u)) := by
  intro p q hm hm'
  obtain ⟨a, dd, xs, n, sl, e, ho, hi⟩ := ti_tup (hp _ hm)
  obtain ⟨a', dd', xs', n', sl', e', ho', hi'⟩ := ti_tup (hp _ hm')
  show wpAny (model prog w) A (keyLt' oneType' p.1 q.1) (fun r s' => s' = s ∧ r = HT.lexLt (k p.1) (k q.1)) (fun _ _ => False) s
  generalize k p.1 = ns at hi ⊢
  generalize k q.1 = ms at hi' ⊢
  rw [e, e', keyLt'_oneType, oneLt'_eq]
  simp only [if_true]
  refine wpAny_bind (wpAny_cRoomFor hu ?_)
  refine wpAny_bind (wpAny_callSpecialIfBound?_slot (T := "tuple") ⟨_, ho, rfl⟩ PySem.F.slot_tuple_lt (call_meets PySem.F.slot_tuple_lt ⟨_, ho, rfl⟩ PySem.F.entry_tuple_lt (PySem.F.args_tuple_lt_2 _ _) (HT.tuple_lt_ints a a' xs xs' n n' dd dd' sl sl' ns ms hi hi') ⟨ho, ho', ?_⟩))
  exact wpAny_truthy_bool ⟨rfl, rfl⟩
theorem ti_sortableE {a : Addr} {vs : List Value} {k : Value → List Int} (h2 : 2 ≤ vs.length) (hu : A.units < cLine) (hp : ∀ v ∈ vs, IsTI s.heap v (k v)) (ha : ∀ o, s.heap.get? a = some o → o.cls ≠ .type "tuple") : SortableO prog w A s a vs fun v u => HT.lexLt (k v) (k u) := by
  by_cases ne : ∀ v ∈ vs, k v ≠ []
  · exact ti_sortableO (by omega) (fun v hv => ⟨hp v hv, ne v hv⟩) ha
  · intro h' keep
    have hp' : ∀ v ∈ vs, IsTI h' v (k v) := fun v hm => (hp v hm).keeps fun b o e c => keep b o (fun z => by subst z; exact ha o e c) e
    refine ⟨_, fun Q E hq => ti_kind h2 hp' ne hq, ?_⟩
    split
    · exact ti_cmpG hu hp'
    · exact ti_cmpO hu hp'
/-- sorted(l) of tuples of ints -/
theorem sorted_ti {l : Addr} {vs : List Value} {k : Value → List Int} {Q : Value → Shared → Prop} (hl : s.heap.IsList l vs.toArray) (hz : vs.length ≤ sizeLine) (hu : A.in1.in1.units < cLine) (hp : ∀ v ∈ vs, IsTI s.heap v (k v))
    (h : ∀ (h' : Heap) (d : Addr) (out : List Value), Srtd (fun v u => HT.lexLt (k v) (k u)) out → Stb (fun v u => HT.lexLt (k v) (k u)) out vs → (∀ b o, s.heap.get? b = some o → h'.get? b = some o) → s.heap.objs.size ≤ d → (∃ n, h'.get? d = some (seqObj "list" out.toArray n)) → Q (.ref d) { s with heap := h' }) :
    wpAny (model prog w) A (call (.builtin "sorted") [.ref l]) Q E s := by
  refine sorted_ord (NtL.swo_lexL k) hl hz (fun h2 h₁ a ha kk => ?_) fun out hs hb => ?_
  · refine ti_sortableE (s := { s with heap := h₁ }) h2 hu (fun v hm => (hp v hm).keeps fun b o e _ => (kk b o e).2) fun o e => ?_
    have e' : some o = some (seqObj "list" vs.toArray 0) := e.symm.trans ha
    cases e'
    intro c
    exact absurd (Value.type.inj c) (by decide)
  · exact h _ _ out hs hb (fun b o e => sortedAll_old e) (Nat.le_succ _) (sortedAll_at s.heap vs out.toArray)
end
end SrtL
namespace L2
open PySem PySem.Spec PyProof.Rows
/-- of any length -/
def anyNs (_ : List Int) : Prop := True
/-- x before y: by the ints of their tuples -/
abbrev ltL (k : V → List Int) (x y : V) : Bool := HT.lexLt (k x) (k y)
theorem ltL_swo (k : V → List Int) : SrtO.Swo (ltL k) := NtL.swo_lexL k
def rSortedLX (K : PySem.W.Frag) : List V → Hp → VK → Prop := fun vs H Q => ∃ (a : Addr) (xs : List V) (k : V → List Int), vs = [V.ref a] ∧ SqL K H a xs ∧ (∀ x ∈ xs, anyNs (k x) ∧ ∃ t, x = V.ref t ∧ H t = some (.tup ((k x).map V.int))) ∧
  ∀ ys p, SrtO.Srtd (ltL k) ys → ys.Perm xs → H p = none → Q (.ref p) (upd H p (.lst ys))
section
variable {X : Cx}
theorem cr_sortedLX (hu : X.A.units + 64 < cLine) : CallR X (.builtin "sorted") (rSortedLX X.K) := by
  intro pins s σ H vs us Q I r h
  obtain ⟨a, xs, k, rfl, hs, hx, q⟩ := h
  obtain ⟨its, rv, hl, hz⟩ := I.list hs
  obtain ⟨u, rfl, ru⟩ := vals1 r
  obtain rfl : u = Value.ref a := ru
  obtain ⟨e1, e2⟩ := refs_back rv fun x m => by
    obtain ⟨_, t, e, _⟩ := hx x m
    exact ⟨t, e⟩
  refine SrtL.sorted_ti (k := fun u => k (backV u)) hl.isList (by rw [← rv.length]; exact hz) (by show X.A.units + 1 + 1 < cLine; omega) (fun v hv => ?_) fun h' d out h1 h2 kp hd hn => ?_
  · obtain ⟨t, rfl⟩ := e2 v hv
    have hm : V.ref t ∈ xs := by rw [e1]; exact List.mem_map.mpr ⟨_, hv, rfl⟩
    obtain ⟨ne, t', e, ht⟩ := hx _ hm
    cases e
    obtain ⟨_, its2, r2, o, ho, hc, n, hd⟩ := I.hok _ _ ht
    exact ⟨t, o, _, n, rfl, ho, hc, hd, Vals.ints r2⟩
  · have h3 : ∀ u ∈ out, ∃ a, u = Value.ref a := fun u hu => e2 u (h2.perm.mem_iff.mp hu)
    obtain ⟨n, hn⟩ := hn
    have hb : (out.map backV).Perm xs := by
      rw [e1]
      exact h2.perm.map backV
    refine ⟨.ref d, upd H d (.lst (out.map backV)), I.laid (t' := s.toks) kp hd ⟨?_, out, n, vals_back h3, hn⟩, rfl, q _ d (SrtO.srtd_map h1) hb (I.hok.fresh hd)⟩
    rw [hb.length_eq]
    exact hz
/-- sorted(d), the keys of d tuples of ints -/
def rSortedLXd : List V → Hp → VK → Prop := fun vs H Q => ∃ (a : Addr) (kvs : List (List Key × V)) (k : V → List Int), vs = [V.ref a] ∧ Rd H a (.dT kvs) ∧ (∀ p ∈ kvs, ∃ ns : List Int, anyNs ns ∧ p.1 = ns.map Sum.inl ∧ ∀ t, H t = some (.tup (ns.map V.int)) → k (.ref t) = ns) ∧
  ∀ (bs : List Addr) (ys : List V) p, IsKeys H kvs bs → SrtO.Srtd (ltL k) ys → ys.Perm (bs.map V.ref) → H p = none → Q (.ref p) (upd H p (.lst ys))
theorem cr_sortedLXd (hu : X.A.units + 64 < cLine) (hcalm : X.calm = true) : CallR X (.builtin "sorted") rSortedLXd := by
  intro pins s σ H xs us Q I r q
  obtain ⟨a, kvs, k, ex, hd, hk, q⟩ := q
  subst ex
  obtain ⟨u, eu, rx⟩ := vals1 r
  subst eu
  cases rx
  obtain ⟨z, hs, ks, pr, o, es, ep, ho, hx, hdt, he, hn⟩ := (show ObjOk X.prog X.w H s.heap a (.dT kvs) from hd.ok I.hok)
  have l1 : es.size = ks.length := size_of_entries he
  have l2 : kvs.length = ks.length := Paired.length pr
  have h16 : es.size ≤ sizeLine := by omega
  refine Calls.call_function_entry PyProof.Rows.kind_sorted PyProof.Rows.plain_sorted PyProof.Rows.entry_sorted (PyProof.Rows.args_sorted1 _) ?_
  unfold Builtin.«sorted»
  refine wpAny_bind (m := checkCount "sorted" 1 1 _) (wpAny_pure ?_)
  refine wpAny_bind (PySem.W.kdu_collect (A := X.A.in1) (kdl_raw hs hx hdt) (I.ok.hd hcalm) ho h16 fun h' tk acc hk' it => ?_)
  have ea : acc.toList = ks.map fun x => Value.ref x.2.1 := by
    have hl : acc.toList.length = ks.length := by rw [Array.length_toList, it.1]; exact l1
    apply List.ext_getElem?
    intro j
    rw [List.getElem?_map]
    cases hj : acc.toList[j]? with
    | none =>
      have h1 := List.getElem?_eq_none_iff.mp hj
      rw [List.getElem?_eq_none (by omega)]
      all_goals rfl
    | some v =>
      obtain ⟨en, hen, hv⟩ := it.2 j v (by rw [← Array.getElem?_toList]; exact hj)
      have qe := entry_at he j
      rw [hen] at qe
      cases hb : ks[j]? with
      | none =>
        rw [hb] at qe
        exact nomatch (show some en = none from qe)
      | some b =>
        rw [hb] at qe
        have e2 : en = entryOfKey (tupleKind (mixKind X.prog X.w)) b := Option.some.inj qe
        rw [hv, e2]
        all_goals rfl
  have eb : acc.toList = (ks.map fun x => x.2.1).map Value.ref := by rw [ea, List.map_map]; all_goals rfl
  have ik : IsKeys H kvs (ks.map fun x => x.2.1) := isKeys_of pr
  generalize hbs : (ks.map fun x => x.2.1) = bs at eb ik
  have lb : bs.length = ks.length := by rw [← hbs, List.length_map]
  have hal : acc.toList.length = bs.length := by rw [eb, List.length_map]
  have I1 : Inv X pins σ H { s with heap := h', toks := tk } := I.kept hk'
  have tis : ∀ b ∈ bs, ∃ ns : List Int, anyNs ns ∧ k (.ref b) = ns ∧ H b = some (.tup (ns.map V.int)) := by
    have key : ∀ {kvs : List (List Key × V)} {bs : List Addr}, IsKeys H kvs bs → (∀ p ∈ kvs, ∃ ns : List Int, anyNs ns ∧ p.1 = ns.map Sum.inl ∧ ∀ t, H t = some (.tup (ns.map V.int)) → k (.ref t) = ns) → ∀ b ∈ bs, ∃ ns : List Int, anyNs ns ∧ k (.ref b) = ns ∧ H b = some (.tup (ns.map V.int)) := by
      intro kvs bs ik
      unfold IsKeys at ik
      induction ik with
      | nil => intro _ b hb; cases hb
      | cons h t ih =>
        intro hk b hb
        rcases List.mem_cons.mp hb with rfl | hb
        · obtain ⟨ns, ne, e1, e2⟩ := hk _ List.mem_cons_self
          have e3 : H b = some (.tup (ns.map V.int)) := by
            rw [h, e1, List.map_map]
            rfl
          exact ⟨ns, ne, e2 _ e3, e3⟩
        · exact ih (fun p hp => hk p (List.mem_cons_of_mem _ hp)) b hb
    exact key ik hk
  refine wpAny_bind (wpAny_newList ?_ (by rw [hal, lb, ← l2]; omega))
  have hoL : (h'.push (seqObj "list" acc.toList.toArray 0)).get? h'.objs.size = some (seqObj "list" acc.toList.toArray 0) := Heap.get?_push_size _ rfl
  show wpAny _ _ _ _ _ { s with heap := h'.push (seqObj "list" acc.toList.toArray 0), toks := tk }
  have hti : ∀ v ∈ acc.toList, SrtL.IsTI (h'.push (seqObj "list" acc.toList.toArray 0)) v (k (backV v)) := fun v hv => by
    rw [eb] at hv
    obtain ⟨b, hb, rfl⟩ := List.mem_map.mp hv
    obtain ⟨ns, ne, e1, e2⟩ := tis b hb
    show SrtL.IsTI _ (.ref b) (k (.ref b))
    rw [e1]
    obtain ⟨_, its2, r2, o, ho, hc, n, hd⟩ := I1.hok _ _ e2
    exact ⟨b, o, _, n, rfl, Heap.get?_push_of_some _ ho, hc, hd, Vals.ints r2⟩
  refine wpAny_bind (wpAny_holding (wpAny_call_entry PyProof.Rows.slot_list_sort ⟨_, hoL, rfl⟩ PyProof.Rows.entry_list_sort
    (SrtO.list_sort_ord (s := { s with heap := h'.push (seqObj "list" acc.toList.toArray 0), toks := tk }) (NtL.swo_lexL fun u => k (backV u)) hoL (by rw [hal, lb]; omega) (fun h2 => SrtL.ti_sortableE h2 (by show X.A.units + 1 + 1 < cLine; omega) hti fun o e => by
      have e' : some o = some (seqObj "list" acc.toList.toArray 0) := e.symm.trans hoL
      cases e'
      intro c
      exact absurd (Value.type.inj c) (by decide)) fun out g1 g2 => ⟨_, rfl, ?_⟩) (PyProof.Rows.args_list_sort _)))
  obtain ⟨e', he'⟩ := PyProof.Rows.sortedHeap_at (vs := acc.toList) (out := out.toArray) hoL
  have h3 : ∀ u ∈ out, ∃ a, u = Value.ref a := fun u hu => by
    have := g2.perm.mem_iff.mp hu
    rw [eb] at this
    obtain ⟨b, _, e⟩ := List.mem_map.mp this
    exact ⟨b, e.symm⟩
  have hp : (out.map backV).Perm (bs.map V.ref) := by
    have p1 := g2.perm.map backV
    rw [eb, List.map_map] at p1
    exact p1
  have hlen : (out.map backV).length ≤ sizeLine := by
    rw [hp.length_eq, List.length_map, lb]
    omega
  refine wpAny_pure ⟨_, rfl, .ref h'.objs.size, upd H h'.objs.size (.lst (out.map backV)), I1.laid (t' := tk) (fun b u e => ?_) (Nat.le_refl _)
    (show ObjOk X.prog X.w _ _ _ (.lst (out.map backV)) from ⟨hlen, out, e', vals_back h3, he'⟩), rfl, q bs _ _ ik (SrtO.srtd_map g1) hp (I1.hok.fresh (Nat.le_refl _))⟩
  have hb : b < h'.objs.size := Heap.lt_size e
  rw [PyProof.Rows.sortedHeap_old (Nat.ne_of_lt hb) (by rw [size_push']; exact Nat.lt_succ_of_lt hb)]
  exact Heap.get?_push_of_some _ e
end
end L2

/-! ### list(range(a, b, c)) -/
namespace L2
open PySem PySem.Spec PyProof.Rows
def PRg3 (X : Cx) (e : Expr) (t : St → Hp → (Int → Int → Int → Hp → Prop) → Prop) : Prop :=
  ∀ (pins : List (Addr × Obj)) (s : Shared) (σ : St) (H : Hp) (Q : Int → Int → Int → Hp → Prop), Inv X pins σ H s → t σ H Q →
    wpAny (model X.prog X.w) X.A (eval e X.env) (fun x s' => ∃ r a b c t u v H', x = .ref r ∧ IsRange s'.heap r a b c t u v ∧ Inv X pins σ H' s' ∧ Q a b c H') X.xe s
def tRg3 (ta tb tc : TE) : St → Hp → (Int → Int → Int → Hp → Prop) → Prop := fun σ H Q => ta σ H fun x H1 => tb σ H1 fun y H2 => tc σ H2 fun z H3 => ∃ i j c, x = .int i ∧ y = .int j ∧ z = .int c ∧ (c ≠ 0 ∧ c.natAbs < 1073741824) ∧ Q i j c H3
section
variable {X : Cx} {a b c e : Expr} {ta tb tc : TE}
theorem prg_3 {p pos : Pos} (hg : Gl X "range") (hm : X.mg "range" = none) (ha : PE X a ta) (hb : PE X b tb) (hc : PE X c tc) (na : starEach [a, b, c] X.env = (false, eval a X.env) :: starEach [b, c] X.env)
    (nb : starEach [b, c] X.env = (false, eval b X.env) :: starEach [c] X.env) (nc : starEach [c] X.env = (false, eval c X.env) :: starEach [] X.env) (hp : (backTo pos (starEach [b, c] X.env)).any (·.1) = false) (hp2 : (backTo pos (starEach [c] X.env)).any (·.1) = false) : PRg3 X (.Call (.Name "range" p) [a, b, c] [] pos) (tRg3 ta tb tc) := by
  intro pins s σ H Q I h
  refine Call_ (ld_blt I hg hm boot_range (PyProof.Rows.callWith_type1 (args_cons (thn (ha.run pins s σ H _ I h) fun v s1 ⟨x, H1, I1, r1, q1⟩ => args_cons (thn (hb.run pins s1 σ H1 _ I1 q1) fun u s2 ⟨y, H2, I2, r2, q2⟩ => one_arg hc I2 q2 (fun w s3 z H3 I3 r3 q => ?_) nc) nb) na) na hp))
  obtain ⟨i, j, k, rfl, rfl, rfl, ⟨c0, c1⟩, q⟩ := q
  obtain ⟨t, rfl⟩ := r1
  obtain ⟨t', rfl⟩ := r2
  obtain ⟨t'', rfl⟩ := r3
  exact call_range_3 c0 ⟨_, i, j, k, _, _, _, H3, rfl, IsRange.new _ _ _ _ _ _ _, I3.kept fun b u e => Heap.get?_push_of_some _ e, q⟩ (.inl (PyProof.noPylong_small c1))
def rgV3 (a c : Int) (n : Nat) : List V := (List.range n).map fun i => V.int (a + (i : Nat) * c)
theorem vals_rg3 {a c : Int} {n : Nat} {acc : Array Value} (h : ItemsOf (fun i v => ∃ t, v = .int (a + i * c) t) acc n) : Vals (rgV3 a c n) acc.toList := by
  have e : acc.toList.length = n := by rw [Array.length_toList]; exact h.1
  unfold rgV3
  rw [← e]
  refine vals_of_get acc.toList _ fun j u hj => ?_
  obtain ⟨t, rfl⟩ := h.2 j u (by rw [← hj, Array.getElem?_toList])
  exact ⟨t, rfl⟩
def tLst3 (te : St → Hp → (Int → Int → Int → Hp → Prop) → Prop) : TE := fun σ H Q => te σ H fun a b c H1 => ∃ n : Nat, (Builtin.Range.small a b c = true ∧ Builtin.Range.rangeSize a b c = n ∧ n ≤ 2 ^ 24) ∧ ∀ q, H1 q = none → Q (.ref q) (upd H1 q (.lst (rgV3 a c n)))
theorem pe_list3 {te : St → Hp → (Int → Int → Int → Hp → Prop) → Prop} {p pos : Pos} (hc : X.calm = true) (hg : Gl X "list") (hm : X.mg "list" = none) (he : PRg3 X e te) (na : starEach [e] X.env = (false, eval e X.env) :: starEach [] X.env := by rfl) : PE X (.Call (.Name "list" p) [e] [] pos) (tLst3 te) := by
  refine ⟨fun pins s σ H Q I h => ?_⟩
  refine Call_ (ld_blt I hg hm boot_list (PyProof.Rows.callWith_type1 (args_cons (thn (he pins s σ H _ I h) fun x s1 ⟨r, a, b, k, t, u, v, H1, ex, hr, I1, n, ok, q⟩ => args_nil ?_) na) na))
  subst ex
  obtain ⟨b1, b2, b5⟩ := ok
  refine call_list_range (n := n) (I1.ok.hd hc) hr b1 b2 b5 fun h' tk acc c' hk e' hi => ?_
  refine ⟨.ref s1.heap.objs.size, upd H1 s1.heap.objs.size (.lst (rgV3 a k n)), I1.laid hk (Nat.le_refl _) (show ObjOk X.prog X.w _ _ _ (.lst (rgV3 a k n)) from ⟨?_, acc.toList, c', vals_rg3 hi, ?_⟩), rfl, q _ (I1.hok.fresh (Nat.le_refl _))⟩
  · unfold rgV3
    rw [List.length_map, List.length_range, sizeLine_eq]; omega
  · rw [Array.toArray_toList]; exact e'
end
end L2

/-! ### min(a, b) of data -/
namespace L2
open PySem PySem.Spec PyProof.Rows PySem.SeqAt
section
variable {prog : Program} {w : World} {A : Around} {E : Value → Shared → Prop} {s : Shared}
theorem call_min2_data {a b : Value} {x y : PyData} {as bs : List Addr} {Q : Value → Shared → Prop} (hh : A.handled = none) (r1 : Reads s.heap a x as) (r2 : Reads s.heap b y bs) (al : PySem.W.AlikeAll [x, y]) (hu : A.units + 1 + PyData.depthAll [x, y] < cLine)
    (h : ∀ h' tk, (∀ c o, s.heap.get? c = some o → h'.get? c = some o) → Q (if PySem.W.dataLt y x then b else a) { s with heap := h', toks := tk }) :
    wpAny (model prog w) A (call (.builtin "min") [a, b]) Q E s := by
  have hname : (toString "min" ++ toString ".loop" : String) = "min.loop" := by decide
  have hT : (s.heap.push { cls := .type "tuple", data := .seq #[a, b] }).IsTuple s.heap.objs.size #[a, b] := ⟨_, Heap.get?_push_size _ rfl, rfl, 0, rfl⟩
  have old : ∀ c o, s.heap.get? c = some o → (s.heap.push { cls := .type "tuple", data := .seq #[a, b] }).get? c = some o := fun c o e => Heap.get?_push_of_some _ e
  refine call_function_tree F.kind_min F.plain_min F.entry_min (F.args_min2 _ _) ?_
  show wpAny _ A.in1 (Builtin.Builtins.bindParams "min" ["key", "default"] 0 ⟨[], []⟩ >>= _) _ _ s
  refine wpAny_bind (wpAny_of_eq (show Builtin.Builtins.bindParams "min" ["key", "default"] 0 ⟨[], []⟩ = pure [none, none] from rfl) ?_)
  show wpAny _ A.in1 (newTuple [a, b] >>= _) _ _ s
  refine wpAny_bind (wpAny_newObj_type ?_)
  refine wpAny_bind (PySem.W.iter_tupleW (s := { s with heap := s.heap.push { cls := .type "tuple", data := .seq #[a, b] } }) (A := A.in1) hh hT fun s₂ e W hst hfp hw hkeep => ?_)
  have hcmp := PySem.W.cmpIn_lt (prog := prog) (w := w) (A := A.in1) (s := { s with heap := s.heap.push { cls := .type "tuple", data := .seq #[a, b] } }) (vs := #[a, b]) (PyProof.Rows.ReadsAll.keeps old (.cons r1 (.cons r2 .nil))) al (by show A.units + 1 + _ < _; exact hu)
  refine wpAny_bind (wpAny_newObj_type ?_)
  have hSf := fun hm => Nat.lt_irrefl _ (hfp s₂.heap.objs.size hm)
  rw [hname]
  refine wpAny_pure ⟨plainId_quiet F.plain_min_loop _, codeAny_min_loop_firstH W _ hw _ hcmp s₂.heap.objs.size hSf (fresh_in hkeep) _ (show 0 < 2 by decide) (fun b o e => Heap.get?_push_of_some _ (hkeep b o e)) (W.frame 0 s₂ _ s₂.toks hst (Nat.le_refl _) fun b _ o e => Heap.get?_push_of_some _ e) (Heap.get?_push_size _ rfl) fun v s' hP hm => ?_⟩
  obtain ⟨h', tk, rfl, hk'⟩ := PySem.W.moved_old e rfl (Moved.drop_new (tk := s₂.toks) hm (Nat.le_refl _))
  have hv : v = if PySem.W.dataLt y x then b else a := by
    by_cases c : PySem.W.dataLt y x = true
    · have z : argBest (fun i j => PySem.W.dataLt ([x, y].getD i .none) ([x, y].getD j .none)) 1 = 1 := if_pos c
      have hP : (#[a, b] : Array Value)[argBest (fun i j => PySem.W.dataLt ([x, y].getD i .none) ([x, y].getD j .none)) 1]? = some v := hP
      rw [z] at hP
      rw [if_pos c]
      exact (Option.some.inj hP).symm
    · have z : argBest (fun i j => PySem.W.dataLt ([x, y].getD i .none) ([x, y].getD j .none)) 1 = 0 := if_neg c
      have hP : (#[a, b] : Array Value)[argBest (fun i j => PySem.W.dataLt ([x, y].getD i .none) ([x, y].getD j .none)) 1]? = some v := hP
      rw [z] at hP
      rw [if_neg c]
      exact (Option.some.inj hP).symm
  rw [hv]
  exact h h' tk fun c o e => hk' c o (old c o e)
end
end L2
set_option Elab.async false
set_option linter.all false
set_option maxRecDepth 100000
/-! A small language, and what its texts reckon with trees. -/
namespace Bell
open PySem PySem.Spec PyProof.Rows L2

inductive TyK where
  | int | bool | str | list | tuple
deriving DecidableEq
inductive O1 where
  | len | lenSet | list | tuple | neg | isN | notN | isI (t : TyK) | abs | sum | sortI | sortT | str | int | rev | lower
  | lrng1 | maxL | minL | sortD | minD | maxD
deriving DecidableEq
inductive O2 where
  | add | sub | mul | fdiv | mod | pow | band | bor
  | eq | ne | lt | le | gt | ge | mem | nmem
  | idx | frm | upto | lrng | index | count | join | max2 | min2 | catL | dget | ltD | leD | gtD | geD | min2D | trng
deriving DecidableEq
inductive Mt where
  | index | get2 | count | indexD | get1
deriving DecidableEq
inductive O3 where
  | slice | lrng3
deriving DecidableEq
/-- what is walked -/
inductive IK where
  | lst | tup | str | scr | rng1 | rng2 | rng3 | rev
deriving DecidableEq
inductive Tg where
  | n (i : Nat)
  | t (is : List Nat)
deriving DecidableEq

inductive Ex where
  | c (d : D)
  | g (x : Str) (d : D)
  | v (i : Nat)
  | b (i : Nat)
  | io (i : Nat)
  | op1 (o : O1) (a : Ex)
  | op2 (o : O2) (a b : Ex)
  | op3 (o : O3) (a b c : Ex)
  | chn (o p : O2) (a b c : Ex)
  | and (a b : Ex)
  | or (a b : Ex)
  | not (a : Ex)
  | ife (c a b : Ex)
  | tupD (es : List Ex)
  | lstD (es : List Ex)
  | dicE (t : Bool)
  | call (f : Nat) (es : List Ex)
  | lc (own : List Nat) (tg : Tg) (ik : IK) (its : List Ex) (cond : Option Ex) (elt : Ex)
  | lcd (own : List Nat) (tg : Tg) (i : Nat) (cond : Option Ex) (elt : Ex)
  | dic1 (t : Bool) (k v : Ex)
  | pop (i : Nat)
  | mth (m : Mt) (o : Ex) (es : List Ex)

inductive Sm where
  | set (i : Nat) (e : Ex)
  | seto (i : Nat) (e : Ex)
  | frz (i : Nat)
  | setc (i : Nat) (e : Ex)
  | setIx (i : Nat) (k e : Ex)
  | swap (i : Nat) (k1 k2 e1 e2 : Ex)
  | swap3 (i : Nat) (k1 k2 k3 e1 e2 e3 : Ex)
  | setD (i : Nat) (k e : Ex)
  | par (i j : Nat) (a b : Ex)
  | new3 (i j l : Nat)
  | par3 (i j l : Nat) (a b c : Ex)
  | unp (is : List Nat) (e : Ex)
  | aug (i : Nat) (o : O2) (e : Ex)
  | ex (e : Ex)
  | app (i : Nat) (e : Ex)
  | rem (i : Nat) (e : Ex)
  | ife (c : Ex) (a b : List Sm)
  | whl (c : Ex) (body : List Sm)
  | fr (tg : Tg) (ik : IK) (its : List Ex) (body : List Sm)
  | ret (e : Ex)
  | retN
  | rais (c : Nat)
  | try_ (body : List Sm) (hs : List (Nat × List Sm))
  | frd (tg : Tg) (i : Nat) (body : List Sm)
  | trya (e : Nat) (body : List Sm) (hs : List (Nat × List Nat × D × D))
  | brk
  | pass

structure Fn where
  np : Nat
  ns : Nat
  ms : List Nat   -- the parameters that are changed
  body : List Sm

/-! ### the operations -/
def truth : D → Option Bool
  | .non => some false
  | .bl b => some b
  | .int i => some (i != 0)
  | .str x => if x.length ≤ sizeLine then some ((x.length : Int) != 0) else none
  | .lst xs => some (!xs.isEmpty)
  | .tup xs => some (!xs.isEmpty)
  | _ => none
def isTy : TyK → D → Bool
  | .int, .int _ => true
  | .int, .bl _ => true
  | .bool, .bl _ => true
  | .str, .str _ => true
  | .list, .lst _ => true
  | .tuple, .tup _ => true
  | _, _ => false
def kO : D → Option Key
  | .int i => some (.inl i)
  | .str x => some (.inr x)
  | _ => none
def kOs : List D → Option (List Key)
  | [] => some []
  | d :: ds => match kO d, kOs ds with
    | some k, some ks => some (k :: ks)
    | _, _ => none
def tO : D → Option (List Key)
  | .tup ds => kOs ds
  | _ => none
def intO : D → Option Int
  | .int i => some i
  | _ => none
def intsO : List D → Option (List Int)
  | [] => some []
  | d :: ds => match intO d, intsO ds with
    | some k, some ks => some (k :: ks)
    | _, _ => none
def strO : D → Option Str
  | .str i => some i
  | _ => none
def strsO : List D → Option (List Str)
  | [] => some []
  | d :: ds => match strO d, strsO ds with
    | some k, some ks => some (k :: ks)
    | _, _ => none
def flatD : D → Bool
  | .non => true
  | .bl _ => true
  | .int _ => true
  | .str _ => true
  | _ => false
/-- equality of flat things, True being 1 -/
def eqF (d e : D) : Bool := PyData.eqv (toP d) (toP e)
/-- keys -/
def keq (a b : D) : Bool := match tO a, tO b with
  | some x, some y => decide (x = y)
  | _, _ => match kO a, kO b with
    | some x, some y => decide (x = y)
    | _, _ => false
def isKey (t : Bool) (k : D) : Bool := if t then (tO k).isSome else (kO k).isSome
def dGet (es : List (D × D)) (k : D) : Option D := (es.find? fun e => keq e.1 k).map (·.2)
def dPut (es : List (D × D)) (k v : D) : List (D × D) := if (es.any fun e => keq e.1 k) = true then es.map (fun e => if keq e.1 k = true then (e.1, v) else e) else es ++ [(k, v)]
def shD (d : D) : Bool := SeqAt.shaped (toP d)
def rngD (a : Int) (n : Nat) (c : Int) : List D := (List.range n).map fun i : Nat => D.int (a + (i : Int) * c)
def eqD (d e : D) : Option Bool := if SeqAt.shaped (toP d) = true ∧ SeqAt.shaped (toP e) = true then some (PyData.eqv (toP d) (toP e)) else none
/-- ascending -/
def insI (a : Int) : List Int → List Int
  | [] => [a]
  | b :: l => if a ≤ b then a :: b :: l else b :: insI a l
def sortL (l : List Int) : List Int := l.foldr insI []
/-- lists of numbers, by their first places -/
def insX (a : List Int) : List (List Int) → List (List Int)
  | [] => [a]
  | b :: l => if HT.lexLt b a = true then b :: insX a l else a :: b :: l
def sortX (l : List (List Int)) : List (List Int) := l.foldr insX []
def tupO : D → Option (List Int)
  | .tup ds => intsO ds
  | _ => none
def tupsO : List D → Option (List (List Int))
  | [] => some []
  | d :: ds => match tupO d, tupsO ds with
    | some k, some ks => some (k :: ks)
    | _, _ => none
def tI (ns : List Int) : D := .tup (ns.map .int)
def cutD (xs : List D) (lo hi : Option Int) : List D := (xs.drop (HT.sIx xs.length 0 lo)).take (HT.sIx xs.length xs.length hi - HT.sIx xs.length 0 lo)
def rngOk (a b : Int) : Bool := decide (-(2 ^ 62) ≤ a) && decide (a < 2 ^ 62) && decide (-(2 ^ 62) ≤ b) && decide (b < 2 ^ 62)
/-- orders of data -/
def ltDD (a b : D) : Bool := PySem.W.dataLt (toP a) (toP b)
def ordO (a b : D) : Bool := shD a && (shD b && (PySem.W.alike (toP a) (toP b) && (match a with | .non => false | _ => true)))
def allAl (xs : List D) : Bool := xs.all fun a => shD a && xs.all fun b => PySem.W.alike (toP a) (toP b)
def srtbl (xs : List D) : Bool := (xs.all fun d => match d with | .tup (_ :: _) => true | _ => false) || xs.all fun d => match d with | .non => false | .tup _ => false | _ => true
def noNon (xs : List D) : Bool := xs.all fun d => match d with | .non => false | _ => true
def minDD (x : D) (xs : List D) : D := xs.foldl (fun m y => if ltDD y m then y else m) x
def maxDD (x : D) (xs : List D) : D := xs.foldl (fun m y => if ltDD m y then y else m) x
/-- keys -/
def keysO : List (D × D) → Option (List Int)
  | [] => some []
  | (.int i, _) :: r => (keysO r).map (i :: ·)
  | _ => none
def sem1 : O1 → D → Option D
  | .len, .lst xs => some (.int xs.length)
  | .len, .tup xs => some (.int xs.length)
  | .len, .str x => if x.length ≤ sizeLine then some (.int x.length) else none
  | .len, .scr ns => some (.int ns.length)
  | .len, .dic _ es => some (.int es.length)
  | .list, .lst xs => some (.lst xs)
  | .list, .tup xs => some (.lst xs)
  | .tuple, .lst xs => some (.tup xs)
  | .tuple, .tup xs => some (.tup xs)
  | .neg, .int i => some (.int (-i))
  | .isN, .non => some (.bl true)
  | .isN, _ => some (.bl false)
  | .notN, .non => some (.bl false)
  | .notN, _ => some (.bl true)
  | .isI t, d => match d with
    | .scr _ => none
    | .dic _ _ => none
    | .obj _ _ => none
    | d => some (.bl (isTy t d))
  | .lrng1, .int n => if n ≤ 16777216 ∧ -(2 ^ 62) ≤ n then some (.lst (rngD 0 n.toNat 1)) else none
  | .lenSet, .lst xs => match intsO xs with
    | some ns => if decide ns.Nodup && decide (ns.length ≤ 4000) then some (.int ns.length) else none
    | none => none
  | .str, .int i => if i.natAbs.log2 < 1920 then some (.str (toString i)) else none
  | .abs, .int i => some (.int (if i < 0 then -i else i))
  | .sum, .lst xs => (intsO xs).map fun ns => .int ns.sum
  | .rev, .lst xs => some (.lst xs.reverse)
  | .minL, .lst xs => match intsO xs with
    | some (n :: r) => some (.int (r.foldl min n))
    | _ => none
  | .maxL, .lst xs => match intsO xs with
    | some (n :: r) => some (.int (r.foldl max n))
    | _ => none
  | .sortT, .lst xs => (tupsO xs).map fun ns => .lst ((sortX ns).map tI)
  | .sortT, .dic true es => (tupsO (es.map (·.1))).map fun ns => .lst ((sortX ns).map tI)
  | .sortI, .lst xs => (intsO xs).map fun ns => .lst ((sortL ns).map .int)
  | .sortI, .dic false es => match keysO es with
    | some ns => if ns.length < 64 then some (.lst ((sortL ns).map .int)) else none
    | none => none
  | .sortD, .lst xs => if allAl xs && (srtbl xs && decide (xs.length ≤ sizeLine)) then some (.lst (xs.mergeSort fun a b => !ltDD b a)) else none
  | .minD, .lst (x :: xs) => if allAl (x :: xs) && (shD (.lst (x :: xs)) && noNon (x :: xs)) then some (minDD x xs) else none
  | .maxD, .lst (x :: xs) => if allAl (x :: xs) && (shD (.lst (x :: xs)) && noNon (x :: xs)) then some (maxDD x xs) else none
  | _, _ => none
def cmpI (o : O2) (i j : Int) : Option Bool := match o with
  | .lt => some (decide (i < j))
  | .le => some (decide (i ≤ j))
  | .gt => some (decide (j < i))
  | .ge => some (decide (j ≤ i))
  | _ => none
def sem2 : O2 → D → D → Option D
  | .add, .int i, .int j => some (.int (i + j))
  | .add, .str x, .str y => if x.length + y.length ≤ sizeLine then some (.str (x ++ y)) else none
  | .add, .lst xs, .lst ys => if xs.length + ys.length ≤ sizeLine then some (.lst (xs ++ ys)) else none
  | .add, .tup xs, .tup ys => if xs.length + ys.length ≤ sizeLine then some (.tup (xs ++ ys)) else none
  | .catL, .lst xs, .lst ys => if xs.length + ys.length ≤ sizeLine then some (.lst (xs ++ ys)) else none
  | .max2, .int i, .int j => some (.int (if j > i then j else i))
  | .min2, .int i, .int j => some (.int (if j < i then j else i))
  | .sub, .int i, .int j => some (.int (i - j))
  | .mul, .int i, .int j => if (-(2 ^ 64) < i ∧ i < 2 ^ 64) ∨ (-(2 ^ 64) < j ∧ j < 2 ^ 64) then some (.int (i * j)) else none
  | .mul, .lst xs, .int k => if -(2 ^ 63) ≤ k ∧ k < 2 ^ 63 ∧ xs.length * k.toNat ≤ sizeLine then some (.lst (List.replicate k.toNat xs).flatten) else none
  | .fdiv, .int i, .int j => if 0 < j ∧ j < 1073741824 then some (.int (i / j)) else none
  | .mod, .int i, .int j => if 0 < j then some (.int (i % j)) else none
  | .pow, .int i, .int j => if 0 ≤ j ∧ j ≤ 1000000 ∧ i.natAbs < 2 ^ 64 then some (.int (i ^ j.toNat)) else none
  | .eq, d, e => (eqD d e).map .bl
  | .ne, d, e => (eqD d e).map fun b => .bl (!b)
  | .lt, .int i, .int j => some (.bl (decide (i < j)))
  | .lt, .tup xs, .tup ys => match intsO xs, intsO ys with
    | some a, some b => some (.bl (HT.lexLt a b))
    | _, _ => none
  | .le, .int i, .int j => some (.bl (decide (i ≤ j)))
  | .gt, .int i, .int j => some (.bl (decide (j < i)))
  | .ge, .int i, .int j => some (.bl (decide (j ≤ i)))
  | .ge, .tup xs, .tup ys => match intsO xs, intsO ys with
    | some a, some b => some (.bl (!HT.lexLt a b))
    | _, _ => none
  | .mem, d, .dic t es => if isKey t d then some (.bl (dGet es d).isSome) else none
  | .nmem, d, .dic t es => if isKey t d then some (.bl (!(dGet es d).isSome)) else none
  | .dget, .dic t es, d => if isKey t d then dGet es d else none
  | .mem, d, .lst xs => if (flatD d && xs.all flatD) || (shD d && shD (.lst xs)) then some (.bl (xs.any fun y => eqF y d)) else none
  | .mem, d, .tup xs => if flatD d && xs.all flatD then some (.bl (xs.any fun y => eqF y d)) else none
  | .nmem, d, .lst xs => if (flatD d && xs.all flatD) || (shD d && shD (.lst xs)) then some (.bl (!xs.any fun y => eqF y d)) else none
  | .nmem, d, .tup xs => if flatD d && xs.all flatD then some (.bl (!xs.any fun y => eqF y d)) else none
  | .idx, .lst xs, .int i => atI xs i
  | .idx, .tup xs, .int i => atI xs i
  | .idx, .str x, .int i => if x.length ≤ sizeLine then (atI x.cps.toList i).map fun c => .str ⟨#[c]⟩ else none
  | .frm, .lst xs, .int i => some (.lst (cutD xs (some i) none))
  | .upto, .lst xs, .int i => some (.lst (cutD xs none (some i)))
  | .ltD, a, b => if ordO a b then some (.bl (ltDD a b)) else none
  | .gtD, a, b => if ordO a b then some (.bl (ltDD b a)) else none
  | .leD, a, b => if ordO a b then some (.bl (!ltDD b a)) else none
  | .geD, a, b => if ordO a b then some (.bl (!ltDD a b)) else none
  | .min2D, a, b => if allAl [a, b] && (shD (.lst [a, b]) && noNon [a, b]) then some (if ltDD b a then b else a) else none
  | .trng, .int a, .int b => if rngOk a b && decide (b - a ≤ 16777216) then some (.tup (rngD a (b - a).toNat 1)) else none
  | .lrng, .int a, .int b => if rngOk a b && decide (b - a ≤ 16777216) then some (.lst (rngD a (b - a).toNat 1)) else none
  | _, _, _ => none
def sem3 : O3 → D → D → D → Option D
  | .slice, .lst xs, .int i, .int j => some (.lst (cutD xs (some i) (some j)))
  | .lrng3, .int a, .int b, .int c => if decide (c ≠ 0) && (decide (c.natAbs < 1073741824) && (Builtin.Range.small a b c && (decide (0 ≤ Builtin.Range.rangeSize a b c) && decide (Builtin.Range.rangeSize a b c ≤ 16777216)))) then some (.lst (rngD a (Builtin.Range.rangeSize a b c).toNat c)) else none
  | _, _, _, _ => none
def kindM : Mt → D → Bool
  | .index, .lst _ => true
  | .count, .lst _ => true
  | .indexD, .lst _ => true
  | .get2, .dic _ _ => true
  | .get1, .dic _ _ => true
  | _, _ => false
def idxOf (xs : List D) (d : D) : Option Nat := xs.findIdx? fun y => eqF y d
def semM : Mt → D → List D → Option D
  | .index, .lst xs, [d] => if flatD d && xs.all flatD then (idxOf xs d).map fun (i : Nat) => .int (i : Int) else none
  | .count, .lst xs, [d] => if (shD d && shD (.lst xs)) && ((toP d).plain && PyData.plainAll (toPs xs)) then some (.int ((xs.countP fun y => eqF y d : Nat) : Int)) else none
  | .indexD, .lst xs, [d] => if shD d && shD (.lst xs) then (idxOf xs d).map fun (i : Nat) => .int (i : Int) else none
  | .get1, .dic t es, [k] => if isKey t k then some ((dGet es k).getD .non) else none
  | .get2, .dic t es, [k, d] => if isKey t k then some ((dGet es k).getD d) else none
  | _, _, _ => none
def items : IK → List D → Option (List D)
  | .lst, [.lst xs] => some xs
  | .tup, [.tup xs] => some xs
  | .scr, [.scr ns] => some (ns.map .int)
  | .rng1, [.int n] => if rngOk 0 n then some (rngD 0 n.toNat 1) else none
  | .rev, [.lst xs] => some xs.reverse
  | .rev, [.tup xs] => some xs.reverse
  | .rng3, [.int a, .int b, .int c] => if decide (c ≠ 0) && (decide (c.natAbs < 1073741824) && (Builtin.Range.small a b c && decide (0 ≤ Builtin.Range.rangeSize a b c))) then some (rngD a (Builtin.Range.rangeSize a b c).toNat c) else none
  | .rng2, [.int a, .int b] => if rngOk a b then some (rngD a (b - a).toNat 1) else none
  | _, _ => none

/-! ### runs -/
def Out.bind {α β : Type} (x : Out α) (f : α → Env → Out β) : Out β := match x with
  | .ok a ρ => f a ρ
  | .exc c ρ => .exc c ρ
  | .stuck => .stuck
def fin (d : Option D) (ρ : Env) : Out D := match d with
  | some d => .ok d ρ
  | none => .stuck
def rd (i : Nat) (ρ : Env) : Out D := match ρ[i]? with
  | some (some d) => .ok d ρ
  | _ => .stuck
inductive Ov where
  | d (d : D)
  | s (i : Nat) (io : Bool)
def ovD (ρ : Env) : Ov → Option D
  | .d d => some d
  | .s i _ => match ρ[i]? with
    | some (some d) => some d
    | _ => none
def ovDs (ρ : Env) : List Ov → Option (List D)
  | [] => some []
  | x :: r => match ovD ρ x, ovDs ρ r with
    | some d, some ds => some (d :: ds)
    | _, _ => none
def isBor : Ov → Bool
  | .s _ false => true
  | _ => false
def putOuts (ρ : Env) : List Ov → List D → Env
  | .s i true :: r, d :: outs => putOuts (ρ.set i (some d)) r outs
  | _ :: r, outs => putOuts ρ r outs
  | [], _ => ρ
mutual
def flat : D → Bool
  | .non => true
  | .bl _ => true
  | .int _ => true
  | .str _ => true
  | .tup ds => flats ds
  | _ => false
def flats : List D → Bool
  | [] => true
  | d :: ds => flat d && flats ds
end
def bindT : Tg → D → Env → Option Env
  | .n i, d, ρ => some (ρ.set i (some d))
  | .t is, .tup ds, ρ => if is.length = ds.length then some ((is.zip ds).foldl (fun ρ p => ρ.set p.1 (some p.2)) ρ) else none
  | _, _, _ => none
def wipeE (ρ : Env) : List Nat → Env
  | [] => ρ
  | i :: is => (wipeE ρ is).set i none
def restE (ρ0 ρ : Env) : List Nat → Env
  | [] => ρ
  | i :: is => (restE ρ0 ρ is).set i (ρ0.getD i none)
/-- a comprehension's turns: f tells the item's value, or that it is left out -/
def lcGo (own : List Nat) (f : D → Env → Out (Option D)) : List D → Env → Out (List D)
  | [], ρ => .ok [] ρ
  | x :: xs, ρ => match f x (wipeE ρ own) with
    | .ok y ρ1 => match lcGo own f xs ρ1 with
      | .ok ys ρ2 => .ok (match y with | some y => y :: ys | none => ys) ρ2
      | _ => .stuck
    | _ => .stuck
def tst (x : Out D) : Out Bool := x.bind fun d ρ => match truth d with
  | some b => .ok b ρ
  | none => .stuck
abbrev Calls := Nat → List D → Res
def isIo : Ov → Bool
  | .s _ true => true
  | _ => false
def finCall (ovs : List Ov) (ρ : Env) (r : Res) : Out D := if ovs.any isBor && ovs.any isIo then .stuck else match r with
  | .ret d outs => if ovs.any isBor && !flat d then .stuck else .ok d (putOuts ρ ovs outs)
  | .exc c outs => .exc c (putOuts ρ ovs outs)
  | .stuck => .stuck
mutual
def ev (φ : Calls) : Ex → Env → Out D
  | .c d, ρ => .ok d ρ
  | .g _ d, ρ => .ok d ρ
  | .v i, ρ => rd i ρ
  | .b i, ρ => rd i ρ
  | .io _, _ => .stuck
  | .op1 o a, ρ => (ev φ a ρ).bind fun x ρ => fin (sem1 o x) ρ
  | .op2 o (.b i) b, ρ => (rd i ρ).bind fun _ ρ => (ev φ b ρ).bind fun y ρ => (rd i ρ).bind fun x ρ => fin (sem2 o x y) ρ
  | .op2 o a b, ρ => (ev φ a ρ).bind fun x ρ => (ev φ b ρ).bind fun y ρ => fin (sem2 o x y) ρ
  | .op3 o (.b i) b c, ρ => (rd i ρ).bind fun _ ρ => (ev φ b ρ).bind fun y ρ => match y with
    | .int y => (ev φ c ρ).bind fun z ρ => (rd i ρ).bind fun x ρ => fin (sem3 o x (.int y) z) ρ
    | _ => .stuck
  | .op3 o a b c, ρ => (ev φ a ρ).bind fun x ρ => (ev φ b ρ).bind fun y ρ => match y with
    | .int y => (ev φ c ρ).bind fun z ρ => fin (sem3 o x (.int y) z) ρ
    | _ => .stuck
  | .chn o p a b c, ρ => (ev φ a ρ).bind fun x ρ => (ev φ b ρ).bind fun y ρ => match sem2 o x y with
    | some (.bl true) => (ev φ c ρ).bind fun z ρ => fin (sem2 p y z) ρ
    | some (.bl false) => .ok (.bl false) ρ
    | _ => .stuck
  | .and a b, ρ => (ev φ a ρ).bind fun x ρ => match truth x with
    | some true => ev φ b ρ
    | some false => .ok x ρ
    | none => .stuck
  | .or a b, ρ => (ev φ a ρ).bind fun x ρ => match truth x with
    | some true => .ok x ρ
    | some false => ev φ b ρ
    | none => .stuck
  | .not a, ρ => (ev φ a ρ).bind fun x ρ => match truth x with
    | some k => .ok (.bl (!k)) ρ
    | none => .stuck
  | .ife c a b, ρ => (tst (ev φ c ρ)).bind fun k ρ => if k then ev φ a ρ else ev φ b ρ
  | .tupD es, ρ => (evL φ es ρ).bind fun ds ρ => if ds.length ≤ sizeLine then .ok (.tup ds) ρ else .stuck
  | .lstD es, ρ => (evL φ es ρ).bind fun ds ρ => if ds.length ≤ sizeLine then .ok (.lst ds) ρ else .stuck
  | .dicE t, ρ => .ok (.dic t []) ρ
  | .call f es, ρ => (evA φ es ρ).bind fun ovs ρ => match ovDs ρ ovs with
    | some ds => finCall ovs ρ (φ f ds)
    | none => .stuck
  | .lc own tg ik its cond elt, ρ0 => (evL φ its ρ0).bind fun ds ρ => match items ik ds with
    | none => .stuck
    | some xs => match lcGo own (fun x ρ => match bindT tg x ρ with
        | none => .stuck
        | some ρ => Out.bind (match cond with
          | none => Out.ok true ρ
          | some c => tst (ev φ c ρ)) fun k ρ => if k then (ev φ elt ρ).bind fun y ρ => .ok (some y) ρ else .ok none ρ) xs ρ with
      | .ok ys ρ1 => if ys.length ≤ sizeLine then .ok (.lst ys) (restE ρ ρ1 own) else .stuck
      | _ => .stuck
  | .lcd own tg i cond elt, ρ0 => (rd i ρ0).bind fun d ρ => match d with
    | .dic _ es => match lcGo own (fun x ρ => match bindT tg x ρ with
        | none => .stuck
        | some ρ => Out.bind (match cond with
          | none => Out.ok true ρ
          | some c => tst (ev φ c ρ)) fun k ρ => if k then (ev φ elt ρ).bind fun y ρ => .ok (some y) ρ else .ok none ρ) (es.map (·.1)) ρ with
      | .ok ys ρ1 => if ys.length ≤ sizeLine then .ok (.lst ys) (restE ρ ρ1 own) else .stuck
      | _ => .stuck
    | _ => .stuck
  | .dic1 t k v, ρ => (ev φ k ρ).bind fun dk ρ => (ev φ v ρ).bind fun dv ρ => if isKey t dk then .ok (.dic t [(dk, dv)]) ρ else .stuck
  | .pop i, ρ => match ρ[i]? with
    | some (some (.lst xs)) => match xs.getLast? with
      | some x => .ok x (ρ.set i (some (.lst xs.dropLast)))
      | none => .stuck
    | _ => .stuck
  | .mth m (.b i) es, ρ => (rd i ρ).bind fun x ρ => if kindM m x then (evL φ es ρ).bind fun ds ρ => (rd i ρ).bind fun x ρ => fin (semM m x ds) ρ else .stuck
  | .mth m o es, ρ => (ev φ o ρ).bind fun x ρ => if kindM m x then (evL φ es ρ).bind fun ds ρ => fin (semM m x ds) ρ else .stuck
def evL (φ : Calls) : List Ex → Env → Out (List D)
  | [], ρ => .ok [] ρ
  | e :: es, ρ => (ev φ e ρ).bind fun d ρ => (evL φ es ρ).bind fun ds ρ => .ok (d :: ds) ρ
def evA (φ : Calls) : List Ex → Env → Out (List Ov)
  | [], ρ => .ok [] ρ
  | .b i :: es, ρ => (rd i ρ).bind fun _ ρ => (evA φ es ρ).bind fun r ρ => .ok (.s i false :: r) ρ
  | .io i :: es, ρ => (rd i ρ).bind fun _ ρ => (evA φ es ρ).bind fun r ρ => .ok (.s i true :: r) ρ
  | e :: es, ρ => (ev φ e ρ).bind fun d ρ => (evA φ es ρ).bind fun r ρ => .ok (.d d :: r) ρ
end

inductive Fl where
  | next (ρ : Env)
  | ret (d : D) (ρ : Env)
  | brk (ρ : Env)
  | exc (c : Nat) (ρ : Env)
  | stuck
def Out.fl {α : Type} (x : Out α) (f : α → Env → Fl) : Fl := match x with
  | .ok a ρ => f a ρ
  | .exc c ρ => .exc c ρ
  | .stuck => .stuck
def forGo (body : D → Env → Fl) : List D → Env → Fl
  | [], ρ => .next ρ
  | x :: xs, ρ => match body x ρ with
    | .next ρ => forGo body xs ρ
    | .brk ρ => .next ρ
    | r => r
/-- no exception leaves it -/
def noEx : Fl → Fl
  | .exc _ _ => .stuck
  | f => f
def whGo (test : Env → Out Bool) (body : Env → Fl) : Nat → Env → Fl
  | 0, _ => .stuck
  | n + 1, ρ => (test ρ).fl fun k ρ => if k then (match body ρ with
      | .next ρ => whGo test body n ρ
      | .brk ρ => .next ρ
      | r => r) else .next ρ
def FUEL : Nat := 10 ^ 12
/-- which classes a class is caught by -/
abbrev Catch := Nat → Nat → Bool
/-- clauses that tell of what kind an exception is -/
def exA (C : Catch) (e c : Nat) : List (Nat × List Nat × D × D) → Env → Fl
  | [], ρ => .exc c ρ
  | (k, is, d, d') :: r, ρ => if C c k then .ret (if is.all (C c) then d else d') (ρ.set e none) else exA C e c r ρ
def setIx (o k d : D) : Option D := match o, k with
  | .lst xs, .int i => (ixN xs.length i).map fun j => .lst (xs.set j d)
  | _, _ => none
def setDx (o k d : D) : Option D := match o with
  | .dic t es => if isKey t k && decide (es.length < sizeLine) then some (.dic t (dPut es k d)) else none
  | _ => none
mutual
def exS (C : Catch) (φ : Calls) : Sm → Env → Fl
  | .set i e, ρ => (ev φ e ρ).fl fun d ρ => .next (ρ.set i (some d))
  | .seto i e, ρ => (ev φ e ρ).fl fun d ρ => .next (ρ.set i (some d))
  | .setc i e, ρ => (ev φ e ρ).fl fun d ρ => .next (ρ.set i (some d))
  | .frz _, ρ => .next ρ
  | .setIx i k e, ρ => (ev φ e ρ).fl fun d ρ => (rd i ρ).fl fun _ ρ => (ev φ k ρ).fl fun k ρ => (rd i ρ).fl fun o ρ => match setIx o k d with
    | some o => .next (ρ.set i (some o))
    | none => .stuck
  | .swap i k1 k2 e1 e2, ρ => (evL φ [e1, e2] ρ).fl fun ds ρ => match ds with
    | [d1, d2] => (rd i ρ).fl fun _ ρ => (ev φ k1 ρ).fl fun k1 ρ => (rd i ρ).fl fun o ρ => match setIx o k1 d1 with
      | some o => (ev φ k2 (ρ.set i (some o))).fl fun k2 ρ => (rd i ρ).fl fun o ρ => match setIx o k2 d2 with
        | some o => .next (ρ.set i (some o))
        | none => .stuck
      | none => .stuck
    | _ => .stuck
  | .swap3 i k1 k2 k3 e1 e2 e3, ρ => (evL φ [e1, e2, e3] ρ).fl fun ds ρ => match ds with
    | [d1, d2, d3] => (rd i ρ).fl fun _ ρ => (ev φ k1 ρ).fl fun k1 ρ => (rd i ρ).fl fun o ρ => match setIx o k1 d1 with
      | some o => (ev φ k2 (ρ.set i (some o))).fl fun k2 ρ => (rd i ρ).fl fun o ρ => match setIx o k2 d2 with
        | some o => (ev φ k3 (ρ.set i (some o))).fl fun k3 ρ => (rd i ρ).fl fun o ρ => match setIx o k3 d3 with
          | some o => .next (ρ.set i (some o))
          | none => .stuck
        | none => .stuck
      | none => .stuck
    | _ => .stuck
  | .setD i k e, ρ => (ev φ e ρ).fl fun d ρ => (rd i ρ).fl fun _ ρ => (ev φ k ρ).fl fun k ρ => (rd i ρ).fl fun o ρ => match setDx o k d with
    | some o => .next (ρ.set i (some o))
    | none => .stuck
  | .par i j a b, ρ => (evL φ [a, b] ρ).fl fun ds ρ => match ds with
    | [d, e] => .next ((ρ.set i (some d)).set j (some e))
    | _ => .stuck
  | .par3 i j l a b c, ρ => (evL φ [a, b, c] ρ).fl fun ds ρ => match ds with
    | [d, e, f] => .next (((ρ.set i (some d)).set j (some e)).set l (some f))
    | _ => .stuck
  | .new3 i j l, ρ => .next (((ρ.set i (some (.lst []))).set j (some (.lst []))).set l (some (.lst [])))
  | .unp is e, ρ => (ev φ e ρ).fl fun d ρ => match bindT (.t is) d ρ with
    | some ρ => .next ρ
    | none => .stuck
  | .aug i o e, ρ => (rd i ρ).fl fun x ρ => (ev φ e ρ).fl fun y ρ => match x, y with
    | .int _, .int _ => (match sem2 o x y with
      | some d => .next (ρ.set i (some d))
      | none => .stuck)
    | _, _ => .stuck
  | .ex e, ρ => (ev φ e ρ).fl fun _ ρ => .next ρ
  | .app i e, ρ => (rd i ρ).fl fun _ ρ => (ev φ e ρ).fl fun d ρ => (rd i ρ).fl fun o ρ => match o with
    | .lst xs => if xs.length < sizeLine then .next (ρ.set i (some (.lst (xs ++ [d])))) else .stuck
    | _ => .stuck
  | .rem _ _, _ => .stuck
  | .ife c a b, ρ => (tst (ev φ c ρ)).fl fun k ρ => if k then exB C φ a ρ else exB C φ b ρ
  | .whl c body, ρ => whGo (fun ρ => tst (ev φ c ρ)) (exB C φ body) FUEL ρ
  | .fr tg ik its body, ρ => (evL φ its ρ).fl fun ds ρ => match items ik ds with
    | none => .stuck
    | some xs => forGo (fun x ρ => match bindT tg x ρ with
      | none => .stuck
      | some ρ => exB C φ body ρ) xs ρ
  | .ret e, ρ => (ev φ e ρ).fl fun d ρ => .ret d ρ
  | .retN, ρ => .ret .non ρ
  | .rais c, ρ => .exc c ρ
  | .try_ body hs, ρ => match exB C φ body ρ with
    | .exc c ρ => exH C φ c hs ρ
    | r => r
  | .frd tg i body, ρ => (rd i ρ).fl fun d ρ => match d with
    | .dic _ es => noEx (forGo (fun x ρ => match bindT tg x ρ with
      | none => .stuck
      | some ρ => exB C φ body ρ) (es.map (·.1)) ρ)
    | _ => .stuck
  | .trya e body hs, ρ => match exB C φ body ρ with
    | .exc c ρ => exA C e c hs ρ
    | r => r
  | .brk, ρ => .brk ρ
  | .pass, ρ => .next ρ
def exB (C : Catch) (φ : Calls) : List Sm → Env → Fl
  | [], ρ => .next ρ
  | s :: r, ρ => match exS C φ s ρ with
    | .next ρ => exB C φ r ρ
    | f => f
def exH (C : Catch) (φ : Calls) (c : Nat) : List (Nat × List Sm) → Env → Fl
  | [], ρ => .exc c ρ
  | (k, s) :: r, ρ => if C c k then exB C φ s ρ else exH C φ c r ρ
end

def outsOf (ρ : Env) : List Nat → Option (List D)
  | [] => some []
  | i :: is => match ρ[i]?, outsOf ρ is with
    | some (some d), some ds => some (d :: ds)
    | _, _ => none
def finFn (ms : List Nat) : Fl → Res
  | .next ρ => match outsOf ρ ms with
    | some ds => .ret .non ds
    | none => .stuck
  | .ret d ρ => match outsOf ρ ms with
    | some ds => .ret d ds
    | none => .stuck
  | .exc c ρ => match outsOf ρ ms with
    | some ds => .exc c ds
    | none => .stuck
  | _ => .stuck
def entry (fn : Fn) (ds : List D) : Env := ds.map some ++ List.replicate (fn.ns - fn.np) none
/-- a def is called, k calls deep at the most -/
def run (C : Catch) (T : Nat → Option Fn) : Nat → Nat → List D → Res
  | 0, _, _ => .stuck
  | k + 1, f, ds => match T f with
    | none => .stuck
    | some fn => if ds.length = fn.np then finFn fn.ms (exB C (run C T k) fn.body (entry fn ds)) else .stuck
end Bell
set_option Elab.async false
set_option linter.all false
set_option maxRecDepth 100000
/-! Each operation by values. -/
namespace Bell
open PySem PySem.Spec PyProof.Rows L2

/-- no tuple -/
def NT : HO → Prop
  | .tup _ => False
  | _ => True
def Dom (S : Addr → Prop) (H : Hp) : Prop := ∀ a, S a → ∃ o, H a = some o ∧ NT o
/-- what an operation hands back: a thing that stands, or a new one -/
inductive New (S : Addr → Prop) (H : Hp) : V → Hp → D → Prop
  | same {v : V} {d : D} : Fz S H v d → New S H v H d
  | lst {p : Addr} {vs : List V} {ds : List D} : H p = none → FzL S H vs ds → New S H (.ref p) (upd H p (.lst vs)) (.lst ds)
  | tup {p : Addr} {vs : List V} {ds : List D} : H p = none → FzL S H vs ds → New S H (.ref p) (upd H p (.tup vs)) (.tup ds)
  | dK {p : Addr} {vs : List (Key × V)} {ds : List (D × D)} : H p = none → FzK S H vs ds → New S H (.ref p) (upd H p (.dK vs)) (.dic false ds)
  | dT {p : Addr} {vs : List (List Key × V)} {ds : List (D × D)} : H p = none → FzT S H vs ds → New S H (.ref p) (upd H p (.dT vs)) (.dic true ds)
section
variable {S : Addr → Prop} {H H' : Hp} {v : V} {d : D}
theorem Dom.no (h : Dom S H) {p : Addr} (hp : H p = none) : ¬ S p := fun z => by
  obtain ⟨o, e, _⟩ := h p z
  rw [hp] at e
  cases e
theorem New.keeps (n : New S H v H' d) : Same H H' := by
  cases n with
  | same _ => exact Same.refl _
  | lst hp _ => exact fun b o e => by rw [upd_ne (ne_of_none e hp)]; exact e
  | tup hp _ => exact fun b o e => by rw [upd_ne (ne_of_none e hp)]; exact e
  | dK hp _ => exact fun b o e => by rw [upd_ne (ne_of_none e hp)]; exact e
  | dT hp _ => exact fun b o e => by rw [upd_ne (ne_of_none e hp)]; exact e
theorem same_ext (s : Same H H') : Ext S H S H' := fun b o e n => ⟨.inl (s b o e), n⟩
theorem New.fz (n : New S H v H' d) (hd : Dom S H) : Fz S H' v d := by
  cases n with
  | same h => exact h
  | lst hp h => exact .lst (hd.no hp) upd_same (h.ext (Ext.new hp))
  | tup hp h => exact .tup (hd.no hp) upd_same (h.ext (Ext.new hp))
  | dK hp h => exact .dK (hd.no hp) (.inl upd_same) (h.ext (Ext.new hp))
  | dT hp h => exact .dT (hd.no hp) (.inl upd_same) (h.ext (Ext.new hp))
end

/-- the readings -/
def rS1 (o : O1) : V → Hp → VK → Prop := fun x H Q => ∃ S dx d, Dom S H ∧ Bz S H x dx ∧ sem1 o dx = some d ∧ ∀ v H', New S H v H' d → Q v H'
def rS2 (o : O2) : R2 := fun x y H Q => ∃ S dx dy d, Dom S H ∧ Bz S H x dx ∧ Bz S H y dy ∧ sem2 o dx dy = some d ∧ ∀ v H', New S H v H' d → Q v H'
def rS3 (o : O3) : V → V → V → Hp → VK → Prop := fun x y z H Q => ∃ S dx dy dz d, Dom S H ∧ Bz S H x dx ∧ Bz S H y dy ∧ Bz S H z dz ∧ sem3 o dx dy dz = some d ∧ ∀ v H', New S H v H' d → Q v H'

theorem cut_FzL {S : Addr → Prop} {H : Hp} {vs : List V} {ds : List D} (h : FzL S H vs ds) (lo hi : Option Int) : FzL S H (cutV vs lo hi) (cutD ds lo hi) := by
  unfold cutV cutD
  rw [h.length]
  exact (h.drop _).take _
theorem atI_FzL {S : Addr → Prop} {H : Hp} {vs : List V} {ds : List D} {i : Int} {d : D} (h : FzL S H vs ds) (e : atI ds i = some d) : ∃ v, atI vs i = some v ∧ Fz S H v d := by
  unfold atI at e ⊢
  rw [h.length]
  cases q : ixN ds.length i with
  | none => rw [q] at e; cases e
  | some j =>
    rw [q] at e
    exact h.get e
theorem flat_V {S : Addr → Prop} {H : Hp} {d : D} {v : V} (h : Fz S H v d) (f : flatD d = true) : flatV v = true := by
  cases d with
  | non => cases h; rfl
  | bl b => cases h; rfl
  | int b => cases h; rfl
  | str b => cases h; rfl
  | lst _ => cases f
  | tup _ => cases f
  | dic _ _ => cases f
  | scr _ => cases f
  | obj _ _ => cases f
theorem flatB {S : Addr → Prop} {H : Hp} {d : D} {v : V} (h : Bz S H v d) (f : flatD d = true) : Fz S H v d := by
  cases h with
  | fz h => exact h
  | lst _ _ => cases f
  | dK _ _ => cases f
  | dT _ _ => cases f
  | obj _ _ => cases f
theorem flats_V {S : Addr → Prop} {H : Hp} : ∀ {ds : List D} {vs : List V}, FzL S H vs ds → ds.all flatD = true → vs.all flatV = true
  | _, _, .nil, _ => rfl
  | _, _, .cons a b, f => by
    rw [List.all_cons, Bool.and_eq_true] at f
    rw [List.all_cons, Bool.and_eq_true]
    exact ⟨flat_V a f.1, flats_V b f.2⟩
theorem eqF_V {S : Addr → Prop} {H : Hp} {d e : D} {v w : V} (h : Fz S H v d) (f : flatD d = true) (h' : Fz S H w e) (f' : flatD e = true) : eqV v w = eqF d e := by
  cases d with
  | non => cases h; cases e <;> first | (cases h' <;> rfl) | cases f'
  | bl b => cases h; cases e <;> first | (cases h' <;> rfl) | cases f'
  | int b => cases h; cases e <;> first | (cases h' <;> rfl) | cases f'
  | str b => cases h; cases e <;> first | (cases h' <;> rfl) | cases f'
  | lst _ => cases f
  | tup _ => cases f
  | dic _ _ => cases f
  | scr _ => cases f
  | obj _ _ => cases f
theorem in_V {S : Addr → Prop} {H : Hp} {d : D} {v : V} (h : Fz S H v d) (f : flatD d = true) : ∀ {ds : List D} {vs : List V}, FzL S H vs ds → ds.all flatD = true → inV v vs = ds.any fun y => eqF y d
  | _, _, .nil, _ => rfl
  | _, _, .cons (d := d') (ds := ds) (v := v') (vs := vs) a b, g => by
    rw [List.all_cons, Bool.and_eq_true] at g
    show (eqV v' v || vs.any fun y => eqV y v) = (eqF d' d || ds.any fun y => eqF y d)
    rw [eqF_V a g.1 h f]
    exact congrArg _ (in_V h f b g.2)
theorem rng_FzL {S : Addr → Prop} {H : Hp} (a b : Int) : FzL S H (rgV a b) (rngD a (b - a).toNat 1) := by
  have e : rngD a (b - a).toNat 1 = ((List.range (b - a).toNat).map fun i : Nat => a + (i : Int)).map D.int := by
    unfold rngD
    rw [List.map_map]
    refine List.map_congr_left fun i _ => ?_
    show D.int (a + (i : Int) * 1) = D.int (a + i)
    rw [Int.mul_one]
  have e2 : rgV a b = ((List.range (b - a).toNat).map fun i : Nat => a + (i : Int)).map V.int := by
    unfold rgV
    rw [List.map_map]
    rfl
  rw [e, e2]
  exact FzL.of_ints _

section
variable {X : Cx}
theorem OpR.or {f : Value → Value → Sem Value} {r r' : R2} (h : OpR X f r) (h' : OpR X f r') : OpR X f (fun x y H Q => r x y H Q ∨ r' x y H Q) := by
  intro pins s σ H x y v u Q I rx ry q
  rcases q with q | q
  · exact h pins s σ H x y v u Q I rx ry q
  · exact h' pins s σ H x y v u Q I rx ry q
theorem OpR.imp {f : Value → Value → Sem Value} {r r' : R2} (h : OpR X f r) (i : ∀ x y H Q, r' x y H Q → r x y H Q) : OpR X f r' :=
  fun pins s σ H x y v u Q I rx ry q => h pins s σ H x y v u Q I rx ry (i _ _ _ _ q)

theorem o_add : OpR X (binaryOp .Add) (rS2 .add) := by
  refine OpR.imp (OpR.or op_add (OpR.or op_add_str (OpR.or op_cat op_catA))) fun x y H Q h => ?_
  obtain ⟨S, dx, dy, d, dom, hx, hy, e, q⟩ := h
  cases dx with
  | int i =>
    cases dy <;> simp only [sem2, reduceCtorEq, Option.some.injEq] at e
    subst e
    exact .inl ⟨_, _, hx.int, hy.int, q _ _ (.same (.int _))⟩
  | str i =>
    cases dy <;> simp only [sem2, reduceCtorEq, Option.some.injEq] at e
    split at e
    · rename_i hz
      cases e
      exact .inr (.inl ⟨_, _, hx.str, hy.str, hz, q _ _ (.same (.str _))⟩)
    · cases e
  | lst xs =>
    cases dy <;> simp only [sem2, reduceCtorEq, Option.some.injEq] at e
    split at e
    · rename_i hz
      cases e
      obtain ⟨a, vs, rfl, ha, fa⟩ := hx.lst_
      obtain ⟨b, ws, rfl, hb, fb⟩ := hy.lst_
      exact .inr (.inr (.inl ⟨a, b, vs, ws, rfl, rfl, ha, hb, by rw [fa.length, fb.length]; exact hz, fun p hp => q _ _ (.lst hp (fa.append fb))⟩))
    · cases e
  | tup xs =>
    cases dy <;> simp only [sem2, reduceCtorEq, Option.some.injEq] at e
    split at e
    · rename_i ys hz
      cases e
      cases hx with
      | fz hx =>
        cases hy with
        | fz hy =>
          cases hx with
          | @tup a vs _ na ha fa =>
            cases hy with
            | @tup b ws _ nb hb fb =>
              refine .inr (.inr (.inr ⟨a, b, vs, ws, rfl, rfl, SqT.of ha, SqT.of hb, by rw [fa.length, fb.length]; exact hz, fun e0 => q _ _ (.same ?_), fun _ e0 => q _ _ (.same ?_), fun _ _ p hp => q _ _ (.tup hp (fa.append fb))⟩))
              · subst e0
                cases fa
                exact .tup nb hb fb
              · subst e0
                cases fb
                rw [List.append_nil]
                exact .tup na ha fa
    · cases e
  | non => cases dy <;> simp [sem2] at e
  | bl _ => cases dy <;> simp [sem2] at e
  | dic _ _ => cases dy <;> simp [sem2] at e
  | scr _ => cases dy <;> simp [sem2] at e
  | obj _ _ => cases dy <;> simp [sem2] at e
theorem o_catL : OpR X (binaryOp .Add) (rS2 .catL) := by
  refine OpR.imp o_add fun x y H Q h => ?_
  obtain ⟨S, dx, dy, d, dom, hx, hy, e, q⟩ := h
  refine ⟨S, dx, dy, d, dom, hx, hy, ?_, q⟩
  cases dx <;> cases dy <;> simp only [sem2, reduceCtorEq] at e ⊢
  exact e
theorem o_sub : OpR X (binaryOp .Sub) (rS2 .sub) := by
  refine OpR.imp op_sub fun x y H Q h => ?_
  obtain ⟨S, dx, dy, d, dom, hx, hy, e, q⟩ := h
  cases dx <;> cases dy <;> simp only [sem2, reduceCtorEq, Option.some.injEq] at e
  subst e
  exact ⟨_, _, hx.int, hy.int, q _ _ (.same (.int _))⟩
theorem o_mul : OpR X (binaryOp .Mult) (rS2 .mul) := by
  refine OpR.imp (OpR.or op_mul op_rep) fun x y H Q h => ?_
  obtain ⟨S, dx, dy, d, dom, hx, hy, e, q⟩ := h
  cases dx <;> cases dy <;> simp only [sem2, reduceCtorEq, Option.some.injEq] at e
  · split at e
    · rename_i hz
      cases e
      exact .inl ⟨_, _, hx.int, hy.int, hz, q _ _ (.same (.int _))⟩
    · cases e
  · split at e
    · rename_i hz
      cases e
      obtain ⟨a, vs, rfl, ha, fa⟩ := hx.lst_
      exact .inr ⟨a, _, vs, rfl, hy.int, ha, hz.1, hz.2.1, by rw [fa.length]; exact hz.2.2, fun p hp => q _ _ (.lst hp (fa.rep _))⟩
    · cases e
theorem o_fdiv : OpR X (binaryOp .FloorDiv) (rS2 .fdiv) := by
  refine OpR.imp op_fdiv fun x y H Q h => ?_
  obtain ⟨S, dx, dy, d, dom, hx, hy, e, q⟩ := h
  cases dx <;> cases dy <;> simp only [sem2, reduceCtorEq, Option.some.injEq] at e
  split at e
  · rename_i hz
    cases e
    exact ⟨_, _, hx.int, hy.int, hz, q _ _ (.same (.int _))⟩
  · cases e
theorem o_mod : OpR X (binaryOp .Mod) (rS2 .mod) := by
  refine OpR.imp op_mod fun x y H Q h => ?_
  obtain ⟨S, dx, dy, d, dom, hx, hy, e, q⟩ := h
  cases dx <;> cases dy <;> simp only [sem2, reduceCtorEq, Option.some.injEq] at e
  split at e
  · rename_i hz
    cases e
    exact ⟨_, _, hx.int, hy.int, hz, q _ _ (.same (.int _))⟩
  · cases e
theorem o_pow : OpR X (binaryOp .Pow) (rS2 .pow) := by
  refine OpR.imp op_pow fun x y H Q h => ?_
  obtain ⟨S, dx, dy, d, dom, hx, hy, e, q⟩ := h
  cases dx <;> cases dy <;> simp only [sem2, reduceCtorEq, Option.some.injEq] at e
  split at e
  · rename_i hz
    cases e
    exact ⟨_, _, hx.int, hy.int, hz, q _ _ (.same (.int _))⟩
  · cases e
theorem eqD_some {d e : D} {b : Bool} (h : eqD d e = some b) : SeqAt.shaped (toP d) = true ∧ SeqAt.shaped (toP e) = true ∧ b = PyData.eqv (toP d) (toP e) := by
  unfold eqD at h
  split at h
  · rename_i z
    cases h
    exact ⟨z.1, z.2, rfl⟩
  · cases h
theorem o_eq (hu : X.A.units + 64 < cLine) : OpR X (compareOp .Eq) (rS2 .eq) := by
  refine OpR.imp (op_eqD hu) fun x y H Q h => ?_
  obtain ⟨S, dx, dy, d, dom, hx, hy, e, q⟩ := h
  obtain ⟨b, eb, rfl⟩ := Option.map_eq_some_iff.mp (show (eqD dx dy).map D.bl = some d from by cases dx <;> cases dy <;> exact e)
  obtain ⟨s1, s2, rfl⟩ := eqD_some eb
  exact ⟨_, _, hx.dp (SeqAt.canLay_of_shaped s1), hy.dp (SeqAt.canLay_of_shaped s2), s1, s2, q _ _ (.same (.bl _))⟩
theorem o_ne (hu : X.A.units + 64 < cLine) : OpR X (compareOp .NotEq) (rS2 .ne) := by
  refine OpR.imp (op_neD hu) fun x y H Q h => ?_
  obtain ⟨S, dx, dy, d, dom, hx, hy, e, q⟩ := h
  obtain ⟨b, eb, rfl⟩ := Option.map_eq_some_iff.mp (show (eqD dx dy).map (fun b => D.bl (!b)) = some d from by cases dx <;> cases dy <;> exact e)
  obtain ⟨s1, s2, rfl⟩ := eqD_some eb
  exact ⟨_, _, hx.dp (SeqAt.canLay_of_shaped s1), hy.dp (SeqAt.canLay_of_shaped s2), s1, s2, q _ _ (.same (.bl _))⟩
theorem ints_of : ∀ {xs : List D} {ns : List Int}, intsO xs = some ns → xs = ns.map .int
  | [], ns, h => by
    cases h
    rfl
  | d :: xs, ns, h => by
    unfold intsO at h
    split at h
    · rename_i k ks e1 e2
      cases h
      cases d <;> cases e1
      rw [List.map_cons, ← ints_of e2]
    · cases h
theorem o_lt (hu : X.A.units + 64 < cLine) : OpR X (compareOp .Lt) (rS2 .lt) := by
  refine OpR.imp (OpR.or op_lt (op_ltT (by omega))) fun x y H Q h => ?_
  obtain ⟨S, dx, dy, d, dom, hx, hy, e, q⟩ := h
  cases dx <;> cases dy <;> simp only [sem2, reduceCtorEq, Option.some.injEq] at e
  · subst e
    exact .inl ⟨_, _, hx.int, hy.int, q _ _ (.same (.bl _))⟩
  · split at e
    · rename_i a b e1 e2
      cases e
      cases ints_of e1
      cases ints_of e2
      obtain ⟨p, vs, rfl, hp, fp⟩ := hx.tup_
      obtain ⟨r, ws, rfl, hr, fr⟩ := hy.tup_
      cases fp.ints
      cases fr.ints
      exact .inr ⟨p, r, a, b, rfl, rfl, SqT.of hp, SqT.of hr, q _ _ (.same (.bl _))⟩
    · cases e
theorem o_le : OpR X (compareOp .LtE) (rS2 .le) := by
  refine OpR.imp op_le fun x y H Q h => ?_
  obtain ⟨S, dx, dy, d, dom, hx, hy, e, q⟩ := h
  cases dx <;> cases dy <;> simp only [sem2, reduceCtorEq, Option.some.injEq] at e
  subst e
  exact ⟨_, _, hx.int, hy.int, q _ _ (.same (.bl _))⟩
theorem o_gt : OpR X (compareOp .Gt) (rS2 .gt) := by
  refine OpR.imp op_gt fun x y H Q h => ?_
  obtain ⟨S, dx, dy, d, dom, hx, hy, e, q⟩ := h
  cases dx <;> cases dy <;> simp only [sem2, reduceCtorEq, Option.some.injEq] at e
  subst e
  exact ⟨_, _, hx.int, hy.int, q _ _ (.same (.bl _))⟩
theorem o_ge (hu : X.A.units + 64 < cLine) : OpR X (compareOp .GtE) (rS2 .ge) := by
  refine OpR.imp (OpR.or op_ge (op_geT (by omega))) fun x y H Q h => ?_
  obtain ⟨S, dx, dy, d, dom, hx, hy, e, q⟩ := h
  cases dx <;> cases dy <;> simp only [sem2, reduceCtorEq, Option.some.injEq] at e
  · subst e
    exact .inl ⟨_, _, hx.int, hy.int, q _ _ (.same (.bl _))⟩
  · split at e
    · rename_i a b e1 e2
      cases e
      cases ints_of e1
      cases ints_of e2
      obtain ⟨p, vs, rfl, hp, fp⟩ := hx.tup_
      obtain ⟨r, ws, rfl, hr, fr⟩ := hy.tup_
      cases fp.ints
      cases fr.ints
      exact .inr ⟨p, r, a, b, rfl, rfl, SqT.of hp, SqT.of hr, q _ _ (.same (.bl _))⟩
    · cases e
/-! orders of data -/
theorem ordO_ok {a b : D} (h : ordO a b = true) : shD a = true ∧ shD b = true ∧ PySem.W.alike (toP a) (toP b) = true ∧ toP a ≠ .none := by
  unfold ordO at h
  rw [Bool.and_eq_true, Bool.and_eq_true, Bool.and_eq_true] at h
  refine ⟨h.1, h.2.1, h.2.2.1, fun z => ?_⟩
  cases a <;> first | (cases z; done) | (have := h.2.2.2; cases this)
theorem data_ok {S : Addr → Prop} {H : Hp} {x y : V} {dx dy : D} {pins : List (Addr × Obj)} {s : Shared} {σ : L2.St} {v u : Value} (I : Inv X pins σ H s) (hx : Bz S H x dx) (hy : Bz S H y dy) (rx : RelV x v) (ry : RelV y u) (ho : ordO dx dy = true) (hu : X.A.units + 64 < cLine) :
    ∃ as bs, Reads s.heap v (toP dx) as ∧ Reads s.heap u (toP dy) bs ∧ PySem.W.alike (toP dx) (toP dy) = true ∧ toP dx ≠ .none ∧ X.A.units + min (toP dx).depth (toP dy).depth < cLine := by
  obtain ⟨h1, h2, h3, h4⟩ := ordO_ok ho
  obtain ⟨as, r1⟩ := Dp.reads (X := X) I _ _ _ (hx.dp (SeqAt.canLay_of_shaped h1)) rx
  obtain ⟨bs, r2⟩ := Dp.reads (X := X) I _ _ _ (hy.dp (SeqAt.canLay_of_shaped h2)) ry
  exact ⟨as, bs, r1, r2, h3, h4, SeqAt.room_of_shaped h1 hu⟩
theorem o_ltD (hu : X.A.units + 64 < cLine) : OpR X (compareOp .Lt) (rS2 .ltD) := by
  rintro pins s σ H x y v u Q I rx ry ⟨S, dx, dy, d, dom, hx, hy, e, q⟩
  have e : (if ordO dx dy then some (D.bl (ltDD dx dy)) else none) = some d := by cases dx <;> exact e
  split at e
  · rename_i ho
    cases e
    obtain ⟨as, bs, r1, r2, al, nn, room⟩ := data_ok I hx hy rx ry ho hu
    exact PySem.W.lt_data r1 r2 al nn room ⟨.bl (ltDD dx dy), H, I, rfl, q _ _ (.same (.bl _))⟩
  · cases e
theorem o_gtD (hu : X.A.units + 64 < cLine) : OpR X (compareOp .Gt) (rS2 .gtD) := by
  rintro pins s σ H x y v u Q I rx ry ⟨S, dx, dy, d, dom, hx, hy, e, q⟩
  have e : (if ordO dx dy then some (D.bl (ltDD dy dx)) else none) = some d := by cases dx <;> exact e
  split at e
  · rename_i ho
    cases e
    obtain ⟨as, bs, r1, r2, al, nn, room⟩ := data_ok I hx hy rx ry ho hu
    exact PySem.W.gt_data r1 r2 al nn room ⟨.bl (ltDD dy dx), H, I, rfl, q _ _ (.same (.bl _))⟩
  · cases e
theorem o_leD (hu : X.A.units + 64 < cLine) : OpR X (compareOp .LtE) (rS2 .leD) := by
  rintro pins s σ H x y v u Q I rx ry ⟨S, dx, dy, d, dom, hx, hy, e, q⟩
  have e : (if ordO dx dy then some (D.bl (!ltDD dy dx)) else none) = some d := by cases dx <;> exact e
  split at e
  · rename_i ho
    cases e
    obtain ⟨as, bs, r1, r2, al, nn, room⟩ := data_ok I hx hy rx ry ho hu
    exact PySem.W.le_data r1 r2 al nn room ⟨.bl (!ltDD dy dx), H, I, rfl, q _ _ (.same (.bl _))⟩
  · cases e
theorem o_geD (hu : X.A.units + 64 < cLine) : OpR X (compareOp .GtE) (rS2 .geD) := by
  rintro pins s σ H x y v u Q I rx ry ⟨S, dx, dy, d, dom, hx, hy, e, q⟩
  have e : (if ordO dx dy then some (D.bl (!ltDD dx dy)) else none) = some d := by cases dx <;> exact e
  split at e
  · rename_i ho
    cases e
    obtain ⟨as, bs, r1, r2, al, nn, room⟩ := data_ok I hx hy rx ry ho hu
    exact PySem.W.ge_data r1 r2 al nn room ⟨.bl (!ltDD dx dy), H, I, rfl, q _ _ (.same (.bl _))⟩
  · cases e
/-! dicts -/
theorem kO_kD (k : Key) : kO (kD k) = some k := by cases k <;> rfl
theorem kOs_kD : ∀ ks : List Key, kOs (ks.map kD) = some ks
  | [] => rfl
  | k :: ks => by
    rw [List.map_cons]
    unfold kOs
    rw [kO_kD, kOs_kD ks]
theorem tO_tD (ks : List Key) : tO (tD ks) = some ks := kOs_kD ks
theorem tO_kD (k : Key) : tO (kD k) = none := by cases k <;> rfl
theorem keq_t (a b : List Key) : keq (tD a) (tD b) = decide (a = b) := by
  unfold keq
  rw [tO_tD, tO_tD]
theorem keq_k (a b : Key) : keq (kD a) (kD b) = decide (a = b) := by
  unfold keq
  rw [tO_kD, kO_kD, kO_kD]
theorem kO_some {d : D} {k : Key} (h : kO d = some k) : d = kD k := by
  cases d <;> simp only [kO, reduceCtorEq, Option.some.injEq] at h <;> (subst h; rfl)
theorem kOs_some : ∀ {ds : List D} {ks : List Key}, kOs ds = some ks → ds = ks.map kD
  | [], ks, h => by cases h; rfl
  | d :: ds, ks, h => by
    unfold kOs at h
    split at h
    · rename_i k ks' e1 e2
      cases h
      rw [List.map_cons, ← kO_some e1, ← kOs_some e2]
    · cases h
theorem tO_some {d : D} {ks : List Key} (h : tO d = some ks) : d = tD ks := by
  cases d <;> simp only [tO, reduceCtorEq] at h
  unfold tD
  rw [← kOs_some h]
section
variable {S : Addr → Prop} {H : Hp}
theorem Fz.key {k : Key} {v : V} (h : Fz S H v (kD k)) : v = kV k := by cases k <;> (cases h; rfl)
theorem FzL.keys : ∀ {ks : List Key} {vs : List V}, FzL S H vs (ks.map kD) → vs = ks.map kV
  | [], _, h => by cases h; rfl
  | k :: ks, _, h => by
    cases h with
    | cons a b => rw [List.map_cons, ← a.key, ← FzL.keys b]
theorem Bz.keyT {d : D} {ks : List Key} {v : V} (h : Bz S H v d) (e : tO d = some ks) : ∃ b, v = .ref b ∧ H b = some (.tup (ks.map kV)) := by
  cases tO_some e
  obtain ⟨a, vs, rfl, ha, fa⟩ := h.tup_
  cases fa.keys
  exact ⟨a, rfl, ha⟩
theorem Bz.keyK {d : D} {k : Key} {v : V} (h : Bz S H v d) (e : kO d = some k) : v = kV k := by
  cases kO_some e
  cases k
  · exact h.int
  · exact h.str
/-- what stands at a key -/
inductive OptFz (S : Addr → Prop) (H : Hp) : Option V → Option D → Prop
  | none : OptFz S H none none
  | some {v : V} {d : D} : Fz S H v d → OptFz S H (some v) (some d)
theorem dGet_pos {p : D × D} {r : List (D × D)} {k : D} (e : keq p.1 k = true) : dGet (p :: r) k = some p.2 := by simp [dGet, List.find?_cons, e]
theorem dGet_neg {p : D × D} {r : List (D × D)} {k : D} (e : keq p.1 k = false) : dGet (p :: r) k = dGet r k := by simp [dGet, List.find?_cons, e]
theorem FzT.at_ : ∀ {kvs : List (List Key × V)} {es : List (D × D)} (k : List Key), FzT S H kvs es → OptFz S H (valV kvs k) (dGet es (tD k))
  | _, _, k, .nil => by exact .none
  | _, _, k, .cons (k := j) (v := v) (kvs := kvs) (d := d) (es := es) a b => by
    by_cases e : j = k
    · rw [valV_pos (p := (j, v)) e, dGet_pos (p := (tD j, d)) (by rw [keq_t, e]; simp)]
      exact .some a
    · rw [valV_neg (p := (j, v)) e, dGet_neg (p := (tD j, d)) (by rw [keq_t]; simp [e])]
      exact FzT.at_ k b
theorem FzK.at_ : ∀ {kvs : List (Key × V)} {es : List (D × D)} (k : Key), FzK S H kvs es → OptFz S H (valV kvs k) (dGet es (kD k))
  | _, _, k, .nil => by exact .none
  | _, _, k, .cons (k := j) (v := v) (kvs := kvs) (d := d) (es := es) a b => by
    by_cases e : j = k
    · rw [valV_pos (p := (j, v)) e, dGet_pos (p := (kD j, d)) (by rw [keq_k, e]; simp)]
      exact .some a
    · rw [valV_neg (p := (j, v)) e, dGet_neg (p := (kD j, d)) (by rw [keq_k]; simp [e])]
      exact FzK.at_ k b
theorem FzT.length : ∀ {kvs : List (List Key × V)} {es : List (D × D)}, FzT S H kvs es → kvs.length = es.length
  | _, _, .nil => rfl
  | _, _, .cons _ b => congrArg (· + 1) (FzT.length b)
theorem FzK.length : ∀ {kvs : List (Key × V)} {es : List (D × D)}, FzK S H kvs es → kvs.length = es.length
  | _, _, .nil => rfl
  | _, _, .cons _ b => congrArg (· + 1) (FzK.length b)
theorem OptFz.isSome {o : Option V} {p : Option D} (h : OptFz S H o p) : o.isSome = p.isSome := by cases h <;> rfl
theorem isKey_t {k : D} (h : isKey true k = true) : ∃ ks, tO k = some ks := by
  unfold isKey at h
  rw [if_pos rfl] at h
  exact Option.isSome_iff_exists.mp h
theorem isKey_k {k : D} (h : isKey false k = true) : ∃ ks, kO k = some ks := by
  unfold isKey at h
  rw [if_neg (by decide)] at h
  exact Option.isSome_iff_exists.mp h
/-- a look-up -/
theorem get_ok {t : Bool} {es : List (D × D)} {x y : V} {dk : D} (hx : Bz S H x (.dic t es)) (hy : Bz S H y dk) (hk : isKey t dk = true) : ∃ a o, x = .ref a ∧ DGet H a y o ∧ OptFz S H o (dGet es dk) := by
  cases t with
  | true =>
    obtain ⟨ks, e⟩ := isKey_t hk
    obtain ⟨a, kvs, rfl, ha, fa⟩ := hx.dT_
    obtain ⟨b, rfl, hb⟩ := hy.keyT e
    cases tO_some e
    exact ⟨a, _, rfl, .inr ⟨kvs, ks, b, ha, rfl, hb, rfl⟩, fa.at_ ks⟩
  | false =>
    obtain ⟨k, e⟩ := isKey_k hk
    obtain ⟨a, kvs, rfl, ha, fa⟩ := hx.dK_
    cases hy.keyK e
    cases kO_some e
    exact ⟨a, _, rfl, .inl ⟨kvs, k, ha, rfl, rfl⟩, fa.at_ k⟩
end
def rDIn (f : Bool → Bool) : R2 := fun x y H Q => ∃ a o, y = .ref a ∧ DGet H a x o ∧ Q (.bl (f o.isSome)) H
theorem op_din (hu : X.A.units + 1 < cLine) : OpR X (compareOp .In) (rDIn id) := by
  intro pins s σ H x y v u Q I rx ry h
  obtain ⟨a, o, rfl, g, q⟩ := h
  obtain rfl : u = Value.ref a := ry
  exact d_in hu I g rx fun s' I' => ⟨.bl (id o.isSome), H, I', rfl, q⟩
theorem op_dnin (hu : X.A.units + 1 < cLine) : OpR X (compareOp .NotIn) (rDIn not) := by
  intro pins s σ H x y v u Q I rx ry h
  obtain ⟨a, o, rfl, g, q⟩ := h
  obtain rfl : u = Value.ref a := ry
  exact d_notIn hu I g rx fun s' I' => ⟨.bl (!o.isSome), H, I', rfl, q⟩
theorem shD_dp {S : Addr → Prop} {K : PySem.W.Frag} {H : Hp} {d : D} {v : V} (h : Bz S H v d) (e : shD d = true) : Dp K H v (toP d) := h.dp (SeqAt.canLay_of_shaped e)
theorem o_mem (hu : X.A.units + 65 < cLine) : OpR X (compareOp .In) (rS2 .mem) := by
  refine OpR.imp (OpR.or op_in_seq (OpR.or (op_inD hu) (op_din (by omega)))) fun x y H Q h => ?_
  obtain ⟨S, dx, dy, d, dom, hx, hy, e, q⟩ := h
  have key : ∀ (ds : List D) (vs : List V) (a : Addr), y = .ref a → (SqL X.K H a vs ∨ SqT X.K H a vs) → FzL S H vs ds → (if flatD dx && ds.all flatD then some (D.bl (ds.any fun y => eqF y dx)) else none) = some d → rIn X.K false x y H Q := by
    intro ds vs a ey hs f e
    split at e
    · rename_i z
      rw [Bool.and_eq_true] at z
      cases e
      have fx := flatB hx z.1
      refine ⟨a, vs, ey, hs, flat_V fx z.1, flats_V f z.2, ?_⟩
      rw [if_neg Bool.false_ne_true, in_V fx z.1 f z.2]
      exact q _ _ (.same (.bl _))
    · cases e
  cases dy with
  | lst ds =>
    obtain ⟨a, vs, rfl, ha, fa⟩ := hy.lst_
    have e : (if (flatD dx && ds.all flatD) || (shD dx && shD (.lst ds)) then some (D.bl (ds.any fun y => eqF y dx)) else none) = some d := by cases dx <;> exact e
    by_cases hf : (flatD dx && ds.all flatD) = true
    · refine .inl (key ds vs a rfl (.inl (SqL.of ha)) fa ?_)
      rw [if_pos hf]
      rw [hf, Bool.true_or, if_pos rfl] at e
      exact e
    · have hf : (flatD dx && ds.all flatD) = false := by simpa using hf
      rw [hf, Bool.false_or] at e
      split at e
      · rename_i z
        rw [Bool.and_eq_true] at z
        cases e
        have z2 : SeqAt.shaped (.list (toPs ds)) = true := z.2
        refine .inr (.inl ⟨toP dx, toPs ds, shD_dp hx z.1, shD_dp hy z.2, z.1, z2, ?_⟩)
        rw [toPs_map, List.any_map]
        exact q _ _ (.same (.bl _))
      · cases e
  | tup ds =>
    obtain ⟨a, vs, rfl, ha, fa⟩ := hy.tup_
    exact .inl (key ds vs a rfl (.inr (SqT.of ha)) fa (by cases dx <;> exact e))
  | dic t es =>
    have e : (if isKey t dx then some (D.bl ((dGet es dx).isSome)) else none) = some d := by cases dx <;> exact e
    split at e
    · rename_i hk
      cases e
      obtain ⟨a, o, rfl, g, fo⟩ := get_ok hy hx hk
      refine .inr (.inr ⟨a, o, rfl, g, ?_⟩)
      rw [fo.isSome]
      exact q _ _ (.same (.bl _))
    · cases e
  | non => cases dx <;> cases e
  | bl _ => cases dx <;> cases e
  | int _ => cases dx <;> cases e
  | str _ => cases dx <;> cases e
  | scr _ => cases dx <;> cases e
  | obj _ _ => cases dx <;> cases e
theorem o_nmem (hu : X.A.units + 65 < cLine) : OpR X (compareOp .NotIn) (rS2 .nmem) := by
  refine OpR.imp (OpR.or op_notIn_seq (OpR.or (op_notInD hu) (op_dnin (by omega)))) fun x y H Q h => ?_
  obtain ⟨S, dx, dy, d, dom, hx, hy, e, q⟩ := h
  have key : ∀ (ds : List D) (vs : List V) (a : Addr), y = .ref a → (SqL X.K H a vs ∨ SqT X.K H a vs) → FzL S H vs ds → (if flatD dx && ds.all flatD then some (D.bl (!ds.any fun y => eqF y dx)) else none) = some d → rIn X.K true x y H Q := by
    intro ds vs a ey hs f e
    split at e
    · rename_i z
      rw [Bool.and_eq_true] at z
      cases e
      have fx := flatB hx z.1
      refine ⟨a, vs, ey, hs, flat_V fx z.1, flats_V f z.2, ?_⟩
      rw [if_pos rfl, in_V fx z.1 f z.2]
      exact q _ _ (.same (.bl _))
    · cases e
  cases dy with
  | lst ds =>
    obtain ⟨a, vs, rfl, ha, fa⟩ := hy.lst_
    have e : (if (flatD dx && ds.all flatD) || (shD dx && shD (.lst ds)) then some (D.bl (!ds.any fun y => eqF y dx)) else none) = some d := by cases dx <;> exact e
    by_cases hf : (flatD dx && ds.all flatD) = true
    · refine .inl (key ds vs a rfl (.inl (SqL.of ha)) fa ?_)
      rw [if_pos hf]
      rw [hf, Bool.true_or, if_pos rfl] at e
      exact e
    · have hf : (flatD dx && ds.all flatD) = false := by simpa using hf
      rw [hf, Bool.false_or] at e
      split at e
      · rename_i z
        rw [Bool.and_eq_true] at z
        cases e
        have z2 : SeqAt.shaped (.list (toPs ds)) = true := z.2
        refine .inr (.inl ⟨toP dx, toPs ds, shD_dp hx z.1, shD_dp hy z.2, z.1, z2, ?_⟩)
        rw [toPs_map, List.any_map]
        exact q _ _ (.same (.bl _))
      · cases e
  | tup ds =>
    obtain ⟨a, vs, rfl, ha, fa⟩ := hy.tup_
    exact .inl (key ds vs a rfl (.inr (SqT.of ha)) fa (by cases dx <;> exact e))
  | dic t es =>
    have e : (if isKey t dx then some (D.bl (!(dGet es dx).isSome)) else none) = some d := by cases dx <;> exact e
    split at e
    · rename_i hk
      cases e
      obtain ⟨a, o, rfl, g, fo⟩ := get_ok hy hx hk
      refine .inr (.inr ⟨a, o, rfl, g, ?_⟩)
      rw [fo.isSome]
      exact q _ _ (.same (.bl _))
    · cases e
  | non => cases dx <;> cases e
  | bl _ => cases dx <;> cases e
  | int _ => cases dx <;> cases e
  | str _ => cases dx <;> cases e
  | scr _ => cases dx <;> cases e
  | obj _ _ => cases dx <;> cases e
theorem IxR.imp {r r' : R2} (h : IxR X r) (i : ∀ x y H Q, r' x y H Q → r x y H Q) : IxR X r' :=
  fun value slice pins s σ H x y v u Q I rx ry q => h value slice pins s σ H x y v u Q I rx ry (i _ _ _ _ q)
theorem o_idx : IxR X (rS2 .idx) := by
  refine IxR.imp ix_seq fun x y H Q h => ?_
  obtain ⟨S, dx, dy, d, dom, hx, hy, e, q⟩ := h
  cases dx <;> cases dy <;> simp only [sem2, reduceCtorEq] at e
  · split at e
    · rename_i hz
      obtain ⟨c, ec, rfl⟩ := Option.map_eq_some_iff.mp e
      exact .inr (.inr ⟨_, _, c, hx.str, hy.int, hz, ec, q _ _ (.same (.str _))⟩)
    · cases e
  · obtain ⟨a, vs, rfl, ha, fa⟩ := hx.lst_
    obtain ⟨v, ev, fv⟩ := atI_FzL fa e
    exact .inl ⟨a, vs, _, v, rfl, hy.int, SqL.of ha, ev, q _ _ (.same fv)⟩
  · obtain ⟨a, vs, rfl, ha, fa⟩ := hx.tup_
    obtain ⟨v, ev, fv⟩ := atI_FzL fa e
    exact .inr (.inl ⟨a, vs, _, v, rfl, hy.int, SqT.of ha, ev, q _ _ (.same fv)⟩)
end
end Bell
set_option Elab.async false
set_option linter.all false
set_option maxRecDepth 100000
set_option autoImplicit false
/-! The state of a frame; readings by trees. -/
namespace Bell
open PySem PySem.Spec PyProof.Rows L2

/-- how a slot is held: as a thing that stands, or as the frame's own list, dict -/
inductive Md where
  | fz | li | dk | dt
deriving DecidableEq
inductive Ow (S : Addr → Prop) (H : Hp) : Md → V → D → List Addr → Prop
  | fz {v : V} {d : D} : Fz S H v d → Ow S H .fz v d []
  | li {a : Addr} {vs : List V} {ds : List D} : H a = some (.lst vs) → FzL S H vs ds → Ow S H .li (.ref a) (.lst ds) [a]
  | dk {a : Addr} {kvs : List (Key × V)} {es : List (D × D)} : H a = some (.dK kvs) → FzK S H kvs es → Ow S H .dk (.ref a) (.dic false es) [a]
  | dt {a : Addr} {kvs : List (List Key × V)} {es : List (D × D)} : H a = some (.dT kvs) → FzT S H kvs es → Ow S H .dt (.ref a) (.dic true es) [a]
section
variable {S S' : Addr → Prop} {H H' : Hp} {m : Md} {v : V} {d : D} {F : List Addr}
theorem Ow.ext (e : Ext S H S' H') (k : ∀ a o, a ∈ F → H a = some o → H' a = some o) (h : Ow S H m v d F) : Ow S' H' m v d F := by
  cases h with
  | fz h => exact .fz (h.ext e)
  | li h x => exact .li (k _ _ (List.mem_singleton.mpr rfl) h) (x.ext e)
  | dk h x => exact .dk (k _ _ (List.mem_singleton.mpr rfl) h) (x.ext e)
  | dt h x => exact .dt (k _ _ (List.mem_singleton.mpr rfl) h) (x.ext e)
theorem Ow.there (h : Ow S H m v d F) {a : Addr} (ha : a ∈ F) : ∃ o, H a = some o ∧ NT o := by
  cases h with
  | fz h => cases ha
  | li h x => rw [List.mem_singleton.mp ha]; exact ⟨_, h, trivial⟩
  | dk h x => rw [List.mem_singleton.mp ha]; exact ⟨_, h, trivial⟩
  | dt h x => rw [List.mem_singleton.mp ha]; exact ⟨_, h, trivial⟩
theorem Ow.bz (h : Ow S H m v d F) : Bz S H v d := by
  cases h with
  | fz h => exact .fz h
  | li h x => exact .lst h x
  | dk h x => exact .dK (.inl h) x
  | dt h x => exact .dT (.inl h) x
theorem Ow.unfz (h : Ow S H .fz v d F) : Fz S H v d ∧ F = [] := by
  cases h with
  | fz h => exact ⟨h, rfl⟩
end

/-- a frame: what its callers hold, the heap at its entry, the changed arguments -/
structure Fc where
  S0 : Addr → Prop
  HS : Hp
  H0 : Hp
  I0 : List Addr
  io : List (Nat × V × List Addr)
  n : Nat
  T : (Addr → Prop) → Hp → Prop
  TE : ∀ S H S' H', T S H → Ext S H S' H' → T S' H'
def sOf (c : Fc) (F : Nat → List Addr) : Addr → Prop := fun a => c.S0 a ∨ ∃ i, a ∈ F i
structure EnvOk (c : Fc) (ms : List Md) (σ : L2.St) (H : Hp) (ρ : Env) (F : Nat → List Addr) : Prop where
  held : ∀ a, c.S0 a → ∃ o, H a = some o ∧ c.HS a = some o ∧ NT o
  len : ρ.length = σ.length
  slot : ∀ i d, ρ[i]? = some (some d) → ∃ v, σ[i]? = some (some v) ∧ Ow (sOf c F) H (ms.getD i .fz) v d (F i)
  nof : ∀ i, (∀ d, ρ[i]? ≠ some (some d)) → F i = []
  dj : ∀ i j a, a ∈ F i → a ∈ F j → i = j
  out : ∀ i a, a ∈ F i → ¬ c.S0 a
  new : ∀ i a, a ∈ F i → a ∈ c.I0 ∨ c.H0 a = none
  keep : ∀ b o, c.H0 b = some o → b ∉ c.I0 → H b = some o
  pin : ∀ p ∈ c.io, σ[p.1]? = some (some p.2.1) ∧ F p.1 = p.2.2 ∧ ms.getD p.1 .fz ≠ .fz
  sl : σ.length = c.n
  tt : c.T (sOf c F) H
section
variable {c : Fc} {ms : List Md} {σ : L2.St} {H H' : Hp} {ρ ρ' : Env} {F F' : Nat → List Addr}
theorem EnvOk.domNT (E : EnvOk c ms σ H ρ F) {a : Addr} (h : sOf c F a) : ∃ o, H a = some o ∧ NT o := by
  rcases h with h | ⟨i, h⟩
  · obtain ⟨o, e, _, t⟩ := E.held a h
    exact ⟨o, e, t⟩
  · by_cases q : ∃ d, ρ[i]? = some (some d)
    · obtain ⟨d, q⟩ := q
      obtain ⟨v, _, w⟩ := E.slot i d q
      exact w.there h
    · rw [E.nof i fun d z => q ⟨d, z⟩] at h
      cases h
theorem EnvOk.dom (E : EnvOk c ms σ H ρ F) : Dom (sOf c F) H := fun a h => E.domNT h
theorem EnvOk.same (E : EnvOk c ms σ H ρ F) (s : Same H H') : EnvOk c ms σ H' ρ F :=
  ⟨fun a h => let ⟨o, e, x, t⟩ := E.held a h; ⟨o, s a o e, x, t⟩, E.len, fun i d h => let ⟨v, a, w⟩ := E.slot i d h; ⟨v, a, w.ext (same_ext s) fun a o _ e => s a o e⟩, E.nof, E.dj, E.out, E.new, fun b o e n => s b o (E.keep b o e n), E.pin, E.sl, c.TE _ _ _ _ E.tt (same_ext s)⟩
theorem EnvOk.get (E : EnvOk c ms σ H ρ F) {i : Nat} {d : D} (h : ρ[i]? = some (some d)) : ∃ v, σ[i]? = some (some v) ∧ Ow (sOf c F) H (ms.getD i .fz) v d (F i) := E.slot i d h
end

abbrev WF : WX := fun _ _ _ _ => False
/-- what is wanted behind a run -/
def Post (c : Fc) (ms : List Md) (W : WX) (cls : Nat → Value) (σ : L2.St) (S : Addr → Prop) (H : Hp) {α : Type} (P : α → Env → Hp → (Nat → List Addr) → Prop) : Out α → Prop
  | .ok a ρ' => ∀ H' F', EnvOk c ms σ H' ρ' F' → Ext S H (sOf c F') H' → P a ρ' H' F'
  | .exc k ρ' => ∀ H' F', EnvOk c ms σ H' ρ' F' → W (cls k) none σ H'
  | .stuck => False
section
variable {c : Fc} {ms : List Md} {W : WX} {cls : Nat → Value} {σ : L2.St} {S S' : Addr → Prop} {H H' : Hp} {α β : Type} {P P' : α → Env → Hp → (Nat → List Addr) → Prop}
theorem Post.mono {x : Out α} (h : Post c ms W cls σ S H P x) (i : ∀ a ρ' H' F', EnvOk c ms σ H' ρ' F' → Ext S H (sOf c F') H' → P a ρ' H' F' → P' a ρ' H' F') : Post c ms W cls σ S H P' x := by
  cases x with
  | ok a ρ' => exact fun H' F' E e => i _ _ _ _ E e (h H' F' E e)
  | exc k ρ' => exact h
  | stuck => exact h
theorem Post.later {x : Out α} (h : Post c ms W cls σ S H P x) (e : Ext S H S' H') : Post c ms W cls σ S' H' P x := by
  cases x with
  | ok a ρ' => exact fun H2 F2 E e2 => h H2 F2 E (e.trans e2)
  | exc k ρ' => exact h
  | stuck => exact h
theorem Post.bind {x : Out β} {f : β → Env → Out α} (h : Post c ms W cls σ S H P (x.bind f)) : Post c ms W cls σ S H (fun b ρ' H' F' => Post c ms W cls σ (sOf c F') H' P (f b ρ')) x := by
  cases x with
  | ok a ρ' => exact fun H' F' E e => Post.later (x := f a ρ') h e
  | exc k ρ' => exact h
  | stuck => exact h
end

abbrev Rel := (Addr → Prop) → Hp → V → D → Prop
/-- an expression's reading by trees -/
def RdG (R : Rel) (ms : List Md) (W : WX) (cls : Nat → Value) (m : Env → Out D) : TE := fun σ H Q =>
  ∃ (c : Fc) (ρ : Bell.Env) (F : Nat → List Addr), EnvOk c ms σ H ρ F ∧ Post c ms W cls σ (sOf c F) H (fun d _ H' F' => ∀ v, R (sOf c F') H' v d → Q v H') (m ρ)
def OvOk (σ : L2.St) (S : Addr → Prop) (H : Hp) (v : V) : Ov → Prop
  | .d d => Fz S H v d
  | .s i _ => σ[i]? = some (some v)
inductive OvsOk (σ : L2.St) (S : Addr → Prop) (H : Hp) : List V → List Ov → Prop
  | nil : OvsOk σ S H [] []
  | cons {v : V} {o : Ov} {vs : List V} {os : List Ov} : OvOk σ S H v o → OvsOk σ S H vs os → OvsOk σ S H (v :: vs) (o :: os)
def RdL (ms : List Md) (W : WX) (cls : Nat → Value) (m : Env → Out (List D)) : TA := fun σ H Q =>
  ∃ (c : Fc) (ρ : Bell.Env) (F : Nat → List Addr), EnvOk c ms σ H ρ F ∧ Post c ms W cls σ (sOf c F) H (fun ds _ H' F' => ∀ vs, FzL (sOf c F') H' vs ds → Q vs H') (m ρ)
def RdA (ms : List Md) (W : WX) (cls : Nat → Value) (m : Env → Out (List Ov)) : TA := fun σ H Q =>
  ∃ (c : Fc) (ρ : Bell.Env) (F : Nat → List Addr), EnvOk c ms σ H ρ F ∧ Post c ms W cls σ (sOf c F) H (fun os _ H' F' => ∀ vs, OvsOk σ (sOf c F') H' vs os → Q vs H') (m ρ)
/-- a test's -/
def RdT (ms : List Md) (W : WX) (cls : Nat → Value) (m : Env → Out Bool) : TT := fun σ H Q =>
  ∃ (c : Fc) (ρ : Bell.Env) (F : Nat → List Addr), EnvOk c ms σ H ρ F ∧ Post c ms W cls σ (sOf c F) H (fun b _ H' _ => Q b H') (m ρ)

section
variable {X : Cx} {e : Expr} {t t' : TE}
theorem PE.imp (h : PE X e t) (i : ∀ σ H Q, t' σ H Q → t σ H Q) : PE X e t' := ⟨fun pins s σ H Q I q => h.run pins s σ H Q I (i _ _ _ q)⟩
theorem PT.imp {t t' : TT} (h : PT X e t) (i : ∀ σ H Q, t' σ H Q → t σ H Q) : PT X e t' := ⟨fun pins s σ H Q I q => h.run pins s σ H Q I (i _ _ _ q)⟩
theorem PA.imp {es : List Expr} {t t' : TA} (h : PA X es t) (i : ∀ σ H Q, t' σ H Q → t σ H Q) : PA X es t' := ⟨fun pos pins s σ H Q I q => h.run pos pins s σ H Q I (i _ _ _ q)⟩
theorem PS.imp {st : Stmt} {t t' : TS} (h : PS X st t) (i : ∀ D σ H, t' D σ H → t D σ H) : PS X st t' := ⟨fun pins s σ H D I q => h.run pins s σ H D I (i _ _ _ q)⟩
theorem PSs.imp {st : List Stmt} {t t' : TS} (h : PSs X st t) (i : ∀ D σ H, t' D σ H → t D σ H) : PSs X st t' := ⟨fun pins s σ H D I q => h.run pins s σ H D I (i _ _ _ q)⟩
end

section
variable {X : Cx} {c : Fc} {ms : List Md} {W : WX} {cls : Nat → Value} {σ : L2.St} {H : Hp} {Q : VK} {e a b : Expr} {m ma mb mc : Env → Out D}
theorem RdG.bz (h : PE X e (RdG Fz ms W cls m)) : PE X e (RdG Bz ms W cls m) :=
  PE.imp h fun σ H Q ⟨c, ρ, F, E, p⟩ => ⟨c, ρ, F, E, p.mono fun d _ H' F' _ _ q v fv => q v (.fz fv)⟩
/-- an operation's end -/
theorem fin_same {d : Option D} {ρ : Env} {F : Nat → List Addr} (E : EnvOk c ms σ H ρ F) {P : D → Env → Hp → (Nat → List Addr) → Prop} (p : Post c ms W cls σ (sOf c F) H P (fin d ρ)) :
    ∃ d', d = some d' ∧ ∀ v H', New (sOf c F) H v H' d' → P d' ρ H' F := by
  cases d with
  | none => exact p.elim
  | some d' => exact ⟨d', rfl, fun v H' n => p H' F (E.same n.keeps) (same_ext n.keeps)⟩
theorem rd_some {i : Nat} {ρ : Env} {P : D → Env → Hp → (Nat → List Addr) → Prop} {S : Addr → Prop} (p : Post c ms W cls σ S H P (rd i ρ)) : ∃ d, ρ[i]? = some (some d) ∧ Post c ms W cls σ S H P (.ok d ρ) := by
  unfold rd at p
  split at p
  · rename_i d e
    exact ⟨d, e, p⟩
  · exact p.elim
/-- one operand -/
theorem op1_ok {o : O1} (h : RdG Fz ms W cls (fun ρ => (ma ρ).bind fun x ρ => fin (sem1 o x) ρ) σ H Q) : RdG Bz ms W cls ma σ H (fun x H1 => rS1 o x H1 Q) := by
  obtain ⟨c, ρ, F, E, p⟩ := h
  refine ⟨c, ρ, F, E, (Post.bind p).mono fun dx ρ1 H1 F1 E1 e1 p1 x fx => ?_⟩
  obtain ⟨d, ed, k⟩ := fin_same E1 p1
  exact ⟨_, dx, d, E1.dom, fx, ed, fun v H' n => k v H' n v (n.fz E1.dom)⟩
/-- two operands -/
theorem op2_ok {o : O2} (h : RdG Fz ms W cls (fun ρ => (ma ρ).bind fun x ρ => (mb ρ).bind fun y ρ => fin (sem2 o x y) ρ) σ H Q) :
    RdG Fz ms W cls ma σ H (fun x H1 => RdG Bz ms W cls mb σ H1 fun y H2 => rS2 o x y H2 Q) := by
  obtain ⟨c, ρ, F, E, p⟩ := h
  refine ⟨c, ρ, F, E, (Post.bind p).mono fun dx ρ1 H1 F1 E1 e1 p1 x fx => ⟨c, ρ1, F1, E1, (Post.bind p1).mono fun dy ρ2 H2 F2 E2 e2 p2 y fy => ?_⟩⟩
  obtain ⟨d, ed, k⟩ := fin_same E2 p2
  exact ⟨_, dx, dy, d, E2.dom, .fz (fx.ext e2), fy, ed, fun v H' n => k v H' n v (n.fz E2.dom)⟩
/-- .. the first one borrowed -/
theorem op2b_ok {o : O2} {i : Nat} (h : RdG Fz ms W cls (fun ρ => (rd i ρ).bind fun _ ρ => (mb ρ).bind fun y ρ => (rd i ρ).bind fun x ρ => fin (sem2 o x y) ρ) σ H Q) :
    tVar i σ H (fun x H1 => RdG Bz ms W cls mb σ H1 fun y H2 => rS2 o x y H2 Q) := by
  obtain ⟨c, ρ, F, E, p⟩ := h
  obtain ⟨d0, e0, p⟩ := rd_some (Post.bind p)
  have p := p H F E (Ext.refl _ _)
  obtain ⟨v, hv, _⟩ := E.get e0
  refine ⟨v, hv, c, ρ, F, E, (Post.bind p).mono fun dy ρ2 H2 F2 E2 e2 p2 y fy => ?_⟩
  obtain ⟨dx, ex, p2⟩ := rd_some (Post.bind p2)
  have p2 := p2 H2 F2 E2 (Ext.refl _ _)
  obtain ⟨v', hv', w⟩ := E2.get ex
  rw [hv] at hv'
  cases hv'
  obtain ⟨d, ed, k⟩ := fin_same E2 p2
  exact ⟨_, dx, dy, d, E2.dom, w.bz, fy, ed, fun v H' n => k v H' n v (n.fz E2.dom)⟩
/-- three -/
theorem op3_ok {o : O3} (h : RdG Fz ms W cls (fun ρ => (ma ρ).bind fun x ρ => (mb ρ).bind fun y ρ => match y with
    | .int y => (mc ρ).bind fun z ρ => fin (sem3 o x (.int y) z) ρ
    | _ => .stuck) σ H Q) :
    RdG Fz ms W cls ma σ H (fun x H1 => RdG Fz ms W cls mb σ H1 fun y H2 => (∃ i, y = .int i) ∧ RdG Fz ms W cls mc σ H2 fun z H3 => rS3 o x y z H3 Q) := by
  obtain ⟨c, ρ, F, E, p⟩ := h
  refine ⟨c, ρ, F, E, (Post.bind p).mono fun dx ρ1 H1 F1 E1 e1 p1 x fx => ⟨c, ρ1, F1, E1, (Post.bind p1).mono fun dy ρ2 H2 F2 E2 e2 p2 y fy => ?_⟩⟩
  cases dy with
  | int i =>
    cases fy
    refine ⟨⟨i, rfl⟩, c, ρ2, F2, E2, (Post.bind p2).mono fun dz ρ3 H3 F3 E3 e3 p3 z fz => ?_⟩
    obtain ⟨d, ed, k⟩ := fin_same E3 p3
    exact ⟨_, dx, .int i, dz, d, E3.dom, .fz ((fx.ext e2).ext e3), .fz (.int i), .fz fz, ed, fun v H' n => k v H' n v (n.fz E3.dom)⟩
  | _ => exact p2.elim
theorem op3b_ok {o : O3} {i : Nat} (h : RdG Fz ms W cls (fun ρ => (rd i ρ).bind fun _ ρ => (mb ρ).bind fun y ρ => match y with
    | .int y => (mc ρ).bind fun z ρ => (rd i ρ).bind fun x ρ => fin (sem3 o x (.int y) z) ρ
    | _ => .stuck) σ H Q) :
    tVar i σ H (fun x H1 => RdG Fz ms W cls mb σ H1 fun y H2 => (∃ i, y = .int i) ∧ RdG Fz ms W cls mc σ H2 fun z H3 => rS3 o x y z H3 Q) := by
  obtain ⟨c, ρ, F, E, p⟩ := h
  obtain ⟨d0, e0, p⟩ := rd_some (Post.bind p)
  have p := p H F E (Ext.refl _ _)
  obtain ⟨v, hv, _⟩ := E.get e0
  refine ⟨v, hv, c, ρ, F, E, (Post.bind p).mono fun dy ρ2 H2 F2 E2 e2 p2 y fy => ?_⟩
  cases dy with
  | int j =>
    cases fy
    refine ⟨⟨j, rfl⟩, c, ρ2, F2, E2, (Post.bind p2).mono fun dz ρ3 H3 F3 E3 e3 p3 z fz => ?_⟩
    obtain ⟨dx, ex, p3⟩ := rd_some (Post.bind p3)
    have p3 := p3 H3 F3 E3 (Ext.refl _ _)
    obtain ⟨v', hv', w⟩ := E3.get ex
    rw [hv] at hv'
    cases hv'
    obtain ⟨d, ed, k⟩ := fin_same E3 p3
    exact ⟨_, dx, .int j, dz, d, E3.dom, w.bz, .fz (.int j), .fz fz, ed, fun v H' n => k v H' n v (n.fz E3.dom)⟩
  | _ => exact p2.elim
theorem var_ok {i : Nat} (hm : ms.getD i .fz = .fz) (h : RdG Fz ms W cls (rd i) σ H Q) : tVar i σ H Q := by
  obtain ⟨c, ρ, F, E, p⟩ := h
  obtain ⟨d, e, p⟩ := rd_some p
  obtain ⟨v, hv, w⟩ := E.get e
  rw [hm] at w
  exact ⟨v, hv, p H F E (Ext.refl _ _) v w.unfz.1⟩
theorem bor_ok {i : Nat} (h : RdG Bz ms W cls (rd i) σ H Q) : tVar i σ H Q := by
  obtain ⟨c, ρ, F, E, p⟩ := h
  obtain ⟨d, e, p⟩ := rd_some p
  obtain ⟨v, hv, w⟩ := E.get e
  exact ⟨v, hv, p H F E (Ext.refl _ _) v w.bz⟩
end
end Bell
set_option Elab.async false
set_option linter.all false
set_option maxRecDepth 100000
set_option autoImplicit false
/-! A text and its small form. -/
namespace Bell
open PySem PySem.Spec PyProof.Rows L2

structure GI where
  fn : List (Str × List Md)
  co : List (Str × D)
  fr : List Str
  er : List Str

def globB (sc : Scope) (x : Str) : Bool := decide (sc.names.lookup x = some .globalImplicit)
def visB (sc : Scope) (x : Str) : Bool := match sc.names.lookup x with
  | some .local => true
  | some .cell => true
  | some .free => true
  | _ => false
def locB (sc : Scope) (x : Str) : Bool := match sc.names.lookup x with
  | some .local => true
  | some .cell => true
  | _ => false
def okName (x : Str) : Bool := !(x == ("__debug__" : Str)) && (!(x == ("__classdict__" : Str)) && decide (x ≠ ("__name__" : Str)))
def bi (G : GI) (sc : Scope) (f : Str) (nm : String) : Bool := decide (f = (nm : Str)) && (globB sc nm && decide ((nm : Str) ∈ G.fr))
def nst : Expr → Bool
  | .Starred _ _ => false
  | _ => true
def plainB : Expr → Bool
  | .Slice _ _ _ _ => false
  | _ => true
def nset : Expr → Bool
  | .Set _ _ _ => false
  | _ => true
def tyN : TyK → String
  | .int => "int"
  | .bool => "bool"
  | .str => "str"
  | .list => "list"
  | .tuple => "tuple"
def cB : D → Const → Bool
  | .non, .none => true
  | .bl b, .bool k => b == k
  | .int i, .int k => i == k
  | .str x, .str y => decide (x = y)
  | _, _ => false
def sEq : D → D → Bool
  | .int i, .int j => decide (i = j)
  | .str i, .str j => decide (i = j)
  | _, _ => false
def sh1 (G : GI) (sc : Scope) : O1 → Expr → Option Expr
  | .len, .Call (.Name f _) [a] [] _ => if bi G sc f "len" && nst a then some a else none
  | .list, .Call (.Name f _) [a] [] _ => if bi G sc f "list" && nst a then some a else none
  | .tuple, .Call (.Name f _) [a] [] _ => if bi G sc f "tuple" && nst a then some a else none
  | .isI t, .Call (.Name f _) [a, .Name ty _] [] _ => if bi G sc f "isinstance" && (bi G sc ty (tyN t) && nst a) then some a else none
  | .neg, .UnaryOp .USub a _ => some a
  | .isN, .Compare a [.Is] [.Constant .none _ _] _ => some a
  | .notN, .Compare a [.IsNot] [.Constant .none _ _] _ => some a
  | .lrng1, .Call (.Name f _) [.Call (.Name g _) [a] [] _] [] _ => if bi G sc f "list" && (bi G sc g "range" && nst a) then some a else none
  | .lenSet, .Call (.Name f _) [.Call (.Name g _) [a] [] _] [] _ => if bi G sc f "len" && (bi G sc g "set" && nst a) then some a else none
  | .rev, .Subscript a (.Slice none none (some (.UnaryOp .USub (.Constant (.int 1) _ _) _)) _) _ => some a
  | .abs, .Call (.Name f _) [a] [] _ => if bi G sc f "abs" && nst a then some a else none
  | .sum, .Call (.Name f _) [a] [] _ => if bi G sc f "sum" && nst a then some a else none
  | .sortI, .Call (.Name f _) [a] [] _ => if bi G sc f "sorted" && nst a then some a else none
  | .sortT, .Call (.Name f _) [a] [] _ => if bi G sc f "sorted" && nst a then some a else none
  | .minL, .Call (.Name f _) [a] [] _ => if bi G sc f "min" && nst a then some a else none
  | .maxL, .Call (.Name f _) [a] [] _ => if bi G sc f "max" && nst a then some a else none
  | .sortD, .Call (.Name f _) [a] [] _ => if bi G sc f "sorted" && nst a then some a else none
  | .minD, .Call (.Name f _) [a] [] _ => if bi G sc f "min" && nst a then some a else none
  | .str, .Call (.Name f _) [a] [] _ => if bi G sc f "str" && nst a then some a else none
  | .maxD, .Call (.Name f _) [a] [] _ => if bi G sc f "max" && nst a then some a else none
  | _, _ => none
def binO : O2 → Option Operator
  | .add => some .Add
  | .catL => some .Add
  | .sub => some .Sub
  | .mul => some .Mult
  | .fdiv => some .FloorDiv
  | .mod => some .Mod
  | .pow => some .Pow
  | _ => none
def cmpO : O2 → Option CmpOp
  | .eq => some .Eq
  | .ne => some .NotEq
  | .lt => some .Lt
  | .le => some .LtE
  | .gt => some .Gt
  | .ge => some .GtE
  | .mem => some .In
  | .nmem => some .NotIn
  | .ltD => some .Lt
  | .leD => some .LtE
  | .gtD => some .Gt
  | .geD => some .GtE
  | _ => none
def sh2 (G : GI) (sc : Scope) : O2 → Expr → Option (Expr × Expr)
  | o, .BinOp a op b _ => if binO o = some op then some (a, b) else none
  | o, .Compare a [op] [b] _ => if cmpO o = some op ∧ nset b = true then some (a, b) else none
  | .idx, .Subscript a b _ => if plainB b then some (a, b) else none
  | .frm, .Subscript a (.Slice (some b) none none _) _ => some (a, b)
  | .upto, .Subscript a (.Slice none (some b) none _) _ => some (a, b)
  | .lrng, .Call (.Name f _) [.Call (.Name g _) [a, b] [] _] [] _ => if bi G sc f "list" && (bi G sc g "range" && (nst a && nst b)) then some (a, b) else none
  | .trng, .Call (.Name f _) [.Call (.Name g _) [a, b] [] _] [] _ => if bi G sc f "tuple" && (bi G sc g "range" && (nst a && nst b)) then some (a, b) else none
  | .max2, .Call (.Name f _) [a, b] [] _ => if bi G sc f "max" && (nst a && nst b) then some (a, b) else none
  | .min2, .Call (.Name f _) [a, b] [] _ => if bi G sc f "min" && (nst a && nst b) then some (a, b) else none
  | .min2D, .Call (.Name f _) [a, b] [] _ => if bi G sc f "min" && (nst a && nst b) then some (a, b) else none
  | .dget, .Subscript a b _ => if plainB b then some (a, b) else none
  | _, _ => none
def sh3 (G : GI) (sc : Scope) : O3 → Expr → Option (Expr × Expr × Expr)
  | .slice, .Subscript a (.Slice (some b) (some c) none _) _ => some (a, b, c)
  | .lrng3, .Call (.Name f _) [.Call (.Name g _) [a, b, c] [] _] [] _ => if bi G sc f "list" && (bi G sc g "range" && (nst a && (nst b && nst c))) then some (a, b, c) else none
  | _, _ => none
/-- what a method is looked up in -/
def attB : Expr → Bool
  | .Call (.Name _ _) [] [] _ => false
  | _ => true
/-- a method's call -/
def shM : Mt → Expr → Option (Expr × List Expr)
  | .index, .Call (.Attribute o f ap) [a] [] cp => if decide (f = ("index" : Str)) && ((ap.endLine == cp.line) && (attB o && nst a)) then some (o, [a]) else none
  | .count, .Call (.Attribute o f ap) [a] [] cp => if decide (f = ("count" : Str)) && ((ap.endLine == cp.line) && (attB o && nst a)) then some (o, [a]) else none
  | .indexD, .Call (.Attribute o f ap) [a] [] cp => if decide (f = ("index" : Str)) && ((ap.endLine == cp.line) && (attB o && nst a)) then some (o, [a]) else none
  | .get1, .Call (.Attribute o f ap) [a] [] cp => if decide (f = ("get" : Str)) && ((ap.endLine == cp.line) && (attB o && nst a)) then some (o, [a]) else none
  | .get2, .Call (.Attribute o f ap) [a, b] [] cp => if decide (f = ("get" : Str)) && ((ap.endLine == cp.line) && (attB o && (nst a && nst b))) then some (o, [a, b]) else none
  | _, _ => none
def shI (G : GI) (sc : Scope) : IK → Expr → Option (List Expr)
  | .lst, e => some [e]
  | .tup, e => some [e]
  | .scr, e => some [e]
  | .rng1, .Call (.Name g _) [a] [] _ => if bi G sc g "range" && nst a then some [a] else none
  | .rng2, .Call (.Name g _) [a, b] [] _ => if bi G sc g "range" && (nst a && nst b) then some [a, b] else none
  | .rng3, .Call (.Name g _) [a, b, c] [] _ => if bi G sc g "range" && (nst a && (nst b && nst c)) then some [a, b, c] else none
  | .rev, .Call (.Name g _) [a] [] _ => if bi G sc g "reversed" && nst a then some [a] else none
  | _, _ => none
/-- a target's names -/
def mTn (N : List Str) (sc : Scope) (i : Nat) : Expr → Bool
  | .Name x _ => decide (N[i]? = some x) && locB sc x
  | _ => false
def mTs (N : List Str) (sc : Scope) : List Nat → List Expr → Bool
  | [], [] => true
  | i :: is, e :: es => mTn N sc i e && mTs N sc is es
  | _, _ => false
def mT (N : List Str) (sc : Scope) : Tg → Expr → Bool
  | .n i, e => mTn N sc i e
  | .t is, .Tuple es _ _ => mTs N sc is es
  | _, _ => false
def tgSlots : Tg → List Nat
  | .n i => [i]
  | .t is => is
def ownN (N : List Str) (own : List Nat) : List (Str × Nat) := own.map fun i => (N.getD i "", i)
/-- a plain test: by its value's truth -/
def tPlain : Expr → Bool
  | .Name _ _ => true
  | .Call _ _ _ _ => true
  | .Subscript _ _ _ => true
  | .ListComp _ _ _ _ => true
  | .Constant _ _ _ => true
  | .Attribute _ _ _ => true
  | .BinOp _ _ _ _ => true
  | _ => false
/-- what stands as a test -/
def tOk : Expr → Bool
  | .UnaryOp .Not _ _ => true
  | .BoolOp _ _ _ => true
  | .Compare _ [_] [_] _ => true
  | .Compare _ [_, _] [_, _] _ => true
  | e => tPlain e
def ioS : List Ex → List Nat
  | [] => []
  | .io i :: es => i :: ioS es
  | _ :: es => ioS es
def isIO : Ex → Bool
  | .io _ => true
  | _ => false
def getB : Ex → Option Nat
  | .b i => some i
  | _ => none
def mNm (N : List Str) (sc : Scope) (i : Nat) : Expr → Bool
  | .Name x _ => decide (N[i]? = some x) && (visB sc x && okName x)
  | _ => false
/-- an operand may be borrowed -/
def nBx : Ex → Bool
  | .b _ => false
  | _ => true
def opd (N : List Str) (sc : Scope) (x : Ex) (e : Expr) (r : Bool) : Bool := match x with
  | .b i => mNm N sc i e
  | _ => r
mutual
/-- e says e' -/
def mE (G : GI) (N : List Str) (ms : List Md) (sc : Scope) : Ex → Expr → Bool
  | .c d, .Constant k _ _ => cB d k
  | .g x d, .Name y _ => decide (x = y) && (globB sc x && (okName x && G.co.any fun p => decide (p.1 = x) && sEq p.2 d))
  | .v i, e => mNm N sc i e && decide (ms.getD i .fz = .fz)
  | .op1 o a, e => match sh1 G sc o e with
    | some e' => opd N sc a e' (mE G N ms sc a e')
    | none => false
  | .op2 o a b, e => match sh2 G sc o e with
    | some (e1, e2) => opd N sc a e1 (mE G N ms sc a e1) && (opd N sc b e2 (mE G N ms sc b e2) && (decide (o ≠ .min2D) || (nBx a && nBx b)))
    | none => false
  | .op3 o a b c, e => match sh3 G sc o e with
    | some (e1, e2, e3) => opd N sc a e1 (mE G N ms sc a e1) && (mE G N ms sc b e2 && mE G N ms sc c e3)
    | none => false
  | .mth m o es, e => match shM m e with
    | some (e1, as) => opd N sc o e1 (mE G N ms sc o e1) && mL G N ms sc es as
    | none => false
  | .chn o p a b c, .Compare e1 [q1, q2] [e2, e3] _ => decide (cmpO o = some q1 ∧ cmpO p = some q2 ∧ nset e3 = true) && (mE G N ms sc a e1 && (mE G N ms sc b e2 && mE G N ms sc c e3))
  | .and a b, .BoolOp .And (e1 :: e2 :: r) pos => (mE G N ms sc a e1 && tOk e1) && (if r.isEmpty then mE G N ms sc b e2 && tOk e2 else mE G N ms sc b (.BoolOp .And (e2 :: r) pos))
  | .or a b, .BoolOp .Or (e1 :: e2 :: r) pos => (mE G N ms sc a e1 && tOk e1) && (if r.isEmpty then mE G N ms sc b e2 && tOk e2 else mE G N ms sc b (.BoolOp .Or (e2 :: r) pos))
  | .not a, .UnaryOp .Not e _ => opd N sc a e (mE G N ms sc a e) && tOk e
  | .ife c a b, .IfExp e1 e2 e3 _ => (opd N sc c e1 (mE G N ms sc c e1) && tOk e1) && (mE G N ms sc a e2 && mE G N ms sc b e3)
  | .tupD es, .Tuple as _ _ => mL G N ms sc es as
  | .lstD es, .List as _ => mL G N ms sc es as
  | .dicE _, .Dict [] [] _ => true
  | .call f es, .Call (.Name x _) as [] _ => match G.fn[f]? with
    | some (nm, sg) => decide (nm = x) && (globB sc x && (okName x && (mA G N ms sc sg es as && (!as.isEmpty && decide (ioS es).Nodup))))
    | none => false
  | .lc own tg ik its cond elt, .ListComp e1 [⟨t, it, ifs, 0⟩] scope _ =>
    (nset it && (match shI G sc ik it with
    | some as => mL G N ms sc its as
    | none => false)) && (blkC N sc scope (ownN N own) && (own.all (fun i => decide (i < N.length) && decide (ms.getD i .fz = .fz)) && (mT N scope tg t && ((tgSlots tg).all (fun i => decide (i ∈ own)) &&
    ((match cond, ifs with
      | none, [] => true
      | some c, [e] => opd N scope c e (mE G N ms scope c e) && tOk e
      | _, _ => false) && mE G N ms scope elt e1)))))
  | .lcd own tg i cond elt, .ListComp e1 [⟨t, it, ifs, 0⟩] scope _ =>
    (mNm N sc i it && decide (ms.getD i .fz = .fz)) && (blkC N sc scope (ownN N own) && (own.all (fun i => decide (i < N.length) && decide (ms.getD i .fz = .fz)) && (mT N scope tg t && ((tgSlots tg).all (fun i => decide (i ∈ own)) &&
    ((match cond, ifs with
      | none, [] => true
      | some c, [e] => opd N scope c e (mE G N ms scope c e) && tOk e
      | _, _ => false) && mE G N ms scope elt e1)))))
  | .dic1 _ k v, .Dict [some ke] [ve] _ => mE G N ms sc k ke && mE G N ms sc v ve
  | .pop i, .Call (.Attribute o f ap) [] [] cp => mNm N sc i o && (decide (ms.getD i .fz = .li) && (decide (f = ("pop" : Str)) && (ap.endLine == cp.line)))
  | _, _ => false
def mL (G : GI) (N : List Str) (ms : List Md) (sc : Scope) : List Ex → List Expr → Bool
  | [], [] => true
  | e :: es, a :: as => nst a && (mE G N ms sc e a && mL G N ms sc es as)
  | _, _ => false
def mA (G : GI) (N : List Str) (ms : List Md) (sc : Scope) : List Md → List Ex → List Expr → Bool
  | [], [], [] => true
  | .fz :: sg, e :: es, a :: as => nst a && (opd N sc e a (mE G N ms sc e a) && mA G N ms sc sg es as)
  | m :: sg, .io i :: es, a :: as => mNm N sc i a && (decide (m ≠ .fz) && (decide (ms.getD i .fz = m) && mA G N ms sc sg es as))
  | _, _, _ => false
end
example (φ : Calls) (d : D) (ρ : Env) : ev φ (.op2 .add (.c (.int 1)) (.c (.int 2))) ρ = .ok (.int 3) ρ := by rfl
example (φ : Calls) (d : D) (ρ : Env) : ev φ (.op2 .add (.c (.int 1)) (.c (.int 2))) ρ = .ok (.int 3) ρ := rfl
end Bell
set_option Elab.async false
set_option linter.all false
set_option maxRecDepth 100000
set_option autoImplicit false
/-! Operations as expressions. -/
namespace Bell
open PySem PySem.Spec PyProof.Rows L2

/-- the facts around a body (or a comprehension's block) -/
def Agr (sc s' : Scope) : Prop := ∀ x k, sc.names.lookup x = some k → ∃ k', s'.names.lookup x = some k' ∧ (k' = k ∨ (k = .free ∧ k' = .cell))
def dV : D → V
  | .int i => .int i
  | .str x => .str x
  | .bl b => .bl b
  | _ => .non
inductive ArgsOk (S : Addr → Prop) (H : Hp) : List Md → List V → List D → List (List Addr) → Prop
  | nil : ArgsOk S H [] [] [] []
  | cons {m : Md} {v : V} {d : D} {F : List Addr} {sg : List Md} {vs : List V} {ds : List D} {Fs : List (List Addr)} : Ow S H m v d F → ArgsOk S H sg vs ds Fs → ArgsOk S H (m :: sg) (v :: vs) (d :: ds) (F :: Fs)
inductive OutsOk (S : Addr → Prop) (H : Hp) : List Md → List V → List (List Addr) → List D → Prop
  | nil : OutsOk S H [] [] [] []
  | fz {v : V} {F : List Addr} {sg : List Md} {vs : List V} {Fs : List (List Addr)} {outs : List D} : OutsOk S H sg vs Fs outs → OutsOk S H (.fz :: sg) (v :: vs) (F :: Fs) outs
  | io {m : Md} {v : V} {F : List Addr} {d : D} {sg : List Md} {vs : List V} {Fs : List (List Addr)} {outs : List D} : m ≠ .fz → Ow S H m v d F → OutsOk S H sg vs Fs outs → OutsOk S H (m :: sg) (v :: vs) (F :: Fs) (d :: outs)
/-- a def's promise: it reckons as g does -/
def spOf (sg : List Md) (g : List D → Res) (cls : Nat → Value) : Sp := fun vs H Q E =>
  ∃ (S0 : Addr → Prop) (ds : List D) (Fs : List (List Addr)),
    (∀ a, S0 a → a ∉ Fs.flatten ∧ ∃ o, H a = some o ∧ NT o) ∧ Fs.flatten.Nodup ∧ ArgsOk (fun a => S0 a ∨ a ∈ Fs.flatten) H sg vs ds Fs ∧
    match g ds with
    | .ret d outs => ∀ v H', (∀ b o, H b = some o → b ∉ Fs.flatten → H' b = some o) → OutsOk (fun a => S0 a ∨ a ∈ Fs.flatten) H' sg vs Fs outs → Fz (fun a => S0 a ∨ a ∈ Fs.flatten) H' v d → Q v H'
    | .exc k outs => ∀ H', (∀ b o, H b = some o → b ∉ Fs.flatten → H' b = some o) → OutsOk (fun a => S0 a ∨ a ∈ Fs.flatten) H' sg vs Fs outs → E (cls k) none H'
    | .stuck => False
/-- the own errors -/
structure Er (G : GI) (cls : Nat → Value) (Ct : Catch) (X : Cx) : Prop where
  at_ : ∀ (j : Nat) (x : Str), G.er[j]? = some x → ∃ C : Addr, cls j = .ref C ∧ X.mg x = some (.ref C) ∧ PySem.W.keepIn X.K (.ref C) = true ∧
    PySem.W.excIn X.K C [.type "ValueError", .type "Exception", .type "BaseException", .type "object"] "ValueError.__new__" = true ∧ PySem.W.subIn X.K (.ref C) (.type "BaseException") = some true ∧ PySem.W.typeIn X.K (.ref C) = some (.type "type")
  ex : ∀ i j : Nat, PySem.W.exmOne X.K (cls i) (cls j) = some (Ct i j)
  xc : ∀ i : Nat, ∃ C : Addr, cls i = .ref C ∧ ExcC X.K C ∧ PySem.W.exmOne X.K (.ref C) (.ref C) = some true ∧ PySem.W.kitOne X.K (.ref C) (.type "ValueError") = some true
structure Cg (G : GI) (φ : Calls) (cls : Nat → Value) (k : Nat) (N : List Str) (X : Cx) (sc : Scope) (W : WX) : Prop where
  hN : X.N = N
  nd : N.Nodup
  agr : Agr sc X.env.scope
  calm : X.calm = true
  tk : Takes X W
  room : Room k X.A
  fns : ∀ (f : Nat) (nm : Str) (sg : List Md), G.fn[f]? = some (nm, sg) → ∃ (a : Addr) (fd : FuncData) (ps : List Str), X.mg nm = some (.ref a) ∧ PySem.W.keepIn X.K (.ref a) = true ∧ Binds X.K fd ps [] ∧
    FnOk X.prog X.w X.K X.mg X.base (L2.CX X.prog X.w) k a fd ps (spOf sg (φ f) cls)
  cos : ∀ (x : Str) (d : D), (x, d) ∈ G.co → ∃ u, X.mg x = some u ∧ RelV (dV d) u
  frs : ∀ x ∈ G.fr, X.mg x = none
  fnn : ∀ x, locB sc x = true → X.fn x = true ∨ X.env.scope.names.lookup x = some .local

section
variable {sc s' : Scope} {x : Str}
theorem Agr.glob (h : Agr sc s') (g : globB sc x = true) : s'.names.lookup x = some .globalImplicit := by
  obtain ⟨k', e, q⟩ := h x _ (of_decide_eq_true g)
  rcases q with q | ⟨q, _⟩
  · rw [e, q]
  · cases q
theorem Agr.vis (h : Agr sc s') (g : visB sc x = true) : Vis s' x := by
  unfold visB at g
  split at g
  · rename_i e
    obtain ⟨k', e', q⟩ := h x _ e
    rcases q with q | ⟨q, _⟩
    · exact .inl (by rw [e', q])
    · cases q
  · rename_i e
    obtain ⟨k', e', q⟩ := h x _ e
    rcases q with q | ⟨q, _⟩
    · exact .inr (.inl (by rw [e', q]))
    · cases q
  · rename_i e
    obtain ⟨k', e', q⟩ := h x _ e
    rcases q with q | ⟨_, q⟩
    · exact .inr (.inr (by rw [e', q]))
    · exact .inr (.inl (by rw [e', q]))
  · cases g
theorem Agr.loc (h : Agr sc s') (g : locB sc x = true) : Loc s' x := by
  unfold locB at g
  split at g
  · rename_i e
    obtain ⟨k', e', q⟩ := h x _ e
    rcases q with q | ⟨q, _⟩
    · exact .inl (by rw [e', q])
    · cases q
  · rename_i e
    obtain ⟨k', e', q⟩ := h x _ e
    rcases q with q | ⟨q, _⟩
    · exact .inr (by rw [e', q])
    · cases q
  · cases g
theorem okName_d (h : okName x = true) : (x == ("__debug__" : Str)) = false := by
  unfold okName at h
  rw [Bool.and_eq_true] at h
  exact Bool.not_eq_true' _ ▸ h.1
theorem okName_c (h : okName x = true) : (x == ("__classdict__" : Str)) = false := by
  unfold okName at h
  rw [Bool.and_eq_true, Bool.and_eq_true] at h
  exact Bool.not_eq_true' _ ▸ h.2.1
theorem star_cons {e : Expr} {es : List Expr} {env : PySem.Env} (h : nst e = true) : starEach (e :: es) env = (false, eval e env) :: starEach es env := by
  cases e <;> first | rfl | cases h
theorem plain_ix {b : Expr} (h : plainB b = true) : PlainIx b := by
  intro o i
  cases b <;> first | rfl | cases h
theorem nset_marks {op : CmpOp} {b : Expr} (h : nset b = true) : behindInMarks op b = false := by
  cases b <;> first | rfl | cases h
end

/-- one value handed in -/
def rC1 (o : O1) : List V → Hp → VK → Prop
  | [x], H, Q => rS1 o x H Q
  | _, _, _ => False
section
variable {X : Cx} {a b c : Expr} {ta tb tc : TE} {pos p : Pos} {sc : Scope} {x : Str}
theorem CallR.imp {f : Value} {r r' : List V → Hp → VK → Prop} (h : CallR X f r) (i : ∀ xs H Q, r' xs H Q → r xs H Q) : CallR X f r' :=
  fun pins s σ H xs us Q I rx q => h pins s σ H xs us Q I rx (i _ _ _ q)
/-- len of a dict, locked or not -/
theorem c_lenK : CallR X (.builtin "len") (fun xs H Q => ∃ a kvs, xs = [V.ref a] ∧ Rd H a (.dK kvs) ∧ Q (.int kvs.length) H) := by
  rintro pins s σ H xs us Q I r ⟨a, kvs, rfl, ha, q⟩
  obtain ⟨u, rfl, ru⟩ := vals1 r
  obtain rfl : u = Value.ref a := ru
  exact d_len I ha fun t s' J => ⟨.int kvs.length, _, J, ⟨t, rfl⟩, q⟩
theorem c_lenT : CallR X (.builtin "len") (fun xs H Q => ∃ (a : Addr) (kvs : List (List Key × V)), xs = [V.ref a] ∧ Rd H a (.dT kvs) ∧ Q (.int kvs.length) H) := by
  rintro pins s σ H xs us Q I r ⟨a, kvs, rfl, ha, q⟩
  obtain ⟨u, rfl, ru⟩ := vals1 r
  obtain rfl : u = Value.ref a := ru
  obtain ⟨small, nsys, ys, rel, dd⟩ := dt_rd I.hok ha
  have len_eq : kvs.length = ys.length := Paired.length rel
  refine call_len_dictH nsys dd (by rw [sizeLine_eq] at small; omega) ?_
  rw [← len_eq]
  exact ⟨.int kvs.length, H, I.tok _, ⟨_, rfl⟩, q⟩
theorem c_len : CallR X (.builtin "len") (rC1 .len) := by
  refine CallR.imp (CallR.or (CallR.or call_len_seq call_len_str) (CallR.or c_lenK c_lenT)) fun xs H Q h => ?_
  match xs, h with
  | [x], h =>
    obtain ⟨S, dx, d, dom, hx, e, q⟩ := h
    cases dx <;> simp only [sem1, reduceCtorEq, Option.some.injEq] at e
    · split at e
      · rename_i hz
        cases e
        exact .inl (.inr ⟨_, by rw [hx.str], hz, q _ _ (.same (.int _))⟩)
      · cases e
    · obtain ⟨a, vs, rfl, ha, fa⟩ := hx.lst_
      subst e
      refine .inl (.inl ⟨a, vs, rfl, .inl (SqL.of ha), ?_⟩)
      rw [fa.length]
      exact q _ _ (.same (.int _))
    · obtain ⟨a, vs, rfl, ha, fa⟩ := hx.tup_
      subst e
      refine .inl (.inl ⟨a, vs, rfl, .inr (SqT.of ha), ?_⟩)
      rw [fa.length]
      exact q _ _ (.same (.int _))
    · rename_i t es
      subst e
      cases t with
      | true =>
        obtain ⟨a, kvs, rfl, ha, fa⟩ := hx.dT_
        refine .inr (.inr ⟨a, kvs, rfl, ha, ?_⟩)
        rw [fa.length]
        exact q _ _ (.same (.int _))
      | false =>
        obtain ⟨a, kvs, rfl, ha, fa⟩ := hx.dK_
        refine .inr (.inl ⟨a, kvs, rfl, ha, ?_⟩)
        rw [fa.length]
        exact q _ _ (.same (.int _))
    · obtain ⟨a, o, rfl, ha⟩ := hx.scr_
      subst e
      refine .inl (.inl ⟨a, _, rfl, .inl (.inl (.inr ⟨o, ha⟩)), ?_⟩)
      rw [List.length_map]
      exact q _ _ (.same (.int _))
theorem c_list : CallR X (.type "list") (rC1 .list) := by
  refine CallR.imp call_list_of fun xs H Q h => ?_
  match xs, h with
  | [x], h =>
    obtain ⟨S, dx, d, dom, hx, e, q⟩ := h
    cases dx <;> simp only [sem1, reduceCtorEq, Option.some.injEq] at e
    · obtain ⟨a, vs, rfl, ha, fa⟩ := hx.lst_
      subst e
      exact ⟨a, vs, rfl, .inl (SqL.of ha), fun l hl => q _ _ (.lst hl fa)⟩
    · obtain ⟨a, vs, rfl, ha, fa⟩ := hx.tup_
      subst e
      exact ⟨a, vs, rfl, .inr (SqT.of ha), fun l hl => q _ _ (.lst hl fa)⟩
theorem c_str : CallR X (.type "str") (rC1 .str) := by
  refine CallR.imp call_str_int fun xs H Q h => ?_
  match xs, h with
  | [x], h =>
    obtain ⟨S, dx, d, dom, hx, e, q⟩ := h
    cases dx <;> simp only [sem1, reduceCtorEq] at e
    split at e
    · rename_i hz
      cases e
      exact ⟨_, by rw [hx.int], hz, q _ _ (.same (.str _))⟩
    · cases e
theorem c_tuple : CallR X (.type "tuple") (rC1 .tuple) := by
  refine CallR.imp call_tuple_of fun xs H Q h => ?_
  match xs, h with
  | [x], h =>
    obtain ⟨S, dx, d, dom, hx, e, q⟩ := h
    cases dx <;> simp only [sem1, reduceCtorEq, Option.some.injEq] at e
    · obtain ⟨a, vs, rfl, ha, fa⟩ := hx.lst_
      subst e
      exact ⟨a, vs, rfl, .inl ⟨SqL.of ha, fun l hl => q _ _ (.tup hl fa)⟩⟩
    · subst e
      have hx' := hx
      obtain ⟨a, vs, rfl, ha, fa⟩ := hx.tup_
      cases hx' with
      | fz hx' => exact ⟨a, vs, rfl, .inr ⟨SqT.of ha, q _ _ (.same hx')⟩⟩
theorem insI_perm (a : Int) : ∀ l : List Int, (insI a l).Perm (a :: l)
  | [] => .refl _
  | b :: l => by
    unfold insI
    split
    · exact .refl _
    · exact ((insI_perm a l).cons b).trans (.swap a b l)
theorem sortL_perm : ∀ l : List Int, (sortL l).Perm l
  | [] => .refl _
  | a :: l => (insI_perm a (sortL l)).trans ((sortL_perm l).cons a)
theorem insI_srt {a : Int} : ∀ {l : List Int}, l.Pairwise (· ≤ ·) → (insI a l).Pairwise (· ≤ ·)
  | [], _ => List.pairwise_singleton _ _
  | b :: l, h => by
    unfold insI
    obtain ⟨h1, h2⟩ := List.pairwise_cons.mp h
    split
    · rename_i z
      refine List.pairwise_cons.mpr ⟨fun c hc => ?_, h⟩
      rcases List.mem_cons.mp hc with rfl | hc
      · exact z
      · exact Int.le_trans z (h1 c hc)
    · rename_i z
      refine List.pairwise_cons.mpr ⟨fun c hc => ?_, insI_srt h2⟩
      rcases List.mem_cons.mp ((insI_perm a l).mem_iff.mp hc) with rfl | hc
      · omega
      · exact h1 c hc
theorem sortL_srt : ∀ l : List Int, (sortL l).Pairwise (· ≤ ·)
  | [] => .nil
  | a :: l => insI_srt (sortL_srt l)
theorem sortL_uniq {l m : List Int} (h : m.Perm l) (s : m.Pairwise (· ≤ ·)) : m = sortL l :=
  List.Perm.eq_of_pairwise (le := (· ≤ ·)) (fun a b _ _ h1 h2 => Int.le_antisymm h1 h2) s (sortL_srt l) (h.trans (sortL_perm l).symm)
theorem intsO_some : ∀ {xs : List D} {ns : List Int}, intsO xs = some ns → xs = ns.map .int
  | [], ns, h => by cases h; rfl
  | d :: xs, ns, h => by
    unfold intsO at h
    split at h
    · rename_i k ks e1 e2
      cases h
      cases d <;> simp only [intO, reduceCtorEq, Option.some.injEq] at e1
      subst e1
      rw [intsO_some e2]
      rfl
    · cases h
theorem FzL.ints_inv {S : Addr → Prop} {H : Hp} : ∀ {vs : List V} {ns : List Int}, FzL S H vs (ns.map .int) → vs = ns.map .int
  | [], [], _ => rfl
  | [], _ :: _, h => by cases h
  | _ :: _, [], h => by cases h
  | v :: vs, n :: ns, h => by
    cases h with
    | cons h1 h2 =>
      cases h1
      rw [FzL.ints_inv h2]
      rfl
theorem keysO_some {S : Addr → Prop} {H : Hp} : ∀ {es : List (D × D)} {ns : List Int} {kvs : List (Key × V)}, keysO es = some ns → FzK S H kvs es → kvs.map (·.1) = ns.map Sum.inl
  | [], ns, kvs, h, f => by cases h; cases f; rfl
  | (k, d) :: es, ns, kvs, h, f => by
    cases k <;> simp only [keysO, reduceCtorEq] at h
    obtain ⟨ms, hm, rfl⟩ := Option.map_eq_some_iff.mp h
    generalize hk : D.int _ = kd at f
    cases f with
    | @cons k' v kvs' _ _ a b =>
      cases k' with
      | inl i =>
        cases hk
        rw [List.map_cons, keysO_some hm b]
        rfl
      | inr i => cases hk
theorem c_sortI (hc : X.calm = true) : CallR X (.builtin "sorted") (rC1 .sortI) := by
  refine CallR.imp (CallR.or cr_sortedI (call_sortedDI hc)) fun xs H Q h => ?_
  match xs, h with
  | [x], h =>
    obtain ⟨S, dx, d, dom, hx, e, q⟩ := h
    cases dx <;> first | (simp only [sem1, reduceCtorEq] at e; done) | skip
    · have e : (intsO _).map _ = some d := e
      obtain ⟨ns, e1, rfl⟩ := Option.map_eq_some_iff.mp e
      obtain ⟨a, vs, rfl, ha, fa⟩ := hx.lst_
      cases intsO_some e1
      cases FzL.ints_inv fa
      refine .inl ⟨a, ns, rfl, SqL.of ha, fun ns' p hp hs hn => ?_⟩
      rw [sortL_uniq hp hs]
      exact q _ _ (.lst hn (FzL.of_ints _))
    · rename_i t es
      cases t with
      | true => cases e
      | false =>
        simp only [sem1] at e
        split at e
        · rename_i ns hk
          split at e
          · rename_i hl
            cases e
            obtain ⟨a, kvs, rfl, ha, fa⟩ := hx.dK_
            refine .inr ⟨a, kvs, ns, rfl, ha, keysO_some hk fa, hl, fun ys p hp hs hn => ?_⟩
            rw [sortL_uniq hp hs]
            exact q _ _ (.lst hn (FzL.of_ints _))
          · cases e
        · cases e
theorem and2 {p q : Bool} (h : (p && q) = true) : p = true ∧ q = true := by rwa [Bool.and_eq_true] at h
/-! data: sorted, min, max -/
mutual
theorem toP_inj : ∀ {d e : D}, (toP d).canLay0 = true → toP d = toP e → d = e
  | .non, e, _, h => by cases e <;> first | rfl | (simp [toP] at h)
  | .bl _, e, _, h => by cases e <;> simp [toP] at h <;> rw [h]
  | .int _, e, _, h => by cases e <;> simp [toP] at h <;> rw [h]
  | .str _, e, _, h => by cases e <;> simp [toP] at h <;> rw [h]
  | .lst xs, e, q, h => by
    cases e <;> simp [toP] at h
    rw [toPs_inj (by simpa [toP, PyData.canLay0] using q) h]
  | .tup xs, e, q, h => by
    cases e <;> simp [toP] at h
    rw [toPs_inj (by simpa [toP, PyData.canLay0] using q) h]
  | .dic _ _, _, q, _ => by simp [toP, PyData.canLay0] at q
  | .scr _, _, q, _ => by simp [toP, PyData.canLay0] at q
  | .obj _ _, _, q, _ => by simp [toP, PyData.canLay0] at q
theorem toPs_inj : ∀ {ds es : List D}, PyData.canLayAll0 (toPs ds) = true → toPs ds = toPs es → ds = es
  | [], [], _, _ => rfl
  | [], _ :: _, _, h => by simp [toPs] at h
  | _ :: _, [], _, h => by simp [toPs] at h
  | d :: ds, e :: es, q, h => by
    rw [toPs, PyData.canLayAll0, Bool.and_eq_true] at q
    simp only [toPs, List.cons.injEq] at h
    rw [toP_inj q.1 h.1, toPs_inj q.2 h.2]
end
theorem allAl_sh {xs : List D} (h : allAl xs = true) {d : D} (m : d ∈ xs) : shD d = true := (Bool.and_eq_true_iff.mp (List.all_eq_true.mp h d m)).1
theorem allAl_al {xs : List D} (h : allAl xs = true) {d e : D} (m : d ∈ xs) (n : e ∈ xs) : PySem.W.alike (toP d) (toP e) = true := List.all_eq_true.mp (Bool.and_eq_true_iff.mp (List.all_eq_true.mp h d m)).2 e n
theorem noNon_ok {xs : List D} (h : noNon xs = true) {d : D} (m : d ∈ xs) : toP d ≠ .none := fun z => by
  have := List.all_eq_true.mp h d m
  cases d <;> first | (cases z; done) | (cases this; done)
theorem sort_ok {xs : List D} (h : srtbl xs = true) : PySem.W.Sortable (xs.map toP) := by
  unfold srtbl at h
  rcases Bool.or_eq_true_iff.mp h with h | h
  · refine .inl fun p hp => ?_
    obtain ⟨d, m, rfl⟩ := List.mem_map.mp hp
    have := List.all_eq_true.mp h d m
    cases d <;> first | (cases this; done) | skip
    rename_i ys
    cases ys with
    | nil => cases this
    | cons y ys => exact ⟨toP y, toPs ys, rfl⟩
  · refine .inr fun p hp => ?_
    obtain ⟨d, m, rfl⟩ := List.mem_map.mp hp
    have := List.all_eq_true.mp h d m
    cases d <;> first | (cases this; done) | exact ⟨fun z => (by cases z), fun _ z => (by cases z)⟩
theorem each_of {S : Addr → Prop} {H : Hp} : ∀ {vs : List V} {us : List Value} {ds : List D}, Vals vs us → FzL S H vs ds → PySem.W.EachIs (fun u d => ∃ v, RelV v u ∧ Fz S H v d) us ds
  | _, _, _, .nil, .nil => .nil
  | _, _, _, .cons r rs, .cons f fs => .cons ⟨_, r, f⟩ (each_of rs fs)
theorem each_back {S : Addr → Prop} {H : Hp} : ∀ {us : List Value} {ds : List D}, PySem.W.EachIs (fun u d => ∃ v, RelV v u ∧ Fz S H v d) us ds → ∃ vs, Vals vs us ∧ FzL S H vs ds
  | _, _, .nil => ⟨[], .nil, .nil⟩
  | _, _, .cons ⟨v, r, f⟩ t => by
    obtain ⟨vs, rs, fs⟩ := each_back t
    exact ⟨v :: vs, .cons r rs, .cons f fs⟩
theorem each_mono {α β : Type} {R R' : α → β → Prop} : ∀ {as : List α} {bs : List β}, PySem.W.EachIs R as bs → (∀ a b, b ∈ bs → R a b → R' a b) → PySem.W.EachIs R' as bs
  | _, _, .nil, _ => .nil
  | _, _, .cons r t, h => .cons (h _ _ List.mem_cons_self r) (each_mono t fun a b m => h a b (List.mem_cons_of_mem _ m))
theorem c_sortD (hu : X.A.units + 66 < cLine) : CallR X (.builtin "sorted") (rC1 .sortD) := by
  intro pins s σ H xs us Q I r h
  match xs, h with
  | [x], h =>
    obtain ⟨S, dx, d, dom, hx, e, q⟩ := h
    cases dx <;> simp only [sem1, reduceCtorEq] at e
    rename_i ds
    split at e
    · rename_i hz
      cases e
      obtain ⟨h1, hz⟩ := and2 hz
      obtain ⟨h2, h3⟩ := and2 hz
      have h3 := of_decide_eq_true h3
      obtain ⟨a, vs, rfl, ha, fa⟩ := hx.lst_
      obtain ⟨u, rfl, ru⟩ := vals1 r
      cases ru
      obtain ⟨its, rv, hl, _⟩ := I.list (SqL.of ha)
      refine PySem.W.sorted_data (β := D) (enc := toP) (R := fun u d => ∃ v, RelV v u ∧ Fz S H v d) (bs := ds) hl.isList (each_of rv fa) (each_mono (each_of rv fa) fun u d m ⟨v, r, f⟩ => Dp.reads (X := X) I _ _ _ (Fz.dp f (SeqAt.canLay_of_shaped (allAl_sh h1 m))) r) (fun p hp p' hp' => ?_) (sort_ok h2) h3 (fun d m => ?_) fun out hlen hout => ?_
      · obtain ⟨d1, m1, rfl⟩ := List.mem_map.mp hp
        obtain ⟨d2, m2, rfl⟩ := List.mem_map.mp hp'
        exact allAl_al h1 m1 m2
      · have := SeqAt.depth_of_shaped (allAl_sh h1 m)
        omega
      · obtain ⟨ws, rw_, fw⟩ := each_back hout
        obtain ⟨c, hc⟩ := PyProof.Rows.sortedAll_at s.heap its (List.toArray out)
        refine ⟨.ref (s.heap.objs.size + 1), upd H (s.heap.objs.size + 1) (.lst ws), I.laid (t' := s.toks) (fun _ _ => PyProof.Rows.sortedAll_old) (Nat.le_succ _) ⟨?_, out, c, rw_, hc⟩, rfl, q _ _ (.lst (I.hok.fresh (Nat.le_succ _)) fw)⟩
        rw [fw.length, List.length_mergeSort]
        exact h3
    · cases e
theorem minDD_map (x : D) (xs : List D) : toP (minDD x xs) = PySem.W.minD (toP x) (toPs xs) := by
  unfold minDD PySem.W.minD
  induction xs generalizing x with
  | nil => rfl
  | cons y ys ih =>
    rw [toPs, List.foldl_cons, List.foldl_cons, ih]
    congr 1
    unfold ltDD
    split <;> rfl
theorem maxDD_map (x : D) (xs : List D) : toP (maxDD x xs) = PySem.W.maxD (toP x) (toPs xs) := by
  unfold maxDD PySem.W.maxD
  induction xs generalizing x with
  | nil => rfl
  | cons y ys ih =>
    rw [toPs, List.foldl_cons, List.foldl_cons, ih]
    congr 1
    unfold ltDD
    split <;> rfl
theorem minDD_mem (x : D) (xs : List D) : minDD x xs ∈ x :: xs := by
  unfold minDD
  induction xs generalizing x with
  | nil => exact List.mem_cons_self
  | cons y ys ih =>
    rw [List.foldl_cons]
    rcases List.mem_cons.mp (ih (if ltDD y x then y else x)) with h | h
    · rw [h]
      split
      · exact List.mem_cons_of_mem _ List.mem_cons_self
      · exact List.mem_cons_self
    · exact List.mem_cons_of_mem _ (List.mem_cons_of_mem _ h)
theorem maxDD_mem (x : D) (xs : List D) : maxDD x xs ∈ x :: xs := by
  unfold maxDD
  induction xs generalizing x with
  | nil => exact List.mem_cons_self
  | cons y ys ih =>
    rw [List.foldl_cons]
    rcases List.mem_cons.mp (ih (if ltDD x y then y else x)) with h | h
    · rw [h]
      split
      · exact List.mem_cons_of_mem _ List.mem_cons_self
      · exact List.mem_cons_self
    · exact List.mem_cons_of_mem _ (List.mem_cons_of_mem _ h)
/-- the one that was picked -/
theorem pick_ok {S : Addr → Prop} {H : Hp} {pins : List (Addr × Obj)} {s : Shared} {σ : L2.St} {vs : List V} {its : List Value} {ds : List D} {m : D} {u : Value} {i : Nat} {h' : Heap} {bs : List Addr} (I : Inv X pins σ H s) (rv : Vals vs its) (fa : FzL S H vs ds) (al : allAl ds = true) (hm : m ∈ ds)
    (hi : its.toArray[i]? = some u) (hr : Reads h' u (toP m) bs) (hk : ∀ b o, s.heap.get? b = some o → h'.get? b = some o) : ∃ v, RelV v u ∧ Fz S H v m := by
  have hi : its[i]? = some u := by simpa using hi
  have l1 := rv.length
  have l2 : i < its.length := (List.getElem?_eq_some_iff.mp hi).1
  have l3 := fa.length
  obtain ⟨v, hv⟩ : ∃ v, vs[i]? = some v := ⟨vs[i]'(by omega), List.getElem?_eq_getElem (by omega)⟩
  obtain ⟨u', hu', ru⟩ := rv.get hv
  rw [hi] at hu'
  cases hu'
  obtain ⟨d, hd, fd⟩ := fa.getV hv
  have md := List.mem_of_getElem? hd
  obtain ⟨as, rd⟩ := Dp.reads (X := X) I _ _ _ (Fz.dp fd (SeqAt.canLay_of_shaped (allAl_sh al md))) ru
  have e := PySem.W.alike_unique _ _ _ _ _ (allAl_al al md hm) (PyProof.Rows.Reads.keeps hk rd) hr
  rw [← toP_inj (SeqAt.canLay_of_shaped (allAl_sh al md)) e]
  exact ⟨v, ru, fd⟩
theorem c_minD (hc : X.calm = true) (hu : X.A.units + 64 < cLine) : CallR X (.builtin "min") (rC1 .minD) := by
  intro pins s σ H xs us Q I r h
  match xs, h with
  | [x], h =>
    obtain ⟨S, dx, d, dom, hx, e, q⟩ := h
    cases dx <;> simp only [sem1, reduceCtorEq] at e
    rename_i ds
    match ds, hx, e with
    | [], _, e => cases e
    | y :: ys, hx, e =>
    dsimp only at e
    split at e
    · rename_i hz
      cases e
      obtain ⟨h1, hz⟩ := and2 hz
      obtain ⟨h2, h3⟩ := and2 hz
      obtain ⟨a, vs, rfl, ha, fa⟩ := hx.lst_
      obtain ⟨u, rfl, ru⟩ := vals1 r
      cases ru
      obtain ⟨its, rv, hl, _⟩ := I.list (SqL.of ha)
      obtain ⟨as, rs⟩ := Dp.readsAll (X := X) I _ _ _ (FzL.dp (K := X.K) fa (by simpa [shD, toP, PyData.canLay0] using SeqAt.canLay_of_shaped h2)) rv
      have dp := SeqAt.depth_of_shaped h2
      have dp : PyData.depthAll (toPs (y :: ys)) + 1 ≤ 64 := dp
      refine PySem.W.min_list_data (I.ok.hd hc) hl.isList (x := toP y) (xs := toPs ys) rs ⟨fun p hp p' hp' => ?_, fun p hp => ?_⟩ (by show X.A.units + 1 + PyData.depthAll (toPs (y :: ys)) < cLine; omega) fun i v h' tk bs hi hr hk => ?_
      · rw [show toP y :: toPs ys = (y :: ys).map toP by rw [← toPs_map]; rfl] at hp hp'
        obtain ⟨d1, m1, rfl⟩ := List.mem_map.mp hp
        obtain ⟨d2, m2, rfl⟩ := List.mem_map.mp hp'
        exact allAl_al h1 m1 m2
      · rw [show toP y :: toPs ys = (y :: ys).map toP by rw [← toPs_map]; rfl] at hp
        obtain ⟨d1, m1, rfl⟩ := List.mem_map.mp hp
        exact noNon_ok h3 m1
      · rw [← minDD_map] at hr
        obtain ⟨v', rv', fv'⟩ := pick_ok I rv fa h1 (minDD_mem y ys) hi hr hk
        exact ⟨v', H, I.kept (t' := tk) hk, rv', q _ _ (.same fv')⟩
    · cases e
theorem c_maxD (hc : X.calm = true) (hu : X.A.units + 64 < cLine) : CallR X (.builtin "max") (rC1 .maxD) := by
  intro pins s σ H xs us Q I r h
  match xs, h with
  | [x], h =>
    obtain ⟨S, dx, d, dom, hx, e, q⟩ := h
    cases dx <;> simp only [sem1, reduceCtorEq] at e
    rename_i ds
    match ds, hx, e with
    | [], _, e => cases e
    | y :: ys, hx, e =>
    dsimp only at e
    split at e
    · rename_i hz
      cases e
      obtain ⟨h1, hz⟩ := and2 hz
      obtain ⟨h2, h3⟩ := and2 hz
      obtain ⟨a, vs, rfl, ha, fa⟩ := hx.lst_
      obtain ⟨u, rfl, ru⟩ := vals1 r
      cases ru
      obtain ⟨its, rv, hl, _⟩ := I.list (SqL.of ha)
      obtain ⟨as, rs⟩ := Dp.readsAll (X := X) I _ _ _ (FzL.dp (K := X.K) fa (by simpa [shD, toP, PyData.canLay0] using SeqAt.canLay_of_shaped h2)) rv
      have dp := SeqAt.depth_of_shaped h2
      have dp : PyData.depthAll (toPs (y :: ys)) + 1 ≤ 64 := dp
      refine PySem.W.max_list_data (I.ok.hd hc) hl.isList (x := toP y) (xs := toPs ys) rs ⟨fun p hp p' hp' => ?_, fun p hp => ?_⟩ (by show X.A.units + 1 + PyData.depthAll (toPs (y :: ys)) < cLine; omega) fun i v h' tk bs hi hr hk => ?_
      · rw [show toP y :: toPs ys = (y :: ys).map toP by rw [← toPs_map]; rfl] at hp hp'
        obtain ⟨d1, m1, rfl⟩ := List.mem_map.mp hp
        obtain ⟨d2, m2, rfl⟩ := List.mem_map.mp hp'
        exact allAl_al h1 m1 m2
      · rw [show toP y :: toPs ys = (y :: ys).map toP by rw [← toPs_map]; rfl] at hp
        obtain ⟨d1, m1, rfl⟩ := List.mem_map.mp hp
        exact noNon_ok h3 m1
      · rw [← maxDD_map] at hr
        obtain ⟨v', rv', fv'⟩ := pick_ok I rv fa h1 (maxDD_mem y ys) hi hr hk
        exact ⟨v', H, I.kept (t' := tk) hk, rv', q _ _ (.same fv')⟩
    · cases e
/-! sorted of tuples -/
theorem insX_perm (a : List Int) : ∀ l : List (List Int), (insX a l).Perm (a :: l)
  | [] => .refl _
  | b :: l => by
    unfold insX
    split
    · exact ((insX_perm a l).cons b).trans (.swap a b l)
    · exact .refl _
theorem sortX_perm : ∀ l : List (List Int), (sortX l).Perm l
  | [] => .refl _
  | a :: l => (insX_perm a (sortX l)).trans ((sortX_perm l).cons a)
theorem lexX : SrtO.Swo HT.lexLt := NtL.swo_lexL (fun v : List Int => v)
theorem lexX_anti : ∀ {x y : List Int}, HT.lexLt x y = false → HT.lexLt y x = false → x = y
  | [], [], _, _ => rfl
  | [], _ :: _, h, _ => by cases h
  | _ :: _, [], _, h => by cases h
  | a :: x, b :: y, h1, h2 => by
    rw [HT.lexLt_cons] at h1 h2
    by_cases e : a = b
    · rw [if_pos e] at h1
      rw [if_pos e.symm] at h2
      rw [e, lexX_anti h1 h2]
    · rw [if_neg e] at h1
      rw [if_neg (fun z => e z.symm)] at h2
      have := of_decide_eq_false h1
      have := of_decide_eq_false h2
      omega
theorem insX_srt {a : List Int} : ∀ {l : List (List Int)}, SrtO.Srtd HT.lexLt l → SrtO.Srtd HT.lexLt (insX a l)
  | [], _ => SrtO.srtd_one a
  | b :: l, h => by
    obtain ⟨h1, h2⟩ := List.pairwise_cons.mp h
    unfold insX
    split
    · rename_i z
      refine List.pairwise_cons.mpr ⟨fun c hc => ?_, insX_srt h2⟩
      rcases List.mem_cons.mp ((insX_perm a l).mem_iff.mp hc) with rfl | hc
      · exact lexX.asym _ _ z
      · exact h1 c hc
    · rename_i z
      have z : HT.lexLt b a = false := by simpa using z
      refine List.pairwise_cons.mpr ⟨fun c hc => ?_, h⟩
      rcases List.mem_cons.mp hc with rfl | hc
      · exact z
      · cases q : HT.lexLt c a with
        | false => rfl
        | true =>
          have := lexX.ltle q z
          rw [h1 c hc] at this
          cases this
theorem sortX_srt : ∀ l : List (List Int), SrtO.Srtd HT.lexLt (sortX l)
  | [] => List.Pairwise.nil
  | a :: l => insX_srt (sortX_srt l)
theorem sortX_uniq {l m : List (List Int)} (h : m.Perm l) (s : SrtO.Srtd HT.lexLt m) : m = sortX l :=
  List.Perm.eq_of_pairwise (le := fun x y => HT.lexLt y x = false) (fun a b _ _ h1 h2 => lexX_anti h2 h1) s (sortX_srt l) (h.trans (sortX_perm l).symm)
theorem tupO_some {d : D} {ns : List Int} (h : tupO d = some ns) : d = tI ns ∧ anyNs ns := by
  cases d <;> simp only [tupO, reduceCtorEq] at h
  exact ⟨by rw [intsO_some h]; rfl, trivial⟩
theorem tupsO_some : ∀ {ds : List D} {nss : List (List Int)}, tupsO ds = some nss → ds = nss.map tI ∧ ∀ ns ∈ nss, anyNs ns
  | [], nss, h => by
    cases h
    exact ⟨rfl, fun _ h => by cases h⟩
  | d :: ds, nss, h => by
    unfold tupsO at h
    split at h
    · rename_i k ks e1 e2
      cases h
      obtain ⟨a, b⟩ := tupO_some e1
      obtain ⟨c, d⟩ := tupsO_some e2
      exact ⟨by rw [a, c]; rfl, fun ns hn => (List.mem_cons.mp hn).elim (fun e => e ▸ b) (d ns)⟩
    · cases h
/-- the ints of a tuple -/
def kOf (H : Hp) : V → List Int
  | .ref t => match H t with
    | some (.tup vs) => vs.filterMap fun v => match v with
      | .int i => some i
      | _ => none
    | _ => []
  | _ => []
theorem kOf_at {H : Hp} {t : Addr} {ns : List Int} (h : H t = some (.tup (ns.map V.int))) : kOf H (.ref t) = ns := by
  show (match H t with
    | some (.tup vs) => vs.filterMap fun v => match v with
      | .int i => some i
      | _ => none
    | _ => []) = ns
  rw [h]
  show (ns.map V.int).filterMap _ = ns
  rw [List.filterMap_map]
  clear h
  induction ns with
  | nil => rfl
  | cons n ns ih => simp [List.filterMap_cons, ih]
/-- tuples of ints, and what they stand for -/
def TIs (S : Addr → Prop) (H : Hp) (v : V) : Prop := ∃ t, v = .ref t ∧ ¬ S t ∧ anyNs (kOf H v) ∧ H t = some (.tup ((kOf H v).map V.int))
theorem TIs.fz {S : Addr → Prop} {H : Hp} {v : V} (h : TIs S H v) : Fz S H v (tI (kOf H v)) := by
  obtain ⟨t, rfl, n, _, e⟩ := h
  exact .tup n e (FzL.of_ints _)
theorem TIs.fzL {S : Addr → Prop} {H : Hp} : ∀ {vs : List V}, (∀ v ∈ vs, TIs S H v) → FzL S H vs ((vs.map (kOf H)).map tI)
  | [], _ => .nil
  | v :: vs, h => .cons (h v List.mem_cons_self).fz (TIs.fzL fun u hu => h u (List.mem_cons_of_mem _ hu))
theorem TIs.of {S : Addr → Prop} {H : Hp} : ∀ {vs : List V} {nss : List (List Int)}, FzL S H vs (nss.map tI) → (∀ ns ∈ nss, anyNs ns) → (∀ v ∈ vs, TIs S H v) ∧ vs.map (kOf H) = nss
  | _, [], h, _ => by
    cases h
    exact ⟨fun _ h => (by cases h), rfl⟩
  | _, ns :: nss, h, hne => by
    cases h with
    | @cons v vs _ _ a b =>
      obtain ⟨h1, h2⟩ := TIs.of b fun n hn => hne n (List.mem_cons_of_mem _ hn)
      cases a with
      | @tup t ws _ n e x =>
        cases x.ints
        have k := kOf_at e
        refine ⟨fun u hu => ?_, by rw [List.map_cons, k, h2]⟩
        rcases List.mem_cons.mp hu with rfl | hu
        · exact ⟨t, rfl, n, by rw [k]; exact hne ns List.mem_cons_self, by rw [k]; exact e⟩
        · exact h1 u hu
theorem keysT {S : Addr → Prop} {H : Hp} : ∀ {kvs : List (List Key × V)} {es : List (D × D)} {nss : List (List Int)}, FzT S H kvs es → es.map (·.1) = nss.map tI → kvs.map (·.1) = nss.map fun ns => ns.map Sum.inl
  | _, _, [], .nil, _ => rfl
  | _, _, _ :: _, .nil, h => by cases h
  | _, _, [], .cons _ _, h => by cases h
  | _, _, ns :: nss, .cons (k := k) a b, h => by
    rw [List.map_cons, List.map_cons] at h
    injection h with h1 h2
    rw [List.map_cons, List.map_cons, keysT b h2]
    congr 1
    have h1 : tD k = tI ns := h1
    have : tO (tD k) = tO (tI ns) := by rw [h1]
    rw [tO_tD] at this
    have e3 : tI ns = tD (ns.map Sum.inl) := by
      unfold tI tD
      rw [List.map_map]
      rfl
    rw [e3, tO_tD] at this
    exact Option.some.inj this
theorem c_sortT (hu : X.A.units + 64 < cLine) (hc : X.calm = true) : CallR X (.builtin "sorted") (rC1 .sortT) := by
  refine CallR.imp (CallR.or (cr_sortedLX hu) (cr_sortedLXd hu hc)) fun xs H Q h => ?_
  match xs, h with
  | [x], h =>
    obtain ⟨S, dx, d, dom, hx, e, q⟩ := h
    have done : ∀ {vs ys : List V} {nss : List (List Int)} {p : Addr}, (∀ v ∈ vs, TIs S H v) → vs.map (kOf H) = nss → SrtO.Srtd (ltL (kOf H)) ys → ys.Perm vs → H p = none → FzL S H ys ((sortX nss).map tI) := fun {vs ys nss p} hv hk hs hp hn => by
      have f := TIs.fzL (S := S) (H := H) (vs := ys) fun u hu => hv u (hp.mem_iff.mp hu)
      have : ys.map (kOf H) = sortX nss := sortX_uniq (by rw [← hk]; exact hp.map _) (List.pairwise_map.mpr hs)
      rwa [this] at f
    cases dx with
    | lst ds =>
      obtain ⟨nss, e1, rfl⟩ := Option.map_eq_some_iff.mp (show (tupsO ds).map _ = some d from e)
      obtain ⟨rfl, ne⟩ := tupsO_some e1
      obtain ⟨a, vs, rfl, ha, fa⟩ := hx.lst_
      obtain ⟨h1, h2⟩ := TIs.of fa ne
      refine .inl ⟨a, vs, kOf H, rfl, SqL.of ha, fun v hv => ?_, fun ys p hs hp hn => ?_⟩
      · obtain ⟨t, e1, _, e2, e3⟩ := h1 v hv
        exact ⟨e2, t, e1, e3⟩
      · exact q _ _ (.lst hn (done h1 h2 hs hp hn))
    | dic t es =>
      cases t with
      | false => cases e
      | true =>
        obtain ⟨nss, e1, rfl⟩ := Option.map_eq_some_iff.mp (show (tupsO (es.map (·.1))).map _ = some d from e)
        obtain ⟨e2, ne⟩ := tupsO_some e1
        obtain ⟨a, kvs, rfl, ha, fa⟩ := hx.dT_
        have hk := keysT fa e2
        refine .inr ⟨a, kvs, kOf H, rfl, ha, fun p hp => ?_, fun bs ys p ik hs hpm hn => ?_⟩
        · have : p.1 ∈ kvs.map (·.1) := List.mem_map.mpr ⟨p, hp, rfl⟩
          rw [hk] at this
          obtain ⟨ns, hns, e3⟩ := List.mem_map.mp this
          exact ⟨ns, ne ns hns, e3.symm, fun t ht => kOf_at ht⟩
        · have tis : ∀ {kvs : List (List Key × V)} {bs : List Addr} {nss : List (List Int)}, IsKeys H kvs bs → kvs.map (·.1) = nss.map (fun ns => ns.map Sum.inl) → (∀ ns ∈ nss, anyNs ns) → (∀ v ∈ bs.map V.ref, TIs S H v) ∧ (bs.map V.ref).map (kOf H) = nss := by
            intro kvs bs nss ik
            unfold IsKeys at ik
            induction ik generalizing nss with
            | nil =>
              intro h _
              cases nss with
              | nil => exact ⟨fun _ h => (by cases h), rfl⟩
              | cons _ _ => cases h
            | @cons p b kvs bs hb _ ih =>
              intro h hne
              cases nss with
              | nil => cases h
              | cons ns nss =>
                rw [List.map_cons, List.map_cons] at h
                injection h with h1 h2
                obtain ⟨i1, i2⟩ := ih h2 fun n hn => hne n (List.mem_cons_of_mem _ hn)
                have eb : H b = some (.tup (ns.map V.int)) := by
                  rw [hb, h1, List.map_map]
                  rfl
                have k := kOf_at eb
                refine ⟨fun u hu => ?_, by rw [List.map_cons, List.map_cons, k, i2]⟩
                rcases List.mem_cons.mp hu with rfl | hu
                · refine ⟨b, rfl, fun z => ?_, by rw [k]; exact hne ns List.mem_cons_self, by rw [k]; exact eb⟩
                  obtain ⟨o, eo, nt⟩ := dom b z
                  rw [eb] at eo
                  cases eo
                  exact nt
                · exact i1 u hu
          obtain ⟨t1, t2⟩ := tis ik hk ne
          exact q _ _ (.lst hn (done t1 t2 hs hpm hn))
    | _ => cases e
theorem c_abs : CallR X (.builtin "abs") (rC1 .abs) := by
  refine CallR.imp call_abs fun xs H Q h => ?_
  match xs, h with
  | [x], h =>
    obtain ⟨S, dx, d, dom, hx, e, q⟩ := h
    cases dx <;> simp only [sem1, reduceCtorEq, Option.some.injEq] at e
    subst e
    exact ⟨_, by rw [hx.int], q _ _ (.same (.int _))⟩
theorem c_sum (hc : X.calm = true) : CallR X (.builtin "sum") (rC1 .sum) := by
  refine CallR.imp (cr_sum hc) fun xs H Q h => ?_
  match xs, h with
  | [x], h =>
    obtain ⟨S, dx, d, dom, hx, e, q⟩ := h
    cases dx <;> simp only [sem1, reduceCtorEq] at e
    obtain ⟨ns, e1, rfl⟩ := Option.map_eq_some_iff.mp e
    obtain ⟨a, vs, rfl, ha, fa⟩ := hx.lst_
    cases intsO_some e1
    cases FzL.ints_inv fa
    exact ⟨a, ns, rfl, SqL.of ha, q _ _ (.same (.int _))⟩
theorem foldl_min : ∀ (r : List Int) (n : Int), (r.foldl min n = n ∨ r.foldl min n ∈ r) ∧ r.foldl min n ≤ n ∧ ∀ y ∈ r, r.foldl min n ≤ y
  | [], n => ⟨.inl rfl, Int.le_refl _, fun _ h => by cases h⟩
  | a :: r, n => by
    obtain ⟨h1, h2, h3⟩ := foldl_min r (min n a)
    refine ⟨?_, ?_, fun y hy => ?_⟩
    · show r.foldl min (min n a) = n ∨ r.foldl min (min n a) ∈ a :: r
      rcases h1 with h1 | h1
      · rw [h1]
        rcases (show min n a = n ∨ min n a = a by omega) with e | e
        · exact .inl e
        · exact .inr (by rw [e]; exact List.mem_cons_self)
      · exact .inr (List.mem_cons_of_mem _ h1)
    · show r.foldl min (min n a) ≤ n
      omega
    · show r.foldl min (min n a) ≤ y
      rcases List.mem_cons.mp hy with rfl | hy
      · omega
      · exact h3 y hy
theorem foldl_max : ∀ (r : List Int) (n : Int), (r.foldl max n = n ∨ r.foldl max n ∈ r) ∧ n ≤ r.foldl max n ∧ ∀ y ∈ r, y ≤ r.foldl max n
  | [], n => ⟨.inl rfl, Int.le_refl _, fun _ h => by cases h⟩
  | a :: r, n => by
    obtain ⟨h1, h2, h3⟩ := foldl_max r (max n a)
    refine ⟨?_, ?_, fun y hy => ?_⟩
    · show r.foldl max (max n a) = n ∨ r.foldl max (max n a) ∈ a :: r
      rcases h1 with h1 | h1
      · rw [h1]
        rcases (show max n a = n ∨ max n a = a by omega) with e | e
        · exact .inl e
        · exact .inr (by rw [e]; exact List.mem_cons_self)
      · exact .inr (List.mem_cons_of_mem _ h1)
    · show n ≤ r.foldl max (max n a)
      omega
    · show y ≤ r.foldl max (max n a)
      rcases List.mem_cons.mp hy with rfl | hy
      · omega
      · exact h3 y hy
theorem c_minL (hc : X.calm = true) : CallR X (.builtin "min") (rC1 .minL) := by
  refine CallR.imp (cr_min hc) fun xs H Q h => ?_
  match xs, h with
  | [x], h =>
    obtain ⟨S, dx, d, dom, hx, e, q⟩ := h
    cases dx <;> simp only [sem1, reduceCtorEq] at e
    split at e
    · rename_i n r e1
      cases e
      obtain ⟨a, vs, rfl, ha, fa⟩ := hx.lst_
      cases intsO_some e1
      cases FzL.ints_inv fa
      refine ⟨a, n :: r, rfl, SqL.of ha, by simp, fun m hm hl => ?_⟩
      obtain ⟨h1, h2, h3⟩ := foldl_min r n
      have e2 : m = r.foldl min n := by
        have l1 : r.foldl min n ≤ m := by
          rcases List.mem_cons.mp hm with rfl | hm
          · exact h2
          · exact h3 m hm
        have l2 : m ≤ r.foldl min n := by
          rcases h1 with h1 | h1
          · rw [h1]; exact hl n List.mem_cons_self
          · exact hl _ (List.mem_cons_of_mem _ h1)
        omega
      rw [e2]
      exact q _ _ (.same (.int _))
    · cases e
theorem c_maxL (hc : X.calm = true) : CallR X (.builtin "max") (rC1 .maxL) := by
  refine CallR.imp (cr_max hc) fun xs H Q h => ?_
  match xs, h with
  | [x], h =>
    obtain ⟨S, dx, d, dom, hx, e, q⟩ := h
    cases dx <;> simp only [sem1, reduceCtorEq] at e
    split at e
    · rename_i n r e1
      cases e
      obtain ⟨a, vs, rfl, ha, fa⟩ := hx.lst_
      cases intsO_some e1
      cases FzL.ints_inv fa
      refine ⟨a, n :: r, rfl, SqL.of ha, by simp, fun m hm hl => ?_⟩
      obtain ⟨h1, h2, h3⟩ := foldl_max r n
      have e2 : m = r.foldl max n := by
        have l1 : m ≤ r.foldl max n := by
          rcases List.mem_cons.mp hm with rfl | hm
          · exact h2
          · exact h3 m hm
        have l2 : r.foldl max n ≤ m := by
          rcases h1 with h1 | h1
          · rw [h1]; exact hl n List.mem_cons_self
          · exact hl _ (List.mem_cons_of_mem _ h1)
        omega
      rw [e2]
      exact q _ _ (.same (.int _))
    · cases e
/-- two values handed in -/
def rC2 (o : O2) : List V → Hp → VK → Prop
  | [x, y], H, Q => rS2 o x y H Q
  | _, _, _ => False
theorem c_max2 (hc : X.calm = true) : CallR X (.builtin "max") (rC2 .max2) := by
  refine CallR.imp (call_max2 hc) fun xs H Q h => ?_
  match xs, h with
  | [x, y], h =>
    obtain ⟨S, dx, dy, d, dom, hx, hy, e, q⟩ := h
    cases dx <;> cases dy <;> simp only [sem2, reduceCtorEq, Option.some.injEq] at e
    subst e
    exact ⟨_, _, by rw [hx.int, hy.int], q _ _ (.same (.int _))⟩
theorem c_min2 (hc : X.calm = true) : CallR X (.builtin "min") (rC2 .min2) := by
  refine CallR.imp (call_min2 hc) fun xs H Q h => ?_
  match xs, h with
  | [x, y], h =>
    obtain ⟨S, dx, dy, d, dom, hx, hy, e, q⟩ := h
    cases dx <;> cases dy <;> simp only [sem2, reduceCtorEq, Option.some.injEq] at e
    subst e
    exact ⟨_, _, by rw [hx.int, hy.int], q _ _ (.same (.int _))⟩
/-- .. of any data; both are handed in for good -/
def rF2 : List V → Hp → VK → Prop := fun xs H Q => ∃ x y S dx dy d, xs = [x, y] ∧ Dom S H ∧ Fz S H x dx ∧ Fz S H y dy ∧ sem2 .min2D dx dy = some d ∧ ∀ v, Fz S H v d → Q v H
theorem c_min2D (hc : X.calm = true) (hu : X.A.units + 64 < cLine) : CallR X (.builtin "min") rF2 := by
  rintro pins s σ H _ us Q I r ⟨x, y, S, dx, dy, d, rfl, dom, hx, hy, e, q⟩
  have e : (if allAl [dx, dy] && (shD (.lst [dx, dy]) && noNon [dx, dy]) then some (if ltDD dy dx then dy else dx) else none) = some d := by cases dx <;> exact e
  split at e
  · rename_i hz
    cases e
    obtain ⟨h1, hz⟩ := and2 hz
    obtain ⟨h2, h3⟩ := and2 hz
    have m1 : dx ∈ [dx, dy] := List.mem_cons_self
    have m2 : dy ∈ [dx, dy] := List.mem_cons_of_mem _ List.mem_cons_self
    match us, r with
    | [u, v], .cons rx (.cons ry .nil) =>
    obtain ⟨as, r1⟩ := Dp.reads (X := X) I _ _ _ (Fz.dp hx (SeqAt.canLay_of_shaped (allAl_sh h1 m1))) rx
    obtain ⟨bs, r2⟩ := Dp.reads (X := X) I _ _ _ (Fz.dp hy (SeqAt.canLay_of_shaped (allAl_sh h1 m2))) ry
    have dp := SeqAt.depth_of_shaped h2
    have dp : PyData.depthAll [toP dx, toP dy] + 1 ≤ 64 := dp
    refine call_min2_data (I.ok.hd hc) r1 r2 ⟨fun p hp p' hp' => ?_, fun p hp => ?_⟩ (by omega) fun h' tk hk => ?_
    · rw [show [toP dx, toP dy] = [dx, dy].map toP from rfl] at hp hp'
      obtain ⟨d1, n1, rfl⟩ := List.mem_map.mp hp
      obtain ⟨d2, n2, rfl⟩ := List.mem_map.mp hp'
      exact allAl_al h1 n1 n2
    · rw [show [toP dx, toP dy] = [dx, dy].map toP from rfl] at hp
      obtain ⟨d1, n1, rfl⟩ := List.mem_map.mp hp
      exact noNon_ok h3 n1
    · cases c : ltDD dy dx with
      | true =>
        rw [show PySem.W.dataLt (toP dy) (toP dx) = true from c, if_pos rfl]
        exact ⟨y, H, I.kept (t' := tk) hk, ry, q _ (by rw [c]; exact hy)⟩
      | false =>
        rw [show PySem.W.dataLt (toP dy) (toP dx) = false from c, if_neg Bool.false_ne_true]
        exact ⟨x, H, I.kept (t' := tk) hk, rx, q _ (by rw [c]; exact hx)⟩
  · cases e
theorem kt_non (t : TyK) : kitB "NoneType" (tyN t) = some false := by cases t <;> decide +kernel
theorem kt_bl (t : TyK) : kitB "bool" (tyN t) = some (isTy t (.bl true)) := by cases t <;> decide +kernel
theorem kt_int (t : TyK) : kitB "int" (tyN t) = some (isTy t (.int 0)) := by cases t <;> decide +kernel
theorem kt_str (t : TyK) : kitB "str" (tyN t) = some (isTy t (.str ⟨#[]⟩)) := by cases t <;> decide +kernel
theorem kt_lst (t : TyK) : kitB "list" (tyN t) = some (isTy t (.lst [])) := by cases t <;> decide +kernel
theorem kt_tup (t : TyK) : kitB "tuple" (tyN t) = some (isTy t (.tup [])) := by cases t <;> decide +kernel
theorem ty_of {S : Addr → Prop} {K : PySem.W.Frag} {H : Hp} {d : D} {v : V} (h : Bz S H v d) (t : TyK) {d' : D} (e : sem1 (.isI t) d = some d') : ∃ ty : String, TyX K H v (.type ty) ∧ kitB ty (tyN t) = some (isTy t d) ∧ d' = .bl (isTy t d) := by
  cases d with
  | non => cases h.non; cases e; exact ⟨"NoneType", .base .non, (kt_non t).trans (by cases t <;> rfl), rfl⟩
  | bl b => cases h.bl; cases e; exact ⟨"bool", .base (.bl _), (kt_bl t).trans (by cases t <;> rfl), rfl⟩
  | int b => cases h.int; cases e; exact ⟨"int", .base (.int _), (kt_int t).trans (by cases t <;> rfl), rfl⟩
  | str b => cases h.str; cases e; exact ⟨"str", .base (.str _), (kt_str t).trans (by cases t <;> rfl), rfl⟩
  | lst ds =>
    obtain ⟨a, vs, rfl, ha, fa⟩ := h.lst_
    cases e
    exact ⟨"list", .base (.lst ha), (kt_lst t).trans (by cases t <;> rfl), rfl⟩
  | tup ds =>
    obtain ⟨a, vs, rfl, ha, fa⟩ := h.tup_
    cases e
    exact ⟨"tuple", .base (.tup ha), (kt_tup t).trans (by cases t <;> rfl), rfl⟩
  | dic _ _ => cases e
  | scr _ => cases e
  | obj _ _ => cases e
/-- isinstance(x, T) -/
def rIs (t : TyK) : List V → Hp → VK → Prop
  | [x, c], H, Q => c = .ty (tyN t) ∧ rS1 (.isI t) x H Q
  | _, _, _ => False
theorem c_isI (t : TyK) : CallR X (.builtin "isinstance") (rIs t) := by
  refine CallR.imp call_isi fun xs H Q h => ?_
  match xs, h with
  | [x, c], h =>
    obtain ⟨rfl, S, dx, d, dom, hx, e, q⟩ := h
    obtain ⟨ty, h1, h2, rfl⟩ := ty_of (K := X.K) hx t e
    exact ⟨x, _, _, _, _, rfl, ClsV.ty _, h1, kit_ty h2, q _ _ (.same (.bl _))⟩
theorem boot_ty (t : TyK) : bootBuiltins (tyN t : Str) = some (.type (tyN t)) := by
  cases t
  · exact PyProof.Rows.boot_int
  · exact PyProof.Rows.boot_bool
  · exact PyProof.Rows.boot_str
  · exact PyProof.Rows.boot_list
  · exact PyProof.Rows.boot_tuple
def tS1 (o : O1) (ta : TE) : TE := fun σ H Q => ta σ H fun x H1 => rS1 o x H1 Q
def tS2 (o : O2) (ta tb : TE) : TE := fun σ H Q => ta σ H fun x H1 => tb σ H1 fun y H2 => rS2 o x y H2 Q
theorem un_imp {f : Value → Sem Value} {r r' : V → Hp → VK → Prop} (h : UnR X f r) (i : ∀ x H Q, r' x H Q → r x H Q) : UnR X f r' :=
  fun pins s σ H x v Q I rx q => h pins s σ H x v Q I rx (i _ _ _ q)
theorem u_neg : UnR X (unaryOp .USub) (rS1 .neg) := by
  refine un_imp un_neg fun x H Q h => ?_
  obtain ⟨S, dx, d, dom, hx, e, q⟩ := h
  cases dx <;> simp only [sem1, reduceCtorEq, Option.some.injEq] at e
  subst e
  exact ⟨_, hx.int, q _ _ (.same (.int _))⟩
variable {G : GI} {φ : Calls} {cls : Nat → Value} {k : Nat} {N : List Str} {W : WX}
theorem Cg.bi (C : Cg G φ cls k N X sc W) {f : Str} {nm : String} (h : bi G sc f nm = true) : f = (nm : Str) ∧ Gl X (nm : Str) ∧ X.mg (nm : Str) = none := by
  unfold Bell.bi at h
  rw [Bool.and_eq_true, Bool.and_eq_true] at h
  exact ⟨of_decide_eq_true h.1, C.agr.glob h.2.1, C.frs _ (of_decide_eq_true h.2.2)⟩
/-- a reading that may be weakened -/
def Mono (ta : TE) : Prop := ∀ σ H (Q Q' : VK), (∀ x H, Q x H → Q' x H) → ta σ H Q → ta σ H Q'
theorem mono_RdG {R : Rel} {ms : List Md} {m : Bell.Env → Out D} : Mono (RdG R ms W cls m) := fun σ H Q Q' i ⟨c, ρ, F, E, p⟩ =>
  ⟨c, ρ, F, E, p.mono fun d _ H' F' _ _ q v r => i _ _ (q v r)⟩
theorem mono_Var {i : Nat} : Mono (tVar i) := fun σ H Q Q' j ⟨v, e, q⟩ => ⟨v, e, j _ _ q⟩
theorem nonB {x : V} {dx d : D} {S : Addr → Prop} {H : Hp} (h : Bz S H x dx) (e : sem1 .isN dx = some d) : d = .bl (decide (x = .non)) := by
  cases dx with
  | non => cases h.non; cases e; rfl
  | bl _ => cases h.bl; cases e; rfl
  | int _ => cases h.int; cases e; rfl
  | str _ => cases h.str; cases e; rfl
  | lst _ => obtain ⟨a, vs, rfl, _⟩ := h.lst_; cases e; rfl
  | tup _ => obtain ⟨a, vs, rfl, _⟩ := h.tup_; cases e; rfl
  | dic t _ =>
    cases t
    · obtain ⟨a, vs, rfl, _⟩ := h.dK_; cases e; rfl
    · obtain ⟨a, vs, rfl, _⟩ := h.dT_; cases e; rfl
  | scr _ => obtain ⟨a, vs, rfl, _⟩ := h.scr_; cases e; rfl
  | obj _ _ => obtain ⟨a, dx, vs, rfl, _⟩ := h.obj_; cases e; rfl
theorem notnonB {x : V} {dx d : D} {S : Addr → Prop} {H : Hp} (h : Bz S H x dx) (e : sem1 .notN dx = some d) : d = .bl (!decide (x = .non)) := by
  cases dx with
  | non => cases h.non; cases e; rfl
  | bl _ => cases h.bl; cases e; rfl
  | int _ => cases h.int; cases e; rfl
  | str _ => cases h.str; cases e; rfl
  | lst _ => obtain ⟨a, vs, rfl, _⟩ := h.lst_; cases e; rfl
  | tup _ => obtain ⟨a, vs, rfl, _⟩ := h.tup_; cases e; rfl
  | dic t _ =>
    cases t
    · obtain ⟨a, vs, rfl, _⟩ := h.dK_; cases e; rfl
    · obtain ⟨a, vs, rfl, _⟩ := h.dT_; cases e; rfl
  | scr _ => obtain ⟨a, vs, rfl, _⟩ := h.scr_; cases e; rfl
  | obj _ _ => obtain ⟨a, dx, vs, rfl, _⟩ := h.obj_; cases e; rfl
theorem e_op1 (C : Cg G φ cls k N X sc W) {o : O1} {e : Expr} (hs : sh1 G sc o e = some a) (ha : PE X a ta) (mo : Mono ta) : PE X e (tS1 o ta) := by
  unfold sh1 at hs
  split at hs
  · split at hs
    · rename_i h
      cases hs
      obtain ⟨h1, h2⟩ := and2 h
      obtain ⟨rfl, hg, hm⟩ := C.bi h1
      exact PE.imp (pe_callB c_len hg hm PySem.boot_len (pa_cons ha pa_nil (star_cons h2)) (by decide) (by decide) (star_cons h2) rfl) fun σ H Q h => h
    · cases hs
  · split at hs
    · rename_i h
      cases hs
      obtain ⟨h1, h2⟩ := and2 h
      obtain ⟨rfl, hg, hm⟩ := C.bi h1
      exact PE.imp (pe_callTy c_list hg hm PyProof.Rows.boot_list (pa_cons ha pa_nil (star_cons h2)) (by decide) (by decide) (star_cons h2) rfl) fun σ H Q h => h
    · cases hs
  · split at hs
    · rename_i h
      cases hs
      obtain ⟨h1, h2⟩ := and2 h
      obtain ⟨rfl, hg, hm⟩ := C.bi h1
      exact PE.imp (pe_callTy c_tuple hg hm PyProof.Rows.boot_tuple (pa_cons ha pa_nil (star_cons h2)) (by decide) (by decide) (star_cons h2) rfl) fun σ H Q h => h
    · cases hs
  · split at hs
    · rename_i t f p1 a' ty p2 p3 h
      cases hs
      obtain ⟨h1, h2⟩ := and2 h
      obtain ⟨h2, h3⟩ := and2 h2
      obtain ⟨rfl, hg, hm⟩ := C.bi h1
      obtain ⟨rfl, hg2, hm2⟩ := C.bi h2
      have hb : PE X (.Name (tyN t : Str) p2) (tC (.ty (tyN t))) := pe_bltn hg2 hm2 (boot_ty t) rfl (by cases t <;> decide) (by cases t <;> decide)
      refine PE.imp (pe_callB (c_isI t) hg hm PyProof.Rows.boot_isinstance (pa_cons ha (pa_cons hb pa_nil) (star_cons h3)) (by decide) (by decide) (star_cons h3) rfl) fun σ H Q h => ?_
      have key : (fun (x : V) (H1 : Hp) => rS1 (.isI t) x H1 Q) = fun x H1 => rIs t [x, .ty (tyN t)] H1 Q := by
        funext x H1
        exact propext ⟨fun h => ⟨rfl, h⟩, fun h => h.2⟩
      show ta σ H fun x H1 => rIs t [x, .ty (tyN t)] H1 Q
      rw [← key]
      exact h
    · cases hs
  · cases hs
    exact PE.imp (pe_un u_neg ha) fun σ H Q h => h
  · cases hs
    refine PE.imp (pe_cmp (pc_isN ha) rfl) fun σ H Q h => mo _ _ _ _ (fun x H1 ⟨S, dx, d, dom, hx, e, q⟩ => ?_) h
    have := nonB hx e
    subst this
    exact q _ _ (.same (.bl _))
  · cases hs
    refine PE.imp (pe_cmp (pc_notN ha) rfl) fun σ H Q h => mo _ _ _ _ (fun x H1 ⟨S, dx, d, dom, hx, e, q⟩ => ?_) h
    have := notnonB hx e
    subst this
    exact q _ _ (.same (.bl _))
  · split at hs
    · rename_i h
      cases hs
      obtain ⟨h1, h2⟩ := and2 h
      obtain ⟨h2, h3⟩ := and2 h2
      obtain ⟨rfl, hg, hm⟩ := C.bi h1
      obtain ⟨rfl, hg2, hm2⟩ := C.bi h2
      refine PE.imp (pe_listRg C.calm hg hm (prg_1 hg2 hm2 ha (star_cons h3)) rfl) fun σ H Q h => mo _ _ _ _ (fun x H1 ⟨S, dx, d, dom, hx, e, q⟩ => ?_) h
      cases dx <;> simp only [sem1, reduceCtorEq, Option.some.injEq] at e
      rename_i n
      split at e
      · rename_i hz
        cases e
        refine ⟨n, hx.int, ⟨by omega, by omega, by omega, by omega, by omega⟩, fun p hp => ?_⟩
        have f := rng_FzL (S := S) (H := H1) 0 n
        rw [Int.sub_zero] at f
        exact q _ _ (.lst hp f)
      · cases e
    · cases hs
  · split at hs
    · rename_i h
      cases hs
      obtain ⟨h1, h2⟩ := and2 h
      obtain ⟨h2, h3⟩ := and2 h2
      obtain ⟨rfl, hg, hm⟩ := C.bi h1
      obtain ⟨rfl, hg2, hm2⟩ := C.bi h2
      refine PE.imp (RZ.pe_lenSetI hg hm hg2 hm2 ha C.calm (star_cons h3)) fun σ H Q h => mo _ _ _ _ (fun x H1 ⟨S, dx, d, dom, hx, e, q⟩ => ?_) h
      cases dx <;> simp only [sem1, reduceCtorEq] at e
      rename_i xs
      split at e
      · rename_i ns hns
        split at e
        · rename_i hk
          cases e
          obtain ⟨k1, k2⟩ := and2 hk
          obtain ⟨a, vs, rfl, ha, fa⟩ := hx.lst_
          rw [intsO_some hns] at fa
          have ev : vs = ns.map V.int := FzL.ints fa
          subst ev
          exact ⟨a, ns, rfl, SqL.of ha, of_decide_eq_true k1, of_decide_eq_true k2, q _ _ (.same (.int _))⟩
        · cases e
      · cases e
    · cases hs
  · cases hs
    refine PE.imp (pe_revL ha) fun σ H Q h => mo _ _ _ _ (fun x H1 ⟨S, dx, d, dom, hx, e, q⟩ => ?_) h
    cases dx <;> simp only [sem1, reduceCtorEq, Option.some.injEq] at e
    obtain ⟨a, vs, rfl, ha, fa⟩ := hx.lst_
    subst e
    exact ⟨a, vs, rfl, SqL.of ha, fun p hp => q _ _ (.lst hp fa.reverse)⟩
  · split at hs
    · rename_i h
      cases hs
      obtain ⟨h1, h2⟩ := and2 h
      obtain ⟨rfl, hg, hm⟩ := C.bi h1
      exact PE.imp (pe_callB c_abs hg hm PyProof.Rows.boot_abs (pa_cons ha pa_nil (star_cons h2)) (by decide) (by decide) (star_cons h2) rfl) fun σ H Q h => h
    · cases hs
  · split at hs
    · rename_i h
      cases hs
      obtain ⟨h1, h2⟩ := and2 h
      obtain ⟨rfl, hg, hm⟩ := C.bi h1
      exact PE.imp (pe_callB (c_sum C.calm) hg hm PyProof.Rows.boot_sum (pa_cons ha pa_nil (star_cons h2)) (by decide) (by decide) (star_cons h2) rfl) fun σ H Q h => h
    · cases hs
  · split at hs
    · rename_i h
      cases hs
      obtain ⟨h1, h2⟩ := and2 h
      obtain ⟨rfl, hg, hm⟩ := C.bi h1
      exact PE.imp (pe_callB (c_sortI C.calm) hg hm PyProof.Rows.boot_sorted (pa_cons ha pa_nil (star_cons h2)) (by decide) (by decide) (star_cons h2) rfl) fun σ H Q h => h
    · cases hs
  · split at hs
    · rename_i h
      cases hs
      obtain ⟨h1, h2⟩ := and2 h
      obtain ⟨rfl, hg, hm⟩ := C.bi h1
      exact PE.imp (pe_callB (c_sortT C.room.units C.calm) hg hm PyProof.Rows.boot_sorted (pa_cons ha pa_nil (star_cons h2)) (by decide) (by decide) (star_cons h2) rfl) fun σ H Q h => h
    · cases hs
  · split at hs
    · rename_i h
      cases hs
      obtain ⟨h1, h2⟩ := and2 h
      obtain ⟨rfl, hg, hm⟩ := C.bi h1
      exact PE.imp (pe_callB (c_minL C.calm) hg hm PyProof.Rows.boot_min (pa_cons ha pa_nil (star_cons h2)) (by decide) (by decide) (star_cons h2) rfl) fun σ H Q h => h
    · cases hs
  · split at hs
    · rename_i h
      cases hs
      obtain ⟨h1, h2⟩ := and2 h
      obtain ⟨rfl, hg, hm⟩ := C.bi h1
      exact PE.imp (pe_callB (c_maxL C.calm) hg hm PyProof.Rows.boot_max (pa_cons ha pa_nil (star_cons h2)) (by decide) (by decide) (star_cons h2) rfl) fun σ H Q h => h
    · cases hs
  · split at hs
    · rename_i h
      cases hs
      obtain ⟨h1, h2⟩ := and2 h
      obtain ⟨rfl, hg, hm⟩ := C.bi h1
      exact PE.imp (pe_callB (c_sortD (by have := C.room.un; omega)) hg hm PyProof.Rows.boot_sorted (pa_cons ha pa_nil (star_cons h2)) (by decide) (by decide) (star_cons h2) rfl) fun σ H Q h => h
    · cases hs
  · split at hs
    · rename_i h
      cases hs
      obtain ⟨h1, h2⟩ := and2 h
      obtain ⟨rfl, hg, hm⟩ := C.bi h1
      exact PE.imp (pe_callB (c_minD C.calm C.room.units) hg hm PyProof.Rows.boot_min (pa_cons ha pa_nil (star_cons h2)) (by decide) (by decide) (star_cons h2) rfl) fun σ H Q h => h
    · cases hs
  · split at hs
    · rename_i h
      cases hs
      obtain ⟨h1, h2⟩ := and2 h
      obtain ⟨rfl, hg, hm⟩ := C.bi h1
      exact PE.imp (pe_callTy c_str hg hm (by decide +kernel) (pa_cons ha pa_nil (star_cons h2)) (by decide) (by decide) (star_cons h2) rfl) fun σ H Q h => h
    · cases hs
  · split at hs
    · rename_i h
      cases hs
      obtain ⟨h1, h2⟩ := and2 h
      obtain ⟨rfl, hg, hm⟩ := C.bi h1
      exact PE.imp (pe_callB (c_maxD C.calm C.room.units) hg hm PyProof.Rows.boot_max (pa_cons ha pa_nil (star_cons h2)) (by decide) (by decide) (star_cons h2) rfl) fun σ H Q h => h
    · cases hs
  · cases hs
theorem e_op2 (C : Cg G φ cls k N X sc W) {o : O2} {e : Expr} (ho : o ≠ .min2D) (hs : sh2 G sc o e = some (a, b)) (ha : PE X a ta) (hb : PE X b tb) (mo : Mono ta) (mo2 : Mono tb) : PE X e (tS2 o ta tb) := by
  have hu : X.A.units + 64 < cLine := C.room.units
  have hu65 : X.A.units + 65 < cLine := by have := C.room.un; omega
  unfold sh2 at hs
  split at hs
  · split at hs
    · rename_i op _ h
      cases hs
      cases o <;> cases h
      · exact PE.imp (pe_op o_add ha hb) fun σ H Q h => h
      · exact PE.imp (pe_op o_sub ha hb) fun σ H Q h => h
      · exact PE.imp (pe_op o_mul ha hb) fun σ H Q h => h
      · exact PE.imp (pe_op o_fdiv ha hb) fun σ H Q h => h
      · exact PE.imp (pe_op o_mod ha hb) fun σ H Q h => h
      · exact PE.imp (pe_op o_pow ha hb) fun σ H Q h => h
      · exact PE.imp (pe_op o_catL ha hb) fun σ H Q h => h
    · cases hs
  · split at hs
    · rename_i op _ h
      cases hs
      obtain ⟨h, hn⟩ := h
      cases o <;> cases h
      · exact PE.imp (pe_cmpR (o_eq hu) ha hb (nset_marks hn)) fun σ H Q h => h
      · exact PE.imp (pe_cmpR (o_ne hu) ha hb (nset_marks hn)) fun σ H Q h => h
      · exact PE.imp (pe_cmpR (o_lt hu) ha hb (nset_marks hn)) fun σ H Q h => h
      · exact PE.imp (pe_cmpR o_le ha hb (nset_marks hn)) fun σ H Q h => h
      · exact PE.imp (pe_cmpR o_gt ha hb (nset_marks hn)) fun σ H Q h => h
      · exact PE.imp (pe_cmpR (o_ge hu) ha hb (nset_marks hn)) fun σ H Q h => h
      · exact PE.imp (pe_cmpR (o_mem hu65) ha hb (nset_marks hn)) fun σ H Q h => h
      · exact PE.imp (pe_cmpR (o_nmem hu65) ha hb (nset_marks hn)) fun σ H Q h => h
      · exact PE.imp (pe_cmpR (o_ltD hu) ha hb (nset_marks hn)) fun σ H Q h => h
      · exact PE.imp (pe_cmpR (o_leD hu) ha hb (nset_marks hn)) fun σ H Q h => h
      · exact PE.imp (pe_cmpR (o_gtD hu) ha hb (nset_marks hn)) fun σ H Q h => h
      · exact PE.imp (pe_cmpR (o_geD hu) ha hb (nset_marks hn)) fun σ H Q h => h
    · cases hs
  · split at hs
    · rename_i h
      cases hs
      exact PE.imp (pe_ix o_idx ha hb (plain_ix h)) fun σ H Q h => h
    · cases hs
  · cases hs
    refine PE.imp (pe_slice sl_list ha (po_some hb) po_none) fun σ H Q h => mo _ _ _ _ (fun x H1 h1 => mo2 _ _ _ _ (fun y H2 ⟨S, dx, dy, d, dom, hx, hy, e, q⟩ => ?_) h1) h
    cases dx <;> cases dy <;> simp only [sem2, reduceCtorEq, Option.some.injEq] at e
    subst e
    obtain ⟨p, vs, rfl, hp, fp⟩ := hx.lst_
    exact ⟨_, hy.int, p, vs, rfl, SqL.of hp, fun l hl => q _ _ (.lst hl (cut_FzL fp _ _))⟩
  · cases hs
    refine PE.imp (pe_slice sl_list ha po_none (po_some hb)) fun σ H Q h => mo _ _ _ _ (fun x H1 h1 => mo2 _ _ _ _ (fun y H2 ⟨S, dx, dy, d, dom, hx, hy, e, q⟩ => ?_) h1) h
    cases dx <;> cases dy <;> simp only [sem2, reduceCtorEq, Option.some.injEq] at e
    subst e
    obtain ⟨p, vs, rfl, hp, fp⟩ := hx.lst_
    exact ⟨_, hy.int, p, vs, rfl, SqL.of hp, fun l hl => q _ _ (.lst hl (cut_FzL fp _ _))⟩
  · split at hs
    · rename_i h
      cases hs
      obtain ⟨h1, h2⟩ := and2 h
      obtain ⟨h2, h3⟩ := and2 h2
      obtain ⟨h3, h4⟩ := and2 h3
      obtain ⟨rfl, hg, hm⟩ := C.bi h1
      obtain ⟨rfl, hg2, hm2⟩ := C.bi h2
      refine PE.imp (pe_listRg C.calm hg hm (prg_2 hg2 hm2 ha hb (star_cons h3) (star_cons h4) (by rw [star_cons h4]; rfl)) rfl) fun σ H Q h => mo _ _ _ _ (fun x H1 h1 => mo2 _ _ _ _ (fun y H2 ⟨S, dx, dy, d, dom, hx, hy, e, q⟩ => ?_) h1) h
      cases dx <;> cases dy <;> simp only [sem2, reduceCtorEq, Option.some.injEq] at e
      split at e
      · rename_i hz
        cases e
        simp only [rngOk, Bool.and_eq_true, decide_eq_true_eq] at hz
        exact ⟨_, _, hx.int, hy.int, ⟨hz.1.1.1.1, hz.1.1.1.2, hz.1.1.2, hz.1.2, by omega⟩, fun p hp => q _ _ (.lst hp (rng_FzL _ _))⟩
      · cases e
    · cases hs
  · split at hs
    · rename_i h
      cases hs
      obtain ⟨h1, h2⟩ := and2 h
      obtain ⟨h2, h3⟩ := and2 h2
      obtain ⟨h3, h4⟩ := and2 h3
      obtain ⟨rfl, hg, hm⟩ := C.bi h1
      obtain ⟨rfl, hg2, hm2⟩ := C.bi h2
      refine PE.imp (pe_tupRg C.calm hg hm (prg_2 hg2 hm2 ha hb (star_cons h3) (star_cons h4) (by rw [star_cons h4]; rfl)) rfl) fun σ H Q h => mo _ _ _ _ (fun x H1 h1 => mo2 _ _ _ _ (fun y H2 ⟨S, dx, dy, d, dom, hx, hy, e, q⟩ => ?_) h1) h
      cases dx <;> cases dy <;> simp only [sem2, reduceCtorEq, Option.some.injEq] at e
      split at e
      · rename_i hz
        cases e
        simp only [rngOk, Bool.and_eq_true, decide_eq_true_eq] at hz
        exact ⟨_, _, hx.int, hy.int, ⟨hz.1.1.1.1, hz.1.1.1.2, hz.1.1.2, hz.1.2, by omega⟩, fun p hp => q _ _ (.tup hp (rng_FzL _ _))⟩
      · cases e
    · cases hs
  · split at hs
    · rename_i h
      cases hs
      obtain ⟨h1, h2⟩ := and2 h
      obtain ⟨h2, h3⟩ := and2 h2
      obtain ⟨rfl, hg, hm⟩ := C.bi h1
      exact PE.imp (pe_callB (c_max2 C.calm) hg hm PyProof.Rows.boot_max (pa_cons ha (pa_cons hb pa_nil (star_cons h3)) (star_cons h2)) (by decide) (by decide) (star_cons h2) (by rw [star_cons h3]; rfl)) fun σ H Q h => h
    · cases hs
  · split at hs
    · rename_i h
      cases hs
      obtain ⟨h1, h2⟩ := and2 h
      obtain ⟨h2, h3⟩ := and2 h2
      obtain ⟨rfl, hg, hm⟩ := C.bi h1
      exact PE.imp (pe_callB (c_min2 C.calm) hg hm PyProof.Rows.boot_min (pa_cons ha (pa_cons hb pa_nil (star_cons h3)) (star_cons h2)) (by decide) (by decide) (star_cons h2) (by rw [star_cons h3]; rfl)) fun σ H Q h => h
    · cases hs
  · exact absurd rfl ho
  · split at hs
    · rename_i h
      cases hs
      refine PE.imp (pe_dget (by omega) ha hb (plain_ix h)) fun σ H Q h => mo _ _ _ _ (fun x H1 h1 => mo2 _ _ _ _ (fun y H2 ⟨S, dx, dy, d, dom, hx, hy, e, q⟩ => ?_) h1) h
      cases dx <;> simp only [sem2, reduceCtorEq] at e
      split at e
      · rename_i hk
        obtain ⟨a, o, rfl, g, fo⟩ := get_ok hx hy hk
        rw [e] at fo
        cases fo with
        | some f => exact ⟨a, _, rfl, g, q _ _ (.same f)⟩
      · cases e
    · cases hs
  · cases hs
theorem e_min2D (C : Cg G φ cls k N X sc W) {e : Expr} (hs : sh2 G sc .min2D e = some (a, b)) (ha : PE X a ta) (hb : PE X b tb) (mo : Mono ta) (mo2 : Mono tb) : PE X e (fun σ H Q => ta σ H fun x H1 => tb σ H1 fun y H2 => rF2 [x, y] H2 Q) := by
  have hu : X.A.units + 64 < cLine := C.room.units
  unfold sh2 at hs
  split at hs
  · split at hs
    · rename_i op _ h
      cases h
    · cases hs
  · split at hs
    · rename_i op _ h
      cases h.1
    · cases hs
  all_goals first
    | (rename_i q _ _; cases q; done)
    | (rename_i q; cases q; done)
    | (cases hs; done)
    | skip
  · split at hs
    · rename_i h
      cases hs
      obtain ⟨h1, h2⟩ := and2 h
      obtain ⟨h2, h3⟩ := and2 h2
      obtain ⟨rfl, hg, hm⟩ := C.bi h1
      exact PE.imp (pe_callB (c_min2D C.calm hu) hg hm PyProof.Rows.boot_min (pa_cons ha (pa_cons hb pa_nil (star_cons h3)) (star_cons h2)) (by decide) (by decide) (star_cons h2) (by rw [star_cons h3]; rfl)) fun σ H Q h => h
    · cases hs
theorem rng3_FzL {S : Addr → Prop} {H : Hp} (a c : Int) (n : Nat) : FzL S H (rgV3 a c n) (rngD a n c) := by
  unfold rgV3 rngD
  generalize List.range n = l
  induction l with
  | nil => exact .nil
  | cons i l ih => exact .cons (.int _) ih
def tS3 (o : O3) (ta tb tc : TE) : TE := fun σ H Q => ta σ H fun x H1 => tb σ H1 fun y H2 => (∃ i, y = .int i) ∧ tc σ H2 fun z H3 => rS3 o x y z H3 Q
theorem e_op3 (C : Cg G φ cls k N X sc W) {o : O3} {e : Expr} (hs : sh3 G sc o e = some (a, b, c)) (ha : PE X a ta) (hb : PE X b tb) (hc : PE X c tc) (mo : Mono ta) (mo2 : Mono tb) (mo3 : Mono tc) : PE X e (tS3 o ta tb tc) := by
  unfold sh3 at hs
  split at hs
  · cases hs
    refine PE.imp (pe_slice sl_list ha (po_some hb) (po_some hc)) fun σ H Q h => mo _ _ _ _ (fun x H1 h1 => mo2 _ _ _ _ (fun y H2 ⟨⟨i, ei⟩, h2⟩ => ⟨i, ei, mo3 _ _ _ _ (fun z H3 ⟨S, dx, dy, dz, d, dom, hx, hy, hz, e, q⟩ => ?_) h2⟩) h1) h
    subst ei
    cases dx <;> cases dy <;> cases dz <;> simp only [sem3, reduceCtorEq, Option.some.injEq] at e
    subst e
    have ey := hy.int
    cases ey
    obtain ⟨p, vs, rfl, hp, fp⟩ := hx.lst_
    exact ⟨_, hz.int, p, vs, rfl, SqL.of hp, fun l hl => q _ _ (.lst hl (cut_FzL fp _ _))⟩
  · split at hs
    · rename_i h
      cases hs
      obtain ⟨h1, h2⟩ := and2 h
      obtain ⟨h2, h3⟩ := and2 h2
      obtain ⟨h3, h4⟩ := and2 h3
      obtain ⟨h4, h5⟩ := and2 h4
      obtain ⟨rfl, hg, hm⟩ := C.bi h1
      obtain ⟨rfl, hg2, hm2⟩ := C.bi h2
      refine PE.imp (pe_list3 C.calm hg hm (prg_3 hg2 hm2 ha hb hc (star_cons h3) (star_cons h4) (star_cons h5) (by rw [star_cons h4, star_cons h5]; rfl) (by rw [star_cons h5]; rfl)) rfl) fun σ H Q h => mo _ _ _ _ (fun x H1 h1 => mo2 _ _ _ _ (fun y H2 ⟨⟨i, ei⟩, h2⟩ => mo3 _ _ _ _ (fun z H3 ⟨S, dx, dy, dz, d, dom, hx, hy, hz, e, q⟩ => ?_) h2) h1) h
      subst ei
      cases dx <;> cases dy <;> cases dz <;> simp only [sem3, reduceCtorEq, Option.some.injEq] at e
      rename_i a' b' c'
      split at e
      · rename_i hk
        cases e
        obtain ⟨k1, hk⟩ := and2 hk
        obtain ⟨k2, hk⟩ := and2 hk
        obtain ⟨k3, hk⟩ := and2 hk
        obtain ⟨k4, k5⟩ := and2 hk
        have k1 := of_decide_eq_true k1
        have k2 := of_decide_eq_true k2
        have k4 := of_decide_eq_true k4
        have k5 := of_decide_eq_true k5
        refine ⟨_, _, _, hx.int, hy.int, hz.int, ⟨k1, k2⟩, (Builtin.Range.rangeSize a' b' c').toNat, ⟨k3, by omega, by omega⟩, fun p hp => q _ _ (.lst hp (rng3_FzL _ _ _))⟩
      · cases e
    · cases hs
  · cases hs
/-! ### methods -/
def kM (m : Mt) (x : V) (H : Hp) : Prop := ∃ S dx, Bz S H x dx ∧ kindM m dx = true
def rM (m : Mt) : V → List V → Hp → VK → Prop := fun x xs H Q => ∃ S dx ds d, Dom S H ∧ Bz S H x dx ∧ FzL S H xs ds ∧ semM m dx ds = some d ∧ ∀ v H', New S H v H' d → Q v H'
def tMth (m : Mt) (to : TE) (t : TA) : TE := fun σ H Q => to σ H fun x H1 => kM m x H1 ∧ t σ H1 fun xs H2 => rM m x xs H2 Q
def MonoA (t : TA) : Prop := ∀ σ H (Q Q' : List V → Hp → Prop), (∀ xs H, Q xs H → Q' xs H) → t σ H Q → t σ H Q'
theorem mono_RdL {ms : List Md} {m : Bell.Env → Out (List D)} : MonoA (RdL ms W cls m) := fun σ H Q Q' i ⟨c, ρ, F, E, p⟩ =>
  ⟨c, ρ, F, E, p.mono fun d _ H' F' _ _ q v r => i _ _ (q v r)⟩
theorem idx_V {S : Addr → Prop} {H : Hp} {d : D} {v : V} (h : Fz S H v d) (f : flatD d = true) : ∀ {ds : List D} {vs : List V} {j : Nat}, FzL S H vs ds → ds.all flatD = true → idxOf ds d = some j →
    ∃ z, vs[j]? = some z ∧ eqV z v = true ∧ ∀ (m : Nat) (z' : V), m < j → vs[m]? = some z' → eqV z' v = false
  | _, _, _, .nil, _, e => by cases e
  | _, _, j, .cons (d := d') (ds := ds) (v := v') (vs := vs) a b, g, e => by
    rw [List.all_cons, Bool.and_eq_true] at g
    have q := eqF_V a g.1 h f
    unfold idxOf at e
    rw [List.findIdx?_cons] at e
    split at e
    · rename_i z
      cases e
      exact ⟨v', rfl, q.trans z, fun m z' hm => absurd hm (Nat.not_lt_zero _)⟩
    · rename_i z
      obtain ⟨i, e1, rfl⟩ := Option.map_eq_some_iff.mp e
      obtain ⟨w, h1, h2, h3⟩ := idx_V h f b g.2 e1
      refine ⟨w, h1, h2, fun m z' hm hz => ?_⟩
      cases m with
      | zero =>
        cases hz
        rw [q]
        simpa using z
      | succ m => exact h3 m z' (by omega) hz
theorem mt_get2 (hu : X.A.units + 1 < cLine) : MtR X "dict.get" (fun x xs H Q => ∃ a y z o, x = .ref a ∧ xs = [y, z] ∧ DGet H a y o ∧ Q (o.getD z) H) := by
  intro pins s σ H x xs v us Q I rx rxs h
  obtain ⟨a, y, z, o, rfl, rfl, g, q⟩ := h
  obtain rfl : v = Value.ref a := rx
  cases rxs with
  | cons ry rt =>
    cases rt with
    | cons rz rn =>
      cases rn
      exact d_get2 hu I g ry rz fun w' s' I' rw' => ⟨_, H, I', rw', q⟩
theorem mt_get1 (hu : X.A.units + 1 < cLine) : MtR X "dict.get" (fun x xs H Q => ∃ a y o, x = .ref a ∧ xs = [y] ∧ DGet H a y o ∧ Q (o.getD .non) H) := by
  intro pins s σ H x xs v us Q I rx rxs h
  obtain ⟨a, y, o, rfl, rfl, g, q⟩ := h
  obtain rfl : v = Value.ref a := rx
  cases rxs with
  | cons ry rt =>
    cases rt
    exact d_get1 hu I g ry fun w' s' I' rw' => ⟨_, H, I', rw', q⟩
theorem att_base {o : Expr} {nm : Str} {env : PySem.Env} {w : Sem Value} (h : attB o = true) : attributeBase o nm env w = w := by
  cases o with
  | Call f as kws pos => cases f <;> cases as <;> cases kws <;> first | rfl | cases h
  | _ => rfl
theorem semM_index {xs ds : List D} {d : D} (e : semM .index (.lst xs) ds = some d) : ∃ d0 j, ds = [d0] ∧ flatD d0 = true ∧ xs.all flatD = true ∧ idxOf xs d0 = some j ∧ d = .int ((j : Nat) : Int) := by
  match ds, e with
  | [d0], e =>
    have e : (if flatD d0 && xs.all flatD then (idxOf xs d0).map (fun (i : Nat) => D.int (i : Int)) else none) = some d := e
    split at e
    · rename_i z
      rw [Bool.and_eq_true] at z
      obtain ⟨j, ej, rfl⟩ := Option.map_eq_some_iff.mp e
      exact ⟨d0, j, rfl, z.1, z.2, ej, rfl⟩
    · cases e
  | [], e => cases e
  | _ :: _ :: _, e => cases e
theorem semM_get1 {t : Bool} {es : List (D × D)} {ds : List D} {d : D} (e : semM .get1 (.dic t es) ds = some d) : ∃ d0, ds = [d0] ∧ isKey t d0 = true ∧ d = (dGet es d0).getD .non := by
  match ds, e with
  | [d0], e =>
    have e : (if isKey t d0 then some ((dGet es d0).getD .non) else none) = some d := e
    split at e
    · rename_i hk
      cases e
      exact ⟨d0, rfl, hk, rfl⟩
    · cases e
  | [], e => cases e
  | _ :: _ :: _, e => cases e
theorem semM_get2 {t : Bool} {es : List (D × D)} {ds : List D} {d : D} (e : semM .get2 (.dic t es) ds = some d) : ∃ d0 d1, ds = [d0, d1] ∧ isKey t d0 = true ∧ d = (dGet es d0).getD d1 := by
  match ds, e with
  | [d0, d1], e =>
    have e : (if isKey t d0 then some ((dGet es d0).getD d1) else none) = some d := e
    split at e
    · rename_i hk
      cases e
      exact ⟨d0, d1, rfl, hk, rfl⟩
    · cases e
  | [], e => cases e
  | [_], e => cases e
  | _ :: _ :: _ :: _, e => cases e
theorem FzL.one {S : Addr → Prop} {H : Hp} {vs : List V} {d : D} (h : FzL S H vs [d]) : ∃ v, vs = [v] ∧ Fz S H v d := by
  cases h with
  | cons a b => cases b; exact ⟨_, rfl, a⟩
theorem FzL.two {S : Addr → Prop} {H : Hp} {vs : List V} {d e : D} (h : FzL S H vs [d, e]) : ∃ v w, vs = [v, w] ∧ Fz S H v d ∧ Fz S H w e := by
  cases h with
  | cons a b =>
    obtain ⟨w, e, b'⟩ := b.one
    exact ⟨_, w, by rw [e], a, b'⟩
/-- a dict's method -/
theorem pe_bmD {X : Cx} {id : String} {name : Str} {r : V → List V → Hp → VK → Prop} {o e : Expr} {es : List Expr} {apos cpos : Pos} {to : TE} {t : TA} (slot : Slot "dict" name id) (hty : typeOf (.builtin id) = pure (.type "method_descriptor")) (hm : MtR X id r) (ho : PE X o to) (ha : PA X (e :: es) t)
    (hbase : attributeBase o name X.env (eval o X.env) = eval o X.env) (hfew : ((backTo cpos (starEach (e :: es) X.env)).all (fun x => !x.1) && (backToKw cpos (keywordEach [] X.env)).all (fun x => x.1.isSome) && decide ((e :: es).length + ([] : List Keyword).length + (if ([] : List Keyword).isEmpty then 0 else 1) < 30)) = true)
    (hline : (apos.endLine == cpos.line) = true) (hs : starEach (e :: es) X.env = (false, eval e X.env) :: starEach es X.env) (hplain : (backTo cpos (starEach es X.env)).any (·.1) = false) :
    PE X (.Call (.Attribute o name apos) (e :: es) [] cpos) (fun σ H Q => to σ H fun x H1 => (∃ a, x = .ref a ∧ IsD H1 a) ∧ t σ H1 fun xs H2 => r x xs H2 Q) := by
  refine ⟨fun pins s σ H Q I h => ?_⟩
  refine wpAny_Call_method_late hbase hfew hline rfl (thn (ho.run pins s σ H _ I h) fun v s1 ⟨x, H1, I1, rx, ⟨a, ex, hd⟩, hq⟩ => ?_)
  subst ex
  obtain rfl : v = Value.ref a := rx
  obtain ⟨ty, nd, _⟩ := isD_at I1 hd
  refine ⟨"dict", id, PySem.F.plainAttrs_dict, slot, hty, ty, nd, ?_⟩
  have args := ha.run cpos pins s1 σ H1 _ I1 hq
  rw [hs] at args ⊢
  refine Calls.callWith_builtin ?_ (Calls.evalArgs_plain (thn args fun us s2 ⟨xs, H2, I2, rxs, hr⟩ => hm pins s2 σ H2 (.ref a) xs _ us Q I2 rfl rxs hr))
  exact hplain
/-- l.count(x), of data -/
def rCountD : V → List V → Hp → VK → Prop := fun x xs H Q => ∃ (S : Addr → Prop) (dx : D) (ds : List D) (d : D), Bz S H x dx ∧ FzL S H xs ds ∧ semM .count dx ds = some d ∧ (∀ i, d = .int i → Q (.int i) H)
theorem semM_count {xs ds : List D} {d : D} (e : semM .count (.lst xs) ds = some d) : ∃ d0, ds = [d0] ∧ shD d0 = true ∧ shD (.lst xs) = true ∧ (toP d0).plain = true ∧ PyData.plainAll (toPs xs) = true ∧ d = .int ((xs.countP fun y => eqF y d0 : Nat) : Int) := by
  match ds, e with
  | [d0], e =>
    have e : (if (shD d0 && shD (.lst xs)) && ((toP d0).plain && PyData.plainAll (toPs xs)) then some (D.int ((xs.countP fun y => eqF y d0 : Nat) : Int)) else none) = some d := e
    split at e
    · rename_i z
      cases e
      obtain ⟨z1, z2⟩ := and2 z
      obtain ⟨a, b⟩ := and2 z1
      obtain ⟨c, f⟩ := and2 z2
      exact ⟨d0, rfl, a, b, c, f, rfl⟩
    · cases e
  | [], e => cases e
  | _ :: _ :: _, e => cases e
theorem mt_countD {X : Cx} (hu : X.A.units + 65 < cLine) : MtR X "list.count" rCountD := by
  rintro pins s σ H x xs v us Q I rx rxs ⟨S, dx, ds, d, hx, fx, e, q⟩
  cases dx <;> first | (cases e; done) | skip
  rename_i ys
  obtain ⟨d0, rfl, s1, s2, p1, p2, rfl⟩ := semM_count e
  obtain ⟨v0, rfl, f0⟩ := fx.one
  obtain ⟨a, vs, rfl, ha, fa⟩ := hx.lst_
  obtain rfl : v = Value.ref a := rx
  obtain ⟨u, rfl, ru⟩ := vals1 rxs
  obtain ⟨its, rv, hl, _⟩ := I.list (SqL.of ha)
  obtain ⟨bs, r1⟩ := Dp.reads (X := X) I _ _ _ (f0.dp (SeqAt.canLay_of_shaped s1)) ru
  obtain ⟨as, rs⟩ := Dp.readsAll (X := X) I _ _ _ (FzL.dp (K := X.K) fa (by simpa [shD, toP, PyData.canLay0] using SeqAt.canLay_of_shaped s2)) rv
  have dp := SeqAt.depth_of_shaped s1
  have mn : min (PyData.depthAll (toPs ys)) (toP d0).depth ≤ (toP d0).depth := Nat.min_le_right _ _
  refine SeqAt.count_list_data hl.isList (vs := its.toArray) (xs := toPs ys) rs r1 p2 p1 (by omega) ?_
  have ec : (toPs ys).countP (fun y => PyData.eqv y (toP d0)) = ys.countP fun y => eqF y d0 := by
    rw [toPs_map, List.countP_map]
    rfl
  rw [ec]
  exact ⟨.int ((ys.countP fun y => eqF y d0 : Nat) : Int), H, I.tok _, ⟨_, rfl⟩, q _ rfl⟩
theorem semM_indexD {xs ds : List D} {d : D} (e : semM .indexD (.lst xs) ds = some d) : ∃ d0 j, ds = [d0] ∧ shD d0 = true ∧ shD (.lst xs) = true ∧ idxOf xs d0 = some j ∧ d = .int ((j : Nat) : Int) := by
  match ds, e with
  | [d0], e =>
    have e : (if shD d0 && shD (.lst xs) then (idxOf xs d0).map (fun (i : Nat) => D.int (i : Int)) else none) = some d := e
    split at e
    · rename_i z
      obtain ⟨a, b⟩ := and2 z
      obtain ⟨j, ej, rfl⟩ := Option.map_eq_some_iff.mp e
      exact ⟨d0, j, rfl, a, b, ej, rfl⟩
    · cases e
  | [], e => cases e
  | _ :: _ :: _, e => cases e
theorem idx_P {xs : List D} {d0 : D} {j : Nat} (h : idxOf xs d0 = some j) : ∃ z, (toPs xs)[j]? = some z ∧ PyData.eqv z (toP d0) = true ∧ ∀ (m : Nat) (z' : PyData), m < j → (toPs xs)[m]? = some z' → PyData.eqv z' (toP d0) = false := by
  unfold idxOf at h
  rw [List.findIdx?_eq_some_iff_getElem] at h
  obtain ⟨hj, h1, h2⟩ := h
  rw [toPs_map]
  refine ⟨toP xs[j], by rw [List.getElem?_map, List.getElem?_eq_getElem hj]; rfl, h1, fun m z' hm e => ?_⟩
  have hm' : m < xs.length := Nat.lt_trans hm hj
  rw [List.getElem?_map, List.getElem?_eq_getElem hm'] at e
  cases e
  have := h2 m hm
  exact Bool.eq_false_iff.mpr this
theorem e_mth (C : Cg G φ cls k N X sc W) {m : Mt} {e o : Expr} {as : List Expr} {to : TE} {t : TA} (hs : shM m e = some (o, as)) (ho : PE X o to) (hA : PA X as t) (mo : Mono to) (mA : MonoA t) : PE X e (tMth m to t) := by
  have hu : X.A.units + 64 < cLine := C.room.units
  unfold shM at hs
  split at hs
  · split at hs
    · rename_i h
      cases hs
      obtain ⟨h1, h2⟩ := and2 h
      obtain ⟨h2, h3⟩ := and2 h2
      obtain ⟨h3, h4⟩ := and2 h3
      have h1 := of_decide_eq_true h1
      subst h1
      refine PE.imp (pe_bm PySem.F.plainAttrs_list PySem.F.slot_list_index PySem.F.type_list_index mt_index ho hA (att_base h3) (by rw [star_cons h4]; rfl) h2 (star_cons h4) rfl) fun σ H Q h => mo _ _ _ _ (fun x H1 ⟨⟨S, dx, hx, kx⟩, h2⟩ => ?_) h
      refine ⟨?_, mA _ _ _ _ (fun xs H2 ⟨S2, dx, ds, d, dom, hx, fx, e, q⟩ => ?_) h2⟩
      · cases dx <;> first | (cases kx; done) | skip
        obtain ⟨a, vs, rfl, ha, fa⟩ := hx.lst_
        exact .inl ⟨rfl, vs, SqL.of ha⟩
      · cases dx <;> first | (cases e; done) | skip
        obtain ⟨d0, j, rfl, z1, z2, ej, rfl⟩ := semM_index e
        obtain ⟨v0, rfl, f0⟩ := fx.one
        obtain ⟨a, vs, rfl, ha, fa⟩ := hx.lst_
        obtain ⟨w, w1, w2, w3⟩ := idx_V f0 z1 fa z2 ej
        exact ⟨a, vs, v0, j, w, rfl, rfl, SqL.of ha, flat_V f0 z1, flats_V fa z2, w1, w2, w3, q _ _ (.same (.int _))⟩
    · cases hs
  · split at hs
    · rename_i h
      cases hs
      obtain ⟨h1, h2⟩ := and2 h
      obtain ⟨h2, h3⟩ := and2 h2
      obtain ⟨h3, h4⟩ := and2 h3
      have h1 := of_decide_eq_true h1
      subst h1
      refine PE.imp (pe_bm PySem.F.plainAttrs_list PySem.F.slot_list_count PySem.F.type_list_count (mt_countD (by have := C.room.un; omega)) ho hA (att_base h3) (by rw [star_cons h4]; rfl) h2 (star_cons h4) rfl) fun σ H Q h => mo _ _ _ _ (fun x H1 ⟨⟨S, dx, hx, kx⟩, h2⟩ => ?_) h
      refine ⟨?_, mA _ _ _ _ (fun xs H2 ⟨S2, dx, ds, d, dom, hx, fx, e, q⟩ => ?_) h2⟩
      · cases dx <;> first | (cases kx; done) | skip
        obtain ⟨a, vs, rfl, ha, fa⟩ := hx.lst_
        exact .inl ⟨rfl, vs, SqL.of ha⟩
      · exact ⟨S2, dx, ds, d, hx, fx, e, fun i ei => q _ _ (by rw [ei]; exact .same (.int _))⟩
    · cases hs
  · split at hs
    · rename_i h
      cases hs
      obtain ⟨h1, h2⟩ := and2 h
      obtain ⟨h2, h3⟩ := and2 h2
      obtain ⟨h3, h4⟩ := and2 h3
      have h1 := of_decide_eq_true h1
      subst h1
      refine PE.imp (pe_bm PySem.F.plainAttrs_list PySem.F.slot_list_index PySem.F.type_list_index (mt_indexD (by have := C.room.un; omega)) ho hA (att_base h3) (by rw [star_cons h4]; rfl) h2 (star_cons h4) rfl) fun σ H Q h => mo _ _ _ _ (fun x H1 ⟨⟨S, dx, hx, kx⟩, h2⟩ => ?_) h
      refine ⟨?_, mA _ _ _ _ (fun xs H2 ⟨S2, dx, ds, d, dom, hx, fx, e, q⟩ => ?_) h2⟩
      · cases dx <;> first | (cases kx; done) | skip
        obtain ⟨a, vs, rfl, ha, fa⟩ := hx.lst_
        exact .inl ⟨rfl, vs, SqL.of ha⟩
      · cases dx <;> first | (cases e; done) | skip
        rename_i ys
        obtain ⟨d0, j, rfl, z1, z2, ej, rfl⟩ := semM_indexD e
        obtain ⟨v0, rfl, f0⟩ := fx.one
        obtain ⟨a, vs, rfl, ha, fa⟩ := hx.lst_
        obtain ⟨z, k1, k2, k3⟩ := idx_P ej
        exact ⟨a, v0, toP d0, toPs ys, j, z, rfl, rfl, Bz.dp (K := X.K) (.lst ha fa) (SeqAt.canLay_of_shaped z2), f0.dp (SeqAt.canLay_of_shaped z1), z2, z1, k1, k2, k3, q _ _ (.same (.int _))⟩
    · cases hs
  · split at hs
    · rename_i h
      cases hs
      obtain ⟨h1, h2⟩ := and2 h
      obtain ⟨h2, h3⟩ := and2 h2
      obtain ⟨h3, h4⟩ := and2 h3
      have h1 := of_decide_eq_true h1
      subst h1
      refine PE.imp (pe_bmD PySem.F.slot_dict_get PySem.F.type_dict_get (mt_get1 (by omega)) ho hA (att_base h3) (by rw [star_cons h4]; rfl) h2 (star_cons h4) rfl) fun σ H Q h => mo _ _ _ _ (fun x H1 ⟨⟨S, dx, hx, kx⟩, h2⟩ => ?_) h
      refine ⟨?_, mA _ _ _ _ (fun xs H2 ⟨S2, dx, ds, d, dom, hx, fx, e, q⟩ => ?_) h2⟩
      · cases dx <;> first | (cases kx; done) | skip
        rename_i t es
        cases t with
        | true =>
          obtain ⟨a, kvs, rfl, ha, fa⟩ := hx.dT_
          exact ⟨a, rfl, .inr ⟨kvs, ha⟩⟩
        | false =>
          obtain ⟨a, kvs, rfl, ha, fa⟩ := hx.dK_
          exact ⟨a, rfl, .inl ⟨kvs, ha⟩⟩
      · cases dx <;> first | (cases e; done) | skip
        rename_i t es
        obtain ⟨d0, rfl, hk, rfl⟩ := semM_get1 e
        obtain ⟨v0, rfl, f0⟩ := fx.one
        obtain ⟨a, o', rfl, g, fo⟩ := get_ok hx (.fz f0) hk
        refine ⟨a, v0, o', rfl, rfl, g, q _ _ (.same ?_)⟩
        generalize dGet es d0 = p at fo
        cases fo with
        | none => exact .non
        | some f => exact f
    · cases hs
  · split at hs
    · rename_i h
      cases hs
      obtain ⟨h1, h2⟩ := and2 h
      obtain ⟨h2, h3⟩ := and2 h2
      obtain ⟨h3, h4⟩ := and2 h3
      obtain ⟨h4, h5⟩ := and2 h4
      have h1 := of_decide_eq_true h1
      subst h1
      refine PE.imp (pe_bmD PySem.F.slot_dict_get PySem.F.type_dict_get (mt_get2 (by omega)) ho hA (att_base h3) (by rw [star_cons h4, star_cons h5]; rfl) h2 (star_cons h4) (by rw [star_cons h5]; rfl)) fun σ H Q h => mo _ _ _ _ (fun x H1 ⟨⟨S, dx, hx, kx⟩, h2⟩ => ?_) h
      refine ⟨?_, mA _ _ _ _ (fun xs H2 ⟨S2, dx, ds, d, dom, hx, fx, e, q⟩ => ?_) h2⟩
      · cases dx <;> first | (cases kx; done) | skip
        rename_i t es
        cases t with
        | true =>
          obtain ⟨a, kvs, rfl, ha, fa⟩ := hx.dT_
          exact ⟨a, rfl, .inr ⟨kvs, ha⟩⟩
        | false =>
          obtain ⟨a, kvs, rfl, ha, fa⟩ := hx.dK_
          exact ⟨a, rfl, .inl ⟨kvs, ha⟩⟩
      · cases dx <;> first | (cases e; done) | skip
        rename_i t es
        obtain ⟨d0, d1, rfl, hk, rfl⟩ := semM_get2 e
        obtain ⟨v0, v1, rfl, f0, f1⟩ := fx.two
        obtain ⟨a, o', rfl, g, fo⟩ := get_ok hx (.fz f0) hk
        refine ⟨a, v0, v1, o', rfl, rfl, g, q _ _ (.same ?_)⟩
        generalize dGet es d0 = p at fo
        cases fo with
        | none => exact f1
        | some f => exact f
    · cases hs
  · cases hs
/-- a method's call -/
theorem mth_ok {c : Fc} {ms : List Md} {m : Mt} {σ : L2.St} {H : Hp} {Q : VK} {ma : Bell.Env → Out D} {ml : Bell.Env → Out (List D)} (h : RdG Fz ms W cls (fun ρ => (ma ρ).bind fun x ρ => if kindM m x then (ml ρ).bind fun ds ρ => fin (semM m x ds) ρ else .stuck) σ H Q) : tMth m (RdG Fz ms W cls ma) (RdL ms W cls ml) σ H Q := by
  obtain ⟨c, ρ, F, E, p⟩ := h
  refine ⟨c, ρ, F, E, (Post.bind p).mono fun dx ρ1 H1 F1 E1 e1 p1 x fx => ?_⟩
  split at p1
  · rename_i hk
    refine ⟨⟨_, dx, .fz fx, hk⟩, c, ρ1, F1, E1, (Post.bind p1).mono fun ds ρ2 H2 F2 E2 e2 p2 xs fxs => ?_⟩
    obtain ⟨d, ed, kk⟩ := fin_same E2 p2
    exact ⟨_, dx, ds, d, E2.dom, .fz (fx.ext e2), fxs, ed, fun v H' n => kk v H' n v (n.fz E2.dom)⟩
  · exact p1.elim
theorem mthb_ok {ms : List Md} {m : Mt} {i : Nat} {σ : L2.St} {H : Hp} {Q : VK} {ml : Bell.Env → Out (List D)} (h : RdG Fz ms W cls (fun ρ => (rd i ρ).bind fun x ρ => if kindM m x then (ml ρ).bind fun ds ρ => (rd i ρ).bind fun x ρ => fin (semM m x ds) ρ else .stuck) σ H Q) : tMth m (tVar i) (RdL ms W cls ml) σ H Q := by
  obtain ⟨c, ρ, F, E, p⟩ := h
  obtain ⟨d0, e0, p⟩ := rd_some (Post.bind p)
  have p := p H F E (Ext.refl _ _)
  obtain ⟨v, hv, w0⟩ := E.get e0
  dsimp only at p
  split at p
  · rename_i hk
    refine ⟨v, hv, ⟨_, d0, w0.bz, hk⟩, c, ρ, F, E, (Post.bind p).mono fun ds ρ2 H2 F2 E2 e2 p2 xs fxs => ?_⟩
    obtain ⟨dx, ex, p2⟩ := rd_some (Post.bind p2)
    have p2 := p2 H2 F2 E2 (Ext.refl _ _)
    obtain ⟨v', hv', w⟩ := E2.get ex
    rw [hv] at hv'
    cases hv'
    obtain ⟨d, ed, kk⟩ := fin_same E2 p2
    exact ⟨_, dx, ds, d, E2.dom, w.bz, fxs, ed, fun v H' n => kk v H' n v (n.fz E2.dom)⟩
  · exact p.elim
end
end Bell
set_option Elab.async false
set_option linter.all false
set_option maxRecDepth 100000
set_option autoImplicit false
/-! Readings of the forms. -/
namespace Bell
open PySem PySem.Spec PyProof.Rows L2
section
variable {X : Cx} {a b e : Expr} {ta tb tc : TE} {pos p : Pos} {sc : Scope}
variable {G : GI} {φ : Calls} {cls : Nat → Value} {k : Nat} {N : List Str} {W : WX} {c : Fc} {ms : List Md} {m ma mb mc : Bell.Env → Out D} {σ : L2.St} {H : Hp} {Q : VK}
def relOf (fl : Bool) : Rel := if fl then Bz else Fz
theorem toFl (fl : Bool) (h : PE X e (RdG Fz ms W cls m)) : PE X e (RdG (relOf fl) ms W cls m) := by
  cases fl
  · exact h
  · exact RdG.bz h
theorem tru_of {S : Addr → Prop} {K : PySem.W.Frag} {d : D} {v : V} {k : Bool} (h : Bz S H v d) (e : truth d = some k) : TruV K v H k := by
  cases d with
  | non => cases h.non; cases e; exact rfl
  | bl b => cases h.bl; cases e; exact rfl
  | int b => cases h.int; cases e; exact rfl
  | str b =>
    cases h.str
    simp only [truth] at e
    split at e
    · rename_i z
      cases e
      exact ⟨z, rfl⟩
    · cases e
  | lst ds =>
    obtain ⟨a, vs, rfl, ha, fa⟩ := h.lst_
    cases e
    refine .inl ⟨vs, SqL.of ha, ?_⟩
    cases fa <;> rfl
  | tup ds =>
    obtain ⟨a, vs, rfl, ha, fa⟩ := h.tup_
    cases e
    refine .inr (.inl ⟨vs, SqT.of ha, ?_⟩)
    cases fa <;> rfl
  | dic _ _ => cases e
  | scr _ => cases e
  | obj _ _ => cases e
/-- a truth is asked of a value -/
theorem tst_ok {R : Rel} (hR : ∀ {S : Addr → Prop} {H : Hp} {v : V} {d : D}, R S H v d → Bz S H v d) {Q : Bool → Hp → Prop} {K : PySem.W.Frag} (h : RdT ms W cls (fun ρ => tst (m ρ)) σ H Q) :
    RdG R ms W cls m σ H (fun x H' => ∃ k, TruV K x H' k ∧ Q k H') := by
  obtain ⟨c, ρ, F, E, p⟩ := h
  refine ⟨c, ρ, F, E, (Post.bind p).mono fun d ρ1 H1 F1 E1 e1 p1 v fv => ?_⟩
  cases q : truth d with
  | none => rw [q] at p1; exact p1.elim
  | some k =>
    rw [q] at p1
    exact ⟨k, tru_of (hR fv) q, p1 H1 F1 E1 (Ext.refl _ _)⟩
theorem relOf_bz {fl : Bool} {S : Addr → Prop} {H : Hp} {v : V} {d : D} (h : relOf fl S H v d) : Bz S H v d := by
  cases fl
  · exact .fz h
  · exact h
theorem pt_plain {fl : Bool} (ha : PE X a (RdG (relOf fl) ms W cls m)) (h : tPlain a = true) : PT X a (RdT ms W cls fun ρ => tst (m ρ)) := by
  refine PT.imp (pt_truth ha ?_) fun σ H Q h => tst_ok relOf_bz h
  intro whole
  cases a <;> first | rfl | cases h
/-- a test of two values -/
theorem tstB_ok {Q : Bool → Hp → Prop} (hb : ∀ ρ d ρ', m ρ = .ok d ρ' → ∃ b, d = .bl b) (h : RdT ms W cls (fun ρ => tst (m ρ)) σ H Q) :
    RdG Fz ms W cls m σ H (fun x H' => ∃ k, x = .bl k ∧ Q k H') := by
  obtain ⟨c, ρ, F, E, p⟩ := h
  refine ⟨c, ρ, F, E, ?_⟩
  cases q : m ρ with
  | ok d ρ' =>
    obtain ⟨b, rfl⟩ := hb _ _ _ q
    dsimp only at p
    rw [q] at p
    refine fun H' F' E' e' v fv => ?_
    cases fv
    exact ⟨b, rfl, p H' F' E' e'⟩
  | exc k ρ' =>
    dsimp only at p
    rw [q] at p
    exact p
  | stuck =>
    dsimp only at p
    rw [q] at p
    exact p
theorem ordD_bl {a b d : D} {k : Bool} (e : (if ordO a b then some (D.bl k) else none) = some d) : ∃ b, d = .bl b := by
  split at e <;> cases e
  exact ⟨_, rfl⟩
theorem cmp_bl {o : O2} {op : CmpOp} (h : cmpO o = some op) {x y d : D} (e : sem2 o x y = some d) : ∃ b, d = .bl b := by
  cases o <;> cases h
  · obtain ⟨b, _, rfl⟩ := Option.map_eq_some_iff.mp (show (eqD x y).map D.bl = some d from by cases x <;> cases y <;> exact e)
    exact ⟨_, rfl⟩
  · obtain ⟨b, _, rfl⟩ := Option.map_eq_some_iff.mp (show (eqD x y).map (fun b => D.bl (!b)) = some d from by cases x <;> cases y <;> exact e)
    exact ⟨_, rfl⟩
  · cases x <;> cases y <;> simp only [sem2, reduceCtorEq, Option.some.injEq] at e
    · exact ⟨_, e.symm⟩
    · split at e <;> cases e
      exact ⟨_, rfl⟩
  · cases x <;> cases y <;> simp only [sem2, reduceCtorEq, Option.some.injEq] at e
    exact ⟨_, e.symm⟩
  · cases x <;> cases y <;> simp only [sem2, reduceCtorEq, Option.some.injEq] at e
    exact ⟨_, e.symm⟩
  · cases x <;> cases y <;> simp only [sem2, reduceCtorEq, Option.some.injEq] at e
    · exact ⟨_, e.symm⟩
    · split at e <;> cases e
      exact ⟨_, rfl⟩
  · cases y <;> simp only [sem2, reduceCtorEq, Option.some.injEq] at e <;> (split at e <;> cases e <;> exact ⟨_, rfl⟩)
  · cases y <;> simp only [sem2, reduceCtorEq, Option.some.injEq] at e <;> (split at e <;> cases e <;> exact ⟨_, rfl⟩)
  · exact ordD_bl (a := x) (b := y) (k := ltDD x y) (by cases x <;> exact e)
  · exact ordD_bl (a := x) (b := y) (k := !ltDD y x) (by cases x <;> exact e)
  · exact ordD_bl (a := x) (b := y) (k := ltDD y x) (by cases x <;> exact e)
  · exact ordD_bl (a := x) (b := y) (k := !ltDD x y) (by cases x <;> exact e)
theorem cmp_op {o : O2} {op : CmpOp} (hu : X.A.units + 65 < cLine) (h : cmpO o = some op) : OpR X (compareOp op) (rS2 o) := by
  cases o <;> cases h
  · exact o_eq (by omega)
  · exact o_ne (by omega)
  · exact o_lt (by omega)
  · exact o_le
  · exact o_gt
  · exact o_ge (by omega)
  · exact o_mem hu
  · exact o_nmem hu
  · exact o_ltD (by omega)
  · exact o_leD (by omega)
  · exact o_gtD (by omega)
  · exact o_geD (by omega)
/-- a op b op c -/
theorem chn_ok {o q : O2} {op oq : CmpOp} (ho : cmpO o = some op) (hq : cmpO q = some oq) (h : RdG Fz ms W cls (fun ρ => (ma ρ).bind fun x ρ => (mb ρ).bind fun y ρ => match sem2 o x y with
    | some (.bl true) => (mc ρ).bind fun z ρ => fin (sem2 q y z) ρ
    | some (.bl false) => .ok (.bl false) ρ
    | _ => .stuck) σ H Q) : tChain (rS2 o) (rS2 q) (RdG Fz ms W cls ma) (RdG Fz ms W cls mb) (RdG Fz ms W cls mc) σ H Q := by
  obtain ⟨c, ρ, F, E, p⟩ := h
  refine ⟨c, ρ, F, E, (Post.bind p).mono fun dx ρ1 H1 F1 E1 e1 p1 x fx => ⟨c, ρ1, F1, E1, (Post.bind p1).mono fun dy ρ2 H2 F2 E2 e2 p2 y fy => ?_⟩⟩
  cases es : sem2 o dx dy with
  | none => rw [es] at p2; exact p2.elim
  | some d =>
    obtain ⟨b, rfl⟩ := cmp_bl ho es
    refine ⟨_, dx, dy, _, E2.dom, .fz (fx.ext e2), .fz fy, es, fun v H' n => ?_⟩
    cases n with
    | same fv =>
      cases fv
      refine ⟨b, rfl, ?_⟩
      rw [es] at p2
      cases b with
      | true =>
        refine iteT ⟨c, ρ2, F2, E2, (Post.bind p2).mono fun dz ρ3 H3 F3 E3 e3 p3 z fz => ?_⟩
        obtain ⟨d, ed, kk⟩ := fin_same E3 p3
        exact ⟨_, dy, dz, d, E3.dom, .fz (fy.ext e3), .fz fz, ed, fun v H' n => kk v H' n v (n.fz E3.dom)⟩
      | false => exact iteF (p2 H2 F2 E2 (Ext.refl _ _) _ (.bl false))
theorem chn_bl {o q : O2} {op oq : CmpOp} (ho : cmpO o = some op) (hq : cmpO q = some oq) (ρ : Bell.Env) (d : D) (ρ' : Bell.Env) (h : ((ma ρ).bind fun x ρ => (mb ρ).bind fun y ρ => match sem2 o x y with
    | some (.bl true) => (mc ρ).bind fun z ρ => fin (sem2 q y z) ρ
    | some (.bl false) => .ok (.bl false) ρ
    | _ => .stuck) = .ok d ρ') : ∃ b, d = .bl b := by
  cases h1 : ma ρ with
  | ok x ρ1 =>
    rw [h1] at h
    simp only [Out.bind] at h
    cases h2 : mb ρ1 with
    | ok y ρ2 =>
      rw [h2] at h
      simp only at h
      split at h
      · cases h3 : mc ρ2 with
        | ok z ρ3 =>
          rw [h3] at h
          simp only [fin] at h
          split at h
          · rename_i e
            cases h
            exact cmp_bl hq e
          · cases h
        | exc _ _ => rw [h3] at h; cases h
        | stuck => rw [h3] at h; cases h
      · cases h; exact ⟨_, rfl⟩
      · cases h
    | exc _ _ => rw [h2] at h; cases h
    | stuck => rw [h2] at h; cases h
  | exc _ _ => rw [h1] at h; cases h
  | stuck => rw [h1] at h; cases h
theorem op2_bl {o : O2} {op : CmpOp} (ho : cmpO o = some op) {f : D → D → Bell.Env → Out D} (hf : ∀ x y ρ, f x y ρ = fin (sem2 o x y) ρ) {x y : D} {ρ ρ' : Bell.Env} {d : D} (h : f x y ρ = .ok d ρ') : ∃ b, d = .bl b := by
  rw [hf] at h
  unfold fin at h
  split at h
  · rename_i e
    cases h
    exact cmp_bl ho e
  · cases h
theorem bind_bl {α : Type} {x : Out α} {f : α → Bell.Env → Out D} {d : D} {ρ' : Bell.Env} (h : x.bind f = .ok d ρ') (hf : ∀ a ρ d ρ', f a ρ = .ok d ρ' → ∃ b, d = .bl b) : ∃ b, d = .bl b := by
  cases x with
  | ok a ρ => exact hf a ρ d ρ' h
  | exc _ _ => cases h
  | stuck => cases h
theorem fin_bl {o : O2} {op : CmpOp} (ho : cmpO o = some op) {x y : D} {ρ ρ' : Bell.Env} {d : D} (h : fin (sem2 o x y) ρ = .ok d ρ') : ∃ b, d = .bl b := by
  unfold fin at h
  split at h
  · rename_i e
    cases h
    exact cmp_bl ho e
  · cases h
theorem ev2_bl {o : O2} {op : CmpOp} (ho : cmpO o = some op) (x y : Ex) (ρ : Bell.Env) (d : D) (ρ' : Bell.Env) (h : ev φ (.op2 o x y) ρ = .ok d ρ') : ∃ b, d = .bl b := by
  cases x <;> simp only [ev] at h <;> first
    | exact bind_bl h fun _ _ _ _ h => bind_bl h fun _ _ _ _ h => fin_bl ho h
    | exact bind_bl h fun _ _ _ _ h => bind_bl h fun _ _ _ _ h => bind_bl h fun _ _ _ _ h => fin_bl ho h
/-- and, or, not as values -/
theorem and_ok {K : PySem.W.Frag} (h : RdG Fz ms W cls (fun ρ => (ma ρ).bind fun x ρ => match truth x with
    | some true => mb ρ
    | some false => .ok x ρ
    | none => .stuck) σ H Q) : tAndT K (RdG Fz ms W cls ma) (RdG Fz ms W cls mb) σ H Q := by
  obtain ⟨c, ρ, F, E, p⟩ := h
  refine ⟨c, ρ, F, E, (Post.bind p).mono fun dx ρ1 H1 F1 E1 e1 p1 x fx => ?_⟩
  cases q : truth dx with
  | none => rw [q] at p1; exact p1.elim
  | some k =>
    rw [q] at p1
    refine ⟨k, tru_of (.fz fx) q, ?_⟩
    cases k with
    | true => exact iteT ⟨c, ρ1, F1, E1, p1⟩
    | false => exact iteF (p1 H1 F1 E1 (Ext.refl _ _) x fx)
theorem or_ok {K : PySem.W.Frag} (h : RdG Fz ms W cls (fun ρ => (ma ρ).bind fun x ρ => match truth x with
    | some true => .ok x ρ
    | some false => mb ρ
    | none => .stuck) σ H Q) : tOrT K (RdG Fz ms W cls ma) (RdG Fz ms W cls mb) σ H Q := by
  obtain ⟨c, ρ, F, E, p⟩ := h
  refine ⟨c, ρ, F, E, (Post.bind p).mono fun dx ρ1 H1 F1 E1 e1 p1 x fx => ?_⟩
  cases q : truth dx with
  | none => rw [q] at p1; exact p1.elim
  | some k =>
    rw [q] at p1
    refine ⟨k, tru_of (.fz fx) q, ?_⟩
    cases k with
    | true => exact iteT (p1 H1 F1 E1 (Ext.refl _ _) x fx)
    | false => exact iteF ⟨c, ρ1, F1, E1, p1⟩
theorem not_ok {fl : Bool} {K : PySem.W.Frag} (h : RdG Fz ms W cls (fun ρ => (ma ρ).bind fun x ρ => match truth x with
    | some k => .ok (.bl (!k)) ρ
    | none => .stuck) σ H Q) : tNotT K (RdG (relOf fl) ms W cls ma) σ H Q := by
  obtain ⟨c, ρ, F, E, p⟩ := h
  refine ⟨c, ρ, F, E, (Post.bind p).mono fun dx ρ1 H1 F1 E1 e1 p1 x fx => ?_⟩
  cases q : truth dx with
  | none => rw [q] at p1; exact p1.elim
  | some k =>
    rw [q] at p1
    exact ⟨k, tru_of (relOf_bz fx) q, p1 H1 F1 E1 (Ext.refl _ _) _ (.bl _)⟩
/-- .. as tests -/
theorem tst_some {d : D} {ρ : Bell.Env} {k : Bool} (h : truth d = some k) : tst (.ok d ρ) = .ok k ρ := by
  unfold tst
  simp only [Out.bind, h]
theorem tst_none {d : D} {ρ : Bell.Env} (h : truth d = none) : tst (.ok d ρ) = .stuck := by
  unfold tst
  simp only [Out.bind, h]
theorem andT_ok {Q : Bool → Hp → Prop} (h : RdT ms W cls (fun ρ => tst ((ma ρ).bind fun x ρ => match truth x with
    | some true => mb ρ
    | some false => .ok x ρ
    | none => .stuck)) σ H Q) : tAnd (RdT ms W cls fun ρ => tst (ma ρ)) (RdT ms W cls fun ρ => tst (mb ρ)) σ H Q := by
  obtain ⟨c, ρ, F, E, p⟩ := h
  refine ⟨c, ρ, F, E, ?_⟩
  dsimp only at p ⊢
  cases q : ma ρ with
  | ok d ρ' =>
    rw [q] at p
    simp only [Out.bind] at p
    cases r : truth d with
    | none => rw [r] at p; exact p.elim
    | some k =>
      rw [tst_some r]
      rw [r] at p
      cases k with
      | true => exact fun H1 F1 E1 e1 => iteT ⟨c, ρ', F1, E1, Post.later p e1⟩
      | false =>
        dsimp only at p
        rw [tst_some r] at p
        exact fun H1 F1 E1 e1 => iteF (p H1 F1 E1 e1)
  | exc k ρ' => rw [q] at p; exact p
  | stuck => rw [q] at p; exact p.elim
theorem orT_ok {Q : Bool → Hp → Prop} (h : RdT ms W cls (fun ρ => tst ((ma ρ).bind fun x ρ => match truth x with
    | some true => .ok x ρ
    | some false => mb ρ
    | none => .stuck)) σ H Q) : tOr (RdT ms W cls fun ρ => tst (ma ρ)) (RdT ms W cls fun ρ => tst (mb ρ)) σ H Q := by
  obtain ⟨c, ρ, F, E, p⟩ := h
  refine ⟨c, ρ, F, E, ?_⟩
  dsimp only at p ⊢
  cases q : ma ρ with
  | ok d ρ' =>
    rw [q] at p
    simp only [Out.bind] at p
    cases r : truth d with
    | none => rw [r] at p; exact p.elim
    | some k =>
      rw [tst_some r]
      rw [r] at p
      cases k with
      | false => exact fun H1 F1 E1 e1 => iteF ⟨c, ρ', F1, E1, Post.later p e1⟩
      | true =>
        dsimp only at p
        rw [tst_some r] at p
        exact fun H1 F1 E1 e1 => iteT (p H1 F1 E1 e1)
  | exc k ρ' => rw [q] at p; exact p
  | stuck => rw [q] at p; exact p.elim
theorem notT_ok {Q : Bool → Hp → Prop} (h : RdT ms W cls (fun ρ => tst ((ma ρ).bind fun x ρ => match truth x with
    | some k => .ok (.bl (!k)) ρ
    | none => .stuck)) σ H Q) : tNot (RdT ms W cls fun ρ => tst (ma ρ)) σ H Q := by
  obtain ⟨c, ρ, F, E, p⟩ := h
  refine ⟨c, ρ, F, E, ?_⟩
  dsimp only at p ⊢
  cases q : ma ρ with
  | ok d ρ' =>
    rw [q] at p
    simp only [Out.bind] at p
    cases r : truth d with
    | none => rw [r] at p; exact p.elim
    | some k =>
      rw [tst_some r]
      rw [r] at p
      dsimp only at p
      rw [tst_some (show truth (.bl (!k)) = some (!k) from rfl)] at p
      exact fun H1 F1 E1 e1 => p H1 F1 E1 e1
  | exc k ρ' => rw [q] at p; exact p
  | stuck => rw [q] at p; exact p.elim
theorem ife_ok {mt : Bell.Env → Out Bool} (h : RdG Fz ms W cls (fun ρ => (mt ρ).bind fun k ρ => if k then ma ρ else mb ρ) σ H Q) : tIf (RdT ms W cls mt) (RdG Fz ms W cls ma) (RdG Fz ms W cls mb) σ H Q := by
  obtain ⟨c, ρ, F, E, p⟩ := h
  refine ⟨c, ρ, F, E, (Post.bind p).mono fun k ρ1 H1 F1 E1 e1 p1 => ?_⟩
  cases k with
  | true => exact iteT ⟨c, ρ1, F1, E1, p1⟩
  | false => exact iteF ⟨c, ρ1, F1, E1, p1⟩
/-- displays -/
theorem nil_ok {Q : List V → Hp → Prop} (h : RdL ms W cls (fun ρ => .ok [] ρ) σ H Q) : tNil σ H Q := by
  obtain ⟨c, ρ, F, E, p⟩ := h
  exact p H F E (Ext.refl _ _) [] .nil
theorem cons_ok {ml : Bell.Env → Out (List D)} {Q : List V → Hp → Prop} (h : RdL ms W cls (fun ρ => (ma ρ).bind fun d ρ => (ml ρ).bind fun ds ρ => .ok (d :: ds) ρ) σ H Q) : tCons (RdG Fz ms W cls ma) (RdL ms W cls ml) σ H Q := by
  obtain ⟨c, ρ, F, E, p⟩ := h
  refine ⟨c, ρ, F, E, (Post.bind p).mono fun dx ρ1 H1 F1 E1 e1 p1 x fx => ⟨c, ρ1, F1, E1, (Post.bind p1).mono fun ds ρ2 H2 F2 E2 e2 p2 xs fxs => ?_⟩⟩
  exact p2 H2 F2 E2 (Ext.refl _ _) _ (.cons (fx.ext e2) fxs)
theorem tup_ok {ml : Bell.Env → Out (List D)} (h : RdG Fz ms W cls (fun ρ => (ml ρ).bind fun ds ρ => if ds.length ≤ sizeLine then .ok (.tup ds) ρ else .stuck) σ H Q) : tTup (RdL ms W cls ml) σ H Q := by
  obtain ⟨c, ρ, F, E, p⟩ := h
  refine ⟨c, ρ, F, E, (Post.bind p).mono fun ds ρ1 H1 F1 E1 e1 p1 xs fxs => ?_⟩
  split at p1
  · rename_i z
    refine ⟨by rw [fxs.length]; exact z, fun q hq => ?_⟩
    have n : New (sOf c F1) H1 (.ref q) (upd H1 q (.tup xs)) (.tup ds) := .tup hq fxs
    exact p1 _ F1 (E1.same n.keeps) (same_ext n.keeps) _ (n.fz E1.dom)
  · exact p1.elim
theorem lst_ok {ml : Bell.Env → Out (List D)} (h : RdG Fz ms W cls (fun ρ => (ml ρ).bind fun ds ρ => if ds.length ≤ sizeLine then .ok (.lst ds) ρ else .stuck) σ H Q) : tLst (RdL ms W cls ml) σ H Q := by
  obtain ⟨c, ρ, F, E, p⟩ := h
  refine ⟨c, ρ, F, E, (Post.bind p).mono fun ds ρ1 H1 F1 E1 e1 p1 xs fxs => ?_⟩
  split at p1
  · rename_i z
    refine ⟨by rw [fxs.length]; exact z, fun q hq => ?_⟩
    have n : New (sOf c F1) H1 (.ref q) (upd H1 q (.lst xs)) (.lst ds) := .lst hq fxs
    exact p1 _ F1 (E1.same n.keeps) (same_ext n.keeps) _ (n.fz E1.dom)
  · exact p1.elim
end
end Bell
set_option Elab.async false
set_option linter.all false
set_option maxRecDepth 100000
set_option autoImplicit false
/-! Calls of own defs. -/
namespace Bell
open PySem PySem.Spec PyProof.Rows L2

/-- operands of a call, by the callee's signature -/
inductive Avs (σ : L2.St) (ms : List Md) (S : Addr → Prop) (H : Hp) : List Md → List V → List Ov → Prop
  | nil : Avs σ ms S H [] [] []
  | d {sg : List Md} {v : V} {d : D} {vs : List V} {os : List Ov} : Fz S H v d → Avs σ ms S H sg vs os → Avs σ ms S H (.fz :: sg) (v :: vs) (.d d :: os)
  | b {sg : List Md} {v : V} {i : Nat} {vs : List V} {os : List Ov} : σ[i]? = some (some v) → Avs σ ms S H sg vs os → Avs σ ms S H (.fz :: sg) (v :: vs) (.s i false :: os)
  | io {m : Md} {sg : List Md} {v : V} {i : Nat} {vs : List V} {os : List Ov} : m ≠ .fz → ms.getD i .fz = m → σ[i]? = some (some v) → Avs σ ms S H sg vs os → Avs σ ms S H (m :: sg) (v :: vs) (.s i true :: os)
def RdV (sg : List Md) (ms : List Md) (W : WX) (cls : Nat → Value) (m : Bell.Env → Out (List Ov)) : TA := fun σ H Q =>
  ∃ (c : Fc) (ρ : Bell.Env) (F : Nat → List Addr), EnvOk c ms σ H ρ F ∧ Post c ms W cls σ (sOf c F) H (fun os _ H' F' => ∀ vs, Avs σ ms (sOf c F') H' sg vs os → Q vs H') (m ρ)

/-- the places of the changed arguments -/
def FsOf (F : Nat → List Addr) : List Ov → List (List Addr)
  | [] => []
  | .s i true :: r => F i :: FsOf F r
  | _ :: r => [] :: FsOf F r
def ioOv : List Ov → List Nat
  | [] => []
  | .s i true :: r => i :: ioOv r
  | _ :: r => ioOv r
def BsOf (F : Nat → List Addr) : List Ov → List Addr
  | [] => []
  | .s i false :: r => F i ++ BsOf F r
  | _ :: r => BsOf F r
theorem mem_FsOf {F : Nat → List Addr} : ∀ {os : List Ov} {a : Addr}, a ∈ (FsOf F os).flatten ↔ ∃ i, i ∈ ioOv os ∧ a ∈ F i
  | [], a => by simp [FsOf, ioOv]
  | .d _ :: r, a => by simp only [FsOf, ioOv, List.flatten_cons, List.nil_append]; exact mem_FsOf
  | .s i false :: r, a => by simp only [FsOf, ioOv, List.flatten_cons, List.nil_append]; exact mem_FsOf
  | .s i true :: r, a => by
    simp only [FsOf, ioOv, List.flatten_cons, List.mem_append, List.mem_cons]
    rw [mem_FsOf]
    constructor
    · rintro (h | ⟨j, hj, h⟩)
      · exact ⟨i, .inl rfl, h⟩
      · exact ⟨j, .inr hj, h⟩
    · rintro ⟨j, rfl | hj, h⟩
      · exact .inl h
      · exact .inr ⟨j, hj, h⟩
theorem mem_BsOf {F : Nat → List Addr} : ∀ {os : List Ov} {a : Addr}, a ∈ BsOf F os → ∃ i, a ∈ F i
  | .d _ :: r, a, h => mem_BsOf (os := r) h
  | .s i true :: r, a, h => mem_BsOf (os := r) h
  | .s i false :: r, a, h => by
    rcases List.mem_append.mp h with h | h
    · exact ⟨i, h⟩
    · exact mem_BsOf h
theorem BsOf_nil {F : Nat → List Addr} : ∀ {os : List Ov}, os.any isBor = false → BsOf F os = []
  | [], _ => rfl
  | .d _ :: r, h => BsOf_nil (os := r) h
  | .s i true :: r, h => BsOf_nil (os := r) h
  | .s i false :: r, h => by simp [isBor] at h
theorem ioOv_nil : ∀ {os : List Ov}, os.any isIo = false → ioOv os = []
  | [], _ => rfl
  | .d _ :: r, h => ioOv_nil (os := r) h
  | .s i false :: r, h => ioOv_nil (os := r) h
  | .s i true :: r, h => by simp [isIo] at h
theorem Ow.nodup {S : Addr → Prop} {H : Hp} {m : Md} {v : V} {d : D} {F : List Addr} (h : Ow S H m v d F) : F.Nodup := by
  cases h <;> simp
/-- what is owned, seen from where it is not -/
theorem Ow.frz {S S' : Addr → Prop} {H : Hp} {m : Md} {v : V} {d : D} {F : List Addr} (h : Ow S H m v d F) (hs : ∀ a, S' a → S a) (hF : ∀ a ∈ F, ¬ S' a) : Fz S' H v d := by
  cases h with
  | fz h => exact h.ext (Ext.less hs)
  | li h x => exact .lst (hF _ (List.mem_singleton.mpr rfl)) h (x.ext (Ext.less hs))
  | dk h x => exact .dK (hF _ (List.mem_singleton.mpr rfl)) (.inl h) (x.ext (Ext.less hs))
  | dt h x => exact .dT (hF _ (List.mem_singleton.mpr rfl)) (.inl h) (x.ext (Ext.less hs))
section
variable {S S' : Addr → Prop} {H : Hp}
mutual
/-- a flat thing stands away from what is no tuple -/
theorem Fz.flat (hn : ∀ a xs, S' a → H a ≠ some (.tup xs)) : ∀ {d : D} {v : V}, Fz S H v d → flat d = true → Fz S' H v d
  | .non, _, h, _ => by cases h; exact .non
  | .bl _, _, h, _ => by cases h; exact .bl _
  | .int _, _, h, _ => by cases h; exact .int _
  | .str _, _, h, _ => by cases h; exact .str _
  | .lst ds, _, h, q => by simp [Bell.flat] at q
  | .tup ds, _, h, q => by
    cases h with
    | tup n r x => exact .tup (fun z => hn _ _ z r) r (FzL.flat hn x (by simpa [Bell.flat] using q))
  | .dic _ _, _, h, q => by simp [Bell.flat] at q
  | .scr _, _, h, q => by simp [Bell.flat] at q
theorem FzL.flat (hn : ∀ a xs, S' a → H a ≠ some (.tup xs)) : ∀ {ds : List D} {vs : List V}, FzL S H vs ds → flats ds = true → FzL S' H vs ds
  | [], _, h, _ => by cases h; exact .nil
  | d :: ds, _, h, q => by
    cases h with
    | cons a b =>
      rw [Bell.flats, Bool.and_eq_true] at q
      exact .cons (Fz.flat hn a q.1) (FzL.flat hn b q.2)
end
end
section
variable {c : Fc} {ms : List Md} {σ : L2.St} {H H' : Hp} {ρ : Bell.Env} {F : Nat → List Addr}
theorem args_ok (E : EnvOk c ms σ H ρ F) {S' : Addr → Prop} (hs : ∀ a, S' a → sOf c F a) : ∀ {sg : List Md} {vs : List V} {os : List Ov} {ds : List D}, Avs σ ms (sOf c F) H sg vs os → ovDs ρ os = some ds →
    (∀ a, a ∈ BsOf F os → ¬ S' a) → ArgsOk S' H sg vs ds (FsOf F os)
  | _, _, _, _, .nil, e, _ => by cases e; exact .nil
  | _, _, _, _, .d (d := d) (os := os) f r, e, hb => by
    simp only [ovDs, ovD] at e
    cases q : ovDs ρ os with
    | none => rw [q] at e; cases e
    | some ds =>
      rw [q] at e
      cases e
      exact .cons (.fz (f.ext (Ext.less hs))) (args_ok E hs r q hb)
  | _, _, _, _, .b (i := i) (os := os) f r, e, hb => by
    simp only [ovDs, ovD] at e
    cases q : ovDs ρ os with
    | none => rw [q] at e; split at e <;> simp_all
    | some ds =>
      rw [q] at e
      split at e
      · rename_i d dss h1 h2
        cases h2
        cases e
        split at h1
        · rename_i d' hd
          cases h1
          obtain ⟨v', hv, w⟩ := E.get hd
          rw [f] at hv
          cases hv
          exact .cons (.fz (w.frz hs fun a ha => hb a (List.mem_append_left _ ha))) (args_ok E hs r q fun a ha => hb a (List.mem_append_right _ ha))
        · cases h1
      · cases e
  | _, _, _, _, .io (i := i) (os := os) hm he f r, e, hb => by
    simp only [ovDs, ovD] at e
    cases q : ovDs ρ os with
    | none => rw [q] at e; split at e <;> simp_all
    | some ds =>
      rw [q] at e
      split at e
      · rename_i d dss h1 h2
        cases h2
        cases e
        split at h1
        · rename_i d' hd
          cases h1
          obtain ⟨v', hv, w⟩ := E.get hd
          rw [f] at hv
          cases hv
          rw [he] at w
          exact .cons (w.ext (Ext.less hs) fun _ _ _ h => h) (args_ok E hs r q hb)
        · cases h1
      · cases e
theorem putOuts_length : ∀ (os : List Ov) (ρ : Bell.Env) (outs : List D), (putOuts ρ os outs).length = ρ.length
  | [], _, _ => by unfold putOuts; rfl
  | .d _ :: r, ρ, outs => by unfold putOuts; exact putOuts_length r ρ outs
  | .s i false :: r, ρ, outs => by unfold putOuts; exact putOuts_length r ρ outs
  | .s i true :: r, ρ, [] => by unfold putOuts; exact putOuts_length r ρ []
  | .s i true :: r, ρ, d :: outs => by
    unfold putOuts
    rw [putOuts_length r _ outs, List.length_set]
theorem putOuts_out : ∀ (os : List Ov) (ρ : Bell.Env) (outs : List D) {i : Nat}, i ∉ ioOv os → (putOuts ρ os outs)[i]? = ρ[i]?
  | [], _, _, _, _ => by unfold putOuts; rfl
  | .d _ :: r, ρ, outs, i, h => by unfold putOuts; exact putOuts_out r ρ outs h
  | .s j false :: r, ρ, outs, i, h => by unfold putOuts; exact putOuts_out r ρ outs h
  | .s j true :: r, ρ, [], i, h => by unfold putOuts; exact putOuts_out r ρ [] fun z => h (List.mem_cons_of_mem _ z)
  | .s j true :: r, ρ, d :: outs, i, h => by
    unfold putOuts
    rw [putOuts_out r _ outs fun z => h (List.mem_cons_of_mem _ z), List.getElem?_set_ne fun e : j = i => h (by rw [e]; exact List.mem_cons_self)]
/-- the changed arguments behind the call -/
theorem put_in {S : Addr → Prop} : ∀ {sg : List Md} {vs : List V} {os : List Ov} {outs : List D} {ρ : Bell.Env} {S1 : Addr → Prop} {H1 : Hp}, Avs σ ms S1 H1 sg vs os → OutsOk S H' sg vs (FsOf F os) outs → (ioOv os).Nodup → (∀ i ∈ ioOv os, i < ρ.length) →
    ∀ i ∈ ioOv os, ∃ d v, (putOuts ρ os outs)[i]? = some (some d) ∧ σ[i]? = some (some v) ∧ Ow S H' (ms.getD i .fz) v d (F i)
  | _, _, _, _, _, _, _, .nil, _, _, _, i, hi => by cases hi
  | _, _, _, _, _, _, _, .d f r, o, nd, hl, i, hi => by
    cases o with
    | fz o => unfold putOuts; exact put_in r o nd hl i hi
    | io n _ _ => exact absurd rfl n
  | _, _, _, _, _, _, _, .b f r, o, nd, hl, i, hi => by
    cases o with
    | fz o => unfold putOuts; exact put_in r o nd hl i hi
    | io n _ _ => exact absurd rfl n
  | _, _, _, _, ρ, _, _, .io (i := j) hm he f r, o, nd, hl, i, hi => by
    cases o with
    | fz o => exact absurd rfl hm
    | io n w o =>
      rename_i d outs
      have nd' : j ∉ ioOv _ ∧ (ioOv _).Nodup := List.nodup_cons.mp nd
      unfold putOuts
      rcases List.mem_cons.mp hi with rfl | hi
      · refine ⟨d, _, ?_, f, by rw [he]; exact w⟩
        rw [putOuts_out _ _ _ nd'.1, List.getElem?_set_self (hl _ List.mem_cons_self)]
      · exact put_in r o nd'.2 (fun q hq => by rw [List.length_set]; exact hl q (List.mem_cons_of_mem _ hq)) i hi
theorem io_there (E : EnvOk c ms σ H ρ F) : ∀ {os : List Ov} {ds : List D}, ovDs ρ os = some ds → ∀ i ∈ ioOv os, ∃ d, ρ[i]? = some (some d)
  | [], _, _, i, hi => by cases hi
  | o :: r, ds, e, i, hi => by
    simp only [ovDs] at e
    split at e
    · rename_i d dss h1 h2
      cases o with
      | d _ => exact io_there E h2 i hi
      | s j io =>
        cases io with
        | false => exact io_there E h2 i hi
        | true =>
          rcases List.mem_cons.mp hi with rfl | hi
          · simp only [ovD] at h1
            split at h1
            · rename_i q; exact ⟨_, q⟩
            · cases h1
          · exact io_there E h2 i hi
    · cases e
theorem Fs_nodup (E : EnvOk c ms σ H ρ F) : ∀ {os : List Ov}, (ioOv os).Nodup → (FsOf F os).flatten.Nodup
  | [], _ => by simp [FsOf]
  | .d _ :: r, h => by simp only [FsOf, List.flatten_cons, List.nil_append]; exact Fs_nodup E (os := r) h
  | .s i false :: r, h => by simp only [FsOf, List.flatten_cons, List.nil_append]; exact Fs_nodup E (os := r) h
  | .s i true :: r, h => by
    simp only [FsOf, List.flatten_cons]
    have h' := List.nodup_cons.mp (show (i :: ioOv r).Nodup from h)
    refine List.nodup_append.mpr ⟨?_, Fs_nodup E h'.2, fun a ha b hb e => ?_⟩
    · by_cases q : ∃ d, ρ[i]? = some (some d)
      · obtain ⟨d, q⟩ := q
        obtain ⟨v, _, w⟩ := E.get q
        exact w.nodup
      · rw [E.nof i fun d z => q ⟨d, z⟩]; exact List.nodup_nil
    · subst e
      obtain ⟨j, hj, hb⟩ := mem_FsOf.mp hb
      exact h'.1 (E.dj i j a ha hb ▸ hj)
/-- the caller's state behind the call -/
theorem env_after (E : EnvOk c ms σ H ρ F) {sg : List Md} {vs : List V} {os : List Ov} {ds outs : List D} {S : Addr → Prop} (hS : ∀ a, sOf c F a → S a) (av : Avs σ ms (sOf c F) H sg vs os) (nd : (ioOv os).Nodup) (e : ovDs ρ os = some ds)
    (kp : ∀ b o, H b = some o → b ∉ (FsOf F os).flatten → H' b = some o) (oo : OutsOk S H' sg vs (FsOf F os) outs) :
    EnvOk c ms σ H' (putOuts ρ os outs) F ∧ Ext (sOf c F) H (sOf c F) H' := by
  have hsub : ∀ a, a ∈ (FsOf F os).flatten → sOf c F a := fun a ha => let ⟨i, _, h⟩ := mem_FsOf.mp ha; .inr ⟨i, h⟩
  have ex : Ext (sOf c F) H (sOf c F) H' := fun b o h n => ⟨.inl (kp b o h fun z => n (hsub b z)), n⟩
  have hl : ∀ i ∈ ioOv os, i < ρ.length := fun i hi => by
    obtain ⟨d, q⟩ := io_there E e i hi
    exact (List.getElem?_eq_some_iff.mp q).1
  refine ⟨⟨fun a h => let ⟨o, e, x, t⟩ := E.held a h; ⟨o, kp a o e fun z => ?_, x, t⟩, by rw [putOuts_length]; exact E.len, fun i d h => ?_, fun i h => ?_, E.dj, E.out, E.new, fun b o h n => ?_, E.pin, E.sl, c.TE _ _ _ _ E.tt ex⟩, ex⟩
  · obtain ⟨j, _, ha⟩ := mem_FsOf.mp z
    exact E.out j a ha h
  · by_cases hi : i ∈ ioOv os
    · obtain ⟨d', v, h1, h2, w⟩ := put_in (ρ := ρ) av oo nd hl i hi
      rw [h] at h1
      cases h1
      exact ⟨v, h2, w.ext (Ext.less hS) fun _ _ _ h => h⟩
    · rw [putOuts_out _ _ _ hi] at h
      obtain ⟨v, hv, w⟩ := E.get h
      refine ⟨v, hv, w.ext ex fun a o ha h => kp a o h fun z => ?_⟩
      obtain ⟨j, hj, ha'⟩ := mem_FsOf.mp z
      exact hi (E.dj i j a ha ha' ▸ hj)
  · by_cases hi : i ∈ ioOv os
    · obtain ⟨d', v, h1, _⟩ := put_in (ρ := ρ) av oo nd hl i hi
      exact absurd h1 (h d')
    · exact E.nof i fun d z => h d (by rw [putOuts_out _ _ _ hi]; exact z)
  · refine kp b o (E.keep b o h n) fun z => ?_
    obtain ⟨j, _, ha⟩ := mem_FsOf.mp z
    rcases E.new j b ha with q | q
    · exact n q
    · rw [h] at q; cases q
end
section
variable {X : Cx} {sc : Scope} {G : GI} {φ : Calls} {cls : Nat → Value} {k : Nat} {N : List Str} {W : WX} {c : Fc} {ms : List Md} {σ : L2.St} {H : Hp} {Q : VK} {ma : Bell.Env → Out (List Ov)}
/-- the call -/
theorem call_ok {f : Nat} {sg : List Md} (nd : ∀ ρ os ρ', ma ρ = .ok os ρ' → (ioOv os).Nodup) (h : RdG Fz ms W cls (fun ρ => (ma ρ).bind fun ovs ρ => match ovDs ρ ovs with
    | some ds => finCall ovs ρ (φ f ds)
    | none => .stuck) σ H Q) : RdV sg ms W cls ma σ H (fun vs H1 => spOf sg (φ f) cls vs H1 Q fun cl d H' => W cl d σ H') := by
  obtain ⟨c, ρ, F, E, p⟩ := h
  refine ⟨c, ρ, F, E, ?_⟩
  have p := Post.bind p
  cases qm : ma ρ with
  | stuck => rw [qm] at p; exact p
  | exc k ρ' => rw [qm] at p; exact p
  | ok os ρ1 =>
    rw [qm] at p
    intro H1 F1 E1 e1 vs av
    have p1 := p H1 F1 E1 e1
    dsimp only at p1
    have nd1 := nd ρ os ρ1 qm
    cases q : ovDs ρ1 os with
    | none => rw [q] at p1; exact p1.elim
    | some ds =>
      rw [q] at p1
      dsimp only at p1
      unfold finCall at p1
      by_cases hbi : (os.any isBor && os.any isIo) = true
      · rw [if_pos hbi] at p1; exact p1.elim
      rw [if_neg hbi] at p1
      have hsub : ∀ a, a ∈ (FsOf F1 os).flatten → sOf c F1 a := fun a ha => let ⟨i, _, h⟩ := mem_FsOf.mp ha; .inr ⟨i, h⟩
      have hB : ∀ a, a ∈ BsOf F1 os → a ∉ (FsOf F1 os).flatten := fun a ha hz => by
        have b1 : os.any isBor = true := by
          cases z : os.any isBor with
          | true => rfl
          | false => rw [BsOf_nil z] at ha; cases ha
        have b2 : os.any isIo = true := by
          cases z : os.any isIo with
          | true => rfl
          | false =>
            obtain ⟨i, hi, _⟩ := mem_FsOf.mp hz
            rw [ioOv_nil z] at hi; cases hi
        exact hbi (by rw [b1, b2]; rfl)
      have hS' : ∀ a, ((sOf c F1 a ∧ a ∉ (FsOf F1 os).flatten ∧ a ∉ BsOf F1 os) ∨ a ∈ (FsOf F1 os).flatten) → sOf c F1 a := fun a h => h.elim (·.1) (hsub a)
      refine ⟨fun a => sOf c F1 a ∧ a ∉ (FsOf F1 os).flatten ∧ a ∉ BsOf F1 os, ds, FsOf F1 os, fun a ha => ⟨ha.2.1, E1.domNT ha.1⟩, Fs_nodup E1 nd1, args_ok E1 hS' av q fun a ha h => ?_, ?_⟩
      · rcases h with h | h
        · exact h.2.2 ha
        · exact hB a ha h
      have back : os.any isBor = false → ∀ a, sOf c F1 a → ((sOf c F1 a ∧ a ∉ (FsOf F1 os).flatten ∧ a ∉ BsOf F1 os) ∨ a ∈ (FsOf F1 os).flatten) := fun hb a ha => by
        by_cases z : a ∈ (FsOf F1 os).flatten
        · exact .inr z
        · exact .inl ⟨ha, z, by rw [BsOf_nil hb]; simp⟩
      -- with borrowed things no argument is changed
      have after : ∀ {outs : List D} {H' : Hp}, (∀ b o, H1 b = some o → b ∉ (FsOf F1 os).flatten → H' b = some o) → OutsOk (fun a => (sOf c F1 a ∧ a ∉ (FsOf F1 os).flatten ∧ a ∉ BsOf F1 os) ∨ a ∈ (FsOf F1 os).flatten) H' sg vs (FsOf F1 os) outs →
          EnvOk c ms σ H' (putOuts ρ1 os outs) F1 ∧ Ext (sOf c F1) H1 (sOf c F1) H' := fun {outs H'} kp oo => by
        cases hb : os.any isBor with
        | false => exact env_after E1 (back hb) av nd1 q kp oo
        | true =>
          have hio : os.any isIo = false := by
            cases z : os.any isIo with
            | false => rfl
            | true => exact absurd (by rw [hb, z]; rfl) hbi
          have z : (FsOf F1 os).flatten = [] := by
            cases y : (FsOf F1 os).flatten with
            | nil => rfl
            | cons a r =>
              obtain ⟨i, hi, _⟩ := mem_FsOf.mp (show a ∈ (FsOf F1 os).flatten by rw [y]; exact List.mem_cons_self)
              rw [ioOv_nil hio] at hi; cases hi
          have sm : Same H1 H' := fun b o h => kp b o h (by rw [z]; simp)
          have e0 : putOuts ρ1 os outs = ρ1 := by
            refine List.ext_getElem? fun i => putOuts_out os ρ1 outs ?_
            rw [ioOv_nil hio]; simp
          rw [e0]
          exact ⟨E1.same sm, same_ext sm⟩
      cases qf : φ f ds with
      | stuck => rw [qf] at p1; exact p1.elim
      | exc k outs =>
        rw [qf] at p1
        exact fun H' kp oo => p1 H' F1 (after kp oo).1
      | ret d outs =>
        rw [qf] at p1
        dsimp only at p1
        intro v H' kp oo fv
        obtain ⟨E2, x2⟩ := after kp oo
        by_cases hbf : (os.any isBor && !flat d) = true
        · rw [if_pos hbf] at p1; exact p1.elim
        rw [if_neg hbf] at p1
        refine p1 H' F1 E2 x2 v ?_
        cases hb : os.any isBor with
        | false => exact fv.ext (Ext.less (back hb))
        | true =>
          have hf : flat d = true := by
            cases z : flat d with
            | true => rfl
            | false => exact absurd (by rw [hb, z]; rfl) hbf
          refine Fz.flat (fun a xs ha e => ?_) fv hf
          obtain ⟨o, e', t⟩ := E2.domNT ha
          rw [e] at e'
          cases e'
          exact t
theorem plain_back {pos : Pos} {env : PySem.Env} : ∀ {es : List Expr}, (∀ e ∈ es, nst e = true) → (backTo pos (starEach es env)).any (·.1) = false
  | [], _ => rfl
  | e :: es, h => by
    rw [star_cons (h e List.mem_cons_self)]
    show (false || (backTo pos (starEach es env)).any (·.1)) = false
    rw [plain_back fun a ha => h a (List.mem_cons_of_mem _ ha)]
    rfl
theorem e_call (C : Cg G φ cls k N X sc W) {f : Nat} {nm : Str} {sg : List Md} {p pos : Pos} {a : Expr} {as : List Expr} (hf : G.fn[f]? = some (nm, sg)) (hg : globB sc nm = true) (hn : okName nm = true) (ha : PA X (a :: as) (RdV sg ms W cls ma)) (hst : ∀ e ∈ a :: as, nst e = true)
    (nd : ∀ ρ os ρ', ma ρ = .ok os ρ' → (ioOv os).Nodup) :
    PE X (.Call (.Name nm p) (a :: as) [] pos) (RdG Fz ms W cls (fun ρ => (ma ρ).bind fun ovs ρ => match ovDs ρ ovs with
    | some ds => finCall ovs ρ (φ f ds)
    | none => .stuck)) := by
  obtain ⟨ad, fd, ps, hm, hk, hb, F⟩ := C.fns f nm sg hf
  exact PE.imp (pe_callS F C.room (C.agr.glob hg) hm hk hb (fun σ => passAt C.tk σ) ha (okName_d hn) (star_cons (hst a List.mem_cons_self)) (plain_back fun e he => hst e (List.mem_cons_of_mem _ he))) fun σ H Q h => call_ok nd h
end
end Bell
set_option Elab.async false
set_option linter.all false
set_option maxRecDepth 100000
set_option autoImplicit false
/-! What is walked; targets; comprehensions. -/
namespace Bell
open PySem PySem.Spec PyProof.Rows L2

/-- an iterator that gives the items xs while T holds -/
structure Wk (J : It) (xs : List D) (T : (Addr → Prop) → Hp → Prop) : Prop where
  ext : ∀ S H S' H', T S H → Ext S H S' H' → T S' H'
  go : ∀ S H i, T S H → i < xs.length → J.go i H
  stop : ∀ S H i, T S H → xs.length ≤ i → J.stop i H
  yld : ∀ S H i x H', T S H → Dom S H → i < xs.length → J.yld i H x H' → Same H H' ∧ ∃ d, xs[i]? = some d ∧ Fz S H' x d
theorem wk_list {K : PySem.W.Frag} (a : Addr) (ds : List D) : Wk (Itl K a) ds (fun S H => Fz S H (.ref a) (.lst ds)) where
  ext := fun S H S' H' t e => t.ext e
  go := fun S H i t hi => by
    cases t with
    | lst n h f =>
      obtain ⟨v, hv, _⟩ := f.get (List.getElem?_eq_getElem hi)
      exact ⟨_, v, SqL.of h, hv⟩
  stop := fun S H i t hi => by
    cases t with
    | lst n h f => exact ⟨_, SqL.of h, by rw [f.length]; exact hi⟩
  yld := fun S H i x H' t _ _ y => by
    cases t with
    | lst n h f =>
      obtain ⟨rfl, y⟩ := y
      obtain ⟨d, e, w⟩ := f.getV (y _ (SqL.of h))
      exact ⟨Same.refl _, d, e, w⟩
theorem wk_scr {K : PySem.W.Frag} (a : Addr) (ns : List Int) : Wk (Itl K a) (ns.map .int) (fun S H => Fz S H (.ref a) (.scr ns)) where
  ext := fun S H S' H' t e => t.ext e
  go := fun S H i t hi => by
    cases t with
    | scr n h =>
      have hi' : i < (ns.map V.int).length := by rw [List.length_map] at hi ⊢; exact hi
      exact ⟨_, _, .inl (.inr ⟨_, h⟩), List.getElem?_eq_getElem hi'⟩
  stop := fun S H i t hi => by
    cases t with
    | scr n h => exact ⟨_, .inl (.inr ⟨_, h⟩), by rw [List.length_map] at hi ⊢; exact hi⟩
  yld := fun S H i x H' t _ _ y => by
    cases t with
    | scr n h =>
      obtain ⟨rfl, y⟩ := y
      have f : FzL S H' (ns.map V.int) (ns.map D.int) := FzL.of_ints ns
      obtain ⟨d, e, w⟩ := f.getV (y _ (.inl (.inr ⟨_, h⟩)))
      exact ⟨Same.refl _, d, e, w⟩
theorem wk_tup {K : PySem.W.Frag} (a : Addr) (ds : List D) : Wk (Itt K a) ds (fun S H => Fz S H (.ref a) (.tup ds)) where
  ext := fun S H S' H' t e => t.ext e
  go := fun S H i t hi => by
    cases t with
    | tup n h f =>
      obtain ⟨v, hv, _⟩ := f.get (List.getElem?_eq_getElem hi)
      exact ⟨_, v, SqT.of h, hv⟩
  stop := fun S H i t hi => by
    cases t with
    | tup n h f => exact ⟨_, SqT.of h, by rw [f.length]; exact hi⟩
  yld := fun S H i x H' t _ _ y => by
    cases t with
    | tup n h f =>
      obtain ⟨rfl, y⟩ := y
      obtain ⟨d, e, w⟩ := f.getV (y _ (SqT.of h))
      exact ⟨Same.refl _, d, e, w⟩
theorem rngD_length (a : Int) (n : Nat) (c : Int) : (rngD a n c).length = n := by unfold rngD; rw [List.length_map, List.length_range]
theorem wk_rng (lo : Int) (n : Nat) : Wk (Itr lo n) (rngD lo n 1) (fun _ _ => True) where
  ext := fun _ _ _ _ _ _ => trivial
  go := fun S H i _ hi => by rw [rngD_length] at hi; exact hi
  stop := fun S H i _ hi => by rw [rngD_length] at hi; exact hi
  yld := fun S H i x H' _ _ hi y => by
    obtain ⟨rfl, rfl⟩ := y
    rw [rngD_length] at hi
    refine ⟨Same.refl _, .int (lo + (i : Int) * 1), ?_, ?_⟩
    · unfold rngD
      rw [List.getElem?_map, List.getElem?_range hi]
      rfl
    · rw [Int.mul_one]
      exact .int _

theorem wk_rngC (lo c : Int) (n : Nat) : Wk (Itc lo c n) (rngD lo n c) (fun _ _ => True) where
  ext := fun _ _ _ _ _ _ => trivial
  go := fun S H i _ hi => by rw [rngD_length] at hi; exact hi
  stop := fun S H i _ hi => by rw [rngD_length] at hi; exact hi
  yld := fun S H i x H' _ _ hi y => by
    obtain ⟨rfl, rfl⟩ := y
    rw [rngD_length] at hi
    refine ⟨Same.refl _, .int (lo + (i : Int) * c), ?_, .int _⟩
    unfold rngD
    rw [List.getElem?_map, List.getElem?_range hi]
    rfl
theorem rev_get {α : Type} {xs : List α} {i : Nat} (h : i < xs.length) : xs.reverse[i]? = xs[xs.length - 1 - i]? := by
  rw [List.getElem?_reverse h]
theorem wk_revl {K : PySem.W.Frag} (a : Addr) (ds : List D) : Wk (Itv K a ds.length) ds.reverse (fun S H => Fz S H (.ref a) (.lst ds)) where
  ext := fun S H S' H' t e => t.ext e
  go := fun S H i t hi => by
    rw [List.length_reverse] at hi
    cases t with
    | lst n h f =>
      obtain ⟨v, hv, _⟩ := f.get (List.getElem?_eq_getElem (show ds.length - 1 - i < ds.length by omega))
      exact ⟨hi, _, v, SqL.of h, hv⟩
  stop := fun S H i t hi => by rw [List.length_reverse] at hi; exact hi
  yld := fun S H i x H' t _ hi y => by
    rw [List.length_reverse] at hi
    cases t with
    | lst n h f =>
      obtain ⟨rfl, y⟩ := y
      obtain ⟨d, e, w⟩ := f.getV (y _ (SqL.of h))
      exact ⟨Same.refl _, d, by rw [rev_get hi]; exact e, w⟩
theorem wk_revt {K : PySem.W.Frag} (a : Addr) (ds : List D) : Wk (RT.ItvT K a ds.length) ds.reverse (fun S H => Fz S H (.ref a) (.tup ds)) where
  ext := fun S H S' H' t e => t.ext e
  go := fun S H i t hi => by
    rw [List.length_reverse] at hi
    cases t with
    | tup n h f =>
      obtain ⟨v, hv, _⟩ := f.get (List.getElem?_eq_getElem (show ds.length - 1 - i < ds.length by omega))
      exact ⟨hi, _, v, SqT.of h, hv⟩
  stop := fun S H i t hi => by rw [List.length_reverse] at hi; exact hi
  yld := fun S H i x H' t _ hi y => by
    rw [List.length_reverse] at hi
    cases t with
    | tup n h f =>
      obtain ⟨rfl, y⟩ := y
      obtain ⟨d, e, w⟩ := f.getV (y _ (SqT.of h))
      exact ⟨Same.refl _, d, by rw [rev_get hi]; exact e, w⟩
theorem FzK.keyAt {S : Addr → Prop} {H : Hp} : ∀ {kvs : List (Key × V)} {es : List (D × D)} {i : Nat} {k : Key} {v : V}, FzK S H kvs es → kvs[i]? = some (k, v) → (es.map (·.1))[i]? = some (kD k)
  | _, _, _, _, _, .nil, e => by simp at e
  | _, _, 0, _, _, .cons _ _, e => by cases e; rfl
  | _, _, i + 1, _, _, .cons _ t, e => FzK.keyAt (i := i) t (by simpa using e)
theorem FzT.keyAt {S : Addr → Prop} {H : Hp} : ∀ {kvs : List (List Key × V)} {es : List (D × D)} {i : Nat} {k : List Key} {v : V}, FzT S H kvs es → kvs[i]? = some (k, v) → (es.map (·.1))[i]? = some (tD k)
  | _, _, _, _, _, .nil, e => by simp at e
  | _, _, 0, _, _, .cons _ _, e => by cases e; rfl
  | _, _, i + 1, _, _, .cons _ t, e => FzT.keyAt (i := i) t (by simpa using e)
theorem fz_key {S : Addr → Prop} {H : Hp} (k : Key) : Fz S H (kV k) (kD k) := by
  cases k
  · exact .int _
  · exact .str _
theorem fz_keys {S : Addr → Prop} {H : Hp} : ∀ ks : List Key, FzL S H (ks.map kV) (ks.map kD)
  | [] => .nil
  | k :: ks => .cons (fz_key k) (fz_keys ks)
/-- the keys of a locked dict -/
theorem wk_keys {a : Addr} {o : Obj} {kvs : List (Key × V)} {es : List (D × D)} : Wk (Itk a o kvs) (es.map (·.1)) (fun S H => (H a = some (.frz o (.dK kvs)) ∧ ¬ S a) ∧ FzK S H kvs es) where
  ext := fun S H S' H' t e => ⟨⟨(e _ _ t.1.1 t.1.2).1.eq fun z => z, (e _ _ t.1.1 t.1.2).2⟩, t.2.ext e⟩
  go := fun S H i t hi => ⟨t.1.1, by rw [List.length_map, ← t.2.length] at hi; exact hi⟩
  stop := fun S H i t hi => ⟨t.1.1, by rw [List.length_map, ← t.2.length] at hi; exact hi⟩
  yld := fun S H i x H' t _ _ y => by
    obtain ⟨rfl, k, v, hk, rfl⟩ := y
    exact ⟨Same.refl _, kD k, t.2.keyAt hk, fz_key k⟩
theorem wk_keysT {a : Addr} {o : Obj} {kvs : List (List Key × V)} {es : List (D × D)} : Wk (Itkt a o kvs) (es.map (·.1)) (fun S H => (H a = some (.frz o (.dT kvs)) ∧ ¬ S a) ∧ FzT S H kvs es) where
  ext := fun S H S' H' t e => ⟨⟨(e _ _ t.1.1 t.1.2).1.eq fun z => z, (e _ _ t.1.1 t.1.2).2⟩, t.2.ext e⟩
  go := fun S H i t hi => ⟨t.1.1, by rw [List.length_map, ← t.2.length] at hi; exact hi⟩
  stop := fun S H i t hi => ⟨t.1.1, by rw [List.length_map, ← t.2.length] at hi; exact hi⟩
  yld := fun S H i x H' t dm _ y => by
    obtain ⟨rfl, k, v, q, hk, rfl, hq⟩ := y
    refine ⟨Same.refl _, tD k, t.2.keyAt hk, .tup (fun z => ?_) hq (fz_keys k)⟩
    obtain ⟨o, e, nt⟩ := dm q z
    rw [hq] at e
    cases e
    exact nt
def itemsM (ik : IK) (ds : List D) (ρ : Bell.Env) : Out (List D) := match items ik ds with
  | some xs => .ok xs ρ
  | none => .stuck
/-- what is walked, by trees -/
def RdW (ms : List Md) (W : WX) (cls : Nat → Value) (ik : IK) (ml : Bell.Env → Out (List D)) : TI := fun σ H R =>
  ∃ (c : Fc) (ρ : Bell.Env) (F : Nat → List Addr), EnvOk c ms σ H ρ F ∧ Post c ms W cls σ (sOf c F) H (fun xs _ H' F' => ∀ J T, Wk J xs T → T (sOf c F') H' → R J H') ((ml ρ).bind fun ds ρ => itemsM ik ds ρ)
theorem PI.imp {X : Cx} {tg e : Expr} {t t' : TI} (h : PI X tg e t) (i : ∀ σ H R, t' σ H R → t σ H R) : PI X tg e t' := ⟨fun pins s σ H R I q => h.run pins s σ H R I (i _ _ _ q)⟩
section
variable {X : Cx} {a b e tg : Expr} {pos p : Pos} {sc : Scope}
variable {G : GI} {φ : Calls} {cls : Nat → Value} {k : Nat} {N : List Str} {W : WX} {c : Fc} {ms : List Md} {ma mb : Bell.Env → Out D} {σ : L2.St} {H : Hp} {R : It → Hp → Prop}
def one (ma : Bell.Env → Out D) (ρ : Bell.Env) : Out (List D) := (ma ρ).bind fun d ρ => .ok [d] ρ
def two (ma mb : Bell.Env → Out D) (ρ : Bell.Env) : Out (List D) := (ma ρ).bind fun d ρ => (mb ρ).bind fun e ρ => .ok [d, e] ρ
theorem one_ok {P : List D → Bell.Env → Hp → (Nat → List Addr) → Prop} {S : Addr → Prop} {ik : IK} {ρ : Bell.Env} (p : Post c ms W cls σ S H P ((one ma ρ).bind fun ds ρ => itemsM ik ds ρ)) :
    Post c ms W cls σ S H (fun d ρ' H' F' => Post c ms W cls σ (sOf c F') H' P (itemsM ik [d] ρ')) (ma ρ) := by
  unfold one at p
  cases q : ma ρ with
  | ok d ρ' =>
    rw [q] at p
    exact fun H' F' E e => Post.later (x := itemsM ik [d] ρ') p e
  | exc _ _ => rw [q] at p; exact p
  | stuck => rw [q] at p; exact p
theorem two_ok {P : List D → Bell.Env → Hp → (Nat → List Addr) → Prop} {S : Addr → Prop} {ik : IK} {ρ : Bell.Env} (p : Post c ms W cls σ S H P ((two ma mb ρ).bind fun ds ρ => itemsM ik ds ρ)) :
    Post c ms W cls σ S H (fun d ρ' H' F' => Post c ms W cls σ (sOf c F') H' (fun e ρ'' H'' F'' => Post c ms W cls σ (sOf c F'') H'' P (itemsM ik [d, e] ρ'')) (mb ρ')) (ma ρ) := by
  unfold two at p
  cases q : ma ρ with
  | ok d ρ' =>
    rw [q] at p
    intro H' F' E e
    have p : Post c ms W cls σ S H P (((mb ρ').bind fun e ρ => .ok [d, e] ρ).bind fun ds ρ => itemsM ik ds ρ) := p
    cases r : mb ρ' with
    | ok d2 ρ2 =>
      rw [r] at p
      exact fun H'' F'' E' e' => Post.later (x := itemsM ik [d, d2] ρ2) p (e.trans e')
    | exc _ _ => rw [r] at p; exact p
    | stuck => rw [r] at p; exact p
  | exc _ _ => rw [q] at p; exact p
  | stuck => rw [q] at p; exact p
theorem items_some {P : List D → Bell.Env → Hp → (Nat → List Addr) → Prop} {S : Addr → Prop} {ik : IK} {ds : List D} {ρ : Bell.Env} (p : Post c ms W cls σ S H P (itemsM ik ds ρ)) : ∃ xs, items ik ds = some xs ∧ Post c ms W cls σ S H P (.ok xs ρ) := by
  unfold itemsM at p
  split at p
  · exact ⟨_, by assumption, p⟩
  · exact p.elim
theorem i_lst (ha : PE X a (RdG Fz ms W cls ma)) : PI X tg a (RdW ms W cls .lst (one ma)) := by
  refine PI.imp (pi_list ha) fun σ H R ⟨c, ρ, F, E, p⟩ => ⟨c, ρ, F, E, (one_ok p).mono fun d ρ1 H1 F1 E1 e1 p1 v fv => ?_⟩
  obtain ⟨xs, ex, p2⟩ := items_some p1
  cases d <;> simp only [items, reduceCtorEq, Option.some.injEq] at ex
  subst ex
  have fv' := fv
  cases fv with
  | lst n h f => exact ⟨_, rfl, ⟨_, SqL.of h⟩, p2 H1 F1 E1 (Ext.refl _ _) _ _ (wk_list _ _) fv'⟩
theorem i_scr (ha : PE X a (RdG Fz ms W cls ma)) : PI X tg a (RdW ms W cls .scr (one ma)) := by
  refine PI.imp (pi_list ha) fun σ H R ⟨c, ρ, F, E, p⟩ => ⟨c, ρ, F, E, (one_ok p).mono fun d ρ1 H1 F1 E1 e1 p1 v fv => ?_⟩
  obtain ⟨xs, ex, p2⟩ := items_some p1
  cases d <;> simp only [items, reduceCtorEq, Option.some.injEq] at ex
  subst ex
  have fv' := fv
  cases fv with
  | scr n h => exact ⟨_, rfl, ⟨_, .inl (.inr ⟨_, h⟩)⟩, p2 H1 F1 E1 (Ext.refl _ _) _ _ (wk_scr _ _) fv'⟩
theorem i_tup (ha : PE X a (RdG Fz ms W cls ma)) : PI X tg a (RdW ms W cls .tup (one ma)) := by
  refine PI.imp (pi_tup ha) fun σ H R ⟨c, ρ, F, E, p⟩ => ⟨c, ρ, F, E, (one_ok p).mono fun d ρ1 H1 F1 E1 e1 p1 v fv => ?_⟩
  obtain ⟨xs, ex, p2⟩ := items_some p1
  cases d <;> simp only [items, reduceCtorEq, Option.some.injEq] at ex
  subst ex
  have fv' := fv
  cases fv with
  | tup n h f => exact ⟨_, rfl, ⟨_, SqT.of h⟩, p2 H1 F1 E1 (Ext.refl _ _) _ _ (wk_tup _ _) fv'⟩
theorem rngOk_iff {a b : Int} (h : rngOk a b = true) : -(2 ^ 62) ≤ a ∧ a < 2 ^ 62 ∧ -(2 ^ 62) ≤ b ∧ b < 2 ^ 62 := by
  simp only [rngOk, Bool.and_eq_true, decide_eq_true_eq] at h
  exact ⟨h.1.1.1, h.1.1.2, h.1.2, h.2⟩
theorem i_rng1 (C : Cg G φ cls k N X sc W) {f : Str} (ha : PE X a (RdG Fz ms W cls ma)) (h : (bi G sc f "range" && nst a) = true) : PI X tg (.Call (.Name f p) [a] [] pos) (RdW ms W cls .rng1 (one ma)) := by
  obtain ⟨h1, h2⟩ := and2 h
  obtain ⟨rfl, hg, hm⟩ := C.bi h1
  refine PI.imp (pi_range1 hg hm (pa_cons ha pa_nil (star_cons h2)) (star_cons h2)) fun σ H R ⟨c, ρ, F, E, p⟩ => ⟨c, ρ, F, E, (one_ok p).mono fun d ρ1 H1 F1 E1 e1 p1 v fv => ?_⟩
  obtain ⟨xs, ex, p2⟩ := items_some p1
  cases d <;> simp only [items, reduceCtorEq, Option.some.injEq] at ex
  rename_i n
  split at ex
  · rename_i hz
    cases ex
    cases fv
    obtain ⟨z1, z2, z3, z4⟩ := rngOk_iff hz
    exact ⟨n, rfl, z3, z4, p2 H1 F1 E1 (Ext.refl _ _) _ _ (wk_rng 0 n.toNat) trivial⟩
  · cases ex
theorem i_rng2 (C : Cg G φ cls k N X sc W) {f : Str} (ha : PE X a (RdG Fz ms W cls ma)) (hb : PE X b (RdG Fz ms W cls mb)) (h : (bi G sc f "range" && (nst a && nst b)) = true) : PI X tg (.Call (.Name f p) [a, b] [] pos) (RdW ms W cls .rng2 (two ma mb)) := by
  obtain ⟨h1, h2⟩ := and2 h
  obtain ⟨h2, h3⟩ := and2 h2
  obtain ⟨rfl, hg, hm⟩ := C.bi h1
  refine PI.imp (pi_range2 hg hm (pa_cons ha (pa_cons hb pa_nil (star_cons h3)) (star_cons h2)) (by rw [star_cons h2, star_cons h3]; rfl) (by rw [star_cons h3]; rfl)) fun σ H R ⟨c, ρ, F, E, p⟩ => ⟨c, ρ, F, E, (two_ok p).mono fun d ρ1 H1 F1 E1 e1 p1 v fv => ⟨c, ρ1, F1, E1, p1.mono fun e ρ2 H2 F2 E2 e2 p2 w fw => ?_⟩⟩
  obtain ⟨xs, ex, p3⟩ := items_some p2
  cases d <;> cases e <;> simp only [items, reduceCtorEq, Option.some.injEq] at ex
  rename_i i j
  split at ex
  · rename_i hz
    cases ex
    cases fv
    cases fw
    obtain ⟨z1, z2, z3, z4⟩ := rngOk_iff hz
    exact ⟨i, j, rfl, ⟨z1, z2, z3, z4⟩, p3 H2 F2 E2 (Ext.refl _ _) _ _ (wk_rng i (j - i).toNat) trivial⟩
  · cases ex
theorem i_rev (C : Cg G φ cls k N X sc W) {f : Str} (ha : PE X a (RdG Fz ms W cls ma)) (h : (bi G sc f "reversed" && nst a) = true) : PI X tg (.Call (.Name f p) [a] [] pos) (RdW ms W cls .rev (one ma)) := by
  obtain ⟨h1, h2⟩ := and2 h
  obtain ⟨rfl, hg, hm⟩ := C.bi h1
  refine PI.imp (RT.pi_revA hg hm ha (star_cons h2)) fun σ H R ⟨c, ρ, F, E, p⟩ => ⟨c, ρ, F, E, (one_ok p).mono fun d ρ1 H1 F1 E1 e1 p1 v fv => ?_⟩
  obtain ⟨xs, ex, p2⟩ := items_some p1
  cases d <;> simp only [items, reduceCtorEq, Option.some.injEq] at ex
  · subst ex
    have fv' := fv
    cases fv with
    | lst n h f => exact ⟨_, _, rfl, .inl ⟨SqL.of h, p2 H1 F1 E1 (Ext.refl _ _) _ _ (by rw [f.length]; exact wk_revl _ _) fv'⟩⟩
  · subst ex
    have fv' := fv
    cases fv with
    | tup n h f => exact ⟨_, _, rfl, .inr ⟨SqT.of h, p2 H1 F1 E1 (Ext.refl _ _) _ _ (by rw [f.length]; exact wk_revt _ _) fv'⟩⟩
end

/-! ### targets -/
section
variable {c : Fc} {ms : List Md} {σ : L2.St} {H : Hp} {ρ ρ' : Bell.Env} {F : Nat → List Addr}
/-- a slot that holds what stands is stored -/
theorem EnvOk.set (E : EnvOk c ms σ H ρ F) {i : Nat} {v : V} {d : D} (hm : ms.getD i .fz = .fz) (hi : i < σ.length) (f : Fz (sOf c F) H v d) : EnvOk c ms (σ.set i (some v)) H (ρ.set i (some d)) F := by
  have hF : F i = [] := by
    by_cases q : ∃ d, ρ[i]? = some (some d)
    · obtain ⟨d', q⟩ := q
      obtain ⟨v', _, w⟩ := E.get q
      rw [hm] at w
      exact w.unfz.2
    · exact E.nof i fun d z => q ⟨d, z⟩
  refine ⟨E.held, by rw [List.length_set, List.length_set]; exact E.len, fun j d' h => ?_, fun j h => ?_, E.dj, E.out, E.new, E.keep, fun p hp => ?_, by rw [List.length_set]; exact E.sl, E.tt⟩
  · by_cases hj : i = j
    · subst hj
      rw [List.getElem?_set_self (by rw [E.len]; exact hi)] at h
      cases h
      exact ⟨v, List.getElem?_set_self hi, by rw [hm, hF]; exact .fz f⟩
    · rw [List.getElem?_set_ne hj] at h
      rw [List.getElem?_set_ne hj]
      exact E.slot j d' h
  · by_cases hj : i = j
    · subst hj; exact hF
    · exact E.nof j fun d z => h d (by rw [List.getElem?_set_ne hj]; exact z)
  · obtain ⟨h1, h2, h3⟩ := E.pin p hp
    have : i ≠ p.1 := fun e => h3 (by rw [← e]; exact hm)
    exact ⟨by rw [List.getElem?_set_ne this]; exact h1, h2, h3⟩
end
def gTs : List Nat → TGs
  | [] => gNil
  | i :: is => gCons (gName i) (gTs is)
def gT (K : PySem.W.Frag) : Tg → TG
  | .n i => gName i
  | .t is => gTup K is.length (gTs is)
section
variable {X : Cx} {sc : Scope} {G : GI} {φ : Calls} {cls : Nat → Value} {k : Nat} {N : List Str} {W : WX} {c : Fc} {ms : List Md}
theorem g_one (C : Cg G φ cls k N X sc W) {i : Nat} {t : Expr} (h : mTn N sc i t = true) : PG X t (gName i) := by
  unfold mTn at h
  split at h
  · obtain ⟨h1, h2⟩ := and2 h
    exact pg_name (by rw [C.hN]; exact C.nd) (by rw [C.hN]; exact of_decide_eq_true h1) (C.agr.loc h2) (C.fnn _ h2)
  · cases h
theorem g_many (C : Cg G φ cls k N X sc W) : ∀ {is : List Nat} {ts : List Expr}, mTs N sc is ts = true → PGs X ts (gTs is) ∧ (assignEach ts X.env).length = is.length ∧ (assignEach ts X.env).findIdx? (·.1) = none
  | [], [], _ => ⟨pgs_nil, rfl, rfl⟩
  | [], _ :: _, h => by cases h
  | _ :: _, [], h => by cases h
  | i :: is, t :: ts, h => by
    obtain ⟨h1, h2⟩ := and2 h
    obtain ⟨a, b, e⟩ := g_many C h2
    have hn : ∃ x p, t = .Name x p := by
      unfold mTn at h1
      split at h1
      · exact ⟨_, _, rfl⟩
      · cases h1
    obtain ⟨x, p, rfl⟩ := hn
    have hs : assignEach (Expr.Name x p :: ts) X.env = (false, assign (.Name x p) X.env) :: assignEach ts X.env := rfl
    refine ⟨pgs_cons (g_one C h1) a, by rw [hs, List.length_cons, List.length_cons, b], ?_⟩
    rw [hs, List.findIdx?_cons]
    simp [e]
theorem g_tg (C : Cg G φ cls k N X sc W) {tg : Tg} {t : Expr} (h : mT N sc tg t = true) : PG X t (gT X.K tg) := by
  unfold mT at h
  split at h
  · exact g_one C h
  · obtain ⟨a, b, e⟩ := g_many C h
    exact pg_tup C.calm a b e
  · cases h
variable {σ : L2.St} {H : Hp} {ρ ρ' : Bell.Env} {F : Nat → List Addr}
theorem gTs_ok {Q : L2.St → Hp → Prop} : ∀ {is : List Nat} {vs : List V} {ds : List D} {σ : L2.St} {ρ : Bell.Env}, EnvOk c ms σ H ρ F → (∀ i ∈ is, ms.getD i .fz = .fz ∧ i < σ.length) → is.length = ds.length → FzL (sOf c F) H vs ds →
    (∀ σ', (∀ j, j ∉ is → σ'[j]? = σ[j]?) → EnvOk c ms σ' H ((is.zip ds).foldl (fun ρ p => ρ.set p.1 (some p.2)) ρ) F → Q σ' H) → gTs is vs σ H Q
  | [], _, _, σ, ρ, E, _, hl, f, q => by
    cases f with
    | nil => exact ⟨rfl, q σ (fun _ _ => rfl) E⟩
    | cons _ _ => cases hl
  | i :: is, _, _, σ, ρ, E, hm, hl, f, q => by
    cases f with
    | nil => cases hl
    | cons f1 f2 =>
      have z := hm i List.mem_cons_self
      refine ⟨_, _, rfl, gTs_ok (E.set z.1 z.2 f1) (fun j hj => ?_) (Nat.succ.inj hl) f2 fun σ' hk E' => q σ' (fun j hj => ?_) E'⟩
      · have z := hm j (List.mem_cons_of_mem _ hj)
        exact ⟨z.1, by rw [List.length_set]; exact z.2⟩
      · rw [hk j fun w => hj (List.mem_cons_of_mem _ w), List.getElem?_set_ne fun e : i = j => hj (by rw [e]; exact List.mem_cons_self)]
theorem gT_ok {K : PySem.W.Frag} {Q : L2.St → Hp → Prop} {tg : Tg} {v : V} {d : D} (E : EnvOk c ms σ H ρ F) (hm : ∀ i ∈ tgSlots tg, ms.getD i .fz = .fz ∧ i < σ.length) (hb : bindT tg d ρ = some ρ') (f : Fz (sOf c F) H v d)
    (q : ∀ σ', (∀ j, j ∉ tgSlots tg → σ'[j]? = σ[j]?) → EnvOk c ms σ' H ρ' F → Q σ' H) : gT K tg v σ H Q := by
  cases tg with
  | n i =>
    cases hb
    have z := hm i (List.mem_singleton.mpr rfl)
    exact q _ (fun j hj => List.getElem?_set_ne fun e : i = j => hj (by rw [e]; exact List.mem_singleton.mpr rfl)) (E.set z.1 z.2 f)
  | t is =>
    cases d with
    | tup ds =>
      simp only [bindT] at hb
      split at hb
      · rename_i hl
        cases hb
        cases f with
        | tup n h f => exact ⟨_, _, rfl, SqT.of h, by rw [f.length, hl], gTs_ok E hm hl f q⟩
      · cases hb
    | _ => cases hb
end
end Bell
set_option Elab.async false
set_option linter.all false
set_option maxRecDepth 100000
set_option autoImplicit false
/-! List comprehensions. -/
namespace Bell
open PySem PySem.Spec PyProof.Rows L2

theorem lookup_map_kind {f : Str × NameKind → Str × NameKind} (hf : ∀ p, (f p).1 = p.1) : ∀ (names : List (Str × NameKind)) (x : Str), (names.map f).lookup x = match names.find? (fun p => x == p.1) with
    | some p => some (f p).2
    | none => none
  | [], _ => rfl
  | p :: r, x => by
    rw [List.map_cons, List.find?_cons]
    obtain ⟨n, kd⟩ := p
    have e : f (n, kd) = (n, (f (n, kd)).2) := by
      have := hf (n, kd)
      exact Prod.ext this rfl
    rw [e, List.lookup_cons]
    cases hx : x == n with
    | true => simp
    | false => simp only [hx]; exact lookup_map_kind hf r x
theorem lookup_find : ∀ (names : List (Str × NameKind)) (x : Str), names.lookup x = match names.find? (fun p => x == p.1) with
    | some p => some p.2
    | none => none
  | [], _ => rfl
  | (n, kd) :: r, x => by
    rw [List.find?_cons, List.lookup_cons]
    cases hx : x == n with
    | true => simp
    | false => simp only [hx]; exact lookup_find r x
theorem agr_rel (scope : Scope) (env : PySem.Env) : Agr scope (relabel scope env) := by
  intro x kd h
  unfold relabel
  show ∃ k', (scope.names.map _).lookup x = some k' ∧ _
  rw [lookup_map_kind (fun p => by obtain ⟨n, k⟩ := p; dsimp only; split <;> rfl)]
  rw [lookup_find] at h
  split at h
  · rename_i p hp
    cases h
    refine ⟨_, rfl, ?_⟩
    obtain ⟨n, k⟩ := p
    dsimp only
    split
    · rename_i hc
      simp only [Bool.and_eq_true, beq_iff_eq] at hc
      exact .inr ⟨hc.1.1, rfl⟩
    · exact .inl rfl
  · cases h
section
variable {X : Cx} {sc scope : Scope} {G : GI} {φ : Calls} {cls : Nat → Value} {k : Nat} {N : List Str} {W : WX} {own : List (Str × Nat)}
theorem Cg.blk (C : Cg G φ cls k N X sc W) (s : Shared) (H : Hp) (Ca : Addr) (cl : List (Str × Addr)) (fp : List Addr) : Cg G φ cls k N (X.blk s H scope (compEnvC scope cl Ca X.env) fp) scope WF where
  hN := C.hN
  nd := C.nd
  agr := agr_rel scope X.env
  calm := C.calm
  tk := takes_none5
  room := C.room
  fns := C.fns
  cos := C.cos
  frs := C.frs
  fnn := fun x h => by
    unfold locB at h
    split at h
    · rename_i e
      obtain ⟨k', e', q⟩ := agr_rel scope X.env x _ e
      rcases q with q | ⟨q, _⟩
      · exact .inr (by rw [← q]; exact e')
      · cases q
    · rename_i e
      exact .inl (by show (scope.names.lookup x == some .cell) = true; rw [e]; rfl)
    · cases h
theorem Cg.blkOk (C : Cg G φ cls k N X sc W) (h : blkC N sc scope own = true) : BlkOk X.N X.env.scope scope own := by
  have b := blkOk_by h
  rw [C.hN]
  refine ⟨b.kind, b.uniq, b.ix, fun y hy e => ?_, b.own⟩
  rcases b.free y hy e with z | z
  · obtain ⟨k', e', q⟩ := C.agr _ _ z
    rcases q with q | ⟨q, _⟩
    · exact .inl (by rw [e', q])
    · cases q
  · obtain ⟨k', e', q⟩ := C.agr _ _ z
    rcases q with q | ⟨_, q⟩
    · exact .inr (by rw [e', q])
    · exact .inl (by rw [e', q])
end

/-! ### the frame with a list that grows beside it -/
def Fc.with (c : Fc) (D : Addr) (acc : List V) : Fc := { c with S0 := fun a => c.S0 a ∨ a = D, HS := upd c.HS D (.lst acc) }
section
variable {c : Fc} {ms : List Md} {σ : L2.St} {H H' : Hp} {ρ ρ0 ρ1 : Bell.Env} {F F0 : Nat → List Addr} {D : Addr} {acc acc2 : List V} {own : List Nat}
theorem sOf_with {a : Addr} : sOf (c.with D acc) F a ↔ sOf c F a ∨ a = D := by
  unfold sOf Fc.with
  constructor
  · rintro ((h | h) | h)
    · exact .inl (.inl h)
    · exact .inr h
    · exact .inl (.inr h)
  · rintro ((h | h) | h)
    · exact .inl (.inl h)
    · exact .inr h
    · exact .inl (.inr h)
theorem E_in (E : EnvOk c ms σ H ρ F) (hD : H D = none) : EnvOk (c.with D acc) ms σ (upd H D (.lst acc)) ρ F := by
  have ne : ∀ a o, H a = some o → a ≠ D := fun a o h => ne_of_none h hD
  have ex : Ext (sOf c F) H (sOf (c.with D acc) F) (upd H D (.lst acc)) := fun b o h n => ⟨.inl (by rw [upd_ne (ne b o h)]; exact h), fun z => (sOf_with.mp z).elim n (ne b o h)⟩
  refine ⟨fun a h => ?_, E.len, fun i d h => ?_, E.nof, E.dj, fun i a ha h => ?_, E.new, fun b o h n => ?_, E.pin, E.sl, c.TE _ _ _ _ E.tt ex⟩
  · rcases h with h | h
    · obtain ⟨o, e, x, t⟩ := E.held a h
      have n := ne a o e
      exact ⟨o, by rw [upd_ne n]; exact e, by show upd c.HS D _ a = _; rw [upd_ne n]; exact x, t⟩
    · rw [h]
      exact ⟨_, upd_same, upd_same, trivial⟩
  · obtain ⟨v, hv, w⟩ := E.slot i d h
    exact ⟨v, hv, w.ext ex fun a o _ e => by rw [upd_ne (ne a o e)]; exact e⟩
  · rcases h with h | h
    · exact E.out i a ha h
    · obtain ⟨o, e, _⟩ := E.domNT (.inr ⟨i, ha⟩)
      exact ne a o e h
  · have e := E.keep b o h n
    rw [upd_ne (ne b o e)]
    exact e
theorem E_acc (E : EnvOk (c.with D acc) ms σ H ρ F) (h0 : ∀ b o, c.H0 b = some o → b ∉ c.I0 → b ≠ D) : EnvOk (c.with D acc2) ms σ (upd H D (.lst acc2)) ρ F := by
  have ex : Ext (sOf (c.with D acc) F) H (sOf (c.with D acc2) F) (upd H D (.lst acc2)) := fun b o h n =>
    ⟨.inl (by rw [upd_ne fun e => n (sOf_with.mpr (.inr e))]; exact h), fun z => n (sOf_with.mpr (sOf_with.mp z))⟩
  refine ⟨fun a h => ?_, E.len, fun i d h => ?_, E.nof, E.dj, E.out, E.new, fun b o h n => ?_, E.pin, E.sl, c.TE _ _ _ _ E.tt ex⟩
  · by_cases ha : a = D
    · rw [ha]
      exact ⟨_, upd_same, upd_same, trivial⟩
    · obtain ⟨o, e, x, t⟩ := E.held a h
      have x' : c.HS a = some o := by
        have x : upd c.HS D (.lst acc) a = some o := x
        rwa [upd_ne ha] at x
      exact ⟨o, by rw [upd_ne ha]; exact e, by show upd c.HS D _ a = _; rw [upd_ne ha]; exact x', t⟩
  · obtain ⟨v, hv, w⟩ := E.slot i d h
    refine ⟨v, hv, w.ext ex fun a o ha e => ?_⟩
    rw [upd_ne fun z => E.out i a ha (.inr z)]
    exact e
  · rw [upd_ne (h0 b o h n)]
    exact E.keep b o h n
theorem E_out (E : EnvOk (c.with D acc) ms σ H ρ F) (hD : ¬ c.S0 D) : EnvOk c ms σ H ρ F := by
  refine ⟨fun a h => ?_, E.len, fun i d h => ?_, E.nof, E.dj, fun i a ha h => E.out i a ha (.inl h), E.new, E.keep, E.pin, E.sl, c.TE _ _ _ _ E.tt (Ext.less fun a h => sOf_with.mpr (.inl h))⟩
  · obtain ⟨o, e, x, t⟩ := E.held a (.inl h)
    have ha : a ≠ D := fun z => hD (z ▸ h)
    have x : upd c.HS D (.lst acc) a = some o := x
    rw [upd_ne ha] at x
    exact ⟨o, e, x, t⟩
  · obtain ⟨v, hv, w⟩ := E.slot i d h
    exact ⟨v, hv, w.ext (Ext.less fun a h => sOf_with.mpr (.inl h)) fun _ _ _ h => h⟩
/-- the frame with a new thing beside it -/
def Fc.hold (c : Fc) (D : Addr) (o : HO) : Fc := { c with S0 := fun a => c.S0 a ∨ a = D, HS := upd c.HS D o }
theorem sOf_hold {o : HO} {a : Addr} : sOf (c.hold D o) F a ↔ sOf c F a ∨ a = D := sOf_with (acc := [])
theorem H_in {o : HO} (E : EnvOk c ms σ H ρ F) (hD : H D = none) (nt : NT o) : EnvOk (c.hold D o) ms σ (upd H D o) ρ F := by
  have ne : ∀ a o, H a = some o → a ≠ D := fun a o h => ne_of_none h hD
  have ex : Ext (sOf c F) H (sOf (c.hold D o) F) (upd H D o) := fun b o h n => ⟨.inl (by rw [upd_ne (ne b o h)]; exact h), fun z => (sOf_hold.mp z).elim n (ne b o h)⟩
  refine ⟨fun a h => ?_, E.len, fun i d h => ?_, E.nof, E.dj, fun i a ha h => ?_, E.new, fun b o h n => ?_, E.pin, E.sl, c.TE _ _ _ _ E.tt ex⟩
  · rcases h with h | h
    · obtain ⟨o, e, x, t⟩ := E.held a h
      have n := ne a o e
      exact ⟨o, by rw [upd_ne n]; exact e, by show upd c.HS D _ a = _; rw [upd_ne n]; exact x, t⟩
    · rw [h]
      exact ⟨_, upd_same, upd_same, nt⟩
  · obtain ⟨v, hv, w⟩ := E.slot i d h
    exact ⟨v, hv, w.ext ex fun a o _ e => by rw [upd_ne (ne a o e)]; exact e⟩
  · rcases h with h | h
    · exact E.out i a ha h
    · obtain ⟨o, e, _⟩ := E.domNT (.inr ⟨i, ha⟩)
      exact ne a o e h
  · have e := E.keep b o h n
    rw [upd_ne (ne b o e)]
    exact e
theorem H_at {o : HO} (E : EnvOk (c.hold D o) ms σ H ρ F) : H D = some o := by
  obtain ⟨u, e, x, _⟩ := E.held D (.inr rfl)
  have x : upd c.HS D o D = some u := x
  rw [upd_same] at x
  cases x
  exact e
theorem H_drop {o : HO} (E : EnvOk (c.hold D o) ms σ H ρ F) (hD : ¬ c.S0 D) : EnvOk c ms σ H ρ F := by
  refine ⟨fun a h => ?_, E.len, fun i d h => ?_, E.nof, E.dj, fun i a ha h => E.out i a ha (.inl h), E.new, E.keep, E.pin, E.sl, c.TE _ _ _ _ E.tt (Ext.less fun a h => sOf_hold.mpr (.inl h))⟩
  · obtain ⟨u, e, x, t⟩ := E.held a (.inl h)
    have ha : a ≠ D := fun z => hD (z ▸ h)
    have x : upd c.HS D o a = some u := x
    rw [upd_ne ha] at x
    exact ⟨u, e, x, t⟩
  · obtain ⟨v, hv, w⟩ := E.slot i d h
    exact ⟨v, hv, w.ext (Ext.less fun a h => sOf_hold.mpr (.inl h)) fun _ _ _ h => h⟩
/-- the heap without one thing -/
noncomputable def del (H : Hp) (q : Addr) : Hp := open Classical in fun b => if b = q then none else H b
theorem del_same {H : Hp} {q : Addr} : del H q q = none := by unfold del; rw [if_pos rfl]
theorem del_ne {H : Hp} {q b : Addr} (h : b ≠ q) : del H q b = H b := by unfold del; rw [if_neg h]
theorem upd_del {H : Hp} {q : Addr} {o : HO} : upd (del H q) q o = upd H q o := by
  funext b
  by_cases h : b = q
  · rw [h, upd_same, upd_same]
  · rw [upd_ne h, upd_ne h, del_ne h]
theorem H_del {o : HO} (E : EnvOk (c.hold D o) ms σ H ρ F) (hD : ¬ c.S0 D) (h0 : ∀ b u, c.H0 b = some u → b ∉ c.I0 → b ≠ D) : EnvOk c ms σ (del H D) ρ F ∧ Ext (sOf (c.hold D o) F) H (sOf c F) (del H D) := by
  have nF : ∀ i a, a ∈ F i → a ≠ D := fun i a ha z => E.out i a ha (.inr z)
  have ex : Ext (sOf (c.hold D o) F) H (sOf c F) (del H D) := fun b u h n => ⟨.inl (by rw [del_ne fun z => n (sOf_hold.mpr (.inr z))]; exact h), fun z => n (sOf_hold.mpr (.inl z))⟩
  refine ⟨⟨fun a h => ?_, E.len, fun i d h => ?_, E.nof, E.dj, fun i a ha h => E.out i a ha (.inl h), E.new, fun b u h n => ?_, E.pin, E.sl, c.TE _ _ _ _ E.tt ex⟩, ex⟩
  · obtain ⟨u, e, x, t⟩ := E.held a (.inl h)
    have ha : a ≠ D := fun z => hD (z ▸ h)
    have x : upd c.HS D o a = some u := x
    rw [upd_ne ha] at x
    exact ⟨u, by rw [del_ne ha]; exact e, x, t⟩
  · obtain ⟨v, hv, w⟩ := E.slot i d h
    exact ⟨v, hv, w.ext ex fun a u ha e => by rw [del_ne (nF i a ha)]; exact e⟩
  · rw [del_ne (h0 b u h n)]
    exact E.keep b u h n
/-- the thing beside it is set free, as it is written then -/
theorem H_out {o o' : HO} (E : EnvOk (c.hold D o) ms σ H ρ F) (hD : ¬ c.S0 D) (h0 : ∀ b u, c.H0 b = some u → b ∉ c.I0 → b ≠ D) : EnvOk c ms σ (upd H D o') ρ F ∧ Ext (sOf (c.hold D o) F) H (sOf c F) (upd H D o') ∧ ¬ sOf c F D := by
  have nF : ∀ i a, a ∈ F i → a ≠ D := fun i a ha z => E.out i a ha (.inr z)
  have ex : Ext (sOf (c.hold D o) F) H (sOf c F) (upd H D o') := fun b u h n => ⟨.inl (by rw [upd_ne fun z => n (sOf_hold.mpr (.inr z))]; exact h), fun z => n (sOf_hold.mpr (.inl z))⟩
  refine ⟨⟨fun a h => ?_, E.len, fun i d h => ?_, E.nof, E.dj, fun i a ha h => E.out i a ha (.inl h), E.new, fun b u h n => ?_, E.pin, E.sl, c.TE _ _ _ _ E.tt ex⟩, ex, fun z => ?_⟩
  · obtain ⟨u, e, x, t⟩ := E.held a (.inl h)
    have ha : a ≠ D := fun z => hD (z ▸ h)
    have x : upd c.HS D o a = some u := x
    rw [upd_ne ha] at x
    exact ⟨u, by rw [upd_ne ha]; exact e, x, t⟩
  · obtain ⟨v, hv, w⟩ := E.slot i d h
    exact ⟨v, hv, w.ext ex fun a u ha e => by rw [upd_ne (nF i a ha)]; exact e⟩
  · rw [upd_ne (h0 b u h n)]
    exact E.keep b u h n
  · rcases z with z | ⟨i, z⟩
    · exact hD z
    · exact nF i D z rfl
theorem wipeE_length : ∀ (ρ : Bell.Env) (l : List Nat), (wipeE ρ l).length = ρ.length
  | _, [] => rfl
  | ρ, i :: l => by unfold wipeE; rw [List.length_set, wipeE_length ρ l]
theorem wipeE_out {ρ : Bell.Env} {i : Nat} : ∀ {l : List Nat}, i ∉ l → (wipeE ρ l)[i]? = ρ[i]?
  | [], _ => rfl
  | j :: l, h => by
    unfold wipeE
    rw [List.getElem?_set_ne fun e : j = i => h (by rw [e]; exact List.mem_cons_self), wipeE_out fun z => h (List.mem_cons_of_mem _ z)]
theorem wipeE_in {ρ : Bell.Env} {i : Nat} {d : Bell.D} : ∀ {l : List Nat}, i ∈ l → (wipeE ρ l)[i]? ≠ some (some d)
  | j :: l, h => by
    unfold wipeE
    by_cases e : j = i
    · subst e
      by_cases hi : j < (wipeE ρ l).length
      · rw [List.getElem?_set_self hi]; intro z; cases z
      · rw [List.getElem?_eq_none (by rw [List.length_set]; omega)]; intro z; cases z
    · rw [List.getElem?_set_ne e]
      rcases List.mem_cons.mp h with z | z
      · exact absurd z.symm e
      · exact wipeE_in z
theorem E_wipe (E : EnvOk c ms σ H ρ F) (ho : ∀ i ∈ own, ms.getD i .fz = .fz) : EnvOk c ms (wipe σ own) H (wipeE ρ own) F := by
  refine ⟨E.held, by rw [wipeE_length, wipe_length]; exact E.len, fun i d h => ?_, fun i h => ?_, E.dj, E.out, E.new, E.keep, fun p hp => ?_, by rw [wipe_length]; exact E.sl, E.tt⟩
  · by_cases hi : i ∈ own
    · exact absurd h (wipeE_in hi)
    · rw [wipeE_out hi] at h
      rw [wipe_out hi]
      exact E.slot i d h
  · by_cases hi : i ∈ own
    · by_cases q : ∃ d, ρ[i]? = some (some d)
      · obtain ⟨d', q⟩ := q
        obtain ⟨v', _, w⟩ := E.get q
        rw [ho i hi] at w
        exact w.unfz.2
      · exact E.nof i fun d z => q ⟨d, z⟩
    · exact E.nof i fun d z => h d (by rw [wipeE_out hi]; exact z)
  · obtain ⟨h1, h2, h3⟩ := E.pin p hp
    exact ⟨by rw [wipe_out fun z => h3 (ho _ z)]; exact h1, h2, h3⟩
theorem restE_length : ∀ (ρ0 ρ : Bell.Env) (l : List Nat), (restE ρ0 ρ l).length = ρ.length
  | _, _, [] => rfl
  | ρ0, ρ, i :: l => by unfold restE; rw [List.length_set, restE_length ρ0 ρ l]
theorem restE_out {ρ0 ρ : Bell.Env} {i : Nat} : ∀ {l : List Nat}, i ∉ l → (restE ρ0 ρ l)[i]? = ρ[i]?
  | [], _ => rfl
  | j :: l, h => by
    unfold restE
    rw [List.getElem?_set_ne fun e : j = i => h (by rw [e]; exact List.mem_cons_self), restE_out fun z => h (List.mem_cons_of_mem _ z)]
theorem restE_in {ρ0 ρ : Bell.Env} {i : Nat} (hi : i < ρ.length) : ∀ {l : List Nat}, i ∈ l → (restE ρ0 ρ l)[i]? = some (ρ0.getD i none)
  | j :: l, h => by
    unfold restE
    by_cases e : j = i
    · subst e
      rw [List.getElem?_set_self (by rw [restE_length]; exact hi)]
    · rw [List.getElem?_set_ne e]
      rcases List.mem_cons.mp h with z | z
      · exact absurd z.symm e
      · exact restE_in hi z
/-- back out of the block -/
theorem E_rest (E0 : EnvOk c ms σ H ρ0 F0) (E : EnvOk c ms (wipe σ own) H' (wipeE ρ1 own) F) (ho : ∀ i ∈ own, ms.getD i .fz = .fz) (x : Ext (sOf c F0) H (sOf c F) H') : EnvOk c ms σ H' (restE ρ0 ρ1 own) F := by
  have hl : ρ1.length = σ.length := by
    have := E.len
    rwa [wipeE_length, wipe_length] at this
  have hF : ∀ i ∈ own, F i = [] := fun i hi => E.nof i fun d z => wipeE_in hi z
  refine ⟨E.held, by rw [restE_length]; exact hl, fun i d h => ?_, fun i h => ?_, E.dj, E.out, E.new, E.keep, fun p hp => ?_, E0.sl, E.tt⟩
  · by_cases hi : i ∈ own
    · have hlt : i < ρ1.length := by
        have := (List.getElem?_eq_some_iff.mp h).1
        rwa [restE_length] at this
      rw [restE_in hlt hi] at h
      have h0 : ρ0[i]? = some (some d) := by
        have h' : ρ0.getD i none = some d := Option.some.inj h
        rw [List.getD_eq_getElem?_getD] at h'
        cases q : ρ0[i]? with
        | none => rw [q] at h'; cases h'
        | some z => rw [q] at h'; exact congrArg some h'
      obtain ⟨v, hv, w⟩ := E0.slot i d h0
      rw [ho i hi] at w
      rw [ho i hi, hF i hi]
      exact ⟨v, hv, .fz (w.unfz.1.ext x)⟩
    · rw [restE_out hi] at h
      obtain ⟨v, hv, w⟩ := E.slot i d (by rw [wipeE_out hi]; exact h)
      rw [wipe_out hi] at hv
      exact ⟨v, hv, w⟩
  · by_cases hi : i ∈ own
    · exact hF i hi
    · exact E.nof i fun d z => h d (by rw [restE_out hi, ← wipeE_out hi]; exact z)
  · obtain ⟨h1, h2, h3⟩ := E.pin p hp
    have : p.1 ∉ own := fun z => h3 (ho _ z)
    rw [wipe_out this] at h1
    exact ⟨h1, h2, h3⟩
end
def lcF (tg : Tg) (mt : Bell.Env → Out Bool) (me : Bell.Env → Out D) (x : D) (ρ : Bell.Env) : Out (Option D) := match bindT tg x ρ with
  | none => .stuck
  | some ρ => (mt ρ).bind fun k ρ => if k then (me ρ).bind fun y ρ => .ok (some y) ρ else .ok none ρ
def lcM (own : List Nat) (tg : Tg) (ik : IK) (ml : Bell.Env → Out (List D)) (mt : Bell.Env → Out Bool) (me : Bell.Env → Out D) (ρ0 : Bell.Env) : Out D := (ml ρ0).bind fun ds ρ => match items ik ds with
  | none => .stuck
  | some xs => match lcGo own (lcF tg mt me) xs ρ with
    | .ok ys ρ1 => if ys.length ≤ sizeLine then .ok (.lst ys) (restE ρ ρ1 own) else .stuck
    | _ => .stuck
theorem lcGo_cons {own : List Nat} {f : D → Bell.Env → Out (Option D)} {x : D} {xs zs : List D} {ρ ρe : Bell.Env} (h : lcGo own f (x :: xs) ρ = .ok zs ρe) :
    ∃ y ρ1 ys, f x (wipeE ρ own) = .ok y ρ1 ∧ lcGo own f xs ρ1 = .ok ys ρe ∧ zs = (match y with | some y => y :: ys | none => ys) := by
  unfold lcGo at h
  split at h
  · rename_i y ρ1 e
    split at h
    · rename_i ys ρ2 e2
      cases h
      exact ⟨y, ρ1, ys, e, e2, rfl⟩
    · cases h
  · cases h
theorem ownN_snd (N : List Str) (own : List Nat) : (ownN N own).map (·.2) = own := by
  unfold ownN
  rw [List.map_map]
  exact (List.map_congr_left fun _ _ => rfl).trans (List.map_id _)
theorem wipe_eq {σ σ' : L2.St} {own : List Nat} (hl : σ'.length = σ.length) (h : ∀ j, j ∉ own → σ'[j]? = σ[j]?) : wipe σ' own = wipe σ own := by
  refine List.ext_getElem? fun j => ?_
  by_cases hj : j ∈ own
  · have : ∀ {s : L2.St} {l : List Nat}, j ∈ l → (wipe s l)[j]? = if j < s.length then some none else none := by
      intro s l
      induction l with
      | nil => intro z; cases z
      | cons i l ih =>
        intro z
        unfold wipe
        by_cases e : i = j
        · subst e
          rw [List.getElem?_set]
          simp only [if_true]
          rw [wipe_length]
        · rw [List.getElem?_set_ne e]
          rcases List.mem_cons.mp z with z | z
          · exact absurd z.symm e
          · exact ih z
    rw [this hj, this hj, hl]
  · rw [wipe_out hj, wipe_out hj]
    exact h j hj
theorem wipe_wipe {σ : L2.St} {own : List Nat} : wipe (wipe σ own) own = wipe σ own := wipe_eq (wipe_length _ _) fun j hj => wipe_out hj
/-! ### the frame while a dict is locked -/
open Classical in
noncomputable def Fc.lock (c : Fc) (d : Addr) (od : Obj) (u : HO) : Fc := { c with
  H0 := fun b => if b = d ∧ c.H0 d = some u then some (.frz od u) else c.H0 b
  T := fun S H => (H d = some (.frz od u) ∧ ¬ S d) ∧ c.T S (upd H d u)
  TE := fun S H S' H' t e => by
    refine ⟨⟨(e _ _ t.1.1 t.1.2).1.eq fun z => z, (e _ _ t.1.1 t.1.2).2⟩, c.TE _ _ _ _ t.2 fun b o h nb => ?_⟩
    by_cases hb : b = d
    · subst hb
      rw [upd_same] at h
      cases h
      exact ⟨.inl upd_same, (e _ _ t.1.1 t.1.2).2⟩
    · rw [upd_ne hb] at h
      obtain ⟨l, n⟩ := e b o h nb
      exact ⟨l.upd hb, n⟩ }
theorem upd_back {H : Hp} {d : Addr} {u o : HO} (h : H d = some u) : upd (upd H d o) d u = H := by
  funext b
  by_cases hb : b = d
  · rw [hb, upd_same, h]
  · rw [upd_ne hb, upd_ne hb]
section
variable {c : Fc} {ms : List Md} {σ : L2.St} {H : Hp} {ρ : Bell.Env} {F : Nat → List Addr} {d : Addr} {od : Obj} {u : HO}
theorem lock_ext {S : Addr → Prop} (h : H d = some u) (du : DicO u) : Ext S H S (upd H d (.frz od u)) := fun b o e n => by
  refine ⟨?_, n⟩
  by_cases hb : b = d
  · subst hb
    rw [h] at e
    cases e
    exact .inr ⟨du, od, upd_same⟩
  · exact .inl (by rw [upd_ne hb]; exact e)
open Classical in
theorem E_lock (E : EnvOk c ms σ H ρ F) (h : H d = some u) (du : DicO u) (n : ¬ sOf c F d) : EnvOk (c.lock d od u) ms σ (upd H d (.frz od u)) ρ F := by
  have ex : Ext (sOf c F) H (sOf c F) (upd H d (.frz od u)) := lock_ext h du
  refine ⟨fun a ha => ?_, E.len, fun i x hx => ?_, E.nof, E.dj, E.out, fun i a ha => ?_, fun b o e nb => ?_, E.pin, E.sl, ⟨⟨upd_same, n⟩, ?_⟩⟩
  · obtain ⟨o, e, x, t⟩ := E.held a ha
    exact ⟨o, by rw [upd_ne fun z : a = d => n (.inl (by rw [← z]; exact ha))]; exact e, x, t⟩
  · obtain ⟨v, hv, w⟩ := E.slot i x hx
    exact ⟨v, hv, w.ext ex fun a o ha e => by rw [upd_ne fun z : a = d => n (.inr ⟨i, by rw [← z]; exact ha⟩)]; exact e⟩
  · rcases E.new i a ha with q | q
    · exact .inl q
    · right
      show (if a = d ∧ c.H0 d = some u then some (.frz od u) else c.H0 a) = none
      rw [if_neg fun z => n (.inr ⟨i, by rw [← z.1]; exact ha⟩)]
      exact q
  · have e : (if b = d ∧ c.H0 d = some u then some (HO.frz od u) else c.H0 b) = some o := e
    by_cases hb : b = d
    · subst hb
      by_cases hu : c.H0 b = some u
      · rw [if_pos ⟨rfl, hu⟩] at e
        rw [upd_same]
        exact e
      · rw [if_neg fun z => hu z.2] at e
        have := E.keep b o e nb
        rw [h] at this
        cases this
        exact absurd e hu
    · rw [if_neg fun z => hb z.1] at e
      rw [upd_ne hb]
      exact E.keep b o e nb
  · rw [upd_back h]
    exact E.tt
/-- behind it -/
def Unl (S : Addr → Prop) (H H' : Hp) : Prop := ∀ b o, H b = some o → ¬ S b → H' b = some o ∨ ∃ ob u, o = .frz ob u ∧ DicO u ∧ H' b = some u
section
variable {S : Addr → Prop} {H' : Hp}
theorem Unl.eq (e : Unl S H H') {b : Addr} {o : HO} (h : H b = some o) (n : ¬ S b) (hn : ∀ ob u, o = .frz ob u → ¬ DicO u) : H' b = some o := by
  rcases e b o h n with z | ⟨ob, u, e1, e2, _⟩
  · exact z
  · exact absurd e2 (hn ob u e1)
theorem Unl.rd (e : Unl S H H') {a : Addr} {u : HO} (du : DicO u) (r : Rd H a u) (n : ¬ S a) : Rd H' a u := by
  rcases r with r | ⟨ob, r⟩
  · exact .inl (e.eq r n fun ob u e => by subst e; exact du.elim)
  · rcases e _ _ r n with z | ⟨ob', u', e1, _, z⟩
    · exact .inr ⟨ob, z⟩
    · cases e1
      exact .inl z
mutual
theorem Fz.unl (e : Unl S H H') : ∀ {d : D} {v : V}, Fz S H v d → Fz S H' v d
  | .non, _, h => by cases h; exact .non
  | .bl _, _, h => by cases h; exact .bl _
  | .int _, _, h => by cases h; exact .int _
  | .str _, _, h => by cases h; exact .str _
  | .lst ds, _, h => by
    cases h with
    | lst n r x => exact .lst n (e.eq r n fun _ _ z => by cases z) (FzL.unl e x)
  | .tup ds, _, h => by
    cases h with
    | tup n r x => exact .tup n (e.eq r n fun _ _ z => by cases z) (FzL.unl e x)
  | .scr _, _, h => by
    cases h with
    | scr n r => exact .scr n (e.eq r n fun _ _ z => by cases z; exact fun z => z)
  | .dic _ es, _, h => by
    cases h with
    | dK n r x => exact .dK n (e.rd trivial r n) (FzK.unl e x)
    | dT n r x => exact .dT n (e.rd trivial r n) (FzT.unl e x)
  | .obj _ es, _, h => by
    cases h with
    | obj n r x => exact .obj n (e.eq r n fun _ _ z => by cases z) (FzF.unl e x)
theorem FzL.unl (e : Unl S H H') : ∀ {ds : List D} {vs : List V}, FzL S H vs ds → FzL S H' vs ds
  | [], _, h => by cases h; exact .nil
  | d :: ds, _, h => by
    cases h with
    | cons a b => exact .cons (Fz.unl e a) (FzL.unl e b)
theorem FzK.unl (e : Unl S H H') : ∀ {es : List (D × D)} {kvs : List (Key × V)}, FzK S H kvs es → FzK S H' kvs es
  | [], _, h => by cases h; exact .nil
  | (_, d) :: ds, _, h => by
    cases h with
    | cons a b => exact .cons (Fz.unl e a) (FzK.unl e b)
theorem FzT.unl (e : Unl S H H') : ∀ {es : List (D × D)} {kvs : List (List Key × V)}, FzT S H kvs es → FzT S H' kvs es
  | [], _, h => by cases h; exact .nil
  | (_, d) :: ds, _, h => by
    cases h with
    | cons a b => exact .cons (Fz.unl e a) (FzT.unl e b)
theorem FzF.unl (e : Unl S H H') : ∀ {es : List (Str × D)} {fs : List (Str × V)}, FzF S H fs es → FzF S H' fs es
  | [], _, h => by cases h; exact .nil
  | (_, d) :: ds, _, h => by
    cases h with
    | cons a b => exact .cons (Fz.unl e a) (FzF.unl e b)
end
theorem Ow.unl {m : Md} {v : V} {x : D} {A : List Addr} (e : Unl S H H') (k : ∀ a o, a ∈ A → H a = some o → H' a = some o) (h : Ow S H m v x A) : Ow S H' m v x A := by
  cases h with
  | fz h => exact .fz (h.unl e)
  | li h x => exact .li (k _ _ (List.mem_singleton.mpr rfl) h) (x.unl e)
  | dk h x => exact .dk (k _ _ (List.mem_singleton.mpr rfl) h) (x.unl e)
  | dt h x => exact .dt (k _ _ (List.mem_singleton.mpr rfl) h) (x.unl e)
end
theorem unl_upd {S : Addr → Prop} (h : H d = some (.frz od u)) (du : DicO u) : Unl S H (upd H d u) := fun b o e n => by
  by_cases hb : b = d
  · subst hb
    rw [h] at e
    cases e
    exact .inr ⟨od, u, rfl, du, upd_same⟩
  · exact .inl (by rw [upd_ne hb]; exact e)
open Classical in
theorem E_unlock (E : EnvOk (c.lock d od u) ms σ H ρ F) (du : DicO u) (h0 : ∀ o, c.H0 d = some o → d ∉ c.I0 → o = u) : H d = some (.frz od u) ∧ ¬ sOf c F d ∧ EnvOk c ms σ (upd H d u) ρ F := by
  obtain ⟨⟨h, n⟩, t⟩ := E.tt
  have n : ¬ sOf c F d := n
  have nF : ∀ i a, a ∈ F i → a ≠ d := fun i a ha z => n (.inr ⟨i, by rw [← z]; exact ha⟩)
  refine ⟨h, n, ⟨fun a ha => ?_, E.len, fun i x hx => ?_, E.nof, E.dj, E.out, fun i a ha => ?_, fun b o e nb => ?_, E.pin, E.sl, t⟩⟩
  · obtain ⟨o, e, x, t⟩ := E.held a ha
    exact ⟨o, by rw [upd_ne fun z : a = d => n (.inl (by rw [← z]; exact ha))]; exact e, x, t⟩
  · obtain ⟨v, hv, w⟩ := E.slot i x hx
    exact ⟨v, hv, w.unl (unl_upd h du) fun a o ha e => by rw [upd_ne (nF i a ha)]; exact e⟩
  · rcases E.new i a ha with q | q
    · exact .inl q
    · right
      have q : (if a = d ∧ c.H0 d = some u then some (HO.frz od u) else c.H0 a) = none := q
      rw [if_neg fun z => nF i a ha z.1] at q
      exact q
  · by_cases hb : b = d
    · subst hb
      rw [h0 o e nb, upd_same]
    · rw [upd_ne hb]
      refine E.keep b o ?_ nb
      show (if b = d ∧ c.H0 d = some u then some (HO.frz od u) else c.H0 b) = some o
      rw [if_neg fun z => hb z.1]
      exact e
/-- .. as an extension of the heap before -/
theorem unlock_ext {S S' : Addr → Prop} {H' : Hp} (h : H d = some u) (h1 : ¬ S d) (e : Ext S (upd H d (.frz od u)) S' H') : Ext S H S' (upd H' d u) := fun b o hb nb => by
  by_cases hd : b = d
  · subst hd
    rw [h] at hb
    cases hb
    exact ⟨.inl upd_same, (e _ _ upd_same nb).2⟩
  · obtain ⟨l, n⟩ := e b o (by rw [upd_ne hd]; exact hb) nb
    exact ⟨l.upd hd, n⟩
end
def lcdM (own : List Nat) (tg : Tg) (i : Nat) (mt : Bell.Env → Out Bool) (me : Bell.Env → Out D) (ρ0 : Bell.Env) : Out D := (rd i ρ0).bind fun d ρ => match d with
  | .dic _ es => match lcGo own (lcF tg mt me) (es.map (·.1)) ρ with
    | .ok ys ρ1 => if ys.length ≤ sizeLine then .ok (.lst ys) (restE ρ ρ1 own) else .stuck
    | _ => .stuck
  | _ => .stuck
/-- what stands for a dict: locked, or to be locked -/
theorem lockable {S : Addr → Prop} {H : Hp} {v : V} {t : Bool} {es : List (D × D)} (f : Fz S H v (.dic t es)) : ∃ a, v = .ref a ∧ ¬ S a ∧ ((∃ od u, H a = some (.frz od u)) ∨ ∃ u, H a = some u ∧ DicO u ∧ Mut (some u)) := by
  cases f with
  | dK n r x =>
    rcases r with r | ⟨od, r⟩
    · exact ⟨_, rfl, n, .inr ⟨_, r, trivial, trivial⟩⟩
    · exact ⟨_, rfl, n, .inl ⟨_, _, r⟩⟩
  | dT n r x =>
    rcases r with r | ⟨od, r⟩
    · exact ⟨_, rfl, n, .inr ⟨_, r, trivial, trivial⟩⟩
    · exact ⟨_, rfl, n, .inl ⟨_, _, r⟩⟩
theorem keys_at {S : Addr → Prop} {H : Hp} {a : Addr} {t : Bool} {es : List (D × D)} {od : Obj} {u : HO} {R : It → Hp → Prop} (f : Fz S H (.ref a) (.dic t es)) (h : H a = some (.frz od u)) (k : ∀ J T, Wk J (es.map (·.1)) T → T S H → R J H) :
    ∃ d o, (V.ref a) = .ref d ∧ ((∃ kvs, H d = some (.frz o (.dK kvs)) ∧ R (Itk d o kvs) H) ∨ ∃ kvs, H d = some (.frz o (.dT kvs)) ∧ R (Itkt d o kvs) H) := by
  cases f with
  | dK n r x =>
    rcases r with r | ⟨ob, r⟩
    · rw [h] at r; cases r
    · exact ⟨a, ob, rfl, .inl ⟨_, r, k _ _ wk_keys ⟨⟨r, n⟩, x⟩⟩⟩
  | dT n r x =>
    rcases r with r | ⟨ob, r⟩
    · rw [h] at r; cases r
    · exact ⟨a, ob, rfl, .inr ⟨_, r, k _ _ wk_keysT ⟨⟨r, n⟩, x⟩⟩⟩
theorem PTs.imp {X : Cx} {es : List Expr} {t t' : TT} (h : PTs X es t) (i : ∀ σ H Q, t' σ H Q → t σ H Q) : PTs X es t' := ⟨fun pins s σ H Q I q => h.run pins s σ H Q I (i _ _ _ q)⟩
section
variable {X : Cx} {sc scope : Scope} {G : GI} {φ : Calls} {cls : Nat → Value} {k : Nat} {N : List Str} {W : WX} {ms : List Md} {own : List Nat} {tg : Tg} {ik : IK} {ml : Bell.Env → Out (List D)} {mt : Bell.Env → Out Bool} {me : Bell.Env → Out D} {K : PySem.W.Frag} {σ : L2.St} {H : Hp} {Q : VK}
/-- the turns of a comprehension over J -/
def LcR (J : It) (g : TG) (tt : TT) (te : TE) (vs : List Nat) (σ : L2.St) (H : Hp) (Q : VK) : Prop := tLc (fun _ H' R => R J H') g tt te vs σ H Q
theorem lc_coreG {Pd : Bell.D → Bell.Env → Hp → (Nat → List Addr) → Prop} {c : Fc} {F F1 : Nat → List Addr} {H1 : Hp} {ρs : Bell.Env} {xs : List D} {J : It} {T : (Addr → Prop) → Hp → Prop} (hown : ∀ i ∈ own, ms.getD i .fz = .fz ∧ i < σ.length) (htg : ∀ i ∈ tgSlots tg, i ∈ own)
    (E1 : EnvOk c ms σ H1 ρs F1) (e1 : Ext (sOf c F) H (sOf c F1) H1) (wk : Wk J xs T) (t1 : T (sOf c F1) H1)
    (p : Post c ms W cls σ (sOf c F) H Pd (match lcGo own (lcF tg mt me) xs ρs with
      | .ok ys ρ1 => if ys.length ≤ sizeLine then .ok (.lst ys) (restE ρs ρ1 own) else .stuck
      | _ => .stuck))
    (hend : ∀ (D : Addr) (acc : List V) (ys : List Bell.D) (ρe : Bell.Env) (F' : Nat → List Addr) (H' : Hp), H1 D = none → EnvOk (c.with D acc) ms (wipe σ own) H' (wipeE ρe own) F' → H' D = some (.lst acc) → FzL (sOf (c.with D acc) F') H' acc ys → Ext (sOf c F1) H1 (sOf c F') H' → ¬ sOf c F' D → Pd (.lst ys) (restE ρs ρe own) H' F' → Q (.ref D) H') :
    LcR J (gT K tg) (RdT ms WF cls mt) (RdG Fz ms WF cls me) own σ H1 Q := by
  have ho : ∀ i ∈ own, ms.getD i .fz = .fz := fun i hi => (hown i hi).1
  intro D hD
  cases ql : lcGo own (lcF tg mt me) xs ρs with
  | stuck => rw [ql] at p; exact p.elim
  | exc _ _ => rw [ql] at p; exact p.elim
  | ok zs ρe =>
  rw [ql] at p
  dsimp only at p
  split at p
  · rename_i hz
    have hS0 : ¬ c.S0 D := fun z => by
      obtain ⟨o, e, _⟩ := E1.held D z
      rw [hD] at e; cases e
    have h0 : ∀ b o, c.H0 b = some o → b ∉ c.I0 → b ≠ D := fun b o a n => ne_of_none (E1.keep b o a n) hD
    refine ⟨fun i m H' => m = xs.length - i ∧ i ≤ xs.length ∧ ∃ (ρ : Bell.Env) (F' : Nat → List Addr) (acc : List V) (ys rest : List Bell.D), EnvOk (c.with D acc) ms (wipe σ own) H' (wipeE ρ own) F' ∧ T (sOf (c.with D acc) F') H' ∧ H' D = some (.lst acc) ∧
      FzL (sOf (c.with D acc) F') H' acc ys ∧ Ext (sOf c F1) H1 (sOf c F') H' ∧ lcGo own (lcF tg mt me) (xs.drop i) ρ = .ok rest ρe ∧ zs = ys ++ rest, ⟨xs.length, rfl, Nat.zero_le _, ρs, F1, [], [], zs, E_wipe (E_in E1 hD) ho, ?_, upd_same, .nil, ?_, by rw [List.drop_zero]; exact ql, rfl⟩, ?_⟩
    · exact wk.ext _ _ _ _ t1 fun b o a n => ⟨.inl (by rw [upd_ne (ne_of_none a hD)]; exact a), fun z => (sOf_with.mp z).elim n (ne_of_none a hD)⟩
    · exact Ext.new hD
    · rintro i m H' ⟨rfl, hi, ρ, F', acc, ys, rest, E', t', hDa, fa, x', hl, ez⟩
      by_cases hlt : i < xs.length
      · refine .inr ⟨wk.go _ _ _ t' hlt, fun H'' => xs.length - i ≠ 0 ∧ i + 1 ≤ xs.length ∧ ∃ (ρ : Bell.Env) (F' : Nat → List Addr) (acc : List V) (ys rest : List Bell.D), EnvOk (c.with D acc) ms (wipe σ own) H'' (wipeE ρ own) F' ∧ T (sOf (c.with D acc) F') H'' ∧ H'' D = some (.lst acc) ∧
          FzL (sOf (c.with D acc) F') H'' acc ys ∧ Ext (sOf c F1) H1 (sOf c F') H'' ∧ lcGo own (lcF tg mt me) (xs.drop (i + 1)) ρ = .ok rest ρe ∧ zs = ys ++ rest, fun H'' w => ⟨xs.length - (i + 1), by omega, rfl, w.2⟩, fun x H2 y => ?_⟩
        obtain ⟨sm, d, ed, fd⟩ := wk.yld _ _ _ _ _ t' E'.dom hlt y
        have edr : xs.drop i = d :: xs.drop (i + 1) := by
          rw [List.drop_eq_getElem_cons hlt]
          congr 1
          rw [List.getElem?_eq_getElem hlt] at ed
          exact Option.some.inj ed
        rw [edr] at hl
        obtain ⟨yo, ρ1, yr, hf, hrest, er⟩ := lcGo_cons hl
        unfold lcF at hf
        cases qb : bindT tg d (wipeE ρ own) with
        | none => rw [qb] at hf; cases hf
        | some ρb =>
        rw [qb] at hf
        dsimp only at hf
        have E2 := E'.same sm
        refine gT_ok E2 (fun j hj => ⟨ho _ (htg j hj), by rw [wipe_length]; exact (hown j (htg j hj)).2⟩) qb fd fun σ' hk E3 => ?_
        have ew : wipe σ' own = wipe σ own := by
          have hl' : σ'.length = (wipe σ own).length := by
            have a := E3.len
            have b := E2.len
            have c2 : ρb.length = (wipeE ρ own).length := by
              cases tg with
              | n i => cases qb; rw [List.length_set]
              | t is =>
                cases d <;> simp only [bindT, reduceCtorEq] at qb
                split at qb
                · cases qb
                  have : ∀ (l : List (Nat × Bell.D)) (r : Bell.Env), (l.foldl (fun ρ p => ρ.set p.1 (some p.2)) r).length = r.length := by
                    intro l
                    induction l with
                    | nil => intro r; rfl
                    | cons q l ih => intro r; rw [List.foldl_cons, ih, List.length_set]
                  exact this _ _
                · cases qb
            omega
          exact (wipe_eq (σ := wipe σ own) hl' fun j hj => hk j fun z => hj (htg j z)).trans wipe_wipe
        refine ⟨ew, c.with D acc, ρb, F', E3, ?_⟩
        -- the test
        cases qt : mt ρb with
        | stuck => rw [qt] at hf; cases hf
        | exc _ _ => rw [qt] at hf; cases hf
        | ok b ρt =>
        rw [qt] at hf
        simp only [Out.bind] at hf
        intro H3 F3 E3' x3
        have t2 := wk.ext _ _ _ _ t' (same_ext (S := sOf (c.with D acc) F') sm)
        have hD3 : ∀ {HH : Hp} {FF : Nat → List Addr} {ss : L2.St} {rr : Bell.Env}, EnvOk (c.with D acc) ms ss HH rr FF → HH D = some (.lst acc) := fun {HH FF ss rr} EE => by
          obtain ⟨o, e, x, _⟩ := EE.held D (.inr rfl)
          have x : upd c.HS D (.lst acc) D = some o := x
          rw [upd_same] at x
          cases x
          exact e
        have down : ∀ {FF : Nat → List Addr} {HH : Hp}, Ext (sOf (c.with D acc) F') H2 (sOf (c.with D acc) FF) HH → Ext (sOf c F1) H1 (sOf c FF) HH := fun {FF HH} xx bb o a n => by
          obtain ⟨a1, n1⟩ := x' bb o a n
          have nD : bb ≠ D := ne_of_none a hD
          have n0 : ¬ sOf (c.with D acc) F' bb := fun z => (sOf_with.mp z).elim n1 nD
          have n2 : ¬ sOf (c.with D acc) FF bb := by
            rcases a1 with a1 | ⟨_, ob, a1⟩
            · exact (xx bb _ (sm _ _ a1) n0).2
            · exact (xx bb _ (sm _ _ a1) n0).2
          exact ⟨a1.trans fun o1 e1 => (xx bb o1 (sm _ _ e1) n0).1, fun z => n2 (sOf_with.mpr (.inl z))⟩
        cases b with
        | false =>
          refine iteF ⟨by omega, hlt, ρ1, F3, acc, ys, yr, ?_, wk.ext _ _ _ _ t2 x3, hD3 E3', (fa.ext (same_ext sm)).ext x3, down x3, hrest, ?_⟩
          · cases hf
            have := E_wipe (own := own) E3' ho
            rwa [ew] at this
          · cases hf
            rw [ez, er]
        | true =>
          refine iteT ⟨c.with D acc, ρt, F3, E3', ?_⟩
          simp only [if_true] at hf
          cases qe : me ρt with
          | stuck => rw [qe] at hf; cases hf
          | exc _ _ => rw [qe] at hf; cases hf
          | ok y ρy =>
          rw [qe] at hf
          cases hf
          intro H4 F4 E4 x4 v fv
          have ell : ys.length + 1 ≤ zs.length := by rw [ez, er]; simp
          have fa4 := ((fa.ext (same_ext sm)).ext x3).ext x4
          have own4 : Ext (sOf (c.with D acc) F4) H4 (sOf (c.with D (acc ++ [v])) F4) (upd H4 D (.lst (acc ++ [v]))) := fun b o a n =>
            ⟨.inl (by rw [upd_ne fun z => n (sOf_with.mpr (.inr z))]; exact a), fun z => n (sOf_with.mpr (sOf_with.mp z))⟩
          refine ⟨acc, hD3 E4, by rw [fa.length]; omega, by omega, hlt, ρ1, F4, acc ++ [v], ys ++ [y], yr, ?_, wk.ext _ _ _ _ (wk.ext _ _ _ _ (wk.ext _ _ _ _ t2 x3) x4) own4, upd_same, (fa4.append (.cons fv .nil)).ext own4, ?_, hrest, ?_⟩
          · have := E_wipe (own := own) (E_acc (acc2 := acc ++ [v]) E4 h0) ho
            rwa [ew] at this
          · intro b o a n
            obtain ⟨a4, n4⟩ := down (x3.trans x4) b o a n
            exact ⟨a4.upd (ne_of_none a hD), n4⟩
          · rw [ez, er, List.append_assoc]
            rfl
      · have ei : i = xs.length := by omega
        subst ei
        rw [List.drop_length] at hl
        cases hl
        refine .inl ⟨wk.stop _ _ _ t' (Nat.le_refl _), ?_⟩
        have E5 := E_rest E1 (E_out E' hS0) ho x'
        have nD : ¬ sOf c F' D := fun z => by
          rcases z with z | ⟨j, z⟩
          · exact hS0 z
          · exact E'.out j D z (.inr rfl)
        have ez' : zs = ys := by rw [ez, List.append_nil]
        have pd := p H' F' E5 (e1.trans x')
        rw [ez'] at pd
        exact hend _ _ _ _ _ _ hD E' hDa fa x' nD pd
  · exact p.elim
theorem lc_core {c : Fc} {F F1 : Nat → List Addr} {H1 : Hp} {ρs : Bell.Env} {xs : List D} {J : It} {T : (Addr → Prop) → Hp → Prop} (hown : ∀ i ∈ own, ms.getD i .fz = .fz ∧ i < σ.length) (htg : ∀ i ∈ tgSlots tg, i ∈ own)
    (E1 : EnvOk c ms σ H1 ρs F1) (e1 : Ext (sOf c F) H (sOf c F1) H1) (wk : Wk J xs T) (t1 : T (sOf c F1) H1)
    (p : Post c ms W cls σ (sOf c F) H (fun d _ H' F' => ∀ v, Fz (sOf c F') H' v d → Q v H') (match lcGo own (lcF tg mt me) xs ρs with
      | .ok ys ρ1 => if ys.length ≤ sizeLine then .ok (.lst ys) (restE ρs ρ1 own) else .stuck
      | _ => .stuck)) :
    LcR J (gT K tg) (RdT ms WF cls mt) (RdG Fz ms WF cls me) own σ H1 Q :=
  lc_coreG hown htg E1 e1 wk t1 p fun D acc ys ρe F' H' hD E' hDa fa x' nD pd => pd _ (.lst nD hDa (fa.ext (Ext.less fun a h => sOf_with.mpr (.inl h))))
theorem lc_ok (hown : ∀ i ∈ own, ms.getD i .fz = .fz ∧ i < σ.length) (htg : ∀ i ∈ tgSlots tg, i ∈ own) (h : RdG Fz ms W cls (lcM own tg ik ml mt me) σ H Q) :
    tLc (RdW ms W cls ik ml) (gT K tg) (RdT ms WF cls mt) (RdG Fz ms WF cls me) own σ H Q := by
  obtain ⟨c, ρ0, F, E, p⟩ := h
  refine ⟨c, ρ0, F, E, ?_⟩
  have ho : ∀ i ∈ own, ms.getD i .fz = .fz := fun i hi => (hown i hi).1
  unfold lcM at p
  cases qml : ml ρ0 with
  | stuck => rw [qml] at p; exact p
  | exc k ρ' => rw [qml] at p; exact p
  | ok ds ρs =>
  rw [qml] at p
  simp only [Out.bind] at p ⊢
  unfold itemsM
  cases qi : items ik ds with
  | none => rw [qi] at p; exact p
  | some xs =>
  rw [qi] at p
  dsimp only at p ⊢
  intro H1 F1 E1 e1 J T wk t1
  exact lc_core (K := K) hown htg E1 e1 wk t1 p
theorem e_lc (C : Cg G φ cls k N X sc W) {t it elt : Expr} {ifs : List Expr} {pos : Pos} (hi : PI X t it (RdW ms W cls ik ml)) (ok : blkC N sc scope (ownN N own) = true) (hn : nset it = true) (hown : ∀ i ∈ own, ms.getD i .fz = .fz ∧ i < N.length) (htg : ∀ i ∈ tgSlots tg, i ∈ own)
    (hT : mT N scope tg t = true) (ht : ∀ X', Cg G φ cls k N X' scope WF → X'.K = X.K → PTs X' ifs (RdT ms WF cls mt)) (he : ∀ X', Cg G φ cls k N X' scope WF → PE X' elt (RdG Fz ms WF cls me)) :
    PE X (.ListComp elt [⟨t, it, ifs, 0⟩] scope pos) (RdG Fz ms W cls (lcM own tg ik ml mt me)) := by
  have hnd : X.N.Nodup := by rw [C.hN]; exact C.nd
  have base := pe_lc (pos := pos) (g := gT X.K tg) C.calm hnd hi (C.blkOk ok) (fun s H Ca cl fp => g_tg (C.blk s H Ca cl fp) hT) (fun s H Ca cl fp => ht _ (C.blk s H Ca cl fp) rfl) (fun s H Ca cl fp => he _ (C.blk s H Ca cl fp)) (fun x => by
    cases it <;> first | rfl | cases hn)
  refine ⟨fun pins s σ H Q I q => base.run pins s σ H Q I ?_⟩
  rw [ownN_snd]
  refine lc_ok (fun i hi => ⟨(hown i hi).1, ?_⟩) htg q
  rw [I.len, C.hN]
  exact (hown i hi).2
end
end Bell
set_option Elab.async false
set_option linter.all false
set_option maxRecDepth 100000
set_option autoImplicit false
/-! Every expression. -/
namespace Bell
open PySem PySem.Spec PyProof.Rows L2
section
variable (G : GI) (φ : Calls) (cls : Nat → Value) (k : Nat) (N : List Str) (ms : List Md)
/-- an expression's two readings -/
structure Good (e : Ex) : Prop where
  val : ∀ (X : Cx) (sc : Scope) (W : WX) (a : Expr), Cg G φ cls k N X sc W → mE G N ms sc e a = true → PE X a (RdG Fz ms W cls (ev φ e))
  tst : ∀ (X : Cx) (sc : Scope) (W : WX) (a : Expr), Cg G φ cls k N X sc W → mE G N ms sc e a = true → tOk a = true → PT X a (RdT ms W cls fun ρ => tst (ev φ e ρ))
end
section
variable {G : GI} {φ : Calls} {cls : Nat → Value} {k : Nat} {N : List Str} {ms : List Md} {X : Cx} {sc : Scope} {W : WX} {e : Ex} {a : Expr}
theorem nm_ok (C : Cg G φ cls k N X sc W) {i : Nat} (h : mNm N sc i a = true) : PE X a (tVar i) ∧ nst a = true ∧ tPlain a = true := by
  unfold mNm at h
  split at h
  · obtain ⟨h1, h2⟩ := and2 h
    obtain ⟨h2, h3⟩ := and2 h2
    exact ⟨pe_var (by rw [C.hN]; exact of_decide_eq_true h1) (C.agr.vis h2) (okName_d h3) (okName_c h3), rfl, rfl⟩
  · cases h
theorem b_ok (C : Cg G φ cls k N X sc W) {i : Nat} (h : mNm N sc i a = true) : PE X a (RdG Bz ms W cls (ev φ (.b i))) := by
  refine PE.imp (nm_ok C h).1 fun σ H Q q => ?_
  simp only [ev] at q
  exact bor_ok q
/-- an operand -/
theorem Good.opd (g : Good G φ cls k N ms e) (C : Cg G φ cls k N X sc W) (h : opd N sc e a (mE G N ms sc e a) = true) : PE X a (RdG Bz ms W cls (ev φ e)) := by
  unfold Bell.opd at h
  split at h
  · exact b_ok C h
  · exact RdG.bz (g.val X sc W a C h)
theorem Good.opdT (g : Good G φ cls k N ms e) (C : Cg G φ cls k N X sc W) (h : Bell.opd N sc e a (mE G N ms sc e a) = true) (ht : tOk a = true) : PT X a (RdT ms W cls fun ρ => Bell.tst (ev φ e ρ)) := by
  unfold Bell.opd at h
  split at h
  · exact pt_plain (fl := true) (b_ok C h) (nm_ok C h).2.2
  · exact g.tst X sc W a C h ht
theorem plainT (h : PE X a (RdG Fz ms W cls (ev φ e))) (hp : tPlain a = true) : PT X a (RdT ms W cls fun ρ => tst (ev φ e ρ)) := pt_plain (fl := false) h hp
theorem v_ok (C : Cg G φ cls k N X sc W) {i : Nat} (h : mE G N ms sc (.v i) a = true) : PE X a (RdG Fz ms W cls (ev φ (.v i))) ∧ tPlain a = true := by
  simp only [mE] at h
  obtain ⟨h1, h2⟩ := and2 h
  refine ⟨PE.imp (nm_ok C h1).1 fun σ H Q q => ?_, (nm_ok C h1).2.2⟩
  simp only [ev] at q
  exact var_ok (of_decide_eq_true h2) q
theorem const_ok (C : Cg G φ cls k N X sc W) {d : D} (h : mE G N ms sc (.c d) a = true) : PE X a (RdG Fz ms W cls (ev φ (.c d))) ∧ tPlain a = true := by
  have fin : ∀ {v : V} {σ : L2.St} {H : Hp} {Q : VK}, (∀ S H, Fz S H v d) → RdG Fz ms W cls (ev φ (.c d)) σ H Q → tC v σ H Q := fun {v σ H Q} f ⟨c, ρ, F, E, p⟩ => by
    simp only [ev] at p
    exact p H F E (Ext.refl _ _) v (f _ _)
  cases a <;> simp only [mE, Bool.false_eq_true] at h
  rename_i kc _ _
  refine ⟨?_, rfl⟩
  cases d <;> cases kc <;> simp only [cB, Bool.false_eq_true, beq_iff_eq, decide_eq_true_eq] at h
  · exact PE.imp pe_non fun σ H Q q => fin (fun _ _ => .non) q
  · subst h; exact PE.imp pe_bl fun σ H Q q => fin (fun _ _ => .bl _) q
  · subst h; exact PE.imp pe_int fun σ H Q q => fin (fun _ _ => .int _) q
  · subst h; exact PE.imp pe_str fun σ H Q q => fin (fun _ _ => .str _) q
theorem glob_ok (C : Cg G φ cls k N X sc W) {x : Str} {d : D} (h : mE G N ms sc (.g x d) a = true) : PE X a (RdG Fz ms W cls (ev φ (.g x d))) ∧ tPlain a = true := by
  cases a <;> simp only [mE, Bool.false_eq_true] at h
  refine ⟨?_, rfl⟩
  obtain ⟨h1, h2⟩ := and2 h
  obtain ⟨h2, h3⟩ := and2 h2
  obtain ⟨h3, h4⟩ := and2 h3
  have h1 := of_decide_eq_true h1
  subst h1
  obtain ⟨⟨y, d'⟩, hp, hq⟩ := List.any_eq_true.mp h4
  obtain ⟨q1, q2⟩ := and2 hq
  have q1 : y = x := of_decide_eq_true q1
  subst q1
  obtain ⟨u, hu, ru⟩ := C.cos _ _ hp
  have ed : ∀ S H, Fz S H (dV d') d := by
    cases d' <;> cases d <;> simp only [sEq, Bool.false_eq_true, decide_eq_true_eq] at q2
    · subst q2; exact fun _ _ => .int _
    · subst q2; exact fun _ _ => .str _
  refine PE.imp (pe_glob (C.agr.glob h2) hu ru (okName_d h3)) fun σ H Q ⟨c, ρ, F, E, p⟩ => ?_
  simp only [ev] at p
  exact p H F E (Ext.refl _ _) _ (ed _ _)
/-- how a form's tests are read: as a comparison, or plainly -/
theorem sh1_test {G : GI} {o : O1} {a' : Expr} (hs : sh1 G sc o a = some a') (ht : tOk a = true) : tPlain a = true ∨ (∃ op b pos, a = .Compare a' [op] [b] pos) := by
  unfold sh1 at hs
  split at hs <;> first
    | exact .inl rfl
    | (cases hs; exact .inr ⟨_, _, _, rfl⟩)
    | cases ht
    | cases hs
theorem un_ok {o : O1} {x : Ex} (gx : Good G φ cls k N ms x) (C : Cg G φ cls k N X sc W) (h : mE G N ms sc (.op1 o x) a = true) : PE X a (RdG Fz ms W cls (ev φ (.op1 o x))) := by
  simp only [mE] at h
  split at h
  · rename_i e' hs
    refine PE.imp (e_op1 C hs (gx.opd C h) mono_RdG) fun σ H Q q => ?_
    simp only [ev] at q
    exact op1_ok q
  · cases h
theorem un_bl {o : O1} {x : Ex} (ho : o = .isN ∨ o = .notN) (ρ : Bell.Env) (d : D) (ρ' : Bell.Env) (h : ev φ (.op1 o x) ρ = .ok d ρ') : ∃ b, d = .bl b := by
  simp only [ev] at h
  refine bind_bl h fun y ρ d ρ' h => ?_
  unfold fin at h
  split at h
  · rename_i e
    cases h
    rcases ho with rfl | rfl <;> cases y <;> cases e <;> exact ⟨_, rfl⟩
  · cases h
theorem un_tst {o : O1} {x : Ex} (gx : Good G φ cls k N ms x) (C : Cg G φ cls k N X sc W) (h : mE G N ms sc (.op1 o x) a = true) (ht : tOk a = true) : PT X a (RdT ms W cls fun ρ => tst (ev φ (.op1 o x) ρ)) := by
  have hv := un_ok gx C h
  simp only [mE] at h
  split at h
  · rename_i e' hs
    rcases sh1_test hs ht with hp | ⟨op, b, pos, rfl⟩
    · exact plainT hv hp
    · have key : (o = .isN ∧ op = .Is ∨ o = .notN ∧ op = .IsNot) ∧ ∃ j p2, b = .Constant .none j p2 := by
        cases o <;> first
          | (exfalso; cases hs; done)
          | (cases op <;> first
            | (exfalso; cases hs; done)
            | (cases b <;> first
              | (exfalso; cases hs; done)
              | (rename_i kc _ _; cases kc <;> first
                | (exfalso; cases hs; done)
                | exact ⟨.inl ⟨rfl, rfl⟩, _, _, rfl⟩
                | exact ⟨.inr ⟨rfl, rfl⟩, _, _, rfl⟩)))
      obtain ⟨ho, j, p2, rfl⟩ := key
      have bl : o = .isN ∨ o = .notN := ho.imp (·.1) (·.1)
      have hb := gx.opd C h
      rcases ho with ⟨rfl, rfl⟩ | ⟨rfl, rfl⟩
      · cases hs
        refine PT.imp (pt_cmp (pc_isN hb) rfl) fun σ H Q q => ?_
        have q1 := tstB_ok (un_bl bl) q
        simp only [ev] at q1
        refine mono_RdG _ _ _ _ (fun y H1 ⟨S, dx, d, dom, hx, e, q⟩ => ?_) (op1_ok q1)
        have := nonB hx e
        subst this
        exact q _ _ (.same (.bl _))
      · cases hs
        refine PT.imp (pt_cmp (pc_notN hb) rfl) fun σ H Q q => ?_
        have q1 := tstB_ok (un_bl bl) q
        simp only [ev] at q1
        refine mono_RdG _ _ _ _ (fun y H1 ⟨S, dx, d, dom, hx, e, q⟩ => ?_) (op1_ok q1)
        have := notnonB hx e
        subst this
        exact q _ _ (.same (.bl _))
  · cases h
theorem ev2 (o : O2) (x y : Ex) : (∃ i, x = .b i) ∨ ev φ (.op2 o x y) = fun ρ => (ev φ x ρ).bind fun x ρ => (ev φ y ρ).bind fun y ρ => fin (sem2 o x y) ρ := by
  cases x <;> first | exact .inl ⟨_, rfl⟩ | exact .inr (by funext ρ; simp only [ev]; rfl) | exact .inr (by funext ρ; simp only [ev])
theorem ev3 (o : O3) (x y z : Ex) : (∃ i, x = .b i) ∨ ev φ (.op3 o x y z) = fun ρ => (ev φ x ρ).bind fun x ρ => (ev φ y ρ).bind fun y ρ => match y with
    | .int y => (ev φ z ρ).bind fun z ρ => fin (sem3 o x (.int y) z) ρ
    | _ => .stuck := by
  cases x <;> first | exact .inl ⟨_, rfl⟩ | exact .inr (by funext ρ; simp only [ev]; rfl) | exact .inr (by funext ρ; simp only [ev])
theorem notB {x : Ex} (h : ¬ ∃ i, x = .b i) {r : Bool} (hm : opd N sc x a r = true) : r = true := by
  unfold opd at hm
  split at hm
  · exact absurd ⟨_, rfl⟩ h
  · exact hm
theorem nBx_no {x : Ex} (h : nBx x = true) : ¬ ∃ i, x = .b i := by
  rintro ⟨i, rfl⟩
  cases h
theorem op2F_ok {ms : List Md} {W : WX} {cls : Nat → Value} {σ : L2.St} {H : Hp} {Q : VK} {ma mb : Env → Out D} (h : RdG Fz ms W cls (fun ρ => (ma ρ).bind fun x ρ => (mb ρ).bind fun y ρ => fin (sem2 .min2D x y) ρ) σ H Q) :
    RdG Fz ms W cls ma σ H (fun x H1 => RdG Fz ms W cls mb σ H1 fun y H2 => rF2 [x, y] H2 Q) := by
  obtain ⟨c, ρ, F, E, p⟩ := h
  refine ⟨c, ρ, F, E, (Post.bind p).mono fun dx ρ1 H1 F1 E1 e1 p1 x fx => ⟨c, ρ1, F1, E1, (Post.bind p1).mono fun dy ρ2 H2 F2 E2 e2 p2 y fy => ?_⟩⟩
  obtain ⟨d, ed, k⟩ := fin_same E2 p2
  exact ⟨x, y, _, dx, dy, d, rfl, E2.dom, fx.ext e2, fy, ed, fun v fv => k v H2 (.same fv) v fv⟩
theorem bin_ok {o : O2} {x y : Ex} (gx : Good G φ cls k N ms x) (gy : Good G φ cls k N ms y) (C : Cg G φ cls k N X sc W) (h : mE G N ms sc (.op2 o x y) a = true) : PE X a (RdG Fz ms W cls (ev φ (.op2 o x y))) := by
  simp only [mE] at h
  split at h
  · rename_i e1 e2 hs
    obtain ⟨h1, h2⟩ := and2 h
    obtain ⟨g2, g3⟩ := and2 h2
    by_cases ho : o = .min2D
    · subst ho
      obtain ⟨n1, n2⟩ := and2 (show (nBx x && nBx y) = true by simpa using g3)
      refine PE.imp (e_min2D C hs (gx.val X sc W _ C (notB (nBx_no n1) h1)) (gy.val X sc W _ C (notB (nBx_no n2) g2)) mono_RdG mono_RdG) fun σ H Q q => ?_
      rw [(ev2 .min2D x y).resolve_left (nBx_no n1)] at q
      exact op2F_ok q
    have hy := gy.opd C g2
    by_cases hb : ∃ i, x = .b i
    · obtain ⟨i, rfl⟩ := hb
      refine PE.imp (e_op2 C ho hs (nm_ok C h1).1 hy mono_Var mono_RdG) fun σ H Q q => ?_
      simp only [ev] at q
      exact op2b_ok q
    · refine PE.imp (e_op2 C ho hs (gx.val X sc W _ C (notB hb h1)) hy mono_RdG mono_RdG) fun σ H Q q => ?_
      rw [(ev2 o x y).resolve_left hb] at q
      exact op2_ok q
  · cases h
theorem sh2_test {G : GI} {o : O2} {e1 e2 : Expr} (hs : sh2 G sc o a = some (e1, e2)) (ht : tOk a = true) : tPlain a = true ∨ (∃ op pos, a = .Compare e1 [op] [e2] pos ∧ cmpO o = some op ∧ nset e2 = true) := by
  unfold sh2 at hs
  split at hs
  · exact .inl rfl
  · split at hs
    · rename_i h
      cases hs
      exact .inr ⟨_, _, rfl, h.1, h.2⟩
    · cases hs
  all_goals first | exact .inl rfl | cases hs
theorem bin_tst {o : O2} {x y : Ex} (gx : Good G φ cls k N ms x) (gy : Good G φ cls k N ms y) (C : Cg G φ cls k N X sc W) (h : mE G N ms sc (.op2 o x y) a = true) (ht : tOk a = true) : PT X a (RdT ms W cls fun ρ => tst (ev φ (.op2 o x y) ρ)) := by
  have hu : X.A.units + 65 < cLine := by have := C.room.un; omega
  have hv := bin_ok gx gy C h
  simp only [mE] at h
  split at h
  · rename_i e1 e2 hs
    rcases sh2_test hs ht with hp | ⟨op, pos, rfl, ho, hn⟩
    · exact plainT hv hp
    · obtain ⟨h1, h2⟩ := and2 h
      have h2 := (and2 h2).1
      have hy := gy.opd C h2
      by_cases hb : ∃ i, x = .b i
      · obtain ⟨i, rfl⟩ := hb
        refine PT.imp (pt_cmpR (cmp_op hu ho) (nm_ok C h1).1 hy (nset_marks hn)) fun σ H Q q => ?_
        have q1 := tstB_ok (ev2_bl ho (.b i) y) q
        simp only [ev] at q1
        exact op2b_ok q1
      · refine PT.imp (pt_cmpR (cmp_op hu ho) (gx.val X sc W _ C (notB hb h1)) hy (nset_marks hn)) fun σ H Q q => ?_
        have q1 := tstB_ok (ev2_bl ho x y) q
        rw [(ev2 o x y).resolve_left hb] at q1
        exact op2_ok q1
  · cases h
theorem tri_ok {o : O3} {x y z : Ex} (gx : Good G φ cls k N ms x) (gy : Good G φ cls k N ms y) (gz : Good G φ cls k N ms z) (C : Cg G φ cls k N X sc W) (h : mE G N ms sc (.op3 o x y z) a = true) : PE X a (RdG Fz ms W cls (ev φ (.op3 o x y z))) ∧ tPlain a = true := by
  simp only [mE] at h
  split at h
  · rename_i e1 e2 e3 hs
    have hp : tPlain a = true := by
      unfold sh3 at hs
      split at hs <;> first | rfl | (cases hs; done)
    refine ⟨?_, hp⟩
    obtain ⟨h1, h2⟩ := and2 h
    obtain ⟨h2, h3⟩ := and2 h2
    have hy := gy.val X sc W _ C h2
    have hz := gz.val X sc W _ C h3
    by_cases hb : ∃ i, x = .b i
    · obtain ⟨i, rfl⟩ := hb
      refine PE.imp (e_op3 C hs (nm_ok C h1).1 hy hz mono_Var mono_RdG mono_RdG) fun σ H Q q => ?_
      simp only [ev] at q
      exact op3b_ok q
    · refine PE.imp (e_op3 C hs (gx.val X sc W _ C (notB hb h1)) hy hz mono_RdG mono_RdG mono_RdG) fun σ H Q q => ?_
      rw [(ev3 o x y z).resolve_left hb] at q
      exact op3_ok q
  · cases h
theorem chain_ok {o p : O2} {x y z : Ex} (gx : Good G φ cls k N ms x) (gy : Good G φ cls k N ms y) (gz : Good G φ cls k N ms z) (C : Cg G φ cls k N X sc W) (h : mE G N ms sc (.chn o p x y z) a = true) :
    PE X a (RdG Fz ms W cls (ev φ (.chn o p x y z))) ∧ PT X a (RdT ms W cls fun ρ => tst (ev φ (.chn o p x y z) ρ)) := by
  have hu : X.A.units + 65 < cLine := by have := C.room.un; omega
  obtain ⟨e1, q1, q2, e2, e3, pos, rfl⟩ : ∃ e1 q1 q2 e2 e3 pos, a = .Compare e1 [q1, q2] [e2, e3] pos := by
    cases a with
    | Compare e1 qs es pos => match qs, es, h with
      | [q1, q2], [e2, e3], _ => exact ⟨_, _, _, _, _, _, rfl⟩
      | [], _, h => cases h
      | [_], _, h => cases h
      | _ :: _ :: _ :: _, _, h => cases h
      | [_, _], [], h => cases h
      | [_, _], [_], h => cases h
      | [_, _], _ :: _ :: _ :: _, h => cases h
    | _ => cases h
  simp only [mE] at h
  obtain ⟨h0, h1⟩ := and2 h
  obtain ⟨h1, h2⟩ := and2 h1
  obtain ⟨h2, h3⟩ := and2 h2
  obtain ⟨z1, z2, z3⟩ := of_decide_eq_true h0
  have hx := gx.val X sc W _ C h1
  have hy := gy.val X sc W _ C h2
  have hz := gz.val X sc W _ C h3
  refine ⟨PE.imp (pe_chain (cmp_op hu z1) (cmp_op hu z2) hx hy hz (nset_marks z3)) fun σ H Q q => ?_, PT.imp (pt_chain (cmp_op hu z1) (cmp_op hu z2) hx hy hz (nset_marks z3)) fun σ H Q q => ?_⟩
  · simp only [ev] at q
    exact chn_ok z1 z2 q
  · have q1 := tstB_ok (m := ev φ (.chn o p x y z)) (fun ρ d ρ' h => by
      simp only [ev] at h
      exact chn_bl z1 z2 ρ d ρ' h) q
    simp only [ev] at q1
    exact chn_ok z1 z2 q1
/-- x and y, x or y -/
def isBo : Ex → Bool
  | .and _ _ => true
  | .or _ _ => true
  | _ => false
structure GoodW (G : GI) (φ : Calls) (cls : Nat → Value) (k : Nat) (N : List Str) (ms : List Md) (e : Ex) : Prop where
  wh : ∀ (X : Cx) (sc : Scope) (W : WX) (op : BoolOp) (vs : List Expr) (pos : Pos), Cg G φ cls k N X sc W → mE G N ms sc e (.BoolOp op vs pos) = true → PW X (.BoolOp op vs pos) (RdT ms W cls fun ρ => tst (ev φ e ρ))
theorem and_good {x y : Ex} (gx : Good G φ cls k N ms x) (gy : Good G φ cls k N ms y) (wy : GoodW G φ cls k N ms y) : Good G φ cls k N ms (.and x y) ∧ GoodW G φ cls k N ms (.and x y) := by
  have W1 : GoodW G φ cls k N ms (.and x y) := ⟨fun X sc W op vs pos C h => by
    match op, vs, h with
    | .And, e1 :: e2 :: r, h =>
      simp only [mE] at h
      obtain ⟨h1, h2⟩ := and2 h
      obtain ⟨h1, ht1⟩ := and2 h1
      have A := gx.tst X sc W e1 C h1 ht1
      split at h2
      · rename_i hr
        obtain rfl : r = [] := List.isEmpty_iff.mp hr
        obtain ⟨h2, ht2⟩ := and2 h2
        have B := gy.tst X sc W e2 C h2 ht2
        refine ⟨fun wh pins s σ H Q I q => (pw_and A (pw_and1 B)).run wh pins s σ H Q I ?_⟩
        simp only [ev] at q
        exact andT_ok q
      · have B := wy.wh X sc W .And (e2 :: r) pos C h2
        refine ⟨fun wh pins s σ H Q I q => (pw_and A B).run wh pins s σ H Q I ?_⟩
        simp only [ev] at q
        exact andT_ok q
    | .And, [], h => cases h
    | .And, [_], h => cases h
    | .Or, _, h => cases h⟩
  refine ⟨⟨fun X sc W a C h => ?_, fun X sc W a C h ht => ?_⟩, W1⟩
  · cases a <;> first | (cases h; done) | skip
    rename_i op vs pos
    match op, vs, h with
    | .And, e1 :: e2 :: r, h =>
      simp only [mE] at h
      obtain ⟨h1, h2⟩ := and2 h
      obtain ⟨h1, ht1⟩ := and2 h1
      have A := gx.val X sc W e1 C h1
      split at h2
      · rename_i hr
        obtain rfl : r = [] := List.isEmpty_iff.mp hr
        obtain ⟨h2, ht2⟩ := and2 h2
        refine PE.imp (pe_andT A (pe_one (gy.val X sc W e2 C h2))) fun σ H Q q => ?_
        simp only [ev] at q
        exact and_ok q
      · refine PE.imp (pe_andT A (gy.val X sc W _ C h2)) fun σ H Q q => ?_
        simp only [ev] at q
        exact and_ok q
    | .And, [], h => cases h
    | .And, [_], h => cases h
    | .Or, _, h => cases h
  · cases a <;> first | (cases h; done) | skip
    exact (W1.wh X sc W _ _ _ C h).pt
theorem or_good {x y : Ex} (gx : Good G φ cls k N ms x) (gy : Good G φ cls k N ms y) (wy : GoodW G φ cls k N ms y) : Good G φ cls k N ms (.or x y) ∧ GoodW G φ cls k N ms (.or x y) := by
  have W1 : GoodW G φ cls k N ms (.or x y) := ⟨fun X sc W op vs pos C h => by
    match op, vs, h with
    | .Or, e1 :: e2 :: r, h =>
      simp only [mE] at h
      obtain ⟨h1, h2⟩ := and2 h
      obtain ⟨h1, ht1⟩ := and2 h1
      have A := gx.tst X sc W e1 C h1 ht1
      split at h2
      · rename_i hr
        obtain rfl : r = [] := List.isEmpty_iff.mp hr
        obtain ⟨h2, ht2⟩ := and2 h2
        have B := gy.tst X sc W e2 C h2 ht2
        refine ⟨fun wh pins s σ H Q I q => (pw_or A (pw_or1 B)).run wh pins s σ H Q I ?_⟩
        simp only [ev] at q
        exact orT_ok q
      · have B := wy.wh X sc W .Or (e2 :: r) pos C h2
        refine ⟨fun wh pins s σ H Q I q => (pw_or A B).run wh pins s σ H Q I ?_⟩
        simp only [ev] at q
        exact orT_ok q
    | .Or, [], h => cases h
    | .Or, [_], h => cases h
    | .And, _, h => cases h⟩
  refine ⟨⟨fun X sc W a C h => ?_, fun X sc W a C h ht => ?_⟩, W1⟩
  · cases a <;> first | (cases h; done) | skip
    rename_i op vs pos
    match op, vs, h with
    | .Or, e1 :: e2 :: r, h =>
      simp only [mE] at h
      obtain ⟨h1, h2⟩ := and2 h
      obtain ⟨h1, ht1⟩ := and2 h1
      have A := gx.val X sc W e1 C h1
      split at h2
      · rename_i hr
        obtain rfl : r = [] := List.isEmpty_iff.mp hr
        obtain ⟨h2, ht2⟩ := and2 h2
        refine PE.imp (pe_orT A (pe_one (gy.val X sc W e2 C h2))) fun σ H Q q => ?_
        simp only [ev] at q
        exact or_ok q
      · refine PE.imp (pe_orT A (gy.val X sc W _ C h2)) fun σ H Q q => ?_
        simp only [ev] at q
        exact or_ok q
    | .Or, [], h => cases h
    | .Or, [_], h => cases h
    | .And, _, h => cases h
  · cases a <;> first | (cases h; done) | skip
    exact (W1.wh X sc W _ _ _ C h).pt
theorem noW (h : ∀ (sc : Scope) (op : BoolOp) (vs : List Expr) (pos : Pos), mE G N ms sc e (.BoolOp op vs pos) = false) : GoodW G φ cls k N ms e := ⟨fun X sc W op vs pos C q => by rw [h] at q; cases q⟩
theorem not_good {x : Ex} (gx : Good G φ cls k N ms x) : Good G φ cls k N ms (.not x) := by
  refine ⟨fun X sc W a C h => ?_, fun X sc W a C h ht => ?_⟩
  · cases a <;> first | (cases h; done) | skip
    rename_i op v pos
    cases op <;> first | (cases h; done) | skip
    simp only [mE] at h
    obtain ⟨h1, h2⟩ := and2 h
    refine PE.imp (pe_notT (gx.opd C h1)) fun σ H Q q => ?_
    simp only [ev] at q
    exact not_ok (fl := true) q
  · cases a <;> first | (cases h; done) | skip
    rename_i op v pos
    cases op <;> first | (cases h; done) | skip
    simp only [mE] at h
    obtain ⟨h1, h2⟩ := and2 h
    refine PT.imp (pt_not (gx.opdT C h1 h2)) fun σ H Q q => ?_
    simp only [ev] at q
    exact notT_ok q
theorem ife_good {x y z : Ex} (gx : Good G φ cls k N ms x) (gy : Good G φ cls k N ms y) (gz : Good G φ cls k N ms z) : Good G φ cls k N ms (.ife x y z) := by
  refine ⟨fun X sc W a C h => ?_, fun X sc W a C h ht => ?_⟩
  · cases a <;> first | (cases h; done) | skip
    simp only [mE] at h
    obtain ⟨h1, h2⟩ := and2 h
    obtain ⟨h1, ht⟩ := and2 h1
    obtain ⟨h2, h3⟩ := and2 h2
    refine PE.imp (pe_ifExp (gx.opdT C h1 ht) (gy.val X sc W _ C h2) (gz.val X sc W _ C h3)) fun σ H Q q => ?_
    simp only [ev] at q
    exact ife_ok q
  · cases a <;> first | (cases h; done) | (cases ht; done)
end
end Bell
set_option Elab.async false
set_option linter.all false
set_option maxRecDepth 100000
set_option autoImplicit false
/-! Every expression, together. -/
namespace Bell
open PySem PySem.Spec PyProof.Rows L2
section
variable {G : GI} {φ : Calls} {cls : Nat → Value} {k : Nat} {N : List Str} {ms : List Md} {X : Cx} {sc : Scope} {W : WX} {e : Ex} {a : Expr}
abbrev GoodL (G : GI) (φ : Calls) (cls : Nat → Value) (k : Nat) (N : List Str) (ms : List Md) (es : List Ex) : Prop := ∀ e ∈ es, Good G φ cls k N ms e
theorem list_ok (C : Cg G φ cls k N X sc W) : ∀ {es : List Ex} {as : List Expr}, GoodL G φ cls k N ms es → mL G N ms sc es as = true → PA X as (RdL ms W cls (evL φ es))
  | [], [], _, _ => PA.imp pa_nil fun σ H Q q => by simp only [evL] at q; exact nil_ok q
  | [], _ :: _, _, h => by cases h
  | _ :: _, [], _, h => by cases h
  | e :: es, a :: as, g, h => by
    simp only [mL] at h
    obtain ⟨h1, h2⟩ := and2 h
    obtain ⟨h2, h3⟩ := and2 h2
    have A := (g e List.mem_cons_self).val X sc W a C h2
    have B := list_ok C (fun x hx => g x (List.mem_cons_of_mem _ hx)) h3
    refine PA.imp (pa_cons A B (star_cons h1)) fun σ H Q q => ?_
    simp only [evL] at q
    exact cons_ok q
theorem mL_nst : ∀ {es : List Ex} {as : List Expr}, mL G N ms sc es as = true → ∀ a ∈ as, nst a = true
  | [], [], _, _, h => by cases h
  | [], _ :: _, h, _, _ => by cases h
  | _ :: _, [], h, _, _ => by cases h
  | e :: es, a :: as, h, x, hx => by
    simp only [mL] at h
    obtain ⟨h1, h2⟩ := and2 h
    obtain ⟨h2, h3⟩ := and2 h2
    rcases List.mem_cons.mp hx with rfl | hx
    · exact h1
    · exact mL_nst h3 x hx
/-- the arguments of a call -/
theorem anil_ok {σ : L2.St} {H : Hp} {Q : List V → Hp → Prop} (h : RdV [] ms W cls (fun ρ => .ok [] ρ) σ H Q) : tNil σ H Q := by
  obtain ⟨c, ρ, F, E, p⟩ := h
  exact p H F E (Ext.refl _ _) [] .nil
theorem acons_ok {ma : Bell.Env → Out D} {ml : Bell.Env → Out (List Ov)} {sg : List Md} {σ : L2.St} {H : Hp} {Q : List V → Hp → Prop} (h : RdV (.fz :: sg) ms W cls (fun ρ => (ma ρ).bind fun d ρ => (ml ρ).bind fun r ρ => .ok (.d d :: r) ρ) σ H Q) : tCons (RdG Fz ms W cls ma) (RdV sg ms W cls ml) σ H Q := by
  obtain ⟨c, ρ, F, E, p⟩ := h
  refine ⟨c, ρ, F, E, (Post.bind p).mono fun dx ρ1 H1 F1 E1 e1 p1 x fx => ⟨c, ρ1, F1, E1, (Post.bind p1).mono fun ds ρ2 H2 F2 E2 e2 p2 xs fxs => ?_⟩⟩
  exact p2 H2 F2 E2 (Ext.refl _ _) _ (.d (fx.ext e2) fxs)
theorem abor_ok {ml : Bell.Env → Out (List Ov)} {sg : List Md} {i : Nat} {σ : L2.St} {H : Hp} {Q : List V → Hp → Prop} (h : RdV (.fz :: sg) ms W cls (fun ρ => (rd i ρ).bind fun _ ρ => (ml ρ).bind fun r ρ => .ok (.s i false :: r) ρ) σ H Q) : tCons (tVar i) (RdV sg ms W cls ml) σ H Q := by
  obtain ⟨c, ρ, F, E, p⟩ := h
  obtain ⟨d0, e0, p⟩ := rd_some (Post.bind p)
  have p := p H F E (Ext.refl _ _)
  obtain ⟨v, hv, _⟩ := E.get e0
  refine ⟨v, hv, c, ρ, F, E, (Post.bind p).mono fun ds ρ2 H2 F2 E2 e2 p2 xs fxs => ?_⟩
  exact p2 H2 F2 E2 (Ext.refl _ _) _ (.b hv fxs)
theorem aio_ok {ml : Bell.Env → Out (List Ov)} {sg : List Md} {m : Md} {i : Nat} (hm : m ≠ .fz) (he : ms.getD i .fz = m) {σ : L2.St} {H : Hp} {Q : List V → Hp → Prop} (h : RdV (m :: sg) ms W cls (fun ρ => (rd i ρ).bind fun _ ρ => (ml ρ).bind fun r ρ => .ok (.s i true :: r) ρ) σ H Q) : tCons (tVar i) (RdV sg ms W cls ml) σ H Q := by
  obtain ⟨c, ρ, F, E, p⟩ := h
  obtain ⟨d0, e0, p⟩ := rd_some (Post.bind p)
  have p := p H F E (Ext.refl _ _)
  obtain ⟨v, hv, _⟩ := E.get e0
  refine ⟨v, hv, c, ρ, F, E, (Post.bind p).mono fun ds ρ2 H2 F2 E2 e2 p2 xs fxs => ?_⟩
  exact p2 H2 F2 E2 (Ext.refl _ _) _ (.io hm he hv fxs)
theorem evA_cons {x : Ex} {es : List Ex} (h1 : ¬ ∃ i, x = .b i) (h2 : ¬ ∃ i, x = .io i) : evA φ (x :: es) = fun ρ => (ev φ x ρ).bind fun d ρ => (evA φ es ρ).bind fun r ρ => .ok (.d d :: r) ρ := by
  cases x <;> first
    | exact absurd ⟨_, rfl⟩ h1
    | exact absurd ⟨_, rfl⟩ h2
    | (funext ρ; simp only [evA]; done)
    | (funext ρ; simp only [evA]; rfl)
theorem args_pa (C : Cg G φ cls k N X sc W) : ∀ {sg : List Md} {es : List Ex} {as : List Expr}, GoodL G φ cls k N ms es → mA G N ms sc sg es as = true → PA X as (RdV sg ms W cls (evA φ es)) ∧ (∀ a ∈ as, nst a = true)
  | [], [], [], _, _ => ⟨PA.imp pa_nil fun σ H Q q => by simp only [evA] at q; exact anil_ok q, fun _ h => by cases h⟩
  | [], [], _ :: _, _, h => by cases h
  | [], _ :: _, [], _, h => by cases h
  | [], _ :: _, _ :: _, _, h => by cases h
  | m :: _, [], [], _, h => by cases m <;> cases h
  | m :: _, [], _ :: _, _, h => by cases m <;> cases h
  | m :: _, e :: _, [], _, h => by cases m <;> cases e <;> cases h
  | m :: sg, e :: es, a :: as, g, h => by
    have g2 : GoodL G φ cls k N ms es := fun x hx => g x (List.mem_cons_of_mem _ hx)
    by_cases hi : ∃ i, e = .io i
    · obtain ⟨i, rfl⟩ := hi
      by_cases hm : m = .fz
      · subst hm
        simp only [mA] at h
        obtain ⟨h1, h2⟩ := and2 h
        obtain ⟨h2, h3⟩ := and2 h2
        exfalso
        unfold opd at h2
        cases a <;> cases h2
      · have h' : (mNm N sc i a && (decide (m ≠ .fz) && (decide (ms.getD i .fz = m) && mA G N ms sc sg es as))) = true := by
          cases m with
          | fz => exact absurd rfl hm
          | _ => simpa only [mA] using h
        obtain ⟨h1, h2⟩ := and2 h'
        obtain ⟨h2, h3⟩ := and2 h2
        obtain ⟨h3, h4⟩ := and2 h3
        obtain ⟨B, nb⟩ := args_pa C g2 h4
        obtain ⟨A, na, _⟩ := nm_ok C h1
        refine ⟨PA.imp (pa_cons A B (star_cons na)) fun σ H Q q => ?_, fun x hx => ?_⟩
        · simp only [evA] at q
          exact aio_ok hm (of_decide_eq_true h3) q
        · rcases List.mem_cons.mp hx with rfl | hx
          · exact na
          · exact nb x hx
    · have hm : m = .fz := by
        cases m with
        | fz => rfl
        | _ => cases e <;> first | exact absurd ⟨_, rfl⟩ hi | cases h
      subst hm
      simp only [mA] at h
      obtain ⟨h1, h2⟩ := and2 h
      obtain ⟨h2, h3⟩ := and2 h2
      obtain ⟨B, nb⟩ := args_pa C g2 h3
      have nn : ∀ x ∈ a :: as, nst x = true := fun x hx => by
        rcases List.mem_cons.mp hx with rfl | hx
        · exact h1
        · exact nb x hx
      by_cases hb : ∃ i, e = .b i
      · obtain ⟨i, rfl⟩ := hb
        refine ⟨PA.imp (pa_cons (nm_ok C h2).1 B (star_cons h1)) fun σ H Q q => ?_, nn⟩
        simp only [evA] at q
        exact abor_ok q
      · have A := (g e List.mem_cons_self).val X sc W a C (notB hb h2)
        refine ⟨PA.imp (pa_cons A B (star_cons h1)) fun σ H Q q => ?_, nn⟩
        rw [evA_cons hb hi] at q
        exact acons_ok q
theorem evA_io : ∀ {es : List Ex} {ρ : Bell.Env} {os : List Ov} {ρ' : Bell.Env}, evA φ es ρ = .ok os ρ' → ioOv os = ioS es
  | [], ρ, os, ρ', h => by simp only [evA, Out.ok.injEq] at h; rw [← h.1]; rfl
  | e :: es, ρ, os, ρ', h => by
    by_cases hi : ∃ i, e = .io i
    · obtain ⟨i, rfl⟩ := hi
      simp only [evA] at h
      unfold rd at h
      split at h
      · simp only [Out.bind] at h
        cases q : evA φ es ρ with
        | ok r ρ2 =>
          rw [q] at h
          cases h
          simp only [ioOv, ioS]
          rw [evA_io q]
        | exc _ _ => rw [q] at h; cases h
        | stuck => rw [q] at h; cases h
      · cases h
    · by_cases hb : ∃ i, e = .b i
      · obtain ⟨i, rfl⟩ := hb
        simp only [evA] at h
        unfold rd at h
        split at h
        · simp only [Out.bind] at h
          cases q : evA φ es ρ with
          | ok r ρ2 =>
            rw [q] at h
            cases h
            simp only [ioOv, ioS]
            exact evA_io q
          | exc _ _ => rw [q] at h; cases h
          | stuck => rw [q] at h; cases h
        · cases h
      · rw [evA_cons hb hi] at h
        dsimp only at h
        have e2 : ioS (e :: es) = ioS es := by cases e <;> first | rfl | exact absurd ⟨_, rfl⟩ hi
        rw [e2]
        cases q1 : ev φ e ρ with
        | ok d ρ1 =>
          rw [q1] at h
          simp only [Out.bind] at h
          cases q : evA φ es ρ1 with
          | ok r ρ2 =>
            rw [q] at h
            cases h
            simp only [ioOv]
            exact evA_io q
          | exc _ _ => rw [q] at h; cases h
          | stuck => rw [q] at h; cases h
        | exc _ _ => rw [q1] at h; cases h
        | stuck => rw [q1] at h; cases h
theorem call_good {f : Nat} {es : List Ex} (g : GoodL G φ cls k N ms es) : Good G φ cls k N ms (.call f es) := by
  have key : ∀ (X : Cx) (sc : Scope) (W : WX) (a : Expr), Cg G φ cls k N X sc W → mE G N ms sc (.call f es) a = true → PE X a (RdG Fz ms W cls (ev φ (.call f es))) ∧ tPlain a = true := by
    intro X sc W a C h
    obtain ⟨x, p, as, pos, rfl⟩ : ∃ x p as pos, a = .Call (.Name x p) as [] pos := by
      cases a with
      | Call fn as kw pos => cases fn <;> first | (cases h; done) | (cases kw <;> first | (cases h; done) | exact ⟨_, _, _, _, rfl⟩)
      | _ => cases h
    refine ⟨?_, rfl⟩
    simp only [mE] at h
    split at h
    · rename_i nm sg hf
      obtain ⟨h1, z2⟩ := and2 h
      obtain ⟨h2, z3⟩ := and2 z2
      obtain ⟨h3, z4⟩ := and2 z3
      obtain ⟨h4, z5⟩ := and2 z4
      obtain ⟨h5, h6⟩ := and2 z5
      have h1 := of_decide_eq_true h1
      rw [← h1]
      cases as with
      | nil => cases h5
      | cons a as =>
        obtain ⟨A, na⟩ := args_pa C g h4
        refine PE.imp (e_call C hf (by rw [h1]; exact h2) (by rw [h1]; exact h3) A na fun ρ os ρ' q => ?_) fun σ H Q q => ?_
        · rw [evA_io q]
          exact of_decide_eq_true h6
        · simp only [ev] at q
          exact q
    · cases h
  exact ⟨fun X sc W a C h => (key X sc W a C h).1, fun X sc W a C h ht => plainT (key X sc W a C h).1 (key X sc W a C h).2⟩
theorem disp_good {es : List Ex} (g : GoodL G φ cls k N ms es) : Good G φ cls k N ms (.tupD es) ∧ Good G φ cls k N ms (.lstD es) := by
  refine ⟨⟨fun X sc W a C h => ?_, fun X sc W a C h ht => ?_⟩, ⟨fun X sc W a C h => ?_, fun X sc W a C h ht => ?_⟩⟩
  · cases a <;> first | (cases h; done) | skip
    simp only [mE] at h
    refine PE.imp (pe_tup (list_ok C g h)) fun σ H Q q => ?_
    simp only [ev] at q
    exact tup_ok q
  · cases a <;> first | (cases h; done) | (cases ht; done)
  · cases a <;> first | (cases h; done) | skip
    simp only [mE] at h
    refine PE.imp (pe_lst (list_ok C g h)) fun σ H Q q => ?_
    simp only [ev] at q
    exact lst_ok q
  · cases a <;> first | (cases h; done) | (cases ht; done)
theorem dic_good {t : Bool} : Good G φ cls k N ms (.dicE t) := by
  refine ⟨fun X sc W a C h => ?_, fun X sc W a C h ht => ?_⟩
  · obtain ⟨pos, rfl⟩ : ∃ pos, a = .Dict [] [] pos := by
      cases a with
      | Dict ks vs pos => match ks, vs, h with
        | [], [], _ => exact ⟨_, rfl⟩
        | _ :: _, _, h => cases h
        | [], _ :: _, h => cases h
      | _ => cases h
    cases t
    · refine PE.imp pe_dnewK fun σ H Q ⟨c, ρ, F, E, p⟩ q hq => ?_
      simp only [ev] at p
      have n : New (sOf c F) H (.ref q) (upd H q (.dK [])) (.dic false []) := .dK hq .nil
      exact p _ F (E.same n.keeps) (same_ext n.keeps) _ (n.fz E.dom)
    · refine PE.imp pe_dnewT fun σ H Q ⟨c, ρ, F, E, p⟩ q hq => ?_
      simp only [ev] at p
      have n : New (sOf c F) H (.ref q) (upd H q (.dT [])) (.dic true []) := .dT hq .nil
      exact p _ F (E.same n.keeps) (same_ext n.keeps) _ (n.fz E.dom)
  · cases a <;> first | (cases h; done) | (cases ht; done)
/-- what is walked -/
theorem evL_one (x : Ex) : evL φ [x] = one (ev φ x) := by
  funext ρ
  simp only [evL, one]
  cases ev φ x ρ <;> rfl
theorem evL_two (x y : Ex) : evL φ [x, y] = two (ev φ x) (ev φ y) := by
  funext ρ
  simp only [evL, two]
  cases ev φ x ρ with
  | ok d ρ1 =>
    simp only [Out.bind]
    cases ev φ y ρ1 <;> rfl
  | exc _ _ => rfl
  | stuck => rfl
theorem one_of {es : List Ex} {x : Expr} (h : mL G N ms sc es [x] = true) : ∃ e, es = [e] ∧ mE G N ms sc e x = true := by
  match es, h with
  | [e], h =>
    simp only [mL] at h
    exact ⟨e, rfl, (and2 (and2 h).2).1⟩
  | [], h => cases h
  | e :: f :: r, h =>
    simp only [mL] at h
    have := (and2 (and2 h).2).2
    cases this
theorem two_of {es : List Ex} {x y : Expr} (h : mL G N ms sc es [x, y] = true) : ∃ e f, es = [e, f] ∧ mE G N ms sc e x = true ∧ mE G N ms sc f y = true := by
  match es, h with
  | [], h => cases h
  | e :: es, h =>
    simp only [mL] at h
    obtain ⟨h1, z2⟩ := and2 h
    obtain ⟨h2, h3⟩ := and2 z2
    obtain ⟨f, ef, h4⟩ := one_of h3
    exact ⟨e, f, by rw [ef], h2, h4⟩
theorem i_rng3 (C : Cg G φ cls k N X sc W) {f : Str} {p pos : Pos} {x y z tg : Expr} {es : List Ex} (g : GoodL G φ cls k N ms es) (h : mL G N ms sc es [x, y, z] = true) (hh : (bi G sc f "range" && (nst x && (nst y && nst z))) = true) : PI X tg (.Call (.Name f p) [x, y, z] [] pos) (RdW ms W cls .rng3 (evL φ es)) := by
  obtain ⟨h1, h2⟩ := and2 hh
  obtain ⟨h2, h3⟩ := and2 h2
  obtain ⟨h3, h4⟩ := and2 h3
  obtain ⟨rfl, hg, hm⟩ := C.bi h1
  refine PI.imp (pi_range3 hg hm (list_ok C g h) (star_cons h2) (by rw [star_cons h3, star_cons h4]; rfl)) fun σ H R ⟨c, ρ, F, E, p⟩ => ⟨c, ρ, F, E, (Post.bind p).mono fun ds ρ1 H1 F1 E1 e1 p1 vs fv => ?_⟩
  obtain ⟨xs, ex, p2⟩ := items_some p1
  match ds, vs, fv, ex with
  | [.int i, .int j, .int l], [v1, v2, v3], .cons f1 (.cons f2 (.cons f3 .nil)), ex =>
    cases f1
    cases f2
    cases f3
    simp only [items] at ex
    split at ex
    · rename_i hz
      cases ex
      obtain ⟨q1, hz⟩ := and2 hz
      obtain ⟨q2, hz⟩ := and2 hz
      obtain ⟨q3, q4⟩ := and2 hz
      exact ⟨i, j, l, _, rfl, ⟨of_decide_eq_true q1, of_decide_eq_true q2, q3, (Int.toNat_of_nonneg (of_decide_eq_true q4)).symm⟩, p2 H1 F1 E1 (Ext.refl _ _) _ _ (wk_rngC _ _ _) trivial⟩
    · cases ex
theorem iter_ok (C : Cg G φ cls k N X sc W) {ik : IK} {it tg : Expr} {as : List Expr} {es : List Ex} (g : GoodL G φ cls k N ms es) (hs : shI G sc ik it = some as) (h : mL G N ms sc es as = true) : PI X tg it (RdW ms W cls ik (evL φ es)) := by
  unfold shI at hs
  split at hs
  · cases hs
    obtain ⟨e, rfl, he⟩ := one_of h
    rw [evL_one]
    exact i_lst ((g e List.mem_cons_self).val X sc W _ C he)
  · cases hs
    obtain ⟨e, rfl, he⟩ := one_of h
    rw [evL_one]
    exact i_tup ((g e List.mem_cons_self).val X sc W _ C he)
  · cases hs
    obtain ⟨e, rfl, he⟩ := one_of h
    rw [evL_one]
    exact i_scr ((g e List.mem_cons_self).val X sc W _ C he)
  · split at hs
    · rename_i z
      cases hs
      obtain ⟨e, rfl, he⟩ := one_of h
      rw [evL_one]
      exact i_rng1 C ((g e List.mem_cons_self).val X sc W _ C he) z
    · cases hs
  · split at hs
    · rename_i z
      cases hs
      obtain ⟨e, f, rfl, he, hf⟩ := two_of h
      rw [evL_two]
      exact i_rng2 C ((g e List.mem_cons_self).val X sc W _ C he) ((g f (List.mem_cons_of_mem _ List.mem_cons_self)).val X sc W _ C hf) z
    · cases hs
  · split at hs
    · rename_i z
      cases hs
      exact i_rng3 C g h z
    · cases hs
  · split at hs
    · rename_i z
      cases hs
      obtain ⟨e, rfl, he⟩ := one_of h
      rw [evL_one]
      exact i_rev C ((g e List.mem_cons_self).val X sc W _ C he) z
    · cases hs
  · cases hs
def condM (φ : Calls) (cond : Option Ex) (ρ : Bell.Env) : Out Bool := match cond with
  | none => .ok true ρ
  | some c => tst (ev φ c ρ)
theorem ev_lc {own : List Nat} {tg : Tg} {ik : IK} {its : List Ex} {cond : Option Ex} {elt : Ex} : ev φ (.lc own tg ik its cond elt) = lcM own tg ik (evL φ its) (condM φ cond) (ev φ elt) := by
  funext ρ
  cases cond <;> (simp only [ev]; rfl)
theorem lc_form {own : List Nat} {tg : Tg} {ik : IK} {its : List Ex} {cond : Option Ex} {elt : Ex} (h : mE G N ms sc (.lc own tg ik its cond elt) a = true) : ∃ e1 t it ifs scope pos, a = .ListComp e1 [⟨t, it, ifs, 0⟩] scope pos := by
  cases a with
  | ListComp e1 gs scope pos => match gs, h with
    | [⟨t, it, ifs, 0⟩], _ => exact ⟨_, _, _, _, _, _, rfl⟩
    | [], h => cases h
    | [⟨t, it, ifs, Int.ofNat (n + 1)⟩], h => cases h
    | [⟨t, it, ifs, Int.negSucc n⟩], h => cases h
    | ⟨t, it, ifs, Int.ofNat (n + 1)⟩ :: _ :: _, h => cases h
    | ⟨t, it, ifs, Int.ofNat 0⟩ :: _ :: _, h => cases h
    | ⟨t, it, ifs, Int.negSucc n⟩ :: _ :: _, h => cases h
  | _ => cases h
theorem lc_eq {own : List Nat} {tg : Tg} {ik : IK} {its : List Ex} {cond : Option Ex} {elt : Ex} {e1 t it : Expr} {ifs : List Expr} {scope : Scope} {pos : Pos} : mE G N ms sc (.lc own tg ik its cond elt) (.ListComp e1 [⟨t, it, ifs, 0⟩] scope pos) = ((nset it && (match shI G sc ik it with
    | some as => mL G N ms sc its as
    | none => false)) && (blkC N sc scope (ownN N own) && (own.all (fun i => decide (i < N.length) && decide (ms.getD i .fz = .fz)) && (mT N scope tg t && ((tgSlots tg).all (fun i => decide (i ∈ own)) &&
    ((match cond, ifs with
      | none, [] => true
      | some c, [e] => opd N scope c e (mE G N ms scope c e) && tOk e
      | _, _ => false) && mE G N ms scope elt e1)))))) := by
  cases cond with
  | none => cases ifs with
    | nil => rfl
    | cons x r => rfl
  | some c => cases ifs with
    | nil => rfl
    | cons x r => cases r <;> rfl
/-- the parts of a comprehension -/
theorem lc_parts {own : List Nat} {tg : Tg} {ik : IK} {its : List Ex} {cond : Option Ex} {elt : Ex} {e1 t it : Expr} {ifs : List Expr} {scope : Scope} {pos : Pos} (C : Cg G φ cls k N X sc W) (gi : GoodL G φ cls k N ms its) (gc : ∀ c, cond = some c → Good G φ cls k N ms c) (ge : Good G φ cls k N ms elt)
    (h : mE G N ms sc (.lc own tg ik its cond elt) (.ListComp e1 [⟨t, it, ifs, 0⟩] scope pos) = true) :
    PI X t it (RdW ms W cls ik (evL φ its)) ∧ blkC N sc scope (ownN N own) = true ∧ nset it = true ∧ (∀ i ∈ own, ms.getD i .fz = .fz ∧ i < N.length) ∧ (∀ i ∈ tgSlots tg, i ∈ own) ∧ mT N scope tg t = true ∧
      (∀ X', Cg G φ cls k N X' scope WF → X'.K = X.K → PTs X' ifs (RdT ms WF cls (condM φ cond))) ∧ ∀ X', Cg G φ cls k N X' scope WF → PE X' e1 (RdG Fz ms WF cls (ev φ elt)) := by
  rw [lc_eq] at h
  obtain ⟨z1, z2⟩ := and2 h
  obtain ⟨h1, h1'⟩ := and2 z1
  obtain ⟨h2, z3⟩ := and2 z2
  obtain ⟨h3, z4⟩ := and2 z3
  obtain ⟨h4, z5⟩ := and2 z4
  obtain ⟨h5, z6⟩ := and2 z5
  obtain ⟨h6, h7⟩ := and2 z6
  refine ⟨?_, h2, h1, fun i hi => ?_, fun i hi => ?_, h4, fun X' C' _ => ?_, fun X' C' => ge.val X' scope WF _ C' h7⟩
  · split at h1'
    · rename_i as hs
      exact iter_ok C gi hs h1'
    · cases h1'
  · have := List.all_eq_true.mp h3 i hi
    obtain ⟨a, b⟩ := and2 this
    exact ⟨of_decide_eq_true b, of_decide_eq_true a⟩
  · exact of_decide_eq_true (List.all_eq_true.mp h5 i hi)
  · cases cond with
    | none =>
      match ifs, h6 with
      | [], _ =>
        refine PTs.imp pts_nil fun σ H Q ⟨c, ρ, F, E, p⟩ => ?_
        exact p H F E (Ext.refl _ _)
      | _ :: _, h => cases h
    | some c =>
      match ifs, h6 with
      | [x], h6 =>
        obtain ⟨a, b⟩ := and2 h6
        exact pts_one ((gc c rfl).opdT C' a b)
      | [], h => cases h
      | _ :: _ :: _, h => cases h
theorem lc_good {own : List Nat} {tg : Tg} {ik : IK} {its : List Ex} {cond : Option Ex} {elt : Ex} (gi : GoodL G φ cls k N ms its) (gc : ∀ c, cond = some c → Good G φ cls k N ms c) (ge : Good G φ cls k N ms elt) : Good G φ cls k N ms (.lc own tg ik its cond elt) := by
  have key : ∀ (X : Cx) (sc : Scope) (W : WX) (a : Expr), Cg G φ cls k N X sc W → mE G N ms sc (.lc own tg ik its cond elt) a = true → PE X a (RdG Fz ms W cls (ev φ (.lc own tg ik its cond elt))) ∧ tPlain a = true := by
    intro X sc W a C h
    obtain ⟨e1, t, it, ifs, scope, pos, rfl⟩ := lc_form h
    refine ⟨?_, rfl⟩
    obtain ⟨p1, p2, p3, p4, p5, p6, p7, p8⟩ := lc_parts C gi gc ge h
    rw [ev_lc]
    exact e_lc C p1 p2 p3 p4 p5 p6 p7 p8
  exact ⟨fun X sc W a C h => (key X sc W a C h).1, fun X sc W a C h ht => plainT (key X sc W a C h).1 (key X sc W a C h).2⟩
section
variable {c : Fc} {σ : L2.St} {H H' : Hp} {ρ ρ' : Bell.Env} {F : Nat → List Addr} {i : Nat} {v : V} {d : D}
/-- the own list of a slot is changed -/
theorem EnvOk.write (E : EnvOk c ms σ H ρ F) {a : Addr} {vs : List V} {ds : List D} (hm : ms.getD i .fz = .li) (hd : ρ[i]? = some (some d)) (hv : σ[i]? = some (some (.ref a))) (f : FzL (sOf c F) H vs ds) : EnvOk c ms σ (upd H a (.lst vs)) (ρ.set i (some (.lst ds))) F ∧ Ext (sOf c F) H (sOf c F) (upd H a (.lst vs)) := by
  obtain ⟨v', hv', w⟩ := E.slot i d hd
  rw [hv] at hv'
  cases hv'
  rw [hm] at w
  have hF : F i = [a] := by
    generalize F i = l at w
    cases w
    rfl
  have ha : a ∈ F i := by rw [hF]; exact List.mem_singleton.mpr rfl
  have hi : i < ρ.length := (List.getElem?_eq_some_iff.mp hd).1
  have hS : sOf c F a := .inr ⟨i, ha⟩
  have ex : Ext (sOf c F) H (sOf c F) (upd H a (.lst vs)) := Ext.own hS
  refine ⟨⟨fun b h => ?_, by rw [List.length_set]; exact E.len, fun j d' h => ?_, fun j h => ?_, E.dj, E.out, E.new, fun b u h nb => ?_, E.pin, E.sl, c.TE _ _ _ _ E.tt ex⟩, ex⟩
  · obtain ⟨u, e, x, t⟩ := E.held b h
    have : b ≠ a := fun z => E.out i a ha (z ▸ h)
    exact ⟨u, by rw [upd_ne this]; exact e, x, t⟩
  · by_cases hj : i = j
    · subst hj
      rw [List.getElem?_set_self hi] at h
      cases h
      refine ⟨_, hv, ?_⟩
      rw [hm, hF]
      exact .li upd_same (f.ext ex)
    · rw [List.getElem?_set_ne hj] at h
      obtain ⟨x, hx, ow⟩ := E.slot j d' h
      refine ⟨x, hx, ow.ext ex fun b u hb e => ?_⟩
      rw [upd_ne fun z : b = a => hj (E.dj i j a ha (by rw [← z]; exact hb))]
      exact e
  · by_cases hj : i = j
    · subst hj
      exact absurd (List.getElem?_set_self hi) (h _)
    · exact E.nof j fun d z => h d (by rw [List.getElem?_set_ne hj]; exact z)
  · have e := E.keep b u h nb
    have : b ≠ a := fun z => by
      rcases E.new i a ha with q | q
      · exact nb (z ▸ q)
      · rw [z, q] at h; cases h
    rw [upd_ne this]
    exact e
end
theorem FzL.last {S : Addr → Prop} {H : Hp} : ∀ {vs : List V} {ds : List D} {d : D}, FzL S H vs ds → ds.getLast? = some d → ∃ v, vs[vs.length - 1]? = some v ∧ Fz S H v d := by
  intro vs ds d f e
  rw [List.getLast?_eq_getElem?, ← f.length] at e
  exact f.get e
theorem pop_good {i : Nat} : Good G φ cls k N ms (.pop i) := by
  have key : ∀ (X : Cx) (sc : Scope) (W : WX) (a : Expr), Cg G φ cls k N X sc W → mE G N ms sc (.pop i) a = true → PE X a (RdG Fz ms W cls (ev φ (.pop i))) ∧ tPlain a = true := by
    intro X sc W a C h
    obtain ⟨o, f, ap, cp, rfl⟩ : ∃ o f ap cp, a = .Call (.Attribute o f ap) [] [] cp := by
      cases a with
      | Call g as ks cp => cases g with
        | Attribute o f ap => match as, ks, h with
          | [], [], _ => exact ⟨_, _, _, _, rfl⟩
          | [], _ :: _, h => cases h
          | _ :: _, _, h => cases h
        | _ => cases h
      | _ => cases h
    simp only [mE] at h
    obtain ⟨h1, z⟩ := and2 h
    obtain ⟨h2, z⟩ := and2 z
    obtain ⟨h3, h4⟩ := and2 z
    have hm := of_decide_eq_true h2
    have h3 := of_decide_eq_true h3
    subst h3
    refine ⟨?_, rfl⟩
    refine PE.imp (pe_bm0 PySem.F.plainAttrs_list PySem.F.slot_list_pop PySem.F.type_list_pop mt_pop (nm_ok C h1).1 (by unfold mNm at h1; cases o <;> first | rfl | cases h1) h4) fun σ H Q ⟨c, ρ, F, E, p⟩ => ?_
    simp only [ev] at p
    split at p
    · rename_i xs hx
      split at p
      · rename_i x hl
        obtain ⟨v, hv, w⟩ := E.get hx
        rw [hm] at w
        generalize F i = A at w
        cases w with
        | li ha fa =>
          obtain ⟨u, hu, fu⟩ := fa.last hl
          obtain ⟨E', ex⟩ := E.write (vs := _) (ds := xs.dropLast) hm hx hv fa.dropLast
          exact ⟨_, hv, .inl ⟨rfl, _, SqL.of ha⟩, _, _, u, rfl, rfl, ha, hu, p _ _ E' ex _ (fu.ext ex)⟩
      · exact p.elim
    · exact p.elim
  exact ⟨fun X sc W a C h => (key X sc W a C h).1, fun X sc W a C h ht => plainT (key X sc W a C h).1 (key X sc W a C h).2⟩
/-- {k: v}, k a tuple of ints and texts -/
theorem pe_disp1 {X : Cx} {kx vx : Expr} {tk tv : TE} {pos : Pos} (hu : X.A.units + 1 < cLine) (hk : PE X kx tk) (hv : PE X vx tv) : PE X (.Dict [some kx] [vx] pos) (fun σ H Q => ∀ p, H p = none → tk σ (upd H p (.dT [])) fun x H1 => tv σ H1 fun y H2 =>
    H2 p = some (.dT []) ∧ ∃ ks b, x = .ref b ∧ H2 b = some (.tup (ks.map kV)) ∧ Q (.ref p) (upd H2 p (.dT [(ks, y)]))) := by
  refine ⟨fun pins s σ H Q I q => ?_⟩
  have hn := I.hok.fresh (Nat.le_refl s.heap.objs.size)
  have I1 := I.laid (a := s.heap.objs.size) (o := .dT []) (h' := s.heap.push { cls := .type "dict", data := .dict #[] }) (t' := s.toks) (fun _ _ z => Heap.get?_push_of_some _ z) (Nat.le_refl _) (dt_empty s.heap I.big)
  have hall : ([some kx] : List (Option Expr)).all (·.isSome) = true := rfl
  have hlen : (pairTrees [some kx] [vx] X.env pos).length = 1 := pairTrees_length _ _ _ _ hall rfl
  rw [arm_eval_Dict, zip_pairTrees _ _ _ _ hall rfl, dictDisplay_pairs (pairTrees [some kx] [vx] X.env pos) (fun z => by rw [z] at hlen; cases hlen) (by rw [hlen]; decide)]
  refine wpAny_bind (wpAny_standAt (wpAny_bind (wpAny_subDictH (knd := tupleKind (mixKind X.prog X.w)) (Q := fun d s' => wpAny (model X.prog X.w) X.A (pure (Value.ref d)) (EP X pins σ Q) X.xe s') (by show X.A.units < cLine; omega) (by rw [hlen]; decide) ?_)))
  refine pairTrees_cons_walk (thn (hk.run pins _ σ _ _ I1 (q _ hn)) fun u s1 ⟨x, H1, J1, rx, q1⟩ => thn (hv.run pins s1 σ H1 _ J1 q1) fun w s2 ⟨y, H2, J2, ry, hp, ks, b, ex, hb, q2⟩ => pairTrees_nil_walk ?_)
  subst ex
  obtain rfl : u = Value.ref b := rx
  obtain ⟨small, nsys, xs, rel, dd⟩ := dt_of J2.hok hp
  have ex : xs = [] := by
    have := Paired.length rel
    cases xs with
    | nil => rfl
    | cons _ _ => cases this
  subst ex
  refine ⟨[(ks, b, w)], ⟨rfl, rfl, key_of J2.hok hb, trivial⟩, dd, fun h' tk dk hs => wpAny_pure ⟨.ref s.heap.objs.size, _, ?_, rfl, q2⟩⟩
  obtain ⟨qo, es, ep, hq, h2, h3, h4, _, h5⟩ := dk
  refine d_write J2 (by rw [hp]; exact True.intro) hs ⟨qo, hq⟩ ⟨by rw [sizeLine_eq]; show 1 ≤ _; omega, nsys, [(ks, b, w)], .cons ⟨rfl, ?_, ry⟩ .nil, qo, es, ep, hq, h2, h3, h4, h5⟩
  rw [upd_ne (ne_of hb hp (fun z => nomatch z))]
  exact hb
/-- a display of one pair, as a new thing -/
theorem dic1_new {t : Bool} {x y : Ex} (gx : Good G φ cls k N ms x) (gy : Good G φ cls k N ms y) (C : Cg G φ cls k N X sc W) (h : mE G N ms sc (.dic1 t x y) a = true) : PE X a (fun σ H Q => ∃ (c : Fc) (ρ : Bell.Env) (F : Nat → List Addr), EnvOk c ms σ H ρ F ∧ Post c ms W cls σ (sOf c F) H (fun d _ H' F' => ∀ q, H' q = none →
    (∀ kvs es, t = true → d = .dic true es → FzT (sOf c F') H' kvs es → Q (.ref q) (upd H' q (.dT kvs))) ∧ ∀ kvs es, t = false → d = .dic false es → FzK (sOf c F') H' kvs es → Q (.ref q) (upd H' q (.dK kvs))) (ev φ (.dic1 t x y) ρ)) := by
  obtain ⟨ke, ve, pos, rfl⟩ : ∃ ke ve pos, a = .Dict [some ke] [ve] pos := by
    cases a with
    | Dict ks vs pos => match ks, vs, h with
      | [some ke], [ve], _ => exact ⟨_, _, _, rfl⟩
      | [], _, h => cases h
      | none :: _, _, h => cases h
      | [some _], [], h => cases h
      | [some _], _ :: _ :: _, h => cases h
      | some _ :: _ :: _, _, h => cases h
    | _ => cases h
  simp only [mE] at h
  obtain ⟨h1, h2⟩ := and2 h
  have hu := C.room.un
  have A := gx.val X sc W ke C h1
  have B := gy.val X sc W ve C h2
  have o0 : ∃ o0 : HO, NT o0 ∧ (t = true → o0 = .dT []) ∧ (t = false → o0 = .dK []) := by
    cases t
    · exact ⟨.dK [], trivial, (fun z => by cases z), fun _ => rfl⟩
    · exact ⟨.dT [], trivial, (fun _ => rfl), (fun z => by cases z)⟩
  obtain ⟨o0, nt, o1, o2⟩ := o0
  -- the run beside the new dict
  have go : ∀ {σ : L2.St} {H : Hp} {Q : VK} {R : V → V → Hp → Prop}, (∃ (c : Fc) (ρ : Bell.Env) (F : Nat → List Addr), EnvOk c ms σ H ρ F ∧ Post c ms W cls σ (sOf c F) H (fun d _ H' F' => ∀ q, H' q = none →
      (∀ kvs es, t = true → d = .dic true es → FzT (sOf c F') H' kvs es → Q (.ref q) (upd H' q (.dT kvs))) ∧ ∀ kvs es, t = false → d = .dic false es → FzK (sOf c F') H' kvs es → Q (.ref q) (upd H' q (.dK kvs))) (ev φ (.dic1 t x y) ρ)) → ∀ q, H q = none →
      (∀ (S : Addr → Prop) (H2 : Hp) (u w : V) (dk dv : Bell.D), H2 q = some o0 → Fz S H2 u dk → isKey t dk = true →
        (t = true → ∀ ks, dk = tD ks → Q (.ref q) (upd H2 q (.dT [(ks, w)]))) → (t = false → ∀ ks, dk = kD ks → Q (.ref q) (upd H2 q (.dK [(ks, w)]))) → R u w H2) →
      RdG Fz ms W cls (ev φ x) σ (upd H q o0) fun u H1 => RdG Fz ms W cls (ev φ y) σ H1 fun w H2 => R u w H2 := by
    intro σ H Q R ⟨c, ρ, F, E, p⟩ q hq fin
    simp only [ev] at p
    have E1 := H_in (o := o0) E hq nt
    have hS0 : ¬ c.S0 q := fun z => by
      obtain ⟨o, e, _⟩ := E.held q z
      rw [hq] at e; cases e
    have h0 : ∀ b u, c.H0 b = some u → b ∉ c.I0 → b ≠ q := fun b u a n => ne_of_none (E.keep b u a n) hq
    have ex1 : Ext (sOf c F) H (sOf (c.hold q o0) F) (upd H q o0) := fun b o h n => ⟨.inl (by rw [upd_ne (ne_of_none h hq)]; exact h), fun z => (sOf_hold.mp z).elim n (ne_of_none h hq)⟩
    refine ⟨c.hold q o0, ρ, F, E1, ?_⟩
    cases q1 : ev φ x ρ with
    | stuck => rw [q1] at p; exact p.elim
    | exc kk ρ1 =>
      rw [q1] at p
      exact fun H' F' E' => p H' F' (H_drop E' hS0)
    | ok dk ρ1 =>
      rw [q1] at p
      simp only [Out.bind] at p
      intro H1 F1 E1' e1 u fu
      refine ⟨c.hold q o0, ρ1, F1, E1', ?_⟩
      cases q2 : ev φ y ρ1 with
      | stuck => rw [q2] at p; exact p.elim
      | exc kk ρ2 =>
        rw [q2] at p
        exact fun H' F' E' => p H' F' (H_drop E' hS0)
      | ok dv ρ2 =>
        rw [q2] at p
        intro H2 F2 E2 e2 w fw
        dsimp only at p
        split at p
        · rename_i hk
          obtain ⟨E3, x3⟩ := H_del E2 hS0 h0
          have ex : Ext (sOf c F) H (sOf c F2) (del H2 q) := ((ex1.trans e1).trans e2).trans x3
          obtain ⟨k1, k2⟩ := p _ _ E3 ex q del_same
          refine fin _ H2 u w dk dv (H_at E2) (fu.ext e2) hk (fun ht ks ek => ?_) fun ht ks ek => ?_
          · have := k1 [(ks, w)] [(dk, dv)] ht (by rw [ht]) (by rw [ek]; exact .cons (fw.ext x3) .nil)
            rwa [upd_del] at this
          · have := k2 [(ks, w)] [(dk, dv)] ht (by rw [ht]) (by rw [ek]; exact .cons (fw.ext x3) .nil)
            rwa [upd_del] at this
        · exact p.elim
  cases t with
  | true =>
    refine PE.imp (pe_disp1 (by omega) A B) fun σ H Q hh q hq => ?_
    have := go hh q hq (R := fun u w H2 => H2 q = some (.dT []) ∧ ∃ ks b, u = .ref b ∧ H2 b = some (.tup (ks.map kV)) ∧ Q (.ref q) (upd H2 q (.dT [(ks, w)]))) fun S H2 u w dk dv a1 a2 a3 a4 _ => by
      obtain ⟨ks, ek⟩ := isKey_t a3
      obtain ⟨b, rfl, hb⟩ := Bz.keyT (.fz a2) ek
      exact ⟨by rw [a1, o1 rfl], ks, b, rfl, hb, a4 rfl ks (tO_some ek)⟩
    rw [o1 rfl] at this
    exact this
  | false =>
    refine PE.imp (pe_disp (pps_cons A B pps_nil) rfl rfl (fun z => by cases z) (by show 1 ≤ 15; decide)) fun σ H Q hh q hq => ?_
    have := go hh q hq (R := fun u w H2 => H2 q = some (.dK []) ∧ ∃ kvs : List (Key × V), [(u, w)] = kvs.map (fun kv => (kV kv.1, kv.2)) ∧ kvs.length ≤ 15 ∧ Q (.ref q) (upd H2 q (.dK (mergeK [] kvs)))) fun S H2 u w dk dv a1 a2 a3 _ a4 => by
      obtain ⟨ks, ek⟩ := isKey_k a3
      cases Bz.keyK (.fz a2) ek
      exact ⟨by rw [a1, o2 rfl], [(ks, w)], rfl, (by show 1 ≤ 15; decide), a4 rfl ks (kO_some ek)⟩
    rw [o2 rfl] at this
    exact this
theorem dic1_good {t : Bool} {x y : Ex} (gx : Good G φ cls k N ms x) (gy : Good G φ cls k N ms y) : Good G φ cls k N ms (.dic1 t x y) := by
  have key : ∀ (X : Cx) (sc : Scope) (W : WX) (a : Expr), Cg G φ cls k N X sc W → mE G N ms sc (.dic1 t x y) a = true → PE X a (RdG Fz ms W cls (ev φ (.dic1 t x y))) := by
    intro X sc W a C h
    refine PE.imp (dic1_new gx gy C h) fun σ H Q ⟨c, ρ, F, E, p⟩ => ⟨c, ρ, F, E, ?_⟩
    cases q1 : ev φ (.dic1 t x y) ρ with
    | stuck => rw [q1] at p; exact p.elim
    | exc kk ρ' => rw [q1] at p; exact p
    | ok d ρ' =>
      rw [q1] at p
      intro H' F' E' e' q hq
      refine ⟨fun kvs es ht hd f => ?_, fun kvs es ht hd f => ?_⟩
      · subst hd
        have n : New (sOf c F') H' (.ref q) (upd H' q (.dT kvs)) (.dic true es) := .dT hq f
        exact p _ _ (E'.same n.keeps) (e'.trans (same_ext n.keeps)) _ (n.fz E'.dom)
      · subst hd
        have n : New (sOf c F') H' (.ref q) (upd H' q (.dK kvs)) (.dic false es) := .dK hq f
        exact p _ _ (E'.same n.keeps) (e'.trans (same_ext n.keeps)) _ (n.fz E'.dom)
  exact ⟨key, fun X sc W a C h ht => by
    cases a <;> first | (cases ht; done) | (cases h; done)⟩
/-- a comprehension over a dict's keys: the dict is locked, or to be locked meanwhile -/
theorem lcd_ok {c : Fc} {own : List Nat} {tg : Tg} {i : Nat} {mt : Bell.Env → Out Bool} {me : Bell.Env → Out D} {K : PySem.W.Frag} {σ : L2.St} {H : Hp} {Q : VK} (hm : ms.getD i .fz = .fz) (hown : ∀ i ∈ own, ms.getD i .fz = .fz ∧ i < σ.length) (htg : ∀ i ∈ tgSlots tg, i ∈ own)
    (q : RdG Fz ms W cls (lcdM own tg i mt me) σ H Q) : tLc (iKeys (tVar i)) (gT K tg) (RdT ms WF cls mt) (RdG Fz ms WF cls me) own σ H Q ∨
      ∃ a u, H a = some u ∧ Mut (some u) ∧ ∀ od, tLc (iKeys (tVar i)) (gT K tg) (RdT ms WF cls mt) (RdG Fz ms WF cls me) own σ (upd H a (.frz od u)) (fun v H' => H' a = some (.frz od u) ∧ Q v (upd H' a u)) := by
  obtain ⟨c, ρ, F, E, p⟩ := q
  unfold lcdM at p
  obtain ⟨d, ed, p⟩ := rd_some (Post.bind p)
  have p := p H F E (Ext.refl _ _)
  cases d with
  | dic tt es =>
    dsimp only at p
    obtain ⟨v, hv, w⟩ := E.get ed
    rw [hm] at w
    have f := w.unfz.1
    obtain ⟨a, rfl, na, hl⟩ := lockable f
    rcases hl with ⟨od, u, hu⟩ | ⟨u, hu, du, mu⟩
    · left
      exact ⟨_, hv, keys_at f hu fun J T wk t1 => lc_core (K := K) hown htg E (Ext.refl _ _) wk t1 p⟩
    · refine .inr ⟨a, u, hu, mu, fun od => ?_⟩
      have E' := E_lock (od := od) E hu du na
      have f' := f.ext (lock_ext (od := od) hu du)
      have h0 : ∀ o, c.H0 a = some o → a ∉ c.I0 → o = u := fun o e nb => by
        have := E.keep a o e nb
        rw [hu] at this
        exact (Option.some.inj this).symm
      have P' : Post (c.lock a od u) ms W cls σ (sOf (c.lock a od u) F) (upd H a (.frz od u)) (fun d _ H' F' => ∀ v, Fz (sOf (c.lock a od u) F') H' v d → (fun v H' => H' a = some (.frz od u) ∧ Q v (upd H' a u)) v H') (match lcGo own (lcF tg mt me) (es.map (·.1)) ρ with
          | .ok ys ρ1 => if ys.length ≤ sizeLine then .ok (.lst ys) (restE ρ ρ1 own) else .stuck
          | _ => .stuck) := by
        cases ql : lcGo own (lcF tg mt me) (es.map (·.1)) ρ with
        | stuck => rw [ql] at p; exact p.elim
        | exc _ _ => rw [ql] at p; exact p.elim
        | ok ys ρ1 =>
          rw [ql] at p
          dsimp only at p ⊢
          split at p
          · rename_i hz
            rw [if_pos hz]
            intro H' F' E2 e2 v fv
            obtain ⟨h1, n1, E3⟩ := E_unlock E2 du h0
            exact ⟨h1, p _ _ E3 (unlock_ext hu na e2) v (fv.unl (unl_upd h1 du))⟩
          · exact p.elim
      exact ⟨_, hv, keys_at f' upd_same fun J T wk t1 => lc_core (K := K) (c := c.lock a od u) hown htg E' (Ext.refl _ _) wk t1 P'⟩
  | _ => exact p.elim
theorem e_lcd (C : Cg G φ cls k N X sc W) {t it elt : Expr} {ifs : List Expr} {pos : Pos} {scope : Scope} {own : List Nat} {tg : Tg} {i : Nat} {mt : Bell.Env → Out Bool} {me : Bell.Env → Out D} (hnm : mNm N sc i it = true) (hm : ms.getD i .fz = .fz) (ok : blkC N sc scope (ownN N own) = true) (hown : ∀ i ∈ own, ms.getD i .fz = .fz ∧ i < N.length) (htg : ∀ i ∈ tgSlots tg, i ∈ own)
    (hT : mT N scope tg t = true) (ht : ∀ X', Cg G φ cls k N X' scope WF → X'.K = X.K → PTs X' ifs (RdT ms WF cls mt)) (he : ∀ X', Cg G φ cls k N X' scope WF → PE X' elt (RdG Fz ms WF cls me)) :
    PE X (.ListComp elt [⟨t, it, ifs, 0⟩] scope pos) (RdG Fz ms W cls (lcdM own tg i mt me)) := by
  have hnd : X.N.Nodup := by rw [C.hN]; exact C.nd
  have base := pe_lc (pos := pos) (g := gT X.K tg) C.calm hnd (pi_keys (tg := t) (nm_ok C hnm).1) (C.blkOk ok) (fun s H Ca cl fp => g_tg (C.blk s H Ca cl fp) hT) (fun s H Ca cl fp => ht _ (C.blk s H Ca cl fp) rfl) (fun s H Ca cl fp => he _ (C.blk s H Ca cl fp)) (fun x => by
    unfold mNm at hnm
    cases it <;> first | rfl | cases hnm)
  refine ⟨fun pins s σ H Q I q => ?_⟩
  have hl0 : σ.length = N.length := by rw [I.len, C.hN]
  have hown' : ∀ i ∈ own, ms.getD i .fz = .fz ∧ i < σ.length := fun i hi => ⟨(hown i hi).1, by rw [hl0]; exact (hown i hi).2⟩
  rcases lcd_ok (c := q.choose) (K := X.K) hm hown' htg q with q | q
  · refine base.run pins s σ H Q I ?_
    rw [ownN_snd]
    exact q
  · refine (pe_lock base).run pins s σ H Q I ?_
    rw [ownN_snd]
    exact q
theorem ev_lcd {own : List Nat} {tg : Tg} {i : Nat} {cond : Option Ex} {elt : Ex} : ev φ (.lcd own tg i cond elt) = lcdM own tg i (condM φ cond) (ev φ elt) := by
  funext ρ
  cases cond <;> (simp only [ev]; rfl)
theorem lcd_form {own : List Nat} {tg : Tg} {i : Nat} {cond : Option Ex} {elt : Ex} (h : mE G N ms sc (.lcd own tg i cond elt) a = true) : ∃ e1 t it ifs scope pos, a = .ListComp e1 [⟨t, it, ifs, 0⟩] scope pos := by
  cases a with
  | ListComp e1 gs scope pos => match gs, h with
    | [⟨t, it, ifs, 0⟩], _ => exact ⟨_, _, _, _, _, _, rfl⟩
    | [], h => cases h
    | [⟨t, it, ifs, Int.ofNat (n + 1)⟩], h => cases h
    | [⟨t, it, ifs, Int.negSucc n⟩], h => cases h
    | ⟨t, it, ifs, Int.ofNat (n + 1)⟩ :: _ :: _, h => cases h
    | ⟨t, it, ifs, Int.ofNat 0⟩ :: _ :: _, h => cases h
    | ⟨t, it, ifs, Int.negSucc n⟩ :: _ :: _, h => cases h
  | _ => cases h
theorem lcd_eq {own : List Nat} {tg : Tg} {i : Nat} {cond : Option Ex} {elt : Ex} {e1 t it : Expr} {ifs : List Expr} {scope : Scope} {pos : Pos} : mE G N ms sc (.lcd own tg i cond elt) (.ListComp e1 [⟨t, it, ifs, 0⟩] scope pos) = ((mNm N sc i it && decide (ms.getD i .fz = .fz)) && (blkC N sc scope (ownN N own) && (own.all (fun i => decide (i < N.length) && decide (ms.getD i .fz = .fz)) && (mT N scope tg t && ((tgSlots tg).all (fun i => decide (i ∈ own)) &&
    ((match cond, ifs with
      | none, [] => true
      | some c, [e] => opd N scope c e (mE G N ms scope c e) && tOk e
      | _, _ => false) && mE G N ms scope elt e1)))))) := by
  cases cond with
  | none => cases ifs with
    | nil => rfl
    | cons x r => rfl
  | some c => cases ifs with
    | nil => rfl
    | cons x r => cases r <;> rfl
theorem lcd_parts {own : List Nat} {tg : Tg} {i : Nat} {cond : Option Ex} {elt : Ex} {e1 t it : Expr} {ifs : List Expr} {scope : Scope} {pos : Pos} (gc : ∀ c, cond = some c → Good G φ cls k N ms c) (ge : Good G φ cls k N ms elt)
    (h : mE G N ms sc (.lcd own tg i cond elt) (.ListComp e1 [⟨t, it, ifs, 0⟩] scope pos) = true) :
    mNm N sc i it = true ∧ ms.getD i .fz = .fz ∧ blkC N sc scope (ownN N own) = true ∧ (∀ i ∈ own, ms.getD i .fz = .fz ∧ i < N.length) ∧ (∀ i ∈ tgSlots tg, i ∈ own) ∧ mT N scope tg t = true ∧
      (∀ X', Cg G φ cls k N X' scope WF → PTs X' ifs (RdT ms WF cls (condM φ cond))) ∧ ∀ X', Cg G φ cls k N X' scope WF → PE X' e1 (RdG Fz ms WF cls (ev φ elt)) := by
  rw [lcd_eq] at h
  obtain ⟨z1, z2⟩ := and2 h
  obtain ⟨h1, h1'⟩ := and2 z1
  obtain ⟨h2, z3⟩ := and2 z2
  obtain ⟨h3, z4⟩ := and2 z3
  obtain ⟨h4, z5⟩ := and2 z4
  obtain ⟨h5, z6⟩ := and2 z5
  obtain ⟨h6, h7⟩ := and2 z6
  refine ⟨h1, of_decide_eq_true h1', h2, fun i hi => ?_, fun i hi => of_decide_eq_true (List.all_eq_true.mp h5 i hi), h4, fun X' C' => ?_, fun X' C' => ge.val X' scope WF _ C' h7⟩
  · have := List.all_eq_true.mp h3 i hi
    obtain ⟨a, b⟩ := and2 this
    exact ⟨of_decide_eq_true b, of_decide_eq_true a⟩
  · cases cond with
    | none =>
      match ifs, h6 with
      | [], _ =>
        refine PTs.imp pts_nil fun σ H Q ⟨c, ρ, F, E, p⟩ => ?_
        exact p H F E (Ext.refl _ _)
      | _ :: _, h => cases h
    | some c =>
      match ifs, h6 with
      | [x], h6 =>
        obtain ⟨a, b⟩ := and2 h6
        exact pts_one ((gc c rfl).opdT C' a b)
      | [], h => cases h
      | _ :: _ :: _, h => cases h
theorem lcd_good {own : List Nat} {tg : Tg} {i : Nat} {cond : Option Ex} {elt : Ex} (gc : ∀ c, cond = some c → Good G φ cls k N ms c) (ge : Good G φ cls k N ms elt) : Good G φ cls k N ms (.lcd own tg i cond elt) := by
  have key : ∀ (X : Cx) (sc : Scope) (W : WX) (a : Expr), Cg G φ cls k N X sc W → mE G N ms sc (.lcd own tg i cond elt) a = true → PE X a (RdG Fz ms W cls (ev φ (.lcd own tg i cond elt))) ∧ tPlain a = true := by
    intro X sc W a C h
    obtain ⟨e1, t, it, ifs, scope, pos, rfl⟩ := lcd_form h
    refine ⟨?_, rfl⟩
    obtain ⟨p1, p2, p3, p4, p5, p6, p7, p8⟩ := lcd_parts gc ge h
    rw [ev_lcd]
    exact e_lcd C p1 p2 p3 p4 p5 p6 (fun X' C' _ => p7 X' C') p8
  exact ⟨fun X sc W a C h => (key X sc W a C h).1, fun X sc W a C h ht => plainT (key X sc W a C h).1 (key X sc W a C h).2⟩
theorem ev_mthE (m : Mt) (x : Ex) (es : List Ex) : (∃ i, x = .b i) ∨ ev φ (.mth m x es) = fun ρ => (ev φ x ρ).bind fun x ρ => if kindM m x then (evL φ es ρ).bind fun ds ρ => fin (semM m x ds) ρ else .stuck := by
  cases x <;> first | exact .inl ⟨_, rfl⟩ | exact .inr (by funext ρ; simp only [ev]; rfl) | exact .inr (by funext ρ; simp only [ev])
theorem mth_val {m : Mt} {x : Ex} {es : List Ex} (gx : Good G φ cls k N ms x) (gl : GoodL G φ cls k N ms es) (C : Cg G φ cls k N X sc W) (h : mE G N ms sc (.mth m x es) a = true) : PE X a (RdG Fz ms W cls (ev φ (.mth m x es))) ∧ tPlain a = true := by
  simp only [mE] at h
  split at h
  · rename_i e1 as hs
    obtain ⟨h1, h2⟩ := and2 h
    have hA := list_ok C gl h2
    refine ⟨?_, ?_⟩
    · by_cases hb : ∃ i, x = .b i
      · obtain ⟨i, rfl⟩ := hb
        refine PE.imp (e_mth C hs (nm_ok C h1).1 hA mono_Var mono_RdL) fun σ H Q q => ?_
        simp only [ev] at q
        exact mthb_ok q
      · refine PE.imp (e_mth C hs (gx.val X sc W _ C (notB hb h1)) hA mono_RdG mono_RdL) fun σ H Q q => ?_
        rw [(ev_mthE m x es).resolve_left hb] at q
        exact mth_ok (c := q.choose) q
    · unfold shM at hs
      split at hs <;> first | rfl | cases hs
  · cases h
theorem mth_good {m : Mt} {x : Ex} {es : List Ex} (gx : Good G φ cls k N ms x) (gl : GoodL G φ cls k N ms es) : Good G φ cls k N ms (.mth m x es) :=
  ⟨fun X sc W a C h => (mth_val gx gl C h).1, fun X sc W a C h ht => plainT (mth_val gx gl C h).1 (mth_val gx gl C h).2⟩
theorem none_good (h : ∀ (sc : Scope) (a : Expr), mE G N ms sc e a = false) : Good G φ cls k N ms e := ⟨fun X sc W a C q => (by rw [h] at q; cases q), fun X sc W a C q _ => (by rw [h] at q; cases q)⟩
end
section
variable (G : GI) (φ : Calls) (cls : Nat → Value) (k : Nat) (N : List Str) (ms : List Md)
mutual
theorem good2 : (e : Ex) → Good G φ cls k N ms e ∧ GoodW G φ cls k N ms e
  | .c d => ⟨⟨fun X sc W a C h => (const_ok C h).1, fun X sc W a C h ht => plainT (const_ok C h).1 (const_ok C h).2⟩, noW fun _ _ _ _ => rfl⟩
  | .g x d => ⟨⟨fun X sc W a C h => (glob_ok C h).1, fun X sc W a C h ht => plainT (glob_ok C h).1 (glob_ok C h).2⟩, noW fun _ _ _ _ => rfl⟩
  | .v i => ⟨⟨fun X sc W a C h => (v_ok C h).1, fun X sc W a C h ht => plainT (v_ok C h).1 (v_ok C h).2⟩, noW fun _ _ _ _ => rfl⟩
  | .b i => ⟨none_good fun sc a => by cases a <;> rfl, noW fun _ _ _ _ => rfl⟩
  | .io i => ⟨none_good fun sc a => by cases a <;> rfl, noW fun _ _ _ _ => rfl⟩
  | .op1 o x => ⟨⟨fun X sc W a C h => un_ok (good2 x).1 C h, fun X sc W a C h ht => un_tst (good2 x).1 C h ht⟩, noW fun sc op vs pos => by cases o <;> rfl⟩
  | .op2 o x y => ⟨⟨fun X sc W a C h => bin_ok (good2 x).1 (good2 y).1 C h, fun X sc W a C h ht => bin_tst (good2 x).1 (good2 y).1 C h ht⟩, noW fun sc op vs pos => by cases o <;> rfl⟩
  | .op3 o x y z => ⟨⟨fun X sc W a C h => (tri_ok (good2 x).1 (good2 y).1 (good2 z).1 C h).1, fun X sc W a C h ht => plainT (tri_ok (good2 x).1 (good2 y).1 (good2 z).1 C h).1 (tri_ok (good2 x).1 (good2 y).1 (good2 z).1 C h).2⟩, noW fun sc op vs pos => by cases o <;> rfl⟩
  | .chn o p x y z => ⟨⟨fun X sc W a C h => (chain_ok (good2 x).1 (good2 y).1 (good2 z).1 C h).1, fun X sc W a C h ht => (chain_ok (good2 x).1 (good2 y).1 (good2 z).1 C h).2⟩, noW fun _ _ _ _ => rfl⟩
  | .and x y => and_good (good2 x).1 (good2 y).1 (good2 y).2
  | .or x y => or_good (good2 x).1 (good2 y).1 (good2 y).2
  | .not x => ⟨not_good (good2 x).1, noW fun _ _ _ _ => rfl⟩
  | .ife x y z => ⟨ife_good (good2 x).1 (good2 y).1 (good2 z).1, noW fun _ _ _ _ => rfl⟩
  | .tupD es => ⟨(disp_good (goodL es)).1, noW fun _ _ _ _ => rfl⟩
  | .lstD es => ⟨(disp_good (goodL es)).2, noW fun _ _ _ _ => rfl⟩
  | .dicE t => ⟨dic_good, noW fun _ _ _ _ => rfl⟩
  | .call f es => ⟨call_good (goodL es), noW fun _ _ _ _ => rfl⟩
  | .lc own tg ik its none elt => ⟨lc_good (goodL its) (fun c e => by cases e) (good2 elt).1, noW fun _ _ _ _ => rfl⟩
  | .lc own tg ik its (some c) elt => ⟨lc_good (goodL its) (fun c' e => by cases e; exact (good2 c).1) (good2 elt).1, noW fun _ _ _ _ => rfl⟩
  | .lcd own tg i none elt => ⟨lcd_good (fun c e => by cases e) (good2 elt).1, noW fun _ _ _ _ => rfl⟩
  | .lcd own tg i (some c) elt => ⟨lcd_good (fun c' e => by cases e; exact (good2 c).1) (good2 elt).1, noW fun _ _ _ _ => rfl⟩
  | .dic1 t x y => ⟨dic1_good (good2 x).1 (good2 y).1, noW fun _ _ _ _ => rfl⟩
  | .pop i => ⟨pop_good, noW fun _ _ _ _ => rfl⟩
  | .mth m x es => ⟨mth_good (good2 x).1 (goodL es), noW fun sc op vs pos => by cases m <;> rfl⟩
theorem goodL : (es : List Ex) → GoodL G φ cls k N ms es
  | [] => fun _ h => by cases h
  | e :: es => fun x h => by
    rcases List.mem_cons.mp h with h | h
    · rw [h]; exact (good2 e).1
    · exact goodL es x h
end
theorem good (e : Ex) : Good G φ cls k N ms e := (good2 G φ cls k N ms e).1
end
end Bell
set_option Elab.async false
set_option linter.all false
set_option maxRecDepth 100000
set_option autoImplicit false
/-! Statements: the text and its small form. -/
namespace Bell
open PySem PySem.Spec PyProof.Rows L2

def noNext : List Sm → Bool
  | [] => false
  | [.ret _] => true
  | [.retN] => true
  | [.rais _] => true
  | [.brk] => true
  | _ :: r => noNext r
def notLc : Expr → Bool
  | .ListComp _ _ _ _ => false
  | .SetComp _ _ _ _ => false
  | .DictComp _ _ _ _ _ => false
  | _ => true
/-- whether a comprehension is stored within its own frame -/
def swB (sc : Scope) (x : Str) (px : Pos) : Expr → Option Bool
  | .ListComp _ _ s p => some (decide (sc.names.lookup x = some .local) && (px.line == p.line && !(s.names.any fun (n, k) => n == x && (k == .local || k == .cell))))
  | .SetComp _ _ _ _ => none
  | .DictComp _ _ _ _ _ => none
  | _ => some false
def ownForm0 : Ex → Option Md
  | .lstD _ => some .li
  | .op1 .list _ => some .li
  | .op2 .catL _ _ => some .li
  | .dicE false => some .dk
  | .dicE true => some .dt
  | .dic1 false _ _ => some .dk
  | .dic1 true _ _ => some .dt
  | _ => none
def ownForm : Ex → Option Md
  | .ife _ a b => if ownForm0 a = ownForm0 b then ownForm0 a else none
  | e => ownForm0 e
def sameB (ios : List Nat) (ms m : List Md) : Bool := ios.all fun j => decide (m.getD j .fz = ms.getD j .fz)
def isFrz : Sm → Bool
  | .frz _ => true
  | _ => false
/-- raise X('..') -/
def raiseOf : Stmt → Option Str
  | .Raise (some (.Call (.Name x _) [.Constant (.str _) _ _] [] _)) none _ => some x
  | _ => none
theorem raiseOf_some {st : Stmt} {x : Str} (h : raiseOf st = some x) : ∃ p1 m jj p2 p3 pos, st = .Raise (some (.Call (.Name x p1) [.Constant (.str m) jj p2] [] p3)) none pos := by
  unfold raiseOf at h
  split at h
  · cases h
    exact ⟨_, _, _, _, _, _, rfl⟩
  · cases h
/-- a, b, c = [], [], [] -/
def new3Of : Stmt → Option ((Str × Pos) × (Str × Pos) × (Str × Pos))
  | .Assign [.Tuple [.Name x px, .Name y py, .Name z pz] _ _] (.Tuple [.List [] _, .List [] _, .List [] _] _ _) _ => some ((x, px), (y, py), (z, pz))
  | _ => none
theorem new3Of_some {st : Stmt} {x y z : Str} {px py pz : Pos} (h : new3Of st = some ((x, px), (y, py), (z, pz))) : ∃ kt pt p1 p2 p3 kv pv pos, st = .Assign [.Tuple [.Name x px, .Name y py, .Name z pz] kt pt] (.Tuple [.List [] p1, .List [] p2, .List [] p3] kv pv) pos := by
  unfold new3Of at h
  split at h
  · cases h
    exact ⟨_, _, _, _, _, _, _, _, rfl⟩
  · cases h
/-- o[k], o[l] = a, b -/
def swapOf : Stmt → Option ((Expr × Expr) × (Expr × Expr) × (Expr × Expr))
  | .Assign [.Tuple [.Subscript o1 k1 _, .Subscript o2 k2 _] _ _] (.Tuple [a, b] _ _) _ => some ((o1, k1), (o2, k2), (a, b))
  | _ => none
theorem swapOf_some {st : Stmt} {o1 k1 o2 k2 a b : Expr} (h : swapOf st = some ((o1, k1), (o2, k2), (a, b))) : ∃ p1 p2 kt pt kv pv pos, st = .Assign [.Tuple [.Subscript o1 k1 p1, .Subscript o2 k2 p2] kt pt] (.Tuple [a, b] kv pv) pos := by
  unfold swapOf at h
  split at h
  · cases h
    exact ⟨_, _, _, _, _, _, _, rfl⟩
  · cases h
/-- o[k], o[l], o[m] = a, b, c -/
def swap3Of : Stmt → Option ((Expr × Expr) × (Expr × Expr) × (Expr × Expr) × (Expr × Expr × Expr))
  | .Assign [.Tuple [.Subscript o1 k1 _, .Subscript o2 k2 _, .Subscript o3 k3 _] _ _] (.Tuple [a, b, c] _ _) _ => some ((o1, k1), (o2, k2), (o3, k3), (a, b, c))
  | _ => none
theorem swap3Of_some {st : Stmt} {o1 k1 o2 k2 o3 k3 a b c : Expr} (h : swap3Of st = some ((o1, k1), (o2, k2), (o3, k3), (a, b, c))) : ∃ p1 p2 p3 kt pt kv pv pos, st = .Assign [.Tuple [.Subscript o1 k1 p1, .Subscript o2 k2 p2, .Subscript o3 k3 p3] kt pt] (.Tuple [a, b, c] kv pv) pos := by
  unfold swap3Of at h
  split at h
  · cases h
    exact ⟨_, _, _, _, _, _, _, _, rfl⟩
  · cases h
/-- x, y = a, b -/
def parOf : Stmt → Option ((Str × Pos) × (Str × Pos) × (Expr × Expr))
  | .Assign [.Tuple [.Name x px, .Name y py] _ _] (.Tuple [a, b] _ _) _ => some ((x, px), (y, py), (a, b))
  | _ => none
theorem parOf_some {st : Stmt} {x y : Str} {px py : Pos} {a b : Expr} (h : parOf st = some ((x, px), (y, py), (a, b))) : ∃ kt pt kv pv pos, st = .Assign [.Tuple [.Name x px, .Name y py] kt pt] (.Tuple [a, b] kv pv) pos := by
  unfold parOf at h
  split at h
  · cases h
    exact ⟨_, _, _, _, _, rfl⟩
  · cases h
/-- x, y, z = a, b, c -/
def par3Of : Stmt → Option ((Str × Pos) × (Str × Pos) × (Str × Pos) × (Expr × Expr × Expr))
  | .Assign [.Tuple [.Name x px, .Name y py, .Name z pz] _ _] (.Tuple [a, b, c] _ _) _ => some ((x, px), (y, py), (z, pz), (a, b, c))
  | _ => none
theorem par3Of_some {st : Stmt} {x y z : Str} {px py pz : Pos} {a b c : Expr} (h : par3Of st = some ((x, px), (y, py), (z, pz), (a, b, c))) : ∃ kt pt kv pv pos, st = .Assign [.Tuple [.Name x px, .Name y py, .Name z pz] kt pt] (.Tuple [a, b, c] kv pv) pos := by
  unfold par3Of at h
  split at h
  · cases h
    exact ⟨_, _, _, _, _, rfl⟩
  · cases h
/-- d[k] = v -/
def setDOf : Stmt → Option (Expr × Expr × Expr)
  | .Assign [.Subscript o k _] v _ => some (o, k, v)
  | _ => none
theorem setDOf_some {st : Stmt} {o k v : Expr} (h : setDOf st = some (o, k, v)) : ∃ p pos, st = .Assign [.Subscript o k p] v pos := by
  unfold setDOf at h
  split at h
  · cases h
    exact ⟨_, _, rfl⟩
  · cases h
def notTp : Expr → Bool
  | .Tuple _ _ _ => false
  | _ => true
/-- a, b, .. = e -/
def unpOf : Stmt → Option (List Expr × Expr)
  | .Assign [.Tuple ts _ _] v _ => some (ts, v)
  | _ => none
theorem unpOf_some {st : Stmt} {ts : List Expr} {v : Expr} (h : unpOf st = some (ts, v)) : ∃ kt pt pos, st = .Assign [.Tuple ts kt pt] v pos := by
  unfold unpOf at h
  split at h
  · cases h
    exact ⟨_, _, _, rfl⟩
  · cases h
def forHd (G : GI) (N : List Str) (ios : List Nat) (ms : List Md) (sc : Scope) (tg : Tg) (ik : IK) (its : List Ex) (t it : Expr) : Bool := nset it && ((match shI G sc ik it with
      | some as => mL G N ms sc its as
      | none => false) && (mT N sc tg t && (tgSlots tg).all fun i => decide (i ∉ ios) && (decide (ms.getD i .fz = .fz) && decide (i < N.length))))
/-- try: .. except X as n: return c if test else c' -/
def tryAOf : Stmt → Option (List Stmt × (Str × Str) × Expr × Const × Const)
  | .Try b [.ExceptHandler (some (.Name x _)) (some n) [.Return (some (.IfExp t (.Constant c1 _ _) (.Constant c2 _ _) _)) _] _] [] [] _ => some (b, (x, n), t, c1, c2)
  | _ => none
theorem tryAOf_some {st : Stmt} {b : List Stmt} {x n : Str} {t : Expr} {c1 c2 : Const} (h : tryAOf st = some (b, (x, n), t, c1, c2)) : ∃ p1 j1 q1 j2 q2 p2 p3 p4 p5, st = .Try b [.ExceptHandler (some (.Name x p1)) (some n) [.Return (some (.IfExp t (.Constant c1 j1 q1) (.Constant c2 j2 q2) p2)) p3] p4] [] [] p5 := by
  unfold tryAOf at h
  split at h
  · cases h
    exact ⟨_, _, _, _, _, _, _, _, _, rfl⟩
  · cases h
/-- isinstance(e, X): X an own error, or ValueError -/
def isC (G : GI) (N : List Str) (sc : Scope) (e : Nat) (a : Option Nat) : Expr → Bool
  | .Call (.Name f _) [.Name y _, .Name z _] [] _ => bi G sc f "isinstance" && ((decide (N[e]? = some y) && (visB sc y && okName y)) && (globB sc z && (okName z && (match a with
    | some j => decide (G.er[j]? = some z)
    | none => decide (z = ("ValueError" : Str) ∧ ("ValueError" : Str) ∈ G.fr)))))
  | _ => false
def isT (G : GI) (N : List Str) (sc : Scope) (e : Nat) : List Nat → Expr → Bool
  | [j], .BoolOp .And [e1, e2] _ => isC G N sc e (some j) e1 && isC G N sc e none e2
  | [j], t => isC G N sc e (some j) t
  | _, _ => false
mutual
def mS (G : GI) (N : List Str) (ios : List Nat) (mb : List Md) (sc : Scope) : List Md → Sm → Stmt → Option (List Md)
  | ms, .set i e, .Assign [.Name x px] v _ => match swB sc x px v with
    | some _ => if mTn N sc i (.Name x px) && (decide (i ∉ ios) && mE G N ms sc e v) then some (ms.set i .fz) else none
    | none => none
  | ms, .seto i e, .Assign [.Name x px] v _ => match ownForm e with
    | some m => if mTn N sc i (.Name x px) && (decide (i ∉ ios) && (decide (i < ms.length) && (notLc v && mE G N ms sc e v))) then some (ms.set i m) else none
    | none => none
  | ms, .setc i (.lc own tg ik its cond elt), .Assign [.Name x px] v _ => if (decide (swB sc x px v = some true) && (mTn N sc i (.Name x px) && (decide (i ∉ ios) && (decide (i < ms.length) && mE G N ms sc (.lc own tg ik its cond elt) v)))) then some (ms.set i .li) else none
  | ms, .new3 i j l, st => match new3Of st with
   | some ((x, px), (y, py), (z, pz)) => if (decide (N[i]? = some x) && (decide (N[j]? = some y) && decide (N[l]? = some z))) && ((decide (i ≠ j ∧ i ≠ l ∧ j ≠ l ∧ x ≠ y ∧ x ≠ z ∧ y ≠ z) && decide (i ∉ ios ∧ j ∉ ios ∧ l ∉ ios)) && (decide (i < ms.length ∧ j < ms.length ∧ l < ms.length) &&
      ((decide (sc.names.lookup x = some .local) && (decide (sc.names.lookup y = some .local) && decide (sc.names.lookup z = some .local))) && decide (py.line = px.line ∧ pz.line = px.line)))) then some (((ms.set i .li).set j .li).set l .li) else none
   | none => none
  | ms, .unp is e, st => match unpOf st with
   | some (ts, v) => if (mTs N sc is ts && (notTp v && notLc v)) && (mE G N ms sc e v && (is.all fun i => decide (i ∉ ios) && (decide (ms.getD i .fz = .fz) && decide (i < N.length)))) then some ms else none
   | none => none
  | ms, .swap i k1 k2 e1 e2, st => match swapOf st with
   | some ((o1, q1), (o2, q2), (a, b)) => if (mNm N sc i o1 && (mNm N sc i o2 && decide (ms.getD i .fz = .li))) && ((mL G N ms sc [e1, e2] [a, b]) && ((plainB q1 && mE G N ms sc k1 q1) && (plainB q2 && mE G N ms sc k2 q2))) then some ms else none
   | none => none
  | ms, .swap3 i k1 k2 k3 e1 e2 e3, st => match swap3Of st with
   | some ((o1, q1), (o2, q2), (o3, q3), (a, b, c)) => if ((mNm N sc i o1 && mNm N sc i o2) && (mNm N sc i o3 && decide (ms.getD i .fz = .li))) && ((mL G N ms sc [e1, e2, e3] [a, b, c]) && ((plainB q1 && mE G N ms sc k1 q1) && ((plainB q2 && mE G N ms sc k2 q2) && (plainB q3 && mE G N ms sc k3 q3)))) then some ms else none
   | none => none
  | ms, .par i j a b, st => match parOf st with
   | some ((x, px), (y, py), (u, v)) => if (decide (N[i]? = some x) && (decide (N[j]? = some y) && decide (i ≠ j ∧ x ≠ y))) && (decide (i ∉ ios ∧ j ∉ ios) && ((decide (sc.names.lookup x = some .local) && decide (sc.names.lookup y = some .local)) && (decide (py.line = px.line) &&
      ((decide ([u, v].all (foldedForSure 8) = false) && decide ([u, v].all (constantsAlone 8) = false)) && mL G N ms sc [a, b] [u, v])))) then some ((ms.set i .fz).set j .fz) else none
   | none => none
  | ms, .par3 i j l a b c, st => match par3Of st with
   | some ((x, px), (y, py), (z, pz), (u, v, w)) => if (decide (N[i]? = some x) && (decide (N[j]? = some y) && decide (N[l]? = some z))) && ((decide (i ≠ j ∧ i ≠ l ∧ j ≠ l ∧ x ≠ y ∧ x ≠ z ∧ y ≠ z) && decide (i ∉ ios ∧ j ∉ ios ∧ l ∉ ios)) && (((decide (sc.names.lookup x = some .local) && (decide (sc.names.lookup y = some .local) && decide (sc.names.lookup z = some .local))) && decide (py.line = px.line ∧ pz.line = px.line)) &&
      ((decide ([u, v, w].all (foldedForSure 8) = false) && decide ([u, v, w].all (constantsAlone 8) = false)) && mL G N ms sc [a, b, c] [u, v, w]))) then some (((ms.set i .fz).set j .fz).set l .fz) else none
   | none => none
  | ms, .setD i k e, st => match setDOf st with
   | some (o, q, v) => if mNm N sc i o && (decide (ms.getD i .fz = .dk ∨ ms.getD i .fz = .dt) && (notLc v && (mE G N ms sc e v && (plainB q && mE G N ms sc k q)))) then some ms else none
   | none => none
  | ms, .setIx i k e, .Assign [.Subscript o kx _] v _ => if mNm N sc i o && (decide (ms.getD i .fz = .li) && (notLc v && (mE G N ms sc e v && (plainB kx && mE G N ms sc k kx)))) then some ms else none
  | ms, .aug i o e, .AugAssign (.Name x px) op v _ => if mTn N sc i (.Name x px) && (decide (i ∉ ios) && (decide (ms.getD i .fz = .fz) && (decide (o = .add ∧ op = .Add ∨ o = .sub ∧ op = .Sub) && mE G N ms sc e v))) then some ms else none
  | ms, .ex e, .Expr v _ => if notLc v && mE G N ms sc e v then some ms else none
  | ms, .app i e, .Expr (.Call (.Attribute o m ap) [v] [] cp) _ => if mNm N sc i o && (decide (m = ("append" : Str)) && (decide (ms.getD i .fz = .li) && (nst v && (ap.endLine == cp.line && mE G N ms sc e v)))) then some ms else none
  | ms, .ife c a b, .If t x y _ => if opd N sc c t (mE G N ms sc c t) && tOk t then (match mB G N ios mb sc ms a x, mB G N ios mb sc ms b y with
    | some m1, some m2 => if noNext a then some m2 else if noNext b then some m1 else if m1 = m2 then some m1 else none
    | _, _ => none) else none
  | ms, .whl c b, .While t x [] _ => if opd N sc c t (mE G N ms sc c t) && tOk t then (match mB G N ios ms sc ms b x with
    | some m1 => if m1 = ms then some ms else none
    | none => none) else none
  | ms, .fr tg ik its b, .For t it x [] _ => if forHd G N ios ms sc tg ik its t it then (match mB G N ios ms sc ms b x with
    | some m1 => if m1 = ms then some ms else none
    | none => none) else none
  | ms, .frd tg i b, .For t it x [] _ => if (mNm N sc i it && decide (ms.getD i .fz = .fz)) && (mT N sc tg t && (tgSlots tg).all fun i => decide (i ∉ ios) && (decide (ms.getD i .fz = .fz) && decide (i < N.length))) then (match mB G N ios ms sc ms b x with
    | some m1 => if m1 = ms then some ms else none
    | none => none) else none
  | ms, .ret e, .Return (some v) _ => if mE G N ms sc e v then some ms else none
  | ms, .retN, .Return none _ => some ms
  | ms, .rais k, st => match raiseOf st with
    | some x => if decide (G.er[k]? = some x) && (globB sc x && okName x) then some ms else none
    | none => none
  | ms, .try_ body hs, .Try b hds [] [] _ => if mH G sc hs hds then mB G N ios mb sc ms body b else none
  | ms, .trya e body hs, st => match tryAOf st, hs with
    | some (b, (x, n), t, c1, c2), [(k, is, d, d')] => if (decide (N[e]? = some n) && decide (sc.names.lookup n = some .local)) && ((decide (e ∉ ios) && (decide (ms.getD e .fz = .fz) && decide (e < N.length))) && ((decide (G.er[k]? = some x) && (globB sc x && okName x)) && (isT G N sc e is t && (cB d c1 && cB d' c2)))) then mB G N ios mb sc ms body b else none
    | _, _ => none
  | ms, .brk, .Break _ => if ms = mb then some ms else none
  | ms, .pass, .Pass _ => some ms
  | _, _, _ => none
def mB (G : GI) (N : List Str) (ios : List Nat) (mb : List Md) (sc : Scope) : List Md → List Sm → List Stmt → Option (List Md)
  | ms, [], [] => some ms
  | ms, .frz i :: r, ss => if decide (i ∉ ios) then mB G N ios mb sc (ms.set i .fz) r ss else none
  | ms, s :: r, st :: ss => match mS G N ios mb sc ms s st with
    | some m => if sameB ios ms m then mB G N ios mb sc m r ss else none
    | none => none
  | _, _, _ => none
def mH (G : GI) (sc : Scope) : List (Nat × List Sm) → List ExceptHandler → Bool
  | [(k, [.ret (.c d)])], [.ExceptHandler (some (.Name x _)) none [.Return (some (.Constant c _ _)) _] _] => decide (G.er[k]? = some x) && (globB sc x && (okName x && cB d c))
  | (k, [.ret (.c d)]) :: r, .ExceptHandler (some (.Name x _)) none [.Return (some (.Constant c _ _)) _] _ :: hs => decide (G.er[k]? = some x) && (globB sc x && (okName x && (cB d c && mH G sc r hs)))
  | _, _ => false
end
end Bell
set_option Elab.async false
set_option linter.all false
set_option maxRecDepth 100000
set_option autoImplicit false
/-! Statements: changes of the frame. -/
namespace Bell
open PySem PySem.Spec PyProof.Rows L2

def setF (F : Nat → List Addr) (i : Nat) (l : List Addr) : Nat → List Addr := fun j => if j = i then l else F j
theorem setF_same {F : Nat → List Addr} {i : Nat} {l : List Addr} : setF F i l i = l := by unfold setF; rw [if_pos rfl]
theorem setF_ne {F : Nat → List Addr} {i j : Nat} {l : List Addr} (h : j ≠ i) : setF F i l j = F j := by unfold setF; rw [if_neg h]
theorem getD_set {ms : List Md} {i j : Nat} {m : Md} (h : i ≠ j) : (ms.set i m).getD j .fz = ms.getD j .fz := by
  rw [List.getD_eq_getElem?_getD, List.getD_eq_getElem?_getD, List.getElem?_set_ne h]
theorem getD_setF {ms : List Md} {i : Nat} : (ms.set i .fz).getD i .fz = .fz := by
  rw [List.getD_eq_getElem?_getD]
  by_cases h : i < ms.length
  · rw [List.getElem?_set_self h]; rfl
  · rw [List.getElem?_eq_none (by rw [List.length_set]; omega)]; rfl
theorem getD_setS {ms : List Md} {i : Nat} {m : Md} (h : i < ms.length) : (ms.set i m).getD i .fz = m := by
  rw [List.getD_eq_getElem?_getD, List.getElem?_set_self h]; rfl
section
variable {c : Fc} {ms : List Md} {σ : L2.St} {H H' : Hp} {ρ ρ' : Bell.Env} {F : Nat → List Addr} {i : Nat} {v : V} {d : D}
theorem sOf_setF {l : List Addr} {a : Addr} (h : sOf c (setF F i l) a) : sOf c F a ∨ a ∈ l := by
  rcases h with h | ⟨j, h⟩
  · exact .inl (.inl h)
  · by_cases hj : j = i
    · subst hj; rw [setF_same] at h; exact .inr h
    · rw [setF_ne hj] at h; exact .inl (.inr ⟨j, h⟩)
theorem less_setF : ∀ a, sOf c (setF F i []) a → sOf c F a := fun a h => (sOf_setF h).elim id fun z => by cases z
/-- a slot gets what stands -/
theorem EnvOk.put (E : EnvOk c ms σ H ρ F) (hi : i < σ.length) (hio : ∀ p ∈ c.io, p.1 ≠ i) (f : Fz (sOf c F) H v d) : EnvOk c (ms.set i .fz) (σ.set i (some v)) H (ρ.set i (some d)) (setF F i []) := by
  have ex : Ext (sOf c F) H (sOf c (setF F i [])) H := Ext.less less_setF
  refine ⟨E.held, by rw [List.length_set, List.length_set]; exact E.len, fun j d' h => ?_, fun j h => ?_, fun j k a h1 h2 => ?_, fun j a h => ?_, fun j a h => ?_, E.keep, fun p hp => ?_, by rw [List.length_set]; exact E.sl, c.TE _ _ _ _ E.tt ex⟩
  · by_cases hj : i = j
    · subst hj
      rw [List.getElem?_set_self (by rw [E.len]; exact hi)] at h
      cases h
      exact ⟨v, List.getElem?_set_self hi, by rw [getD_setF, setF_same]; exact .fz (f.ext ex)⟩
    · rw [List.getElem?_set_ne hj] at h
      rw [List.getElem?_set_ne hj, getD_set hj, setF_ne (Ne.symm hj)]
      obtain ⟨w, hw, o⟩ := E.slot j d' h
      exact ⟨w, hw, o.ext ex fun _ _ _ h => h⟩
  · by_cases hj : i = j
    · subst hj; exact setF_same
    · rw [setF_ne (Ne.symm hj)]
      exact E.nof j fun d z => h d (by rw [List.getElem?_set_ne hj]; exact z)
  · have hj : j ≠ i := fun e => by rw [e, setF_same] at h1; cases h1
    have hk : k ≠ i := fun e => by rw [e, setF_same] at h2; cases h2
    rw [setF_ne hj] at h1
    rw [setF_ne hk] at h2
    exact E.dj j k a h1 h2
  · have hj : j ≠ i := fun e => by rw [e, setF_same] at h; cases h
    rw [setF_ne hj] at h
    exact E.out j a h
  · have hj : j ≠ i := fun e => by rw [e, setF_same] at h; cases h
    rw [setF_ne hj] at h
    exact E.new j a h
  · obtain ⟨h1, h2, h3⟩ := E.pin p hp
    have n := hio p hp
    exact ⟨by rw [List.getElem?_set_ne (Ne.symm n)]; exact h1, by rw [setF_ne n]; exact h2, by rw [getD_set (Ne.symm n)]; exact h3⟩
/-- a slot is not its frame's own any more -/
theorem EnvOk.frz (E : EnvOk c ms σ H ρ F) (hio : ∀ p ∈ c.io, p.1 ≠ i) : EnvOk c (ms.set i .fz) σ H ρ (setF F i []) := by
  have ex : Ext (sOf c F) H (sOf c (setF F i [])) H := Ext.less less_setF
  refine ⟨E.held, E.len, fun j d' h => ?_, fun j h => ?_, fun j k a h1 h2 => ?_, fun j a h => ?_, fun j a h => ?_, E.keep, fun p hp => ?_, E.sl, c.TE _ _ _ _ E.tt ex⟩
  · obtain ⟨w, hw, o⟩ := E.slot j d' h
    by_cases hj : i = j
    · subst hj
      refine ⟨w, hw, ?_⟩
      rw [getD_setF, setF_same]
      refine .fz (o.frz less_setF fun a ha z => ?_)
      rcases z with z | ⟨k, z⟩
      · exact E.out i a ha z
      · have hk : k ≠ i := fun e => by rw [e, setF_same] at z; cases z
        rw [setF_ne hk] at z
        exact hk (E.dj k i a z ha)
    · rw [getD_set hj, setF_ne (Ne.symm hj)]
      exact ⟨w, hw, o.ext ex fun _ _ _ h => h⟩
  · by_cases hj : i = j
    · subst hj; exact setF_same
    · rw [setF_ne (Ne.symm hj)]
      exact E.nof j h
  · have hj : j ≠ i := fun e => by rw [e, setF_same] at h1; cases h1
    have hk : k ≠ i := fun e => by rw [e, setF_same] at h2; cases h2
    rw [setF_ne hj] at h1
    rw [setF_ne hk] at h2
    exact E.dj j k a h1 h2
  · have hj : j ≠ i := fun e => by rw [e, setF_same] at h; cases h
    rw [setF_ne hj] at h
    exact E.out j a h
  · have hj : j ≠ i := fun e => by rw [e, setF_same] at h; cases h
    rw [setF_ne hj] at h
    exact E.new j a h
  · obtain ⟨h1, h2, h3⟩ := E.pin p hp
    have n := hio p hp
    exact ⟨h1, by rw [setF_ne n]; exact h2, by rw [getD_set (Ne.symm n)]; exact h3⟩
/-- a new thing of the frame's own -/
inductive Newly (S : Addr → Prop) (H : Hp) : Md → V → Hp → D → Prop
  | li {p : Addr} {vs : List V} {ds : List D} : H p = none → FzL S H vs ds → Newly S H .li (.ref p) (upd H p (.lst vs)) (.lst ds)
  | dk {p : Addr} {vs : List (Key × V)} {ds : List (D × D)} : H p = none → FzK S H vs ds → Newly S H .dk (.ref p) (upd H p (.dK vs)) (.dic false ds)
  | dt {p : Addr} {vs : List (List Key × V)} {ds : List (D × D)} : H p = none → FzT S H vs ds → Newly S H .dt (.ref p) (upd H p (.dT vs)) (.dic true ds)
theorem Newly.at_ {S : Addr → Prop} {m : Md} (n : Newly S H m v H' d) : ∃ p o, v = .ref p ∧ H p = none ∧ H' = upd H p o ∧ m ≠ .fz ∧ ∀ S' , Ext S H S' H' → Ow S' H' m v d [p] := by
  cases n with
  | li hp f => exact ⟨_, _, rfl, hp, rfl, by decide, fun S' e => .li upd_same (f.ext e)⟩
  | dk hp f => exact ⟨_, _, rfl, hp, rfl, by decide, fun S' e => .dk upd_same (f.ext e)⟩
  | dt hp f => exact ⟨_, _, rfl, hp, rfl, by decide, fun S' e => .dt upd_same (f.ext e)⟩
theorem EnvOk.own {m : Md} (E : EnvOk c ms σ H ρ F) (hi : i < σ.length) (hm : i < ms.length) (hio : ∀ p ∈ c.io, p.1 ≠ i) (n : Newly (sOf c F) H m v H' d) : ∃ p, EnvOk c (ms.set i m) (σ.set i (some v)) H' (ρ.set i (some d)) (setF F i [p]) := by
  obtain ⟨p, o, rfl, hp, rfl, nm, w⟩ := n.at_
  have ne : ∀ a o, H a = some o → a ≠ p := fun a o h => ne_of_none h hp
  have nF : ∀ j, p ∉ F j := fun j h => by
    obtain ⟨o, e, _⟩ := E.domNT (.inr ⟨j, h⟩)
    exact ne p o e rfl
  have ex : Ext (sOf c F) H (sOf c (setF F i [p])) (upd H p o) := fun b u h n => ⟨.inl (by rw [upd_ne (ne b u h)]; exact h), fun z => (sOf_setF z).elim n fun z => ne b u h (List.mem_singleton.mp z)⟩
  refine ⟨p, fun a h => ?_, by rw [List.length_set, List.length_set]; exact E.len, fun j d' h => ?_, fun j h => ?_, fun j k a h1 h2 => ?_, fun j a h z => ?_, fun j a h => ?_, fun b u h nb => ?_, fun q hq => ?_, by rw [List.length_set]; exact E.sl, c.TE _ _ _ _ E.tt ex⟩
  · obtain ⟨u, e, x, t⟩ := E.held a h
    exact ⟨u, by rw [upd_ne (ne a u e)]; exact e, x, t⟩
  · by_cases hj : i = j
    · subst hj
      rw [List.getElem?_set_self (by rw [E.len]; exact hi)] at h
      cases h
      exact ⟨_, List.getElem?_set_self hi, by rw [getD_setS hm, setF_same]; exact w _ ex⟩
    · rw [List.getElem?_set_ne hj] at h
      rw [List.getElem?_set_ne hj, getD_set hj, setF_ne (Ne.symm hj)]
      obtain ⟨x, hx, ow⟩ := E.slot j d' h
      exact ⟨x, hx, ow.ext ex fun a u _ e => by rw [upd_ne (ne a u e)]; exact e⟩
  · by_cases hj : i = j
    · subst hj
      exact absurd (List.getElem?_set_self (by rw [E.len]; exact hi)) (h d)
    · rw [setF_ne (Ne.symm hj)]
      exact E.nof j fun d z => h d (by rw [List.getElem?_set_ne hj]; exact z)
  · by_cases hj : j = i
    · by_cases hk : k = i
      · rw [hj, hk]
      · rw [hj, setF_same] at h1
        rw [setF_ne hk] at h2
        rw [List.mem_singleton.mp h1] at h2
        exact absurd h2 (nF k)
    · rw [setF_ne hj] at h1
      by_cases hk : k = i
      · rw [hk, setF_same] at h2
        rw [List.mem_singleton.mp h2] at h1
        exact absurd h1 (nF j)
      · rw [setF_ne hk] at h2
        exact E.dj j k a h1 h2
  · by_cases hj : j = i
    · rw [hj, setF_same] at h
      obtain ⟨u, e, _⟩ := E.held a z
      exact ne a u e (List.mem_singleton.mp h)
    · rw [setF_ne hj] at h
      exact E.out j a h z
  · by_cases hj : j = i
    · rw [hj, setF_same] at h
      rw [List.mem_singleton.mp h]
      by_cases hI : p ∈ c.I0
      · exact .inl hI
      · right
        cases q : c.H0 p with
        | none => rfl
        | some u => exact absurd (E.keep p u q hI) (by rw [hp]; intro z; cases z)
    · rw [setF_ne hj] at h
      exact E.new j a h
  · have e := E.keep b u h nb
    rw [upd_ne (ne b u e)]
    exact e
  · obtain ⟨h1, h2, h3⟩ := E.pin q hq
    have n := hio q hq
    exact ⟨by rw [List.getElem?_set_ne (Ne.symm n)]; exact h1, by rw [setF_ne n]; exact h2, by rw [getD_set (Ne.symm n)]; exact h3⟩
/-- what a slot owns is changed -/
theorem EnvOk.writeM (E : EnvOk c ms σ H ρ F) {a : Addr} {o : HO} {d0 d' : D} {m : Md} (hm : ms.getD i .fz = m) (hF : F i = [a]) (hd : ρ[i]? = some (some d0)) (hv : σ[i]? = some (some (.ref a))) (hw : ∀ S', Ext (sOf c F) H S' (upd H a o) → Ow S' (upd H a o) m (.ref a) d' [a]) : EnvOk c ms σ (upd H a o) (ρ.set i (some d')) F ∧ Ext (sOf c F) H (sOf c F) (upd H a o) := by
  have ha : a ∈ F i := by rw [hF]; exact List.mem_singleton.mpr rfl
  have hi : i < ρ.length := (List.getElem?_eq_some_iff.mp hd).1
  have hS : sOf c F a := .inr ⟨i, ha⟩
  have ex : Ext (sOf c F) H (sOf c F) (upd H a o) := Ext.own hS
  refine ⟨⟨fun b h => ?_, by rw [List.length_set]; exact E.len, fun j d' h => ?_, fun j h => ?_, E.dj, E.out, E.new, fun b u h nb => ?_, E.pin, E.sl, c.TE _ _ _ _ E.tt ex⟩, ex⟩
  · obtain ⟨u, e, x, t⟩ := E.held b h
    have : b ≠ a := fun z => E.out i a ha (z ▸ h)
    exact ⟨u, by rw [upd_ne this]; exact e, x, t⟩
  · by_cases hj : i = j
    · subst hj
      rw [List.getElem?_set_self hi] at h
      cases h
      refine ⟨_, hv, ?_⟩
      rw [hm, hF]
      exact hw _ ex
    · rw [List.getElem?_set_ne hj] at h
      obtain ⟨x, hx, ow⟩ := E.slot j d' h
      refine ⟨x, hx, ow.ext ex fun b u hb e => ?_⟩
      rw [upd_ne fun z : b = a => hj (E.dj i j a ha (by rw [← z]; exact hb))]
      exact e
  · by_cases hj : i = j
    · subst hj
      exact absurd (List.getElem?_set_self hi) (h _)
    · exact E.nof j fun d z => h d (by rw [List.getElem?_set_ne hj]; exact z)
  · have e := E.keep b u h nb
    have : b ≠ a := fun z => by
      rcases E.new i a ha with q | q
      · exact nb (z ▸ q)
      · rw [z, q] at h; cases h
    rw [upd_ne this]
    exact e
theorem FzT.any {S : Addr → Prop} (k : List Key) : ∀ {kvs : List (List Key × V)} {es : List (D × D)}, FzT S H kvs es → (kvs.any fun kv => decide (kv.1 = k)) = es.any fun e => keq e.1 (tD k)
  | _, _, .nil => rfl
  | _, _, .cons _ b => by rw [List.any_cons, List.any_cons, keq_t, FzT.any k b]
theorem FzK.any {S : Addr → Prop} (k : Key) : ∀ {kvs : List (Key × V)} {es : List (D × D)}, FzK S H kvs es → (kvs.any fun kv => decide (kv.1 = k)) = es.any fun e => keq e.1 (kD k)
  | _, _, .nil => rfl
  | _, _, .cons _ b => by rw [List.any_cons, List.any_cons, keq_k, FzK.any k b]
theorem FzT.mapv {S : Addr → Prop} {v : V} {d : D} (f : Fz S H v d) (k : List Key) : ∀ {kvs : List (List Key × V)} {es : List (D × D)}, FzT S H kvs es → FzT S H (kvs.map fun kv => if kv.1 = k then (kv.1, v) else kv) (es.map fun e => if keq e.1 (tD k) = true then (e.1, d) else e)
  | _, _, .nil => .nil
  | _, _, .cons (k := j) (v := v') (d := d') a b => by
    rw [List.map_cons, List.map_cons]
    by_cases e : j = k
    · rw [if_pos e, if_pos (by rw [keq_t, e]; simp)]
      exact .cons f (FzT.mapv f k b)
    · rw [if_neg e, if_neg (by rw [keq_t]; simp [e])]
      exact .cons a (FzT.mapv f k b)
theorem FzK.mapv {S : Addr → Prop} {v : V} {d : D} (f : Fz S H v d) (k : Key) : ∀ {kvs : List (Key × V)} {es : List (D × D)}, FzK S H kvs es → FzK S H (kvs.map fun kv => if kv.1 = k then (kv.1, v) else kv) (es.map fun e => if keq e.1 (kD k) = true then (e.1, d) else e)
  | _, _, .nil => .nil
  | _, _, .cons (k := j) (v := v') (d := d') a b => by
    rw [List.map_cons, List.map_cons]
    by_cases e : j = k
    · rw [if_pos e, if_pos (by rw [keq_k, e]; simp)]
      exact .cons f (FzK.mapv f k b)
    · rw [if_neg e, if_neg (by rw [keq_k]; simp [e])]
      exact .cons a (FzK.mapv f k b)
theorem FzT.snoc {S : Addr → Prop} {v : V} {d : D} (f : Fz S H v d) (k : List Key) : ∀ {kvs : List (List Key × V)} {es : List (D × D)}, FzT S H kvs es → FzT S H (kvs ++ [(k, v)]) (es ++ [(tD k, d)])
  | _, _, .nil => .cons f .nil
  | _, _, .cons a b => .cons a (FzT.snoc f k b)
theorem FzK.snoc {S : Addr → Prop} {v : V} {d : D} (f : Fz S H v d) (k : Key) : ∀ {kvs : List (Key × V)} {es : List (D × D)}, FzK S H kvs es → FzK S H (kvs ++ [(k, v)]) (es ++ [(kD k, d)])
  | _, _, .nil => .cons f .nil
  | _, _, .cons a b => .cons a (FzK.snoc f k b)
theorem FzT.put {S : Addr → Prop} {v : V} {d : D} (f : Fz S H v d) (k : List Key) {kvs : List (List Key × V)} {es : List (D × D)} (h : FzT S H kvs es) : FzT S H (putK kvs k v) (dPut es (tD k) d) := by
  unfold putK dPut
  rw [h.any k]
  split
  · exact h.mapv f k
  · exact h.snoc f k
theorem FzK.put {S : Addr → Prop} {v : V} {d : D} (f : Fz S H v d) (k : Key) {kvs : List (Key × V)} {es : List (D × D)} (h : FzK S H kvs es) : FzK S H (putK kvs k v) (dPut es (kD k) d) := by
  unfold putK dPut
  rw [h.any k]
  split
  · exact h.mapv f k
  · exact h.snoc f k
end

/-! ### readings of statements -/
def SameIo (c : Fc) (ms ms2 : List Md) : Prop := ∀ p ∈ c.io, ms2.getD p.1 .fz = ms.getD p.1 .fz
theorem SameIo.refl {c : Fc} {ms : List Md} : SameIo c ms ms := fun _ _ => rfl
theorem SameIo.trans {c : Fc} {a b d : List Md} (h : SameIo c a b) (h' : SameIo c b d) : SameIo c a d := fun p hp => (h' p hp).trans (h p hp)
theorem SameIo.set {c : Fc} {ms : List Md} {i : Nat} {m : Md} (h : ∀ p ∈ c.io, p.1 ≠ i) : SameIo c ms (ms.set i m) := fun p hp => getD_set (Ne.symm (h p hp))
def PostS (c : Fc) (ms ms' mb : List Md) (W : WX) (cls : Nat → Value) (D : Ends) : Fl → Prop
  | .next ρ' => ∀ σ' H' F', EnvOk c ms' σ' H' ρ' F' → D.nx σ' H'
  | .ret d ρ' => ∀ ms2 σ' H' F' v, SameIo c ms ms2 → EnvOk c ms2 σ' H' ρ' F' → Fz (sOf c F') H' v d → D.rt v H'
  | .brk ρ' => ∀ σ' H' F', EnvOk c mb σ' H' ρ' F' → D.bk σ' H'
  | .exc k ρ' => ∀ ms2 σ' H' F', SameIo c ms ms2 → EnvOk c ms2 σ' H' ρ' F' → W (cls k) none σ' H'
  | .stuck => False
def RdS (ios : List Nat) (ms ms' mb : List Md) (W : WX) (cls : Nat → Value) (m : Bell.Env → Fl) : TS := fun D σ H =>
  ∃ (c : Fc) (ρ : Bell.Env) (F : Nat → List Addr), (∀ p ∈ c.io, p.1 ∈ ios) ∧ EnvOk c ms σ H ρ F ∧ PostS c ms ms' mb W cls D (m ρ)
/-- the facts around a statement -/
structure Cs (G : GI) (φ : Calls) (cls : Nat → Value) (Ct : Catch) (k : Nat) (N : List Str) (X : Cx) (sc : Scope) (W : WX) : Prop extends Cg G φ cls k N X sc W where
  hp : PassesOwn (model X.prog X.w) X.A X.env X.xe
  er : Er G cls Ct X
  st : X.stack = X.env :: X.outer
  fr : X.env.frame = some X.env.locals
  sk : X.env.scope.kind = .function
section
variable {c : Fc} {ms ms' mb : List Md} {W : WX} {cls : Nat → Value} {D : Ends} {σ : L2.St} {H : Hp} {ρ : Bell.Env} {F : Nat → List Addr} {α : Type} {ios : List Nat}
/-- an expression, then the rest -/
theorem PostS.ofOut {x : Out α} {f : α → Bell.Env → Fl} {S : Addr → Prop} (h : PostS c ms ms' mb W cls D (x.fl f)) : Post c ms W cls σ S H (fun a ρ' H' F' => PostS c ms ms' mb W cls D (f a ρ')) x := by
  cases x with
  | ok a ρ' => exact fun H' F' E e => h
  | exc k ρ' => exact fun H' F' E => h ms σ H' F' SameIo.refl E
  | stuck => exact h
theorem rd_fl {i : Nat} {f : Bell.D → Bell.Env → Fl} (h : PostS c ms ms' mb W cls D ((rd i ρ).fl f)) : ∃ d, ρ[i]? = some (some d) ∧ PostS c ms ms' mb W cls D (f d ρ) := by
  unfold rd at h
  split at h
  · exact ⟨_, by assumption, h⟩
  · exact h.elim
end
end Bell
set_option Elab.async false
set_option linter.all false
set_option maxRecDepth 100000
set_option autoImplicit false
/-! Every statement. -/
namespace Bell
open PySem PySem.Spec PyProof.Rows L2
section
variable {G : GI} {φ : Calls} {cls : Nat → Value} {Ct : Catch} {k : Nat} {N : List Str} {ms ms' mb : List Md} {X : Cx} {sc : Scope} {W : WX} {ios : List Nat} {a : Stmt} {i : Nat}
theorem slot_lt (C : Cg G φ cls k N X sc W) {t : Expr} (h : mTn N sc i t = true) : i < N.length := by
  unfold mTn at h
  split at h
  · exact (List.getElem?_eq_some_iff.mp (of_decide_eq_true (and2 h).1)).1
  · cases h
theorem name_of {t : Expr} {x : Str} {px : Pos} (h : mTn N sc i (.Name x px) = true) : N[i]? = some x ∧ locB sc x = true := by
  obtain ⟨h1, h2⟩ := and2 (show (decide (N[i]? = some x) && locB sc x) = true from h)
  exact ⟨of_decide_eq_true h1, h2⟩
theorem sw_no {v : Expr} (h : notLc v = true) (t : Option Expr) (l : Nat) (env : PySem.Env) : swapsWith v t l env = pure false := by
  cases v <;> first | rfl | cases h
theorem sw_sole {v : Expr} (h : notLc v = true) (t : Expr) (l : Nat) (env : PySem.Env) : swapsWithSole [t] v l env = pure false := sw_no h (some t) l env
theorem PSi {X : Cx} {a : Stmt} {t : TS} (h : ∀ pins s σ H D, Inv X pins σ H s → t D σ H → wpAny (model X.prog X.w) X.A (exec a X.env) (SP X pins D) X.xe s) : PS X a t := ⟨h⟩
/-- name = e -/
theorem s_set (C : Cs G φ cls Ct k N X sc W) {e : Ex} {x : Str} {px pos : Pos} {v : Expr} {r : Bool} (hsw : swB sc x px v = some r) (h : (mTn N sc i (.Name x px) && (decide (i ∉ ios) && mE G N ms sc e v)) = true) :
    PS X (.Assign [.Name x px] v pos) (RdS ios ms (ms.set i .fz) mb W cls (exS Ct φ (.set i e))) := by
  obtain ⟨h1, h2⟩ := and2 h
  obtain ⟨h2, h3⟩ := and2 h2
  have h2 := of_decide_eq_true h2
  have hlt := slot_lt C.toCg h1
  obtain ⟨hN, hx⟩ := name_of (t := v) h1
  have hnd : X.N.Nodup := by rw [C.hN]; exact C.nd
  have hN' : X.N[i]? = some x := by rw [C.hN]; exact hN
  have read : ∀ {D : Ends} {σ : L2.St} {H : Hp}, σ.length = N.length → RdS ios ms (ms.set i .fz) mb W cls (exS Ct φ (.set i e)) D σ H → tAsg (RdG Fz ms W cls (ev φ e)) (gName i) D σ H := by
    intro D σ H hl ⟨c, ρ, F, hio, E, p⟩
    simp only [exS] at p
    refine ⟨c, ρ, F, E, (PostS.ofOut p).mono fun d ρ1 H1 F1 E1 e1 p1 v fv => ?_⟩
    exact p1 _ _ _ (E1.put (by rw [hl]; exact hlt) (fun p hp z => h2 (z ▸ hio p hp)) fv)
  have A := (good G φ cls k N ms e).val X sc W v C.toCg h3
  cases v with
  | ListComp elt gs scope p =>
    have hsw' : (decide (sc.names.lookup x = some .local) && (px.line == p.line && !(scope.names.any fun (n, k) => n == x && (k == .local || k == .cell)))) = r := Option.some.inj hsw
    by_cases hr : r = true
    · rw [hr] at hsw'
      obtain ⟨z1, z2⟩ := and2 hsw'
      obtain ⟨z2, z3⟩ := and2 z2
      have hloc : X.env.scope.names.lookup x = some .local := by
        obtain ⟨k', e', q⟩ := C.agr x _ (of_decide_eq_true z1)
        rcases q with q | ⟨q, _⟩
        · rw [e', q]
        · cases q
      -- within the comprehension's frame: only a comprehension in small form comes here
      cases e with
      | lc own tg ik its cond elt' =>
        obtain ⟨e1, t, it, ifs, scope', pos', heq⟩ := lc_form h3
        cases heq
        obtain ⟨p1, p2, p3, p4, p5, p6, p7, p8⟩ := lc_parts C.toCg (goodL G φ cls k N ms its) (fun c _ => good G φ cls k N ms c) (good G φ cls k N ms elt') h3
        refine PSi fun pins s σ H D I q => ?_
        have base := ps_setLc (spos := pos) (py := px) (i := i) (y := x) (g := gT X.K tg) C.calm hnd hN' hloc (sw_true I.ok.kind hloc z2 (Bool.not_eq_true' _ ▸ z3)) p1 (C.toCg.blkOk p2) (fun s H Ca cl fp => g_tg (C.toCg.blk s H Ca cl fp) p6) (fun s H Ca cl fp => p7 _ (C.toCg.blk s H Ca cl fp) rfl) (fun s H Ca cl fp => p8 _ (C.toCg.blk s H Ca cl fp)) (fun x => by
          cases it <;> first | rfl | cases p3)
        refine base.run pins s σ H D I ?_
        rw [ownN_snd]
        have hl : σ.length = N.length := by rw [I.len, C.hN]
        have q := read hl q
        unfold tAsg at q ⊢
        rw [ev_lc] at q
        exact lc_ok (fun j hj => ⟨(p4 j hj).1, by rw [hl]; exact (p4 j hj).2⟩) p5 q
      | lcd own tg j cond elt' =>
        obtain ⟨e1, t, it, ifs, scope', pos', heq⟩ := lcd_form h3
        cases heq
        obtain ⟨p1, p2, p3, p4, p5, p6, p7, p8⟩ := lcd_parts (fun c _ => good G φ cls k N ms c) (good G φ cls k N ms elt') h3
        refine PSi fun pins s σ H D I q => ?_
        have base := ps_setLc (spos := pos) (py := px) (i := i) (y := x) (g := gT X.K tg) C.calm hnd hN' hloc (sw_true I.ok.kind hloc z2 (Bool.not_eq_true' _ ▸ z3)) (pi_keys (tg := t) (nm_ok C.toCg p1).1) (C.toCg.blkOk p3) (fun s H Ca cl fp => g_tg (C.toCg.blk s H Ca cl fp) p6) (fun s H Ca cl fp => p7 _ (C.toCg.blk s H Ca cl fp)) (fun s H Ca cl fp => p8 _ (C.toCg.blk s H Ca cl fp)) (fun x => by
          unfold mNm at p1
          cases it <;> first | rfl | cases p1)
        have hl : σ.length = N.length := by rw [I.len, C.hN]
        have q := read hl q
        unfold tAsg at q
        rw [ev_lcd] at q
        rcases lcd_ok (c := q.choose) (K := X.K) p2 (fun j hj => ⟨(p4 j hj).1, by rw [hl]; exact (p4 j hj).2⟩) p5 q with q | q
        · refine base.run pins s σ H D I ?_
          rw [ownN_snd]
          exact q
        · refine (ps_lock base).run pins s σ H D I ?_
          rw [ownN_snd]
          exact q
      | op1 o b => exfalso; cases o <;> cases h3
      | op2 o b c => exfalso; cases o <;> cases h3
      | op3 o b c d => exfalso; cases o <;> cases h3
      | mth m o es => exfalso; cases m <;> cases h3
      | _ => exfalso; cases h3
    · have hr : r = false := by cases r <;> first | rfl | exact absurd rfl hr
      refine PSi fun pins s σ H D I q => ?_
      have hswf : swapsWith (.ListComp elt gs scope p) (some (.Name x px)) pos.line X.env = pure false := by
        have e0 : swapsWith (.ListComp elt gs scope p) (some (.Name x px)) pos.line X.env = pure (X.env.blockKind == .function && X.env.kindOf x == some .local && px.line == p.line && !(scope.names.any fun (n, k) => n == x && (k == .local || k == .cell))) := rfl
        rw [e0]
        have hb : X.env.blockKind = .function := by unfold Env.blockKind; rw [I.ok.kind]; rfl
        have hk : (X.env.kindOf x == some .local) = decide (sc.names.lookup x = some .local) := by
          show (X.env.scope.names.lookup x == some .local) = _
          unfold locB at hx
          split at hx
          · rename_i e
            obtain ⟨k', e', q⟩ := C.agr x _ e
            rcases q with q | ⟨q, _⟩
            · rw [e', q, e]; rfl
            · cases q
          · rename_i e
            obtain ⟨k', e', q⟩ := C.agr x _ e
            rcases q with q | ⟨q, _⟩
            · rw [e', q, e]; rfl
            · cases q
          · cases hx
        rw [hb, hk, Bool.and_assoc, Bool.and_assoc]
        show pure (true && _) = _
        rw [Bool.true_and, ← hr, ← hsw']
      exact (ps_set hnd hN' (C.agr.loc hx) A hswf (C.fnn x hx)).run pins s σ H D I (read (by rw [I.len, C.hN]) q)
  | SetComp _ _ _ _ => cases hsw
  | DictComp _ _ _ _ _ => cases hsw
  | _ => exact PSi fun pins s σ H D I q => (ps_set hnd hN' (C.agr.loc hx) A rfl (C.fnn x hx)).run pins s σ H D I (read (by rw [I.len, C.hN]) q)
/-- a display, list(..), an empty dict: a new thing -/
theorem sh2_catL {v e1 e2 : Expr} (hs : sh2 G sc .catL v = some (e1, e2)) : ∃ pos, v = .BinOp e1 .Add e2 pos := by
  unfold sh2 at hs
  split at hs
  · split at hs
    · rename_i hh
      cases hs
      have z := Option.some.inj (hh : some Operator.Add = some _)
      exact ⟨_, by rw [← z]⟩
    · cases hs
  · split at hs
    · rename_i hh
      cases hh.1
    · cases hs
  all_goals first | (cases hs; done) | skip
  all_goals (rename_i heq; cases heq)
theorem own_val0 (C : Cg G φ cls k N X sc W) {e : Ex} {m : Md} {v : Expr} (ho : ownForm0 e = some m) (h : mE G N ms sc e v = true) :
    PE X v (fun σ H Q => ∃ (c : Fc) (ρ : Bell.Env) (F : Nat → List Addr), EnvOk c ms σ H ρ F ∧ Post c ms W cls σ (sOf c F) H (fun d _ H' F' => ∀ v H'', Newly (sOf c F') H' m v H'' d → Q v H'') (ev φ e ρ)) := by
  unfold ownForm0 at ho
  split at ho
  · cases ho
    cases v <;> first | (cases h; done) | skip
    simp only [mE] at h
    refine PE.imp (pe_lst (list_ok C (goodL G φ cls k N ms _) h)) fun σ H Q ⟨c, ρ, F, E, p⟩ => ?_
    simp only [ev] at p
    refine ⟨c, ρ, F, E, (Post.bind p).mono fun ds ρ1 H1 F1 E1 e1 p1 xs fxs => ?_⟩
    split at p1
    · rename_i z
      exact ⟨by rw [fxs.length]; exact z, fun q hq => p1 H1 F1 E1 (Ext.refl _ _) _ _ (.li hq fxs)⟩
    · exact p1.elim
  · cases ho
    rename_i x
    simp only [mE] at h
    split at h
    · rename_i e' hs
      have A := (good G φ cls k N ms x).opd C h
      unfold sh1 at hs
      split at hs
      all_goals first
        | (cases hs; done)
        | (rename_i heq; cases heq; done)
        | (rename_i heq _; cases heq; done)
        | skip
      split at hs
      · rename_i hh
        cases hs
        obtain ⟨h1, h2⟩ := and2 hh
        obtain ⟨rfl, hg, hm⟩ := C.bi h1
        refine PE.imp (pe_callTy call_list_of hg hm PyProof.Rows.boot_list (pa_cons A pa_nil (star_cons h2)) (by decide) (by decide) (star_cons h2) rfl) fun σ H Q ⟨c, ρ, F, E, p⟩ => ?_
        simp only [ev] at p
        refine ⟨c, ρ, F, E, (Post.bind p).mono fun d ρ1 H1 F1 E1 e1 p1 y fy => ?_⟩
        unfold fin at p1
        split at p1
        · rename_i d' ed
          cases d <;> simp only [sem1, reduceCtorEq, Option.some.injEq] at ed
          · obtain ⟨a, vs, rfl, ha, fa⟩ := fy.lst_
            subst ed
            exact ⟨a, vs, rfl, .inl (SqL.of ha), fun l hl => p1 H1 F1 E1 (Ext.refl _ _) _ _ (.li hl fa)⟩
          · obtain ⟨a, vs, rfl, ha, fa⟩ := fy.tup_
            subst ed
            exact ⟨a, vs, rfl, .inr (SqT.of ha), fun l hl => p1 H1 F1 E1 (Ext.refl _ _) _ _ (.li hl fa)⟩
        · exact p1.elim
      · cases hs
    · cases h
  · cases ho
    rename_i x y
    simp only [mE] at h
    split at h
    · rename_i e1 e2 hs
      obtain ⟨ha, hb⟩ := and2 h
      by_cases nb : ∃ i, x = .b i
      · obtain ⟨i, rfl⟩ := nb
        have A := (nm_ok C (i := i) (a := e1) ha).1
        have B := (good G φ cls k N ms y).opd C (and2 hb).1
        obtain ⟨pos, rfl⟩ := sh2_catL hs
        refine PE.imp (pe_op op_cat A B) fun σ H Q ⟨c, ρ, F, E, p⟩ => ?_
        simp only [ev] at p
        obtain ⟨d0, e0, p⟩ := rd_some (Post.bind p)
        have p := p H F E (Ext.refl _ _)
        obtain ⟨v, hv, _⟩ := E.get e0
        refine ⟨v, hv, c, ρ, F, E, (Post.bind p).mono fun dy ρ2 H2 F2 E2 e2 p2 y fy => ?_⟩
        obtain ⟨dx, ex, p2⟩ := rd_some (Post.bind p2)
        have p2 := p2 H2 F2 E2 (Ext.refl _ _)
        obtain ⟨v', hv', w⟩ := E2.get ex
        rw [hv] at hv'
        cases hv'
        dsimp only at p2
        cases dx <;> cases dy <;> simp only [sem2] at p2 <;> first | exact p2.elim | skip
        split at p2
        · rename_i hz
          obtain ⟨b, ws, rfl, hb, fb⟩ := fy.lst_
          obtain ⟨a, vs, rfl, ha, fa⟩ := w.bz.lst_
          exact ⟨a, b, vs, ws, rfl, rfl, ha, hb, by rw [fa.length, fb.length]; exact hz, fun p hp => p2 H2 F2 E2 (Ext.refl _ _) _ _ (.li hp (fa.append fb))⟩
        · exact p2.elim
      have A := (good G φ cls k N ms x).val X sc W _ C (notB nb ha)
      have B := (good G φ cls k N ms y).opd C (and2 hb).1
      obtain ⟨pos, rfl⟩ := sh2_catL hs
      refine PE.imp (pe_op op_cat A B) fun σ H Q ⟨c, ρ, F, E, p⟩ => ?_
      rw [(ev2 .catL x y).resolve_left nb] at p
      refine ⟨c, ρ, F, E, (Post.bind p).mono fun dx ρ1 H1 F1 E1 e1 p1 x fx => ⟨c, ρ1, F1, E1, (Post.bind p1).mono fun dy ρ2 H2 F2 E2 e2 p2 y fy => ?_⟩⟩
      cases dx <;> cases dy <;> simp only [sem2] at p2 <;> first | exact p2.elim | skip
      split at p2
      · rename_i hz
        obtain ⟨b, ws, rfl, hb, fb⟩ := fy.lst_
        cases fx.ext e2 with
        | lst n h f => exact ⟨_, b, _, ws, rfl, rfl, h, hb, by rw [f.length, fb.length]; exact hz, fun p hp => p2 H2 F2 E2 (Ext.refl _ _) _ _ (.li hp (f.append fb))⟩
      · exact p2.elim
    · cases h
  · cases ho
    obtain ⟨pos, rfl⟩ : ∃ pos, v = .Dict [] [] pos := by
      cases v with
      | Dict ks vs pos => match ks, vs, h with
        | [], [], _ => exact ⟨_, rfl⟩
        | _ :: _, _, h => cases h
        | [], _ :: _, h => cases h
      | _ => cases h
    refine PE.imp pe_dnewK fun σ H Q ⟨c, ρ, F, E, p⟩ q hq => ?_
    simp only [ev] at p
    exact p H F E (Ext.refl _ _) _ _ (.dk hq .nil)
  · cases ho
    obtain ⟨pos, rfl⟩ : ∃ pos, v = .Dict [] [] pos := by
      cases v with
      | Dict ks vs pos => match ks, vs, h with
        | [], [], _ => exact ⟨_, rfl⟩
        | _ :: _, _, h => cases h
        | [], _ :: _, h => cases h
      | _ => cases h
    refine PE.imp pe_dnewT fun σ H Q ⟨c, ρ, F, E, p⟩ q hq => ?_
    simp only [ev] at p
    exact p H F E (Ext.refl _ _) _ _ (.dt hq .nil)
  · cases ho
    exact PE.imp (dic1_new (good G φ cls k N ms _) (good G φ cls k N ms _) C h) fun σ H Q ⟨c, ρ, F, E, p⟩ => ⟨c, ρ, F, E, p.mono fun d ρ' H' F' E' e' p' q hq => ⟨fun kvs es ht hd f => (by cases ht), fun kvs es ht hd f => by
      subst hd
      exact p' _ _ (.dk hq f)⟩⟩
  · cases ho
    exact PE.imp (dic1_new (good G φ cls k N ms _) (good G φ cls k N ms _) C h) fun σ H Q ⟨c, ρ, F, E, p⟩ => ⟨c, ρ, F, E, p.mono fun d ρ' H' F' E' e' p' q hq => ⟨fun kvs es ht hd f => by
      subst hd
      exact p' _ _ (.dt hq f), fun kvs es ht hd f => (by cases ht)⟩⟩
  · cases ho
theorem own_val (C : Cg G φ cls k N X sc W) {e : Ex} {m : Md} {v : Expr} (ho : ownForm e = some m) (h : mE G N ms sc e v = true) :
    PE X v (fun σ H Q => ∃ (c : Fc) (ρ : Bell.Env) (F : Nat → List Addr), EnvOk c ms σ H ρ F ∧ Post c ms W cls σ (sOf c F) H (fun d _ H' F' => ∀ v H'', Newly (sOf c F') H' m v H'' d → Q v H'') (ev φ e ρ)) := by
  unfold ownForm at ho
  split at ho
  · rename_i c x y
    split at ho
    · rename_i eq
      cases v <;> first | (cases h; done) | skip
      simp only [mE] at h
      obtain ⟨h1, h2⟩ := and2 h
      obtain ⟨h1, ht⟩ := and2 h1
      obtain ⟨h2, h3⟩ := and2 h2
      refine PE.imp (pe_ifExp ((good G φ cls k N ms c).opdT C h1 ht) (own_val0 C ho h2) (own_val0 C (eq ▸ ho) h3)) fun σ H Q ⟨c, ρ, F, E, p⟩ => ?_
      simp only [ev] at p
      refine ⟨c, ρ, F, E, (Post.bind p).mono fun k ρ1 H1 F1 E1 e1 p1 => ?_⟩
      cases k with
      | true => exact iteT ⟨c, ρ1, F1, E1, p1⟩
      | false => exact iteF ⟨c, ρ1, F1, E1, p1⟩
    · cases ho
  · exact own_val0 C ho h
theorem swp3 {i j l : Nat} {x y z : Str} {px py pz pt p1 p2 p3 pv : Pos} {kt kv : Nat} {env : PySem.Env} (hk : env.scope.kind = .function) (hx : env.scope.names.lookup x = some .local) (hy : env.scope.names.lookup y = some .local) (hz : env.scope.names.lookup z = some .local)
    (ne : i ≠ j ∧ i ≠ l ∧ j ≠ l ∧ x ≠ y ∧ x ≠ z ∧ y ≠ z) (hl : py.line = px.line ∧ pz.line = px.line) :
    swappedStores [.Tuple [.Name x px, .Name y py, .Name z pz] kt pt] (.Tuple [.List [] p1, .List [] p2, .List [] p3] kv pv) env = pure (some [x, y, z]) := by
  obtain ⟨_, _, _, n1, n2, n3⟩ := ne
  have b : env.blockKind = .function := by unfold PySem.Env.blockKind; rw [hk]; rfl
  have e1 : (x == y) = false := beq_eq_false_iff_ne.mpr n1
  have e2 : (x == z) = false := beq_eq_false_iff_ne.mpr n2
  have e3 : (y == z) = false := beq_eq_false_iff_ne.mpr n3
  have e4 : (y == x) = false := beq_eq_false_iff_ne.mpr (Ne.symm n1)
  have e5 : (z == x) = false := beq_eq_false_iff_ne.mpr (Ne.symm n2)
  have e6 : (z == y) = false := beq_eq_false_iff_ne.mpr (Ne.symm n3)
  unfold swappedStores
  simp [b, PySem.Env.kindOf, hx, hy, hz, Expr.pos, hl.1, hl.2, List.eraseDups, List.eraseDupsBy, List.eraseDupsBy.loop, e1, e2, e3, e4, e5, e6, n1, n2, n3, foldedForSure, constantsAlone]
theorem s_seto (C : Cs G φ cls Ct k N X sc W) {e : Ex} {m : Md} {x : Str} {px pos : Pos} {v : Expr} (ho : ownForm e = some m) (h : (mTn N sc i (.Name x px) && (decide (i ∉ ios) && (decide (i < ms.length) && (notLc v && mE G N ms sc e v)))) = true) :
    PS X (.Assign [.Name x px] v pos) (RdS ios ms (ms.set i m) mb W cls (exS Ct φ (.seto i e))) := by
  obtain ⟨h1, z2⟩ := and2 h
  obtain ⟨h2, z3⟩ := and2 z2
  obtain ⟨h3, z4⟩ := and2 z3
  obtain ⟨h4, h5⟩ := and2 z4
  have h2 := of_decide_eq_true h2
  have h3 := of_decide_eq_true h3
  have hlt := slot_lt C.toCg h1
  obtain ⟨hN, hx⟩ := name_of (t := v) h1
  have hnd : X.N.Nodup := by rw [C.hN]; exact C.nd
  have hN' : X.N[i]? = some x := by rw [C.hN]; exact hN
  refine PSi fun pins s σ H D I q => (ps_set hnd hN' (C.agr.loc hx) (own_val C.toCg ho h5) (sw_no h4 _ _ _) (C.fnn x hx)).run pins s σ H D I ?_
  have hl : σ.length = N.length := by rw [I.len, C.hN]
  obtain ⟨c, ρ, F, hio, E, p⟩ := q
  simp only [exS] at p
  refine ⟨c, ρ, F, E, (PostS.ofOut p).mono fun d ρ1 H1 F1 E1 e1 p1 v H2 nw => ?_⟩
  obtain ⟨pp, E2⟩ := E1.own (by rw [hl]; exact hlt) h3 (fun p hp z => h2 (z ▸ hio p hp)) nw
  exact p1 _ _ _ E2
section
variable {c : Fc} {σ : L2.St} {H : Hp} {Q : VK} {ρ : Bell.Env} {F : Nat → List Addr} {D : Addr} {acc : List V} {ys : List Bell.D}
/-- what is held becomes a slot's own -/
theorem E_take (E : EnvOk (c.with D acc) ms σ H ρ F) (hi : i < σ.length) (hm : i < ms.length) (hio : ∀ p ∈ c.io, p.1 ≠ i) (nS : ¬ sOf c F D) (hD : H D = some (.lst acc)) (f : FzL (sOf (c.with D acc) F) H acc ys) (h0 : ∀ b o, c.H0 b = some o → b ∉ c.I0 → b ≠ D) :
    EnvOk c (ms.set i .li) (σ.set i (some (.ref D))) H (ρ.set i (some (.lst ys))) (setF F i [D]) := by
  have ex : Ext (sOf (c.with D acc) F) H (sOf c (setF F i [D])) H := Ext.less fun a h => (sOf_setF h).elim (fun z => sOf_with.mpr (.inl z)) fun z => sOf_with.mpr (.inr (List.mem_singleton.mp z))
  have nF : ∀ j, D ∉ F j := fun j h => nS (.inr ⟨j, h⟩)
  refine ⟨fun a h => ?_, by rw [List.length_set, List.length_set]; exact E.len, fun j d' h => ?_, fun j h => ?_, fun j k a h1 h2 => ?_, fun j a h z => ?_, fun j a h => ?_, E.keep, fun q hq => ?_, by rw [List.length_set]; exact E.sl, c.TE _ _ _ _ E.tt ex⟩
  · obtain ⟨o, e, x, t⟩ := E.held a (.inl h)
    have ha : a ≠ D := fun z => nS (.inl (z ▸ h))
    have x : upd c.HS D (.lst acc) a = some o := x
    rw [upd_ne ha] at x
    exact ⟨o, e, x, t⟩
  · by_cases hj : i = j
    · subst hj
      rw [List.getElem?_set_self (by rw [E.len]; exact hi)] at h
      cases h
      exact ⟨_, List.getElem?_set_self hi, by rw [getD_setS hm, setF_same]; exact .li hD (f.ext ex)⟩
    · rw [List.getElem?_set_ne hj] at h
      rw [List.getElem?_set_ne hj, getD_set hj, setF_ne (Ne.symm hj)]
      obtain ⟨x, hx, ow⟩ := E.slot j d' h
      exact ⟨x, hx, ow.ext ex fun a u _ e => e⟩
  · by_cases hj : i = j
    · subst hj
      exact absurd (List.getElem?_set_self (by rw [E.len]; exact hi)) (h _)
    · rw [setF_ne (Ne.symm hj)]
      exact E.nof j fun d z => h d (by rw [List.getElem?_set_ne hj]; exact z)
  · by_cases hj : j = i
    · by_cases hk : k = i
      · rw [hj, hk]
      · rw [hj, setF_same] at h1
        rw [setF_ne hk] at h2
        rw [List.mem_singleton.mp h1] at h2
        exact absurd h2 (nF k)
    · rw [setF_ne hj] at h1
      by_cases hk : k = i
      · rw [hk, setF_same] at h2
        rw [List.mem_singleton.mp h2] at h1
        exact absurd h1 (nF j)
      · rw [setF_ne hk] at h2
        exact E.dj j k a h1 h2
  · by_cases hj : j = i
    · rw [hj, setF_same] at h
      rw [List.mem_singleton.mp h] at z
      exact nS (.inl z)
    · rw [setF_ne hj] at h
      exact E.out j a h (.inl z)
  · by_cases hj : j = i
    · rw [hj, setF_same] at h
      rw [List.mem_singleton.mp h]
      by_cases hI : D ∈ c.I0
      · exact .inl hI
      · right
        cases q : c.H0 D with
        | none => rfl
        | some u => exact absurd rfl (h0 D u q hI)
    · rw [setF_ne hj] at h
      exact E.new j a h
  · obtain ⟨h1, h2, h3⟩ := E.pin q hq
    have n := hio q hq
    exact ⟨by rw [List.getElem?_set_ne (Ne.symm n)]; exact h1, by rw [setF_ne n]; exact h2, by rw [getD_set (Ne.symm n)]; exact h3⟩
/-- a comprehension whose list a slot owns -/
theorem lc_own {own : List Nat} {tg : Tg} {ik : IK} {ml : Bell.Env → Out (List Bell.D)} {mt : Bell.Env → Out Bool} {me : Bell.Env → Out Bell.D} {K : PySem.W.Frag} (hi : i < σ.length) (hm : i < ms.length) (hown : ∀ i ∈ own, ms.getD i .fz = .fz ∧ i < σ.length) (htg : ∀ i ∈ tgSlots tg, i ∈ own)
    (h : ∃ (c : Fc) (ρ : Bell.Env) (F : Nat → List Addr), (∀ p ∈ c.io, p.1 ≠ i) ∧ EnvOk c ms σ H ρ F ∧ Post c ms W cls σ (sOf c F) H (fun d ρ1 _ _ => ∀ v H'' F'', EnvOk c (ms.set i .li) (σ.set i (some v)) H'' (ρ1.set i (some d)) F'' → Q v H'') (lcM own tg ik ml mt me ρ)) :
    tLc (RdW ms W cls ik ml) (gT K tg) (RdT ms WF cls mt) (RdG Fz ms WF cls me) own σ H Q := by
  obtain ⟨c, ρ0, F, hio, E, p⟩ := h
  refine ⟨c, ρ0, F, E, ?_⟩
  have ho : ∀ i ∈ own, ms.getD i .fz = .fz := fun i hi => (hown i hi).1
  unfold lcM at p
  cases qml : ml ρ0 with
  | stuck => rw [qml] at p; exact p
  | exc k ρ' => rw [qml] at p; exact p
  | ok ds ρs =>
  rw [qml] at p
  simp only [Out.bind] at p ⊢
  unfold itemsM
  cases qi : items ik ds with
  | none => rw [qi] at p; exact p
  | some xs =>
  rw [qi] at p
  dsimp only at p ⊢
  intro H1 F1 E1 e1 J T wk t1
  refine lc_coreG (K := K) hown htg E1 e1 wk t1 p fun D acc ys ρe F' H' hD E' hDa fa x' nD pd => ?_
  have h0 : ∀ b o, c.H0 b = some o → b ∉ c.I0 → b ≠ D := fun b o a n => ne_of_none (E1.keep b o a n) hD
  have E6 := E_rest (E_acc (acc2 := acc) (E_in (acc := []) E1 hD) h0) E' ho fun b o a n => by
    have nb : b ≠ D := fun z => n (sOf_with.mpr (.inr z))
    rw [upd_ne nb, upd_ne nb] at a
    obtain ⟨a2, n2⟩ := x' b o a fun z => n (sOf_with.mpr (.inl z))
    exact ⟨a2, fun z => (sOf_with.mp z).elim n2 nb⟩
  exact pd _ _ _ (E_take E6 hi hm hio nD hDa fa h0)
end
/-- x = [..], to be changed in place -/
theorem s_setc (C : Cs G φ cls Ct k N X sc W) {own : List Nat} {tg : Tg} {ik : IK} {its : List Ex} {cond : Option Ex} {elt' : Ex} {x : Str} {px pos : Pos} {v : Expr} (h : (decide (swB sc x px v = some true) && (mTn N sc i (.Name x px) && (decide (i ∉ ios) && (decide (i < ms.length) && mE G N ms sc (.lc own tg ik its cond elt') v)))) = true) :
    PS X (.Assign [.Name x px] v pos) (RdS ios ms (ms.set i .li) mb W cls (exS Ct φ (.setc i (.lc own tg ik its cond elt')))) := by
  obtain ⟨hsw, h⟩ := and2 h
  have hsw := of_decide_eq_true hsw
  obtain ⟨h1, h2⟩ := and2 h
  obtain ⟨g2, g3⟩ := and2 h2
  obtain ⟨gm, h3⟩ := and2 g3
  have hio0 : i ∉ ios := of_decide_eq_true g2
  have hm0 : i < ms.length := of_decide_eq_true gm
  clear h h2 g3 g2 gm
  have hlt := slot_lt C.toCg h1
  obtain ⟨hN, hx⟩ := name_of (t := v) h1
  have hnd : X.N.Nodup := by rw [C.hN]; exact C.nd
  have hN' : X.N[i]? = some x := by rw [C.hN]; exact hN
  obtain ⟨e1, t, it, ifs, scope, p, rfl⟩ := lc_form h3
  have hsw' : (decide (sc.names.lookup x = some .local) && (px.line == p.line && !(scope.names.any fun (n, k) => n == x && (k == .local || k == .cell)))) = true := Option.some.inj hsw
  obtain ⟨z1, z2⟩ := and2 hsw'
  obtain ⟨z2, z3⟩ := and2 z2
  have hloc : X.env.scope.names.lookup x = some .local := by
    obtain ⟨k', e', q⟩ := C.agr x _ (of_decide_eq_true z1)
    rcases q with q | ⟨q, _⟩
    · rw [e', q]
    · cases q
  obtain ⟨p1, p2, p3, p4, p5, p6, p7, p8⟩ := lc_parts C.toCg (goodL G φ cls k N ms its) (fun c _ => good G φ cls k N ms c) (good G φ cls k N ms elt') h3
  refine PSi fun pins s σ H D I q => ?_
  have base := ps_setLc (spos := pos) (py := px) (i := i) (y := x) (g := gT X.K tg) C.calm hnd hN' hloc (sw_true I.ok.kind hloc z2 (Bool.not_eq_true' _ ▸ z3)) p1 (C.toCg.blkOk p2) (fun s H Ca cl fp => g_tg (C.toCg.blk s H Ca cl fp) p6) (fun s H Ca cl fp => p7 _ (C.toCg.blk s H Ca cl fp) rfl) (fun s H Ca cl fp => p8 _ (C.toCg.blk s H Ca cl fp)) (fun x => by
    cases it <;> first | rfl | cases p3)
  refine base.run pins s σ H D I ?_
  rw [ownN_snd]
  have hl : σ.length = N.length := by rw [I.len, C.hN]
  obtain ⟨c, ρ, F, hio, E, p⟩ := q
  simp only [exS] at p
  unfold tAsg
  refine lc_own (i := i) (by rw [hl]; exact hlt) hm0 (fun j hj => ⟨(p4 j hj).1, by rw [hl]; exact (p4 j hj).2⟩) p5 ⟨c, ρ, F, fun p hp z => hio0 (z ▸ hio p hp), E, ?_⟩
  have p' := PostS.ofOut (σ := σ) (S := sOf c F) (H := H) p
  rw [ev_lc] at p'
  exact p'.mono fun d ρ1 H1 F1 E1 e1 p1 v H'' F'' E2 => p1 _ _ _ E2
/-- a, b, c = [], [], [] -/
theorem s_new3 (C : Cs G φ cls Ct k N X sc W) {j l : Nat} {x y z : Str} {px py pz pt p1 p2 p3 pv pos : Pos} {kt kv : Nat}
    (h : ((decide (N[i]? = some x) && (decide (N[j]? = some y) && decide (N[l]? = some z))) && ((decide (i ≠ j ∧ i ≠ l ∧ j ≠ l ∧ x ≠ y ∧ x ≠ z ∧ y ≠ z) && decide (i ∉ ios ∧ j ∉ ios ∧ l ∉ ios)) && (decide (i < ms.length ∧ j < ms.length ∧ l < ms.length) &&
      ((decide (sc.names.lookup x = some .local) && (decide (sc.names.lookup y = some .local) && decide (sc.names.lookup z = some .local))) && decide (py.line = px.line ∧ pz.line = px.line))))) = true) :
    PS X (.Assign [.Tuple [.Name x px, .Name y py, .Name z pz] kt pt] (.Tuple [.List [] p1, .List [] p2, .List [] p3] kv pv) pos) (RdS ios ms (((ms.set i .li).set j .li).set l .li) mb W cls (exS Ct φ (.new3 i j l))) := by
  simp only [Bool.and_eq_true, decide_eq_true_eq] at h
  obtain ⟨⟨h1, h2, h3⟩, ⟨ne, io⟩, ml, ⟨lx, ly, lz⟩, ll⟩ := h
  have loc : ∀ {x : Str}, sc.names.lookup x = some .local → X.env.scope.names.lookup x = some .local := fun {x} e => by
    obtain ⟨k', e', q⟩ := C.agr x _ e
    rcases q with q | ⟨q, _⟩
    · rw [e', q]
    · cases q
  have hN : X.N.Nodup := by rw [C.hN]; exact C.nd
  have lt : ∀ {i : Nat} {x : Str}, N[i]? = some x → i < N.length := fun {i x} e => by
    rcases Nat.lt_or_ge i N.length with q | q
    · exact q
    · rw [List.getElem?_eq_none q] at e; cases e
  refine PSi fun pins s σ H D I q => (ps_par3 C.calm hN (by rw [C.hN]; exact h1) (by rw [C.hN]; exact h2) (by rw [C.hN]; exact h3) ne.1 ne.2.1 ne.2.2.1 (loc lx) (loc ly) (loc lz) (pa_cons (pe_lst pa_nil) (pa_cons (pe_lst pa_nil) (pa_cons (pe_lst pa_nil) pa_nil)))
    (swp3 C.sk (loc lx) (loc ly) (loc lz) ne ll)).run pins s σ H D I ?_
  have hl : σ.length = N.length := by rw [I.len, C.hN]
  obtain ⟨c, ρ, F, hio, E, p⟩ := q
  simp only [exS] at p
  refine ⟨by decide, fun a1 ha1 => ⟨by decide, fun a2 ha2 => ⟨by decide, fun a3 ha3 => ?_⟩⟩⟩
  have n1 : ∀ p ∈ c.io, p.1 ≠ i := fun p hp z => io.1 (z ▸ hio p hp)
  have n2 : ∀ p ∈ c.io, p.1 ≠ j := fun p hp z => io.2.1 (z ▸ hio p hp)
  have n3 : ∀ p ∈ c.io, p.1 ≠ l := fun p hp z => io.2.2 (z ▸ hio p hp)
  obtain ⟨_, E1⟩ := E.own (m := .li) (v := .ref a1) (d := .lst []) (by rw [hl]; exact lt h1) ml.1 n1 (.li ha1 .nil)
  obtain ⟨_, E2⟩ := E1.own (m := .li) (v := .ref a2) (d := .lst []) (by rw [List.length_set, hl]; exact lt h2) (by rw [List.length_set]; exact ml.2.1) n2 (.li ha2 .nil)
  obtain ⟨_, E3⟩ := E2.own (m := .li) (v := .ref a3) (d := .lst []) (by rw [List.length_set, List.length_set, hl]; exact lt h3) (by rw [List.length_set, List.length_set]; exact ml.2.2) n3 (.li ha3 .nil)
  exact ⟨_, _, _, rfl, p _ _ _ E3⟩
/-- x[k] = e -/
theorem s_setIx (C : Cs G φ cls Ct k N X sc W) {kx : Ex} {e : Ex} {o ke v : Expr} {p1 pos : Pos} (h : (mNm N sc i o && (decide (ms.getD i .fz = .li) && (notLc v && (mE G N ms sc e v && (plainB ke && mE G N ms sc kx ke))))) = true) :
    PS X (.Assign [.Subscript o ke p1] v pos) (RdS ios ms ms mb W cls (exS Ct φ (.setIx i kx e))) := by
  obtain ⟨h1, z2⟩ := and2 h
  obtain ⟨h2, z3⟩ := and2 z2
  obtain ⟨h3, z4⟩ := and2 z3
  obtain ⟨h4, z5⟩ := and2 z4
  obtain ⟨h5, h6⟩ := and2 z5
  have hm := of_decide_eq_true h2
  have A := (good G φ cls k N ms e).val X sc W v C.toCg h4
  have B := (good G φ cls k N ms kx).val X sc W ke C.toCg h6
  refine PS.imp (ps_asg A (pg_sub (nm_ok C.toCg h1).1 B set_list (ha := fun w => by cases ke <;> first | rfl | cases h5)) (sw_sole h3 _ _ _) rfl rfl) fun D σ H ⟨c, ρ, F, hio, E, p⟩ => ?_
  · simp only [exS] at p
    refine ⟨c, ρ, F, E, (PostS.ofOut p).mono fun d ρ1 H1 F1 E1 e1 p1 v fv => ?_⟩
    obtain ⟨d0, ed0, p1⟩ := rd_fl p1
    obtain ⟨w0, hw0, _⟩ := E1.get ed0
    refine ⟨w0, hw0, c, ρ1, F1, E1, (PostS.ofOut p1).mono fun kd ρ2 H2 F2 E2 e2 p2 kv fk => ?_⟩
    obtain ⟨d1, ed1, p2⟩ := rd_fl p2
    obtain ⟨w1, hw1, ow⟩ := E2.get ed1
    rw [hw0] at hw1
    cases hw1
    have ed1' := ed1
    rw [hm] at ow
    generalize hF : F2 i = l at ow
    cases ow with
    | @li a vs ds ha f =>
      cases kd with
      | int jx =>
        cases fk
        simp only [setIx] at p2
        cases q : ixN ds.length jx with
        | none => rw [q] at p2; exact p2.elim
        | some jj =>
          rw [q] at p2
          simp only [Option.map_some] at p2
          obtain ⟨E3, x3⟩ := E2.write (vs := vs.set jj v) (ds := ds.set jj d) hm ed1' hw0 (f.set (fv.ext e2) jj)
          exact ⟨a, vs, jx, jj, rfl, rfl, ha, by rw [f.length]; exact q, p2 _ _ _ E3⟩
      | _ => exact p2.elim
theorem swpU {ts : List Expr} {v : Expr} {pt : Pos} {kt : Nat} {env : PySem.Env} (h : notTp v = true) : swappedStores [.Tuple ts kt pt] v env = pure none := by
  unfold swappedStores
  cases v <;> first | rfl | cases h
/-- a, b, .. = e -/
theorem s_unp (C : Cs G φ cls Ct k N X sc W) {is : List Nat} {e : Ex} {ts : List Expr} {v : Expr} {pt pos : Pos} {kt : Nat}
    (h : ((mTs N sc is ts && (notTp v && notLc v)) && (mE G N ms sc e v && (is.all fun i => decide (i ∉ ios) && (decide (ms.getD i .fz = .fz) && decide (i < N.length))))) = true) :
    PS X (.Assign [.Tuple ts kt pt] v pos) (RdS ios ms ms mb W cls (exS Ct φ (.unp is e))) := by
  obtain ⟨z1, z2⟩ := and2 h
  obtain ⟨h1, z1⟩ := and2 z1
  obtain ⟨h2, h3⟩ := and2 z1
  obtain ⟨h4, h5⟩ := and2 z2
  have A := (good G φ cls k N ms e).val X sc W v C.toCg h4
  obtain ⟨a, b, g⟩ := g_many C.toCg h1
  have hs : ∀ i ∈ is, i ∉ ios ∧ ms.getD i .fz = .fz ∧ i < N.length := fun i hi => by
    have q := List.all_eq_true.mp h5 i hi
    simp only [Bool.and_eq_true, decide_eq_true_eq] at q
    exact q
  refine PSi fun pins s σ H D I q => (ps_asg A (pg_tup C.calm a b g) (sw_sole h3 _ _ _) (swpU h2) rfl).run pins s σ H D I ?_
  have hl : σ.length = N.length := by rw [I.len, C.hN]
  obtain ⟨c, ρ, F, hio, E, p⟩ := q
  simp only [exS] at p
  refine ⟨c, ρ, F, E, (PostS.ofOut p).mono fun d ρ1 H1 F1 E1 e1 p1 w fw => ?_⟩
  cases hb : bindT (.t is) d ρ1 with
  | none => rw [hb] at p1; exact p1.elim
  | some ρ2 =>
    rw [hb] at p1
    exact gT_ok (K := X.K) (tg := .t is) E1 (fun i hi => ⟨(hs i hi).2.1, by rw [hl]; exact (hs i hi).2.2⟩) hb fw fun σ' _ E' => p1 _ _ _ E'
theorem swp0 {o1 k1 o2 k2 a b : Expr} {p1 p2 pt pv : Pos} {kt kv : Nat} {env : PySem.Env} : swappedStores [.Tuple [.Subscript o1 k1 p1, .Subscript o2 k2 p2] kt pt] (.Tuple [a, b] kv pv) env = pure none := by
  unfold swappedStores
  simp
/-- o[k], o[l] = a, b -/
theorem s_swap (C : Cs G φ cls Ct k N X sc W) {kx1 kx2 e1 e2 : Ex} {o1 q1 o2 q2 a b : Expr} {p1 p2 pt pv pos : Pos} {kt kv : Nat}
    (h : ((mNm N sc i o1 && (mNm N sc i o2 && decide (ms.getD i .fz = .li))) && ((mL G N ms sc [e1, e2] [a, b]) && ((plainB q1 && mE G N ms sc kx1 q1) && (plainB q2 && mE G N ms sc kx2 q2)))) = true) :
    PS X (.Assign [.Tuple [.Subscript o1 q1 p1, .Subscript o2 q2 p2] kt pt] (.Tuple [a, b] kv pv) pos) (RdS ios ms ms mb W cls (exS Ct φ (.swap i kx1 kx2 e1 e2))) := by
  obtain ⟨h1, z⟩ := and2 h
  obtain ⟨ha, h1⟩ := and2 h1
  obtain ⟨hb, hm⟩ := and2 h1
  obtain ⟨hl, z⟩ := and2 z
  obtain ⟨z1, z2⟩ := and2 z
  obtain ⟨h5, h6⟩ := and2 z1
  obtain ⟨h7, h8⟩ := and2 z2
  have hm := of_decide_eq_true hm
  have A := list_ok C.toCg (goodL G φ cls k N ms [e1, e2]) hl
  have B1 := (good G φ cls k N ms kx1).val X sc W q1 C.toCg h6
  have B2 := (good G φ cls k N ms kx2).val X sc W q2 C.toCg h8
  refine PS.imp (ps_asg (pe_tup A) (pg_tup C.calm (pgs_cons (pg_sub (nm_ok C.toCg ha).1 B1 set_list (ha := fun w => by cases q1 <;> first | rfl | cases h5)) (pgs_cons (pg_sub (nm_ok C.toCg hb).1 B2 set_list (ha := fun w => by cases q2 <;> first | rfl | cases h7)) pgs_nil))) rfl swp0 rfl) fun D σ H ⟨c, ρ, F, hio, E, p⟩ => ?_
  simp only [exS] at p
  refine ⟨c, ρ, F, E, (PostS.ofOut p).mono fun ds ρ1 H1 F1 E1 x1 p1 vs fvs => ?_⟩
  match ds, vs, fvs, p1 with
  | [d1, d2], [v1, v2], .cons f1 (.cons f2 .nil), p1 =>
    refine ⟨by show 2 ≤ sizeLine; decide +kernel, fun q hq => ⟨q, [v1, v2], rfl, SqT.of upd_same, rfl, v1, [v2], rfl, ?_⟩⟩
    have nw : New (sOf c F1) H1 (.ref q) (upd H1 q (.tup [v1, v2])) (.tup [d1, d2]) := .tup hq (.cons f1 (.cons f2 .nil))
    have E1' := E1.same nw.keeps
    have f1 := f1.ext (same_ext (S := sOf c F1) nw.keeps)
    have f2 := f2.ext (same_ext (S := sOf c F1) nw.keeps)
    generalize upd H1 q (.tup [v1, v2]) = H1' at E1' f1 f2
    obtain ⟨d0, ed0, p1⟩ := rd_fl p1
    obtain ⟨w0, hw0, _⟩ := E1'.get ed0
    refine ⟨w0, hw0, c, ρ1, F1, E1', (PostS.ofOut p1).mono fun kd ρ2 H2 F2 E2 x2 p2 kv fk => ?_⟩
    obtain ⟨dd1, ed1, p2⟩ := rd_fl p2
    obtain ⟨w1, hw1, ow⟩ := E2.get ed1
    rw [hw0] at hw1
    cases hw1
    have ed1' := ed1
    rw [hm] at ow
    generalize hF : F2 i = l at ow
    cases ow with
    | @li a vs ds ha f =>
      cases kd with
      | int jx =>
        cases fk
        simp only [setIx] at p2
        cases q : ixN ds.length jx with
        | none => rw [q] at p2; exact p2.elim
        | some jj =>
          rw [q] at p2
          simp only [Option.map_some] at p2
          obtain ⟨E3, x3⟩ := E2.write (vs := vs.set jj v1) (ds := ds.set jj d1) hm ed1' hw0 (f.set (f1.ext x2) jj)
          refine ⟨a, vs, jx, jj, rfl, rfl, ha, by rw [f.length]; exact q, v2, [], rfl, ?_⟩
          have f2 := (f2.ext x2).ext x3
          refine ⟨_, hw0, c, _, F2, E3, (PostS.ofOut p2).mono fun kd2 ρ3 H3 F3 E4 x4 p3 kv2 fk2 => ?_⟩
          obtain ⟨dd2, ed2, p3⟩ := rd_fl p3
          obtain ⟨w2, hw2, ow2⟩ := E4.get ed2
          rw [hw0] at hw2
          cases hw2
          have ed2' := ed2
          rw [hm] at ow2
          generalize hF2 : F3 i = l2 at ow2
          cases ow2 with
          | @li a2 vs2 ds2 ha2 g =>
            cases kd2 with
            | int jy =>
              cases fk2
              simp only [setIx] at p3
              cases r : ixN ds2.length jy with
              | none => rw [r] at p3; exact p3.elim
              | some j2 =>
                rw [r] at p3
                simp only [Option.map_some] at p3
                obtain ⟨E5, x5⟩ := E4.write (vs := vs2.set j2 v2) (ds := ds2.set j2 d2) hm ed2' hw0 (g.set (f2.ext x4) j2)
                exact ⟨a, vs2, jy, j2, rfl, rfl, ha2, by rw [g.length]; exact r, rfl, p3 _ _ _ E5⟩
            | _ => exact p3.elim
      | _ => exact p2.elim
theorem swp30 {o1 k1 o2 k2 o3 k3 a b c : Expr} {p1 p2 p3 pt pv : Pos} {kt kv : Nat} {env : PySem.Env} : swappedStores [.Tuple [.Subscript o1 k1 p1, .Subscript o2 k2 p2, .Subscript o3 k3 p3] kt pt] (.Tuple [a, b, c] kv pv) env = pure none := by
  unfold swappedStores
  simp
/-- o[k], o[l], o[m] = a, b, c -/
theorem s_swap3 (C : Cs G φ cls Ct k N X sc W) {kx1 kx2 kx3 e1 e2 e3 : Ex} {o1 q1 o2 q2 o3 q3 a b c' : Expr} {p1 p2 p3 pt pv pos : Pos} {kt kv : Nat}
    (h : (((mNm N sc i o1 && mNm N sc i o2) && (mNm N sc i o3 && decide (ms.getD i .fz = .li))) && ((mL G N ms sc [e1, e2, e3] [a, b, c']) && ((plainB q1 && mE G N ms sc kx1 q1) && ((plainB q2 && mE G N ms sc kx2 q2) && (plainB q3 && mE G N ms sc kx3 q3))))) = true) :
    PS X (.Assign [.Tuple [.Subscript o1 q1 p1, .Subscript o2 q2 p2, .Subscript o3 q3 p3] kt pt] (.Tuple [a, b, c'] kv pv) pos) (RdS ios ms ms mb W cls (exS Ct φ (.swap3 i kx1 kx2 kx3 e1 e2 e3))) := by
  obtain ⟨h1, z⟩ := and2 h
  obtain ⟨h1, h2⟩ := and2 h1
  obtain ⟨ha, hb⟩ := and2 h1
  obtain ⟨hc, hm⟩ := and2 h2
  obtain ⟨hl, z⟩ := and2 z
  obtain ⟨z1, z⟩ := and2 z
  obtain ⟨z2, z3⟩ := and2 z
  obtain ⟨h5, h6⟩ := and2 z1
  obtain ⟨h7, h8⟩ := and2 z2
  obtain ⟨h9, h10⟩ := and2 z3
  have hm := of_decide_eq_true hm
  have A := list_ok C.toCg (goodL G φ cls k N ms [e1, e2, e3]) hl
  have B1 := (good G φ cls k N ms kx1).val X sc W q1 C.toCg h6
  have B2 := (good G φ cls k N ms kx2).val X sc W q2 C.toCg h8
  have B3 := (good G φ cls k N ms kx3).val X sc W q3 C.toCg h10
  refine PS.imp (ps_asg (pe_tup A) (pg_tup C.calm (pgs_cons (pg_sub (nm_ok C.toCg ha).1 B1 set_list (ha := fun w => by cases q1 <;> first | rfl | cases h5)) (pgs_cons (pg_sub (nm_ok C.toCg hb).1 B2 set_list (ha := fun w => by cases q2 <;> first | rfl | cases h7)) (pgs_cons (pg_sub (nm_ok C.toCg hc).1 B3 set_list (ha := fun w => by cases q3 <;> first | rfl | cases h9)) pgs_nil)))) rfl swp30 rfl) fun D σ H ⟨c, ρ, F, hio, E, p⟩ => ?_
  simp only [exS] at p
  refine ⟨c, ρ, F, E, (PostS.ofOut p).mono fun ds ρ1 H1 F1 E1 x1 p1 vs fvs => ?_⟩
  match ds, vs, fvs, p1 with
  | [d1, d2, d3], [v1, v2, v3], .cons f1 (.cons f2 (.cons f3 .nil)), p1 =>
    refine ⟨by show 3 ≤ sizeLine; decide +kernel, fun q hq => ⟨q, [v1, v2, v3], rfl, SqT.of upd_same, rfl, v1, [v2, v3], rfl, ?_⟩⟩
    have nw : New (sOf c F1) H1 (.ref q) (upd H1 q (.tup [v1, v2, v3])) (.tup [d1, d2, d3]) := .tup hq (.cons f1 (.cons f2 (.cons f3 .nil)))
    have E1' := E1.same nw.keeps
    have f1 := f1.ext (same_ext (S := sOf c F1) nw.keeps)
    have f2 := f2.ext (same_ext (S := sOf c F1) nw.keeps)
    have f3 := f3.ext (same_ext (S := sOf c F1) nw.keeps)
    generalize upd H1 q (.tup [v1, v2, v3]) = H1' at E1' f1 f2 f3
    obtain ⟨d0, ed0, p1⟩ := rd_fl p1
    obtain ⟨w0, hw0, _⟩ := E1'.get ed0
    refine ⟨w0, hw0, c, ρ1, F1, E1', (PostS.ofOut p1).mono fun kd ρ2 H2 F2 E2 x2 p2 kv fk => ?_⟩
    obtain ⟨dd1, ed1, p2⟩ := rd_fl p2
    obtain ⟨w1, hw1, ow⟩ := E2.get ed1
    rw [hw0] at hw1
    cases hw1
    have ed1' := ed1
    rw [hm] at ow
    generalize hF : F2 i = l at ow
    cases ow with
    | @li a vs ds ha f =>
      cases kd with
      | int jx =>
        cases fk
        simp only [setIx] at p2
        cases q : ixN ds.length jx with
        | none => rw [q] at p2; exact p2.elim
        | some jj =>
          rw [q] at p2
          simp only [Option.map_some] at p2
          obtain ⟨E3, x3⟩ := E2.write (vs := vs.set jj v1) (ds := ds.set jj d1) hm ed1' hw0 (f.set (f1.ext x2) jj)
          refine ⟨a, vs, jx, jj, rfl, rfl, ha, by rw [f.length]; exact q, v2, [v3], rfl, ?_⟩
          have f2 := (f2.ext x2).ext x3
          have f3 := (f3.ext x2).ext x3
          refine ⟨_, hw0, c, _, F2, E3, (PostS.ofOut p2).mono fun kd2 ρ3 H3 F3 E4 x4 p3 kv2 fk2 => ?_⟩
          obtain ⟨dd2, ed2, p3⟩ := rd_fl p3
          obtain ⟨w2, hw2, ow2⟩ := E4.get ed2
          rw [hw0] at hw2
          cases hw2
          have ed2' := ed2
          rw [hm] at ow2
          generalize hF2 : F3 i = l2 at ow2
          cases ow2 with
          | @li a2 vs2 ds2 ha2 g =>
            cases kd2 with
            | int jy =>
              cases fk2
              simp only [setIx] at p3
              cases r : ixN ds2.length jy with
              | none => rw [r] at p3; exact p3.elim
              | some j2 =>
                rw [r] at p3
                simp only [Option.map_some] at p3
                obtain ⟨E5, x5⟩ := E4.write (vs := vs2.set j2 v2) (ds := ds2.set j2 d2) hm ed2' hw0 (g.set (f2.ext x4) j2)
                refine ⟨a, vs2, jy, j2, rfl, rfl, ha2, by rw [g.length]; exact r, v3, [], rfl, ?_⟩
                have f3 := (f3.ext x4).ext x5
                refine ⟨_, hw0, c, _, F3, E5, (PostS.ofOut p3).mono fun kd3 ρ4 H4 F4 E6 x6 p4 kv3 fk3 => ?_⟩
                obtain ⟨dd3, ed3, p4⟩ := rd_fl p4
                obtain ⟨w3, hw3, ow3⟩ := E6.get ed3
                rw [hw0] at hw3
                cases hw3
                have ed3' := ed3
                rw [hm] at ow3
                generalize hF3 : F4 i = l3 at ow3
                cases ow3 with
                | @li a3 vs3 ds3 ha3 g3 =>
                  cases kd3 with
                  | int jz =>
                    cases fk3
                    simp only [setIx] at p4
                    cases r3 : ixN ds3.length jz with
                    | none => rw [r3] at p4; exact p4.elim
                    | some j3 =>
                      rw [r3] at p4
                      simp only [Option.map_some] at p4
                      obtain ⟨E7, x7⟩ := E6.write (vs := vs3.set j3 v3) (ds := ds3.set j3 d3) hm ed3' hw0 (g3.set (f3.ext x6) j3)
                      exact ⟨a, vs3, jz, j3, rfl, rfl, ha3, by rw [g3.length]; exact r3, rfl, p4 _ _ _ E7⟩
                  | _ => exact p4.elim
            | _ => exact p3.elim
      | _ => exact p2.elim
/-- d[k] = e -/
theorem s_setD (C : Cs G φ cls Ct k N X sc W) {kx : Ex} {e : Ex} {o ke v : Expr} {p1 pos : Pos} (h : (mNm N sc i o && (decide (ms.getD i .fz = .dk ∨ ms.getD i .fz = .dt) && (notLc v && (mE G N ms sc e v && (plainB ke && mE G N ms sc kx ke))))) = true) :
    PS X (.Assign [.Subscript o ke p1] v pos) (RdS ios ms ms mb W cls (exS Ct φ (.setD i kx e))) := by
  obtain ⟨h1, z2⟩ := and2 h
  obtain ⟨h2, z3⟩ := and2 z2
  obtain ⟨h3, z4⟩ := and2 z3
  obtain ⟨h4, z5⟩ := and2 z4
  obtain ⟨h5, h6⟩ := and2 z5
  have hm := of_decide_eq_true h2
  have hu : X.A.units + 1 < cLine := by have := C.room.un; omega
  have A := (good G φ cls k N ms e).val X sc W v C.toCg h4
  have B := (good G φ cls k N ms kx).val X sc W ke C.toCg h6
  refine PS.imp (ps_dput hu (nm_ok C.toCg h1).1 B A (sw_no h3 _ _ _)) fun D σ H ⟨c, ρ, F, hio, E, p⟩ => ?_
  simp only [exS] at p
  refine ⟨c, ρ, F, E, (PostS.ofOut p).mono fun d ρ1 H1 F1 E1 e1 p1 v fv => ?_⟩
  obtain ⟨d0, ed0, p1⟩ := rd_fl p1
  obtain ⟨w0, hw0, _⟩ := E1.get ed0
  refine ⟨w0, hw0, c, ρ1, F1, E1, (PostS.ofOut p1).mono fun kd ρ2 H2 F2 E2 e2 p2 kv fk => ?_⟩
  obtain ⟨d1, ed1, p2⟩ := rd_fl p2
  obtain ⟨w1, hw1, ow⟩ := E2.get ed1
  rw [hw0] at hw1
  cases hw1
  have fv2 := fv.ext e2
  generalize hF : F2 i = l at ow
  generalize hmm : ms.getD i .fz = mm at ow hm
  cases ow with
  | fz _ => rcases hm with hm | hm <;> cases hm
  | li _ _ => rcases hm with hm | hm <;> cases hm
  | @dk a kvs es ha fa =>
    simp only [setDx] at p2
    split at p2
    · rename_i o' eo
      split at eo
      · rename_i z
        cases eo
        obtain ⟨z1, z2⟩ := and2 z
        have z2 := of_decide_eq_true z2
        obtain ⟨kk, ek⟩ := isKey_k z1
        cases (Bz.fz fk).keyK ek
        cases kO_some ek
        have pt := fa.put fv2 kk
        obtain ⟨E3, x3⟩ := E2.writeM (o := .dK (putK kvs kk v)) (d' := .dic false (dPut es (kD kk) d)) hmm hF ed1 hw0 (fun S' e' => .dk upd_same (pt.ext e'))
        exact ⟨a, _, rfl, DPut.k ha (by rw [fa.length]; exact z2), p2 _ _ _ E3⟩
      · cases eo
    · exact p2.elim
  | @dt a kvs es ha fa =>
    simp only [setDx] at p2
    split at p2
    · rename_i o' eo
      split at eo
      · rename_i z
        cases eo
        obtain ⟨z1, z2⟩ := and2 z
        have z2 := of_decide_eq_true z2
        obtain ⟨kk, ek⟩ := isKey_t z1
        obtain ⟨b, rfl, hb⟩ := (Bz.fz fk).keyT ek
        cases tO_some ek
        have pt := fa.put fv2 kk
        obtain ⟨E3, x3⟩ := E2.writeM (o := .dT (putK kvs kk v)) (d' := .dic true (dPut es (tD kk) d)) hmm hF ed1 hw0 (fun S' e' => .dt upd_same (pt.ext e'))
        exact ⟨a, _, rfl, .inr ⟨kvs, kk, b, ha, rfl, hb, by rw [fa.length]; exact z2, rfl⟩, p2 _ _ _ E3⟩
      · cases eo
    · exact p2.elim
theorem swp2 {i j : Nat} {x y : Str} {px py pt pv : Pos} {u v : Expr} {kt kv : Nat} {env : PySem.Env} (hk : env.scope.kind = .function) (hx : env.scope.names.lookup x = some .local) (hy : env.scope.names.lookup y = some .local)
    (ne : x ≠ y) (hl : py.line = px.line) (su : nst u = true) (sv : nst v = true) (h1 : [u, v].all (foldedForSure 8) = false) (h2 : [u, v].all (constantsAlone 8) = false) :
    swappedStores [.Tuple [.Name x px, .Name y py] kt pt] (.Tuple [u, v] kv pv) env = pure (some [x, y]) := by
  have b : env.blockKind = .function := by unfold PySem.Env.blockKind; rw [hk]; rfl
  have e1 : (x == y) = false := beq_eq_false_iff_ne.mpr ne
  have e4 : (y == x) = false := beq_eq_false_iff_ne.mpr (Ne.symm ne)
  unfold swappedStores
  simp only [List.length_cons, List.length_nil, b]
  simp only [h1, h2]
  simp [PySem.Env.kindOf, hx, hy, Expr.pos, hl, List.eraseDups, List.eraseDupsBy, List.eraseDupsBy.loop, e1, e4, ne]
  intro z
  exfalso
  rcases z with z | z
  · cases u <;> first | (cases z; done) | cases su
  · cases v <;> first | (cases z; done) | cases sv
/-- x, y = a, b -/
theorem s_par (C : Cs G φ cls Ct k N X sc W) {j : Nat} {x y : Str} {px py pt pv pos : Pos} {kt kv : Nat} {a b : Ex} {u v : Expr}
    (h : ((decide (N[i]? = some x) && (decide (N[j]? = some y) && decide (i ≠ j ∧ x ≠ y))) && (decide (i ∉ ios ∧ j ∉ ios) && ((decide (sc.names.lookup x = some .local) && decide (sc.names.lookup y = some .local)) && (decide (py.line = px.line) &&
      ((decide ([u, v].all (foldedForSure 8) = false) && decide ([u, v].all (constantsAlone 8) = false)) && mL G N ms sc [a, b] [u, v]))))) = true) :
    PS X (.Assign [.Tuple [.Name x px, .Name y py] kt pt] (.Tuple [u, v] kv pv) pos) (RdS ios ms ((ms.set i .fz).set j .fz) mb W cls (exS Ct φ (.par i j a b))) := by
  obtain ⟨z1, z2⟩ := and2 h
  obtain ⟨h1, z1⟩ := and2 z1
  obtain ⟨h2, h3⟩ := and2 z1
  obtain ⟨h4, z2⟩ := and2 z2
  obtain ⟨z3, z2⟩ := and2 z2
  obtain ⟨lx, ly⟩ := and2 z3
  obtain ⟨ll, z2⟩ := and2 z2
  obtain ⟨z3, hL⟩ := and2 z2
  obtain ⟨f1, f2⟩ := and2 z3
  have h1 := of_decide_eq_true h1
  have h2 := of_decide_eq_true h2
  obtain ⟨nij, nxy⟩ := of_decide_eq_true h3
  obtain ⟨oi, oj⟩ := of_decide_eq_true h4
  have lx := of_decide_eq_true lx
  have ly := of_decide_eq_true ly
  have ll := of_decide_eq_true ll
  have f1 := of_decide_eq_true f1
  have f2 := of_decide_eq_true f2
  have loc : ∀ {x : Str}, sc.names.lookup x = some .local → X.env.scope.names.lookup x = some .local := fun {x} e => by
    obtain ⟨k', e', q⟩ := C.agr x _ e
    rcases q with q | ⟨q, _⟩
    · rw [e', q]
    · cases q
  have hN : X.N.Nodup := by rw [C.hN]; exact C.nd
  have lt : ∀ {i : Nat} {x : Str}, N[i]? = some x → i < N.length := fun {i x} e => by
    rcases Nat.lt_or_ge i N.length with q | q
    · exact q
    · rw [List.getElem?_eq_none q] at e; cases e
  have su : nst u = true := mL_nst hL u List.mem_cons_self
  have sv : nst v = true := mL_nst hL v (List.mem_cons_of_mem _ List.mem_cons_self)
  have A := list_ok C.toCg (goodL G φ cls k N ms [a, b]) hL
  refine PSi fun pins s σ H D I q => (ps_par C.calm hN (by rw [C.hN]; exact h1) (by rw [C.hN]; exact h2) nij (loc lx) (loc ly) A (swp2 (i := i) (j := j) C.sk (loc lx) (loc ly) nxy ll su sv f1 f2)).run pins s σ H D I ?_
  have hl : σ.length = N.length := by rw [I.len, C.hN]
  obtain ⟨c, ρ, F, hio, E, p⟩ := q
  simp only [exS] at p
  refine ⟨c, ρ, F, E, (PostS.ofOut p).mono fun ds ρ1 H1 F1 E1 e1 p1 vs fvs => ?_⟩
  match ds, vs, fvs, p1 with
  | [d1, d2], [v1, v2], .cons g1 (.cons g2 .nil), p1 =>
    have n1 : ∀ p ∈ c.io, p.1 ≠ i := fun p hp z => oi (z ▸ hio p hp)
    have n2 : ∀ p ∈ c.io, p.1 ≠ j := fun p hp z => oj (z ▸ hio p hp)
    have E2 := E1.put (by rw [hl]; exact lt h1) n1 g1
    have E3 := E2.put (by rw [List.length_set, hl]; exact lt h2) n2 (g2.ext (Ext.less less_setF))
    exact ⟨v1, v2, rfl, p1 _ _ _ E3⟩
theorem swp3g {i j l : Nat} {x y z : Str} {px py pz pt pv : Pos} {u v w : Expr} {kt kv : Nat} {env : PySem.Env} (hk : env.scope.kind = .function) (hx : env.scope.names.lookup x = some .local) (hy : env.scope.names.lookup y = some .local) (hz : env.scope.names.lookup z = some .local)
    (ne : i ≠ j ∧ i ≠ l ∧ j ≠ l ∧ x ≠ y ∧ x ≠ z ∧ y ≠ z) (hl : py.line = px.line ∧ pz.line = px.line) (su : nst u = true) (sv : nst v = true) (sw : nst w = true) (h1 : [u, v, w].all (foldedForSure 8) = false) (h2 : [u, v, w].all (constantsAlone 8) = false) :
    swappedStores [.Tuple [.Name x px, .Name y py, .Name z pz] kt pt] (.Tuple [u, v, w] kv pv) env = pure (some [x, y, z]) := by
  obtain ⟨_, _, _, n1, n2, n3⟩ := ne
  have b : env.blockKind = .function := by unfold PySem.Env.blockKind; rw [hk]; rfl
  have e1 : (x == y) = false := beq_eq_false_iff_ne.mpr n1
  have e2 : (x == z) = false := beq_eq_false_iff_ne.mpr n2
  have e3 : (y == z) = false := beq_eq_false_iff_ne.mpr n3
  have e4 : (y == x) = false := beq_eq_false_iff_ne.mpr (Ne.symm n1)
  have e5 : (z == x) = false := beq_eq_false_iff_ne.mpr (Ne.symm n2)
  have e6 : (z == y) = false := beq_eq_false_iff_ne.mpr (Ne.symm n3)
  unfold swappedStores
  simp only [List.length_cons, List.length_nil, b]
  simp only [h1, h2]
  simp [PySem.Env.kindOf, hx, hy, hz, Expr.pos, hl.1, hl.2, List.eraseDups, List.eraseDupsBy, List.eraseDupsBy.loop, e1, e2, e3, e4, e5, e6, n1, n2, n3]
  intro q
  exfalso
  rcases q with q | q | q
  · cases u <;> first | (cases q; done) | cases su
  · cases v <;> first | (cases q; done) | cases sv
  · cases w <;> first | (cases q; done) | cases sw
/-- x, y, z = a, b, c -/
theorem s_par3 (C : Cs G φ cls Ct k N X sc W) {j l : Nat} {x y z : Str} {px py pz pt pv pos : Pos} {kt kv : Nat} {a b c : Ex} {u v w : Expr}
    (h : ((decide (N[i]? = some x) && (decide (N[j]? = some y) && decide (N[l]? = some z))) && ((decide (i ≠ j ∧ i ≠ l ∧ j ≠ l ∧ x ≠ y ∧ x ≠ z ∧ y ≠ z) && decide (i ∉ ios ∧ j ∉ ios ∧ l ∉ ios)) && (((decide (sc.names.lookup x = some .local) && (decide (sc.names.lookup y = some .local) && decide (sc.names.lookup z = some .local))) && decide (py.line = px.line ∧ pz.line = px.line)) &&
      ((decide ([u, v, w].all (foldedForSure 8) = false) && decide ([u, v, w].all (constantsAlone 8) = false)) && mL G N ms sc [a, b, c] [u, v, w])))) = true) :
    PS X (.Assign [.Tuple [.Name x px, .Name y py, .Name z pz] kt pt] (.Tuple [u, v, w] kv pv) pos) (RdS ios ms (((ms.set i .fz).set j .fz).set l .fz) mb W cls (exS Ct φ (.par3 i j l a b c))) := by
  obtain ⟨z1, z2⟩ := and2 h
  obtain ⟨h1, z1⟩ := and2 z1
  obtain ⟨h2, h3⟩ := and2 z1
  obtain ⟨z3, z2⟩ := and2 z2
  obtain ⟨ne, io⟩ := and2 z3
  obtain ⟨z3, z2⟩ := and2 z2
  obtain ⟨lxyz, ll⟩ := and2 z3
  obtain ⟨lx, lyz⟩ := and2 lxyz
  obtain ⟨ly, lz⟩ := and2 lyz
  obtain ⟨z3, hL⟩ := and2 z2
  obtain ⟨f1, f2⟩ := and2 z3
  have h1 := of_decide_eq_true h1
  have h2 := of_decide_eq_true h2
  have h3 := of_decide_eq_true h3
  have ne := of_decide_eq_true ne
  have io := of_decide_eq_true io
  have lx := of_decide_eq_true lx
  have ly := of_decide_eq_true ly
  have lz := of_decide_eq_true lz
  have ll := of_decide_eq_true ll
  have f1 := of_decide_eq_true f1
  have f2 := of_decide_eq_true f2
  have loc : ∀ {x : Str}, sc.names.lookup x = some .local → X.env.scope.names.lookup x = some .local := fun {x} e => by
    obtain ⟨k', e', q⟩ := C.agr x _ e
    rcases q with q | ⟨q, _⟩
    · rw [e', q]
    · cases q
  have hN : X.N.Nodup := by rw [C.hN]; exact C.nd
  have lt : ∀ {i : Nat} {x : Str}, N[i]? = some x → i < N.length := fun {i x} e => by
    rcases Nat.lt_or_ge i N.length with q | q
    · exact q
    · rw [List.getElem?_eq_none q] at e; cases e
  have su : nst u = true := mL_nst hL u List.mem_cons_self
  have sv : nst v = true := mL_nst hL v (List.mem_cons_of_mem _ List.mem_cons_self)
  have sw : nst w = true := mL_nst hL w (List.mem_cons_of_mem _ (List.mem_cons_of_mem _ List.mem_cons_self))
  have A := list_ok C.toCg (goodL G φ cls k N ms [a, b, c]) hL
  refine PSi fun pins s σ H D I q => (ps_par3 C.calm hN (by rw [C.hN]; exact h1) (by rw [C.hN]; exact h2) (by rw [C.hN]; exact h3) ne.1 ne.2.1 ne.2.2.1 (loc lx) (loc ly) (loc lz) A (swp3g C.sk (loc lx) (loc ly) (loc lz) ne ll su sv sw f1 f2)).run pins s σ H D I ?_
  have hl : σ.length = N.length := by rw [I.len, C.hN]
  obtain ⟨c, ρ, F, hio, E, p⟩ := q
  simp only [exS] at p
  refine ⟨c, ρ, F, E, (PostS.ofOut p).mono fun ds ρ1 H1 F1 E1 e1 p1 vs fvs => ?_⟩
  match ds, vs, fvs, p1 with
  | [d1, d2, d3], [v1, v2, v3], .cons g1 (.cons g2 (.cons g3 .nil)), p1 =>
    have n1 : ∀ p ∈ c.io, p.1 ≠ i := fun p hp z => io.1 (z ▸ hio p hp)
    have n2 : ∀ p ∈ c.io, p.1 ≠ j := fun p hp z => io.2.1 (z ▸ hio p hp)
    have n3 : ∀ p ∈ c.io, p.1 ≠ l := fun p hp z => io.2.2 (z ▸ hio p hp)
    have E2 := E1.put (by rw [hl]; exact lt h1) n1 g1
    have E3 := E2.put (by rw [List.length_set, hl]; exact lt h2) n2 (g2.ext (Ext.less less_setF))
    have E4 := E3.put (by rw [List.length_set, List.length_set, hl]; exact lt h3) n3 ((g3.ext (Ext.less less_setF)).ext (Ext.less less_setF))
    exact ⟨v1, v2, v3, rfl, p1 _ _ _ E4⟩
/-- x += e -/
theorem s_aug (C : Cs G φ cls Ct k N X sc W) {o : O2} {op : Operator} {e : Ex} {x : Str} {px pos : Pos} {v : Expr} (h : (mTn N sc i (.Name x px) && (decide (i ∉ ios) && (decide (ms.getD i .fz = .fz) && (decide (o = .add ∧ op = .Add ∨ o = .sub ∧ op = .Sub) && mE G N ms sc e v)))) = true) :
    PS X (.AugAssign (.Name x px) op v pos) (RdS ios ms ms mb W cls (exS Ct φ (.aug i o e))) := by
  obtain ⟨h1, z2⟩ := and2 h
  obtain ⟨h2, z3⟩ := and2 z2
  obtain ⟨h3, z4⟩ := and2 z3
  obtain ⟨h4, h5⟩ := and2 z4
  have h2 := of_decide_eq_true h2
  have hm := of_decide_eq_true h3
  have hlt := slot_lt C.toCg h1
  obtain ⟨hN, hx⟩ := name_of (t := v) h1
  have hnd : X.N.Nodup := by rw [C.hN]; exact C.nd
  have hN' : X.N[i]? = some x := by rw [C.hN]; exact hN
  have A := (good G φ cls k N ms e).val X sc W v C.toCg h5
  have fin : ∀ {D : Ends} {σ : L2.St} {H : Hp} {f : Int → Int → Int}, σ.length = N.length → (∀ a b : Int, sem2 o (.int a) (.int b) = some (.int (f a b))) → RdS ios ms ms mb W cls (exS Ct φ (.aug i o e)) D σ H → tAug i (RdG Fz ms W cls (ev φ e)) (ipI f) D σ H := by
    intro D σ H f hl hf ⟨c, ρ, F, hio, E, p⟩
    simp only [exS] at p
    obtain ⟨d0, ed0, p⟩ := rd_fl p
    obtain ⟨w0, hw0, ow⟩ := E.get ed0
    rw [hm] at ow
    have f0 := ow.unfz.1
    refine ⟨w0, hw0, c, ρ, F, E, (PostS.ofOut p).mono fun d ρ1 H1 F1 E1 e1 p1 v fv => ?_⟩
    cases d0 <;> cases d <;> first | exact p1.elim | skip
    rename_i a b
    dsimp only at p1
    rw [hf] at p1
    cases f0
    cases fv
    exact ⟨a, b, rfl, rfl, p1 _ _ _ (E1.set hm (by rw [hl]; exact hlt) (.int _))⟩
  rcases of_decide_eq_true h4 with ⟨rfl, rfl⟩ | ⟨rfl, rfl⟩
  · exact PSi fun pins s σ H D I q => (ps_aug hnd hN' (C.agr.loc hx) A ip_add (C.fnn x hx)).run pins s σ H D I (fin (by rw [I.len, C.hN]) (fun _ _ => rfl) q)
  · exact PSi fun pins s σ H D I q => (ps_aug hnd hN' (C.agr.loc hx) A ip_sub (C.fnn x hx)).run pins s σ H D I (fin (by rw [I.len, C.hN]) (fun _ _ => rfl) q)
theorem s_ex (C : Cs G φ cls Ct k N X sc W) {e : Ex} {v : Expr} {pos : Pos} (h : (notLc v && mE G N ms sc e v) = true) : PS X (.Expr v pos) (RdS ios ms ms mb W cls (exS Ct φ (.ex e))) := by
  obtain ⟨h1, h2⟩ := and2 h
  refine PS.imp (ps_expr ((good G φ cls k N ms e).val X sc W v C.toCg h2) (sw_no h1 _ _ _)) fun D σ H ⟨c, ρ, F, hio, E, p⟩ => ?_
  simp only [exS] at p
  exact ⟨c, ρ, F, E, (PostS.ofOut p).mono fun d ρ1 H1 F1 E1 e1 p1 v fv => p1 _ _ _ E1⟩
/-- x.append(e) -/
theorem s_app (C : Cs G φ cls Ct k N X sc W) {e : Ex} {o v : Expr} {m : Str} {ap cp pos : Pos} (h : (mNm N sc i o && (decide (m = ("append" : Str)) && (decide (ms.getD i .fz = .li) && (nst v && (ap.endLine == cp.line && mE G N ms sc e v))))) = true) :
    PS X (.Expr (.Call (.Attribute o m ap) [v] [] cp) pos) (RdS ios ms ms mb W cls (exS Ct φ (.app i e))) := by
  obtain ⟨h1, z2⟩ := and2 h
  obtain ⟨h2, z3⟩ := and2 z2
  obtain ⟨h3, z4⟩ := and2 z3
  obtain ⟨h4, z5⟩ := and2 z4
  obtain ⟨h5, h6⟩ := and2 z5
  have h2 := of_decide_eq_true h2
  subst h2
  have hm := of_decide_eq_true h3
  have A := (good G φ cls k N ms e).val X sc W v C.toCg h6
  have hbase : attributeBase o "append" X.env (eval o X.env) = eval o X.env := by
    cases o <;> first | (cases h1; done) | rfl
  refine PS.imp (ps_expr (pe_bm PySem.F.plainAttrs_list PySem.F.slot_list_append PySem.F.type_list_append mt_append (nm_ok C.toCg h1).1 (pa_cons A pa_nil (star_cons h4)) hbase (by rw [star_cons h4]; rfl) h5 (star_cons h4) rfl) rfl) fun D σ H ⟨c, ρ, F, hio, E, p⟩ => ?_
  simp only [exS] at p
  obtain ⟨d0, ed0, p⟩ := rd_fl p
  obtain ⟨w0, hw0, ow⟩ := E.get ed0
  have ow0 := ow
  rw [hm] at ow
  generalize hF : F i = l at ow
  cases ow with
  | @li a vs ds ha f =>
    refine ⟨_, hw0, .inl ⟨rfl, vs, SqL.of ha⟩, c, ρ, F, E, (PostS.ofOut p).mono fun d ρ1 H1 F1 E1 e1 p1 v fv => ?_⟩
    obtain ⟨d1, ed1, p1⟩ := rd_fl p1
    obtain ⟨w1, hw1, ow1⟩ := E1.get ed1
    rw [hw0] at hw1
    cases hw1
    rw [hm] at ow1
    generalize hF1 : F1 i = l1 at ow1
    cases ow1 with
    | @li a1 vs1 ds1 ha1 f1 =>
      dsimp only at p1
      split at p1
      · rename_i hz
        obtain ⟨E3, x3⟩ := E1.write (vs := vs1 ++ [v]) (ds := ds1 ++ [d]) hm ed1 hw0 (f1.append (.cons fv .nil))
        exact ⟨a, vs1, v, rfl, rfl, ha1, by rw [f1.length]; exact hz, p1 _ _ _ E3⟩
      · exact p1.elim
theorem s_ret (C : Cs G φ cls Ct k N X sc W) {e : Ex} {v : Expr} {pos : Pos} (h : mE G N ms sc e v = true) : PS X (.Return (some v) pos) (RdS ios ms ms' mb W cls (exS Ct φ (.ret e))) := by
  refine PS.imp (ps_ret ((good G φ cls k N ms e).val X sc W v C.toCg h)) fun D σ H ⟨c, ρ, F, hio, E, p⟩ => ?_
  simp only [exS] at p
  exact ⟨c, ρ, F, E, (PostS.ofOut p).mono fun d ρ1 H1 F1 E1 e1 p1 v fv => p1 _ _ _ _ _ SameIo.refl E1 fv⟩
theorem s_retN {pos : Pos} : PS X (.Return none pos) (RdS ios ms ms' mb W cls (exS Ct φ .retN)) := by
  refine PS.imp ps_retN fun D σ H ⟨c, ρ, F, hio, E, p⟩ => ?_
  simp only [exS] at p
  exact p _ _ _ _ .non SameIo.refl E .non
theorem s_brk {pos : Pos} : PS X (.Break pos) (RdS ios ms ms' ms W cls (exS Ct φ .brk)) := by
  refine PS.imp ps_break fun D σ H ⟨c, ρ, F, hio, E, p⟩ => ?_
  simp only [exS] at p
  exact p _ _ _ E
theorem s_pass {pos : Pos} : PS X (.Pass pos) (RdS ios ms ms mb W cls (exS Ct φ .pass)) := by
  refine PS.imp ps_pass fun D σ H ⟨c, ρ, F, hio, E, p⟩ => ?_
  simp only [exS] at p
  exact p _ _ _ E
/-- raise X('..') -/
theorem s_rais (C : Cs G φ cls Ct k N X sc W) {j jj : Nat} {x m : Str} {p1 p2 p3 pos : Pos} (h : (decide (G.er[j]? = some x) && (globB sc x && okName x)) = true) :
    PS X (.Raise (some (.Call (.Name x p1) [.Constant (.str m) jj p2] [] p3)) none pos) (RdS ios ms ms' mb W cls (exS Ct φ (.rais j))) := by
  obtain ⟨h1, z2⟩ := and2 h
  obtain ⟨h2, h3⟩ := and2 z2
  obtain ⟨Ca, e1, e2, e3, e4, e5, e6⟩ := C.er.at_ j x (of_decide_eq_true h1)
  refine PS.imp (ps_raise C.calm C.tk (pmk_own PySem.F.excBase_ValueError e4 e2 e3 (raises_own e5 e6) (C.agr.glob h2) (okName_d h3))) fun D σ H ⟨c, ρ, F, hio, E, p⟩ => ?_
  simp only [exS] at p
  have := p ms _ _ _ SameIo.refl E
  rw [e1] at this
  exact this
end
end Bell
set_option Elab.async false
set_option linter.all false
set_option maxRecDepth 100000
set_option autoImplicit false
/-! Blocks, branches, loops, try. -/
namespace Bell
open PySem PySem.Spec PyProof.Rows L2
section
variable {G : GI} {φ : Calls} {cls : Nat → Value} {Ct : Catch} {k : Nat} {N : List Str} {ms ms' m1 m2 mb : List Md} {X : Cx} {sc : Scope} {W : WX} {ios : List Nat} {a : Stmt} {i : Nat}
def GS (G : GI) (φ : Calls) (cls : Nat → Value) (Ct : Catch) (k : Nat) (N : List Str) (ios : List Nat) (s : Sm) : Prop := ∀ (X : Cx) (sc : Scope) (W : WX) (ms ms' mb : List Md) (st : Stmt), Cs G φ cls Ct k N X sc W → mS G N ios mb sc ms s st = some ms' → PS X st (RdS ios ms ms' mb W cls (exS Ct φ s))
def GB (G : GI) (φ : Calls) (cls : Nat → Value) (Ct : Catch) (k : Nat) (N : List Str) (ios : List Nat) (b : List Sm) : Prop := ∀ (X : Cx) (sc : Scope) (W : WX) (ms ms' mb : List Md) (ss : List Stmt), Cs G φ cls Ct k N X sc W → mB G N ios mb sc ms b ss = some ms' → PSs X ss (RdS ios ms ms' mb W cls (exB Ct φ b))
theorem sameIo_of {c : Fc} (h : sameB ios ms m1 = true) (hio : ∀ p ∈ c.io, p.1 ∈ ios) : SameIo c ms m1 := fun p hp => of_decide_eq_true (List.all_eq_true.mp h p.1 (hio p hp))
theorem PostS.from {c : Fc} {cls : Nat → Value} {D : Ends} {x : Fl} (h : PostS c ms ms' mb W cls D x) (s : SameIo c ms m1) : PostS c m1 ms' mb W cls D x := by
  cases x with
  | next ρ => exact h
  | ret d ρ => exact fun ms2 σ' H' F' v s2 E f => h ms2 σ' H' F' v (s.trans s2) E f
  | brk ρ => exact h
  | exc k ρ => exact fun ms2 σ' H' F' s2 E => h ms2 σ' H' F' (s.trans s2) E
  | stuck => exact h
theorem nil_block : GB G φ cls Ct k N ios [] := by
  intro X sc W ms ms' mb ss C h
  cases ss with
  | nil =>
    simp only [mB, Option.some.injEq] at h
    subst h
    refine PSs.imp pss_nil fun D σ H ⟨c, ρ, F, hio, E, p⟩ => ?_
    simp only [exB] at p
    exact p _ _ _ E
  | cons _ _ => simp [mB] at h
theorem frz_block {j : Nat} {r : List Sm} (g : GB G φ cls Ct k N ios r) : GB G φ cls Ct k N ios (.frz j :: r) := by
  intro X sc W ms ms' mb ss C h
  have h' : (if decide (j ∉ ios) then mB G N ios mb sc (ms.set j .fz) r ss else none) = some ms' := by
    cases ss <;> simpa only [mB] using h
  split at h'
  · rename_i hj
    have hj := of_decide_eq_true hj
    refine PSs.imp (g X sc W _ _ mb ss C h') fun D σ H ⟨c, ρ, F, hio, E, p⟩ => ?_
    have hne : ∀ p ∈ c.io, p.1 ≠ j := fun p hp z => hj (z ▸ hio p hp)
    simp only [exB, exS] at p
    exact ⟨c, ρ, _, hio, E.frz hne, PostS.from p (SameIo.set hne)⟩
  · cases h'
theorem cons_block {s : Sm} {r : List Sm} (hf : isFrz s = false) (g1 : GS G φ cls Ct k N ios s) (g2 : GB G φ cls Ct k N ios r) : GB G φ cls Ct k N ios (s :: r) := by
  intro X sc W ms ms' mb ss C h
  cases ss with
  | nil => cases s <;> simp [mB] at h <;> cases hf
  | cons st ss =>
    have h' : (match mS G N ios mb sc ms s st with
      | some m => if sameB ios ms m then mB G N ios mb sc m r ss else none
      | none => none) = some ms' := by
      cases s <;> first | (cases hf; done) | (simp only [mB] at h; exact h)
    split at h'
    · rename_i m hm
      split at h'
      · rename_i hs
        refine PSs.imp (pss_cons (g1 X sc W _ _ mb st C hm) (g2 X sc W _ _ mb ss C h')) fun D σ H ⟨c, ρ, F, hio, E, p⟩ => ?_
        refine ⟨c, ρ, F, hio, E, ?_⟩
        simp only [exB] at p
        cases q : exS Ct φ s ρ with
        | next ρ' =>
          rw [q] at p
          exact fun σ' H' F' E' => ⟨c, ρ', F', hio, E', PostS.from p (sameIo_of hs hio)⟩
        | ret d ρ' => rw [q] at p; exact p
        | brk ρ' => rw [q] at p; exact p
        | exc k ρ' => rw [q] at p; exact p
        | stuck => rw [q] at p; exact p
      · cases h'
    · cases h'
theorem no_next : ∀ {b : List Sm} {ρ ρ' : Bell.Env}, noNext b = true → exB Ct φ b ρ ≠ .next ρ'
  | [], _, _, h => by cases h
  | s :: r, ρ, ρ', h => by
    intro q
    simp only [exB] at q
    cases qs : exS Ct φ s ρ with
    | next ρ1 =>
      rw [qs] at q
      cases r with
      | nil =>
        cases s <;> simp only [noNext] at h <;> first | (cases h; done) | skip
        · simp only [exS] at qs
          rename_i e
          cases q1 : ev φ e ρ <;> rw [q1] at qs <;> cases qs
        · simp only [exS] at qs; cases qs
        · simp only [exS] at qs; cases qs
        · simp only [exS] at qs; cases qs
      | cons t r =>
        have h' : noNext (t :: r) = true := by
          cases s <;> simpa only [noNext] using h
        exact no_next h' q
    | ret _ _ => rw [qs] at q; cases q
    | brk _ => rw [qs] at q; cases q
    | exc _ _ => rw [qs] at q; cases q
    | stuck => rw [qs] at q; cases q
theorem PostS.any {c : Fc} {cls : Nat → Value} {D : Ends} {x : Fl} (h : PostS c ms ms' mb W cls D x) (n : ∀ ρ', x ≠ .next ρ') : PostS c ms m1 mb W cls D x := by
  cases x with
  | next ρ => exact absurd rfl (n ρ)
  | ret d ρ => exact h
  | brk ρ => exact h
  | exc k ρ => exact h
  | stuck => exact h
theorem s_ife {c : Ex} {x y : List Sm} (gx : GB G φ cls Ct k N ios x) (gy : GB G φ cls Ct k N ios y) : GS G φ cls Ct k N ios (.ife c x y) := by
  intro X sc W ms ms' mb st C h
  cases st <;> first | (cases h; done) | skip
  rename_i t bx bY pos
  simp only [mS] at h
  split at h
  · rename_i ht
    obtain ⟨h1, h2⟩ := and2 ht
    have T := (good G φ cls k N ms c).opdT C.toCg h1 h2
    split at h
    · rename_i n1 n2 e1 e2
      have A := gx X sc W _ _ mb bx C e1
      have B := gy X sc W _ _ mb bY C e2
      refine PS.imp (ps_if T A B) fun D σ H ⟨c0, ρ, F, hio, E, p⟩ => ?_
      simp only [exS] at p
      refine ⟨c0, ρ, F, E, (PostS.ofOut p).mono fun b ρ1 H1 F1 E1 _ p1 => ?_⟩
      have key : PostS c0 ms n1 mb W cls D (exB Ct φ x ρ1) ∨ b = false := by
        cases b with
        | false => exact .inr rfl
        | true =>
          left
          simp only [if_true] at p1
          split at h
          · rename_i hn
            exact PostS.any p1 fun _ => no_next hn
          · split at h
            · cases h; exact p1
            · split at h
              · cases h; exact p1
              · cases h
      have key2 : PostS c0 ms n2 mb W cls D (exB Ct φ y ρ1) ∨ b = true := by
        cases b with
        | true => exact .inr rfl
        | false =>
          left
          simp only [Bool.false_eq_true, if_false] at p1
          split at h
          · cases h; exact p1
          · split at h
            · rename_i hn
              exact PostS.any p1 fun _ => no_next hn
            · split at h
              · rename_i he
                cases h
                rw [← he]
                exact p1
              · cases h
      cases b with
      | true => exact iteT ⟨c0, ρ1, F1, hio, E1, key.resolve_right (by decide)⟩
      | false => exact iteF ⟨c0, ρ1, F1, hio, E1, key2.resolve_right (by decide)⟩
    · cases h
  · cases h
theorem s_whl {c : Ex} {x : List Sm} (gx : GB G φ cls Ct k N ios x) : GS G φ cls Ct k N ios (.whl c x) := by
  intro X sc W ms ms' mb st C h
  obtain ⟨t, bx, pos, rfl⟩ : ∃ t bx pos, st = .While t bx [] pos := by
    cases st with
    | While t bx els pos => cases els with
      | nil => exact ⟨_, _, _, rfl⟩
      | cons _ _ => simp [mS] at h
    | _ => simp [mS] at h
  simp only [mS] at h
  split at h
  · rename_i ht
    obtain ⟨h1, h2⟩ := and2 ht
    have T := (good G φ cls k N ms c).opdT C.toCg h1 h2
    split at h
    · rename_i n1 e1
      split at h
      · rename_i hn
        cases h
        subst hn
        have A := gx X sc W _ _ n1 bx C e1
        refine PS.imp (ps_while C.hp T A) fun D σ H ⟨c0, ρ, F, hio, E, p⟩ => ?_
        simp only [exS] at p
        refine ⟨fun m σ H => ∃ (ρ : Bell.Env) (F : Nat → List Addr), EnvOk c0 n1 σ H ρ F ∧ PostS c0 n1 n1 mb W cls D (whGo (fun ρ => tst (ev φ c ρ)) (exB Ct φ x) m ρ), ⟨FUEL, ρ, F, E, p⟩, fun m σ H ⟨ρ, F, E, p⟩ => ?_⟩
        cases m with
        | zero => exact p.elim
        | succ m =>
          simp only [whGo] at p
          refine ⟨c0, ρ, F, E, (PostS.ofOut p).mono fun b ρ1 H1 F1 E1 _ p1 => ?_⟩
          cases b with
          | false =>
            simp only [Bool.false_eq_true, if_false] at p1
            exact iteF (p1 _ _ _ E1)
          | true =>
            simp only [if_true] at p1
            refine iteT ⟨fun σ' H' => ∃ (ρ : Bell.Env) (F : Nat → List Addr), EnvOk c0 n1 σ' H' ρ F ∧ PostS c0 n1 n1 mb W cls D (whGo (fun ρ => tst (ev φ c ρ)) (exB Ct φ x) m ρ), fun σ' H' w => ⟨m, Nat.lt_succ_self m, w⟩, c0, ρ1, F1, hio, E1, ?_⟩
            cases q : exB Ct φ x ρ1 with
            | next ρ2 =>
              rw [q] at p1
              exact fun σ' H' F' E' => ⟨ρ2, F', E', p1⟩
            | ret d ρ2 => rw [q] at p1; exact p1
            | brk ρ2 =>
              rw [q] at p1
              exact fun σ' H' F' E' => p1 _ _ _ E'
            | exc kk ρ2 => rw [q] at p1; exact p1
            | stuck => rw [q] at p1; exact p1
      · cases h
    · cases h
  · cases h
def Fc.and (c : Fc) (T : (Addr → Prop) → Hp → Prop) (TE : ∀ S H S' H', T S H → Ext S H S' H' → T S' H') : Fc := { c with T := fun S H => c.T S H ∧ T S H, TE := fun S H S' H' h e => ⟨c.TE _ _ _ _ h.1 e, TE _ _ _ _ h.2 e⟩ }
section
variable {c : Fc} {T : (Addr → Prop) → Hp → Prop} {TE : ∀ S H S' H', T S H → Ext S H S' H' → T S' H'} {σ : L2.St} {H : Hp} {ρ : Bell.Env} {F : Nat → List Addr}
theorem EnvOk.andI (E : EnvOk c ms σ H ρ F) (t : T (sOf c F) H) : EnvOk (c.and T TE) ms σ H ρ F := ⟨E.held, E.len, E.slot, E.nof, E.dj, E.out, E.new, E.keep, E.pin, E.sl, E.tt, t⟩
theorem EnvOk.andE (E : EnvOk (c.and T TE) ms σ H ρ F) : EnvOk c ms σ H ρ F ∧ T (sOf c F) H := ⟨⟨E.held, E.len, E.slot, E.nof, E.dj, E.out, E.new, E.keep, E.pin, E.sl, E.tt.1⟩, E.tt.2⟩
end
/-- the turns of a loop over J -/
def FrR (J : It) (g : TG) (tb : TS) (D : Ends) (σ : L2.St) (H : Hp) : Prop := tFor (fun _ H' R => R J H') g tb D σ H
theorem for_core {tg : Tg} {x : List Sm} {c0 : Fc} {n : Nat} {xs : List D} {ρ1 : Bell.Env} {F1 : Nat → List Addr} {σ0 : L2.St} {H1 : Hp} {D : Ends} {J : It} {T : (Addr → Prop) → Hp → Prop} (hn0 : c0.n = n) (hio : ∀ p ∈ c0.io, p.1 ∈ ios) (tgs : ∀ j ∈ tgSlots tg, j ∉ ios ∧ ms'.getD j .fz = .fz ∧ j < n)
    (E1 : EnvOk c0 ms' σ0 H1 ρ1 F1) (wk : Wk J xs T) (t1 : T (sOf c0 F1) H1) (p1 : PostS c0 ms' ms' mb W cls D (forGo (fun x' ρ => match bindT tg x' ρ with
      | none => .stuck
      | some ρ => exB Ct φ x ρ) xs ρ1)) : FrR J (gT X.K tg) (RdS ios ms' ms' ms' W cls (exB Ct φ x)) D σ0 H1 := by
  generalize hbd : (fun x' ρ => match bindT tg x' ρ with
    | none => Fl.stuck
    | some ρ => exB Ct φ x ρ) = body at p1
  refine ⟨fun j m σ H => m = xs.length - j ∧ j ≤ xs.length ∧ ∃ (ρ : Bell.Env) (F : Nat → List Addr), EnvOk c0 ms' σ H ρ F ∧ T (sOf c0 F) H ∧ PostS c0 ms' ms' mb W cls D (forGo body (xs.drop j) ρ), ⟨xs.length, rfl, Nat.zero_le _, ρ1, F1, E1, t1, by rw [List.drop_zero]; exact p1⟩, ?_⟩
  rintro j m σ H ⟨rfl, hj, ρ2, F2, E2, t2, p2⟩
  by_cases hlt : j < xs.length
  · refine .inr ⟨wk.go _ _ _ t2 hlt, fun σ' H' => xs.length - j ≠ 0 ∧ j + 1 ≤ xs.length ∧ ∃ (ρ : Bell.Env) (F : Nat → List Addr), EnvOk c0 ms' σ' H' ρ F ∧ T (sOf c0 F) H' ∧ PostS c0 ms' ms' mb W cls D (forGo body (xs.drop (j + 1)) ρ), fun σ' H' w => ⟨xs.length - (j + 1), by omega, rfl, w.2⟩, fun y H3 yy => ?_⟩
    obtain ⟨sm, d, ed, fd⟩ := wk.yld _ _ _ _ _ t2 E2.dom hlt yy
    have edr : xs.drop j = d :: xs.drop (j + 1) := by
      rw [List.drop_eq_getElem_cons hlt]
      congr 1
      rw [List.getElem?_eq_getElem hlt] at ed
      exact Option.some.inj ed
    rw [edr] at p2
    simp only [forGo] at p2
    have E3 := E2.same sm
    have t3 := wk.ext _ _ _ _ t2 (same_ext (S := sOf c0 F2) sm)
    subst hbd
    dsimp only at p2
    cases qb : bindT tg d ρ2 with
    | none => rw [qb] at p2; exact p2.elim
    | some ρb =>
      rw [qb] at p2
      dsimp only at p2
      refine gT_ok E3 (fun q hq => ⟨(tgs q hq).2.1, by rw [E3.sl, hn0]; exact (tgs q hq).2.2⟩) qb fd fun σ' _ E4 => ?_
      refine ⟨c0.and T wk.ext, ρb, F2, hio, E4.andI t3, ?_⟩
      cases qx : exB Ct φ x ρb with
      | next ρ5 =>
        rw [qx] at p2
        intro σ5 H5 F5 E5
        obtain ⟨E6, t6⟩ := E5.andE
        exact ⟨by omega, hlt, ρ5, F5, E6, t6, p2⟩
      | ret dd ρ5 =>
        rw [qx] at p2
        exact fun ms2 σ5 H5 F5 v s5 E5 fv => p2 ms2 σ5 H5 F5 v s5 E5.andE.1 fv
      | brk ρ5 =>
        rw [qx] at p2
        exact fun σ5 H5 F5 E5 => p2 _ _ _ E5.andE.1
      | exc kk ρ5 =>
        rw [qx] at p2
        exact fun ms2 σ5 H5 F5 s5 E5 => p2 ms2 σ5 H5 F5 s5 E5.andE.1
      | stuck => rw [qx] at p2; exact p2
  · have ej : j = xs.length := by omega
    subst ej
    rw [List.drop_length] at p2
    exact .inl ⟨wk.stop _ _ _ t2 (Nat.le_refl _), p2 _ _ _ E2⟩
theorem s_for {tg : Tg} {ik : IK} {its : List Ex} {x : List Sm} (gx : GB G φ cls Ct k N ios x) : GS G φ cls Ct k N ios (.fr tg ik its x) := by
  intro X sc W ms ms' mb st C h
  obtain ⟨t, it, bx, pos, rfl⟩ : ∃ t it bx pos, st = .For t it bx [] pos := by
    cases st with
    | For t it bx els pos => cases els with
      | nil => exact ⟨_, _, _, _, rfl⟩
      | cons _ _ => simp [mS] at h
    | _ => simp [mS] at h
  have hm : ∃ n1, forHd G N ios ms sc tg ik its t it = true ∧ mB G N ios ms sc ms x bx = some n1 ∧ n1 = ms ∧ ms' = ms := by
    simp only [mS] at h
    split at h
    · rename_i ht
      split at h
      · rename_i n1 e1
        split at h
        · rename_i hn
          exact ⟨n1, ht, e1, hn, (Option.some.inj h).symm⟩
        · cases h
      · cases h
    · cases h
  obtain ⟨n1, ht, e1, hn, hms⟩ := hm
  subst hn
  subst hms
  unfold forHd at ht
  obtain ⟨h1, z2⟩ := and2 ht
  obtain ⟨h2, z3⟩ := and2 z2
  obtain ⟨h3, h4⟩ := and2 z3
  have A := gx X sc W _ _ ms' bx C e1
  have I : PI X t it (RdW ms' W cls ik (evL φ its)) := by
    split at h2
    · rename_i as hs
      exact iter_ok C.toCg (goodL G φ cls k N ms' its) hs h2
    · cases h2
  have tgs : ∀ j ∈ tgSlots tg, j ∉ ios ∧ ms'.getD j .fz = .fz ∧ j < N.length := fun j hj => by
    have := List.all_eq_true.mp h4 j hj
    obtain ⟨a, b⟩ := and2 this
    obtain ⟨b, d⟩ := and2 b
    exact ⟨of_decide_eq_true a, of_decide_eq_true b, of_decide_eq_true d⟩
  refine PSi fun pins s σ0 H0 D I0 q => (ps_for C.hp C.calm I (g_tg C.toCg h3) A (fun z => by cases it <;> first | rfl | cases h1)).run pins s σ0 H0 D I0 ?_
  have hl0 : σ0.length = N.length := by rw [I0.len, C.hN]
  obtain ⟨c0, ρ, F, hio, E, p⟩ := q
  have hn0 : c0.n = N.length := by rw [← E.sl]; exact hl0
  simp only [exS] at p
  have p' : Post c0 ms' W cls σ0 (sOf c0 F) H0 (fun xs ρ' H' F' => PostS c0 ms' ms' mb W cls D (forGo (fun x' ρ => match bindT tg x' ρ with
    | none => .stuck
    | some ρ => exB Ct φ x ρ) xs ρ')) ((evL φ its ρ).bind fun ds ρ => itemsM ik ds ρ) := by
    cases q : evL φ its ρ with
    | ok ds ρ' =>
      rw [q] at p
      simp only [Out.fl] at p
      simp only [Out.bind]
      unfold itemsM
      cases qi : items ik ds with
      | none => rw [qi] at p; exact p
      | some xs => rw [qi] at p; exact fun _ _ _ _ => p
    | exc kk ρ' => rw [q] at p; exact fun H' F' E' => p _ _ _ _ SameIo.refl E'
    | stuck => rw [q] at p; exact p
  refine ⟨c0, ρ, F, E, p'.mono fun xs ρ1 H1 F1 E1 _ p1 J T wk t1 => ?_⟩
  exact for_core hn0 hio tgs E1 wk t1 p1
theorem PostS.unEx {c : Fc} {D : Ends} {x : Fl} (p : PostS c ms ms' mb W cls D (noEx x)) : PostS c ms ms' mb W cls D x := by
  cases x with
  | exc k ρ => exact p.elim
  | next ρ => exact p
  | ret d ρ => exact p
  | brk ρ => exact p
  | stuck => exact p
theorem s_frd {tg : Tg} {i : Nat} {x : List Sm} (gx : GB G φ cls Ct k N ios x) : GS G φ cls Ct k N ios (.frd tg i x) := by
  intro X sc W ms ms' mb st C h
  obtain ⟨t, it, bx, pos, rfl⟩ : ∃ t it bx pos, st = .For t it bx [] pos := by
    cases st with
    | For t it bx els pos => cases els with
      | nil => exact ⟨_, _, _, _, rfl⟩
      | cons _ _ => simp [mS] at h
    | _ => simp [mS] at h
  have hm : ∃ n1, ((mNm N sc i it && decide (ms.getD i .fz = .fz)) && (mT N sc tg t && (tgSlots tg).all fun i => decide (i ∉ ios) && (decide (ms.getD i .fz = .fz) && decide (i < N.length)))) = true ∧ mB G N ios ms sc ms x bx = some n1 ∧ n1 = ms ∧ ms' = ms := by
    simp only [mS] at h
    split at h
    · rename_i ht
      split at h
      · rename_i n1 e1
        split at h
        · rename_i hn
          exact ⟨n1, ht, e1, hn, (Option.some.inj h).symm⟩
        · cases h
      · cases h
    · cases h
  obtain ⟨n1, ht, e1, hn, hms⟩ := hm
  subst hn
  subst hms
  obtain ⟨z1, z2⟩ := and2 ht
  obtain ⟨h1, h2⟩ := and2 z1
  obtain ⟨h3, h4⟩ := and2 z2
  have h2 := of_decide_eq_true h2
  have A := gx X sc W _ _ ms' bx C e1
  have tgs : ∀ j ∈ tgSlots tg, j ∉ ios ∧ ms'.getD j .fz = .fz ∧ j < N.length := fun j hj => by
    have := List.all_eq_true.mp h4 j hj
    obtain ⟨a, b⟩ := and2 this
    obtain ⟨b, d⟩ := and2 b
    exact ⟨of_decide_eq_true a, of_decide_eq_true b, of_decide_eq_true d⟩
  have base := ps_for (pos := pos) C.hp C.calm (pi_keys (tg := t) (nm_ok C.toCg h1).1) (g_tg C.toCg h3) A (fun z => by
    unfold mNm at h1
    cases it <;> first | rfl | cases h1)
  refine PSi fun pins s σ0 H0 D I0 q => ?_
  have hl0 : σ0.length = N.length := by rw [I0.len, C.hN]
  obtain ⟨c0, ρ, F, hio, E, p⟩ := q
  have hn0 : c0.n = N.length := by rw [← E.sl]; exact hl0
  simp only [exS] at p
  have hd : ∃ t es, ρ[i]? = some (some (.dic t es)) ∧ PostS c0 ms' ms' mb W cls D (forGo (fun x' ρ => match bindT tg x' ρ with
      | none => .stuck
      | some ρ => exB Ct φ x ρ) (es.map (·.1)) ρ) ∧ PostS c0 ms' ms' mb W cls D (noEx (forGo (fun x' ρ => match bindT tg x' ρ with
      | none => .stuck
      | some ρ => exB Ct φ x ρ) (es.map (·.1)) ρ)) := by
    unfold rd at p
    split at p
    · rename_i d e
      simp only [Out.fl] at p
      cases d with
      | dic t es => exact ⟨t, es, e, PostS.unEx p, p⟩
      | _ => exact p.elim
    · exact p.elim
  obtain ⟨tt, es, ed, p1, p2⟩ := hd
  obtain ⟨v, hv, w⟩ := E.get ed
  rw [h2] at w
  have f := w.unfz.1
  obtain ⟨a, rfl, na, hl⟩ := lockable f
  rcases hl with ⟨od, u, hu⟩ | ⟨u, hu, du, mu⟩
  · exact base.run pins s σ0 H0 D I0 ⟨_, hv, keys_at f hu fun J T wk t1 => for_core hn0 hio tgs E wk t1 p1⟩
  · refine (ps_lock base).run pins s σ0 H0 D I0 ⟨a, u, hu, mu, fun od => ?_⟩
    have E' := E_lock (od := od) E hu du na
    have f' := f.ext (lock_ext (od := od) hu du)
    have h0 : ∀ o, c0.H0 a = some o → a ∉ c0.I0 → o = u := fun o e nb => by
      have := E.keep a o e nb
      rw [hu] at this
      exact (Option.some.inj this).symm
    have P' : PostS (c0.lock a od u) ms' ms' mb W cls ⟨fun σ' H' => H' a = some (.frz od u) ∧ D.nx σ' (upd H' a u), fun v H' => H' a = some (.frz od u) ∧ D.rt v (upd H' a u), fun σ' H' => H' a = some (.frz od u) ∧ D.bk σ' (upd H' a u), fun σ' H' => H' a = some (.frz od u) ∧ D.ct σ' (upd H' a u)⟩ (forGo (fun x' ρ => match bindT tg x' ρ with
      | none => .stuck
      | some ρ => exB Ct φ x ρ) (es.map (·.1)) ρ) := by
      generalize (forGo (fun x' ρ => match bindT tg x' ρ with
      | none => .stuck
      | some ρ => exB Ct φ x ρ) (es.map (·.1)) ρ) = r at p1 p2
      cases r with
      | next ρ2 =>
        intro σ' H' F' E2
        obtain ⟨k1, k2, E3⟩ := E_unlock E2 du h0
        exact ⟨k1, p1 _ _ _ E3⟩
      | ret d ρ2 =>
        intro ms2 σ' H' F' v si E2 fv
        obtain ⟨k1, k2, E3⟩ := E_unlock E2 du h0
        exact ⟨k1, p1 ms2 _ _ _ v si E3 (fv.unl (unl_upd k1 du))⟩
      | brk ρ2 =>
        intro σ' H' F' E2
        obtain ⟨k1, k2, E3⟩ := E_unlock E2 du h0
        exact ⟨k1, p1 _ _ _ E3⟩
      | exc kk ρ2 => exact p2.elim
      | stuck => exact p2.elim
    exact ⟨_, hv, keys_at f' upd_same fun J T wk t1 => for_core (c0 := c0.lock a od u) hn0 hio tgs E' wk t1 P'⟩
end
end Bell
set_option Elab.async false
set_option linter.all false
set_option maxRecDepth 100000
set_option autoImplicit false
/-! try; every statement; a def. -/
namespace Bell
open PySem PySem.Spec PyProof.Rows L2
section
variable {G : GI} {φ : Calls} {cls : Nat → Value} {Ct : Catch} {k : Nat} {N : List Str} {ms ms' m1 m2 mb : List Md} {X : Cx} {sc : Scope} {W : WX} {ios : List Nat} {a : Stmt} {i : Nat}
theorem Cs.tr (C : Cs G φ cls Ct k N X sc W) {W' : WX} {pn : List (Addr × Obj)} {xe : Value → Shared → Prop} (t : Takes (X.tr pn xe) W') (hp : PassesOwn (model X.prog X.w) X.A X.env xe) : Cs G φ cls Ct k N (X.tr pn xe) sc W' where
  hN := C.hN
  nd := C.nd
  agr := C.agr
  calm := C.calm
  tk := t
  room := C.room
  fns := C.fns
  cos := C.cos
  frs := C.frs
  fnn := C.fnn
  hp := hp
  er := ⟨C.er.at_, C.er.ex, C.er.xc⟩
  st := C.st
  fr := C.fr
  sk := C.sk
/-- a suite that hands back a constant -/
def tsC (d : D) : Addr → Value → Option Addr → TS := fun _ _ _ D _ H => D.rt (dV d) H
theorem const_suite {X : Cx} {d : D} {kc : Const} {j : Nat} {p pos : Pos} (h : cB d kc = true) : PSs X [.Return (some (.Constant kc j p)) pos] (fun D σ H => D.rt (dV d) H) := by
  cases d <;> cases kc <;> simp only [cB, Bool.false_eq_true, beq_iff_eq, decide_eq_true_eq] at h
  · exact pss_one (ps_ret pe_non)
  · subst h; exact pss_one (ps_ret pe_bl)
  · subst h; exact pss_one (ps_ret pe_int)
  · subst h; exact pss_one (ps_ret pe_str)
theorem const_fz {d : D} {kc : Const} (h : cB d kc = true) (S : Addr → Prop) (H : Hp) : Fz S H (dV d) d := by
  cases d <;> cases kc <;> simp only [cB, Bool.false_eq_true, beq_iff_eq, decide_eq_true_eq] at h
  · exact .non
  · exact .bl _
  · exact .int _
  · exact .str _
/-! except X as e: return c if isinstance(e, A) .. else c' -/
theorem kit_of {K : PySem.W.Frag} {C A : Addr} {b : Bool} (h : PySem.W.exmOne K (.ref C) (.ref A) = some b) (self : PySem.W.exmOne K (.ref C) (.ref C) = some true) : PySem.W.kitOne K (.ref C) (.ref A) = some b := by
  unfold PySem.W.kitOne
  by_cases e : (Value.ref C == Value.ref A) = true
  · rw [if_pos e]
    have e' : C = A := Value.ref.inj (beq_iff_eq.mp e)
    rw [← e', self] at h
    exact h
  · rw [if_neg e]
    unfold PySem.W.exmOne at h
    split at h
    · exact h
    · cases h
section
variable {e : Nat} {a : Addr} {oe : Obj} {pn : List (Addr × Obj)} {D : Addr}
/-- the test of one kind -/
theorem pe_isE (C : Cs G φ cls Ct k N X sc W) {f y z : Str} {p1 p2 p3 pos : Pos} {A : Value} {v : V} {b : Bool} (h1 : bi G sc f "isinstance" = true) (h2 : N[e]? = some y) (h3 : visB sc y = true) (h4 : okName y = true) (hA : PE (X.suite a ((a, oe) :: pn)) (.Name z p3) (tC v)) (rA : ∀ u, RelV v u → u = A)
    (X0 : ExcC X.K D) (hz : Zc (.ref D) none oe) (hf : ∃ vs, oe.data = .fields vs) (hk : PySem.W.kitOne X.K (.ref D) A = some b) :
    PE (X.suite a ((a, oe) :: pn)) (.Call (.Name f p1) [.Name y p2, .Name z p3] [] pos) (fun σ H Q => σ[e]? = some (some (.ref a)) ∧ Q (.bl b) H) := by
  obtain ⟨rfl, hg, hm⟩ := C.toCg.bi h1
  have ny : PE (X.suite a ((a, oe) :: pn)) (.Name y p2) (tVar e) := pe_var (by show X.N[e]? = _; rw [C.hN]; exact h2) (C.agr.vis h3) (okName_d h4) (okName_c h4)
  refine PE.imp (pe_callB (call_isE X0 hz hf) hg hm PyProof.Rows.boot_isinstance (pa_cons ny (pa_cons hA pa_nil) rfl) (by decide) (by decide) rfl rfl) fun σ H Q ⟨hs, q⟩ => ?_
  exact ⟨_, hs, v, A, b, rfl, rA, hk, q⟩
end
def lOf (cls : Nat → Value) : List (Nat × List Sm) → List (Value × (Addr → Value → Option Addr → TS))
  | (k, [.ret (.c d)]) :: r => (cls k, tsC d) :: lOf cls r
  | (k, _) :: r => lOf cls r
  | [] => []
theorem hds_ok (C : Cs G φ cls Ct k N X sc W) : ∀ {hs : List (Nat × List Sm)} {hds : List ExceptHandler}, mH G sc hs hds = true → HdsOk X hds (lOf cls hs) ∧ hds ≠ [] ∧
    ∀ {c : Fc} {D : Ends} {kk : Nat} {ρ : Bell.Env} {σ : L2.St} {H : Hp} {F : Nat → List Addr} {ms2 : List Md}, SameIo c ms ms2 → EnvOk c ms2 σ H ρ F → PostS c ms ms' mb W cls D (exH Ct φ kk hs ρ) → wMany X.K W D (lOf cls hs) (cls kk) none σ H
  | [], [], h => by simp [mH] at h
  | [], _ :: _, h => by simp [mH] at h
  | _ :: _, [], h => by simp [mH] at h
  | h1 :: hr, hd :: hdr, h => by
    have key : ∃ kk d x np kc j p1 p2 p3, h1 = (kk, [.ret (.c d)]) ∧ hd = .ExceptHandler (some (.Name x np)) none [.Return (some (.Constant kc j p1)) p2] p3 ∧ (decide (G.er[kk]? = some x) && (globB sc x && (okName x && cB d kc))) = true ∧ ((hr = [] ∧ hdr = []) ∨ mH G sc hr hdr = true) := by
      unfold mH at h
      split at h
      · rename_i heq1 heq2
        cases heq1
        cases heq2
        exact ⟨_, _, _, _, _, _, _, _, _, rfl, rfl, h, .inl ⟨rfl, rfl⟩⟩
      · rename_i heq1 heq2
        cases heq1
        cases heq2
        obtain ⟨a, z⟩ := and2 h
        obtain ⟨b, z⟩ := and2 z
        obtain ⟨c, z⟩ := and2 z
        obtain ⟨d, e⟩ := and2 z
        exact ⟨_, _, _, _, _, _, _, _, _, rfl, rfl, by rw [a, b, c, d]; rfl, .inr e⟩
      · cases h
    obtain ⟨kk, d, x, np, kc, j, p1, p2, p3, rfl, rfl, hh, hrest⟩ := key
    obtain ⟨a, z⟩ := and2 hh
    obtain ⟨b, z⟩ := and2 z
    obtain ⟨c, e⟩ := and2 z
    obtain ⟨Ca, e1, e2, _⟩ := C.er.at_ kk x (of_decide_eq_true a)
    have hN : Names X x (cls kk) := ⟨C.agr.glob b, okName_d c, .inl (by rw [e1]; exact e2)⟩
    have rest : HdsOk X hdr (lOf cls hr) ∧ ∀ {c : Fc} {D : Ends} {kk : Nat} {ρ : Bell.Env} {σ : L2.St} {H : Hp} {F : Nat → List Addr} {ms2 : List Md}, SameIo c ms ms2 → EnvOk c ms2 σ H ρ F → PostS c ms ms' mb W cls D (exH Ct φ kk hr ρ) → wMany X.K W D (lOf cls hr) (cls kk) none σ H := by
      rcases hrest with ⟨rfl, rfl⟩ | hrest
      · refine ⟨.nil, fun {c D kk ρ σ H F ms2} s E p => ?_⟩
        simp only [exH] at p
        exact p ms2 σ H F s E
      · obtain ⟨q1, _, q2⟩ := hds_ok C hrest
        exact ⟨q1, q2⟩
    refine ⟨.cons hN (fun _ _ _ _ _ _ _ => const_suite e) rest.1, by simp, fun {c D k2 ρ σ H F ms2} s E p => ?_⟩
    refine ⟨Ct k2 kk, C.er.ex k2 kk, fun hb a _ => ?_, fun hb => ?_⟩
    · simp only [exH] at p
      rw [if_pos hb] at p
      simp only [exB, exS, ev, Out.fl] at p
      exact p ms2 σ H F _ s E (const_fz e _ _)
    · simp only [exH] at p
      rw [if_neg (by rw [hb]; decide)] at p
      exact rest.2 s E p
theorem s_try {body : List Sm} {hs : List (Nat × List Sm)} (gb : GB G φ cls Ct k N ios body) : GS G φ cls Ct k N ios (.try_ body hs) := by
  intro X sc W ms ms' mb st C h
  obtain ⟨b, hds, pos, rfl⟩ : ∃ b hds pos, st = .Try b hds [] [] pos := by
    cases st with
    | Try b hds els fin pos => cases els with
      | nil => cases fin with
        | nil => exact ⟨_, _, _, rfl⟩
        | cons _ _ => simp [mS] at h
      | cons _ _ => simp [mS] at h
    | _ => simp [mS] at h
  simp only [mS] at h
  split at h
  · rename_i hh
    obtain ⟨q1, q2, q3⟩ := hds_ok (ms := ms) (ms' := ms') (mb := mb) C hh
    cases hds with
    | nil => exact absurd rfl q2
    | cons h0 hr =>
      refine PS.imp (ps_try_many C.st C.fr C.tk (fun W' pn xe t hp => gb (X.tr pn xe) sc W' ms ms' mb b (C.tr t hp) h) q1) fun D σ H ⟨c, ρ, F, hio, E, p⟩ => ⟨c, ρ, F, hio, E, ?_⟩
      simp only [exS] at p
      cases q : exB Ct φ body ρ with
      | next ρ' => rw [q] at p; exact p
      | ret d ρ' => rw [q] at p; exact p
      | brk ρ' => rw [q] at p; exact p
      | stuck => rw [q] at p; exact p
      | exc kk ρ' =>
        rw [q] at p
        exact fun ms2 σ' H' F' s E' => q3 s E' p
  · cases h
section
variable {e : Nat} {a : Addr} {oe : Obj} {pn : List (Addr × Obj)} {D : Addr}
def exk (Ct : Catch) (kk : Nat) : Option Nat → Bool
  | some j => Ct kk j
  | none => true
theorem pe_isC (C : Cs G φ cls Ct k N X sc W) {t : Expr} {j : Option Nat} {kk : Nat} (h : isC G N sc e j t = true) (e1 : cls kk = .ref D) (X0 : ExcC X.K D) (self : PySem.W.exmOne X.K (.ref D) (.ref D) = some true) (ve : PySem.W.kitOne X.K (.ref D) (.type "ValueError") = some true) (hz : Zc (.ref D) none oe) (hf : ∃ vs, oe.data = .fields vs) :
    PE (X.suite a ((a, oe) :: pn)) t (fun σ H Q => σ[e]? = some (some (.ref a)) ∧ Q (.bl (exk Ct kk j)) H) ∧ tPlain t = true := by
  unfold isC at h
  split at h
  · rename_i f p1 y p2 z p3 pos
    obtain ⟨h1, k2⟩ := and2 h
    obtain ⟨k3, k4⟩ := and2 k2
    obtain ⟨h2, k5⟩ := and2 k3
    obtain ⟨h4, h5⟩ := and2 k5
    obtain ⟨h3, k6⟩ := and2 k4
    obtain ⟨h6, h7⟩ := and2 k6
    clear k2 k3 k4 k5 k6
    refine ⟨?_, rfl⟩
    cases j with
    | some j =>
      obtain ⟨Ca, q1, q2, _⟩ := C.er.at_ j z (of_decide_eq_true h7)
      have ex := C.er.ex kk j
      rw [e1, q1] at ex
      refine pe_isE C h1 (of_decide_eq_true h2) h4 h5 (v := .ref Ca) (A := .ref Ca) (pe_glob (C.agr.glob h3) q2 rfl (okName_d h6)) (fun u r => r) X0 hz hf (kit_of ex self)
    | none =>
      obtain ⟨rfl, hfr⟩ := of_decide_eq_true h7
      refine pe_isE C h1 (of_decide_eq_true h2) h4 h5 (v := .ty "ValueError") (A := .type "ValueError") (pe_bltn (C.agr.glob h3) (C.frs _ hfr) (u := .type "ValueError") (by first | rfl | decide +kernel) rfl (by decide) (by decide)) (fun u r => r) X0 hz hf ve
  · cases h
theorem pt_isT (C : Cs G φ cls Ct k N X sc W) {t : Expr} {is : List Nat} {kk : Nat} (h : isT G N sc e is t = true) (e1 : cls kk = .ref D) (X0 : ExcC X.K D) (self : PySem.W.exmOne X.K (.ref D) (.ref D) = some true) (ve : PySem.W.kitOne X.K (.ref D) (.type "ValueError") = some true) (hz : Zc (.ref D) none oe) (hf : ∃ vs, oe.data = .fields vs) :
    PT (X.suite a ((a, oe) :: pn)) t (fun σ H Q => σ[e]? = some (some (.ref a)) ∧ Q (is.all (Ct kk)) H) := by
  have one : ∀ {t : Expr} {j : Option Nat}, isC G N sc e j t = true → PT (X.suite a ((a, oe) :: pn)) t (fun σ H Q => σ[e]? = some (some (.ref a)) ∧ Q (exk Ct kk j) H) := by
    intro t j h
    obtain ⟨p, hp⟩ := pe_isC (a := a) (pn := pn) C h e1 X0 self ve hz hf
    refine PT.imp (pt_truth p (fun whole => ?_)) fun σ H Q ⟨q1, q2⟩ => ⟨q1, _, rfl, q2⟩
    cases t <;> first | rfl | cases hp
  unfold isT at h
  split at h
  · rename_i j t1 t2 pos
    obtain ⟨h1, h2⟩ := and2 h
    refine PT.imp (pw_and (one h1) (pw_and1 (one h2))).pt fun σ H Q ⟨q1, q2⟩ => ⟨q1, ?_⟩
    simp only [List.all_cons, List.all_nil, Bool.and_true] at q2
    show if exk Ct kk (some j) = true then _ else _
    cases hj : Ct kk j with
    | true =>
      rw [if_pos (show exk Ct kk (some j) = true from hj)]
      rw [hj] at q2
      exact ⟨q1, q2⟩
    | false =>
      rw [if_neg (show ¬ exk Ct kk (some j) = true from by show ¬ Ct kk j = true; rw [hj]; decide)]
      rw [hj] at q2
      exact q2
  · rename_i j t' _
    refine PT.imp (one h) fun σ H Q ⟨q1, q2⟩ => ⟨q1, ?_⟩
    simp only [List.all_cons, List.all_nil, Bool.and_true] at q2
    exact q2
  · cases h
end
/-- the suite's end -/
def tsA (X : Cx) (cls : Nat → Value) (Ct : Catch) (e : Nat) (is : List Nat) (d d' : D) : Addr → Value → Option Addr → TS := fun a cv o D σ H => ∃ kk C, cv = cls kk ∧ o = none ∧ cls kk = .ref C ∧ ExcC X.K C ∧ PySem.W.exmOne X.K (.ref C) (.ref C) = some true ∧ PySem.W.kitOne X.K (.ref C) (.type "ValueError") = some true ∧ σ[e]? = some (some (.ref a)) ∧ D.rt (dV (if is.all (Ct kk) then d else d')) H
theorem const_pe {X : Cx} {d : D} {kc : Const} {j : Nat} {p : Pos} (h : cB d kc = true) : PE X (.Constant kc j p) (tC (dV d)) := by
  cases d <;> cases kc <;> simp only [cB, Bool.false_eq_true, beq_iff_eq, decide_eq_true_eq] at h
  · exact pe_non
  · subst h; exact pe_bl
  · subst h; exact pe_int
  · subst h; exact pe_str
theorem suite_A (C : Cs G φ cls Ct k N X sc W) {e : Nat} {is : List Nat} {d d' : D} {t : Expr} {c1 c2 : Const} {j1 j2 : Nat} {q1 q2 p2 p3 : Pos} (ht : isT G N sc e is t = true) (h1 : cB d c1 = true) (h2 : cB d' c2 = true) (a : Addr) (oe : Obj) (cv : Value) (o : Option Addr) (pn : List (Addr × Obj)) (hz : Zc cv o oe) (hf : ∃ vs, oe.data = .fields vs) :
    PSs (X.suite a ((a, oe) :: pn)) [.Return (some (.IfExp t (.Constant c1 j1 q1) (.Constant c2 j2 q2) p2)) p3] (tsA X cls Ct e is d d' a cv o) := by
  refine ⟨fun pins s σ H D I h => ?_⟩
  obtain ⟨kk, C0, rfl, rfl, e1, X0, self, ve, hs, hr⟩ := h
  rw [e1] at hz
  have T := pt_isT (a := a) (pn := pn) C ht e1 X0 self ve hz hf
  refine (pss_one (ps_ret (pe_ifExp T (const_pe h1) (const_pe h2)))).run pins s σ H D I ⟨hs, ?_⟩
  cases hb : is.all (Ct kk) with
  | true => rw [hb] at hr; exact iteT hr
  | false => rw [hb] at hr; exact iteF hr
theorem s_trya {e : Nat} {body : List Sm} {hs : List (Nat × List Nat × D × D)} (gb : GB G φ cls Ct k N ios body) : GS G φ cls Ct k N ios (.trya e body hs) := by
  intro X sc W ms ms' mb st C h
  simp only [mS] at h
  split at h
  · rename_i b x n t c1 c2 k0 is d d' heq
    obtain ⟨p1, j1, q1, j2, q2, p2, p3, p4, p5, rfl⟩ := tryAOf_some heq
    split at h
    · rename_i hh
      obtain ⟨z1, z2⟩ := and2 hh
      obtain ⟨z3, z4⟩ := and2 z2
      obtain ⟨z5, z6⟩ := and2 z4
      obtain ⟨n1, n2⟩ := and2 z1
      obtain ⟨n3, z7⟩ := and2 z3
      obtain ⟨n4, n5⟩ := and2 z7
      obtain ⟨n6, z8⟩ := and2 z5
      obtain ⟨n7, n8⟩ := and2 z8
      obtain ⟨n9, z9⟩ := and2 z6
      obtain ⟨m1, m2⟩ := and2 z9
      have hN : X.N[e]? = some n := by rw [C.hN]; exact of_decide_eq_true n1
      have hnd : X.N.Nodup := by rw [C.hN]; exact C.nd
      have hloc : X.env.kindOf n = some .local := by
        obtain ⟨k', e', q⟩ := C.agr n _ (of_decide_eq_true n2)
        rcases q with q | ⟨q, _⟩
        · show X.env.scope.names.lookup n = _
          rw [e', q]
        · cases q
      obtain ⟨Ca, e1, e2, _⟩ := C.er.at_ k0 x (of_decide_eq_true n6)
      have hx : Names X x (cls k0) := ⟨C.agr.glob n7, okName_d n8, .inl (by rw [e1]; exact e2)⟩
      refine PSi fun pins s0 σ H D I0 q0 => (ps_try_as C.st C.fr hnd hN hloc hx C.tk (fun W' pn xe t hp => gb (X.tr pn xe) sc W' ms ms' mb b (C.tr t hp) h) (suite_A C n9 m1 m2)).run pins s0 σ H D I0 ?_
      obtain ⟨c, ρ, F, hio, E, p⟩ := q0
      refine ⟨c, ρ, F, hio, E, ?_⟩
      have hcn : c.n = N.length := by rw [← E.sl, I0.len, C.hN]
      simp only [exS] at p
      cases q : exB Ct φ body ρ with
      | next ρ' => rw [q] at p; exact p
      | ret d ρ' => rw [q] at p; exact p
      | brk ρ' => rw [q] at p; exact p
      | stuck => rw [q] at p; exact p
      | exc kk ρ' =>
        rw [q] at p
        simp only [exA] at p
        intro ms2 σ' H' F' s E'
        refine ⟨Ct kk k0, C.er.ex kk k0, fun hb a ha => ?_, fun hb => ?_⟩
        · rw [if_pos hb] at p
          obtain ⟨C0, q1, q2, q3, q4⟩ := C.er.xc kk
          have hne : ∀ q ∈ c.io, q.1 ≠ e := fun q hq z => (of_decide_eq_true n3) (z ▸ hio q hq)
          have hl : e < σ'.length := by rw [E'.sl, hcn]; exact of_decide_eq_true n5
          have E2 := E'.frz hne
          have E3 := E_wipe (own := [e]) E2 (fun i hi => by
            rw [List.mem_singleton.mp hi]
            exact getD_setF)
          refine ⟨kk, C0, rfl, rfl, q1, q2, q3, q4, List.getElem?_set_self hl, ?_⟩
          refine p (ms2.set e .fz) _ _ _ _ (s.trans (SameIo.set hne)) E3 ?_
          split
          · exact const_fz m1 _ _
          · exact const_fz m2 _ _
        · rw [if_neg (by rw [hb]; decide)] at p
          exact p ms2 σ' H' F' s E'
    · cases h
  · cases h
end
section
variable (G : GI) (φ : Calls) (cls : Nat → Value) (Ct : Catch) (k : Nat) (N : List Str) (ios : List Nat)
/-- no text has this form -/
theorem none_S {s : Sm} (h : ∀ (mb : List Md) (sc : Scope) (ms : List Md) (st : Stmt), mS G N ios mb sc ms s st = none) : GS G φ cls Ct k N ios s := fun X sc W ms ms' mb st C q => by rw [h] at q; cases q
theorem S_set (i : Nat) (e : Ex) : GS G φ cls Ct k N ios (.set i e) := fun X sc W ms ms' mb st C h => by
    obtain ⟨x, px, v, pos, rfl⟩ : ∃ x px v pos, st = .Assign [.Name x px] v pos := by
      cases st with
      | Assign ts v pos => match ts, h with
        | [.Name x px], _ => exact ⟨_, _, _, _, rfl⟩
        | [], h => simp [mS] at h
        | t :: _ :: _, h => cases t <;> simp [mS] at h
        | [t], h => cases t <;> first | (simp [mS] at h; done) | exact ⟨_, _, _, _, rfl⟩
      | _ => simp [mS] at h
    simp only [mS] at h
    split at h
    · rename_i r hr
      split at h
      · rename_i hh
        cases h
        exact s_set C hr hh
      · cases h
    · cases h
theorem S_seto (i : Nat) (e : Ex) : GS G φ cls Ct k N ios (.seto i e) := fun X sc W ms ms' mb st C h => by
    obtain ⟨x, px, v, pos, rfl⟩ : ∃ x px v pos, st = .Assign [.Name x px] v pos := by
      cases st with
      | Assign ts v pos => match ts, h with
        | [.Name x px], _ => exact ⟨_, _, _, _, rfl⟩
        | [], h => simp [mS] at h
        | t :: _ :: _, h => cases t <;> simp [mS] at h
        | [t], h => cases t <;> first | (simp [mS] at h; done) | exact ⟨_, _, _, _, rfl⟩
      | _ => simp [mS] at h
    simp only [mS] at h
    split at h
    · rename_i m hm
      split at h
      · rename_i hh
        cases h
        exact s_seto C hm hh
      · cases h
    · cases h
theorem S_setc (i : Nat) (e : Ex) : GS G φ cls Ct k N ios (.setc i e) := fun X sc W ms ms' mb st C h => by
    cases e with
    | lc own tg ik its cond elt =>
      obtain ⟨x, px, v, pos, rfl⟩ : ∃ x px v pos, st = .Assign [.Name x px] v pos := by
        cases st with
        | Assign ts v pos => match ts, h with
          | [.Name x px], _ => exact ⟨_, _, _, _, rfl⟩
          | [], h => simp [mS] at h
          | t :: _ :: _, h => cases t <;> simp [mS] at h
          | [t], h => cases t <;> first | (simp [mS] at h; done) | exact ⟨_, _, _, _, rfl⟩
        | _ => simp [mS] at h
      simp only [mS] at h
      split at h
      · rename_i hh
        cases h
        exact s_setc C hh
      · cases h
    | _ => simp [mS] at h
theorem S_frz (i : Nat) : GS G φ cls Ct k N ios (.frz i) := none_S G φ cls Ct k N ios fun mb sc ms st => by cases st <;> simp [mS]
theorem S_setIx (i : Nat) (kx : Ex) (e : Ex) : GS G φ cls Ct k N ios (.setIx i kx e) := fun X sc W ms ms' mb st C h => by
    obtain ⟨o, ke, p1, v, pos, rfl⟩ : ∃ o ke p1 v pos, st = .Assign [.Subscript o ke p1] v pos := by
      cases st with
      | Assign ts v pos => match ts, h with
        | [], h => simp [mS] at h
        | t :: _ :: _, h => cases t <;> simp [mS] at h
        | [t], h => cases t <;> first | (simp [mS] at h; done) | exact ⟨_, _, _, _, _, rfl⟩
      | _ => simp [mS] at h
    simp only [mS] at h
    split at h
    · rename_i hh
      cases h
      exact s_setIx C hh
    · cases h
theorem S_swap (i : Nat) (kx1 : Ex) (kx2 : Ex) (e1 : Ex) (e2 : Ex) : GS G φ cls Ct k N ios (.swap i kx1 kx2 e1 e2) := fun X sc W ms ms' mb st C h => by
    simp only [mS] at h
    split at h
    · rename_i o1 q1 o2 q2 a b hx
      obtain ⟨p1, p2, kt, pt, kv, pv, pos, rfl⟩ := swapOf_some hx
      split at h
      · rename_i hh
        cases h
        exact s_swap C hh
      · cases h
    · cases h
theorem S_par (a0 : Nat) (a1 : Nat) (a2 : Ex) (a3 : Ex) : GS G φ cls Ct k N ios (.par a0 a1 a2 a3) := fun X sc W ms ms' mb st C h => by
    simp only [mS] at h
    split at h
    · rename_i x px y py u v hx
      obtain ⟨kt, pt, kv, pv, pos, rfl⟩ := parOf_some hx
      split at h
      · rename_i hh
        cases h
        exact s_par C hh
      · cases h
    · cases h
theorem S_swap3 (i : Nat) (kx1 kx2 kx3 e1 e2 e3 : Ex) : GS G φ cls Ct k N ios (.swap3 i kx1 kx2 kx3 e1 e2 e3) := fun X sc W ms ms' mb st C h => by
    simp only [mS] at h
    split at h
    · rename_i o1 q1 o2 q2 o3 q3 a b c hx
      obtain ⟨p1, p2, p3, kt, pt, kv, pv, pos, rfl⟩ := swap3Of_some hx
      split at h
      · rename_i hh
        cases h
        exact s_swap3 C hh
      · cases h
    · cases h
theorem S_setD (i : Nat) (kx e : Ex) : GS G φ cls Ct k N ios (.setD i kx e) := fun X sc W ms ms' mb st C h => by
    simp only [mS] at h
    split at h
    · rename_i o q v hx
      obtain ⟨p, pos, rfl⟩ := setDOf_some hx
      split at h
      · rename_i hh
        cases h
        exact s_setD C hh
      · cases h
    · cases h
theorem S_unp (is : List Nat) (e : Ex) : GS G φ cls Ct k N ios (.unp is e) := fun X sc W ms ms' mb st C h => by
    simp only [mS] at h
    split at h
    · rename_i ts v hx
      obtain ⟨kt, pt, pos, rfl⟩ := unpOf_some hx
      split at h
      · rename_i hh
        cases h
        exact s_unp C hh
      · cases h
    · cases h
theorem S_aug (i : Nat) (o : O2) (e : Ex) : GS G φ cls Ct k N ios (.aug i o e) := fun X sc W ms ms' mb st C h => by
    obtain ⟨x, px, op, v, pos, rfl⟩ : ∃ x px op v pos, st = .AugAssign (.Name x px) op v pos := by
      cases st with
      | AugAssign t op v pos => cases t <;> first | (simp [mS] at h; done) | exact ⟨_, _, _, _, _, rfl⟩
      | _ => simp [mS] at h
    simp only [mS] at h
    split at h
    · rename_i hh
      cases h
      exact s_aug C hh
    · cases h
theorem S_ex (e : Ex) : GS G φ cls Ct k N ios (.ex e) := fun X sc W ms ms' mb st C h => by
    cases st <;> first | (simp [mS] at h; done) | skip
    simp only [mS] at h
    split at h
    · rename_i hh
      cases h
      exact s_ex C hh
    · cases h
theorem S_app (i : Nat) (e : Ex) : GS G φ cls Ct k N ios (.app i e) := fun X sc W ms ms' mb st C h => by
    obtain ⟨o, m, ap, v, cp, pos, rfl⟩ : ∃ o m ap v cp pos, st = .Expr (.Call (.Attribute o m ap) [v] [] cp) pos := by
      cases st with
      | Expr c pos => cases c with
        | Call f as kw cp => cases f with
          | Attribute o m ap => match as, kw, h with
            | [v], [], _ => exact ⟨_, _, _, _, _, _, rfl⟩
            | [], _, h => simp [mS] at h
            | _ :: _ :: _, _, h => simp [mS] at h
            | [_], _ :: _, h => simp [mS] at h
          | _ => simp [mS] at h
        | _ => simp [mS] at h
      | _ => simp [mS] at h
    simp only [mS] at h
    split at h
    · rename_i hh
      cases h
      exact s_app C hh
    · cases h
theorem S_new3 (i j l : Nat) : GS G φ cls Ct k N ios (.new3 i j l) := fun X sc W ms ms' mb st C h => by
    simp only [mS] at h
    split at h
    · rename_i x px y py z pz hx
      obtain ⟨kt, pt, p1, p2, p3, kv, pv, pos, rfl⟩ := new3Of_some hx
      split at h
      · rename_i hh
        cases h
        exact s_new3 C hh
      · cases h
    · cases h
theorem S_par3 (i j l : Nat) (a b c : Ex) : GS G φ cls Ct k N ios (.par3 i j l a b c) := fun X sc W ms ms' mb st C h => by
    simp only [mS] at h
    split at h
    · rename_i x px y py z pz u v w hx
      obtain ⟨kt, pt, kv, pv, pos, rfl⟩ := par3Of_some hx
      split at h
      · rename_i hh
        cases h
        exact s_par3 C hh
      · cases h
    · cases h
theorem S_rem (a0 : Nat) (a1 : Ex) : GS G φ cls Ct k N ios (.rem a0 a1) := none_S G φ cls Ct k N ios fun mb sc ms st => by cases st <;> simp [mS]
theorem S_ret (e : Ex) : GS G φ cls Ct k N ios (.ret e) := fun X sc W ms ms' mb st C h => by
    obtain ⟨v, pos, rfl⟩ : ∃ v pos, st = .Return (some v) pos := by
      cases st with
      | Return v pos => cases v with
        | some v => exact ⟨_, _, rfl⟩
        | none => simp [mS] at h
      | _ => simp [mS] at h
    simp only [mS] at h
    split at h
    · rename_i hh
      cases h
      exact s_ret C hh
    · cases h
theorem S_retN  : GS G φ cls Ct k N ios (.retN ) := fun X sc W ms ms' mb st C h => by
    obtain ⟨pos, rfl⟩ : ∃ pos, st = .Return none pos := by
      cases st with
      | Return v pos => cases v with
        | none => exact ⟨_, rfl⟩
        | some v => simp [mS] at h
      | _ => simp [mS] at h
    exact s_retN
theorem S_rais (j : Nat) : GS G φ cls Ct k N ios (.rais j) := fun X sc W ms ms' mb st C h => by
  simp only [mS] at h
  split at h
  · rename_i x hx
    obtain ⟨p1, m, jj, p2, p3, pos, rfl⟩ := raiseOf_some hx
    split at h
    · rename_i hh
      cases h
      exact s_rais C hh
    · cases h
  · cases h
theorem S_brk  : GS G φ cls Ct k N ios (.brk ) := fun X sc W ms ms' mb st C h => by
    cases st <;> first | (simp [mS] at h; done) | skip
    simp only [mS] at h
    split at h
    · rename_i hh
      cases h
      subst hh
      exact s_brk
    · cases h
theorem S_pass  : GS G φ cls Ct k N ios (.pass ) := fun X sc W ms ms' mb st C h => by
    cases st <;> first | (simp [mS] at h; done) | skip
    simp only [mS] at h
    cases h
    exact s_pass
mutual
theorem goodS : (s : Sm) → GS G φ cls Ct k N ios s
  | .set i e => S_set G φ cls Ct k N ios i e
  | .seto i e => S_seto G φ cls Ct k N ios i e
  | .setc i e => S_setc G φ cls Ct k N ios i e
  | .frz i => S_frz G φ cls Ct k N ios i
  | .setIx i kx e => S_setIx G φ cls Ct k N ios i kx e
  | .swap a0 a1 a2 a3 a4 => S_swap G φ cls Ct k N ios a0 a1 a2 a3 a4
  | .par a0 a1 a2 a3 => S_par G φ cls Ct k N ios a0 a1 a2 a3
  | .swap3 i a b c d e f => S_swap3 G φ cls Ct k N ios i a b c d e f
  | .setD i a b => S_setD G φ cls Ct k N ios i a b
  | .unp a0 a1 => S_unp G φ cls Ct k N ios a0 a1
  | .aug i o e => S_aug G φ cls Ct k N ios i o e
  | .ex e => S_ex G φ cls Ct k N ios e
  | .app i e => S_app G φ cls Ct k N ios i e
  | .par3 i j l a b c => S_par3 G φ cls Ct k N ios i j l a b c
  | .new3 a0 a1 a2 => S_new3 G φ cls Ct k N ios a0 a1 a2
  | .rem a0 a1 => S_rem G φ cls Ct k N ios a0 a1
  | .ife c x y => s_ife (goodB x) (goodB y)
  | .whl c x => s_whl (goodB x)
  | .fr tg ik its x => s_for (goodB x)
  | .frd tg i x => s_frd (goodB x)
  | .trya e b hs => s_trya (goodB b)
  | .ret e => S_ret G φ cls Ct k N ios e
  | .retN  => S_retN G φ cls Ct k N ios 
  | .rais j => S_rais G φ cls Ct k N ios j
  | .try_ body hs => s_try (goodB body)
  | .brk  => S_brk G φ cls Ct k N ios 
  | .pass  => S_pass G φ cls Ct k N ios 
theorem goodB : (b : List Sm) → GB G φ cls Ct k N ios b
  | [] => nil_block
  | .frz j :: r => frz_block (goodB r)
  | .set i e :: r => cons_block rfl (goodS (.set i e)) (goodB r)
  | .seto i e :: r => cons_block rfl (goodS (.seto i e)) (goodB r)
  | .setc i e :: r => cons_block rfl (goodS (.setc i e)) (goodB r)
  | .setIx i kx e :: r => cons_block rfl (goodS (.setIx i kx e)) (goodB r)
  | .swap i a b c d :: r => cons_block rfl (goodS (.swap i a b c d)) (goodB r)
  | .par i a b c :: r => cons_block rfl (goodS (.par i a b c)) (goodB r)
  | .swap3 i a b c d e f :: r => cons_block rfl (goodS (.swap3 i a b c d e f)) (goodB r)
  | .setD i a b :: r => cons_block rfl (goodS (.setD i a b)) (goodB r)
  | .unp i a :: r => cons_block rfl (goodS (.unp i a)) (goodB r)
  | .aug i a b :: r => cons_block rfl (goodS (.aug i a b)) (goodB r)
  | .ex e :: r => cons_block rfl (goodS (.ex e)) (goodB r)
  | .app i e :: r => cons_block rfl (goodS (.app i e)) (goodB r)
  | .par3 i j l a b c :: r => cons_block rfl (goodS (.par3 i j l a b c)) (goodB r)
  | .new3 i j l :: r => cons_block rfl (goodS (.new3 i j l)) (goodB r)
  | .rem i e :: r => cons_block rfl (goodS (.rem i e)) (goodB r)
  | .ife c x y :: r => cons_block rfl (goodS (.ife c x y)) (goodB r)
  | .whl c x :: r => cons_block rfl (goodS (.whl c x)) (goodB r)
  | .fr tg ik its x :: r => cons_block rfl (goodS (.fr tg ik its x)) (goodB r)
  | .frd tg i x :: r => cons_block rfl (goodS (.frd tg i x)) (goodB r)
  | .trya e b hs :: r => cons_block rfl (goodS (.trya e b hs)) (goodB r)
  | .ret e :: r => cons_block rfl (goodS (.ret e)) (goodB r)
  | .retN :: r => cons_block rfl (goodS .retN) (goodB r)
  | .rais j :: r => cons_block rfl (goodS (.rais j)) (goodB r)
  | .try_ b hs :: r => cons_block rfl (goodS (.try_ b hs)) (goodB r)
  | .brk :: r => cons_block rfl (goodS .brk) (goodB r)
  | .pass :: r => cons_block rfl (goodS .pass) (goodB r)
end
end
end Bell
set_option Elab.async false
set_option linter.all false
set_option maxRecDepth 100000
set_option autoImplicit false
/-! A def keeps its promise: it reckons as its small text does. -/
namespace Bell
open PySem PySem.Spec PyProof.Rows L2
def iosAt : Nat → List Md → List Nat
  | _, [] => []
  | k, m :: r => if m = .fz then iosAt (k + 1) r else k :: iosAt (k + 1) r
def ioAt : Nat → List Md → List V → List (List Addr) → List (Nat × V × List Addr)
  | k, m :: r, v :: vs, F :: Fs => if m = .fz then ioAt (k + 1) r vs Fs else (k, v, F) :: ioAt (k + 1) r vs Fs
  | _, _, _, _ => []
section
variable {S : Addr → Prop} {H H' : Hp} {sg : List Md} {vs : List V} {ds : List D} {Fs : List (List Addr)}
theorem ArgsOk.l1 (h : ArgsOk S H sg vs ds Fs) : vs.length = sg.length := by
  induction h with
  | nil => rfl
  | cons _ _ ih => exact congrArg Nat.succ ih
theorem ArgsOk.l2 (h : ArgsOk S H sg vs ds Fs) : ds.length = sg.length := by
  induction h with
  | nil => rfl
  | cons _ _ ih => exact congrArg Nat.succ ih
theorem ArgsOk.l3 (h : ArgsOk S H sg vs ds Fs) : Fs.length = sg.length := by
  induction h with
  | nil => rfl
  | cons _ _ ih => exact congrArg Nat.succ ih
theorem ArgsOk.get (h : ArgsOk S H sg vs ds Fs) : ∀ {i : Nat} {d : D}, ds[i]? = some d → ∃ v, vs[i]? = some v ∧ Ow S H (sg.getD i .fz) v d (Fs.getD i []) := by
  induction h with
  | nil => intro i d e; simp at e
  | cons o _ ih =>
    intro i d e
    cases i with
    | zero =>
      simp only [List.getElem?_cons_zero, Option.some.injEq] at e
      subst e
      exact ⟨_, rfl, o⟩
    | succ i =>
      simp only [List.getElem?_cons_succ] at e
      obtain ⟨v, e1, e2⟩ := ih e
      exact ⟨v, e1, e2⟩
/-- where a mode is fz, nothing is owned -/
theorem ArgsOk.owned (h : ArgsOk S H sg vs ds Fs) : ∀ {a : Addr}, a ∈ Fs.flatten → ∃ (i : Nat) (F : List Addr), Fs[i]? = some F ∧ a ∈ F ∧ ∃ m : Md, sg[i]? = some m ∧ m ≠ Md.fz ∧ ∃ v, vs[i]? = some v := by
  induction h with
  | nil => intro a e; simp at e
  | @cons m v d F sg vs ds Fs o _ ih =>
    intro a e
    rw [List.flatten_cons, List.mem_append] at e
    rcases e with e | e
    · refine ⟨0, F, rfl, e, m, rfl, fun z => ?_, v, rfl⟩
      subst z
      cases o
      cases e
    · obtain ⟨i, F', e1, e2, m', e3, e4, v', e5⟩ := ih e
      exact ⟨i + 1, F', e1, e2, m', e3, e4, v', e5⟩
theorem mem_getD_flatten : ∀ {Fs : List (List Addr)} {i : Nat} {a : Addr}, a ∈ Fs.getD i [] → a ∈ Fs.flatten
  | [], i, a, h => by simp at h
  | F :: Fs, 0, a, h => by
    rw [List.flatten_cons, List.mem_append]
    exact .inl (by simpa using h)
  | F :: Fs, i + 1, a, h => by
    rw [List.flatten_cons, List.mem_append]
    exact .inr (mem_getD_flatten (i := i) (by simpa using h))
theorem dj_getD : ∀ {Fs : List (List Addr)}, Fs.flatten.Nodup → ∀ {i j : Nat} {a : Addr}, a ∈ Fs.getD i [] → a ∈ Fs.getD j [] → i = j
  | [], _, i, j, a, h, _ => by simp at h
  | F :: Fs, nd, i, j, a, h, h' => by
    rw [List.flatten_cons, List.nodup_append] at nd
    obtain ⟨n1, n2, n3⟩ := nd
    cases i with
    | zero => cases j with
      | zero => rfl
      | succ j =>
        have q1 : a ∈ F := by simpa using h
        have q2 : a ∈ Fs.getD j [] := by simpa using h'
        exact absurd rfl (n3 _ q1 _ (mem_getD_flatten q2))
    | succ i => cases j with
      | zero =>
        have q1 : a ∈ F := by simpa using h'
        have q2 : a ∈ Fs.getD i [] := by simpa using h
        exact absurd rfl (n3 _ q1 _ (mem_getD_flatten q2))
      | succ j =>
        have q1 : a ∈ Fs.getD i [] := by simpa using h
        have q2 : a ∈ Fs.getD j [] := by simpa using h'
        exact congrArg Nat.succ (dj_getD n2 q1 q2)
theorem ioAt_mem : ∀ {k : Nat} {sg : List Md} {vs : List V} {Fs : List (List Addr)} {p : Nat × V × List Addr}, p ∈ ioAt k sg vs Fs →
    p.1 ∈ iosAt k sg ∧ ∃ i, p.1 = k + i ∧ vs[i]? = some p.2.1 ∧ Fs[i]? = some p.2.2 ∧ ∃ m, sg[i]? = some m ∧ m ≠ .fz
  | k, [], _, _, p, h => by simp [ioAt] at h
  | k, m :: sg, [], _, p, h => by simp [ioAt] at h
  | k, m :: sg, v :: vs, [], p, h => by simp [ioAt] at h
  | k, m :: sg, v :: vs, F :: Fs, p, h => by
    unfold ioAt at h
    unfold iosAt
    split at h
    · rename_i e
      rw [if_pos e]
      obtain ⟨q1, i, e1, e2, e3, m', e4, e5⟩ := ioAt_mem h
      exact ⟨q1, i + 1, by omega, e2, e3, m', e4, e5⟩
    · rename_i e
      rw [if_neg e]
      rcases List.mem_cons.mp h with rfl | h
      · exact ⟨List.mem_cons_self .., 0, rfl, rfl, rfl, m, rfl, e⟩
      · obtain ⟨q1, i, e1, e2, e3, m', e4, e5⟩ := ioAt_mem h
        exact ⟨List.mem_cons_of_mem _ q1, i + 1, by omega, e2, e3, m', e4, e5⟩
theorem mem_ioAt : ∀ {k : Nat} {sg : List Md} {vs : List V} {Fs : List (List Addr)} {i : Nat} {m : Md} {v : V} {F : List Addr}, sg[i]? = some m → vs[i]? = some v → Fs[i]? = some F → m ≠ .fz → (k + i, v, F) ∈ ioAt k sg vs Fs
  | k, [], _, _, i, _, _, _, h, _, _, _ => by simp at h
  | k, _ :: _, [], _, i, _, _, _, _, h, _, _ => by simp at h
  | k, _ :: _, _ :: _, [], i, _, _, _, _, _, h, _ => by simp at h
  | k, m :: sg, v :: vs, F :: Fs, 0, m', v', F', h1, h2, h3, ne => by
    simp only [List.getElem?_cons_zero, Option.some.injEq] at h1 h2 h3
    subst h1 h2 h3
    unfold ioAt
    rw [if_neg ne]
    exact List.mem_cons_self ..
  | k, m :: sg, v :: vs, F :: Fs, i + 1, m', v', F', h1, h2, h3, ne => by
    simp only [List.getElem?_cons_succ] at h1 h2 h3
    have q := mem_ioAt (k := k + 1) h1 h2 h3 ne
    have e : k + 1 + i = k + (i + 1) := by omega
    rw [e] at q
    unfold ioAt
    split
    · exact q
    · exact List.mem_cons_of_mem _ q
theorem outs_of {S : Addr → Prop} {H : Hp} {ρ : Bell.Env} : ∀ {k : Nat} {sg : List Md} {vs : List V} {Fs : List (List Addr)} {outs : List D}, vs.length = sg.length → Fs.length = sg.length →
    (∀ i m v F, sg[i]? = some m → vs[i]? = some v → Fs[i]? = some F → m ≠ .fz → ∀ d, ρ[k + i]? = some (some d) → Ow S H m v d F) → outsOf ρ (iosAt k sg) = some outs → OutsOk S H sg vs Fs outs
  | k, [], [], [], outs, _, _, _, h => by
    simp only [iosAt, outsOf, Option.some.injEq] at h
    subst h
    exact .nil
  | k, [], _ :: _, _, _, l, _, _, _ => by simp at l
  | k, [], [], _ :: _, _, _, l, _, _ => by simp at l
  | k, _ :: _, [], _, _, l, _, _, _ => by simp at l
  | k, _ :: _, _ :: _, [], _, _, l, _, _ => by simp at l
  | k, m :: sg, v :: vs, F :: Fs, outs, l1, l2, hp, h => by
    have hp' : ∀ i m v F, sg[i]? = some m → vs[i]? = some v → Fs[i]? = some F → m ≠ .fz → ∀ d, ρ[k + 1 + i]? = some (some d) → Ow S H m v d F := fun i m v F a b c n d q => hp (i + 1) m v F a b c n d (by rw [← q]; congr 1; omega)
    have l1' : vs.length = sg.length := Nat.succ.inj l1
    have l2' : Fs.length = sg.length := Nat.succ.inj l2
    unfold iosAt at h
    split at h
    · rename_i e
      subst e
      exact .fz (outs_of l1' l2' hp' h)
    · rename_i e
      unfold outsOf at h
      split at h
      · rename_i d ds e1 e2
        cases h
        exact .io e (hp 0 m v F rfl rfl rfl e d e1) (outs_of l1' l2' hp' e2)
      · cases h
end
/-- a def: its text, its parameters and names, what it is handed, its small text -/
structure Dt where
  nm : Str
  st : Stmt
  ps : List Str
  N : List Str
  sg : List Md
  body : List Sm
def Dt.fn (d : Dt) : Fn := ⟨d.sg.length, d.N.length, iosAt 0 d.sg, d.body⟩
def ms0 (sg : List Md) (n : Nat) : List Md := sg ++ List.replicate (n - sg.length) .fz
def chk (G : GI) (d : Dt) : Bool :=
  C8.scC d.N d.ps (defScope d.st) && (decide (d.ps.length = d.sg.length) && (decide (d.sg.length ≤ d.N.length) && (match mB G d.N (iosAt 0 d.sg) (ms0 d.sg d.N.length) (defScope d.st) (ms0 d.sg d.N.length) d.body (defBody d.st) with
    | some m => sameB (iosAt 0 d.sg) (ms0 d.sg d.N.length) m
    | none => false)))
theorem ms0_get (sg : List Md) (n i : Nat) : (ms0 sg n).getD i .fz = sg.getD i .fz := by
  unfold ms0
  rw [List.getD_eq_getElem?_getD, List.getD_eq_getElem?_getD, List.getElem?_append]
  split
  · rfl
  · rename_i h
    rw [List.getElem?_eq_none (l := sg) (by omega), List.getElem?_replicate]
    split <;> rfl
theorem entry_get {fn : Fn} {ds : List D} {i : Nat} {d : D} (h : (entry fn ds)[i]? = some (some d)) : ds[i]? = some d := by
  unfold entry at h
  rw [List.getElem?_append] at h
  split at h
  · rw [List.getElem?_map] at h
    rename_i q
    simp only [List.length_map] at q
    rw [List.getElem?_eq_getElem q] at h ⊢
    simpa using h
  · rw [List.getElem?_replicate] at h
    split at h <;> cases h
theorem start_get {N : List Str} {vs : List V} {i : Nat} {v : V} (h : vs[i]? = some v) : (L2.start N vs)[i]? = some (some v) := by
  unfold L2.start
  have q : i < vs.length := by
    rcases Nat.lt_or_ge i vs.length with q | q
    · exact q
    · rw [List.getElem?_eq_none q] at h; cases h
  rw [List.getElem?_append_left (by simpa using q), List.getElem?_map, h]
  rfl
/-- a module of defs, in K -/
structure Mod (P : Program) (w : World) (K : PySem.W.Frag) (mg : Str → Option Value) (G : GI) (cls : Nat → Value) (Ct : Catch) (ts : List Dt) : Prop where
  gfn : G.fn = ts.map fun d => (d.nm, d.sg)
  ok : ts.all (chk G) = true
  fns : ∀ d ∈ ts, ∃ (a : Addr) (fd : FuncData), mg d.nm = some (.ref a) ∧ FunD K d.nm d.nm (defArgs d.st) (defBody d.st) (defScope d.st) [] [] a fd ∧ Binds K fd d.ps []
  cos : ∀ (x : Str) (d : D), (x, d) ∈ G.co → ∃ u, mg x = some u ∧ RelV (dV d) u
  frs : ∀ x ∈ G.fr, mg x = none
  at_ : ∀ (j : Nat) (x : Str), G.er[j]? = some x → ∃ C : Addr, cls j = .ref C ∧ mg x = some (.ref C) ∧ PySem.W.keepIn K (.ref C) = true ∧
    PySem.W.excIn K C [.type "ValueError", .type "Exception", .type "BaseException", .type "object"] "ValueError.__new__" = true ∧ PySem.W.subIn K (.ref C) (.type "BaseException") = some true ∧ PySem.W.typeIn K (.ref C) = some (.type "type")
  ex : ∀ i j : Nat, PySem.W.exmOne K (cls i) (cls j) = some (Ct i j)
  xc : ∀ i : Nat, ∃ C : Addr, cls i = .ref C ∧ ExcC K C ∧ PySem.W.exmOne K (.ref C) (.ref C) = some true ∧ PySem.W.kitOne K (.ref C) (.type "ValueError") = some true
def tabOf (ts : List Dt) (f : Nat) : Option Fn := (ts[f]?).map Dt.fn
section
variable {P : Program} {w : World} {K : PySem.W.Frag} {mg : Str → Option Value} {base : Heap} {G : GI} {cls : Nat → Value} {Ct : Catch} {ts : List Dt}
theorem spOf_len {sg : List Md} {g : List D → Res} {cls : Nat → Value} {vs : List V} {H : Hp} {Q : VK} {E : XK} (h : spOf sg g cls vs H Q E) : vs.length = sg.length := by
  obtain ⟨S0, ds, Fs, _, _, A, _⟩ := h
  exact A.l1
theorem step_ok (M : Mod P w K mg G cls Ct ts) {k f : Nat} {d : Dt} (hd : ts[f]? = some d) {a : Addr} {fd : FuncData} (F : FunD K d.nm d.nm (defArgs d.st) (defBody d.st) (defScope d.st) [] [] a fd)
    (IH : ∀ (f : Nat) (nm : Str) (sg : List Md), G.fn[f]? = some (nm, sg) → ∃ (a : Addr) (fd : FuncData) (ps : List Str), mg nm = some (.ref a) ∧ PySem.W.keepIn K (.ref a) = true ∧ Binds K fd ps [] ∧
      FnOk P w K mg base (L2.CX P w) k a fd ps (spOf sg (run Ct (tabOf ts) k f) cls)) : FnOk P w K mg base (L2.CX P w) (k + 1) a fd d.ps (spOf d.sg (run Ct (tabOf ts) (k + 1) f) cls) := by
  have hc : chk G d = true := List.all_eq_true.mp M.ok d (List.mem_of_getElem? hd)
  obtain ⟨h1, hc⟩ := and2 hc
  obtain ⟨h2, hc⟩ := and2 hc
  obtain ⟨h3, hc⟩ := and2 hc
  have h2 := of_decide_eq_true h2
  have h3 := of_decide_eq_true h3
  split at hc
  case h_2 => cases hc
  rename_i m hm
  have SC : FnScope d.N d.ps (defScope d.st) := C8.fnScope_by h1
  refine F.ok SC (fun vs H Q E h => (spOf_len h).trans h2.symm) fun cdv A outer s H vs Q E hr hsp => ?_
  refine ⟨RdS (iosAt 0 d.sg) (ms0 d.sg d.N.length) m (ms0 d.sg d.N.length) (fun cl x _ H => E cl x H) cls (exB Ct (run Ct (tabOf ts) k) d.body), goodB G (run Ct (tabOf ts) k) cls Ct k d.N (iosAt 0 d.sg) d.body _ (defScope d.st) _ _ _ _ _ ?_ hm, ?_⟩
  · exact { hN := rfl, nd := SC.nd, agr := fun x k h => ⟨k, h, .inl rfl⟩, calm := rfl, tk := takes_of rfl rfl rfl rfl, room := hr, fns := IH, cos := M.cos, frs := M.frs, fnn := fun x h => .inl rfl, hp := passes_of rfl, er := ⟨M.at_, M.ex, M.xc⟩, st := rfl, fr := rfl, sk := SC.kind }
  · obtain ⟨S0, ds, Fs, q1, q2, q3, q4⟩ := hsp
    have e0 : run Ct (tabOf ts) (k + 1) f ds = finFn (iosAt 0 d.sg) (exB Ct (run Ct (tabOf ts) k) d.body (entry d.fn ds)) := by
      have e : tabOf ts f = some d.fn := by unfold tabOf; rw [hd]; rfl
      show (match tabOf ts f with
        | none => Res.stuck
        | some fn => if ds.length = fn.np then finFn fn.ms (exB Ct (run Ct (tabOf ts) k) fn.body (entry fn ds)) else .stuck) = _
      rw [e]
      show (if ds.length = d.sg.length then _ else _) = _
      rw [if_pos q3.l2]
      rfl
    rw [e0] at q4
    let c : Fc := { S0 := S0, HS := H, H0 := H, I0 := Fs.flatten, io := ioAt 0 d.sg vs Fs, n := d.N.length, T := fun _ _ => True, TE := fun _ _ _ _ _ _ => trivial }
    have eS : sOf c (fun i => Fs.getD i []) = fun a => S0 a ∨ a ∈ Fs.flatten := by
      funext b
      refine propext ⟨fun h => h.imp id fun ⟨i, h⟩ => mem_getD_flatten h, fun h => h.imp id fun h => ?_⟩
      obtain ⟨i, F', e1, e2, _⟩ := q3.owned h
      exact ⟨i, by show b ∈ Fs.getD i []; rw [List.getD_eq_getElem?_getD, e1]; exact e2⟩
    have E0 : EnvOk c (ms0 d.sg d.N.length) (L2.start d.N vs) H (entry d.fn ds) (fun i => Fs.getD i []) := {
      held := fun b hb => by
        obtain ⟨_, o, e, t⟩ := q1 b hb
        exact ⟨o, e, e, t⟩
      len := by
        unfold entry L2.start
        simp only [List.length_append, List.length_map, List.length_replicate, Dt.fn, q3.l1, q3.l2]
      slot := fun i x hx => by
        obtain ⟨v, e1, e2⟩ := q3.get (entry_get hx)
        refine ⟨v, start_get e1, ?_⟩
        rw [eS, ms0_get]
        exact e2
      nof := fun i hi => by
        show Fs.getD i [] = []
        rw [List.getD_eq_getElem?_getD]
        cases e : Fs[i]? with
        | none => rfl
        | some F' =>
          exfalso
          have l : i < Fs.length := by
            rcases Nat.lt_or_ge i Fs.length with q | q
            · exact q
            · rw [List.getElem?_eq_none q] at e; cases e
          have l' : i < ds.length := by rw [q3.l2, ← q3.l3]; exact l
          refine hi ds[i] ?_
          unfold entry
          rw [List.getElem?_append_left (by simpa using l'), List.getElem?_map, List.getElem?_eq_getElem l']
          rfl
      dj := fun i j b hi hj => dj_getD q2 hi hj
      out := fun i b hi hb => (q1 b hb).1 (mem_getD_flatten hi)
      new := fun i b hi => .inl (mem_getD_flatten hi)
      keep := fun b o h _ => h
      pin := fun p hp => by
        obtain ⟨_, i, e1, e2, e3, mm, e4, e5⟩ := ioAt_mem hp
        rw [Nat.zero_add] at e1
        rw [e1]
        refine ⟨start_get e2, by show Fs.getD i [] = _; rw [List.getD_eq_getElem?_getD, e3]; rfl, ?_⟩
        rw [ms0_get, List.getD_eq_getElem?_getD, e4]
        exact e5
      sl := by
        unfold L2.start
        simp only [List.length_append, List.length_map, List.length_replicate, q3.l1]
        show d.sg.length + (d.N.length - d.sg.length) = d.N.length
        omega
      tt := trivial }
    have fin : ∀ {ms2 : List Md} {σ' : L2.St} {H' : Hp} {ρ' : Bell.Env} {F' : Nat → List Addr} {outs : List D}, SameIo c (ms0 d.sg d.N.length) ms2 → EnvOk c ms2 σ' H' ρ' F' → outsOf ρ' (iosAt 0 d.sg) = some outs →
        Ext (sOf c F') H' (fun a => S0 a ∨ a ∈ Fs.flatten) H' ∧ (∀ b o, H b = some o → b ∉ Fs.flatten → H' b = some o) ∧ OutsOk (fun a => S0 a ∨ a ∈ Fs.flatten) H' d.sg vs Fs outs := by
      intro ms2 σ' H' ρ' F' outs si E' ho
      have ex : Ext (sOf c F') H' (fun a => S0 a ∨ a ∈ Fs.flatten) H' := Ext.less fun b hb => by
        rcases hb with hb | hb
        · exact .inl hb
        · obtain ⟨i, F'', e1, e2, mm, e3, e4, v, e5⟩ := q3.owned hb
          have mem : (0 + i, v, F'') ∈ c.io := mem_ioAt e3 e5 e1 e4
          obtain ⟨_, p2, _⟩ := E'.pin _ mem
          exact .inr ⟨0 + i, by rw [p2]; exact e2⟩
      refine ⟨ex, E'.keep, outs_of q3.l1 q3.l3 (fun i mm v F'' e3 e5 e1 e4 x hx => ?_) ho⟩
      have mem : (0 + i, v, F'') ∈ c.io := mem_ioAt e3 e5 e1 e4
      obtain ⟨p1, p2, _⟩ := E'.pin _ mem
      obtain ⟨v', s1, s2⟩ := E'.slot _ x hx
      rw [p1] at s1
      cases s1
      have em := si _ mem
      have em2 : (ms0 d.sg d.N.length).getD (0 + i) .fz = mm := by
        rw [ms0_get, Nat.zero_add, List.getD_eq_getElem?_getD, e3]
        rfl
      rw [em, em2, p2] at s2
      exact s2.ext ex fun _ _ _ q => q
    refine ⟨c, entry d.fn ds, fun i => Fs.getD i [], fun p hp => (ioAt_mem hp).1, E0, ?_⟩
    cases hx : exB Ct (run Ct (tabOf ts) k) d.body (entry d.fn ds) with
    | next ρ' =>
      rw [hx] at q4
      simp only [finFn] at q4
      cases ho : outsOf ρ' (iosAt 0 d.sg) with
      | none => rw [ho] at q4; exact q4.elim
      | some outs =>
        rw [ho] at q4
        intro σ' H' F' E'
        obtain ⟨r1, r2, r3⟩ := fin (sameIo_of hc fun p hp => (ioAt_mem hp).1) E' ho
        exact q4 .non H' r2 r3 .non
    | ret x ρ' =>
      rw [hx] at q4
      simp only [finFn] at q4
      cases ho : outsOf ρ' (iosAt 0 d.sg) with
      | none => rw [ho] at q4; exact q4.elim
      | some outs =>
        rw [ho] at q4
        intro ms2 σ' H' F' v si E' fz
        obtain ⟨r1, r2, r3⟩ := fin si E' ho
        exact q4 v H' r2 r3 (fz.ext r1)
    | exc j ρ' =>
      rw [hx] at q4
      simp only [finFn] at q4
      cases ho : outsOf ρ' (iosAt 0 d.sg) with
      | none => rw [ho] at q4; exact q4.elim
      | some outs =>
        rw [ho] at q4
        intro ms2 σ' H' F' si E'
        obtain ⟨r1, r2, r3⟩ := fin si E' ho
        exact q4 H' r2 r3
    | brk ρ' => rw [hx] at q4; exact q4.elim
    | stuck => rw [hx] at q4; exact q4.elim
theorem all_ok (M : Mod P w K mg G cls Ct ts) : ∀ (k f : Nat) (nm : Str) (sg : List Md), G.fn[f]? = some (nm, sg) → ∃ (a : Addr) (fd : FuncData) (ps : List Str), mg nm = some (.ref a) ∧ PySem.W.keepIn K (.ref a) = true ∧ Binds K fd ps [] ∧
      FnOk P w K mg base (L2.CX P w) k a fd ps (spOf sg (run Ct (tabOf ts) k f) cls) := by
  intro k
  induction k with
  | zero =>
    intro f nm sg h
    rw [M.gfn, List.getElem?_map] at h
    cases e : ts[f]? with
    | none => rw [e] at h; cases h
    | some d =>
      rw [e] at h
      cases h
      obtain ⟨a, fd, e1, F, b⟩ := M.fns d (List.mem_of_getElem? e)
      have no : ∀ vs H Q E, ¬ spOf d.sg (run Ct (tabOf ts) 0 f) cls vs H Q E := fun vs H Q E ⟨_, _, _, _, _, _, q⟩ => q
      exact ⟨a, fd, d.ps, e1, F.kp, b, fun vs H Q E h => (no _ _ _ _ h).elim, fun A outer s H args us vs Q E _ _ _ _ h => (no _ _ _ _ h).elim⟩
  | succ k ih =>
    intro f nm sg h
    rw [M.gfn, List.getElem?_map] at h
    cases e : ts[f]? with
    | none => rw [e] at h; cases h
    | some d =>
      rw [e] at h
      cases h
      obtain ⟨a, fd, e1, F, b⟩ := M.fns d (List.mem_of_getElem? e)
      exact ⟨a, fd, d.ps, e1, F.kp, b, step_ok M e F ih⟩
end
end Bell
set_option Elab.async false
set_option linter.all false
set_option maxRecDepth 100000
set_option autoImplicit false
/-! The law's head: the defs' facts, the script, the end. -/
namespace Bell
open PySem PySem.Spec PyProof.Rows L2
/-- an end whose exceptions know the world -/
theorem walk_ofW {l : PySem.W.OpenLaw} {n k : Nat} {q : Program} {loose : List Str} {XP : (Str → Option Value) → Heap → Prop} {YP : World → Heap → Prop} {d : DefRec} {CX : World → CXT} {x : Str}
    (hn : l.most = some n) (hn2 : n ≤ sizeLine) (hdf : d.params.defaults = []) (hr : Room k callerA)
    (F : ∀ (w : World) (mg : Str → Option Value) (fa : Addr) (h : Heap), YP w h → h.Ns mainGlobals mg → mg d.name = some (.ref fa) →
      ∃ (K : PySem.W.Frag) (fd : FuncData) (sp : Sp), K.In h ∧ (∀ (s : Shared) (u : Value), BindsTo s fd ⟨[u], []⟩ [(x, u)]) ∧
        (∀ (H : Hp) (a : Addr) (ns : List Int), ns.length ≤ n → Only H → SqL K H a (ns.map V.int) → sp [.ref a] H (fun v _ => v = .bl true) fun _ _ _ => False) ∧
        ∀ base : Heap, K.In base → base.Ns mainGlobals mg → FnOk l.prog w K mg base (CX w) k fa fd [x] sp)
    (hCX : ∀ (w : World) (H : Hp) (s : Shared) (e : Value) (s' : Shared), CX w [] H s (fun _ _ _ => False) e s' → False) :
    PySem.W.WalkO q loose XP YP l.row.toRowW d [] (fun f vs => PySem.call f vs) := by
  refine Att.attach_call hn hdf fun w s₀ s₁ mg mb fa o pm cd doc a vs ns G Y ho hd hcd hmg hobj hints hlen hg => ?_
  obtain ⟨K, fd, sp, KX, hb, hsp, hF⟩ := F w mg fa _ Y G.T.g hmg
  exact law_call KX G.T.g G.T.b G.T.builtins G.T.nolimit hg hobj hints (Nat.le_trans hlen hn2) hr hF hb (fun H hO hS => hsp H a ns hlen hO hS) fun H e s' => hCX w H s₁ e s'
/-- no list stands in K -/
def noL (K : PySem.W.Frag) : Bool := K.all fun p => match p.2.cls with
  | .type c => !(c == "list")
  | _ => true
theorem mem_of_lookup : ∀ {K : PySem.W.Frag} {a : Addr} {o : Obj}, K.lookup a = some o → (a, o) ∈ K
  | [], a, o, h => by cases h
  | (b, p) :: r, a, o, h => by
    have h2 : (match a == b with | true => some p | false => (r.lookup a : Option Obj)) = some o := h
    cases q : (a == b) with
    | true =>
      rw [q] at h2
      cases h2
      rw [eq_of_beq q]
      exact List.mem_cons_self ..
    | false =>
      rw [q] at h2
      exact List.mem_cons_of_mem _ (mem_of_lookup h2)
theorem scr_of {K : PySem.W.Frag} {H : Hp} {a : Addr} {ns : List Int} (hK : noL K = true) (hO : Only H) (h : SqL K H a (ns.map V.int)) : ∃ o, H a = some (.frz o (.lst (ns.map V.int))) := by
  rcases h with (h | h) | ⟨o, its, n, h1, h2, _⟩
  · rcases hO a with q | ⟨o, xs, q⟩
    · rw [q] at h; cases h
    · rw [q] at h; cases h
  · exact h
  · have z := List.all_eq_true.mp hK _ (mem_of_lookup h1)
    simp only [h2] at z
    cases z
/-- what isinstance asks of an own error's class -/
def xcB (K : PySem.W.Frag) (C : Addr) : Bool := He.eqO (PySem.W.findIn K (.ref C) "__getattribute__") (some (some (.builtin "BaseException.__getattribute__"))) && (He.eqO (PySem.W.findIn K (.ref C) "__getattr__") (some none) && (decide (PySem.W.subIn K (.ref C) (.type "BaseException") = some true) && (PySem.W.hasDictIn K C &&
  (He.eqO (PySem.W.findIn K (.ref C) "__class__") (some (some (.builtin "object.__class__"))) && (He.eqO (PySem.W.specialIn K (.builtin "object.__class__") "__get__") (some (some (.builtin "getset_descriptor.__get__"))) && (decide (PySem.W.takesIn K (.builtin "object.__class__") = some true) && (decide (PySem.W.mroIn K C (.type "object") = some true) &&
  (decide (PySem.W.exmOne K (.ref C) (.ref C) = some true) && decide (PySem.W.kitOne K (.ref C) (.type "ValueError") = some true)))))))))
theorem xcB_ok {K : PySem.W.Frag} {C : Addr} (h : xcB K C = true) : ExcC K C ∧ PySem.W.exmOne K (.ref C) (.ref C) = some true ∧ PySem.W.kitOne K (.ref C) (.type "ValueError") = some true := by
  unfold xcB at h
  obtain ⟨a1, h⟩ := and2 h
  obtain ⟨a2, h⟩ := and2 h
  obtain ⟨a3, h⟩ := and2 h
  obtain ⟨a4, h⟩ := and2 h
  obtain ⟨a5, h⟩ := and2 h
  obtain ⟨a6, h⟩ := and2 h
  obtain ⟨a7, h⟩ := and2 h
  obtain ⟨a8, h⟩ := and2 h
  obtain ⟨a9, h⟩ := and2 h
  exact ⟨⟨He.eqO_ok a1, He.eqO_ok a2, of_decide_eq_true a3, a4, He.eqO_ok a5, He.eqO_ok a6, of_decide_eq_true a7, of_decide_eq_true a8⟩, of_decide_eq_true a9, of_decide_eq_true h⟩
def preK (er : List Str) (K : PySem.W.Frag) : Bool := noL K && er.all fun x => xcB K (He.ga K x)
/-- the hook: the facts, and that no list stands there -/
def hookL (n : Nat) (er : List Str) (fa : List He.Fa) (fn : List He.DefD) : PySem.W.Hook where
  α := Bool × He.AlD
  obs := fun s => (preK er (He.frG s.heap.get? (He.asD s.heap.get? n)), He.obsDG n fa fn s.heap.get?)
  val := fun _ => (true, He.valD fn)
  says := fun _ h => ∃ K : PySem.W.Frag, K.In h ∧ preK er K = true ∧ He.SaysD fa fn K
  of := fun _ _ e => ⟨_, He.frG_in, congrArg (fun z : Bool × He.AlD => z.1) e, congrArg (fun z : Bool × He.AlD => z.2) e⟩
  keeps := fun _ _ _ ⟨K, hK, c⟩ k => ⟨K, PySem.W.Frag.In.keeps hK k, c⟩
def obL (n : Nat) (er : List Str) (fa : List He.Fa) (fn : List He.DefD) (g : Addr → Option Obj) : Bool × He.AlD :=
  let K := He.frG g (He.asD g n)
  (preK er K, He.obsD fa fn K)
theorem obL_eq {n : Nat} {er : List Str} {fa : List He.Fa} {fn : List He.DefD} {g : Addr → Option Obj} {s : Shared} (h : ∀ a, g a = s.heap.get? a) : obL n er fa fn g = (hookL n er fa fn).obs s := by
  have e : g = s.heap.get? := funext h
  rw [e] <;> rfl
/-! ### a module by its facts -/
def dd (d : Dt) : He.DefD := ⟨(d.nm, none), d.nm, d.nm, defArgs d.st, defBody d.st, defScope d.st, [], []⟩
def coFa : Str × D → He.Fa
  | (x, .int i) => .int x i
  | (x, .str z) => .str x z
  | (x, _) => .free x
def coOk : Str × D → Bool
  | (_, .int _) => true
  | (_, .str _) => true
  | _ => false
def exFa (er : List Str) (ct : Nat → Nat → Bool) : List He.Fa := (List.range er.length).flatMap fun i => (List.range er.length).map fun j => .exm (er.getD i "") (er.getD j "") (ct i j)
def faOf (G : GI) (ct : Nat → Nat → Bool) : List He.Fa :=
  G.fn.map (fun p => .glo p.1) ++ (G.fr.map .free ++ (G.co.map coFa ++ (G.er.map .glo ++ (G.er.map .exc ++ exFa G.er ct))))
def nrm (er : List Str) (i : Nat) : Nat := if i < er.length then i else 0
def clsOf (K : PySem.W.Frag) (er : List Str) (i : Nat) : Value := .ref (He.ga K (er.getD (nrm er i) ""))
def ctOf (er : List Str) (ct : Nat → Nat → Bool) (i j : Nat) : Bool := ct (nrm er i) (nrm er j)
def PB (d : Dt) : Prop := ∀ (kV doc pm : Value) (an : Option Addr) (cdv ct : Value) (us : List Value), us.length = d.ps.length → bindArgs (PySem.W.fnOf d.nm d.nm (defArgs d.st) (defBody d.st) (defScope d.st) .none kV doc pm an cdv ct) ⟨us, []⟩ = pure (d.ps.zip us)
section
variable {P : Program} {w : World} {K : PySem.W.Frag} {h : Heap} {mg : Str → Option Value} {G : GI} {ct : Nat → Nat → Bool} {ts : List Dt}
theorem says_all {fa : List He.Fa} {fn : List He.DefD} (c : He.SaysD fa fn K) : ∀ f ∈ fa, f.ok K = true := by
  have c1 := (He.ba (show ((fa.all fun f => f.ok K) && fn.all fun d => d.ok K) = true from congrArg (fun z : He.AlD => z.1) c)).1
  exact List.all_eq_true.mp c1
theorem says_def {fa : List He.Fa} {fn : List He.DefD} (c : He.SaysD fa fn K) {d : He.DefD} (hd : d ∈ fn) : ∃ fd, FunD K d.name d.qual d.params d.body d.scope (d.dvs K) (d.kws K) (He.fAd K d.at_) fd := by
  obtain ⟨i, hi⟩ := List.getElem?_of_mem hd
  exact c.def_ i hi
theorem mod_of (pre : preK G.er K = true) (X : K.In h) (Gs : h.Ns mainGlobals mg) (c : He.SaysD (faOf G ct) (ts.map dd) K) (gfn : G.fn = ts.map fun d => (d.nm, d.sg)) (ok : ts.all (chk G) = true) (co : G.co.all coOk = true) (er : 0 < G.er.length) (pb : ∀ d ∈ ts, PB d) :
    Mod P w K mg G (clsOf K G.er) (ctOf G.er ct) ts := by
  have A := says_all c
  unfold faOf at A
  simp only [List.mem_append] at A
  have nl : ∀ i, nrm G.er i < G.er.length := fun i => by
    unfold nrm
    split
    · assumption
    · exact er
  refine ⟨gfn, ok, fun d hd => ?_, fun x d hx => ?_, fun x hx => He.free_ok X Gs (A _ (.inr (.inl (List.mem_map_of_mem hx)))), fun j x hj => ?_, fun i j => ?_, fun i => ⟨_, rfl, xcB_ok (List.all_eq_true.mp (and2 pre).2 _ (by rw [List.getD_eq_getElem?_getD, List.getElem?_eq_getElem (nl i)]; exact List.getElem_mem _))⟩⟩
  · have g : mg d.nm = some (.ref (He.ga K d.nm)) := He.glo_ok X Gs (A _ (.inl (by rw [gfn, List.map_map]; exact List.mem_map_of_mem (f := fun d : Dt => He.Fa.glo d.nm) hd)))
    obtain ⟨fd, F⟩ := says_def c (List.mem_map_of_mem (f := dd) hd)
    exact ⟨_, fd, g, F, FunD.bindsN F (pb d hd)⟩
  · have q := A _ (.inr (.inr (.inl (List.mem_map_of_mem (f := coFa) hx))))
    have q2 := List.all_eq_true.mp co _ hx
    cases d with
    | int i =>
      obtain ⟨t, e⟩ := He.int_ok X Gs q
      exact ⟨_, e, t, rfl⟩
    | str z =>
      obtain ⟨t, e⟩ := He.str_ok X Gs q
      exact ⟨_, e, t, rfl⟩
    | _ => cases q2
  · have hm := List.mem_of_getElem? hj
    have e1 := He.glo_ok X Gs (A _ (.inr (.inr (.inr (.inl (List.mem_map_of_mem (f := He.Fa.glo) hm))))))
    obtain ⟨e2, e3, e4, e5⟩ := He.exc_ok (A _ (.inr (.inr (.inr (.inr (.inl (List.mem_map_of_mem (f := He.Fa.exc) hm)))))))
    have l : j < G.er.length := by
      rcases Nat.lt_or_ge j G.er.length with q | q
      · exact q
      · rw [List.getElem?_eq_none q] at hj; cases hj
    refine ⟨_, ?_, e1, e3, e2, e4, e5⟩
    unfold clsOf nrm
    rw [if_pos l, List.getD_eq_getElem?_getD, hj]
    rfl
  · refine He.exm_ok (A _ (.inr (.inr (.inr (.inr (.inr ?_))))))
    unfold exFa
    rw [List.mem_flatMap]
    exact ⟨_, List.mem_range.mpr (nl i), List.mem_map.mpr ⟨_, List.mem_range.mpr (nl j), rfl⟩⟩
/-- the law's end -/
theorem law_end {l : PySem.W.OpenLaw} {q : Program} {loose : List Str} {XP : (Str → Option Value) → Heap → Prop} {d : DefRec} {n k L m : Nat} {dl : Dt}
    (hn : l.most = some n) (hn2 : n ≤ sizeLine) (hdf : d.params.defaults = []) (hr : Room k callerA) (hnm : d.name = dl.nm)
    (gfn : G.fn = ts.map fun d => (d.nm, d.sg)) (ok : ts.all (chk G) = true) (co : G.co.all coOk = true) (er : 0 < G.er.length) (pb : ∀ d ∈ ts, PB d)
    (hL : ts[L]? = some dl) (hsg : dl.sg = [.fz]) (hps : dl.ps = [("script" : Str)])
    (hrun : ∀ ns : List Int, ns.length ≤ n → run (ctOf G.er ct) (tabOf ts) k L [.scr ns] = .ret (.bl true) []) :
    PySem.W.WalkO q loose XP (hookL m G.er (faOf G ct) (ts.map dd)).says l.row.toRowW d [] (fun f vs => PySem.call f vs) := by
  refine walk_ofW (n := n) (k := k) (x := "script") (CX := L2.CX l.prog) hn hn2 hdf hr ?_ (fun w H s e s' ⟨_, _, _, _, _, _, _, _, _, _, _, _, z⟩ => z)
  intro w mg fa h Y Gs hmg
  obtain ⟨K, KX, pre, c⟩ := Y
  have nl := (and2 pre).1
  have M : Mod l.prog w K mg G (clsOf K G.er) (ctOf G.er ct) ts := mod_of pre KX Gs c gfn ok co er pb
  obtain ⟨a, fd, e, F, b⟩ := M.fns dl (List.mem_of_getElem? hL)
  rw [hnm, e] at hmg
  cases hmg
  refine ⟨K, fd, spOf [.fz] (run (ctOf G.er ct) (tabOf ts) k L) (clsOf K G.er), KX, fun s v => ?_, fun H a ns hlen hO hS => ?_, fun base _ _ => ?_⟩
  · have z := FunD.bindsA F (pb dl (List.mem_of_getElem? hL)) s [v] (by rw [hps]; rfl)
    rw [hps] at z
    exact z
  · obtain ⟨o, ho⟩ := scr_of nl hO hS
    refine ⟨fun _ => False, [.scr ns], [[]], fun _ z => z.elim, List.nodup_nil, .cons (.fz (.scr (fun z => ?_) ho)) .nil, ?_⟩
    · rcases z with z | z
      · exact z
      · cases z
    · rw [hrun ns hlen]
      intro v H' _ _ fz
      cases fz
      rfl
  · have z : FnOk l.prog w K mg base (L2.CX l.prog w) k fa fd dl.ps (spOf dl.sg (run (ctOf G.er ct) (tabOf ts) k L) (clsOf K G.er)) := by
      cases k with
      | zero => exact ⟨fun vs H Q E ⟨_, _, _, _, _, _, q⟩ => q.elim, fun A outer s H args us vs Q E _ _ _ _ ⟨_, _, _, _, _, _, q⟩ => q.elim⟩
      | succ k => exact step_ok M hL F (all_ok M k)
    rw [hps, hsg] at z
    exact z
end
end Bell
set_option Elab.async false
set_option linter.all false
set_option maxRecDepth 100000
set_option autoImplicit false
/-! Rules for runs of small texts: comprehensions, loops. -/
universe u
namespace Bell
open PySem
/-- a rule that is not to be unfolded -/
theorem nd {α : Sort u} {a b : α} (h : a = b) : a = b := h
theorem size_big : (2 : Nat) ^ 24 ≤ sizeLine := by decide +kernel
theorem set_set {α : Type} (l : List α) (i : Nat) (a b : α) : (l.set i a).set i b = l.set i b := by simp
theorem set_get {α : Type} {l : List (Option α)} {i : Nat} (h : i < l.length) : l.set i (l.getD i none) = l := by
  apply List.ext_getElem?
  intro j
  by_cases e : i = j
  · subst e
    rw [List.getElem?_set_self h, List.getD_eq_getElem?_getD, List.getElem?_eq_getElem h]
    rfl
  · rw [List.getElem?_set_ne e]
/-! ### comprehensions -/
def lcStep (φ : Calls) (cond : Option Ex) (elt : Ex) (ρ : Env) : Out (Option D) :=
  (condM φ cond ρ).bind fun k ρ => if k then (ev φ elt ρ).bind fun y ρ => .ok (some y) ρ else .ok none ρ
theorem lcF_set {φ : Calls} {i : Nat} {cond : Option Ex} {elt : Ex} {x : D} {ρ : Env} : lcF (.n i) (condM φ cond) (ev φ elt) x (ρ.set i none) = lcStep φ cond elt (ρ.set i (some x)) := by
  show lcStep φ cond elt ((ρ.set i none).set i (some x)) = _
  rw [List.set_set]
section
variable {φ : Calls} {i j : Nat} {ik : IK} {its : List Ex} {cond : Option Ex} {elt : Ex} {ρ : Env} {ds xs : List D}
theorem lcGo_pure {g : D → Option D} (hi : i < ρ.length) : ∀ {xs : List D} {ρ1 : Env}, ρ1.set i none = ρ.set i none → (∀ x ∈ xs, lcStep φ cond elt (ρ.set i (some x)) = .ok (g x) (ρ.set i (some x))) →
    ∃ ρ', lcGo [i] (lcF (.n i) (condM φ cond) (ev φ elt)) xs ρ1 = .ok (xs.filterMap g) ρ' ∧ ρ'.set i none = ρ.set i none
  | [], ρ1, e, _ => ⟨ρ1, rfl, e⟩
  | x :: xs, ρ1, e, h => by
    have e1 : (wipeE ρ1 [i]) = ρ.set i none := e
    have h1 := h x List.mem_cons_self
    have e2 : lcF (.n i) (condM φ cond) (ev φ elt) x (ρ.set i none) = .ok (g x) (ρ.set i (some x)) := lcF_set.trans h1
    obtain ⟨ρ', q1, q2⟩ := lcGo_pure (g := g) hi (xs := xs) (ρ1 := ρ.set i (some x)) (set_set _ _ _ _) fun y hy => h y (List.mem_cons_of_mem _ hy)
    refine ⟨ρ', ?_, q2⟩
    unfold lcGo
    rw [e1]
    simp only [e2, q1]
    cases hg : g x with
    | none => rw [List.filterMap_cons_none hg]
    | some y => rw [List.filterMap_cons_some hg]
theorem rest_one {ρ' : Env} (hi : i < ρ.length) (h : ρ'.set i none = ρ.set i none) : restE ρ ρ' [i] = ρ := by
  show ρ'.set i (ρ.getD i none) = ρ
  rw [← set_set ρ' i none, h, set_set, set_get hi]
theorem ev_lc1 {g : D → Option D} (hi : i < ρ.length) (h1 : evL φ its ρ = .ok ds ρ) (h2 : items ik ds = some xs) (h : ∀ x ∈ xs, lcStep φ cond elt (ρ.set i (some x)) = .ok (g x) (ρ.set i (some x))) (hn : xs.length ≤ 2 ^ 24) :
    ev φ (.lc [i] (.n i) ik its cond elt) ρ = .ok (.lst (xs.filterMap g)) ρ := by
  obtain ⟨ρ', q1, q2⟩ := lcGo_pure (g := g) hi (xs := xs) (ρ1 := ρ) rfl h
  have z : (xs.filterMap g).length ≤ sizeLine := Nat.le_trans (List.length_filterMap_le _ _) (Nat.le_trans hn size_big)
  rw [ev_lc]
  unfold lcM
  simp only [h1, Out.bind, h2, q1, z, if_true, rest_one hi q2]
/-- .. whose turns change a slot (draws) -/
theorem lcGo_io {Dr : D → Prop} {Gd : D → Prop} (hij : i ≠ j) (hi : i < ρ.length) (hj : j < ρ.length)
    (h : ∀ x ∈ xs, ∀ d, Dr d → ∃ y d', lcStep φ none elt ((ρ.set j (some d)).set i (some x)) = .ok (some y) ((ρ.set j (some d')).set i (some x)) ∧ Dr d' ∧ Gd y) : ∀ {ys : List D}, (∀ x ∈ ys, x ∈ xs) → ∀ {ρ1 : Env} {d : D}, Dr d → ρ1.set i none = (ρ.set j (some d)).set i none →
    ∃ rs ρ' d', lcGo [i] (lcF (.n i) (condM φ none) (ev φ elt)) ys ρ1 = .ok rs ρ' ∧ Dr d' ∧ ρ'.set i none = (ρ.set j (some d')).set i none ∧ rs.length = ys.length ∧ ∀ y ∈ rs, Gd y
  | [], _, ρ1, d, hd, e => ⟨[], ρ1, d, rfl, hd, e, rfl, fun y hy => by cases hy⟩
  | x :: ys, hs, ρ1, d, hd, e => by
    have e1 : (wipeE ρ1 [i]) = (ρ.set j (some d)).set i none := e
    obtain ⟨y, d1, h1, hd1, gy⟩ := h x (hs x List.mem_cons_self) d hd
    have e2 : lcF (.n i) (condM φ none) (ev φ elt) x ((ρ.set j (some d)).set i none) = .ok (some y) ((ρ.set j (some d1)).set i (some x)) := lcF_set.trans h1
    obtain ⟨rs, ρ', d', q1, q2, q3, q4, q5⟩ := lcGo_io hij hi hj h (ys := ys) (fun x hx => hs x (List.mem_cons_of_mem _ hx)) (ρ1 := (ρ.set j (some d1)).set i (some x)) hd1 (set_set _ _ _ _)
    refine ⟨y :: rs, ρ', d', ?_, q2, q3, by simp [q4], fun z hz => ?_⟩
    · unfold lcGo
      rw [e1]
      simp only [e2, q1]
    · rcases List.mem_cons.mp hz with rfl | hz
      · exact gy
      · exact q5 z hz
theorem ev_lc_io {Dr : D → Prop} {Gd : D → Prop} {d : D} (hij : i ≠ j) (hi : i < ρ.length) (hj : j < ρ.length) (h1 : evL φ its (ρ.set j (some d)) = .ok ds (ρ.set j (some d))) (h2 : items ik ds = some xs) (hd : Dr d)
    (h : ∀ x ∈ xs, ∀ d, Dr d → ∃ y d', lcStep φ none elt ((ρ.set j (some d)).set i (some x)) = .ok (some y) ((ρ.set j (some d')).set i (some x)) ∧ Dr d' ∧ Gd y) (hn : xs.length ≤ 2 ^ 24) :
    ∃ rs d', ev φ (.lc [i] (.n i) ik its none elt) (ρ.set j (some d)) = .ok (.lst rs) (ρ.set j (some d')) ∧ Dr d' ∧ rs.length = xs.length ∧ ∀ y ∈ rs, Gd y := by
  obtain ⟨rs, ρ', d', q1, q2, q3, q4, q5⟩ := lcGo_io hij hi hj h (ys := xs) (fun _ h => h) (ρ1 := ρ.set j (some d)) hd rfl
  refine ⟨rs, d', ?_, q2, q4, q5⟩
  have z : rs.length ≤ sizeLine := by rw [q4]; exact Nat.le_trans hn size_big
  have r : restE (ρ.set j (some d)) ρ' [i] = ρ.set j (some d') := by
    show ρ'.set i ((ρ.set j (some d)).getD i none) = _
    have e : (ρ.set j (some d)).getD i none = (ρ.set j (some d')).getD i none := by
      rw [List.getD_eq_getElem?_getD, List.getD_eq_getElem?_getD, List.getElem?_set_ne (Ne.symm hij), List.getElem?_set_ne (Ne.symm hij)]
    rw [e, ← set_set ρ' i none, q3, set_set, set_get (by rw [List.length_set]; exact hi)]
  rw [ev_lc]
  unfold lcM
  simp only [h1, Out.bind, h2, q1, z, if_true, r]
end
/-! ### loops -/
/-- a loop whose turns lead from state to state -/
theorem forGo_fold {σ : Type} {body : D → Env → Fl} (enc : σ → Env) (step : σ → D → σ) (I : σ → Prop) : ∀ {xs : List D} {s : σ}, I s → (∀ x ∈ xs, ∀ s, I s → body x (enc s) = .next (enc (step s x)) ∧ I (step s x)) → forGo body xs (enc s) = .next (enc (xs.foldl step s)) ∧ I (xs.foldl step s)
  | [], s, hs, _ => ⟨rfl, hs⟩
  | x :: xs, s, hs, h => by
    obtain ⟨e, i⟩ := h x List.mem_cons_self s hs
    unfold forGo
    rw [e]
    exact forGo_fold enc step I i fun y hy => h y (List.mem_cons_of_mem _ hy)
/-- .. from a state to some state that keeps I -/
theorem forGo_inv {body : D → Env → Fl} (I : Nat → Env → Prop) : ∀ {xs : List D} {k : Nat} {ρ : Env}, I k ρ → (∀ i x, xs[i]? = some x → ∀ ρ, I (k + i) ρ → ∃ ρ', body x ρ = .next ρ' ∧ I (k + i + 1) ρ') → ∃ ρ', forGo body xs ρ = .next ρ' ∧ I (k + xs.length) ρ'
  | [], k, ρ, hs, _ => ⟨ρ, rfl, hs⟩
  | x :: xs, k, ρ, hs, h => by
    obtain ⟨ρ1, e, i⟩ := h 0 x rfl ρ hs
    obtain ⟨ρ2, e2, i2⟩ := forGo_inv I (xs := xs) (k := k + 1) (ρ := ρ1) i fun i y hy ρ hρ => by
      have := h (i + 1) y hy ρ (by rw [show k + (i + 1) = k + 1 + i by omega]; exact hρ)
      rw [show k + (i + 1) + 1 = k + 1 + i + 1 by omega] at this
      exact this
    refine ⟨ρ2, ?_, by rw [List.length_cons, show k + (xs.length + 1) = k + 1 + xs.length by omega]; exact i2⟩
    unfold forGo
    rw [e]
    exact e2
/-- a loop that looks at each item, and ends at the first wrong one -/
theorem forGo_all {body : D → Env → Fl} {i : Nat} {ρ : Env} {r : D} (ok : D → Bool) : ∀ {xs : List D} {ρ1 : Env}, ρ1.set i none = ρ.set i none → (∀ x ∈ xs, ∀ ρ', ρ'.set i none = ρ.set i none → body x ρ' = if ok x then .next (ρ.set i (some x)) else .ret r (ρ.set i (some x))) →
    ∃ ρ', ρ'.set i none = ρ.set i none ∧ forGo body xs ρ1 = if xs.all ok then .next ρ' else .ret r ρ'
  | [], ρ1, e, _ => ⟨ρ1, e, rfl⟩
  | x :: xs, ρ1, e, h => by
    have h1 := h x List.mem_cons_self ρ1 e
    cases hx : ok x with
    | true =>
      rw [hx, if_pos rfl] at h1
      obtain ⟨ρ', q1, q2⟩ := forGo_all ok (xs := xs) (ρ1 := ρ.set i (some x)) (set_set _ _ _ _) fun y hy => h y (List.mem_cons_of_mem _ hy)
      refine ⟨ρ', q1, ?_⟩
      unfold forGo
      rw [h1, List.all_cons, hx, Bool.true_and]
      exact q2
    | false =>
      rw [hx, if_neg (by decide)] at h1
      refine ⟨ρ.set i (some x), set_set _ _ _ _, ?_⟩
      unfold forGo
      rw [h1, List.all_cons, hx, Bool.false_and, if_neg (by decide)]
/-- while -/
theorem whGo_rule {test : Env → Out Bool} {body : Env → Fl} (I : Env → Prop) (m : Env → Nat) (Q : Env → Prop)
    (h : ∀ ρ, I ρ → (∃ ρ', test ρ = .ok false ρ' ∧ Q ρ') ∨ ∃ ρ1 ρ2, test ρ = .ok true ρ1 ∧ body ρ1 = .next ρ2 ∧ I ρ2 ∧ m ρ2 < m ρ) : ∀ {n : Nat} {ρ : Env}, I ρ → m ρ < n → ∃ ρ', whGo test body n ρ = .next ρ' ∧ Q ρ'
  | 0, _, _, z => absurd z (Nat.not_lt_zero _)
  | n + 1, ρ, hI, z => by
    rcases h ρ hI with ⟨ρ', e, q⟩ | ⟨ρ1, ρ2, e1, e2, i, l⟩
    · refine ⟨ρ', ?_, q⟩
      unfold whGo
      rw [e]
      rfl
    · obtain ⟨ρ', q1, q2⟩ := whGo_rule I m Q h (n := n) i (by omega)
      refine ⟨ρ', ?_, q2⟩
      unfold whGo
      rw [e1]
      show (match body ρ1 with
        | .next ρ => whGo test body n ρ
        | .brk ρ => .next ρ
        | r => r) = _
      rw [e2]
      exact q1
theorem fuel_big : (2 : Nat) ^ 32 ≤ FUEL := by decide +kernel
/-! ### small things -/
theorem rngD_map (a : Int) (n : Nat) : rngD a n 1 = (List.range n).map fun i : Nat => D.int (a + i) := by
  unfold rngD
  congr 1
  funext i
  rw [Int.mul_one]
theorem map_int_inj {xs ys : List Int} (h : xs.map D.int = ys.map D.int) : xs = ys := by
  induction xs generalizing ys with
  | nil => cases ys with
    | nil => rfl
    | cons _ _ => cases h
  | cons x xs ih => cases ys with
    | nil => cases h
    | cons y ys =>
      rw [List.map_cons, List.map_cons] at h
      injection h with h1 h2
      injection h1 with h1
      rw [h1, ih h2]
end Bell
namespace Bell
section
variable {φ : Calls} {ρ : Env}
def notB' : Ex → Bool
  | .c _ => true
  | .g _ _ => true
  | .v _ => true
  | .b _ => false
  | .io _ => true
  | .op1 _ _ => true
  | .op2 _ _ _ => true
  | .op3 _ _ _ _ => true
  | .chn _ _ _ _ _ => true
  | .and _ _ => true
  | .or _ _ => true
  | .not _ => true
  | .ife _ _ _ => true
  | .tupD _ => true
  | .lstD _ => true
  | .dicE _ => true
  | .call _ _ => true
  | .lc _ _ _ _ _ _ => true
  | .pop _ => true
  | .lcd _ _ _ _ _ => true
  | .dic1 _ _ _ => true
  | .mth _ _ _ => true
@[simp] theorem ev_c (d : D) : ev φ (.c d) ρ = .ok d ρ := by simp only [ev]
@[simp] theorem ev_g (x : PySem.Str) (d : D) : ev φ (.g x d) ρ = .ok d ρ := by simp only [ev]
@[simp] theorem ev_v (i : Nat) : ev φ (.v i) ρ = rd i ρ := by simp only [ev]
@[simp] theorem ev_b (i : Nat) : ev φ (.b i) ρ = rd i ρ := by simp only [ev]
@[simp] theorem ev_op1 (o : O1) (a : Ex) : ev φ (.op1 o a) ρ = (ev φ a ρ).bind fun x ρ => fin (sem1 o x) ρ := by simp only [ev]
@[simp] theorem ev_op2b (o : O2) (i : Nat) (b : Ex) : ev φ (.op2 o (.b i) b) ρ = (rd i ρ).bind fun _ ρ => (ev φ b ρ).bind fun y ρ => (rd i ρ).bind fun x ρ => fin (sem2 o x y) ρ := by simp only [ev]
theorem ev_op2 (o : O2) (a b : Ex) (h : notB' a = true) : ev φ (.op2 o a b) ρ = (ev φ a ρ).bind fun x ρ => (ev φ b ρ).bind fun y ρ => fin (sem2 o x y) ρ := by
  cases a <;> first | (simp only [ev]; done) | exact absurd h (by simp [notB'])
@[simp] theorem ev_op3b (o : O3) (i : Nat) (b c : Ex) : ev φ (.op3 o (.b i) b c) ρ = (rd i ρ).bind fun _ ρ => (ev φ b ρ).bind fun y ρ => match y with
    | .int y => (ev φ c ρ).bind fun z ρ => (rd i ρ).bind fun x ρ => fin (sem3 o x (.int y) z) ρ
    | _ => .stuck := by
  first | (simp only [ev]; done) | (simp only [ev]; rfl)
theorem ev_op3 (o : O3) (a b c : Ex) (h : notB' a = true) : ev φ (.op3 o a b c) ρ = (ev φ a ρ).bind fun x ρ => (ev φ b ρ).bind fun y ρ => match y with
    | .int y => (ev φ c ρ).bind fun z ρ => fin (sem3 o x (.int y) z) ρ
    | _ => .stuck := by
  cases a <;> first | (simp only [ev]; done) | (simp only [ev]; rfl) | exact absurd h (by simp [notB'])
theorem ev_op2_c (o : O2) (d : D) (b : Ex) : ev φ (.op2 o (.c d) b) ρ = (ev φ (.c d) ρ).bind fun x ρ => (ev φ b ρ).bind fun y ρ => fin (sem2 o x y) ρ := ev_op2 _ _ _ rfl
theorem ev_op3_c (o : O3) (d : D) (b c : Ex) : ev φ (.op3 o (.c d) b c) ρ = (ev φ (.c d) ρ).bind fun x ρ => (ev φ b ρ).bind fun y ρ => match y with
    | .int y => (ev φ c ρ).bind fun z ρ => fin (sem3 o x (.int y) z) ρ
    | _ => .stuck := ev_op3 _ _ _ _ rfl
theorem ev_op2_g (o : O2) (x : PySem.Str) (d : D) (b : Ex) : ev φ (.op2 o (.g x d) b) ρ = (ev φ (.g x d) ρ).bind fun x ρ => (ev φ b ρ).bind fun y ρ => fin (sem2 o x y) ρ := ev_op2 _ _ _ rfl
theorem ev_op3_g (o : O3) (x : PySem.Str) (d : D) (b c : Ex) : ev φ (.op3 o (.g x d) b c) ρ = (ev φ (.g x d) ρ).bind fun x ρ => (ev φ b ρ).bind fun y ρ => match y with
    | .int y => (ev φ c ρ).bind fun z ρ => fin (sem3 o x (.int y) z) ρ
    | _ => .stuck := ev_op3 _ _ _ _ rfl
theorem ev_op2_v (o : O2) (i : Nat) (b : Ex) : ev φ (.op2 o (.v i) b) ρ = (ev φ (.v i) ρ).bind fun x ρ => (ev φ b ρ).bind fun y ρ => fin (sem2 o x y) ρ := ev_op2 _ _ _ rfl
theorem ev_op3_v (o : O3) (i : Nat) (b c : Ex) : ev φ (.op3 o (.v i) b c) ρ = (ev φ (.v i) ρ).bind fun x ρ => (ev φ b ρ).bind fun y ρ => match y with
    | .int y => (ev φ c ρ).bind fun z ρ => fin (sem3 o x (.int y) z) ρ
    | _ => .stuck := ev_op3 _ _ _ _ rfl
theorem ev_op2_op1 (o : O2) (o1 : O1) (x : Ex) (b : Ex) : ev φ (.op2 o (.op1 o1 x) b) ρ = (ev φ (.op1 o1 x) ρ).bind fun x ρ => (ev φ b ρ).bind fun y ρ => fin (sem2 o x y) ρ := ev_op2 _ _ _ rfl
theorem ev_op3_op1 (o : O3) (o1 : O1) (x : Ex) (b c : Ex) : ev φ (.op3 o (.op1 o1 x) b c) ρ = (ev φ (.op1 o1 x) ρ).bind fun x ρ => (ev φ b ρ).bind fun y ρ => match y with
    | .int y => (ev φ c ρ).bind fun z ρ => fin (sem3 o x (.int y) z) ρ
    | _ => .stuck := ev_op3 _ _ _ _ rfl
theorem ev_op2_op2 (o : O2) (o1 : O2) (x y : Ex) (b : Ex) : ev φ (.op2 o (.op2 o1 x y) b) ρ = (ev φ (.op2 o1 x y) ρ).bind fun x ρ => (ev φ b ρ).bind fun y ρ => fin (sem2 o x y) ρ := ev_op2 _ _ _ rfl
theorem ev_op3_op2 (o : O3) (o1 : O2) (x y : Ex) (b c : Ex) : ev φ (.op3 o (.op2 o1 x y) b c) ρ = (ev φ (.op2 o1 x y) ρ).bind fun x ρ => (ev φ b ρ).bind fun y ρ => match y with
    | .int y => (ev φ c ρ).bind fun z ρ => fin (sem3 o x (.int y) z) ρ
    | _ => .stuck := ev_op3 _ _ _ _ rfl
theorem ev_op2_op3 (o : O2) (o1 : O3) (x y z : Ex) (b : Ex) : ev φ (.op2 o (.op3 o1 x y z) b) ρ = (ev φ (.op3 o1 x y z) ρ).bind fun x ρ => (ev φ b ρ).bind fun y ρ => fin (sem2 o x y) ρ := ev_op2 _ _ _ rfl
theorem ev_op3_op3 (o : O3) (o1 : O3) (x y z : Ex) (b c : Ex) : ev φ (.op3 o (.op3 o1 x y z) b c) ρ = (ev φ (.op3 o1 x y z) ρ).bind fun x ρ => (ev φ b ρ).bind fun y ρ => match y with
    | .int y => (ev φ c ρ).bind fun z ρ => fin (sem3 o x (.int y) z) ρ
    | _ => .stuck := ev_op3 _ _ _ _ rfl
theorem ev_op2_chn (o : O2) (o1 p1 : O2) (x y z : Ex) (b : Ex) : ev φ (.op2 o (.chn o1 p1 x y z) b) ρ = (ev φ (.chn o1 p1 x y z) ρ).bind fun x ρ => (ev φ b ρ).bind fun y ρ => fin (sem2 o x y) ρ := ev_op2 _ _ _ rfl
theorem ev_op3_chn (o : O3) (o1 p1 : O2) (x y z : Ex) (b c : Ex) : ev φ (.op3 o (.chn o1 p1 x y z) b c) ρ = (ev φ (.chn o1 p1 x y z) ρ).bind fun x ρ => (ev φ b ρ).bind fun y ρ => match y with
    | .int y => (ev φ c ρ).bind fun z ρ => fin (sem3 o x (.int y) z) ρ
    | _ => .stuck := ev_op3 _ _ _ _ rfl
theorem ev_op2_and (o : O2) (x y : Ex) (b : Ex) : ev φ (.op2 o (.and x y) b) ρ = (ev φ (.and x y) ρ).bind fun x ρ => (ev φ b ρ).bind fun y ρ => fin (sem2 o x y) ρ := ev_op2 _ _ _ rfl
theorem ev_op3_and (o : O3) (x y : Ex) (b c : Ex) : ev φ (.op3 o (.and x y) b c) ρ = (ev φ (.and x y) ρ).bind fun x ρ => (ev φ b ρ).bind fun y ρ => match y with
    | .int y => (ev φ c ρ).bind fun z ρ => fin (sem3 o x (.int y) z) ρ
    | _ => .stuck := ev_op3 _ _ _ _ rfl
theorem ev_op2_or (o : O2) (x y : Ex) (b : Ex) : ev φ (.op2 o (.or x y) b) ρ = (ev φ (.or x y) ρ).bind fun x ρ => (ev φ b ρ).bind fun y ρ => fin (sem2 o x y) ρ := ev_op2 _ _ _ rfl
theorem ev_op3_or (o : O3) (x y : Ex) (b c : Ex) : ev φ (.op3 o (.or x y) b c) ρ = (ev φ (.or x y) ρ).bind fun x ρ => (ev φ b ρ).bind fun y ρ => match y with
    | .int y => (ev φ c ρ).bind fun z ρ => fin (sem3 o x (.int y) z) ρ
    | _ => .stuck := ev_op3 _ _ _ _ rfl
theorem ev_op2_not (o : O2) (x : Ex) (b : Ex) : ev φ (.op2 o (.not x) b) ρ = (ev φ (.not x) ρ).bind fun x ρ => (ev φ b ρ).bind fun y ρ => fin (sem2 o x y) ρ := ev_op2 _ _ _ rfl
theorem ev_op3_not (o : O3) (x : Ex) (b c : Ex) : ev φ (.op3 o (.not x) b c) ρ = (ev φ (.not x) ρ).bind fun x ρ => (ev φ b ρ).bind fun y ρ => match y with
    | .int y => (ev φ c ρ).bind fun z ρ => fin (sem3 o x (.int y) z) ρ
    | _ => .stuck := ev_op3 _ _ _ _ rfl
theorem ev_op2_ife (o : O2) (x y z : Ex) (b : Ex) : ev φ (.op2 o (.ife x y z) b) ρ = (ev φ (.ife x y z) ρ).bind fun x ρ => (ev φ b ρ).bind fun y ρ => fin (sem2 o x y) ρ := ev_op2 _ _ _ rfl
theorem ev_op3_ife (o : O3) (x y z : Ex) (b c : Ex) : ev φ (.op3 o (.ife x y z) b c) ρ = (ev φ (.ife x y z) ρ).bind fun x ρ => (ev φ b ρ).bind fun y ρ => match y with
    | .int y => (ev φ c ρ).bind fun z ρ => fin (sem3 o x (.int y) z) ρ
    | _ => .stuck := ev_op3 _ _ _ _ rfl
theorem ev_op2_tupD (o : O2) (es : List Ex) (b : Ex) : ev φ (.op2 o (.tupD es) b) ρ = (ev φ (.tupD es) ρ).bind fun x ρ => (ev φ b ρ).bind fun y ρ => fin (sem2 o x y) ρ := ev_op2 _ _ _ rfl
theorem ev_op3_tupD (o : O3) (es : List Ex) (b c : Ex) : ev φ (.op3 o (.tupD es) b c) ρ = (ev φ (.tupD es) ρ).bind fun x ρ => (ev φ b ρ).bind fun y ρ => match y with
    | .int y => (ev φ c ρ).bind fun z ρ => fin (sem3 o x (.int y) z) ρ
    | _ => .stuck := ev_op3 _ _ _ _ rfl
theorem ev_op2_lstD (o : O2) (es : List Ex) (b : Ex) : ev φ (.op2 o (.lstD es) b) ρ = (ev φ (.lstD es) ρ).bind fun x ρ => (ev φ b ρ).bind fun y ρ => fin (sem2 o x y) ρ := ev_op2 _ _ _ rfl
theorem ev_op3_lstD (o : O3) (es : List Ex) (b c : Ex) : ev φ (.op3 o (.lstD es) b c) ρ = (ev φ (.lstD es) ρ).bind fun x ρ => (ev φ b ρ).bind fun y ρ => match y with
    | .int y => (ev φ c ρ).bind fun z ρ => fin (sem3 o x (.int y) z) ρ
    | _ => .stuck := ev_op3 _ _ _ _ rfl
theorem ev_op2_dicE (o : O2) (t : Bool) (b : Ex) : ev φ (.op2 o (.dicE t) b) ρ = (ev φ (.dicE t) ρ).bind fun x ρ => (ev φ b ρ).bind fun y ρ => fin (sem2 o x y) ρ := ev_op2 _ _ _ rfl
theorem ev_op3_dicE (o : O3) (t : Bool) (b c : Ex) : ev φ (.op3 o (.dicE t) b c) ρ = (ev φ (.dicE t) ρ).bind fun x ρ => (ev φ b ρ).bind fun y ρ => match y with
    | .int y => (ev φ c ρ).bind fun z ρ => fin (sem3 o x (.int y) z) ρ
    | _ => .stuck := ev_op3 _ _ _ _ rfl
theorem ev_op2_call (o : O2) (f : Nat) (es : List Ex) (b : Ex) : ev φ (.op2 o (.call f es) b) ρ = (ev φ (.call f es) ρ).bind fun x ρ => (ev φ b ρ).bind fun y ρ => fin (sem2 o x y) ρ := ev_op2 _ _ _ rfl
theorem ev_op3_call (o : O3) (f : Nat) (es : List Ex) (b c : Ex) : ev φ (.op3 o (.call f es) b c) ρ = (ev φ (.call f es) ρ).bind fun x ρ => (ev φ b ρ).bind fun y ρ => match y with
    | .int y => (ev φ c ρ).bind fun z ρ => fin (sem3 o x (.int y) z) ρ
    | _ => .stuck := ev_op3 _ _ _ _ rfl
theorem ev_op2_lc (o : O2) (own : List Nat) (tg : Tg) (ik : IK) (its : List Ex) (cond : Option Ex) (x : Ex) (b : Ex) : ev φ (.op2 o (.lc own tg ik its cond x) b) ρ = (ev φ (.lc own tg ik its cond x) ρ).bind fun x ρ => (ev φ b ρ).bind fun y ρ => fin (sem2 o x y) ρ := ev_op2 _ _ _ rfl
theorem ev_op3_lc (o : O3) (own : List Nat) (tg : Tg) (ik : IK) (its : List Ex) (cond : Option Ex) (x : Ex) (b c : Ex) : ev φ (.op3 o (.lc own tg ik its cond x) b c) ρ = (ev φ (.lc own tg ik its cond x) ρ).bind fun x ρ => (ev φ b ρ).bind fun y ρ => match y with
    | .int y => (ev φ c ρ).bind fun z ρ => fin (sem3 o x (.int y) z) ρ
    | _ => .stuck := ev_op3 _ _ _ _ rfl
theorem ev_op2_pop (o : O2) (i : Nat) (b : Ex) : ev φ (.op2 o (.pop i) b) ρ = (ev φ (.pop i) ρ).bind fun x ρ => (ev φ b ρ).bind fun y ρ => fin (sem2 o x y) ρ := ev_op2 _ _ _ rfl
theorem ev_op3_pop (o : O3) (i : Nat) (b c : Ex) : ev φ (.op3 o (.pop i) b c) ρ = (ev φ (.pop i) ρ).bind fun x ρ => (ev φ b ρ).bind fun y ρ => match y with
    | .int y => (ev φ c ρ).bind fun z ρ => fin (sem3 o x (.int y) z) ρ
    | _ => .stuck := ev_op3 _ _ _ _ rfl
theorem ev_chn (o p : O2) (a b c : Ex) : ev φ (.chn o p a b c) ρ = (ev φ a ρ).bind fun x ρ => (ev φ b ρ).bind fun y ρ => match sem2 o x y with
    | some (.bl true) => (ev φ c ρ).bind fun z ρ => fin (sem2 p y z) ρ
    | some (.bl false) => .ok (.bl false) ρ
    | _ => .stuck := by
  first | (simp only [ev]; done) | (simp only [ev]; rfl)
theorem ev_and (a b : Ex) : ev φ (.and a b) ρ = (ev φ a ρ).bind fun x ρ => match truth x with
    | some true => ev φ b ρ
    | some false => .ok x ρ
    | none => .stuck := by
  first | (simp only [ev]; done) | (simp only [ev]; rfl)
theorem ev_or (a b : Ex) : ev φ (.or a b) ρ = (ev φ a ρ).bind fun x ρ => match truth x with
    | some true => .ok x ρ
    | some false => ev φ b ρ
    | none => .stuck := by
  first | (simp only [ev]; done) | (simp only [ev]; rfl)
theorem ev_not (a : Ex) : ev φ (.not a) ρ = (ev φ a ρ).bind fun x ρ => match truth x with
    | some k => .ok (.bl (!k)) ρ
    | none => .stuck := by
  first | (simp only [ev]; done) | (simp only [ev]; rfl)
@[simp] theorem ev_ife (c a b : Ex) : ev φ (.ife c a b) ρ = (tst (ev φ c ρ)).bind fun k ρ => if k then ev φ a ρ else ev φ b ρ := by simp only [ev]
theorem ev_tupD (es : List Ex) : ev φ (.tupD es) ρ = (evL φ es ρ).bind fun ds ρ => if ds.length ≤ PySem.sizeLine then .ok (.tup ds) ρ else .stuck := by simp only [ev]
theorem ev_lstD (es : List Ex) : ev φ (.lstD es) ρ = (evL φ es ρ).bind fun ds ρ => if ds.length ≤ PySem.sizeLine then .ok (.lst ds) ρ else .stuck := by simp only [ev]
@[simp] theorem ev_dicE (t : Bool) : ev φ (.dicE t) ρ = .ok (.dic t []) ρ := by simp only [ev]
theorem ev_call (f : Nat) (es : List Ex) : ev φ (.call f es) ρ = (evA φ es ρ).bind fun ovs ρ => match ovDs ρ ovs with
    | some ds => finCall ovs ρ (φ f ds)
    | none => .stuck := by
  first | (simp only [ev]; done) | (simp only [ev]; rfl)
end
end Bell

namespace Bell
open L2
theorem ixN_nat {n i : Nat} (h : i < n) : ixN n (i : Int) = some i := by
  unfold ixN
  rw [if_pos (by omega), if_pos (by omega)]
  rfl
end Bell
set_option Elab.async false
set_option linter.all false
set_option maxRecDepth 100000
set_option autoImplicit false
/-! Runs over lists of numbers. -/
namespace Bell
open PySem L2
theorem eqvAll_ints : ∀ xs ys : List Int, PyData.eqvAll (xs.map PyData.int) (ys.map PyData.int) = decide (xs = ys)
  | [], [] => by simp [PyData.eqvAll]
  | [], _ :: _ => by simp [PyData.eqvAll]
  | _ :: _, [] => by simp [PyData.eqvAll]
  | x :: xs, y :: ys => by
    simp only [List.map_cons, PyData.eqvAll, PyData.eqv, eqvAll_ints xs ys]
    by_cases h : x = y <;> by_cases h' : xs = ys <;> simp [h, h']
theorem toPs_ints (xs : List Int) : toPs (xs.map .int) = xs.map PyData.int := by
  rw [toPs_map, List.map_map]
  rfl
theorem depth_ints : ∀ xs : List Int, PyData.depthAll (xs.map PyData.int) = 0
  | [] => rfl
  | x :: xs => by simp only [List.map_cons, PyData.depthAll, PyData.depth, depth_ints xs]; rfl
theorem lay_ints : ∀ xs : List Int, PyData.canLayAll0 (xs.map PyData.int) = true
  | [] => rfl
  | x :: xs => by simp only [List.map_cons, PyData.canLayAll0, PyData.canLay0, lay_ints xs]; rfl
theorem eqD_tup (a b : List Int) : eqD (.tup (a.map .int)) (.tup (b.map .int)) = some (decide (a = b)) := by
  unfold eqD SeqAt.shaped
  simp [toP, toPs_ints, PyData.canLay0, PyData.depth, depth_ints, lay_ints, PyData.eqv, eqvAll_ints]
theorem eqD_lst (a b : List Int) : eqD (.lst (a.map .int)) (.lst (b.map .int)) = some (decide (a = b)) := by
  unfold eqD SeqAt.shaped
  simp [toP, toPs_ints, PyData.canLay0, PyData.depth, depth_ints, lay_ints, PyData.eqv, eqvAll_ints]
theorem eqD_int (a b : Int) : eqD (.int a) (.int b) = some (decide (a = b)) := by
  unfold eqD SeqAt.shaped
  by_cases h : a = b <;> simp [toP, PyData.canLay0, PyData.depth, PyData.eqv, h]
theorem eqD_bl (a b : Bool) : eqD (.bl a) (.bl b) = some (a == b) := by
  unfold eqD SeqAt.shaped
  simp [toP, PyData.canLay0, PyData.depth, PyData.eqv]
theorem at0 {α : Type} (a : α) (l : List α) : atI (a :: l) 0 = some a := atI_nat (j := 0) rfl
theorem at1 {α : Type} (a b : α) (l : List α) : atI (a :: b :: l) 1 = some b := atI_nat (j := 1) rfl
theorem at2 {α : Type} (a b c : α) (l : List α) : atI (a :: b :: c :: l) 2 = some c := atI_nat (j := 2) rfl
theorem atI_of {α : Type} {xs : List α} {i : Int} (h0 : 0 ≤ i) (h1 : i < xs.length) : atI xs i = xs[i.toNat]? := by
  obtain ⟨j, rfl⟩ : ∃ j : Nat, i = (j : Int) := ⟨i.toNat, by omega⟩
  have l : j < xs.length := by omega
  rw [atI_nat (List.getElem?_eq_getElem l)]
  simp [List.getElem?_eq_getElem l]
theorem intsO_ints : ∀ xs : List Int, intsO (xs.map .int) = some xs
  | [] => rfl
  | x :: xs => by simp [intsO, intO, intsO_ints xs]
/-! ### comprehensions over embedded lists -/
section
variable {φ : Calls} {i : Nat} {ik : IK} {its : List Ex} {cond : Option Ex} {elt : Ex} {ρ : Env} {ds : List D} {α : Type}
theorem lcGo_emb {e : α → D} {g : α → Option D} (hi : i < ρ.length) : ∀ {xs : List α} {ρ1 : Env}, ρ1.set i none = ρ.set i none → (∀ x ∈ xs, lcStep φ cond elt (ρ.set i (some (e x))) = .ok (g x) (ρ.set i (some (e x)))) →
    ∃ ρ', lcGo [i] (lcF (.n i) (condM φ cond) (ev φ elt)) (xs.map e) ρ1 = .ok (xs.filterMap g) ρ' ∧ ρ'.set i none = ρ.set i none
  | [], ρ1, z, _ => ⟨ρ1, rfl, z⟩
  | x :: xs, ρ1, z, h => by
    have e1 : (wipeE ρ1 [i]) = ρ.set i none := z
    have e2 : lcF (.n i) (condM φ cond) (ev φ elt) (e x) (ρ.set i none) = .ok (g x) (ρ.set i (some (e x))) := lcF_set.trans (h x List.mem_cons_self)
    obtain ⟨ρ', q1, q2⟩ := lcGo_emb (e := e) (g := g) hi (xs := xs) (ρ1 := ρ.set i (some (e x))) (set_set _ _ _ _) fun y hy => h y (List.mem_cons_of_mem _ hy)
    refine ⟨ρ', ?_, q2⟩
    rw [List.map_cons]
    unfold lcGo
    rw [e1]
    simp only [e2, q1]
    cases hg : g x with
    | none => rw [List.filterMap_cons_none hg]
    | some y => rw [List.filterMap_cons_some hg]
theorem ev_lce {e : α → D} {g : α → Option D} {xs : List α} (hi : i < ρ.length) (h1 : evL φ its ρ = .ok ds ρ) (h2 : items ik ds = some (xs.map e)) (h : ∀ x ∈ xs, lcStep φ cond elt (ρ.set i (some (e x))) = .ok (g x) (ρ.set i (some (e x)))) (hn : xs.length ≤ 2 ^ 24) :
    ev φ (.lc [i] (.n i) ik its cond elt) ρ = .ok (.lst (xs.filterMap g)) ρ := by
  obtain ⟨ρ', q1, q2⟩ := lcGo_emb (g := g) hi (xs := xs) (ρ1 := ρ) rfl h
  have z : (xs.filterMap g).length ≤ sizeLine := Nat.le_trans (List.length_filterMap_le _ _) (Nat.le_trans hn size_big)
  rw [ev_lc]
  unfold lcM
  simp only [h1, Out.bind, h2, q1, z, if_true, rest_one hi q2]
/-- each one -/
theorem ev_lcm {e : α → D} {G : α → D} {xs : List α} (hi : i < ρ.length) (h1 : evL φ its ρ = .ok ds ρ) (h2 : items ik ds = some (xs.map e)) (h : ∀ x ∈ xs, lcStep φ cond elt (ρ.set i (some (e x))) = .ok (some (G x)) (ρ.set i (some (e x)))) (hn : xs.length ≤ 2 ^ 24) :
    ev φ (.lc [i] (.n i) ik its cond elt) ρ = .ok (.lst (xs.map G)) ρ := by
  rw [ev_lce (e := e) (g := fun x => some (G x)) hi h1 h2 h hn]
  simp
/-- some of them -/
theorem ev_lcf {e : α → D} {p : α → Bool} {G : α → D} {xs : List α} (hi : i < ρ.length) (h1 : evL φ its ρ = .ok ds ρ) (h2 : items ik ds = some (xs.map e)) (h : ∀ x ∈ xs, lcStep φ cond elt (ρ.set i (some (e x))) = .ok (if p x then some (G x) else none) (ρ.set i (some (e x)))) (hn : xs.length ≤ 2 ^ 24) :
    ev φ (.lc [i] (.n i) ik its cond elt) ρ = .ok (.lst ((xs.filter p).map G)) ρ := by
  rw [ev_lce (e := e) (g := fun x => if p x then some (G x) else none) hi h1 h2 h hn]
  congr 2
  clear h hn h2
  induction xs with
  | nil => rfl
  | cons x xs ih =>
    cases hp : p x with
    | true => rw [List.filterMap_cons_some (b := G x) (by rw [hp]; rfl), List.filter_cons_of_pos hp, List.map_cons, ih]
    | false => rw [List.filterMap_cons_none (by rw [hp]; rfl), List.filter_cons_of_neg (by rw [hp]; decide), ih]
end
/-- range(n) as a list -/
def dI (i : Nat) : D := .int (i : Int)
theorem items_rng1 {n : Nat} (h : n ≤ 2 ^ 24) : items .rng1 [.int (n : Int)] = some ((List.range n).map dI) := by
  have z : rngOk 0 (n : Int) = true := by simp [rngOk]; omega
  show (if rngOk 0 (n : Int) then some (rngD 0 (n : Int).toNat 1) else none) = _
  rw [if_pos z]
  rw [Int.toNat_natCast, rngD_map]
  refine congrArg some (List.map_congr_left fun i _ => ?_)
  show D.int (0 + (i : Int)) = .int (i : Int)
  rw [Int.zero_add]
/-! ### what a law looks at -/
def okD : Nat → D → Bool
  | _, .non => true
  | _, .bl _ => true
  | _, .int _ => true
  | m + 1, .lst xs => xs.all (okD m) && decide (xs.length ≤ 2 ^ 24)
  | m + 1, .tup xs => xs.all (okD m) && decide (xs.length ≤ 2 ^ 24)
  | _, _ => false
theorem ok_ints (m : Nat) {xs : List Int} (h : xs.length ≤ 2 ^ 24) : okD (m + 1) (.lst (xs.map .int)) = true ∧ okD (m + 1) (.tup (xs.map .int)) = true := by
  have a : (xs.map D.int).all (okD m) = true := by
    rw [List.all_eq_true]
    intro x hx
    obtain ⟨p, _, rfl⟩ := List.mem_map.mp hx
    cases m <;> rfl
  simp only [okD, a, List.length_map, Bool.true_and, decide_eq_true_eq]
  exact ⟨h, h⟩
end Bell
/-! ### steps of a block -/
namespace Bell
open PySem L2
def Fl.seq (x : Fl) (f : Env → Fl) : Fl := match x with
  | .next ρ => f ρ
  | r => r
section
variable {C : Catch} {φ : Calls} {ρ ρ' : Env} {e c : Ex} {d : D} {r a b : List Sm} {i : Nat}
theorem seq_next (f : Env → Fl) : Fl.seq (.next ρ) f = f ρ := rfl
theorem seq_ret (f : Env → Fl) : Fl.seq (.ret d ρ) f = .ret d ρ := rfl
theorem seq_brk (f : Env → Fl) : Fl.seq (.brk ρ) f = .brk ρ := rfl
theorem seq_exc (k : Nat) (f : Env → Fl) : Fl.seq (.exc k ρ) f = .exc k ρ := rfl
theorem bl_cons (s : Sm) : exB C φ (s :: r) ρ = Fl.seq (exS C φ s ρ) (exB C φ r) := by
  simp only [exB]
  cases exS C φ s ρ <;> rfl
theorem bl_nil : exB C φ [] ρ = .next ρ := by simp only [exB]
theorem bl_set (h : ev φ e ρ = .ok d ρ') : exB C φ (.set i e :: r) ρ = exB C φ r (ρ'.set i (some d)) := by
  rw [bl_cons]
  simp only [exS, h, Out.fl, Fl.seq]
theorem bl_seto (h : ev φ e ρ = .ok d ρ') : exB C φ (.seto i e :: r) ρ = exB C φ r (ρ'.set i (some d)) := by
  rw [bl_cons]
  simp only [exS, h, Out.fl, Fl.seq]
theorem bl_frz : exB C φ (.frz i :: r) ρ = exB C φ r ρ := by
  rw [bl_cons]
  simp only [exS, Fl.seq]
theorem bl_pass : exB C φ (.pass :: r) ρ = exB C φ r ρ := by
  rw [bl_cons]
  simp only [exS, Fl.seq]
theorem bl_ex (h : ev φ e ρ = .ok d ρ') : exB C φ (.ex e :: r) ρ = exB C φ r ρ' := by
  rw [bl_cons]
  simp only [exS, h, Out.fl, Fl.seq]
theorem bl_ret (h : ev φ e ρ = .ok d ρ') : exB C φ (.ret e :: r) ρ = .ret d ρ' := by
  rw [bl_cons]
  simp only [exS, h, Out.fl, Fl.seq]
theorem bl_retN : exB C φ (.retN :: r) ρ = .ret .non ρ := by
  rw [bl_cons]
  simp only [exS, Fl.seq]
theorem bl_rais (k : Nat) : exB C φ (.rais k :: r) ρ = .exc k ρ := by
  rw [bl_cons]
  simp only [exS, Fl.seq]
theorem bl_brk : exB C φ (.brk :: r) ρ = .brk ρ := by
  rw [bl_cons]
  simp only [exS, Fl.seq]
theorem bl_ift (h : tst (ev φ c ρ) = .ok true ρ') : exB C φ (.ife c a b :: r) ρ = Fl.seq (exB C φ a ρ') (exB C φ r) := by
  rw [bl_cons]
  simp only [exS, h, Out.fl, if_true]
theorem bl_iff (h : tst (ev φ c ρ) = .ok false ρ') : exB C φ (.ife c a b :: r) ρ = Fl.seq (exB C φ b ρ') (exB C φ r) := by
  rw [bl_cons]
  simp only [exS, h, Out.fl, Bool.false_eq_true, if_false]
theorem bl_if (k : Bool) (h : tst (ev φ c ρ) = .ok k ρ') : exB C φ (.ife c a b :: r) ρ = Fl.seq (if k then exB C φ a ρ' else exB C φ b ρ') (exB C φ r) := by
  cases k
  · rw [bl_iff h]; rfl
  · rw [bl_ift h]; rfl
/-- no else -/
theorem bl_if0 (h : tst (ev φ c ρ) = .ok false ρ') : exB C φ (.ife c a [] :: r) ρ = exB C φ r ρ' := by
  rw [bl_iff h, bl_nil]
  rfl
theorem bl_app {xs : List D} (h : ev φ e ρ = .ok d ρ') (h0 : ∃ x, ρ[i]? = some (some x)) (h1 : ρ'[i]? = some (some (.lst xs))) (h2 : xs.length < 2 ^ 24) : exB C φ (.app i e :: r) ρ = exB C φ r (ρ'.set i (some (.lst (xs ++ [d])))) := by
  obtain ⟨x, h0⟩ := h0
  have z : xs.length < sizeLine := Nat.lt_of_lt_of_le h2 size_big
  rw [bl_cons]
  simp only [exS, rd, h0, h, h1, Out.fl, z, if_true, Fl.seq]
theorem bl_fr {tg : Tg} {ik : IK} {its : List Ex} {ds xs : List D} (h : evL φ its ρ = .ok ds ρ') (h1 : items ik ds = some xs) : exB C φ (.fr tg ik its a :: r) ρ = Fl.seq (forGo (fun x ρ => match bindT tg x ρ with
      | none => .stuck
      | some ρ => exB C φ a ρ) xs ρ') (exB C φ r) := by
  rw [bl_cons]
  first | (simp only [exS, h, h1, Out.fl]; done) | (simp only [exS, h, h1, Out.fl]; rfl)
theorem bl_frn {j : Nat} {ik : IK} {its : List Ex} {ds xs : List D} (h : evL φ its ρ = .ok ds ρ') (h1 : items ik ds = some xs) : exB C φ (.fr (.n j) ik its a :: r) ρ = Fl.seq (forGo (fun x ρ => exB C φ a (ρ.set j (some x))) xs ρ') (exB C φ r) := by
  rw [bl_fr h h1]
  rfl
theorem bl_whl : exB C φ (.whl c a :: r) ρ = Fl.seq (whGo (fun ρ => tst (ev φ c ρ)) (exB C φ a) FUEL ρ) (exB C φ r) := by
  rw [bl_cons]
  simp only [exS]
theorem bl_setIx {kx : Ex} {kd o o' : D} {ρ1 : Env} (h : ev φ e ρ = .ok d ρ') (h0 : ∃ x, ρ'[i]? = some (some x)) (h1 : ev φ kx ρ' = .ok kd ρ1) (h2 : ρ1[i]? = some (some o)) (h3 : Bell.setIx o kd d = some o') : exB C φ (.setIx i kx e :: r) ρ = exB C φ r (ρ1.set i (some o')) := by
  obtain ⟨x, h0⟩ := h0
  rw [bl_cons]
  simp only [exS, rd, h, h0, h1, h2, h3, Out.fl, Fl.seq]
theorem bl_new3 {j l : Nat} : exB C φ (.new3 i j l :: r) ρ = exB C φ r (((ρ.set i (some (.lst []))).set j (some (.lst []))).set l (some (.lst []))) := by
  rw [bl_cons]
  simp only [exS, Fl.seq]
theorem tst_d (d : D) {k : Bool} (h : ev φ e ρ = .ok d ρ') (ht : truth d = some k) : tst (ev φ e ρ) = .ok k ρ' := by
  rw [h]
  unfold tst Out.bind
  simp only [ht]
end
end Bell
set_option Elab.async false
set_option linter.all false
set_option maxRecDepth 100000
set_option autoImplicit false
/-! Rules to reckon by, each at a constructor. -/
namespace Bell
open PySem L2
section
variable {α β : Type} {φ : Calls} {ρ ρ' : Env} {d x y z : D} {i j : Int} {xs ys : List D} {b : Bool}
@[simp] theorem bind_ok (a : α) (f : α → Env → Out β) : (Out.ok a ρ).bind f = f a ρ := nd rfl
@[simp] theorem bind_exc (c : Nat) (f : α → Env → Out β) : (Out.exc c ρ : Out α).bind f = .exc c ρ := nd rfl
def rdO (o : Option (Option D)) (ρ : Env) : Out D := match o with
  | some (some d) => .ok d ρ
  | _ => .stuck
@[simp] theorem x_rd (i : Nat) : rd i ρ = rdO ρ[i]? ρ := nd rfl
@[simp] theorem x_rdO : rdO (some (some d)) ρ = .ok d ρ := nd rfl
@[simp] theorem x_fin : fin (some d) ρ = .ok d ρ := nd rfl
def trO (o : Option Bool) (ρ : Env) : Out Bool := match o with
  | some b => .ok b ρ
  | none => .stuck
@[simp] theorem x_tst : tst (.ok d ρ) = trO (truth d) ρ := by
  show (match truth d with
    | some b => Out.ok b ρ
    | none => .stuck) = trO (truth d) ρ
  cases truth d <;> rfl
@[simp] theorem x_tstx (c : Nat) : tst (.exc c ρ) = .exc c ρ := nd rfl
@[simp] theorem x_trO : trO (some b) ρ = .ok b ρ := nd rfl
@[simp] theorem tr_non : truth .non = some false := nd rfl
@[simp] theorem tr_bl : truth (.bl b) = some b := nd rfl
@[simp] theorem tr_int : truth (.int i) = some (i != 0) := nd rfl
@[simp] theorem tr_lst : truth (.lst xs) = some (!xs.isEmpty) := nd rfl
@[simp] theorem tr_tup : truth (.tup xs) = some (!xs.isEmpty) := nd rfl
def andO (o : Option Bool) (t f : Out D) : Out D := match o with
  | some true => t
  | some false => f
  | none => .stuck
@[simp] theorem and_t (t f : Out D) : andO (some true) t f = t := nd rfl
@[simp] theorem and_f (t f : Out D) : andO (some false) t f = f := nd rfl
@[simp] theorem x_and (a c : Ex) : ev φ (.and a c) ρ = (ev φ a ρ).bind fun x ρ => andO (truth x) (ev φ c ρ) (.ok x ρ) := by
  rw [ev_and]
  cases ev φ a ρ with
  | ok x ρ1 => cases h : truth x with
    | none => simp only [Out.bind, h, andO]
    | some k => cases k <;> simp only [Out.bind, h, andO]
  | exc _ _ => rfl
  | stuck => rfl
@[simp] theorem x_or (a c : Ex) : ev φ (.or a c) ρ = (ev φ a ρ).bind fun x ρ => andO (truth x) (.ok x ρ) (ev φ c ρ) := by
  rw [ev_or]
  cases ev φ a ρ with
  | ok x ρ1 => cases h : truth x with
    | none => simp only [Out.bind, h, andO]
    | some k => cases k <;> simp only [Out.bind, h, andO]
  | exc _ _ => rfl
  | stuck => rfl
def notO (o : Option Bool) (ρ : Env) : Out D := match o with
  | some k => .ok (.bl (!k)) ρ
  | none => .stuck
@[simp] theorem x_notO : notO (some b) ρ = .ok (.bl (!b)) ρ := nd rfl
@[simp] theorem x_not (a : Ex) : ev φ (.not a) ρ = (ev φ a ρ).bind fun x ρ => notO (truth x) ρ := by
  rw [ev_not]
  cases ev φ a ρ with
  | ok x ρ1 => cases h : truth x <;> simp only [Out.bind, h, notO]
  | exc _ _ => rfl
  | stuck => rfl
def chnO (o : Option D) (t : Out D) (ρ : Env) : Out D := match o with
  | some (.bl true) => t
  | some (.bl false) => .ok (.bl false) ρ
  | _ => .stuck
@[simp] theorem chn_t (t : Out D) : chnO (some (.bl true)) t ρ = t := nd rfl
@[simp] theorem chn_f (t : Out D) : chnO (some (.bl false)) t ρ = .ok (.bl false) ρ := nd rfl
theorem chn_b (t : Out D) : chnO (some (.bl b)) t ρ = if b then t else .ok (.bl false) ρ := by cases b <;> rfl
@[simp] theorem x_chn (o p : O2) (a e c : Ex) : ev φ (.chn o p a e c) ρ = (ev φ a ρ).bind fun x ρ => (ev φ e ρ).bind fun y ρ => chnO (sem2 o x y) ((ev φ c ρ).bind fun z ρ => fin (sem2 p y z) ρ) ρ := by
  rw [ev_chn]
  cases ev φ a ρ with
  | ok x ρ1 =>
    simp only [Out.bind]
    cases ev φ e ρ1 with
    | ok y ρ2 =>
      simp only [Out.bind]
      cases sem2 o x y with
      | none => rfl
      | some d => cases d with
        | bl b => cases b <;> rfl
        | _ => rfl
    | exc _ _ => rfl
    | stuck => rfl
  | exc _ _ => rfl
  | stuck => rfl
def smO (s : D → D → Option D) (y : D) (t : Out D) : Out D := match y with
  | .int _ => t
  | _ => .stuck
/-! calls -/
def calO (φ : Calls) (f : Nat) (ovs : List Ov) (ρ : Env) (o : Option (List D)) : Out D := match o with
  | some ds => finCall ovs ρ (φ f ds)
  | none => .stuck
@[simp] theorem x_call (f : Nat) (es : List Ex) : ev φ (.call f es) ρ = (evA φ es ρ).bind fun ovs ρ => calO φ f ovs ρ (ovDs ρ ovs) := by
  rw [ev_call]
  cases evA φ es ρ <;> rfl
@[simp] theorem x_calO (f : Nat) (ovs : List Ov) (ds : List D) : calO φ f ovs ρ (some ds) = finCall ovs ρ (φ f ds) := nd rfl
@[simp] theorem ov_nil : ovDs ρ [] = some [] := nd rfl
@[simp] theorem ov_d (r : List Ov) : ovDs ρ (.d d :: r) = (ovDs ρ r).map (d :: ·) := by
  show (match some d, ovDs ρ r with | some d, some ds => some (d :: ds) | _, _ => none) = _
  cases ovDs ρ r <;> rfl
def ovO (o : Option (Option D)) (r : Option (List D)) : Option (List D) := match o with
  | some (some d) => r.map (d :: ·)
  | _ => none
@[simp] theorem x_ovO (r : Option (List D)) : ovO (some (some d)) r = r.map (d :: ·) := nd rfl
@[simp] theorem ov_s (i : Nat) (c : Bool) (r : List Ov) : ovDs ρ (.s i c :: r) = ovO ρ[i]? (ovDs ρ r) := by
  show (match (match ρ[i]? with | some (some d) => some d | _ => none), ovDs ρ r with | some d, some ds => some (d :: ds) | _, _ => none) = _
  cases h : ρ[i]? with
  | none => rfl
  | some o => cases o with
    | none => rfl
    | some d => cases ovDs ρ r <;> rfl
/-- a call's end, nothing borrowed -/
@[simp] theorem fc_ret {ovs : List Ov} {outs : List D} (h : ovs.any isBor = false) : finCall ovs ρ (.ret d outs) = .ok d (putOuts ρ ovs outs) := by
  unfold finCall
  simp only [h, Bool.false_and, Bool.false_eq_true, if_false]
@[simp] theorem fc_exc {ovs : List Ov} {outs : List D} {c : Nat} (h : ovs.any isBor = false) : finCall ovs ρ (.exc c outs) = .exc c (putOuts ρ ovs outs) := by
  unfold finCall
  simp only [h, Bool.false_and, Bool.false_eq_true, if_false]
/-- .. something borrowed, nothing changed -/
@[simp] theorem fc_retb {ovs : List Ov} {outs : List D} (h : ovs.any isIo = false) (hf : flat d = true) : finCall ovs ρ (.ret d outs) = .ok d (putOuts ρ ovs outs) := by
  unfold finCall
  simp only [h, hf, Bool.and_false, Bool.not_true, Bool.false_eq_true, if_false]
@[simp] theorem po_nil (os : List D) : putOuts ρ [] os = ρ := by unfold putOuts; rfl
@[simp] theorem po_d (r : List Ov) (os : List D) : putOuts ρ (.d d :: r) os = putOuts ρ r os := by conv => lhs; unfold putOuts
@[simp] theorem po_b (i : Nat) (r : List Ov) (os : List D) : putOuts ρ (.s i false :: r) os = putOuts ρ r os := by conv => lhs; unfold putOuts
@[simp] theorem po_io (i : Nat) (r : List Ov) (os : List D) : putOuts ρ (.s i true :: r) (d :: os) = putOuts (ρ.set i (some d)) r os := by conv => lhs; unfold putOuts
/-! lists of expressions -/
@[simp] theorem l_nil : evL φ [] ρ = .ok [] ρ := by simp only [evL]
@[simp] theorem l_cons (e : Ex) (es : List Ex) : evL φ (e :: es) ρ = (ev φ e ρ).bind fun d ρ => (evL φ es ρ).bind fun ds ρ => .ok (d :: ds) ρ := by simp only [evL]
@[simp] theorem a_nil : evA φ [] ρ = .ok [] ρ := by simp only [evA]
@[simp] theorem a_b (i : Nat) (es : List Ex) : evA φ (.b i :: es) ρ = (rd i ρ).bind fun _ ρ => (evA φ es ρ).bind fun r ρ => .ok (.s i false :: r) ρ := by simp only [evA]
@[simp] theorem a_io (i : Nat) (es : List Ex) : evA φ (.io i :: es) ρ = (rd i ρ).bind fun _ ρ => (evA φ es ρ).bind fun r ρ => .ok (.s i true :: r) ρ := by simp only [evA]
/-! operations -/
@[simp] theorem s1_len_lst : sem1 .len (.lst xs) = some (.int xs.length) := nd rfl
@[simp] theorem s1_len_tup : sem1 .len (.tup xs) = some (.int xs.length) := nd rfl
@[simp] theorem s1_len_scr (ns : List Int) : sem1 .len (.scr ns) = some (.int ns.length) := nd rfl
@[simp] theorem s1_list_lst : sem1 .list (.lst xs) = some (.lst xs) := nd rfl
@[simp] theorem s1_list_tup : sem1 .list (.tup xs) = some (.lst xs) := nd rfl
@[simp] theorem s1_tuple_lst : sem1 .tuple (.lst xs) = some (.tup xs) := nd rfl
@[simp] theorem s1_tuple_tup : sem1 .tuple (.tup xs) = some (.tup xs) := nd rfl
@[simp] theorem s1_neg : sem1 .neg (.int i) = some (.int (-i)) := nd rfl
@[simp] theorem s1_rev : sem1 .rev (.lst xs) = some (.lst xs.reverse) := nd rfl
@[simp] theorem s1_sortI (ns : List Int) : sem1 .sortI (.lst (ns.map .int)) = some (.lst ((sortL ns).map .int)) := by
  show (intsO (ns.map .int)).map _ = _
  rw [intsO_ints]
  rfl
@[simp] theorem s1_isN_non : sem1 .isN .non = some (.bl true) := nd rfl
@[simp] theorem s1_isN_bl : sem1 .isN (.bl b) = some (.bl false) := nd rfl
@[simp] theorem s1_isN_int : sem1 .isN (.int i) = some (.bl false) := nd rfl
@[simp] theorem s1_isN_str (s : Str) : sem1 .isN (.str s) = some (.bl false) := nd rfl
@[simp] theorem s1_isN_lst : sem1 .isN (.lst xs) = some (.bl false) := nd rfl
@[simp] theorem s1_isN_tup : sem1 .isN (.tup xs) = some (.bl false) := nd rfl
@[simp] theorem s1_notN_non : sem1 .notN .non = some (.bl false) := nd rfl
@[simp] theorem s1_notN_bl : sem1 .notN (.bl b) = some (.bl true) := nd rfl
@[simp] theorem s1_notN_int : sem1 .notN (.int i) = some (.bl true) := nd rfl
@[simp] theorem s1_notN_str (s : Str) : sem1 .notN (.str s) = some (.bl true) := nd rfl
@[simp] theorem s1_notN_lst : sem1 .notN (.lst xs) = some (.bl true) := nd rfl
@[simp] theorem s1_notN_tup : sem1 .notN (.tup xs) = some (.bl true) := nd rfl
@[simp] theorem s1_isI_non (t : TyK) : sem1 (.isI t) .non = some (.bl (isTy t .non)) := nd rfl
@[simp] theorem s1_isI_bl (t : TyK) : sem1 (.isI t) (.bl b) = some (.bl (isTy t (.bl b))) := nd rfl
@[simp] theorem s1_isI_int (t : TyK) : sem1 (.isI t) (.int i) = some (.bl (isTy t (.int i))) := nd rfl
@[simp] theorem s1_isI_str (t : TyK) (s : Str) : sem1 (.isI t) (.str s) = some (.bl (isTy t (.str s))) := nd rfl
@[simp] theorem s1_isI_lst (t : TyK) : sem1 (.isI t) (.lst xs) = some (.bl (isTy t (.lst xs))) := nd rfl
@[simp] theorem s1_isI_tup (t : TyK) : sem1 (.isI t) (.tup xs) = some (.bl (isTy t (.tup xs))) := nd rfl
@[simp] theorem s2_add : sem2 .add (.int i) (.int j) = some (.int (i + j)) := nd rfl
@[simp] theorem s2_sub : sem2 .sub (.int i) (.int j) = some (.int (i - j)) := nd rfl
@[simp] theorem s2_addl (h : xs.length + ys.length ≤ 2 ^ 24) : sem2 .add (.lst xs) (.lst ys) = some (.lst (xs ++ ys)) := if_pos (Nat.le_trans h size_big)
@[simp] theorem s2_addt (h : xs.length + ys.length ≤ 2 ^ 24) : sem2 .add (.tup xs) (.tup ys) = some (.tup (xs ++ ys)) := if_pos (Nat.le_trans h size_big)
@[simp] theorem s2_catL (h : xs.length + ys.length ≤ 2 ^ 24) : sem2 .catL (.lst xs) (.lst ys) = some (.lst (xs ++ ys)) := if_pos (Nat.le_trans h size_big)
@[simp] theorem s2_mul (h : -(2 ^ 64) < j ∧ j < 2 ^ 64) : sem2 .mul (.int i) (.int j) = some (.int (i * j)) := if_pos (.inr h)
@[simp] theorem s2_mul' (h : -(2 ^ 64) < i ∧ i < 2 ^ 64) : sem2 .mul (.int i) (.int j) = some (.int (i * j)) := if_pos (.inl h)
@[simp] theorem s2_mull {k : Nat} (h : xs.length * k ≤ 2 ^ 24) (hk : k ≤ 2 ^ 24) : sem2 .mul (.lst xs) (.int (k : Int)) = some (.lst (List.replicate k xs).flatten) := by
  have z : -(2 ^ 63) ≤ (k : Int) ∧ (k : Int) < 2 ^ 63 ∧ xs.length * (k : Int).toNat ≤ sizeLine := by
    refine ⟨by omega, by omega, ?_⟩
    rw [Int.toNat_natCast]
    exact Nat.le_trans h size_big
  have e : sem2 .mul (.lst xs) (.int (k : Int)) = if -(2 ^ 63) ≤ (k : Int) ∧ (k : Int) < 2 ^ 63 ∧ xs.length * (k : Int).toNat ≤ sizeLine then some (.lst (List.replicate (k : Int).toNat xs).flatten) else none := rfl
  rw [e, if_pos z, Int.toNat_natCast]
@[simp] theorem s2_fdiv (h : 0 < j ∧ j < 1073741824) : sem2 .fdiv (.int i) (.int j) = some (.int (i / j)) := if_pos h
@[simp] theorem s2_mod (h : 0 < j) : sem2 .mod (.int i) (.int j) = some (.int (i % j)) := if_pos h
@[simp] theorem s2_eq : sem2 .eq x y = (eqD x y).map .bl := by cases x <;> cases y <;> rfl
@[simp] theorem s2_ne : sem2 .ne x y = (eqD x y).map fun b => .bl (!b) := by cases x <;> cases y <;> rfl
@[simp] theorem s2_lt : sem2 .lt (.int i) (.int j) = some (.bl (decide (i < j))) := nd rfl
@[simp] theorem s2_le : sem2 .le (.int i) (.int j) = some (.bl (decide (i ≤ j))) := nd rfl
@[simp] theorem s2_gt : sem2 .gt (.int i) (.int j) = some (.bl (decide (j < i))) := nd rfl
@[simp] theorem s2_ge : sem2 .ge (.int i) (.int j) = some (.bl (decide (j ≤ i))) := nd rfl
@[simp] theorem s2_idxl : sem2 .idx (.lst xs) (.int i) = atI xs i := nd rfl
@[simp] theorem s2_idxt : sem2 .idx (.tup xs) (.int i) = atI xs i := nd rfl
@[simp] theorem s2_frm : sem2 .frm (.lst xs) (.int i) = some (.lst (cutD xs (some i) none)) := nd rfl
@[simp] theorem s2_upto : sem2 .upto (.lst xs) (.int i) = some (.lst (cutD xs none (some i))) := nd rfl
@[simp] theorem s3_slice : sem3 .slice (.lst xs) (.int i) (.int j) = some (.lst (cutD xs (some i) (some j))) := nd rfl
@[simp] theorem p_18 : sem2 .pow (.int 10) (.int 18) = some (.int 1000000000000000000) := by
  have e : sem2 .pow (.int 10) (.int 18) = if 0 ≤ (18 : Int) ∧ (18 : Int) ≤ 1000000 ∧ (10 : Int).natAbs < 2 ^ 64 then some (.int (10 ^ (18 : Int).toNat)) else none := rfl
  have f : (10 : Int) ^ (18 : Int).toNat = 1000000000000000000 := by decide +kernel
  rw [e, if_pos (by decide), f]
theorem x_tupD (es : List Ex) : ev φ (.tupD es) ρ = (evL φ es ρ).bind fun ds ρ => if ds.length ≤ sizeLine then .ok (.tup ds) ρ else .stuck := ev_tupD es
def szT (ds : List D) (ρ : Env) : Out D := if ds.length ≤ sizeLine then .ok (.tup ds) ρ else .stuck
def szL (ds : List D) (ρ : Env) : Out D := if ds.length ≤ sizeLine then .ok (.lst ds) ρ else .stuck
@[simp] theorem x_tupZ (es : List Ex) : ev φ (.tupD es) ρ = (evL φ es ρ).bind szT := ev_tupD es
@[simp] theorem x_lstZ (es : List Ex) : ev φ (.lstD es) ρ = (evL φ es ρ).bind szL := ev_lstD es
@[simp] theorem bind_szT (ds : List D) : (Out.ok ds ρ).bind szT = szT ds ρ := nd rfl
@[simp] theorem bind_szL (ds : List D) : (Out.ok ds ρ).bind szL = szL ds ρ := nd rfl
@[simp] theorem szT_ok {ds : List D} (h : ds.length ≤ 2 ^ 24) : szT ds ρ = .ok (.tup ds) ρ := if_pos (Nat.le_trans h size_big)
@[simp] theorem szL_ok {ds : List D} (h : ds.length ≤ 2 ^ 24) : szL ds ρ = .ok (.lst ds) ρ := if_pos (Nat.le_trans h size_big)
end
end Bell
namespace Bell
section
variable {φ : Calls} {ρ : Env}
theorem a_c (d : D) (r0 : List Ex) : evA φ (.c d :: r0) ρ = (ev φ (.c d) ρ).bind fun d ρ => (evA φ r0 ρ).bind fun r ρ => .ok (.d d :: r) ρ := by simp only [evA]
theorem a_g (x : PySem.Str) (d : D) (r0 : List Ex) : evA φ (.g x d :: r0) ρ = (ev φ (.g x d) ρ).bind fun d ρ => (evA φ r0 ρ).bind fun r ρ => .ok (.d d :: r) ρ := by simp only [evA]
theorem a_v (i : Nat) (r0 : List Ex) : evA φ (.v i :: r0) ρ = (ev φ (.v i) ρ).bind fun d ρ => (evA φ r0 ρ).bind fun r ρ => .ok (.d d :: r) ρ := by simp only [evA]
theorem a_op1 (o1 : O1) (x : Ex) (r0 : List Ex) : evA φ (.op1 o1 x :: r0) ρ = (ev φ (.op1 o1 x) ρ).bind fun d ρ => (evA φ r0 ρ).bind fun r ρ => .ok (.d d :: r) ρ := by simp only [evA]
theorem a_op2 (o1 : O2) (x y : Ex) (r0 : List Ex) : evA φ (.op2 o1 x y :: r0) ρ = (ev φ (.op2 o1 x y) ρ).bind fun d ρ => (evA φ r0 ρ).bind fun r ρ => .ok (.d d :: r) ρ := by simp only [evA]
theorem a_op3 (o1 : O3) (x y z : Ex) (r0 : List Ex) : evA φ (.op3 o1 x y z :: r0) ρ = (ev φ (.op3 o1 x y z) ρ).bind fun d ρ => (evA φ r0 ρ).bind fun r ρ => .ok (.d d :: r) ρ := by simp only [evA]
theorem a_chn (o1 p1 : O2) (x y z : Ex) (r0 : List Ex) : evA φ (.chn o1 p1 x y z :: r0) ρ = (ev φ (.chn o1 p1 x y z) ρ).bind fun d ρ => (evA φ r0 ρ).bind fun r ρ => .ok (.d d :: r) ρ := by simp only [evA]
theorem a_and (x y : Ex) (r0 : List Ex) : evA φ (.and x y :: r0) ρ = (ev φ (.and x y) ρ).bind fun d ρ => (evA φ r0 ρ).bind fun r ρ => .ok (.d d :: r) ρ := by simp only [evA]
theorem a_or (x y : Ex) (r0 : List Ex) : evA φ (.or x y :: r0) ρ = (ev φ (.or x y) ρ).bind fun d ρ => (evA φ r0 ρ).bind fun r ρ => .ok (.d d :: r) ρ := by simp only [evA]
theorem a_not (x : Ex) (r0 : List Ex) : evA φ (.not x :: r0) ρ = (ev φ (.not x) ρ).bind fun d ρ => (evA φ r0 ρ).bind fun r ρ => .ok (.d d :: r) ρ := by simp only [evA]
theorem a_ife (x y z : Ex) (r0 : List Ex) : evA φ (.ife x y z :: r0) ρ = (ev φ (.ife x y z) ρ).bind fun d ρ => (evA φ r0 ρ).bind fun r ρ => .ok (.d d :: r) ρ := by simp only [evA]
theorem a_tupD (es : List Ex) (r0 : List Ex) : evA φ (.tupD es :: r0) ρ = (ev φ (.tupD es) ρ).bind fun d ρ => (evA φ r0 ρ).bind fun r ρ => .ok (.d d :: r) ρ := by simp only [evA]
theorem a_lstD (es : List Ex) (r0 : List Ex) : evA φ (.lstD es :: r0) ρ = (ev φ (.lstD es) ρ).bind fun d ρ => (evA φ r0 ρ).bind fun r ρ => .ok (.d d :: r) ρ := by simp only [evA]
theorem a_dicE (t : Bool) (r0 : List Ex) : evA φ (.dicE t :: r0) ρ = (ev φ (.dicE t) ρ).bind fun d ρ => (evA φ r0 ρ).bind fun r ρ => .ok (.d d :: r) ρ := by simp only [evA]
theorem a_call (f : Nat) (es : List Ex) (r0 : List Ex) : evA φ (.call f es :: r0) ρ = (ev φ (.call f es) ρ).bind fun d ρ => (evA φ r0 ρ).bind fun r ρ => .ok (.d d :: r) ρ := by simp only [evA]
theorem a_lc (own : List Nat) (tg : Tg) (ik : IK) (its : List Ex) (cond : Option Ex) (x : Ex) (r0 : List Ex) : evA φ (.lc own tg ik its cond x :: r0) ρ = (ev φ (.lc own tg ik its cond x) ρ).bind fun d ρ => (evA φ r0 ρ).bind fun r ρ => .ok (.d d :: r) ρ := by simp only [evA]
theorem a_pop (i : Nat) (r0 : List Ex) : evA φ (.pop i :: r0) ρ = (ev φ (.pop i) ρ).bind fun d ρ => (evA φ r0 ρ).bind fun r ρ => .ok (.d d :: r) ρ := by simp only [evA]
end
end Bell
set_option Elab.async false
set_option linter.all false
set_option maxRecDepth 100000
set_option autoImplicit false
/-! A text is reckoned by its own rules, step by step. -/
namespace Bell
open PySem L2
section
variable {φ : Calls} {C : Catch} {ρ ρ' : Env} {d e x y : D} {r a b : List Sm} {i j : Nat}
/-! operands -/
@[simp] theorem nb_c : notB' (.c d) = true := nd rfl
@[simp] theorem nb_g (s : Str) : notB' (.g s d) = true := nd rfl
@[simp] theorem nb_v : notB' (.v i) = true := nd rfl
@[simp] theorem nb_op1 (o : O1) (x : Ex) : notB' (.op1 o x) = true := nd rfl
@[simp] theorem nb_op2 (o : O2) (x y : Ex) : notB' (.op2 o x y) = true := nd rfl
@[simp] theorem nb_op3 (o : O3) (x y z : Ex) : notB' (.op3 o x y z) = true := nd rfl
@[simp] theorem nb_chn (o p : O2) (x y z : Ex) : notB' (.chn o p x y z) = true := nd rfl
@[simp] theorem nb_and (x y : Ex) : notB' (.and x y) = true := nd rfl
@[simp] theorem nb_or (x y : Ex) : notB' (.or x y) = true := nd rfl
@[simp] theorem nb_not (x : Ex) : notB' (.not x) = true := nd rfl
@[simp] theorem nb_ife (x y z : Ex) : notB' (.ife x y z) = true := nd rfl
@[simp] theorem nb_tupD (es : List Ex) : notB' (.tupD es) = true := nd rfl
@[simp] theorem nb_lstD (es : List Ex) : notB' (.lstD es) = true := nd rfl
@[simp] theorem nb_dicE (t : Bool) : notB' (.dicE t) = true := nd rfl
@[simp] theorem nb_call (f : Nat) (es : List Ex) : notB' (.call f es) = true := nd rfl
@[simp] theorem nb_lc (o : List Nat) (t : Tg) (k : IK) (is : List Ex) (c : Option Ex) (x : Ex) : notB' (.lc o t k is c x) = true := nd rfl
@[simp] theorem nb_pop : notB' (.pop i) = true := nd rfl
@[simp] theorem nb_mth (m : Mt) (x : Ex) (es : List Ex) : notB' (.mth m x es) = true := nd rfl
/-- an argument handed in plainly -/
def notA : Ex → Bool
  | .b _ => false
  | .io _ => false
  | _ => true
@[simp] theorem na_c : notA (.c d) = true := nd rfl
@[simp] theorem na_g (s : Str) : notA (.g s d) = true := nd rfl
@[simp] theorem na_v : notA (.v i) = true := nd rfl
@[simp] theorem na_op1 (o : O1) (x : Ex) : notA (.op1 o x) = true := nd rfl
@[simp] theorem na_op2 (o : O2) (x y : Ex) : notA (.op2 o x y) = true := nd rfl
@[simp] theorem na_op3 (o : O3) (x y z : Ex) : notA (.op3 o x y z) = true := nd rfl
@[simp] theorem na_chn (o p : O2) (x y z : Ex) : notA (.chn o p x y z) = true := nd rfl
@[simp] theorem na_and (x y : Ex) : notA (.and x y) = true := nd rfl
@[simp] theorem na_or (x y : Ex) : notA (.or x y) = true := nd rfl
@[simp] theorem na_not (x : Ex) : notA (.not x) = true := nd rfl
@[simp] theorem na_ife (x y z : Ex) : notA (.ife x y z) = true := nd rfl
@[simp] theorem na_tupD (es : List Ex) : notA (.tupD es) = true := nd rfl
@[simp] theorem na_lstD (es : List Ex) : notA (.lstD es) = true := nd rfl
@[simp] theorem na_dicE (t : Bool) : notA (.dicE t) = true := nd rfl
@[simp] theorem na_call (f : Nat) (es : List Ex) : notA (.call f es) = true := nd rfl
@[simp] theorem na_lc (o : List Nat) (t : Tg) (k : IK) (is : List Ex) (c : Option Ex) (x : Ex) : notA (.lc o t k is c x) = true := nd rfl
@[simp] theorem na_pop : notA (.pop i) = true := nd rfl
@[simp] theorem na_mth (m : Mt) (x : Ex) (es : List Ex) : notA (.mth m x es) = true := nd rfl
@[simp] theorem y_op2 (o : O2) (a b : Ex) (h : notB' a = true) : ev φ (.op2 o a b) ρ = (ev φ a ρ).bind fun x ρ => (ev φ b ρ).bind fun y ρ => fin (sem2 o x y) ρ := ev_op2 o a b h
@[simp] theorem y_op3 (o : O3) (a b c : Ex) (h : notB' a = true) : ev φ (.op3 o a b c) ρ = (ev φ a ρ).bind fun x ρ => (ev φ b ρ).bind fun y ρ => match y with
    | .int y => (ev φ c ρ).bind fun z ρ => fin (sem3 o x (.int y) z) ρ
    | _ => .stuck := ev_op3 o a b c h
@[simp] theorem y_a (e : Ex) (es : List Ex) (h : notA e = true) : evA φ (e :: es) ρ = (ev φ e ρ).bind fun d ρ => (evA φ es ρ).bind fun r ρ => .ok (.d d :: r) ρ := by
  cases e <;> first | (simp only [evA]; done) | (cases h; done)
def mtO (m : Mt) (k : Bool) (x : Out D) : Out D := if k = true then x else .stuck
@[simp] theorem y_mtO (m : Mt) (x : Out D) : mtO m true x = x := nd rfl
@[simp] theorem y_mthb (m : Mt) (i : Nat) (es : List Ex) : ev φ (.mth m (.b i) es) ρ = (rd i ρ).bind fun x ρ => mtO m (kindM m x) ((evL φ es ρ).bind fun ds ρ => (rd i ρ).bind fun x ρ => fin (semM m x ds) ρ) := by
  simp only [ev]
  rfl
@[simp] theorem y_mth (m : Mt) (o : Ex) (es : List Ex) (h : notB' o = true) : ev φ (.mth m o es) ρ = (ev φ o ρ).bind fun x ρ => mtO m (kindM m x) ((evL φ es ρ).bind fun ds ρ => fin (semM m x ds) ρ) := by
  cases o <;> first | (simp only [ev]; rfl) | (cases h; done)
@[simp] theorem km_index (xs : List D) : kindM .index (.lst xs) = true := nd rfl
@[simp] theorem km_get1 (t : Bool) (es : List (D × D)) : kindM .get1 (.dic t es) = true := nd rfl
@[simp] theorem km_get2 (t : Bool) (es : List (D × D)) : kindM .get2 (.dic t es) = true := nd rfl
def absI (i : Int) : Int := if i < 0 then -i else i
@[simp] theorem s1_abs {i : Int} : sem1 .abs (.int i) = some (.int (absI i)) := nd rfl
@[simp] theorem s2_max2 {i j : Int} : sem2 .max2 (.int i) (.int j) = some (.int (if j > i then j else i)) := nd rfl
@[simp] theorem s2_min2 {i j : Int} : sem2 .min2 (.int i) (.int j) = some (.int (if j < i then j else i)) := nd rfl
@[simp] theorem s1_lend {t : Bool} {es : List (D × D)} : sem1 .len (.dic t es) = some (.int es.length) := nd rfl
@[simp] theorem s1_isI_dic {t : TyK} : sem1 (.isI t) (.dic true []) = none := nd rfl
theorem s1_minL {n : Int} {r : List Int} : sem1 .minL (.lst ((n :: r).map .int)) = some (.int (r.foldl min n)) := by
  show (match intsO ((n :: r).map .int) with
    | some (n :: r) => some (D.int (r.foldl min n))
    | _ => none) = _
  rw [intsO_ints]
theorem s1_maxL {n : Int} {r : List Int} : sem1 .maxL (.lst ((n :: r).map .int)) = some (.int (r.foldl max n)) := by
  show (match intsO ((n :: r).map .int) with
    | some (n :: r) => some (D.int (r.foldl max n))
    | _ => none) = _
  rw [intsO_ints]
@[simp] theorem it_non (t : TyK) : isTy t .non = false := by cases t <;> rfl
@[simp] theorem it_bl (t : TyK) (b : Bool) : isTy t (.bl b) = decide (t = .int ∨ t = .bool) := by cases t <;> rfl
@[simp] theorem it_int (t : TyK) (i : Int) : isTy t (.int i) = decide (t = .int) := by cases t <;> rfl
@[simp] theorem it_str (t : TyK) (s : Str) : isTy t (.str s) = decide (t = .str) := by cases t <;> rfl
@[simp] theorem it_lst (t : TyK) (xs : List D) : isTy t (.lst xs) = decide (t = .list) := by cases t <;> rfl
@[simp] theorem it_tup (t : TyK) (xs : List D) : isTy t (.tup xs) = decide (t = .tuple) := by cases t <;> rfl
@[simp] theorem ib_d : isBor (.d d) = false := nd rfl
@[simp] theorem ib_s (k : Bool) : isBor (.s i k) = !k := by cases k <;> rfl
@[simp] theorem io_d : isIo (.d d) = false := nd rfl
@[simp] theorem io_s (k : Bool) : isIo (.s i k) = k := by cases k <;> rfl
/-! statements -/
@[simp] theorem fl_ok {α : Type} (v : α) (f : α → Env → Fl) : (Out.ok v ρ).fl f = f v ρ := nd rfl
@[simp] theorem fl_exc {α : Type} (c : Nat) (f : α → Env → Fl) : (Out.exc c ρ : Out α).fl f = .exc c ρ := nd rfl
@[simp] theorem z_nil : exB C φ [] ρ = .next ρ := bl_nil
@[simp] theorem z_cons (s : Sm) : exB C φ (s :: r) ρ = Fl.seq (exS C φ s ρ) (exB C φ r) := bl_cons s
@[simp] theorem z_next (f : Env → Fl) : Fl.seq (.next ρ) f = f ρ := nd rfl
@[simp] theorem z_seqr (f : Env → Fl) : Fl.seq (.ret d ρ) f = .ret d ρ := nd rfl
@[simp] theorem z_seqb (f : Env → Fl) : Fl.seq (.brk ρ) f = .brk ρ := nd rfl
@[simp] theorem z_seqx (k : Nat) (f : Env → Fl) : Fl.seq (.exc k ρ) f = .exc k ρ := nd rfl
@[simp] theorem z_set (e : Ex) : exS C φ (.set i e) ρ = (ev φ e ρ).fl fun d ρ => .next (ρ.set i (some d)) := by simp only [exS]
@[simp] theorem z_seto (e : Ex) : exS C φ (.seto i e) ρ = (ev φ e ρ).fl fun d ρ => .next (ρ.set i (some d)) := by simp only [exS]
@[simp] theorem z_frz : exS C φ (.frz i) ρ = .next ρ := by simp only [exS]
@[simp] theorem z_pass : exS C φ .pass ρ = .next ρ := by simp only [exS]
@[simp] theorem z_ex (e : Ex) : exS C φ (.ex e) ρ = (ev φ e ρ).fl fun _ ρ => .next ρ := by simp only [exS]
@[simp] theorem z_ret (e : Ex) : exS C φ (.ret e) ρ = (ev φ e ρ).fl fun d ρ => .ret d ρ := by simp only [exS]
@[simp] theorem z_retN : exS C φ .retN ρ = .ret .non ρ := by simp only [exS]
@[simp] theorem z_rais (k : Nat) : exS C φ (.rais k) ρ = .exc k ρ := by simp only [exS]
@[simp] theorem z_brk : exS C φ .brk ρ = .brk ρ := by simp only [exS]
@[simp] theorem z_ife (c : Ex) : exS C φ (.ife c a b) ρ = (tst (ev φ c ρ)).fl fun k ρ => if k = true then exB C φ a ρ else exB C φ b ρ := by simp only [exS]
/-- a store -/
def stO (i : Nat) (o : Option D) (ρ : Env) (f : Env → Fl) : Fl := match o with
  | some o => f (ρ.set i (some o))
  | none => .stuck
@[simp] theorem y_stO (f : Env → Fl) : stO i (some d) ρ f = f (ρ.set i (some d)) := nd rfl
def appO (i : Nat) (o d : D) (ρ : Env) : Fl := match o with
  | .lst xs => if xs.length < sizeLine then .next (ρ.set i (some (.lst (xs ++ [d])))) else .stuck
  | _ => .stuck
theorem y_app {xs : List D} (h : xs.length < 2 ^ 24) : appO i (.lst xs) d ρ = .next (ρ.set i (some (.lst (xs ++ [d])))) := if_pos (Nat.lt_of_lt_of_le h size_big)
@[simp] theorem y_appI {ns : List Int} {n : Int} (h : ns.length < 2 ^ 24) : appO i (.lst (ns.map .int)) (.int n) ρ = .next (ρ.set i (some (.lst ((ns ++ [n]).map .int)))) := by
  rw [y_app (by rw [List.length_map]; exact h), List.map_append]
  rfl
@[simp] theorem z_app (e : Ex) : exS C φ (.app i e) ρ = (rd i ρ).fl fun _ ρ => (ev φ e ρ).fl fun d ρ => (rd i ρ).fl fun o ρ => appO i o d ρ := by
  simp only [exS]
  rfl
@[simp] theorem z_setIx (k e : Ex) : exS C φ (.setIx i k e) ρ = (ev φ e ρ).fl fun d ρ => (rd i ρ).fl fun _ ρ => (ev φ k ρ).fl fun k ρ => (rd i ρ).fl fun o ρ => stO i (setIx o k d) ρ .next := by
  simp only [exS]
  rfl
@[simp] theorem z_setD (k e : Ex) : exS C φ (.setD i k e) ρ = (ev φ e ρ).fl fun d ρ => (rd i ρ).fl fun _ ρ => (ev φ k ρ).fl fun k ρ => (rd i ρ).fl fun o ρ => stO i (setDx o k d) ρ .next := by
  simp only [exS]
  rfl
@[simp] theorem z_setc (e : Ex) : exS C φ (.setc i e) ρ = (ev φ e ρ).fl fun d ρ => .next (ρ.set i (some d)) := by simp only [exS]
@[simp] theorem z_new3 {j l : Nat} : exS C φ (.new3 i j l) ρ = .next (((ρ.set i (some (.lst []))).set j (some (.lst []))).set l (some (.lst []))) := by simp only [exS]
@[simp] theorem z_par (a b : Ex) : exS C φ (.par i j a b) ρ = (ev φ a ρ).fl fun d ρ => (ev φ b ρ).fl fun e ρ => .next ((ρ.set i (some d)).set j (some e)) := by
  simp only [exS, evL]
  cases ev φ a ρ with
  | ok d ρ1 =>
    simp only [Out.bind, Out.fl]
    cases ev φ b ρ1 <;> rfl
  | exc _ _ => rfl
  | stuck => rfl
@[simp] theorem z_par3 {j l : Nat} (a b c : Ex) : exS C φ (.par3 i j l a b c) ρ = (ev φ a ρ).fl fun d ρ => (ev φ b ρ).fl fun e ρ => (ev φ c ρ).fl fun f ρ => .next (((ρ.set i (some d)).set j (some e)).set l (some f)) := by
  simp only [exS, evL]
  cases ev φ a ρ with
  | ok d ρ1 =>
    simp only [Out.bind, Out.fl]
    cases ev φ b ρ1 with
    | ok d ρ1 =>
      simp only [Out.bind, Out.fl]
      cases ev φ c ρ1 <;> rfl
    | exc _ _ => rfl
    | stuck => rfl
  | exc _ _ => rfl
  | stuck => rfl
@[simp] theorem z_swap (k1 k2 e1 e2 : Ex) : exS C φ (.swap i k1 k2 e1 e2) ρ = (ev φ e1 ρ).fl fun d1 ρ => (ev φ e2 ρ).fl fun d2 ρ => (rd i ρ).fl fun _ ρ => (ev φ k1 ρ).fl fun k1 ρ => (rd i ρ).fl fun o ρ => stO i (setIx o k1 d1) ρ fun ρ =>
    (ev φ k2 ρ).fl fun k2 ρ => (rd i ρ).fl fun o ρ => stO i (setIx o k2 d2) ρ .next := by
  simp only [exS, evL]
  cases ev φ e1 ρ with
  | ok d ρ1 =>
    simp only [Out.bind, Out.fl]
    cases ev φ e2 ρ1 <;> rfl
  | exc _ _ => rfl
  | stuck => rfl
@[simp] theorem z_swap3 (k1 k2 k3 e1 e2 e3 : Ex) : exS C φ (.swap3 i k1 k2 k3 e1 e2 e3) ρ = (ev φ e1 ρ).fl fun d1 ρ => (ev φ e2 ρ).fl fun d2 ρ => (ev φ e3 ρ).fl fun d3 ρ => (rd i ρ).fl fun _ ρ => (ev φ k1 ρ).fl fun k1 ρ => (rd i ρ).fl fun o ρ => stO i (setIx o k1 d1) ρ fun ρ =>
    (ev φ k2 ρ).fl fun k2 ρ => (rd i ρ).fl fun o ρ => stO i (setIx o k2 d2) ρ fun ρ => (ev φ k3 ρ).fl fun k3 ρ => (rd i ρ).fl fun o ρ => stO i (setIx o k3 d3) ρ .next := by
  simp only [exS, evL]
  cases ev φ e1 ρ with
  | ok d ρ1 =>
    simp only [Out.bind, Out.fl]
    cases ev φ e2 ρ1 with
    | ok d2 ρ2 =>
      simp only [Out.bind, Out.fl]
      cases ev φ e3 ρ2 <;> rfl
    | exc _ _ => rfl
    | stuck => rfl
  | exc _ _ => rfl
  | stuck => rfl
def bdO (o : Option Env) : Fl := match o with
  | some ρ => .next ρ
  | none => .stuck
@[simp] theorem y_bdO : bdO (some ρ) = .next ρ := nd rfl
@[simp] theorem z_unp (is : List Nat) (e : Ex) : exS C φ (.unp is e) ρ = (ev φ e ρ).fl fun d ρ => bdO (bindT (.t is) d ρ) := by
  simp only [exS]
  rfl
@[simp] theorem bt_2 {i j : Nat} {a b : D} : bindT (.t [i, j]) (.tup [a, b]) ρ = some ((ρ.set i (some a)).set j (some b)) := nd rfl
@[simp] theorem bt_3 {i j l : Nat} {a b c : D} : bindT (.t [i, j, l]) (.tup [a, b, c]) ρ = some (((ρ.set i (some a)).set j (some b)).set l (some c)) := nd rfl
@[simp] theorem bt_4 {i j l m : Nat} {a b c d : D} : bindT (.t [i, j, l, m]) (.tup [a, b, c, d]) ρ = some ((((ρ.set i (some a)).set j (some b)).set l (some c)).set m (some d)) := nd rfl
def agO (i : Nat) (o : O2) (x y : D) (ρ : Env) : Fl := match x, y with
  | .int _, .int _ => (match sem2 o x y with
    | some d => .next (ρ.set i (some d))
    | none => .stuck)
  | _, _ => .stuck
@[simp] theorem y_agO {m n : Int} : agO i .add (.int m) (.int n) ρ = .next (ρ.set i (some (.int (m + n)))) := nd rfl
@[simp] theorem y_agS {m n : Int} : agO i .sub (.int m) (.int n) ρ = .next (ρ.set i (some (.int (m - n)))) := nd rfl
@[simp] theorem z_aug (o : O2) (e : Ex) : exS C φ (.aug i o e) ρ = (rd i ρ).fl fun x ρ => (ev φ e ρ).fl fun y ρ => agO i o x y ρ := by
  simp only [exS]
  rfl
def tryO (C : Catch) (φ : Calls) (hs : List (Nat × List Sm)) (x : Fl) : Fl := match x with
  | .exc c ρ => exH C φ c hs ρ
  | r => r
@[simp] theorem z_try (hs : List (Nat × List Sm)) : exS C φ (.try_ a hs) ρ = tryO C φ hs (exB C φ a ρ) := by
  simp only [exS]
  unfold tryO
  cases exB C φ a ρ <;> rfl
@[simp] theorem y_tryn (hs : List (Nat × List Sm)) : tryO C φ hs (.next ρ) = .next ρ := nd rfl
@[simp] theorem y_tryr (hs : List (Nat × List Sm)) : tryO C φ hs (.ret d ρ) = .ret d ρ := nd rfl
@[simp] theorem y_tryx (hs : List (Nat × List Sm)) (c : Nat) : tryO C φ hs (.exc c ρ) = exH C φ c hs ρ := nd rfl
@[simp] theorem y_hn (c : Nat) : exH C φ c [] ρ = .exc c ρ := by simp only [exH]
@[simp] theorem y_hc (c k : Nat) (s : List Sm) (hs : List (Nat × List Sm)) : exH C φ c ((k, s) :: hs) ρ = if C c k = true then exB C φ s ρ else exH C φ c hs ρ := by simp only [exH]
/-! a def's end -/
def ouO (o : Option (Option D)) (r : Option (List D)) : Option (List D) := match o, r with
  | some (some d), some ds => some (d :: ds)
  | _, _ => none
@[simp] theorem y_ouO (ds : List D) : ouO (some (some d)) (some ds) = some (d :: ds) := nd rfl
@[simp] theorem y_outn : outsOf ρ [] = some [] := nd rfl
@[simp] theorem y_outc (is : List Nat) : outsOf ρ (i :: is) = ouO ρ[i]? (outsOf ρ is) := by
  show (match ρ[i]?, outsOf ρ is with
    | some (some d), some ds => some (d :: ds)
    | _, _ => none) = _
  cases ρ[i]? with
  | none => rfl
  | some o => cases o <;> cases outsOf ρ is <;> rfl
def rsO (o : Option (List D)) (d : D) : Res := match o with
  | some ds => .ret d ds
  | none => .stuck
def rxO (o : Option (List D)) (c : Nat) : Res := match o with
  | some ds => .exc c ds
  | none => .stuck
@[simp] theorem y_rsO (ds : List D) : rsO (some ds) d = .ret d ds := nd rfl
@[simp] theorem y_rxO (ds : List D) (c : Nat) : rxO (some ds) c = .exc c ds := nd rfl
@[simp] theorem y_finn (ms : List Nat) : finFn ms (.next ρ) = rsO (outsOf ρ ms) .non := nd rfl
@[simp] theorem y_finr (ms : List Nat) : finFn ms (.ret d ρ) = rsO (outsOf ρ ms) d := nd rfl
@[simp] theorem y_finx (ms : List Nat) (c : Nat) : finFn ms (.exc c ρ) = rxO (outsOf ρ ms) c := nd rfl
/-! turns of a comprehension -/
@[simp] theorem y_lcS (cond : Option Ex) (elt : Ex) : lcStep φ cond elt ρ = (condM φ cond ρ).bind fun k ρ => if k = true then (ev φ elt ρ).bind fun y ρ => .ok (some y) ρ else .ok none ρ := nd rfl
@[simp] theorem y_cn : condM φ none ρ = .ok true ρ := nd rfl
@[simp] theorem y_cs (c : Ex) : condM φ (some c) ρ = tst (ev φ c ρ) := nd rfl
@[simp] theorem y_bitrue (b : Bool) : (Out.ok b ρ).bind (fun (b : Bool) ρ => Out.ok b ρ) = .ok b ρ := nd rfl
end
/-! ### loops -/
section
variable {φ : Calls} {C : Catch} {ρ ρ' : Env} {σ α : Type} {j : Nat} {ik : IK} {its : List Ex} {B : List Sm} {ds : List D} {xs : List α} {emb : α → D} {c : Ex}
theorem forGo_rule {body : D → Env → Fl} (enc : σ → Option D → Env) (I : Nat → σ → Prop) (Q : Fl → Prop) (hb : ∀ s o x, body x (enc s o) = body x (enc s none)) : ∀ {xs : List α} {n : Nat} {s : σ} {o : Option D}, I n s → (∀ s o, I (n + xs.length) s → Q (.next (enc s o))) →
    (∀ i x, xs[i]? = some x → ∀ s, I (n + i) s → (∃ s', body (emb x) (enc s none) = .next (enc s' (some (emb x))) ∧ I (n + i + 1) s') ∨ (∃ d ρ', body (emb x) (enc s none) = .ret d ρ' ∧ Q (.ret d ρ')) ∨ (∃ ρ', body (emb x) (enc s none) = .brk ρ' ∧ Q (.next ρ')) ∨ (∃ k ρ', body (emb x) (enc s none) = .exc k ρ' ∧ Q (.exc k ρ'))) →
    Q (forGo body (xs.map emb) (enc s o))
  | [], n, s, o, hI, hend, _ => by
    unfold forGo
    exact hend s o hI
  | x :: xs, n, s, o, hI, hend, hstep => by
    rw [List.map_cons]
    unfold forGo
    rw [hb]
    rcases hstep 0 x rfl s hI with ⟨s', e, i⟩ | ⟨d, ρ', e, q⟩ | ⟨ρ', e, q⟩ | ⟨k, ρ', e, q⟩
    · rw [e]
      refine forGo_rule enc I Q hb (n := n + 1) i (fun s o h => hend s o ?_) fun i y hy s hs => ?_
      · rw [List.length_cons, show n + (xs.length + 1) = n + 1 + xs.length by omega]
        exact h
      · have h := hstep (i + 1) y hy s
        rw [show n + (i + 1) = n + 1 + i by omega] at h
        exact h hs
    · rw [e]; exact q
    · rw [e]; exact q
    · rw [e]; exact q
/-- for x in ..: the state s beside x's slot -/
theorem fr_rule (enc : σ → Option D → Env) (I : Nat → σ → Prop) (Q : Fl → Prop) {s0 : σ} {o0 : Option D} (h1 : evL φ its ρ = .ok ds (enc s0 o0)) (h2 : items ik ds = some (xs.map emb)) (henc : ∀ s o x, (enc s o).set j x = enc s x) (h0 : I 0 s0)
    (hend : ∀ s o, I xs.length s → Q (.next (enc s o)))
    (hstep : ∀ i x, xs[i]? = some x → ∀ s, I i s → (∃ s', exB C φ B (enc s (some (emb x))) = .next (enc s' (some (emb x))) ∧ I (i + 1) s') ∨ (∃ d ρ', exB C φ B (enc s (some (emb x))) = .ret d ρ' ∧ Q (.ret d ρ')) ∨ (∃ ρ', exB C φ B (enc s (some (emb x))) = .brk ρ' ∧ Q (.next ρ')) ∨ (∃ k ρ', exB C φ B (enc s (some (emb x))) = .exc k ρ' ∧ Q (.exc k ρ'))) :
    Q (exS C φ (.fr (.n j) ik its B) ρ) := by
  have e : exS C φ (.fr (.n j) ik its B) ρ = forGo (fun x ρ => exB C φ B (ρ.set j (some x))) (xs.map emb) (enc s0 o0) := by
    first | (simp only [exS, h1, h2, Out.fl]; done) | (simp only [exS, h1, h2, Out.fl]; rfl)
  rw [e]
  refine forGo_rule enc I Q (n := 0) (fun s o x => ?_) h0 (fun s o h => hend s o (by rwa [Nat.zero_add] at h)) fun i x hx s hs => ?_
  · simp only [henc]
  · simp only [henc]
    rw [Nat.zero_add] at hs ⊢
    exact hstep i x hx s hs
/-- .. that runs to its end -/
theorem fr_inv (enc : σ → Option D → Env) (I : Nat → σ → Prop) {s0 : σ} {o0 : Option D} (h1 : evL φ its ρ = .ok ds (enc s0 o0)) (h2 : items ik ds = some (xs.map emb)) (henc : ∀ s o x, (enc s o).set j x = enc s x) (h0 : I 0 s0)
    (hstep : ∀ i x, xs[i]? = some x → ∀ s, I i s → ∃ s', exB C φ B (enc s (some (emb x))) = .next (enc s' (some (emb x))) ∧ I (i + 1) s') :
    ∃ s o, exS C φ (.fr (.n j) ik its B) ρ = .next (enc s o) ∧ I xs.length s :=
  fr_rule enc I (fun f => ∃ s o, f = .next (enc s o) ∧ I xs.length s) h1 h2 henc h0 (fun s o h => ⟨s, o, rfl, h⟩) fun i x hx s hs => .inl (hstep i x hx s hs)
/-- .. and turns by a plain step -/
theorem fr_fold (enc : σ → Option D → Env) (step : σ → α → σ) (P : Nat → σ → Prop) {s0 : σ} {o0 : Option D} (h1 : evL φ its ρ = .ok ds (enc s0 o0)) (h2 : items ik ds = some (xs.map emb)) (henc : ∀ s o x, (enc s o).set j x = enc s x) (h0 : P 0 s0)
    (hstep : ∀ i x, xs[i]? = some x → ∀ s, P i s → exB C φ B (enc s (some (emb x))) = .next (enc (step s x) (some (emb x))) ∧ P (i + 1) (step s x)) :
    ∃ o, exS C φ (.fr (.n j) ik its B) ρ = .next (enc (xs.foldl step s0) o) ∧ P xs.length (xs.foldl step s0) := by
  obtain ⟨s, o, e, h, hp⟩ := fr_inv (C := C) (φ := φ) (B := B) enc (fun i s => s = (xs.take i).foldl step s0 ∧ P i s) h1 h2 henc ⟨rfl, h0⟩ fun i x hx s ⟨hs, hp⟩ => by
    obtain ⟨a, b⟩ := hstep i x hx s hp
    refine ⟨step s x, a, ?_, b⟩
    have hi : i < xs.length := (List.getElem?_eq_some_iff.mp hx).1
    rw [List.take_succ, hx, List.foldl_append, ← hs]
    rfl
  rw [List.take_of_length_le (Nat.le_refl _)] at h
  subst h
  exact ⟨o, e, hp⟩
/-- while -/
theorem wh_rule (enc : σ → Env) (I : σ → Prop) (m : σ → Nat) (Q : Fl → Prop) {s0 : σ} (h0 : I s0) (hm : m s0 < 2 ^ 32)
    (hstep : ∀ s, I s → (∃ ρ', tst (ev φ c (enc s)) = .ok false ρ' ∧ Q (.next ρ')) ∨ (∃ ρ1 s', tst (ev φ c (enc s)) = .ok true ρ1 ∧ exB C φ B ρ1 = .next (enc s') ∧ I s' ∧ m s' < m s) ∨ (∃ ρ1 d ρ', tst (ev φ c (enc s)) = .ok true ρ1 ∧ exB C φ B ρ1 = .ret d ρ' ∧ Q (.ret d ρ'))) :
    Q (exS C φ (.whl c B) (enc s0)) := by
  have e : exS C φ (.whl c B) (enc s0) = whGo (fun ρ => tst (ev φ c ρ)) (exB C φ B) FUEL (enc s0) := by simp only [exS]
  rw [e]
  have key : ∀ (n : Nat) (s : σ), I s → m s < n → Q (whGo (fun ρ => tst (ev φ c ρ)) (exB C φ B) n (enc s)) := by
    intro n
    induction n with
    | zero => intro s _ h; exact absurd h (Nat.not_lt_zero _)
    | succ n ih =>
      intro s hs hn
      unfold whGo
      rcases hstep s hs with ⟨ρ', e, q⟩ | ⟨ρ1, s', e1, e2, i, l⟩ | ⟨ρ1, d, ρ', e1, e2, q⟩
      · rw [e]
        exact q
      · rw [e1]
        show Q (match exB C φ B ρ1 with
          | .next ρ => whGo (fun ρ => tst (ev φ c ρ)) (exB C φ B) n ρ
          | .brk ρ => .next ρ
          | r => r)
        rw [e2]
        exact ih s' i (by omega)
      · rw [e1]
        show Q (match exB C φ B ρ1 with
          | .next ρ => whGo (fun ρ => tst (ev φ c ρ)) (exB C φ B) n ρ
          | .brk ρ => .next ρ
          | r => r)
        rw [e2]
        exact q
  exact key FUEL s0 h0 (Nat.lt_of_lt_of_le hm fuel_big)
/-- .. that runs to its end -/
theorem wh_inv (enc : σ → Env) (I : σ → Prop) (m : σ → Nat) (J : Env → Prop) {s0 : σ} (h0 : I s0) (hm : m s0 < 2 ^ 32)
    (hstep : ∀ s, I s → (∃ ρ', tst (ev φ c (enc s)) = .ok false ρ' ∧ J ρ') ∨ (∃ ρ1 s', tst (ev φ c (enc s)) = .ok true ρ1 ∧ exB C φ B ρ1 = .next (enc s') ∧ I s' ∧ m s' < m s)) :
    ∃ ρ', exS C φ (.whl c B) (enc s0) = .next ρ' ∧ J ρ' :=
  wh_rule enc I m (fun f => ∃ ρ', f = .next ρ' ∧ J ρ') h0 hm fun s hs => by
    rcases hstep s hs with ⟨ρ', e, j⟩ | h
    · exact .inl ⟨ρ', e, ρ', rfl, j⟩
    · exact .inr (.inl h)
/-- a comprehension whose turns change the state (draws) -/
theorem lcGo_run {f : D → Env → Out (Option D)} {j : Nat} (enc : σ → Option D → Env) (I : Nat → σ → List D → Prop) (henc : ∀ s o x, (enc s o).set j x = enc s x) : ∀ {xs : List α} {n : Nat} {s : σ} {o : Option D} {acc : List D}, I n s acc →
    (∀ i x, xs[i]? = some x → ∀ s acc, I (n + i) s acc → ∃ y s' o', f (emb x) (enc s none) = .ok y (enc s' o') ∧ I (n + i + 1) s' (acc ++ y.toList)) →
    ∃ s' o' rs, lcGo [j] f (xs.map emb) (enc s o) = .ok rs (enc s' o') ∧ I (n + xs.length) s' (acc ++ rs)
  | [], n, s, o, acc, hI, _ => ⟨s, o, [], rfl, by rw [List.append_nil]; exact hI⟩
  | x :: xs, n, s, o, acc, hI, h => by
    obtain ⟨y, s1, o1, e, i1⟩ := h 0 x rfl s acc hI
    obtain ⟨s', o', rs, e2, i2⟩ := lcGo_run (f := f) enc I henc (xs := xs) (n := n + 1) (s := s1) (o := o1) (acc := acc ++ y.toList) i1 fun i y hy s acc hs => by
      have := h (i + 1) y hy s acc
      rw [show n + (i + 1) = n + 1 + i by omega] at this
      exact this hs
    refine ⟨s', o', y.toList ++ rs, ?_, ?_⟩
    · rw [List.map_cons]
      unfold lcGo
      have w : wipeE (enc s o) [j] = enc s none := henc s o none
      rw [w]
      simp only [e, e2]
      cases y <;> rfl
    · rw [List.append_assoc] at i2
      rw [List.length_cons, show n + (xs.length + 1) = n + 1 + xs.length by omega]
      exact i2
theorem lc_run {cond : Option Ex} {elt : Ex} (enc : σ → Option D → Env) (I : Nat → σ → List D → Prop) {s0 : σ} {o0 : Option D} (h1 : evL φ its ρ = .ok ds (enc s0 o0)) (h2 : items ik ds = some (xs.map emb)) (henc : ∀ s o x, (enc s o).set j x = enc s x) (hget : (enc s0 o0).getD j none = o0) (h0 : I 0 s0 []) (hn : xs.length ≤ 2 ^ 24)
    (hstep : ∀ i x, xs[i]? = some x → ∀ s acc, I i s acc → ∃ y s' o', lcStep φ cond elt (enc s (some (emb x))) = .ok y (enc s' o') ∧ I (i + 1) s' (acc ++ y.toList)) :
    ∃ s rs, ev φ (.lc [j] (.n j) ik its cond elt) ρ = .ok (.lst rs) (enc s o0) ∧ I xs.length s rs := by
  obtain ⟨s', o', rs, e, hi⟩ := lcGo_run (f := lcF (.n j) (condM φ cond) (ev φ elt)) enc I henc (xs := xs) (n := 0) (s := s0) (o := o0) (acc := []) h0 fun i x hx s acc hs => by
    rw [Nat.zero_add] at hs ⊢
    obtain ⟨y, s', o', e, hi⟩ := hstep i x hx s acc hs
    refine ⟨y, s', o', ?_, hi⟩
    have q : lcF (.n j) (condM φ cond) (ev φ elt) (emb x) (enc s none) = lcStep φ cond elt ((enc s none).set j (some (emb x))) := rfl
    rw [q, henc, e]
  rw [Nat.zero_add] at hi
  refine ⟨s', rs, ?_, hi⟩
  have len : ∀ {ys : List D} {ρ1 ρ2 : Env} {zs : List D} {f : D → Env → Out (Option D)}, lcGo [j] f ys ρ1 = .ok zs ρ2 → zs.length ≤ ys.length := by
    intro ys
    induction ys with
    | nil => intro ρ1 ρ2 zs f h; cases h; exact Nat.le_refl _
    | cons y ys ih =>
      intro ρ1 ρ2 zs f h
      unfold lcGo at h
      split at h
      · split at h
        · rename_i y' _ _ _ _ _ e2
          cases h
          have := ih e2
          cases y' <;> simp <;> omega
        · cases h
      · cases h
  have z : rs.length ≤ sizeLine := by
    have := len e
    rw [List.length_map] at this
    exact Nat.le_trans this (Nat.le_trans hn size_big)
  have rr : restE (enc s0 o0) (enc s' o') [j] = enc s' o0 := by
    show (enc s' o').set j ((enc s0 o0).getD j none) = _
    rw [hget, henc]
  rw [ev_lc]
  unfold lcM
  simp only [h1, Out.bind, h2, e, z, if_true, rr]
end
end Bell

/-! ### typed lists -/
namespace Bell
open PySem L2
section
variable {α β : Type} {e : α → D} {xs : List α}
theorem seqIx_neg {n : Nat} (h : 0 < n) : ixN n (-1) = some (n - 1) := by
  unfold ixN
  rw [if_neg (by omega), if_pos (by omega)]
  congr 1
  omega
theorem atI_map [Inhabited α] {i : Int} (h0 : 0 ≤ i) (h1 : i < xs.length) : atI (xs.map e) i = some (e (xs.getD i.toNat default)) := by
  have q : i.toNat < xs.length := by omega
  rw [atI_of h0 (by rw [List.length_map]; exact h1), List.getElem?_map, List.getD_eq_getElem?_getD, List.getElem?_eq_getElem q]
  rfl
theorem atI_mapN [Inhabited α] {i : Nat} (h1 : i < xs.length) : atI (xs.map e) (i : Int) = some (e (xs.getD i default)) := by
  have := atI_map (e := e) (xs := xs) (i := (i : Int)) (by omega) (by omega)
  rwa [Int.toNat_natCast] at this
theorem at_end : atI (xs.map e) (-1) = xs.getLast?.map e := by
  cases xs with
  | nil => rfl
  | cons x r =>
    unfold atI
    rw [List.length_map, seqIx_neg (by simp), List.getLast?_eq_getElem?, Option.bind_some, List.getElem?_map]
theorem cut_init {ys : List D} : cutD ys none (some (-1)) = ys.dropLast := by
  unfold cutD
  rw [HT.sIx_none, List.drop_zero, Nat.sub_zero, List.dropLast_eq_take]
  congr 1
  unfold HT.sIx
  simp
  omega
theorem setIx_map {i : Int} (x : α) (h0 : 0 ≤ i) (h1 : i < xs.length) : setIx (.lst (xs.map e)) (.int i) (e x) = some (.lst ((xs.set i.toNat x).map e)) := by
  have e1 : ixN (xs.map e).length i = some i.toNat := by
    unfold ixN
    rw [if_pos h0, if_pos (by rw [List.length_map]; exact h1)]
  show (ixN (xs.map e).length i).map _ = _
  rw [e1, List.map_set]
  rfl
theorem setIx_int {ns : List Int} {i v : Int} (h0 : 0 ≤ i) (h1 : i < ns.length) : setIx (.lst (ns.map .int)) (.int i) (.int v) = some (.lst ((ns.set i.toNat v).map .int)) := setIx_map v h0 h1
theorem app_map {ρ : Env} {i : Nat} (x : α) (h : xs.length < 2 ^ 24) : appO i (.lst (xs.map e)) (e x) ρ = .next (ρ.set i (some (.lst ((xs ++ [x]).map e)))) := by
  rw [y_app (by rw [List.length_map]; exact h), List.map_append]
  rfl
end
/-- a list of numbers, a change (a tuple), rows, leads -/
def dR (r : List Int) : D := .lst (r.map .int)
def dC (c : List Int) : D := .tup (c.map .int)
def dRs (rs : List (List Int)) : D := .lst (rs.map dR)
def dL (l : List (List Int)) : D := .lst (l.map dC)
theorem lrng_ok {a b : Int} (h0 : 0 ≤ a) (h1 : a ≤ 16777216) (h2 : 0 ≤ b) (h3 : b ≤ 16777216) : sem2 .lrng (.int a) (.int b) = some (dR ((List.range (b - a).toNat).map fun (i : Nat) => a + (i : Int))) := by
  have z : (rngOk a b && decide (b - a ≤ 16777216)) = true := by simp [rngOk]; omega
  show (if rngOk a b && decide (b - a ≤ 16777216) then some (D.lst (rngD a (b - a).toNat 1)) else none) = _
  rw [if_pos z, rngD_map]
  unfold dR
  rw [List.map_map]
  rfl
theorem items_rng2 {a b : Int} (h0 : 0 ≤ a) (h1 : a ≤ 16777216) (h2 : 0 ≤ b) (h3 : b ≤ 16777216) : items .rng2 [.int a, .int b] = some (((List.range (b - a).toNat).map fun (i : Nat) => a + (i : Int)).map .int) := by
  have z : rngOk a b = true := by simp [rngOk]; omega
  show (if rngOk a b then some (rngD a (b - a).toNat 1) else none) = _
  rw [if_pos z, rngD_map, List.map_map]
  rfl
theorem items_lst {α : Type} {e : α → D} {xs : List α} : items .lst [.lst (xs.map e)] = some (xs.map e) := rfl
theorem items_tup {α : Type} {e : α → D} {xs : List α} : items .tup [.tup (xs.map e)] = some (xs.map e) := rfl
theorem eqF_int (a b : Int) : eqF (.int a) (.int b) = decide (a = b) := by
  unfold eqF
  by_cases h : a = b <;> simp [toP, PyData.eqv, h]
theorem flat_ints : ∀ ns : List Int, (ns.map D.int).all flatD = true
  | [] => rfl
  | _ :: ns => by rw [List.map_cons, List.all_cons, flat_ints ns]; rfl
theorem mem_ints (ns : List Int) (x : Int) : (ns.map D.int).any (fun y => eqF y (.int x)) = decide (x ∈ ns) := by
  induction ns with
  | nil => simp
  | cons a ns ih =>
    rw [List.map_cons, List.any_cons, ih, eqF_int]
    by_cases h : a = x
    · simp [h]
    · have h' : ¬ x = a := fun z => h z.symm
      simp [h, h']
@[simp] theorem s2_memL (ns : List Int) (x : Int) : sem2 .mem (.int x) (.lst (ns.map .int)) = some (.bl (decide (x ∈ ns))) := by
  show (if (flatD (.int x) && (ns.map D.int).all flatD) || (shD (.int x) && shD (.lst (ns.map .int))) then some (D.bl ((ns.map D.int).any fun y => eqF y (.int x))) else none) = _
  rw [flat_ints, mem_ints]
  rfl
@[simp] theorem s2_memT (ns : List Int) (x : Int) : sem2 .mem (.int x) (.tup (ns.map .int)) = some (.bl (decide (x ∈ ns))) := by
  show (if flatD (.int x) && (ns.map D.int).all flatD then some (D.bl ((ns.map D.int).any fun y => eqF y (.int x))) else none) = _
  rw [flat_ints, mem_ints]
  rfl
@[simp] theorem s2_nmemL (ns : List Int) (x : Int) : sem2 .nmem (.int x) (.lst (ns.map .int)) = some (.bl (!decide (x ∈ ns))) := by
  show (if (flatD (.int x) && (ns.map D.int).all flatD) || (shD (.int x) && shD (.lst (ns.map .int))) then some (D.bl (!(ns.map D.int).any fun y => eqF y (.int x))) else none) = _
  rw [flat_ints, mem_ints]
  rfl
@[simp] theorem s2_nmemT (ns : List Int) (x : Int) : sem2 .nmem (.int x) (.tup (ns.map .int)) = some (.bl (!decide (x ∈ ns))) := by
  show (if flatD (.int x) && (ns.map D.int).all flatD then some (D.bl (!(ns.map D.int).any fun y => eqF y (.int x))) else none) = _
  rw [flat_ints, mem_ints]
  rfl
theorem sm_index {ns : List Int} {x : Int} {i : Nat} (h : ns.findIdx? (fun y => decide (y = x)) = some i) : semM .index (.lst (ns.map .int)) [.int x] = some (.int (i : Int)) := by
  show (if flatD (.int x) && (ns.map D.int).all flatD then (idxOf (ns.map .int) (.int x)).map (fun (i : Nat) => D.int (i : Int)) else none) = _
  have e : idxOf (ns.map .int) (.int x) = some i := by
    unfold idxOf
    rw [List.findIdx?_map, ← h]
    congr 1
    first | done | (funext y; exact eqF_int y x)
  rw [flat_ints, e]
  rfl
theorem eqD_R (a b : List Int) : eqD (dR a) (dR b) = some (decide (a = b)) := eqD_lst a b
theorem eqD_C (a b : List Int) : eqD (dC a) (dC b) = some (decide (a = b)) := eqD_tup a b
theorem intsO_ints' (ns : List Int) : intsO (ns.map .int) = some ns := intsO_ints ns
theorem s1_tupR (r : List Int) : sem1 .tuple (dR r) = some (dC r) := rfl
theorem s1_lstC (r : List Int) : sem1 .list (dC r) = some (dR r) := rfl
theorem s2_ltT (a b : List Int) : sem2 .lt (dC a) (dC b) = some (.bl (HT.lexLt a b)) := by
  show (match intsO (a.map .int), intsO (b.map .int) with
    | some a, some b => some (D.bl (HT.lexLt a b))
    | _, _ => none) = _
  rw [intsO_ints, intsO_ints]
theorem s2_geT (a b : List Int) : sem2 .ge (dC a) (dC b) = some (.bl (!HT.lexLt a b)) := by
  show (match intsO (a.map .int), intsO (b.map .int) with
    | some a, some b => some (D.bl (!HT.lexLt a b))
    | _, _ => none) = _
  rw [intsO_ints, intsO_ints]
theorem s2_lt2 (a b c d : Int) : sem2 .lt (.tup [.int a, .int b]) (.tup [.int c, .int d]) = some (.bl (HT.lexLt [a, b] [c, d])) := s2_ltT [a, b] [c, d]
theorem s2_ge2 (a b c d : Int) : sem2 .ge (.tup [.int a, .int b]) (.tup [.int c, .int d]) = some (.bl (!HT.lexLt [a, b] [c, d])) := s2_geT [a, b] [c, d]
theorem lex2 (a b c d : Int) : HT.lexLt [a, b] [c, d] = decide (a < c ∨ a = c ∧ b < d) := by
  rw [HT.lexLt_cons]
  by_cases h : a = c
  · rw [if_pos h, HT.lexLt_cons]
    by_cases h2 : b = d
    · rw [if_pos h2]
      have : ¬ (a < c ∨ a = c ∧ b < d) := by omega
      simp [this]
      rfl
    · rw [if_neg h2]
      congr 1
      exact propext ⟨fun z => .inr ⟨h, z⟩, fun z => by omega⟩
  · rw [if_neg h]
    congr 1
    exact propext ⟨fun z => .inl z, fun z => by omega⟩
/-! dicts of tuples -/
theorem kOs_ints : ∀ ns : List Int, kOs (ns.map .int) = some (ns.map .inl)
  | [] => rfl
  | n :: ns => by
    show (match some (Sum.inl n), kOs (ns.map .int) with
      | some k, some ks => some (k :: ks)
      | _, _ => none) = _
    rw [kOs_ints ns]
    rfl
theorem tO_C (c : List Int) : tO (dC c) = some (c.map .inl) := kOs_ints c
theorem isKey_C (c : List Int) : isKey true (dC c) = true := by
  show (tO (dC c)).isSome = true
  rw [tO_C]
  rfl
theorem inl_inj : ∀ {a b : List Int}, a.map (Sum.inl (β := Str)) = b.map Sum.inl → a = b
  | [], [], _ => rfl
  | [], _ :: _, h => by cases h
  | _ :: _, [], h => by cases h
  | x :: a, y :: b, h => by
    rw [List.map_cons, List.map_cons] at h
    injection h with h1 h2
    rw [Sum.inl.inj h1, inl_inj h2]
theorem keq_C (a b : List Int) : keq (dC a) (dC b) = decide (a = b) := by
  unfold keq
  rw [tO_C, tO_C]
  show decide (a.map Sum.inl = b.map Sum.inl) = _
  congr 1
  exact propext ⟨fun h => inl_inj h, fun h => by rw [h]⟩
def gtT {β : Type} (es : List (List Int × β)) (k : List Int) : Option β := (es.find? fun e => decide (e.1 = k)).map (·.2)
def dT {β : Type} (g : β → D) (es : List (List Int × β)) : D := .dic true (es.map fun e => (dC e.1, g e.2))
section
variable {β : Type} {g : β → D} {es : List (List Int × β)} {k : List Int} {v : β}
theorem dGet_T : dGet (es.map fun e => (dC e.1, g e.2)) (dC k) = (gtT es k).map g := by
  unfold dGet gtT
  rw [List.find?_map]
  have e : ((fun e : D × D => keq e.1 (dC k)) ∘ fun e : List Int × β => (dC e.1, g e.2)) = fun e => decide (e.1 = k) := by
    funext x
    exact keq_C x.1 k
  rw [e]
  cases es.find? (fun e => decide (e.1 = k)) <;> rfl
theorem s2_memD : sem2 .mem (dC k) (dT g es) = some (.bl (gtT es k).isSome) := by
  show (if isKey true (dC k) then some (D.bl (dGet (es.map fun e => (dC e.1, g e.2)) (dC k)).isSome) else none) = _
  rw [isKey_C, dGet_T, Option.isSome_map]
  rfl
theorem s2_nmemD : sem2 .nmem (dC k) (dT g es) = some (.bl (!(gtT es k).isSome)) := by
  show (if isKey true (dC k) then some (D.bl (!(dGet (es.map fun e => (dC e.1, g e.2)) (dC k)).isSome)) else none) = _
  rw [isKey_C, dGet_T, Option.isSome_map]
  rfl
theorem s2_dgetD : sem2 .dget (dT g es) (dC k) = (gtT es k).map g := by
  show (if isKey true (dC k) then dGet (es.map fun e => (dC e.1, g e.2)) (dC k) else none) = _
  rw [isKey_C, dGet_T]
  rfl
theorem gtT_none : gtT es k = none ↔ ∀ e ∈ es, e.1 ≠ k := by
  unfold gtT
  rw [Option.map_eq_none_iff, List.find?_eq_none]
  simp
theorem gtT_some (h : gtT es k = some v) : (k, v) ∈ es := by
  unfold gtT at h
  obtain ⟨e, he, rfl⟩ := Option.map_eq_some_iff.mp h
  have a := List.find?_some he
  have b := List.mem_of_find?_eq_some he
  have a : e.1 = k := of_decide_eq_true a
  rw [← a]
  exact b
theorem setDx_new (h : gtT es k = none) (hl : es.length < 2 ^ 24) : setDx (dT g es) (dC k) (g v) = some (dT g (es ++ [(k, v)])) := by
  have a : ((es.map fun e => (dC e.1, g e.2)).any fun e => keq e.1 (dC k)) = false := by
    rw [List.any_eq_false]
    intro x hx
    obtain ⟨e, he, rfl⟩ := List.mem_map.mp hx
    rw [keq_C, gtT_none.mp h e he |> decide_eq_false]
    decide
  show (if isKey true (dC k) && decide ((es.map fun e => (dC e.1, g e.2)).length < sizeLine) then some (D.dic true (dPut (es.map fun e => (dC e.1, g e.2)) (dC k) (g v))) else none) = _
  have l : decide ((es.map fun e => (dC e.1, g e.2)).length < sizeLine) = true := decide_eq_true (by rw [List.length_map]; exact Nat.lt_of_lt_of_le hl size_big)
  rw [isKey_C, l]
  unfold dPut dT
  rw [a, List.map_append]
  rfl
end
/-- for a, b, .. in .. -/
theorem frg_rule {φ : Calls} {C : Catch} {ρ : Env} {σ α : Type} {tg : Tg} {ik : IK} {its : List Ex} {B : List Sm} {ds : List D} {xs : List α} {emb : α → D} (enc : σ → Option α → Env) (I : Nat → σ → Prop) (Q : Fl → Prop) {s0 : σ} {o0 : Option α} (h1 : evL φ its ρ = .ok ds (enc s0 o0)) (h2 : items ik ds = some (xs.map emb)) (henc : ∀ s o x, bindT tg (emb x) (enc s o) = some (enc s (some x))) (h0 : I 0 s0)
    (hend : ∀ s o, I xs.length s → Q (.next (enc s o)))
    (hstep : ∀ i x, xs[i]? = some x → ∀ s, I i s → (∃ s', exB C φ B (enc s (some x)) = .next (enc s' (some x)) ∧ I (i + 1) s') ∨ (∃ d ρ', exB C φ B (enc s (some x)) = .ret d ρ' ∧ Q (.ret d ρ')) ∨ (∃ ρ', exB C φ B (enc s (some x)) = .brk ρ' ∧ Q (.next ρ')) ∨ (∃ k ρ', exB C φ B (enc s (some x)) = .exc k ρ' ∧ Q (.exc k ρ'))) :
    Q (exS C φ (.fr tg ik its B) ρ) := by
  have e : exS C φ (.fr tg ik its B) ρ = forGo (fun x ρ => match bindT tg x ρ with
      | none => .stuck
      | some ρ => exB C φ B ρ) (xs.map emb) (enc s0 o0) := by
    simp only [exS, h1, Out.fl]
    rw [h2]
    first | done | rfl
  rw [e]
  have key : ∀ (ys : List α) (n : Nat) (s : σ) (o : Option α), I n s → (∀ s o, I (n + ys.length) s → Q (.next (enc s o))) → (∀ i x, ys[i]? = some x → ∀ s, I (n + i) s → (∃ s', exB C φ B (enc s (some x)) = .next (enc s' (some x)) ∧ I (n + i + 1) s') ∨ (∃ d ρ', exB C φ B (enc s (some x)) = .ret d ρ' ∧ Q (.ret d ρ')) ∨ (∃ ρ', exB C φ B (enc s (some x)) = .brk ρ' ∧ Q (.next ρ')) ∨ (∃ k ρ', exB C φ B (enc s (some x)) = .exc k ρ' ∧ Q (.exc k ρ'))) → Q (forGo (fun x ρ => match bindT tg x ρ with
      | none => .stuck
      | some ρ => exB C φ B ρ) (ys.map emb) (enc s o)) := by
    intro ys
    induction ys with
    | nil => intro n s o hI hend _; unfold List.map forGo; exact hend s o hI
    | cons x ys ih =>
      intro n s o hI hend hstep
      rw [List.map_cons]
      unfold forGo
      rw [henc]
      dsimp only
      rcases hstep 0 x rfl s hI with ⟨s', e, i⟩ | ⟨d, ρ', e, q⟩ | ⟨ρ', e, q⟩ | ⟨k, ρ', e, q⟩
      · rw [e]
        refine ih (n + 1) s' _ i (fun s o h => hend s o ?_) fun i y hy s hs => ?_
        · rw [List.length_cons, show n + (ys.length + 1) = n + 1 + ys.length by omega]
          exact h
        · have h := hstep (i + 1) y hy s
          rw [show n + (i + 1) = n + 1 + i by omega] at h
          exact h hs
      · rw [e]; exact q
      · rw [e]; exact q
      · rw [e]; exact q
  exact key xs 0 s0 o0 h0 (fun s o h => hend s o (by rwa [Nat.zero_add] at h)) fun i x hx s hs => by
    rw [Nat.zero_add] at hs ⊢
    exact hstep i x hx s hs
theorem frg_inv {φ : Calls} {C : Catch} {ρ : Env} {σ α : Type} {tg : Tg} {ik : IK} {its : List Ex} {B : List Sm} {ds : List D} {xs : List α} {emb : α → D} (enc : σ → Option α → Env) (I : Nat → σ → Prop) {s0 : σ} {o0 : Option α} (h1 : evL φ its ρ = .ok ds (enc s0 o0)) (h2 : items ik ds = some (xs.map emb)) (henc : ∀ s o x, bindT tg (emb x) (enc s o) = some (enc s (some x))) (h0 : I 0 s0)
    (hstep : ∀ i x, xs[i]? = some x → ∀ s, I i s → ∃ s', exB C φ B (enc s (some x)) = .next (enc s' (some x)) ∧ I (i + 1) s') :
    ∃ s o, exS C φ (.fr tg ik its B) ρ = .next (enc s o) ∧ I xs.length s :=
  frg_rule enc I (fun f => ∃ s o, f = .next (enc s o) ∧ I xs.length s) h1 h2 henc h0 (fun s o h => ⟨s, o, rfl, h⟩) fun i x hx s hs => .inl (hstep i x hx s hs)
/-- cuts -/
theorem cut_n {α : Type} {e : α → D} {xs : List α} (j : Nat) : cutD (xs.map e) none (some (j : Int)) = (xs.take j).map e ∧ cutD (xs.map e) (some (j : Int)) none = (xs.drop j).map e := by
  constructor
  · unfold cutD
    rw [HT.sIx_none, HT.sIx_nat, Nat.sub_zero, List.drop_zero, List.map_take]
    rcases Nat.le_total j (xs.map e).length with h | h
    · rw [Nat.min_eq_left h]
    · rw [Nat.min_eq_right h, List.take_of_length_le (Nat.le_refl _), List.take_of_length_le h]
  · unfold cutD
    rw [HT.sIx_none, HT.sIx_nat, List.map_drop]
    rcases Nat.le_total j (xs.map e).length with h | h
    · rw [Nat.min_eq_left h, List.take_of_length_le (by rw [List.length_drop]; omega)]
    · rw [Nat.min_eq_right h, List.drop_of_length_le (Nat.le_refl _), List.drop_of_length_le h, List.take_nil]
theorem setDx_old {β : Type} {g : β → D} {es : List (List Int × β)} {k : List Int} {v : β} (h : (gtT es k).isSome = true) (hl : es.length < 2 ^ 24) : setDx (dT g es) (dC k) (g v) = some (dT g (es.map fun e => if e.1 = k then (e.1, v) else e)) := by
  have a : ((es.map fun e => (dC e.1, g e.2)).any fun e => keq e.1 (dC k)) = true := by
    obtain ⟨w, hw⟩ := Option.isSome_iff_exists.mp h
    rw [List.any_eq_true]
    exact ⟨_, List.mem_map.mpr ⟨_, gtT_some hw, rfl⟩, by rw [keq_C]; exact decide_eq_true rfl⟩
  show (if isKey true (dC k) && decide ((es.map fun e => (dC e.1, g e.2)).length < sizeLine) then some (D.dic true (dPut (es.map fun e => (dC e.1, g e.2)) (dC k) (g v))) else none) = _
  have l : decide ((es.map fun e => (dC e.1, g e.2)).length < sizeLine) = true := decide_eq_true (by rw [List.length_map]; exact Nat.lt_of_lt_of_le hl size_big)
  rw [isKey_C, l]
  unfold dPut dT
  rw [a, List.map_map, List.map_map]
  show some (D.dic true _) = _
  congr 2
  refine List.map_congr_left fun e _ => ?_
  show (if keq (dC e.1) (dC k) = true then (dC e.1, g v) else (dC e.1, g e.2)) = (dC (if e.1 = k then (e.1, v) else e).1, g (if e.1 = k then (e.1, v) else e).2)
  rw [keq_C]
  by_cases q : e.1 = k
  · rw [if_pos q, if_pos (decide_eq_true q)]
  · rw [if_neg q, if_neg (by rw [decide_eq_false q]; decide)]
/-- a set of rows, as the keys of a dict -/
def dS (ks : List (List Int)) : D := dT (fun _ : Unit => .bl true) (ks.map fun k => (k, ()))
def putS (ks : List (List Int)) (k : List Int) : List (List Int) := if k ∈ ks then ks else ks ++ [k]
theorem setDx_S {ks : List (List Int)} {k : List Int} (hl : ks.length < 2 ^ 24) : setDx (dS ks) (dC k) (.bl true) = some (dS (putS ks k)) := by
  unfold dS putS
  by_cases q : k ∈ ks
  · have h : (gtT (ks.map fun k => (k, ())) k).isSome = true := by
      cases z : gtT (ks.map fun k => (k, ())) k with
      | some _ => rfl
      | none => exact absurd rfl (gtT_none.mp z (k, ()) (List.mem_map.mpr ⟨k, q, rfl⟩))
    rw [if_pos q, setDx_old (v := ()) h (by rw [List.length_map]; exact hl), List.map_map]
    congr 2
    refine List.map_congr_left fun e _ => ?_
    show (if e = k then (e, ()) else (e, ())) = (e, ())
    split <;> rfl
  · have h : gtT (ks.map fun k => (k, ())) k = none := gtT_none.mpr fun e he => by
      obtain ⟨x, hx, rfl⟩ := List.mem_map.mp he
      exact fun z => q (z ▸ hx)
    rw [if_neg q, setDx_new (v := ()) h (by rw [List.length_map]; exact hl), List.map_append]
    rfl
theorem putS_len (ks : List (List Int)) (k : List Int) : (putS ks k).length ≤ ks.length + 1 := by
  unfold putS
  split
  · omega
  · simp
theorem mem_putS {ks : List (List Int)} {k x : List Int} : x ∈ putS ks k ↔ x ∈ ks ∨ x = k := by
  unfold putS
  split
  · rename_i h
    exact ⟨.inl, fun z => z.elim id fun z => z ▸ h⟩
  · rw [List.mem_append, List.mem_singleton]
theorem tupsO_C' : ∀ {ks : List (List Int)}, tupsO (ks.map dC) = some ks
  | [] => rfl
  | k :: ks => by
    have a := tupsO_C' (ks := ks)
    have b : tupO (dC k) = some k := intsO_ints k
    show (match tupO (dC k), tupsO (ks.map dC) with
      | some k, some ks => some (k :: ks)
      | _, _ => none) = _
    rw [a, b]
theorem tupsO_C {ks : List (List Int)} (_ : ∀ k ∈ ks, k ≠ []) : tupsO (ks.map dC) = some ks := tupsO_C'
theorem s1_sortT (ks : List (List Int)) : sem1 .sortT (dL ks) = some (dL (sortX ks)) := by
  show (tupsO (ks.map dC)).map (fun ns => D.lst ((sortX ns).map tI)) = _
  rw [tupsO_C']
  rfl
theorem s1_sortS {ks : List (List Int)} (h : ∀ k ∈ ks, k ≠ []) : sem1 .sortT (dS ks) = some (.lst ((sortX ks).map dC)) := by
  show (tupsO (((ks.map fun k => (k, ())).map fun e => (dC e.1, D.bl true)).map (·.1))).map (fun ns => D.lst ((sortX ns).map tI)) = _
  have e : ((ks.map fun k => (k, ())).map fun e => (dC e.1, D.bl true)).map (·.1) = ks.map dC := by
    rw [List.map_map, List.map_map]
    rfl
  rw [e, tupsO_C h]
  rfl
/-- rows among rows -/
theorem sh_R (r : List Int) : shD (dR r) = true ∧ (toP (dR r)).depth ≤ 1 ∧ (toP (dR r)).canLay0 = true := by
  unfold shD SeqAt.shaped dR
  rw [toP, toPs_ints, PyData.depth, PyData.canLay0, depth_ints, lay_ints]
  exact ⟨by decide, by decide, rfl⟩
theorem sh_Rs (rs : List (List Int)) : shD (dRs rs) = true := by
  have a : PyData.canLayAll0 (toPs (rs.map dR)) = true ∧ PyData.depthAll (toPs (rs.map dR)) ≤ 1 := by
    induction rs with
    | nil => exact ⟨rfl, Nat.zero_le _⟩
    | cons r rs ih =>
      obtain ⟨_, d, l⟩ := sh_R r
      rw [List.map_cons, toPs, PyData.canLayAll0, PyData.depthAll, l, ih.1]
      exact ⟨rfl, Nat.max_le.mpr ⟨d, ih.2⟩⟩
  unfold shD SeqAt.shaped dRs
  rw [toP, PyData.depth, PyData.canLay0, a.1]
  have : PyData.depthAll (toPs (rs.map dR)) + 1 ≤ 64 := by omega
  simp [this]
theorem eqF_R (a b : List Int) : eqF (dR a) (dR b) = decide (a = b) := by
  have := eqD_R a b
  unfold eqD at this
  split at this
  · exact Option.some.inj this
  · cases this
theorem any_R (rs : List (List Int)) (x : List Int) : (rs.map dR).any (fun y => eqF y (dR x)) = decide (x ∈ rs) := by
  induction rs with
  | nil => simp
  | cons a rs ih =>
    rw [List.map_cons, List.any_cons, ih, eqF_R]
    by_cases h : a = x
    · simp [h]
    · have h' : ¬ x = a := fun z => h z.symm
      simp [h, h']
theorem s2_memRs (r : List Int) (rs : List (List Int)) : sem2 .mem (dR r) (dRs rs) = some (.bl (decide (r ∈ rs))) := by
  show (if (flatD (dR r) && (rs.map dR).all flatD) || (shD (dR r) && shD (dRs rs)) then some (D.bl ((rs.map dR).any fun y => eqF y (dR r))) else none) = _
  rw [any_R, (sh_R r).1, sh_Rs, Bool.and_self, Bool.or_true, if_pos rfl]
theorem s2_nmemRs (r : List Int) (rs : List (List Int)) : sem2 .nmem (dR r) (dRs rs) = some (.bl (!decide (r ∈ rs))) := by
  show (if (flatD (dR r) && (rs.map dR).all flatD) || (shD (dR r) && shD (dRs rs)) then some (D.bl (!(rs.map dR).any fun y => eqF y (dR r))) else none) = _
  rw [any_R, (sh_R r).1, sh_Rs, Bool.and_self, Bool.or_true, if_pos rfl]
/-! a set of numbers, as the keys of a dict -/
def dSI (xs : List Int) : D := .dic false (xs.map fun x => (.int x, .bl true))
theorem keq_I (a b : Int) : keq (.int a) (.int b) = decide (a = b) := by
  show decide ((Sum.inl a : Key) = Sum.inl b) = _
  congr 1
  exact propext ⟨fun h => Sum.inl.inj h, fun h => by rw [h]⟩
theorem any_SI (xs : List Int) (x : Int) : ((xs.map fun x => (D.int x, D.bl true)).any fun e => keq e.1 (.int x)) = decide (x ∈ xs) := by
  induction xs with
  | nil => simp
  | cons a xs ih =>
    rw [List.map_cons, List.any_cons, ih, keq_I]
    by_cases h : a = x
    · simp [h]
    · have h' : ¬ x = a := fun z => h z.symm
      simp [h, h']
theorem get_SI (xs : List Int) (x : Int) : (dGet (xs.map fun x => (D.int x, D.bl true)) (.int x)).isSome = decide (x ∈ xs) := by
  unfold dGet
  rw [Option.isSome_map, ← any_SI, Bool.eq_iff_iff, List.find?_isSome, List.any_eq_true]
theorem s2_nmemSI (xs : List Int) (x : Int) : sem2 .nmem (.int x) (dSI xs) = some (.bl (!decide (x ∈ xs))) := by
  show (if isKey false (.int x) then some (D.bl (!(dGet (xs.map fun x => (D.int x, D.bl true)) (.int x)).isSome)) else none) = _
  rw [get_SI]
  rfl
theorem s2_memSI (xs : List Int) (x : Int) : sem2 .mem (.int x) (dSI xs) = some (.bl (decide (x ∈ xs))) := by
  show (if isKey false (.int x) then some (D.bl (dGet (xs.map fun x => (D.int x, D.bl true)) (.int x)).isSome) else none) = _
  rw [get_SI]
  rfl
theorem setDx_SI {xs : List Int} {x : Int} (h : x ∉ xs) (hl : xs.length < 2 ^ 24) : setDx (dSI xs) (.int x) (.bl true) = some (dSI (xs ++ [x])) := by
  show (if isKey false (.int x) && decide ((xs.map fun x => (D.int x, D.bl true)).length < sizeLine) then some (D.dic false (dPut (xs.map fun x => (D.int x, D.bl true)) (.int x) (.bl true))) else none) = _
  have l : decide ((xs.map fun x => (D.int x, D.bl true)).length < sizeLine) = true := decide_eq_true (by rw [List.length_map]; exact Nat.lt_of_lt_of_le hl size_big)
  rw [show isKey false (.int x) = true from rfl, l]
  unfold dPut dSI
  rw [any_SI, decide_eq_false h, List.map_append]
  rfl
end Bell
set_option Elab.async false
set_option linter.all false
set_option maxRecDepth 100000
set_option autoImplicit false
namespace K45
open PySem PySem.Spec PyProof.Rows L2 Bell
abbrev pw : Program := PySem.Challenge.pw_roundshome_k45_whole_rows_that_steps_mak
abbrev f_is_number : Nat := 0
abbrev f_is_row : Nat := 1
abbrev f_check_bells : Nat := 2
abbrev f_product : Nat := 3
abbrev f_check_steps : Nat := 4
abbrev f_check_one : Nat := 5
abbrev f_ways_from_rounds : Nat := 6
abbrev f_made_rows : Nat := 7
abbrev f_steps_to : Nat := 8
abbrev f__law_mixed : Nat := 9
abbrev f__law_numbers : Nat := 10
abbrev f__law_draw : Nat := 11
abbrev f__law_equal : Nat := 12
abbrev f__law_all_equal : Nat := 13
abbrev f__law_drawn_row : Nat := 14
abbrev f__law_times : Nat := 15
abbrev f__law_steps : Nat := 16
abbrev f__law_search : Nat := 17
abbrev f__law_too_many : Nat := 18
abbrev f_law : Nat := 19
/-- 0 value, 1 low, 2 high, -/
def b_is_number : List Sm := [
  .ret (.and (.op1 (.isI .int) (.v 0)) (.and (.not (.op1 (.isI .bool) (.v 0))) (.chn .le .le (.v 1) (.v 0) (.v 2))))]
def d_is_number : Dt := ⟨"is_number", pw.main.body.getD 8 (.Pass ⟨0, 0, 0, 0⟩), ["value", "low", "high"], ["value", "low", "high"], [.fz, .fz, .fz], b_is_number⟩
/-- 0 value, 1 bell, -/
def C_is_row_1 : Ex := (.lc [1] (.n 1) .lst [(.v 0)] (some (.not (.call f_is_number [(.v 1), (.c (.int 1)), (.op1 .len (.v 0))]))) (.v 1))
@[simp] theorem nb_C_is_row_1 : notB' C_is_row_1 = true := nd rfl
@[simp] theorem na_C_is_row_1 : notA C_is_row_1 = true := nd rfl
def b_is_row : List Sm := [
  .ife (.or (.not (.op1 (.isI .list) (.v 0))) (.not (.chn .le .le (.g "LEAST_BELLS" (.int 3)) (.op1 .len (.v 0)) (.g "MOST_BELLS" (.int 12))))) [.ret (.c (.bl false))] [],
  .ife C_is_row_1 [.ret (.c (.bl false))] [],
  .ret (.op2 .eq (.op1 .lenSet (.v 0)) (.op1 .len (.v 0)))]
def d_is_row : Dt := ⟨"is_row", pw.main.body.getD 9 (.Pass ⟨0, 0, 0, 0⟩), ["value"], ["value", "bell"], [.fz], b_is_row⟩
/-- 0 n, -/
def b_check_bells : List Sm := [
  .ife (.not (.call f_is_number [(.v 0), (.g "LEAST_BELLS" (.int 3)), (.g "MOST_BELLS" (.int 12))])) [.rais 0] []]
def d_check_bells : Dt := ⟨"check_bells", pw.main.body.getD 10 (.Pass ⟨0, 0, 0, 0⟩), ["n"], ["n"], [.fz], b_check_bells⟩
/-- 0 row, 1 other, 2 place, -/
def C_product_1 : Ex := (.lc [2] (.n 2) .lst [(.v 1)] none (.op2 .idx (.v 0) (.op2 .sub (.v 2) (.c (.int 1)))))
@[simp] theorem nb_C_product_1 : notB' C_product_1 = true := nd rfl
@[simp] theorem na_C_product_1 : notA C_product_1 = true := nd rfl
def b_product : List Sm := [
  .ret C_product_1]
def d_product : Dt := ⟨"product", pw.main.body.getD 11 (.Pass ⟨0, 0, 0, 0⟩), ["row", "other"], ["row", "other", "place"], [.fz, .fz], b_product⟩
/-- 0 n, 1 steps, 2 row, -/
def C_check_steps_1 : Ex := (.lc [2] (.n 2) .lst [(.v 1)] (some (.or (.not (.call f_is_row [(.v 2)])) (.op2 .ne (.op1 .len (.v 2)) (.v 0)))) (.v 2))
@[simp] theorem nb_C_check_steps_1 : notB' C_check_steps_1 = true := nd rfl
@[simp] theorem na_C_check_steps_1 : notA C_check_steps_1 = true := nd rfl
def b_check_steps : List Sm := [
  .ex (.call f_check_bells [(.v 0)]),
  .ife (.or (.not (.op1 (.isI .list) (.v 1))) C_check_steps_1) [.rais 1] [],
  .ife (.not (.chn .le .le (.c (.int 1)) (.op1 .len (.v 1)) (.c (.int 12)))) [.rais 0] []]
def d_check_steps : Dt := ⟨"check_steps", pw.main.body.getD 14 (.Pass ⟨0, 0, 0, 0⟩), ["n", "steps"], ["n", "steps", "row"], [.fz, .fz], b_check_steps⟩
/-- 0 n, 1 row, -/
def b_check_one : List Sm := [
  .ife (.or (.not (.call f_is_row [(.v 1)])) (.op2 .ne (.op1 .len (.v 1)) (.v 0))) [.rais 1] []]
def d_check_one : Dt := ⟨"check_one", pw.main.body.getD 15 (.Pass ⟨0, 0, 0, 0⟩), ["n", "row"], ["n", "row"], [.fz, .fz], b_check_one⟩
/-- 0 n, 1 steps, 2 most, 3 found, 4 newest, 5 further, 6 key, 7 k, 8 behind, -/
def B_ways_from_rounds_1 : List Sm := [.set 8 (.op1 .tuple (.call f_product [(.v 6), (.op2 .idx (.v 1) (.v 7))])), .ife (.op2 .nmem (.v 8) (.b 3)) [.setD 3 (.v 8) (.op2 .add (.op2 .dget (.b 3) (.v 6)) (.lstD [(.v 7)])), .app 5 (.v 8)] []]
def L_ways_from_rounds_1 : Sm := .fr (.n 7) .rng1 [(.op1 .len (.v 1))] B_ways_from_rounds_1
def B_ways_from_rounds_2 : List Sm := [L_ways_from_rounds_1]
def L_ways_from_rounds_2 : Sm := .fr (.n 6) .lst [(.v 4)] B_ways_from_rounds_2
def B_ways_from_rounds_3 : List Sm := [.seto 5 (.lstD []), L_ways_from_rounds_2, .ife (.op2 .gt (.op1 .len (.b 3)) (.v 2)) [.rais 2] [], .frz 5, .set 4 (.v 5)]
def L_ways_from_rounds_3 : Sm := .whl (.v 4) B_ways_from_rounds_3
def b_ways_from_rounds : List Sm := [
  .seto 3 (.dic1 true (.op2 .trng (.c (.int 1)) (.op2 .add (.v 0) (.c (.int 1)))) (.lstD [])),
  .set 4 (.lstD [(.op2 .trng (.c (.int 1)) (.op2 .add (.v 0) (.c (.int 1))))]),
  L_ways_from_rounds_3,
  .frz 3,
  .ret (.v 3)]
def d_ways_from_rounds : Dt := ⟨"ways_from_rounds", pw.main.body.getD 16 (.Pass ⟨0, 0, 0, 0⟩), ["n", "steps", "most"], ["n", "steps", "most", "found", "newest", "further", "key", "k", "behind"], [.fz, .fz, .fz], b_ways_from_rounds⟩
/-- 0 n, 1 steps, 2 key, -/
def C_made_rows_1 : Ex := (.lc [2] (.n 2) .lst [(.op1 .sortT (.call f_ways_from_rounds [(.v 0), (.v 1), (.g "MOST_MADE" (.int 5040))]))] none (.op1 .list (.v 2)))
@[simp] theorem nb_C_made_rows_1 : notB' C_made_rows_1 = true := nd rfl
@[simp] theorem na_C_made_rows_1 : notA C_made_rows_1 = true := nd rfl
def b_made_rows : List Sm := [
  .ex (.call f_check_steps [(.v 0), (.v 1)]),
  .ret C_made_rows_1]
def d_made_rows : Dt := ⟨"made_rows", pw.main.body.getD 17 (.Pass ⟨0, 0, 0, 0⟩), ["n", "steps"], ["n", "steps", "key"], [.fz, .fz], b_made_rows⟩
/-- 0 n, 1 steps, 2 row, 3 way, -/
def b_steps_to : List Sm := [
  .ex (.call f_check_steps [(.v 0), (.v 1)]),
  .ex (.call f_check_one [(.v 0), (.v 2)]),
  .set 3 (.mth .get1 (.call f_ways_from_rounds [(.v 0), (.v 1), (.g "MOST_MADE" (.int 5040))]) [(.op1 .tuple (.v 2))]),
  .ret (.ife (.op1 .isN (.v 3)) (.c .non) (.op1 .list (.v 3)))]
def d_steps_to : Dt := ⟨"steps_to", pw.main.body.getD 18 (.Pass ⟨0, 0, 0, 0⟩), ["n", "steps", "row"], ["n", "steps", "row", "way"], [.fz, .fz, .fz], b_steps_to⟩
/-- 0 number, 1 k, 2 step, -/
def b__law_mixed : List Sm := [
  .set 2 (.op2 .mod (.op2 .add (.op2 .add (.op2 .mul (.v 0) (.c (.int 48271))) (.op2 .mul (.v 1) (.c (.int 69621)))) (.c (.int 12345))) (.c (.int 2147483647))),
  .ret (.op2 .mod (.op2 .add (.op2 .mul (.v 2) (.op2 .add (.op2 .fdiv (.v 2) (.c (.int 65536))) (.c (.int 3)))) (.v 1)) (.c (.int 2147483647)))]
def d__law_mixed : Dt := ⟨"_law_mixed", pw.main.body.getD 20 (.Pass ⟨0, 0, 0, 0⟩), ["number", "k"], ["number", "k", "step"], [.fz, .fz], b__law_mixed⟩
/-- 0 script, 1 numbers, 2 cell, 3 rest, 4 k, -/
def b__law_numbers : List Sm := [
  .seto 1 (.lstD []),
  .fr (.n 2) .scr [(.v 0)] [.ife (.op2 .ge (.v 2) (.op2 .pow (.c (.int 10)) (.c (.int 18)))) [.set 3 (.v 2), .fr (.n 4) .rng1 [(.c (.int 60))] [.ife (.op2 .gt (.v 3) (.c (.int 0))) [.app 1 (.op2 .mod (.v 3) (.c (.int 1000000))), .set 3 (.op2 .fdiv (.v 3) (.c (.int 1000000)))] []]] [.app 1 (.op2 .mod (.v 2) (.c (.int 1000000))), .fr (.n 4) .rng1 [(.c (.int 5))] [.app 1 (.op2 .mod (.call f__law_mixed [(.call f__law_mixed [(.op2 .mod (.v 2) (.c (.int 2147483647))), (.v 4)]), (.op2 .add (.v 4) (.c (.int 7)))]) (.c (.int 1000000)))]]],
  .frz 1,
  .ret (.v 1)]
def d__law_numbers : Dt := ⟨"_law_numbers", pw.main.body.getD 21 (.Pass ⟨0, 0, 0, 0⟩), ["script"], ["script", "numbers", "cell", "rest", "k"], [.fz], b__law_numbers⟩
/-- 0 draws, 1 at, 2 first, -/
def b__law_draw : List Sm := [
  .set 1 (.op2 .idx (.b 0) (.c (.int 1))),
  .setIx 0 (.c (.int 1)) (.op2 .add (.v 1) (.c (.int 1))),
  .ife (.op2 .lt (.v 1) (.op1 .len (.op2 .idx (.b 0) (.c (.int 0))))) [.ret (.op2 .idx (.op2 .idx (.b 0) (.c (.int 0))) (.v 1))] [],
  .set 2 (.op2 .add (.c (.int 1)) (.v 1)),
  .ife (.op2 .gt (.op1 .len (.op2 .idx (.b 0) (.c (.int 0)))) (.c (.int 0))) [.set 2 (.op2 .add (.v 2) (.op2 .mul (.c (.int 1009)) (.op2 .idx (.op2 .idx (.b 0) (.c (.int 0))) (.c (.int 0)))))] [],
  .ret (.op2 .mod (.call f__law_mixed [(.call f__law_mixed [(.v 2), (.v 1)]), (.c (.int 5))]) (.c (.int 1000000)))]
def d__law_draw : Dt := ⟨"_law_draw", pw.main.body.getD 22 (.Pass ⟨0, 0, 0, 0⟩), ["draws"], ["draws", "at", "first"], [.li], b__law_draw⟩
/-- 0 actual, 1 due, -/
def b__law_equal : List Sm := [
  .ife (.op1 (.isI .list) (.v 1)) [.ret (.and (.op1 (.isI .list) (.v 0)) (.and (.op2 .eq (.op1 .len (.v 0)) (.op1 .len (.v 1))) (.call f__law_all_equal [(.v 0), (.v 1)])))] [],
  .ife (.op1 (.isI .tuple) (.v 1)) [.ret (.and (.op1 (.isI .tuple) (.v 0)) (.and (.op2 .eq (.op1 .len (.v 0)) (.op1 .len (.v 1))) (.call f__law_all_equal [(.v 0), (.v 1)])))] [],
  .ife (.op1 (.isI .bool) (.v 1)) [.ret (.and (.op1 (.isI .bool) (.v 0)) (.op2 .eq (.v 0) (.v 1)))] [],
  .ife (.op1 (.isI .int) (.v 1)) [.ret (.and (.op1 (.isI .int) (.v 0)) (.and (.not (.op1 (.isI .bool) (.v 0))) (.op2 .eq (.v 0) (.v 1))))] [],
  .ife (.op1 (.isI .str) (.v 1)) [.ret (.and (.op1 (.isI .str) (.v 0)) (.op2 .eq (.v 0) (.v 1)))] [],
  .ret (.op1 .isN (.v 0))]
def d__law_equal : Dt := ⟨"_law_equal", pw.main.body.getD 23 (.Pass ⟨0, 0, 0, 0⟩), ["actual", "due"], ["actual", "due"], [.fz, .fz], b__law_equal⟩
/-- 0 actual, 1 due, 2 k, -/
def b__law_all_equal : List Sm := [
  .fr (.n 2) .rng1 [(.op1 .len (.v 1))] [.ife (.not (.call f__law_equal [(.op2 .idx (.v 0) (.v 2)), (.op2 .idx (.v 1) (.v 2))])) [.ret (.c (.bl false))] []],
  .ret (.c (.bl true))]
def d__law_all_equal : Dt := ⟨"_law_all_equal", pw.main.body.getD 24 (.Pass ⟨0, 0, 0, 0⟩), ["actual", "due"], ["actual", "due", "k"], [.fz, .fz], b__law_all_equal⟩
/-- 0 draws, 1 n, 2 row, 3 turn, 4 a, 5 b, 6 k, -/
def C__law_drawn_row_1 : Ex := (.lc [6] (.n 6) .rng1 [(.v 1)] none (.op2 .add (.v 6) (.c (.int 1))))
@[simp] theorem nb_C__law_drawn_row_1 : notB' C__law_drawn_row_1 = true := nd rfl
@[simp] theorem na_C__law_drawn_row_1 : notA C__law_drawn_row_1 = true := nd rfl
def B__law_drawn_row_1 : List Sm := [.par 4 5 (.op2 .mod (.call f__law_draw [(.io 0)]) (.v 1)) (.op2 .mod (.call f__law_draw [(.io 0)]) (.v 1)), .swap 2 (.v 4) (.v 5) (.op2 .idx (.b 2) (.v 5)) (.op2 .idx (.b 2) (.v 4))]
def L__law_drawn_row_1 : Sm := .fr (.n 3) .rng1 [(.op2 .idx (.lstD [(.v 1), (.c (.int 1)), (.c (.int 2)), (.c (.int 3))]) (.op2 .mod (.call f__law_draw [(.io 0)]) (.c (.int 4))))] B__law_drawn_row_1
def b__law_drawn_row : List Sm := [
  .setc 2 C__law_drawn_row_1,
  L__law_drawn_row_1,
  .frz 2,
  .ret (.v 2)]
def d__law_drawn_row : Dt := ⟨"_law_drawn_row", pw.main.body.getD 25 (.Pass ⟨0, 0, 0, 0⟩), ["draws", "n"], ["draws", "n", "row", "turn", "a", "b", "k"], [.li, .fz], b__law_drawn_row⟩
/-- 0 row, 1 other, 2 place, -/
def C__law_times_1 : Ex := (.lc [2] (.n 2) .lst [(.v 1)] none (.op2 .idx (.v 0) (.op2 .sub (.v 2) (.c (.int 1)))))
@[simp] theorem nb_C__law_times_1 : notB' C__law_times_1 = true := nd rfl
@[simp] theorem na_C__law_times_1 : notA C__law_times_1 = true := nd rfl
def b__law_times : List Sm := [
  .ret C__law_times_1]
def d__law_times : Dt := ⟨"_law_times", pw.main.body.getD 26 (.Pass ⟨0, 0, 0, 0⟩), ["row", "other"], ["row", "other", "place"], [.fz, .fz], b__law_times⟩
/-- 0 draws, 1 n, 2 kind, 3 many, 4 found, 5 k, 6 row, 7 p, 8 size, -/
def C__law_steps_1 : Ex := (.lc [7] (.n 7) .rng1 [(.v 1)] none (.op2 .add (.v 7) (.c (.int 1))))
@[simp] theorem nb_C__law_steps_1 : notB' C__law_steps_1 = true := nd rfl
@[simp] theorem na_C__law_steps_1 : notA C__law_steps_1 = true := nd rfl
def B__law_steps_1 : List Sm := [.swap 6 (.v 7) (.op2 .add (.v 7) (.c (.int 1))) (.op2 .idx (.b 6) (.op2 .add (.v 7) (.c (.int 1)))) (.op2 .idx (.b 6) (.v 7))]
def L__law_steps_1 : Sm := .fr (.n 7) .rng3 [(.op2 .mod (.call f__law_draw [(.io 0)]) (.c (.int 2))), (.op2 .sub (.v 1) (.c (.int 1))), (.c (.int 2))] B__law_steps_1
def C__law_steps_2 : Ex := (.lc [5] (.n 5) .rng1 [(.v 1)] none (.op2 .add (.v 5) (.c (.int 1))))
@[simp] theorem nb_C__law_steps_2 : notB' C__law_steps_2 = true := nd rfl
@[simp] theorem na_C__law_steps_2 : notA C__law_steps_2 = true := nd rfl
def B__law_steps_2 : List Sm := [.set 6 (.call f__law_drawn_row [(.io 0), (.v 1)]), .ife (.op2 .eq (.v 2) (.c (.int 1))) [.setc 6 C__law_steps_1, L__law_steps_1, .frz 6] [], .ife (.op2 .eq (.v 2) (.c (.int 3))) [.set 8 (.op2 .add (.c (.int 1)) (.op2 .mod (.call f__law_draw [(.io 0)]) (.v 1))), .setc 6 C__law_steps_2, .seto 6 (.op2 .catL (.op2 .add (.op3 .slice (.b 6) (.c (.int 1)) (.v 8)) (.op2 .upto (.b 6) (.c (.int 1)))) (.op2 .frm (.b 6) (.v 8))), .frz 6] [], .ife (.and (.op2 .eq (.v 2) (.c (.int 4))) (.op2 .gt (.op1 .len (.b 4)) (.c (.int 0)))) [.set 6 (.call f__law_times [(.op2 .idx (.b 4) (.c (.int 0))), (.op2 .idx (.b 4) (.op2 .sub (.op1 .len (.b 4)) (.c (.int 1))))])] [], .app 4 (.v 6)]
def L__law_steps_2 : Sm := .fr (.n 5) .rng1 [(.v 3)] B__law_steps_2
def b__law_steps : List Sm := [
  .set 2 (.op2 .mod (.call f__law_draw [(.io 0)]) (.c (.int 5))),
  .set 3 (.op2 .add (.c (.int 1)) (.op2 .mod (.call f__law_draw [(.io 0)]) (.op2 .idx (.lstD [(.c (.int 3)), (.c (.int 2)), (.c (.int 12)), (.c (.int 4)), (.c (.int 3))]) (.v 2)))),
  .seto 4 (.lstD []),
  L__law_steps_2,
  .frz 4,
  .ret (.v 4)]
def d__law_steps : Dt := ⟨"_law_steps", pw.main.body.getD 27 (.Pass ⟨0, 0, 0, 0⟩), ["draws", "n"], ["draws", "n", "kind", "many", "found", "k", "row", "p", "size"], [.li, .fz], b__law_steps⟩
/-- 0 n, 1 steps, 2 home, 3 found, 4 edge, 5 new, 6 row, 7 k, 8 one, -/
def C__law_search_1 : Ex := (.lc [7] (.n 7) .rng1 [(.v 0)] none (.op2 .add (.v 7) (.c (.int 1))))
@[simp] theorem nb_C__law_search_1 : notB' C__law_search_1 = true := nd rfl
@[simp] theorem na_C__law_search_1 : notA C__law_search_1 = true := nd rfl
def B__law_search_1 : List Sm := [.set 8 (.call f__law_times [(.v 6), (.op2 .idx (.v 1) (.v 7))]), .ife (.op2 .nmem (.op1 .tuple (.v 8)) (.b 3)) [.setD 3 (.op1 .tuple (.v 8)) (.op2 .add (.op2 .dget (.b 3) (.op1 .tuple (.v 6))) (.lstD [(.v 7)])), .app 5 (.v 8), .ife (.op2 .gt (.op1 .len (.b 3)) (.c (.int 5040))) [.ret (.c .non)] []] []]
def L__law_search_1 : Sm := .fr (.n 7) .rng1 [(.op1 .len (.v 1))] B__law_search_1
def B__law_search_2 : List Sm := [L__law_search_1]
def L__law_search_2 : Sm := .fr (.n 6) .lst [(.v 4)] B__law_search_2
def B__law_search_3 : List Sm := [.seto 5 (.lstD []), L__law_search_2, .frz 5, .set 4 (.v 5)]
def L__law_search_3 : Sm := .whl (.op2 .gt (.op1 .len (.v 4)) (.c (.int 0))) B__law_search_3
def b__law_search : List Sm := [
  .set 2 C__law_search_1,
  .seto 3 (.dic1 true (.op1 .tuple (.v 2)) (.lstD [])),
  .set 4 (.lstD [(.v 2)]),
  L__law_search_3,
  .frz 3,
  .ret (.v 3)]
def d__law_search : Dt := ⟨"_law_search", pw.main.body.getD 28 (.Pass ⟨0, 0, 0, 0⟩), ["n", "steps"], ["n", "steps", "home", "found", "edge", "new", "row", "k", "one"], [.fz, .fz], b__law_search⟩
/-- 0 n, 1 steps, 2 row, -/
def b__law_too_many : List Sm := [
  .try_ [.ife (.op1 .isN (.v 2)) [.ex (.call f_made_rows [(.v 0), (.v 1)])] [.ex (.call f_steps_to [(.v 0), (.v 1), (.v 2)])]] [(2, [.ret (.c (.bl true))])],
  .ret (.c (.bl false))]
def d__law_too_many : Dt := ⟨"_law_too_many", pw.main.body.getD 29 (.Pass ⟨0, 0, 0, 0⟩), ["n", "steps", "row"], ["n", "steps", "row"], [.fz, .fz, .fz], b__law_too_many⟩
/-- 0 script, 1 draws, 2 n, 3 steps, 4 handed, 5 found, 6 row, 7 rows, 8 turn, 9 one, -/
def C_law_1 : Ex := (.lc [6] (.n 6) .lst [(.v 3)] none (.op1 .list (.v 6)))
@[simp] theorem nb_C_law_1 : notB' C_law_1 = true := nd rfl
@[simp] theorem na_C_law_1 : notA C_law_1 = true := nd rfl
def C_law_2 : Ex := (.lcd [9] (.n 9) 5 none (.op1 .list (.v 9)))
@[simp] theorem nb_C_law_2 : notB' C_law_2 = true := nd rfl
@[simp] theorem na_C_law_2 : notA C_law_2 = true := nd rfl
def B_law_1 : List Sm := [.ife (.not (.call f__law_equal [(.call f_steps_to [(.v 2), (.v 4), (.v 6)]), (.ife (.op2 .mem (.op1 .tuple (.v 6)) (.v 5)) (.op2 .dget (.v 5) (.op1 .tuple (.v 6))) (.c .non))])) [.ret (.c (.bl false))] [], .set 6 (.op2 .idx (.v 7) (.op2 .mod (.call f__law_draw [(.io 1)]) (.op1 .len (.v 7))))]
def L_law_1 : Sm := .fr (.n 8) .rng1 [(.c (.int 4))] B_law_1
def b_law : List Sm := [
  .seto 1 (.lstD [(.call f__law_numbers [(.v 0)]), (.c (.int 0))]),
  .set 2 (.op2 .add (.c (.int 3)) (.op2 .mod (.call f__law_draw [(.io 1)]) (.op2 .idx (.lstD [(.c (.int 10)), (.c (.int 4)), (.c (.int 4)), (.c (.int 5))]) (.op2 .mod (.call f__law_draw [(.io 1)]) (.c (.int 4)))))),
  .set 3 (.call f__law_steps [(.io 1), (.v 2)]),
  .set 4 C_law_1,
  .set 5 (.call f__law_search [(.v 2), (.v 3)]),
  .set 6 (.call f__law_drawn_row [(.io 1), (.v 2)]),
  .ife (.op1 .isN (.v 5)) [.ret (.and (.call f__law_too_many [(.v 2), (.v 4), (.c .non)]) (.call f__law_too_many [(.v 2), (.v 4), (.v 6)]))] [],
  .set 7 (.op1 .sortD C_law_2),
  .ife (.not (.call f__law_equal [(.call f_made_rows [(.v 2), (.v 4)]), (.v 7)])) [.ret (.c (.bl false))] [],
  L_law_1,
  .ret (.call f__law_equal [(.v 4), (.v 3)])]
def d_law : Dt := ⟨"law", pw.main.body.getD 30 (.Pass ⟨0, 0, 0, 0⟩), ["script"], ["script", "draws", "n", "steps", "handed", "found", "row", "rows", "turn", "one"], [.fz], b_law⟩
def ts : List Dt := [d_is_number, d_is_row, d_check_bells, d_product, d_check_steps, d_check_one, d_ways_from_rounds, d_made_rows, d_steps_to, d__law_mixed, d__law_numbers, d__law_draw, d__law_equal, d__law_all_equal, d__law_drawn_row, d__law_times, d__law_steps, d__law_search, d__law_too_many, d_law]
def gi : GI := ⟨[(("is_number", [.fz, .fz, .fz]) : PySem.Str × List Md), (("is_row", [.fz]) : PySem.Str × List Md), (("check_bells", [.fz]) : PySem.Str × List Md), (("product", [.fz, .fz]) : PySem.Str × List Md), (("check_steps", [.fz, .fz]) : PySem.Str × List Md), (("check_one", [.fz, .fz]) : PySem.Str × List Md), (("ways_from_rounds", [.fz, .fz, .fz]) : PySem.Str × List Md), (("made_rows", [.fz, .fz]) : PySem.Str × List Md), (("steps_to", [.fz, .fz, .fz]) : PySem.Str × List Md), (("_law_mixed", [.fz, .fz]) : PySem.Str × List Md), (("_law_numbers", [.fz]) : PySem.Str × List Md), (("_law_draw", [.li]) : PySem.Str × List Md), (("_law_equal", [.fz, .fz]) : PySem.Str × List Md), (("_law_all_equal", [.fz, .fz]) : PySem.Str × List Md), (("_law_drawn_row", [.li, .fz]) : PySem.Str × List Md), (("_law_times", [.fz, .fz]) : PySem.Str × List Md), (("_law_steps", [.li, .fz]) : PySem.Str × List Md), (("_law_search", [.fz, .fz]) : PySem.Str × List Md), (("_law_too_many", [.fz, .fz, .fz]) : PySem.Str × List Md), (("law", [.fz]) : PySem.Str × List Md)], [("LEAST_BELLS", (.int 3)), ("MOST_BELLS", (.int 12)), ("MOST_MADE", (.int 5040))], ["isinstance", "bool", "int", "len", "list", "set", "tuple", "range", "sorted", "str"], ["BadArgument", "BadRow", "TooLarge"]⟩
def ct (i j : Nat) : Bool := ([[true, false, false], [false, true, false], [false, false, true]].getD i []).getD j false
theorem pb_is_number : PB d_is_number := fun _ _ _ _ _ _ us hl => match us, hl with | [_, _, _], _ => rfl
theorem pb_is_row : PB d_is_row := fun _ _ _ _ _ _ us hl => match us, hl with | [_], _ => rfl
theorem pb_check_bells : PB d_check_bells := fun _ _ _ _ _ _ us hl => match us, hl with | [_], _ => rfl
theorem pb_product : PB d_product := fun _ _ _ _ _ _ us hl => match us, hl with | [_, _], _ => rfl
theorem pb_check_steps : PB d_check_steps := fun _ _ _ _ _ _ us hl => match us, hl with | [_, _], _ => rfl
theorem pb_check_one : PB d_check_one := fun _ _ _ _ _ _ us hl => match us, hl with | [_, _], _ => rfl
theorem pb_ways_from_rounds : PB d_ways_from_rounds := fun _ _ _ _ _ _ us hl => match us, hl with | [_, _, _], _ => rfl
theorem pb_made_rows : PB d_made_rows := fun _ _ _ _ _ _ us hl => match us, hl with | [_, _], _ => rfl
theorem pb_steps_to : PB d_steps_to := fun _ _ _ _ _ _ us hl => match us, hl with | [_, _, _], _ => rfl
theorem pb__law_mixed : PB d__law_mixed := fun _ _ _ _ _ _ us hl => match us, hl with | [_, _], _ => rfl
theorem pb__law_numbers : PB d__law_numbers := fun _ _ _ _ _ _ us hl => match us, hl with | [_], _ => rfl
theorem pb__law_draw : PB d__law_draw := fun _ _ _ _ _ _ us hl => match us, hl with | [_], _ => rfl
theorem pb__law_equal : PB d__law_equal := fun _ _ _ _ _ _ us hl => match us, hl with | [_, _], _ => rfl
theorem pb__law_all_equal : PB d__law_all_equal := fun _ _ _ _ _ _ us hl => match us, hl with | [_, _], _ => rfl
theorem pb__law_drawn_row : PB d__law_drawn_row := fun _ _ _ _ _ _ us hl => match us, hl with | [_, _], _ => rfl
theorem pb__law_times : PB d__law_times := fun _ _ _ _ _ _ us hl => match us, hl with | [_, _], _ => rfl
theorem pb__law_steps : PB d__law_steps := fun _ _ _ _ _ _ us hl => match us, hl with | [_, _], _ => rfl
theorem pb__law_search : PB d__law_search := fun _ _ _ _ _ _ us hl => match us, hl with | [_, _], _ => rfl
theorem pb__law_too_many : PB d__law_too_many := fun _ _ _ _ _ _ us hl => match us, hl with | [_, _, _], _ => rfl
theorem pb_law : PB d_law := fun _ _ _ _ _ _ us hl => match us, hl with | [_], _ => rfl
theorem ok_is_number : chk gi d_is_number = true := by decide +kernel
theorem ok_is_row : chk gi d_is_row = true := by decide +kernel
theorem ok_check_bells : chk gi d_check_bells = true := by decide +kernel
theorem ok_product : chk gi d_product = true := by decide +kernel
theorem ok_check_steps : chk gi d_check_steps = true := by decide +kernel
theorem ok_check_one : chk gi d_check_one = true := by decide +kernel
theorem ok_ways_from_rounds : chk gi d_ways_from_rounds = true := by decide +kernel
theorem ok_made_rows : chk gi d_made_rows = true := by decide +kernel
theorem ok_steps_to : chk gi d_steps_to = true := by decide +kernel
theorem ok__law_mixed : chk gi d__law_mixed = true := by decide +kernel
theorem ok__law_numbers : chk gi d__law_numbers = true := by decide +kernel
theorem ok__law_draw : chk gi d__law_draw = true := by decide +kernel
theorem ok__law_equal : chk gi d__law_equal = true := by decide +kernel
theorem ok__law_all_equal : chk gi d__law_all_equal = true := by decide +kernel
theorem ok__law_drawn_row : chk gi d__law_drawn_row = true := by decide +kernel
theorem ok__law_times : chk gi d__law_times = true := by decide +kernel
theorem ok__law_steps : chk gi d__law_steps = true := by decide +kernel
theorem ok__law_search : chk gi d__law_search = true := by decide +kernel
theorem ok__law_too_many : chk gi d__law_too_many = true := by decide +kernel
theorem ok_law : chk gi d_law = true := by decide +kernel
abbrev Cc : Catch := ctOf gi.er ct
abbrev fk (k : Nat) : Calls := run (ctOf gi.er ct) (tabOf ts) k
theorem rn_eq {k k' f : Nat} {fn : Fn} {ds : List D} (hk : k' = k + 1) (h : tabOf ts f = some fn) (hl : ds.length = fn.np) : fk k' f ds = finFn fn.ms (exB Cc (fk k) fn.body (entry fn ds)) := by
  subst hk
  show (match tabOf ts f with
    | none => Res.stuck
    | some fn => if ds.length = fn.np then finFn fn.ms (exB Cc (fk k) fn.body (entry fn ds)) else .stuck) = _
  rw [h]
  show (if ds.length = fn.np then _ else _) = _
  rw [if_pos hl]
theorem e_is_number (k : Nat) (a0 a1 a2 : D) : fk (k + 1) f_is_number [a0, a1, a2] = finFn [] (exB Cc (fk k) b_is_number [some a0, some a1, some a2]) := rn_eq (fn := d_is_number.fn) rfl rfl rfl
theorem e_is_row (k : Nat) (a0 : D) : fk (k + 1) f_is_row [a0] = finFn [] (exB Cc (fk k) b_is_row [some a0, none]) := rn_eq (fn := d_is_row.fn) rfl rfl rfl
theorem e_check_bells (k : Nat) (a0 : D) : fk (k + 1) f_check_bells [a0] = finFn [] (exB Cc (fk k) b_check_bells [some a0]) := rn_eq (fn := d_check_bells.fn) rfl rfl rfl
theorem e_product (k : Nat) (a0 a1 : D) : fk (k + 1) f_product [a0, a1] = finFn [] (exB Cc (fk k) b_product [some a0, some a1, none]) := rn_eq (fn := d_product.fn) rfl rfl rfl
theorem e_check_steps (k : Nat) (a0 a1 : D) : fk (k + 1) f_check_steps [a0, a1] = finFn [] (exB Cc (fk k) b_check_steps [some a0, some a1, none]) := rn_eq (fn := d_check_steps.fn) rfl rfl rfl
theorem e_check_one (k : Nat) (a0 a1 : D) : fk (k + 1) f_check_one [a0, a1] = finFn [] (exB Cc (fk k) b_check_one [some a0, some a1]) := rn_eq (fn := d_check_one.fn) rfl rfl rfl
theorem e_ways_from_rounds (k : Nat) (a0 a1 a2 : D) : fk (k + 1) f_ways_from_rounds [a0, a1, a2] = finFn [] (exB Cc (fk k) b_ways_from_rounds [some a0, some a1, some a2, none, none, none, none, none, none]) := rn_eq (fn := d_ways_from_rounds.fn) rfl rfl rfl
theorem e_made_rows (k : Nat) (a0 a1 : D) : fk (k + 1) f_made_rows [a0, a1] = finFn [] (exB Cc (fk k) b_made_rows [some a0, some a1, none]) := rn_eq (fn := d_made_rows.fn) rfl rfl rfl
theorem e_steps_to (k : Nat) (a0 a1 a2 : D) : fk (k + 1) f_steps_to [a0, a1, a2] = finFn [] (exB Cc (fk k) b_steps_to [some a0, some a1, some a2, none]) := rn_eq (fn := d_steps_to.fn) rfl rfl rfl
theorem e__law_mixed (k : Nat) (a0 a1 : D) : fk (k + 1) f__law_mixed [a0, a1] = finFn [] (exB Cc (fk k) b__law_mixed [some a0, some a1, none]) := rn_eq (fn := d__law_mixed.fn) rfl rfl rfl
theorem e__law_numbers (k : Nat) (a0 : D) : fk (k + 1) f__law_numbers [a0] = finFn [] (exB Cc (fk k) b__law_numbers [some a0, none, none, none, none]) := rn_eq (fn := d__law_numbers.fn) rfl rfl rfl
theorem e__law_draw (k : Nat) (a0 : D) : fk (k + 1) f__law_draw [a0] = finFn [0] (exB Cc (fk k) b__law_draw [some a0, none, none]) := rn_eq (fn := d__law_draw.fn) rfl rfl rfl
theorem e__law_equal (k : Nat) (a0 a1 : D) : fk (k + 1) f__law_equal [a0, a1] = finFn [] (exB Cc (fk k) b__law_equal [some a0, some a1]) := rn_eq (fn := d__law_equal.fn) rfl rfl rfl
theorem e__law_all_equal (k : Nat) (a0 a1 : D) : fk (k + 1) f__law_all_equal [a0, a1] = finFn [] (exB Cc (fk k) b__law_all_equal [some a0, some a1, none]) := rn_eq (fn := d__law_all_equal.fn) rfl rfl rfl
theorem e__law_drawn_row (k : Nat) (a0 a1 : D) : fk (k + 1) f__law_drawn_row [a0, a1] = finFn [0] (exB Cc (fk k) b__law_drawn_row [some a0, some a1, none, none, none, none, none]) := rn_eq (fn := d__law_drawn_row.fn) rfl rfl rfl
theorem e__law_times (k : Nat) (a0 a1 : D) : fk (k + 1) f__law_times [a0, a1] = finFn [] (exB Cc (fk k) b__law_times [some a0, some a1, none]) := rn_eq (fn := d__law_times.fn) rfl rfl rfl
theorem e__law_steps (k : Nat) (a0 a1 : D) : fk (k + 1) f__law_steps [a0, a1] = finFn [0] (exB Cc (fk k) b__law_steps [some a0, some a1, none, none, none, none, none, none, none]) := rn_eq (fn := d__law_steps.fn) rfl rfl rfl
theorem e__law_search (k : Nat) (a0 a1 : D) : fk (k + 1) f__law_search [a0, a1] = finFn [] (exB Cc (fk k) b__law_search [some a0, some a1, none, none, none, none, none, none, none]) := rn_eq (fn := d__law_search.fn) rfl rfl rfl
theorem e__law_too_many (k : Nat) (a0 a1 a2 : D) : fk (k + 1) f__law_too_many [a0, a1, a2] = finFn [] (exB Cc (fk k) b__law_too_many [some a0, some a1, some a2]) := rn_eq (fn := d__law_too_many.fn) rfl rfl rfl
theorem e_law (k : Nat) (a0 : D) : fk (k + 1) f_law [a0] = finFn [] (exB Cc (fk k) b_law [some a0, none, none, none, none, none, none, none, none, none]) := rn_eq (fn := d_law.fn) rfl rfl rfl
-- META {"order": ["is_number", "is_row", "check_bells", "product", "check_steps", "check_one", "ways_from_rounds", "made_rows", "steps_to", "_law_mixed", "_law_numbers", "_law_draw", "_law_equal", "_law_all_equal", "_law_drawn_row", "_law_times", "_law_steps", "_law_search", "_law_too_many", "law"], "names": ["RingError", "BadRow", "BadArgument", "TooLarge", "LEAST_BELLS", "MOST_BELLS", "is_number", "is_row", "check_bells", "product", "MOST_MADE", "check_steps", "check_one", "ways_from_rounds", "made_rows", "steps_to", "_law_mixed", "_law_numbers", "_law_draw", "_law_equal", "_law_all_equal", "_law_drawn_row", "_law_times", "_law_steps", "_law_search", "_law_too_many", "law"], "law": 30, "row": "roundshome_k45_whole_rows_that_steps_mak"}
end K45
set_option Elab.async false
set_option linter.all false
set_option maxRecDepth 100000
set_option maxHeartbeats 0
set_option autoImplicit false
namespace K45
open PySem PySem.Spec PyProof.Rows L2 Bell
abbrev rw : PySem.W.OpenLaw := PySem.Challenge.rw_roundshome_k45_whole_rows_that_steps_mak
abbrev R : PySem.W.OpenRow := PySem.W.OpenLaw.row rw
def names0 : List Str := ["RingError", "BadRow", "BadArgument", "TooLarge", "LEAST_BELLS", "MOST_BELLS", "is_number", "is_row", "check_bells", "product", "MOST_MADE", "check_steps", "check_one", "ways_from_rounds", "made_rows", "steps_to", "_law_mixed", "_law_numbers", "_law_draw", "_law_equal", "_law_all_equal", "_law_drawn_row", "_law_times", "_law_steps", "_law_search", "_law_too_many"]
def names : List Str := names0
abbrev hk : PySem.W.Hook := hookL 5 gi.er (faOf gi ct) (ts.map dd)
def ob (s : PySem.W.SharedT) : Bool × He.AlD := obL 5 gi.er (faOf gi ct) (ts.map dd) (HandSHeadRun.getT s)
theorem ob_eq (s : PySem.W.SharedT) : ob s = hk.obs s.abs := obL_eq (HandSHeadRun.getT_eq s)
theorem runE (w : World) : HandSHeadRun.RunEq R (PySem.W.view R.prog [30]) hk ob 6000 names w := by
  intro os
  kernel_rfl
theorem pbs : ∀ d ∈ ts, PB d := by
  intro d hd
  simp only [ts, List.mem_cons, List.not_mem_nil, or_false] at hd
  rcases hd with rfl | rfl | rfl | rfl | rfl | rfl | rfl | rfl | rfl | rfl | rfl | rfl | rfl | rfl | rfl | rfl | rfl | rfl | rfl | rfl
  · exact pb_is_number
  · exact pb_is_row
  · exact pb_check_bells
  · exact pb_product
  · exact pb_check_steps
  · exact pb_check_one
  · exact pb_ways_from_rounds
  · exact pb_made_rows
  · exact pb_steps_to
  · exact pb__law_mixed
  · exact pb__law_numbers
  · exact pb__law_draw
  · exact pb__law_equal
  · exact pb__law_all_equal
  · exact pb__law_drawn_row
  · exact pb__law_times
  · exact pb__law_steps
  · exact pb__law_search
  · exact pb__law_too_many
  · exact pb_law
theorem all_chk : ts.all (chk gi) = true := by
  simp only [ts, List.all_cons, List.all_nil, ok_is_number, ok_is_row, ok_check_bells, ok_product, ok_check_steps, ok_check_one, ok_ways_from_rounds, ok_made_rows, ok_steps_to, ok__law_mixed, ok__law_numbers, ok__law_draw, ok__law_equal, ok__law_all_equal, ok__law_drawn_row, ok__law_times, ok__law_steps, ok__law_search, ok__law_too_many, ok_law, Bool.and_self]
open PySem PySem.W PySem.Calls PyProof.Rows in
theorem holds_of (hrun : ∀ ns : List Int, ns.length ≤ 63 → run (ctOf gi.er ct) (tabOf ts) 24 19 [.scr ns] = .ret (.bl true) []) : rw.Holds := by
  w_on; o_law
  refine HandSHeadRun.head_any (r := R) (q := view R.prog [30]) (H := hk) (ob := ob) (M := 6000) (loose := names) (d := HandSHeadRun.topDef R.prog 30) (kwd := []) ob_eq
    (by kernel_rfl) (fun s => by kernel_rfl) runE (by kernel_rfl) (by kernel_rfl) (by kernel_rfl) (by rfl) (by first | assumption | decide +kernel) (by decide +kernel) ⟨rfl, rfl, rfl, rfl, rfl, by decide +kernel⟩ ?hw ?hc
  case hw => w_witness2
  case hc => exact law_end (l := rw) (n := 63) (k := 24) (L := 19) (m := 5) (dl := d_law) rfl (by decide) (by kernel_rfl) ⟨rfl, by decide, by decide⟩ (by kernel_rfl) rfl all_chk rfl (by decide) pbs rfl rfl rfl hrun
end K45
set_option Elab.async false
set_option linter.all false
set_option maxRecDepth 100000
set_option autoImplicit false
namespace K45
open PySem Bell L2
def mixed (a b : Int) : Int := ((a * 48271 + b * 69621 + 12345) % 2147483647 * ((a * 48271 + b * 69621 + 12345) % 2147483647 / 65536 + 3) + b) % 2147483647
theorem r_mixed (k : Nat) (a b : Int) : fk (k + 1) f__law_mixed [.int a, .int b] = .ret (.int (mixed a b)) [] := by
  have h0 : 0 ≤ (a * 48271 + b * 69621 + 12345) % 2147483647 := Int.emod_nonneg _ (by decide)
  have h1 : (a * 48271 + b * 69621 + 12345) % 2147483647 < 2147483647 := Int.emod_lt_of_pos _ (by decide)
  have e := s2_mul' (i := (a * 48271 + b * 69621 + 12345) % 2147483647) (j := (a * 48271 + b * 69621 + 12345) % 2147483647 / 65536 + 3) (by omega)
  rw [e__law_mixed]
  simp [b__law_mixed, e, mixed]
theorem r_is_number (k : Nat) (v lo hi : Int) : fk (k + 1) f_is_number [.int v, .int lo, .int hi] = .ret (.bl (decide (lo ≤ v) && decide (v ≤ hi))) [] := by
  rw [e_is_number]
  by_cases h : lo ≤ v <;> simp [b_is_number, h]
theorem eqD_str {s : Str} (h : PyData.strOk s = true) : eqD (.str s) (.str s) = some true := by
  unfold eqD SeqAt.shaped
  simp [toP, PyData.canLay0, PyData.depth, PyData.eqv, h]
/-- what the law looks at -/
def okE : Nat → D → Bool
  | _, .non => true
  | _, .bl _ => true
  | _, .int _ => true
  | _, .str s => PyData.strOk s
  | m + 1, .lst xs => xs.all (okE m) && decide (xs.length ≤ 2 ^ 24)
  | m + 1, .tup xs => xs.all (okE m) && decide (xs.length ≤ 2 ^ 24)
  | _, _ => false
theorem okE_map {α : Type} {e : α → D} {xs : List α} {m : Nat} (h : ∀ x ∈ xs, okE m (e x) = true) (hl : xs.length ≤ 2 ^ 24) : okE (m + 1) (.lst (xs.map e)) = true ∧ okE (m + 1) (.tup (xs.map e)) = true := by
  have a : (xs.map e).all (okE m) = true := by
    rw [List.all_eq_true]
    intro x hx
    obtain ⟨p, hp, rfl⟩ := List.mem_map.mp hx
    exact h p hp
  simp only [okE, a, List.length_map, Bool.true_and, decide_eq_true_eq]
  exact ⟨hl, hl⟩
theorem okE_int (m : Nat) (i : Int) : okE m (.int i) = true := by cases m <;> rfl
theorem okE_ints (m : Nat) {xs : List Int} (h : xs.length ≤ 2 ^ 24) : okE (m + 1) (dR xs) = true ∧ okE (m + 1) (dC xs) = true := okE_map (fun x _ => okE_int m x) h
theorem r_all_eq (k : Nat) {xs : List D} {w : D} (hw : w = .lst xs ∨ w = .tup xs) (hn : xs.length ≤ 2 ^ 24) (h : ∀ x ∈ xs, fk k f__law_equal [x, x] = .ret (.bl true) []) : fk (k + 1) f__law_all_equal [w, w] = .ret (.bl true) [] := by
  rw [e__law_all_equal]
  unfold b__law_all_equal
  have L : evL (fk k) [.op1 .len (.v 1)] [some w, some w, none] = .ok [.int xs.length] [some w, some w, none] := by
    rcases hw with rfl | rfl <;> simp
  obtain ⟨s, o, e, _⟩ := fr_inv (C := Cc) (φ := fk k) (j := 2) (ik := .rng1) (its := [.op1 .len (.v 1)]) (B := [.ife (.not (.call f__law_equal [(.op2 .idx (.v 0) (.v 2)), (.op2 .idx (.v 1) (.v 2))])) [.ret (.c (.bl false))] []]) (emb := dI) (ds := [.int xs.length]) (xs := List.range xs.length) (ρ := [some w, some w, none])
    (fun (s : Unit) o => [some w, some w, o]) (fun _ _ => True) (s0 := ()) (o0 := none) L (items_rng1 hn) (fun _ _ _ => rfl) trivial fun i c hc s _ => ⟨s, by
      obtain ⟨hi, rfl⟩ := List.getElem?_eq_some_iff.mp hc
      rw [List.length_range] at hi
      rw [List.getElem_range]
      have ix : atI xs (i : Int) = some xs[i] := atI_nat (List.getElem?_eq_getElem hi)
      have q := h xs[i] (List.getElem_mem hi)
      rcases hw with rfl | rfl <;> simp [dI, ix, q], trivial⟩
  rw [z_cons, e]
  simp
theorem r_equal : ∀ (m : Nat) (d : D), okE m d = true → ∀ k, fk (k + 2 * m + 1) f__law_equal [d, d] = .ret (.bl true) [] := by
  intro m
  induction m with
  | zero =>
    intro d hd k
    rw [show k + 2 * 0 + 1 = (k + 2 * 0) + 1 from rfl, e__law_equal]
    cases d with
    | non => simp [b__law_equal]
    | bl b => simp [b__law_equal, eqD_bl]
    | int b => simp [b__law_equal, eqD_int]
    | str b => simp [b__law_equal, eqD_str hd]
    | _ => cases hd
  | succ m ih =>
    intro d hd k
    have up : ∀ d, okE m d = true → fk (k + 2 * (m + 1) + 1) f__law_equal [d, d] = .ret (.bl true) [] := fun d h => by
      have := ih d h (k + 2)
      rwa [show k + 2 + 2 * m + 1 = k + 2 * (m + 1) + 1 by omega] at this
    cases d with
    | lst xs =>
      obtain ⟨h1, h2⟩ := and2 (show (xs.all (okE m) && decide (xs.length ≤ 2 ^ 24)) = true from hd)
      have h1 := List.all_eq_true.mp h1
      have A := r_all_eq (k + 2 * m + 1) (w := .lst xs) (.inl rfl) (of_decide_eq_true h2) fun x hx => ih x (h1 x hx) k
      rw [show k + 2 * (m + 1) + 1 = (k + 2 * m + 1 + 1) + 1 by omega, e__law_equal]
      generalize k + 2 * m + 1 + 1 = kk at A
      simp [b__law_equal, eqD_int, A]
    | tup xs =>
      obtain ⟨h1, h2⟩ := and2 (show (xs.all (okE m) && decide (xs.length ≤ 2 ^ 24)) = true from hd)
      have h1 := List.all_eq_true.mp h1
      have A := r_all_eq (k + 2 * m + 1) (w := .tup xs) (.inr rfl) (of_decide_eq_true h2) fun x hx => ih x (h1 x hx) k
      rw [show k + 2 * (m + 1) + 1 = (k + 2 * m + 1 + 1) + 1 by omega, e__law_equal]
      generalize k + 2 * m + 1 + 1 = kk at A
      simp [b__law_equal, eqD_int, A]
    | non => exact up _ (by cases m <;> rfl)
    | bl b => exact up _ (by cases m <;> rfl)
    | int b => exact up _ (by cases m <;> rfl)
    | str b => exact up _ (by cases m <;> exact hd)
    | _ => cases hd
theorem mixed_rng (a b : Int) : 0 ≤ mixed a b ∧ mixed a b < 2147483647 := ⟨Int.emod_nonneg _ (by decide), Int.emod_lt_of_pos _ (by decide)⟩
/-- numbers below a million -/
def Mil (ns : List Int) : Prop := ∀ n ∈ ns, 0 ≤ n ∧ n < 1000000
theorem mil_mod (a : Int) : 0 ≤ a % 1000000 ∧ a % 1000000 < 1000000 := ⟨Int.emod_nonneg _ (by decide), Int.emod_lt_of_pos _ (by decide)⟩
theorem mil_snoc {ns : List Int} {a : Int} (h : Mil ns) (ha : 0 ≤ a ∧ a < 1000000) : Mil (ns ++ [a]) := fun n hn => by
  rcases List.mem_append.mp hn with hn | hn
  · exact h n hn
  · rw [List.mem_singleton.mp hn]; exact ha
theorem big_loop (k : Nat) (sc c : D) (x : Int) (nums : List Int) (o4 : Option D) (hm : Mil nums) (hl : nums.length ≤ 4000) : ∃ nums' rest o, exS Cc (fk k) (.fr (.n 4) .rng1 [(.c (.int 60))] [.ife (.op2 .gt (.v 3) (.c (.int 0))) [.app 1 (.op2 .mod (.v 3) (.c (.int 1000000))), .set 3 (.op2 .fdiv (.v 3) (.c (.int 1000000)))] []]) [some sc, some (.lst (nums.map .int)), some c, some (.int x), o4] = .next [some sc, some (.lst (nums'.map .int)), some c, some (.int rest), o] ∧ Mil nums' ∧ nums'.length ≤ nums.length + 60 := by
  obtain ⟨⟨ns, r⟩, o, e, h⟩ := fr_inv (C := Cc) (φ := fk k) (j := 4) (ik := .rng1) (its := [.c (.int 60)]) (B := [.ife (.op2 .gt (.v 3) (.c (.int 0))) [.app 1 (.op2 .mod (.v 3) (.c (.int 1000000))), .set 3 (.op2 .fdiv (.v 3) (.c (.int 1000000)))] []]) (emb := dI) (ds := [.int 60]) (xs := List.range 60) (ρ := [some sc, some (.lst (nums.map .int)), some c, some (.int x), o4])
    (fun (s : List Int × Int) o => [some sc, some (.lst (s.1.map .int)), some c, some (.int s.2), o]) (fun i s => Mil s.1 ∧ s.1.length ≤ nums.length + i) (s0 := (nums, x)) (o0 := o4) (by simp) (items_rng1 (n := 60) (by decide)) (fun _ _ _ => rfl) ⟨hm, Nat.le_refl _⟩ fun i y hy s ⟨h1, h2⟩ => by
      have hi : i < 60 := by have := (List.getElem?_eq_some_iff.mp hy).1; simpa using this
      obtain ⟨ns, r⟩ := s
      dsimp only at h1 h2
      by_cases hr : 0 < r
      · refine ⟨(ns ++ [r % 1000000], r / 1000000), ?_, mil_snoc h1 (mil_mod _), by simp; omega⟩
        have ap := fun ρ => y_appI (i := 1) (ρ := ρ) (ns := ns) (n := r % 1000000) (by omega)
        simp [hr, ap]
      · exact ⟨(ns, r), by simp [hr], h1, by dsimp only; omega⟩
  exact ⟨ns, r, o, e, h.1, by have := h.2; simpa using this⟩
theorem sml_loop (k : Nat) (sc : D) (x : Int) (nums : List Int) (o3 o4 : Option D) (hm : Mil nums) (hl : nums.length ≤ 4000) : ∃ nums' o, exS Cc (fk (k + 1)) (.fr (.n 4) .rng1 [(.c (.int 5))] [.app 1 (.op2 .mod (.call f__law_mixed [(.call f__law_mixed [(.op2 .mod (.v 2) (.c (.int 2147483647))), (.v 4)]), (.op2 .add (.v 4) (.c (.int 7)))]) (.c (.int 1000000)))]) [some sc, some (.lst (nums.map .int)), some (.int x), o3, o4] = .next [some sc, some (.lst (nums'.map .int)), some (.int x), o3, o] ∧ Mil nums' ∧ nums'.length ≤ nums.length + 5 := by
  obtain ⟨ns, o, e, h⟩ := fr_inv (C := Cc) (φ := fk (k + 1)) (j := 4) (ik := .rng1) (its := [.c (.int 5)]) (B := [.app 1 (.op2 .mod (.call f__law_mixed [(.call f__law_mixed [(.op2 .mod (.v 2) (.c (.int 2147483647))), (.v 4)]), (.op2 .add (.v 4) (.c (.int 7)))]) (.c (.int 1000000)))]) (emb := dI) (ds := [.int 5]) (xs := List.range 5) (ρ := [some sc, some (.lst (nums.map .int)), some (.int x), o3, o4])
    (fun (s : List Int) o => [some sc, some (.lst (s.map .int)), some (.int x), o3, o]) (fun i s => Mil s ∧ s.length ≤ nums.length + i) (s0 := nums) (o0 := o4) (by simp) (items_rng1 (n := 5) (by decide)) (fun _ _ _ => rfl) ⟨hm, Nat.le_refl _⟩ fun i y hy s ⟨h1, h2⟩ => by
      have hi : i < 5 := by have := (List.getElem?_eq_some_iff.mp hy).1; simpa using this
      refine ⟨s ++ [mixed (mixed (x % 2147483647) y) (y + 7) % 1000000], ?_, mil_snoc h1 (mil_mod _), by simp; omega⟩
      have ap := fun ρ => y_appI (i := 1) (ρ := ρ) (ns := s) (n := mixed (mixed (x % 2147483647) y) (y + 7) % 1000000) (by omega)
      simp [dI, r_mixed, ap]
  exact ⟨ns, o, e, h.1, by have := h.2; simpa using this⟩
theorem r_numbers (k : Nat) {sc : List Int} (h : sc.length ≤ 63) : ∃ nums, fk (k + 2) f__law_numbers [.scr sc] = .ret (.lst (nums.map .int)) [] ∧ Mil nums ∧ nums.length ≤ 2 ^ 20 := by
  rw [e__law_numbers]
  unfold b__law_numbers
  obtain ⟨⟨ns, o2, o3, o4⟩, o, e, h1, h2⟩ := fr_inv (C := Cc) (φ := fk (k + 1)) (j := 2) (ik := .scr) (its := [.v 0]) (B := [.ife (.op2 .ge (.v 2) (.op2 .pow (.c (.int 10)) (.c (.int 18)))) [.set 3 (.v 2), .fr (.n 4) .rng1 [(.c (.int 60))] [.ife (.op2 .gt (.v 3) (.c (.int 0))) [.app 1 (.op2 .mod (.v 3) (.c (.int 1000000))), .set 3 (.op2 .fdiv (.v 3) (.c (.int 1000000)))] []]] [.app 1 (.op2 .mod (.v 2) (.c (.int 1000000))), .fr (.n 4) .rng1 [(.c (.int 5))] [.app 1 (.op2 .mod (.call f__law_mixed [(.call f__law_mixed [(.op2 .mod (.v 2) (.c (.int 2147483647))), (.v 4)]), (.op2 .add (.v 4) (.c (.int 7)))]) (.c (.int 1000000)))]]]) (emb := D.int) (ds := [.scr sc]) (xs := sc) (ρ := [some (.scr sc), some (.lst []), none, none, none])
    (fun (s : List Int × Option D × Option D × Option D) o => [some (.scr sc), some (.lst (s.1.map .int)), o, s.2.2.1, s.2.2.2]) (fun i s => Mil s.1 ∧ s.1.length ≤ 61 * i) (s0 := ([], none, none, none)) (o0 := none) (by simp) rfl (fun _ _ _ => rfl) ⟨fun _ z => (by cases z), Nat.le_refl _⟩ fun i y hy s ⟨h1, h2⟩ => by
      have hi : i < sc.length := (List.getElem?_eq_some_iff.mp hy).1
      obtain ⟨ns, o2, o3, o4⟩ := s
      dsimp only at h1 h2
      by_cases hx : 1000000000000000000 ≤ y
      · obtain ⟨ns', r, o, e, a, b⟩ := big_loop (k + 1) (.scr sc) (.int y) y ns o4 h1 (by omega)
        exact ⟨(ns', none, some (.int r), o), by simp [hx, -z_cons, bl_cons, e], a, by dsimp only; omega⟩
      · have l0 : (ns ++ [y % 1000000]).length = ns.length + 1 := by simp
        obtain ⟨ns', o, e, a, b⟩ := sml_loop k (.scr sc) y (ns ++ [y % 1000000]) o3 o4 (mil_snoc h1 (mil_mod _)) (by omega)
        have ap := fun ρ => y_appI (i := 1) (ρ := ρ) (ns := ns) (n := y % 1000000) (by omega)
        rw [List.map_append] at e
        exact ⟨(ns', none, o3, o), by simp at e; simp [hx, ap, e], a, by dsimp only; omega⟩
  have e : exS Cc (fk (k + 1)) _ [some (.scr sc), some (.lst []), none, none, none] = .next [some (.scr sc), some (.lst (ns.map .int)), o, o3, o4] := e
  refine ⟨ns, ?_, h1, by have : ns.length ≤ 61 * sc.length := h2; omega⟩
  rw [z_cons, z_seto, x_lstZ, l_nil, bind_szL, szL_ok (by simp), fl_ok, z_next, z_cons]
  simp only [List.set_cons_succ, List.set_cons_zero]
  rw [e]
  simp
/-- draws: numbers, and how many are drawn -/
def Dr (d : D) : Prop := ∃ (ns : List Int) (a : Int), d = .lst [.lst (ns.map .int), .int a] ∧ Mil ns ∧ 0 ≤ a ∧ ns.length ≤ 2 ^ 20
theorem setIx1 (a b c : D) : Bell.setIx (.lst [a, b]) (.int 1) c = some (.lst [a, c]) := rfl
theorem r_draw (k : Nat) {d : D} (h : Dr d) : ∃ r d', fk (k + 2) f__law_draw [d] = .ret (.int r) [d'] ∧ Dr d' ∧ 0 ≤ r ∧ r < 1000000 := by
  obtain ⟨ns, a, rfl, hmil, h0, hl⟩ := h
  have hD : Dr (.lst [.lst (ns.map .int), .int (a + 1)]) := ⟨ns, a + 1, rfl, hmil, by omega, hl⟩
  rw [e__law_draw]
  by_cases hc : a < ns.length
  · have e : atI (ns.map D.int) a = some (.int (ns.getD a.toNat default)) := atI_map h0 hc
    have q : a.toNat < ns.length := by omega
    have hm := hmil (ns.getD a.toNat default) (by
      rw [List.getD_eq_getElem?_getD, List.getElem?_eq_getElem q]
      exact List.getElem_mem q)
    refine ⟨ns.getD a.toNat default, _, ?_, hD, hm⟩
    generalize ns.getD a.toNat default = z at e
    simp [b__law_draw, at0, at1, setIx1, hc, e]
  · cases ns with
    | nil =>
      refine ⟨mixed (mixed (1 + a) a) 5 % 1000000, _, ?_, hD, mil_mod _⟩
      have hc : ¬ (a < 0) := by omega
      simp [b__law_draw, at0, at1, setIx1, hc, r_mixed]
    | cons n0 ns =>
      refine ⟨mixed (mixed (1 + a + 1009 * n0) a) 5 % 1000000, _, ?_, hD, mil_mod _⟩
      have p : (0 : Int) < (ns.length : Int) + 1 := by omega
      have hc : ¬ (a < (ns.length : Int) + 1) := by simpa using hc
      simp [b__law_draw, at0, at1, setIx1, hc, p, r_mixed]
theorem dr_mod (k : Nat) {d : D} (hd : Dr d) {m : Int} (hm : 0 < m) : ∃ r d' j, fk (k + 2) f__law_draw [d] = .ret (.int r) [d'] ∧ Dr d' ∧ sem2 .mod (.int r) (.int m) = some (.int j) ∧ 0 ≤ j ∧ j < m := by
  obtain ⟨r, d', e, hd', _, _⟩ := r_draw k hd
  exact ⟨r, d', r % m, e, hd', s2_mod hm, Int.emod_nonneg _ (by omega), Int.emod_lt_of_pos _ hm⟩
def rnd (n : Int) : List Int := (List.range (n + 1 - 1).toNat).map fun (i : Nat) => 1 + (i : Int)
theorem rnd_len (n : Int) : (rnd n).length = n.toNat := by simp [rnd]
def rg (a b : Int) : List Int := (List.range (b - a).toNat).map fun (i : Nat) => a + (i : Int)
theorem mem_rg {a b x : Int} : x ∈ rg a b ↔ a ≤ x ∧ x < b := by
  unfold rg
  rw [List.mem_map]
  constructor
  · rintro ⟨i, hi, rfl⟩
    have := List.mem_range.mp hi
    omega
  · intro h
    exact ⟨(x - a).toNat, List.mem_range.mpr (by omega), by omega⟩
theorem rg_len (a b : Int) : (rg a b).length = (b - a).toNat := by simp [rg]
theorem getD_mem {α : Type} {xs : List α} {i : Nat} {d : α} (h : i < xs.length) : xs.getD i d ∈ xs := by
  rw [List.getD_eq_getElem?_getD, List.getElem?_eq_getElem h]
  exact List.getElem_mem _
/-! rows as steps: a row takes another -/
def rat (a : List Int) (q : Int) : Int := a.getD (q - 1).toNat default
def tms (a b : List Int) : List Int := b.map (rat a)
def PR (n : Int) (r : List Int) : Prop := r.Perm (rnd n)
theorem rnd_mem {n x : Int} : x ∈ rnd n ↔ 1 ≤ x ∧ x ≤ n := by
  rw [show rnd n = rg 1 (n + 1) from rfl, mem_rg]
  omega
theorem rnd_nodup (n : Int) : (rnd n).Nodup := by
  unfold rnd
  exact List.pairwise_map.mpr (List.nodup_range.imp fun {a b} h => by omega)
theorem rnd_get {n : Int} {i : Nat} (h : i < (rnd n).length) : (rnd n)[i] = 1 + (i : Int) := by
  have e : (rnd n)[i]? = some (1 + (i : Int)) := by
    unfold rnd
    rw [List.getElem?_map, List.getElem?_range (by rw [rnd_len] at h; omega)]
    rfl
  rw [List.getElem?_eq_getElem h] at e
  exact Option.some.inj e
section
variable {n : Int} {a b r s c : List Int}
theorem PR.mem (h : PR n r) {x : Int} : x ∈ r ↔ 1 ≤ x ∧ x ≤ n := h.mem_iff.trans rnd_mem
theorem PR.len (h : PR n r) : r.length = n.toNat := by rw [h.length_eq, rnd_len]
theorem PR.nd (h : PR n r) : r.Nodup := h.nodup_iff.mpr (rnd_nodup n)
theorem PR.r0 (n : Int) : PR n (rnd n) := .refl _
theorem rat_get {i : Nat} (h : i < a.length) : rat a (1 + (i : Int)) = a[i] := by
  unfold rat
  rw [show (1 + (i : Int) - 1).toNat = i by omega, List.getD_eq_getElem?_getD, List.getElem?_eq_getElem h]
  rfl
theorem tms_rnd (hl : a.length = n.toNat) : tms a (rnd n) = a := by
  unfold tms
  apply List.ext_getElem
  · rw [List.length_map, rnd_len, hl]
  · intro i h1 h2
    rw [List.getElem_map, rnd_get, rat_get h2]
theorem rnd_rat {x : Int} (h : 1 ≤ x ∧ x ≤ n) : rat (rnd n) x = x := by
  obtain ⟨i, rfl⟩ : ∃ i : Nat, x = 1 + (i : Int) := ⟨(x - 1).toNat, by omega⟩
  rw [rat_get (by rw [rnd_len]; omega), rnd_get]
theorem rnd_tms (hb : ∀ x ∈ b, 1 ≤ x ∧ x ≤ n) : tms (rnd n) b = b := by
  have e : b.map (rat (rnd n)) = b.map id := List.map_congr_left fun x hx => rnd_rat (hb x hx)
  unfold tms
  rw [e, List.map_id]
theorem rat_tms (hr : r.length = n.toNat) {x : Int} (h : 1 ≤ x ∧ x ≤ n) : rat (tms a r) x = rat a (rat r x) := by
  obtain ⟨i, rfl⟩ : ∃ i : Nat, x = 1 + (i : Int) := ⟨(x - 1).toNat, by omega⟩
  have l : i < r.length := by omega
  rw [rat_get (a := r) l, rat_get (a := tms a r) (by unfold tms; rw [List.length_map]; exact l)]
  unfold tms
  rw [List.getElem_map]
theorem tms_assoc (hr : r.length = n.toNat) (hs : ∀ x ∈ s, 1 ≤ x ∧ x ≤ n) : tms (tms a r) s = tms a (tms r s) := by
  have e : tms a (tms r s) = s.map fun x => rat a (rat r x) := by
    unfold tms
    rw [List.map_map]
    rfl
  rw [e]
  exact List.map_congr_left fun x hx => rat_tms hr (hs x hx)
theorem PR.tm (ha : PR n a) (hb : PR n b) : PR n (tms a b) := (List.Perm.map (rat a) hb).trans (by
  rw [show (rnd n).map (rat a) = a from tms_rnd ha.len]
  exact ha)
def pos (r : List Int) (x : Int) : Int := ((r.findIdx? (fun y => decide (y = x))).getD 0 : Nat)
theorem pos_spec {x : Int} (h : x ∈ r) : ∃ i : Nat, r.findIdx? (fun y => decide (y = x)) = some i ∧ r[i]? = some x ∧ pos r x = i := by
  cases q : r.findIdx? (fun y => decide (y = x)) with
  | none =>
    rw [List.findIdx?_eq_none_iff] at q
    exact absurd (q x h) (by simp)
  | some i =>
    have := List.findIdx?_eq_some_iff_getElem.mp q
    obtain ⟨l, e, _⟩ := this
    have e : r[i] = x := of_decide_eq_true e
    refine ⟨i, rfl, by rw [List.getElem?_eq_getElem l, e], ?_⟩
    unfold pos
    rw [q]
    rfl
theorem nd_inj (nd : r.Nodup) {i j : Nat} {x : Int} (h1 : r[i]? = some x) (h2 : r[j]? = some x) : i = j := by
  obtain ⟨l1, e1⟩ := List.getElem?_eq_some_iff.mp h1
  obtain ⟨l2, e2⟩ := List.getElem?_eq_some_iff.mp h2
  rcases Nat.lt_trichotomy i j with q | q | q
  · exact absurd (e1.trans e2.symm) (List.pairwise_iff_getElem.mp nd i j l1 l2 q)
  · exact q
  · exact absurd (e2.trans e1.symm) (List.pairwise_iff_getElem.mp nd j i l2 l1 q)
theorem pos_get (nd : r.Nodup) {i : Nat} (h : i < r.length) : pos r r[i] = i := by
  obtain ⟨j, _, h2, h3⟩ := pos_spec (List.getElem_mem h)
  rw [h3, nd_inj nd h2 (List.getElem?_eq_getElem h)]
theorem rat_pos {x : Int} (h : x ∈ r) : rat r (pos r x + 1) = x ∧ 0 ≤ pos r x ∧ pos r x < r.length := by
  obtain ⟨j, _, h2, h3⟩ := pos_spec h
  obtain ⟨l, e⟩ := List.getElem?_eq_some_iff.mp h2
  rw [h3, show (j : Int) + 1 = 1 + (j : Int) by omega, rat_get l]
  exact ⟨e, by omega, by omega⟩
/-- the other way -/
def bk (n : Int) (r : List Int) : List Int := (rnd n).map fun q => pos r q + 1
theorem tms_bk (h : PR n a) : tms a (bk n a) = rnd n := by
  have e : (rnd n).map (rat a ∘ fun q => pos a q + 1) = (rnd n).map id := List.map_congr_left fun x hx => (rat_pos (h.mem.mpr (rnd_mem.mp hx))).1
  unfold tms bk
  rw [List.map_map, e, List.map_id]
theorem bk_len : (bk n a).length = n.toNat := by
  unfold bk
  rw [List.length_map, rnd_len]
theorem rat_bk {x : Int} (h : 1 ≤ x ∧ x ≤ n) : rat (bk n a) x = pos a x + 1 := by
  obtain ⟨i, rfl⟩ : ∃ i : Nat, x = 1 + (i : Int) := ⟨(x - 1).toNat, by omega⟩
  rw [rat_get (by rw [bk_len]; omega)]
  unfold bk
  rw [List.getElem_map, rnd_get]
theorem pos_map (h : PR n a) : a.map (fun x => pos a x + 1) = rnd n := by
  apply List.ext_getElem
  · rw [List.length_map, rnd_len, h.len]
  · intro i h1 h2
    rw [List.length_map] at h1
    rw [List.getElem_map, pos_get h.nd h1, rnd_get]
    omega
theorem bk_tms (h : PR n a) : tms (bk n a) a = rnd n := by
  rw [← pos_map h]
  exact List.map_congr_left fun x hx => rat_bk (h.mem.mp hx)
theorem PR.bkk (h : PR n a) : PR n (bk n a) := by
  have := List.Perm.map (fun x => pos a x + 1) h.symm
  rw [pos_map h] at this
  exact this
theorem PR.rng (h : PR n r) : ∀ x ∈ r, 1 ≤ x ∧ x ≤ n := fun _ hx => h.mem.mp hx
end
theorem r_is_row (k : Nat) {n : Int} (hn : 3 ≤ n ∧ n ≤ 12) {r : List Int} (h : PR n r) : fk (k + 2) f_is_row [dR r] = .ret (.bl true) [] := by
  have hl : (r.length : Int) = n := by rw [h.len]; omega
  have C1 : ev (fk (k + 1)) C_is_row_1 [some (dR r), none] = .ok (.lst []) [some (dR r), none] := by
    unfold C_is_row_1
    rw [ev_lce (e := D.int) (g := fun _ => none) (ds := [dR r]) (xs := r) (by simp) (by simp) rfl (fun p hp => ?_) (by omega)]
    · simp
    · have := (h.mem).mp hp
      simp [dR, hl, r_is_number, this]
  have ls : sem1 .lenSet (dR r) = some (.int (r.length : Int)) := by
    show (match intsO (r.map .int) with
      | some ns => if decide ns.Nodup && decide (ns.length ≤ 4000) then some (D.int ns.length) else none
      | none => none) = _
    rw [intsO_ints]
    dsimp only
    rw [decide_eq_true (h.nd), decide_eq_true (show r.length ≤ 4000 by omega)]
    rfl
  have t1 : (3 : Int) ≤ r.length := by omega
  have t2 : (r.length : Int) ≤ 12 := by omega
  rw [e_is_row]
  unfold dR at *
  simp [b_is_row, C1, ls, eqD_int, t1, t2]
theorem at_rat {n : Int} {a : List Int} {p : Int} (ha : a.length = n.toNat) (hp : 1 ≤ p ∧ p ≤ n) : atI (a.map D.int) (p - 1) = some (.int (rat a p)) := atI_map (e := D.int) (xs := a) (i := p - 1) (by omega) (by omega)
theorem r_product {n : Int} (k : Nat) {a b : List Int} (hn : n ≤ 12) (ha : a.length = n.toNat) (hb : ∀ x ∈ b, 1 ≤ x ∧ x ≤ n) (hl : b.length ≤ 400) : fk (k + 1) f_product [dR a, dR b] = .ret (dR (tms a b)) [] := by
  have A : ev (fk k) C_product_1 [some (dR a), some (dR b), none] = .ok (dR (tms a b)) [some (dR a), some (dR b), none] := by
    unfold C_product_1
    rw [ev_lcm (e := D.int) (G := fun x => .int (rat a x)) (ds := [dR b]) (xs := b) (by simp) (by simp) rfl (fun p hp => ?_) (by omega)]
    · unfold dR tms
      rw [List.map_map]
      rfl
    · have := at_rat ha (hb p hp)
      simp [dR, this]
  rw [e_product]
  simp [b_product, A]
theorem r_law_times {n : Int} (k : Nat) {a b : List Int} (hn : n ≤ 12) (ha : a.length = n.toNat) (hb : ∀ x ∈ b, 1 ≤ x ∧ x ≤ n) (hl : b.length ≤ 400) : fk (k + 1) f__law_times [dR a, dR b] = .ret (dR (tms a b)) [] := by
  have A : ev (fk k) C__law_times_1 [some (dR a), some (dR b), none] = .ok (dR (tms a b)) [some (dR a), some (dR b), none] := by
    unfold C__law_times_1
    rw [ev_lcm (e := D.int) (G := fun x => .int (rat a x)) (ds := [dR b]) (xs := b) (by simp) (by simp) rfl (fun p hp => ?_) (by omega)]
    · unfold dR tms
      rw [List.map_map]
      rfl
    · have := at_rat ha (hb p hp)
      simp [dR, this]
  rw [e__law_times]
  simp [b__law_times, A]
theorem lrng_rnd {n : Int} (h : 3 ≤ n ∧ n ≤ 12) : sem2 .lrng (.int 1) (.int (n + 1)) = some (dR (rnd n)) := lrng_ok (by omega) (by omega) (by omega) (by omega)
end K45
set_option Elab.async false
set_option linter.all false
set_option maxRecDepth 100000
set_option autoImplicit false
namespace K45
open PySem Bell L2
/-! the search, as plain lists -/
abbrev Es := List (List Int × List Int)
def nx1 (st : List (List Int)) (r : List Int) (k : Nat) : List Int := tms r (st.getD k [])
def st1 (st : List (List Int)) (r : List Int) (S : Es × List (List Int)) (k : Nat) : Es × List (List Int) :=
  if (gtT S.1 (nx1 st r k)).isSome then S else (S.1 ++ [(nx1 st r k, ((gtT S.1 r).getD []) ++ [(k : Int)])], S.2 ++ [nx1 st r k])
def lev1 (st : List (List Int)) (S : Es × List (List Int)) (r : List Int) : Es × List (List Int) := (List.range st.length).foldl (st1 st r) S
def lev (st : List (List Int)) (S : Es × List (List Int)) : Es × List (List Int) := S.2.foldl (lev1 st) (S.1, [])
def XX (n : Int) (st : List (List Int)) : Nat → Es × List (List Int)
  | 0 => ([(rnd n, [])], [rnd n])
  | i + 1 => lev st (XX n st i)
/-- what holds of a state all along -/
structure Good (n : Int) (S : Es × List (List Int)) : Prop where
  pr : ∀ e ∈ S.1, PR n e.1
  nd : (S.1.map Prod.fst).Nodup
  ln : ∀ e ∈ S.1, e.2.length ≤ S.1.length
  nw : ∀ r ∈ S.2, (gtT S.1 r).isSome = true
section
variable {n : Int} {st : List (List Int)} {S : Es × List (List Int)} {r : List Int}
theorem gtT_mem {es : Es} {r : List Int} (h : (gtT es r).isSome = true) : ∃ p, gtT es r = some p ∧ (r, p) ∈ es := by
  obtain ⟨p, hp⟩ := Option.isSome_iff_exists.mp h
  exact ⟨p, hp, gtT_some hp⟩
theorem gtT_app {es : Es} {r q p : List Int} (h : (gtT es r).isSome = true) : gtT (es ++ [(q, p)]) r = gtT es r := by
  unfold gtT at *
  rw [List.find?_append]
  cases z : es.find? fun e => decide (e.1 = r) with
  | none => rw [z] at h; cases h
  | some x => rfl
theorem gtT_last {es : Es} {q p : List Int} (h : gtT es q = none) : gtT (es ++ [(q, p)]) q = some p := by
  unfold gtT at *
  rw [List.find?_append]
  cases z : es.find? fun e => decide (e.1 = q) with
  | none => simp
  | some x => rw [z] at h; cases h
theorem st1_good (hs : ∀ s ∈ st, PR n s) (h : Good n S) (hr : (gtT S.1 r).isSome = true) {k : Nat} (hk : k < st.length) : Good n (st1 st r S k) ∧ (gtT (st1 st r S k).1 r).isSome = true ∧ S.1.length ≤ (st1 st r S k).1.length ∧ (st1 st r S k).1.length ≤ S.1.length + 1 ∧ S.1.length + (st1 st r S k).2.length = (st1 st r S k).1.length + S.2.length ∧ PR n (nx1 st r k) := by
  obtain ⟨p, hp, hm⟩ := gtT_mem hr
  have pr : PR n r := h.pr _ hm
  have ps : PR n (st.getD k []) := hs _ (getD_mem hk)
  have po : PR n (nx1 st r k) := pr.tm ps
  unfold st1
  split
  · exact ⟨h, hr, Nat.le_refl _, Nat.le_succ _, rfl, po⟩
  · rename_i q
    have q : gtT S.1 (nx1 st r k) = none := by
      cases z : gtT S.1 (nx1 st r k) with
      | none => rfl
      | some x => rw [z] at q; exact absurd rfl q
    rw [hp]
    have lp := h.ln _ hm
    refine ⟨⟨fun e he => ?_, ?_, fun e he => ?_, fun x hx => ?_⟩, by rw [gtT_app hr]; exact hr, by simp, by simp, by simp; omega, po⟩
    · rcases List.mem_append.mp he with he | he
      · exact h.pr e he
      · rw [List.mem_singleton.mp he]
        exact po
    · rw [List.map_append]
      refine List.nodup_append.mpr ⟨h.nd, by simp, fun x hx y hy e => ?_⟩
      obtain ⟨z, hz, rfl⟩ := List.mem_map.mp hx
      have hy : y = nx1 st r k := List.mem_singleton.mp hy
      exact gtT_none.mp q z hz (e.trans hy)
    · rw [List.length_append, List.length_singleton]
      rcases List.mem_append.mp he with he | he
      · have := h.ln e he
        omega
      · rw [List.mem_singleton.mp he]
        show (p ++ [(k : Int)]).length ≤ _
        rw [List.length_append, List.length_singleton]
        have lp : p.length ≤ S.1.length := lp
        omega
    · rcases List.mem_append.mp hx with hx | hx
      · have := h.nw x hx
        rw [gtT_app this]
        exact this
      · rw [List.mem_singleton.mp hx, gtT_last q]
        rfl
theorem lev1_good (hs : ∀ s ∈ st, PR n s) (h : Good n S) (hr : (gtT S.1 r).isSome = true) : ∀ ks : List Nat, (∀ k ∈ ks, k < st.length) → Good n (ks.foldl (st1 st r) S) ∧ (∀ x, (gtT S.1 x).isSome = true → (gtT (ks.foldl (st1 st r) S).1 x).isSome = true) ∧ S.1.length ≤ (ks.foldl (st1 st r) S).1.length ∧ (ks.foldl (st1 st r) S).1.length ≤ S.1.length + ks.length ∧ S.1.length + (ks.foldl (st1 st r) S).2.length = (ks.foldl (st1 st r) S).1.length + S.2.length := by
  intro ks
  induction ks generalizing S with
  | nil => exact fun _ => ⟨h, fun _ z => z, Nat.le_refl _, Nat.le_refl _, rfl⟩
  | cons k ks ih =>
    intro hk
    obtain ⟨g1, g2, g3, g4, g5, _⟩ := st1_good hs h hr (hk k List.mem_cons_self)
    obtain ⟨i1, i2, i3, i4, i5⟩ := ih g1 g2 fun x hx => hk x (List.mem_cons_of_mem _ hx)
    rw [List.foldl_cons]
    refine ⟨i1, fun x hx => i2 x ?_, by omega, by rw [List.length_cons]; omega, by omega⟩
    unfold st1
    split
    · exact hx
    · rw [gtT_app hx]
      exact hx
theorem lev_good (hs : ∀ s ∈ st, PR n s) : ∀ (rs : List (List Int)) {S : Es × List (List Int)}, Good n S → (∀ r ∈ rs, (gtT S.1 r).isSome = true) → Good n (rs.foldl (lev1 st) S) ∧ S.1.length ≤ (rs.foldl (lev1 st) S).1.length ∧ (rs.foldl (lev1 st) S).1.length ≤ S.1.length + rs.length * st.length ∧ S.1.length + (rs.foldl (lev1 st) S).2.length = (rs.foldl (lev1 st) S).1.length + S.2.length
  | [], S, h, _ => ⟨h, Nat.le_refl _, by simp, rfl⟩
  | r :: rs, S, h, hr => by
    obtain ⟨g1, g2, g3, g4, g5⟩ := lev1_good hs h (hr r List.mem_cons_self) (List.range st.length) fun k hk => List.mem_range.mp hk
    obtain ⟨i1, i2, i3, i4⟩ := lev_good hs rs (S := lev1 st S r) g1 fun x hx => g2 x (hr x (List.mem_cons_of_mem _ hx))
    rw [List.foldl_cons]
    have e : lev1 st S r = (List.range st.length).foldl (st1 st r) S := rfl
    rw [← e] at g3 g4 g5
    rw [List.length_range] at g4
    have m : (r :: rs).length * st.length = rs.length * st.length + st.length := by rw [List.length_cons, Nat.succ_mul]
    exact ⟨i1, by omega, by rw [m]; omega, by omega⟩
theorem Good.cut (h : Good n S) : Good n (S.1, []) := ⟨h.pr, h.nd, h.ln, fun _ h => by cases h⟩
theorem lev_ok (hs : ∀ s ∈ st, PR n s) (h : Good n S) : Good n (lev st S) ∧ S.1.length ≤ (lev st S).1.length ∧ (lev st S).1.length ≤ S.1.length + S.2.length * st.length ∧ S.1.length + (lev st S).2.length = (lev st S).1.length := by
  obtain ⟨a, b, c, d⟩ := lev_good hs S.2 h.cut h.nw
  exact ⟨a, b, c, d⟩
theorem X_good (hs : ∀ s ∈ st, PR n s) : ∀ i, Good n (XX n st i)
  | 0 => ⟨fun e he => by rw [List.mem_singleton.mp he]; exact PR.r0 n, by simp [XX], fun e he => by rw [List.mem_singleton.mp he]; exact Nat.zero_le _, fun r hr => by rw [List.mem_singleton.mp hr]; simp [XX, gtT]⟩
  | i + 1 => (lev_ok hs (X_good hs i)).1
theorem X_mono (hs : ∀ s ∈ st, PR n s) : ∀ i j, i ≤ j → (XX n st i).1.length ≤ (XX n st j).1.length := by
  intro i j h
  induction j with
  | zero =>
    have : i = 0 := by omega
    rw [this]
    exact Nat.le_refl _
  | succ j ih =>
    rcases Nat.lt_or_ge i (j + 1) with l | l
    · exact Nat.le_trans (ih (by omega)) (lev_ok hs (X_good hs j)).2.1
    · have : i = j + 1 := by omega
      rw [this]
      exact Nat.le_refl _
theorem X_stop {i : Nat} (h : (XX n st i).2 = []) : ∀ j, i ≤ j → XX n st j = XX n st i := by
  intro j hj
  induction j with
  | zero =>
    have : i = 0 := by omega
    rw [this]
  | succ j ih =>
    rcases Nat.lt_or_ge i (j + 1) with l | l
    · have e := ih (by omega)
      show lev st (XX n st j) = _
      rw [e]
      unfold lev
      rw [h]
      show ((XX n st i).1, []) = XX n st i
      rw [← h]
    · have : i = j + 1 := by omega
      rw [this]
/-- all that can be had, if it is not too much -/
def Fin (n : Int) (st : List (List Int)) (es : Es) : Prop := ∃ i, (XX n st i).2 = [] ∧ (XX n st i).1 = es ∧ es.length ≤ 5040
def Big (n : Int) (st : List (List Int)) : Prop := ∃ i, 5040 < (XX n st i).1.length
theorem fin_uniq {es es' : Es} (h : Fin n st es) (h' : Fin n st es') : es = es' := by
  obtain ⟨i, a, rfl, _⟩ := h
  obtain ⟨j, b, rfl, _⟩ := h'
  rcases Nat.le_total i j with l | l
  · rw [X_stop a j l]
  · rw [X_stop b i l]
theorem fin_big (hs : ∀ s ∈ st, PR n s) {es : Es} (h : Fin n st es) (hb : Big n st) : False := by
  obtain ⟨i, a, rfl, l⟩ := h
  obtain ⟨j, b⟩ := hb
  rcases Nat.le_total i j with z | z
  · rw [X_stop a j z] at b
    omega
  · have := X_mono hs j i z
    omega
end
end K45
set_option Elab.async false
set_option linter.all false
set_option maxRecDepth 100000
set_option autoImplicit false
namespace K45
open PySem Bell L2
section
variable {n : Int} {d : D} {r : List Int}
def swp (r : List Int) (a b : Int) : List Int := (r.set a.toNat (r.getD b.toNat default)).set b.toNat (r.getD a.toNat default)
theorem swp_perm {a b : Int} (ha : 0 ≤ a ∧ a < r.length) (hb : 0 ≤ b ∧ b < r.length) : (swp r a b).Perm r := by
  have h1 : a.toNat < r.length := by omega
  have h2 : b.toNat < r.length := by omega
  have e1 : r.getD a.toNat default = r[a.toNat] := by rw [List.getD_eq_getElem?_getD, List.getElem?_eq_getElem h1]; rfl
  have e2 : r.getD b.toNat default = r[b.toNat] := by rw [List.getD_eq_getElem?_getD, List.getElem?_eq_getElem h2]; rfl
  unfold swp
  rw [e1, e2]
  exact List.set_set_perm h1 h2
theorem rnd_map (n : Int) (h : 0 ≤ n) : (List.range n.toNat).map (fun i : Nat => D.int ((i : Int) + 1)) = (rnd n).map D.int := by
  have e : rnd n = (List.range n.toNat).map fun i : Nat => 1 + (i : Int) := by
    unfold rnd
    rw [show n + 1 - 1 = n by omega]
  rw [e, List.map_map]
  refine List.map_congr_left fun i _ => ?_
  show D.int ((i : Int) + 1) = D.int (1 + (i : Int))
  rw [Int.add_comm]
theorem swap_ok {ρ : Bell.Env} {φ : Calls} {i : Nat} {k1 k2 : Ex} {a b : Int} (hi : ρ[i]? = some (some (dR r))) (e1 : ev φ k1 ρ = .ok (.int a) ρ) (e2 : ev φ k2 ρ = .ok (.int b) ρ) (f1 : ∀ o, ev φ k1 (ρ.set i o) = .ok (.int a) (ρ.set i o)) (f2 : ∀ o, ev φ k2 (ρ.set i o) = .ok (.int b) (ρ.set i o)) (ha : 0 ≤ a ∧ a < r.length) (hb : 0 ≤ b ∧ b < r.length) :
    exS Cc φ (.swap i k1 k2 (.op2 .idx (.b i) k2) (.op2 .idx (.b i) k1)) ρ = .next (ρ.set i (some (dR (swp r a b)))) := by
  have li : i < ρ.length := (List.getElem?_eq_some_iff.mp hi).1
  have rs : ∀ o : Option D, (ρ.set i o)[i]? = some o := fun o => List.getElem?_set_self li
  have xb : sem2 .idx (dR r) (.int b) = some (.int (r.getD b.toNat default)) := atI_map (e := D.int) hb.1 hb.2
  have xa : sem2 .idx (dR r) (.int a) = some (.int (r.getD a.toNat default)) := atI_map (e := D.int) ha.1 ha.2
  have s1 : Bell.setIx (dR r) (.int a) (.int (r.getD b.toNat default)) = some (dR (r.set a.toNat (r.getD b.toNat default))) := setIx_int ha.1 ha.2
  have s2 : Bell.setIx (dR (r.set a.toNat (r.getD b.toNat default))) (.int b) (.int (r.getD a.toNat default)) = some (dR (swp r a b)) := setIx_int hb.1 (by rw [List.length_set]; exact hb.2)
  generalize hw : swp r a b = w at *
  generalize dR (r.set a.toNat (r.getD b.toNat default)) = m at *
  generalize r.getD b.toNat default = vb at *
  generalize r.getD a.toNat default = va at *
  rw [z_swap]
  clear li
  simp [hi, rs, e1, e2, xa, xb, f1, f2, s1, s2, -s2_idxl]
end
end K45
set_option Elab.async false
set_option linter.all false
set_option maxRecDepth 100000
set_option autoImplicit false
namespace K45
open PySem Bell L2
theorem wh_ruleE {σ : Type} {C : Catch} {φ : Calls} {c : Ex} {B : List Sm} (enc : σ → Bell.Env) (I : σ → Prop) (m : σ → Nat) (Q : Fl → Prop) {s0 : σ} (h0 : I s0) (hm : m s0 < 2 ^ 32)
    (hstep : ∀ s, I s → (∃ ρ', tst (ev φ c (enc s)) = .ok false ρ' ∧ Q (.next ρ')) ∨ (∃ ρ1 s', tst (ev φ c (enc s)) = .ok true ρ1 ∧ exB C φ B ρ1 = .next (enc s') ∧ I s' ∧ m s' < m s) ∨ (∃ ρ1 d ρ', tst (ev φ c (enc s)) = .ok true ρ1 ∧ exB C φ B ρ1 = .ret d ρ' ∧ Q (.ret d ρ')) ∨ (∃ ρ1 k ρ', tst (ev φ c (enc s)) = .ok true ρ1 ∧ exB C φ B ρ1 = .exc k ρ' ∧ Q (.exc k ρ'))) :
    Q (exS C φ (.whl c B) (enc s0)) := by
  have e : exS C φ (.whl c B) (enc s0) = whGo (fun ρ => tst (ev φ c ρ)) (exB C φ B) FUEL (enc s0) := by simp only [exS]
  rw [e]
  have key : ∀ (n : Nat) (s : σ), I s → m s < n → Q (whGo (fun ρ => tst (ev φ c ρ)) (exB C φ B) n (enc s)) := by
    intro n
    induction n with
    | zero => intro s _ h; exact absurd h (Nat.not_lt_zero _)
    | succ n ih =>
      intro s hs hn
      unfold whGo
      rcases hstep s hs with ⟨ρ', e, q⟩ | ⟨ρ1, s', e1, e2, i, l⟩ | ⟨ρ1, d, ρ', e1, e2, q⟩ | ⟨ρ1, d, ρ', e1, e2, q⟩
      · rw [e]
        exact q
      · rw [e1]
        show Q (match exB C φ B ρ1 with
          | .next ρ => whGo (fun ρ => tst (ev φ c ρ)) (exB C φ B) n ρ
          | .brk ρ => .next ρ
          | r => r)
        rw [e2]
        exact ih s' i (by omega)
      · rw [e1]
        show Q (match exB C φ B ρ1 with
          | .next ρ => whGo (fun ρ => tst (ev φ c ρ)) (exB C φ B) n ρ
          | .brk ρ => .next ρ
          | r => r)
        rw [e2]
        exact q
      · rw [e1]
        show Q (match exB C φ B ρ1 with
          | .next ρ => whGo (fun ρ => tst (ev φ c ρ)) (exB C φ B) n ρ
          | .brk ρ => .next ρ
          | r => r)
        rw [e2]
        exact q
  exact key FUEL s0 h0 (Nat.lt_of_lt_of_le hm fuel_big)
structure Sok (n : Int) (st : List (List Int)) : Prop where
  n3 : 3 ≤ n ∧ n ≤ 12
  len : 1 ≤ st.length ∧ st.length ≤ 12
  pr : ∀ s ∈ st, PR n s
section
variable {n : Int} {st : List (List Int)} {S : Es × List (List Int)} {r : List Int}
theorem r_productT (k : Nat) {a b : List Int} (hn : n ≤ 12) (ha : a.length = n.toNat) (hb : ∀ x ∈ b, 1 ≤ x ∧ x ≤ n) (hl : b.length ≤ 400) : fk (k + 1) f_product [dC a, dR b] = .ret (dR (tms a b)) [] := by
  have A : ev (fk k) C_product_1 [some (dC a), some (dR b), none] = .ok (dR (tms a b)) [some (dC a), some (dR b), none] := by
    unfold C_product_1
    rw [ev_lcm (e := D.int) (G := fun p => .int (rat a p)) (ds := [dR b]) (xs := b) (by simp) (by simp) rfl (fun p hp => ?_) (by omega)]
    · unfold dR tms
      rw [List.map_map]
      rfl
    · have := at_rat ha (hb p hp)
      simp [dC, this]
  rw [e_product]
  simp [b_product, A]
theorem stp_facts (h : Sok n st) (g : Good n S) (hr : (gtT S.1 r).isSome = true) {i : Nat} (hi : i < st.length) :
    sem2 .idx (dRs st) (.int (i : Int)) = some (dR (st.getD i [])) ∧ PR n r ∧ PR n (st.getD i []) ∧ (∀ k, fk (k + 1) f_product [dC r, dR (st.getD i [])] = .ret (dR (nx1 st r i)) []) ∧ (∀ k, fk (k + 1) f__law_times [dR r, dR (st.getD i [])] = .ret (dR (nx1 st r i)) []) := by
  have hn := h.n3
  obtain ⟨p, _, hm⟩ := gtT_mem hr
  have pr : PR n r := g.pr _ hm
  have ps : PR n (st.getD i []) := h.pr _ (getD_mem hi)
  refine ⟨?_, pr, ps, fun k => r_productT k hn.2 pr.len ps.rng (by rw [ps.len]; omega), fun k => r_law_times k hn.2 pr.len ps.rng (by rw [ps.len]; omega)⟩
  have := atI_mapN (e := dR) (xs := st) hi
  show atI (st.map dR) (i : Int) = _
  rw [this]
  congr 2
theorem tup_R (r : List Int) : sem1 .tuple (dR r) = some (dC r) := rfl
theorem add_path (p : List Int) (i : Nat) (hl : p.length + 1 ≤ 2 ^ 24) : sem2 .add (dR p) (.lst [.int (i : Int)]) = some (dR (p ++ [(i : Int)])) := by
  unfold dR
  rw [s2_addl (by simp only [List.length_map, List.length_singleton]; omega), List.map_append]
  rfl
abbrev envW (n : Int) (st : List (List Int)) (o2 : Option D) (S : Es × List (List Int)) (E : D) (nw : List (List Int) → D) (o6 o7 o8 : Option D) : Bell.Env := [some (.int n), some (dRs st), o2, some (dT dR S.1), some E, some (nw S.2), o6, o7, o8]
theorem fd_take {i : Nat} (hi : i < st.length) : (List.range st.length).take (i + 1) = (List.range st.length).take i ++ [i] := by
  rw [List.take_succ, List.getElem?_range hi]
  rfl
/-- one row, all steps: the program -/
theorem p_row (k : Nat) (h : Sok n st) (g : Good n S) (hr : (gtT S.1 r).isSome = true) (hz : S.1.length ≤ 100000 ∧ S.2.length ≤ 100000) {E : D} {o7 o8 : Option D} : ∃ o7' o8', exS Cc (fk (k + 1)) L_ways_from_rounds_1 (envW n st (some (.int 5040)) S E dL (some (dC r)) o7 o8) = .next (envW n st (some (.int 5040)) (lev1 st S r) E dL (some (dC r)) o7' o8') := by
  have hl := h.len
  obtain ⟨⟨S', o8'⟩, o, e, hS, _, _, _, _⟩ := fr_inv (C := Cc) (φ := fk (k + 1)) (B := B_ways_from_rounds_1) (j := 7) (ik := .rng1) (its := [(.op1 .len (.v 1))]) (emb := dI) (ds := [.int st.length]) (xs := List.range st.length) (ρ := envW n st (some (.int 5040)) S E dL (some (dC r)) o7 o8)
    (fun (s : (Es × List (List Int)) × Option D) o => envW n st (some (.int 5040)) s.1 E dL (some (dC r)) o s.2) (fun i s => s.1 = ((List.range st.length).take i).foldl (st1 st r) S ∧ Good n s.1 ∧ (gtT s.1.1 r).isSome = true ∧ s.1.1.length ≤ S.1.length + i ∧ s.1.2.length ≤ S.2.length + i) (s0 := (S, o8)) (o0 := o7) (by simp [dRs]) (items_rng1 (by omega)) (fun _ _ _ => rfl) ⟨rfl, g, hr, Nat.le_refl _, Nat.le_refl _⟩ fun i x hx s ⟨hS, g, hr, hb, hb2⟩ => by
      obtain ⟨T, o8⟩ := s
      dsimp only at hS g hr hb hb2 ⊢
      obtain ⟨hi, ex⟩ := List.getElem?_eq_some_iff.mp hx
      rw [List.length_range] at hi
      rw [List.getElem_range] at ex
      subst ex
      obtain ⟨f1, f2, f3, f4, _⟩ := stp_facts h g hr hi
      have f4 := f4 k
      obtain ⟨g1, g2, g3, g4, g5, g6⟩ := st1_good h.pr g hr hi
      refine ⟨(st1 st r T i, some (dC (nx1 st r i))), ?_, by dsimp only; rw [fd_take hi, List.foldl_append, ← hS]; rfl, g1, g2, by dsimp only; omega, by dsimp only; omega⟩
      obtain ⟨p, hp, hm⟩ := gtT_mem hr
      have lp := g.ln _ hm
      have lp : p.length ≤ T.1.length := lp
      have dg : sem2 .dget (dT dR T.1) (dC r) = some (dR p) := by rw [s2_dgetD, hp]; rfl
      have nm := s2_nmemD (g := dR) (es := T.1) (k := nx1 st r i)
      have tR := tup_R (nx1 st r i)
      have ad := add_path p i (by omega)
      unfold st1
      cases q : (gtT T.1 (nx1 st r i)).isSome with
      | true =>
        rw [q] at nm
        rw [if_pos rfl]
        unfold envW
        generalize dT dR T.1 = F at *
        generalize dR (st.getD i []) = si at *
        generalize dRs st = ST at *
        generalize dR (nx1 st r i) = w at *
        generalize dC (nx1 st r i) = w2 at *
        generalize dL T.2 = NW at *
        simp [B_ways_from_rounds_1, dI, f1, f4, tR, nm, -s2_idxl]
      | false =>
        rw [q] at nm
        have q0 : gtT T.1 (nx1 st r i) = none := by
          cases z : gtT T.1 (nx1 st r i) with
          | none => rfl
          | some x => rw [z] at q; cases q
        rw [if_neg Bool.false_ne_true, hp]
        have sx := setDx_new (g := dR) (v := p ++ [(i : Int)]) q0 (by omega)
        have ap : ∀ ρ, appO 5 (.lst (T.2.map dC)) (dC (nx1 st r i)) ρ = _ := fun ρ => app_map _ (by omega)
        unfold envW dL
        show exB Cc (fk (k + 1)) B_ways_from_rounds_1 [some (.int n), some (dRs st), some (.int 5040), some (dT dR T.1), some E, some (.lst (T.2.map dC)), some (dC r), some (.int (i : Int)), o8] = .next [some (.int n), some (dRs st), some (.int 5040), some (dT dR (T.1 ++ [(nx1 st r i, p ++ [(i : Int)])])), some E, some (.lst ((T.2 ++ [nx1 st r i]).map dC)), some (dC r), some (.int (i : Int)), some (dC (nx1 st r i))]
        generalize (T.2 ++ [nx1 st r i]).map dC = N2 at *
        generalize dT dR (T.1 ++ [(nx1 st r i, p ++ [(i : Int)])]) = F2 at *
        generalize dT dR T.1 = F at *
        generalize dR (st.getD i []) = si at *
        generalize dRs st = ST at *
        generalize dR (nx1 st r i) = w at *
        generalize dC (nx1 st r i) = w2 at *
        generalize T.2.map dC = NW at *
        generalize dR (p ++ [(i : Int)]) = pp at *
        generalize dR p = pq at *
        simp [B_ways_from_rounds_1, f1, f4, tR, nm, dg, ad, sx, ap, -s2_idxl]
  dsimp only at hS
  rw [List.take_of_length_le (by rw [List.length_range]; exact Nat.le_refl _)] at hS
  subst hS
  exact ⟨_, _, e⟩
/-- a level: the program -/
theorem p_level (k : Nat) (h : Sok n st) (g : Good n S) (hz : S.1.length ≤ 5040 ∧ S.2.length ≤ S.1.length) {o6 o7 o8 : Option D} : ∃ o6' o7' o8', exS Cc (fk (k + 1)) L_ways_from_rounds_2 (envW n st (some (.int 5040)) (S.1, []) (dL S.2) dL o6 o7 o8) = .next (envW n st (some (.int 5040)) (lev st S) (dL S.2) dL o6' o7' o8') := by
  have hl := h.len
  obtain ⟨⟨T, o7', o8'⟩, o, e, hT, _⟩ := fr_inv (C := Cc) (φ := fk (k + 1)) (B := B_ways_from_rounds_2) (j := 6) (ik := .lst) (its := [(.v 4)]) (emb := dC) (ds := [dL S.2]) (xs := S.2) (ρ := envW n st (some (.int 5040)) (S.1, []) (dL S.2) dL o6 o7 o8)
    (fun (s : (Es × List (List Int)) × Option D × Option D) o => envW n st (some (.int 5040)) s.1 (dL S.2) dL o s.2.1 s.2.2) (fun i s => s.1 = (S.2.take i).foldl (lev1 st) (S.1, []) ∧ Good n s.1 ∧ (∀ x, (gtT S.1 x).isSome = true → (gtT s.1.1 x).isSome = true) ∧ s.1.1.length ≤ S.1.length + i * 12 ∧ s.1.2.length ≤ i * 12) (s0 := ((S.1, []), o7, o8)) (o0 := o6) (by simp) rfl (fun _ _ _ => rfl) ⟨rfl, g.cut, fun _ z => z, by simp, by simp⟩ fun i r hx s ⟨hT, g', hk, hb, hb2⟩ => by
      obtain ⟨T, o7, o8⟩ := s
      dsimp only at hT g' hk hb hb2 ⊢
      have hi := (List.getElem?_eq_some_iff.mp hx).1
      have hr := hk r (g.nw r (List.mem_of_getElem? hx))
      have i12 : (i + 1) * 12 = i * 12 + 12 := Nat.succ_mul _ _
      have i5 : i * 12 ≤ 5040 * 12 := Nat.mul_le_mul_right _ (by omega)
      obtain ⟨o7', o8', e⟩ := p_row k h g' hr (by omega) (E := dL S.2) (o7 := o7) (o8 := o8)
      obtain ⟨g1, g2, g3, g4, g5⟩ := lev1_good h.pr g' hr (List.range st.length) fun k hk => List.mem_range.mp hk
      have el : lev1 st T r = (List.range st.length).foldl (st1 st r) T := rfl
      rw [← el] at g1 g2 g3 g4 g5
      rw [List.length_range] at g4
      refine ⟨(lev1 st T r, o7', o8'), ?_, ?_, g1, fun x hx => g2 x (hk x hx), by dsimp only; omega, by dsimp only; omega⟩
      · unfold B_ways_from_rounds_2
        rw [z_cons, e, z_next]
        rfl
      · dsimp only
        rw [List.take_succ, hx, List.foldl_append, ← hT]
        rfl
  dsimp only at hT
  rw [List.take_of_length_le (Nat.le_refl _)] at hT
  have hT : T = lev st S := hT
  subst hT
  exact ⟨_, _, _, e⟩
theorem X_new (h : Sok n st) : ∀ i, (XX n st i).2.length ≤ (XX n st i).1.length
  | 0 => Nat.le_refl _
  | i + 1 => by
    obtain ⟨_, a, _, b⟩ := lev_ok h.pr (X_good h.pr i)
    show (lev st (XX n st i)).2.length ≤ (lev st (XX n st i)).1.length
    omega
theorem p_while (k : Nat) (h : Sok n st) : (∃ es o4 o5 o6 o7 o8, Fin n st es ∧ exS Cc (fk (k + 1)) L_ways_from_rounds_3 [some (.int n), some (dRs st), some (.int 5040), some (dT dR [(rnd n, [])]), some (dL [rnd n]), none, none, none, none] = .next [some (.int n), some (dRs st), some (.int 5040), some (dT dR es), o4, o5, o6, o7, o8]) ∨ (Big n st ∧ ∃ ρ, exS Cc (fk (k + 1)) L_ways_from_rounds_3 [some (.int n), some (dRs st), some (.int 5040), some (dT dR [(rnd n, [])]), some (dL [rnd n]), none, none, none, none] = .exc 2 ρ) := by
  refine wh_ruleE (C := Cc) (φ := fk (k + 1)) (c := .v 4) (B := B_ways_from_rounds_3) (fun (s : Nat × Option D × Option D × Option D × Option D) => [some (.int n), some (dRs st), some (.int 5040), some (dT dR (XX n st s.1).1), some (dL (XX n st s.1).2), s.2.1, s.2.2.1, s.2.2.2.1, s.2.2.2.2])
    (fun s => (XX n st s.1).1.length ≤ 5040) (fun s => if (XX n st s.1).2 = [] then 0 else 5041 - (XX n st s.1).1.length)
    (fun fl => (∃ es o4 o5 o6 o7 o8, Fin n st es ∧ fl = .next [some (.int n), some (dRs st), some (.int 5040), some (dT dR es), o4, o5, o6, o7, o8]) ∨ (Big n st ∧ ∃ ρ, fl = .exc 2 ρ)) (s0 := (0, none, none, none, none)) (by show 1 ≤ 5040; omega) (by dsimp only; split <;> omega) fun s hs => ?_
  obtain ⟨i, o5, o6, o7, o8⟩ := s
  dsimp only at hs ⊢
  have g := X_good h.pr i
  have tr : truth (dL (XX n st i).2) = some (!(XX n st i).2.isEmpty) := by
    unfold dL
    cases (XX n st i).2 <;> rfl
  by_cases q : (XX n st i).2 = []
  · have tr0 : truth (dL (XX n st i).2) = some false := by
      rw [tr, q]
      rfl
    have T : tst (ev (fk (k + 1)) (.v 4) [some (.int n), some (dRs st), some (.int 5040), some (dT dR (XX n st i).1), some (dL (XX n st i).2), o5, o6, o7, o8]) = .ok false [some (.int n), some (dRs st), some (.int 5040), some (dT dR (XX n st i).1), some (dL (XX n st i).2), o5, o6, o7, o8] := tst_d _ (by simp) tr0
    exact .inl ⟨_, T, .inl ⟨_, _, _, _, _, _, ⟨i, q, rfl, hs⟩, rfl⟩⟩
  · have ie : (XX n st i).2.isEmpty = false := by
      cases z : (XX n st i).2 with
      | nil => exact absurd z q
      | cons a b => rfl
    rw [ie] at tr
    have T : tst (ev (fk (k + 1)) (.v 4) [some (.int n), some (dRs st), some (.int 5040), some (dT dR (XX n st i).1), some (dL (XX n st i).2), o5, o6, o7, o8]) = .ok true [some (.int n), some (dRs st), some (.int 5040), some (dT dR (XX n st i).1), some (dL (XX n st i).2), o5, o6, o7, o8] := tst_d _ (by simp) tr
    obtain ⟨o6', o7', o8', e⟩ := p_level k h g ⟨hs, X_new h i⟩ (o6 := o6) (o7 := o7) (o8 := o8)
    obtain ⟨l1, l2, l3, l4⟩ := lev_ok h.pr g
    have e : exS Cc (fk (k + 1)) L_ways_from_rounds_2 [some (.int n), some (dRs st), some (.int 5040), some (dT dR (XX n st i).1), some (dL (XX n st i).2), some (.lst []), o6, o7, o8] = .next [some (.int n), some (dRs st), some (.int 5040), some (dT dR (XX n st (i + 1)).1), some (dL (XX n st i).2), some (dL (XX n st (i + 1)).2), o6', o7', o8'] := e
    have ln : sem1 .len (dT dR (XX n st (i + 1)).1) = some (.int ((XX n st (i + 1)).1.length : Int)) := by
      show some (D.int _) = _
      rw [List.length_map]
    have l2 : (XX n st i).1.length ≤ (XX n st (i + 1)).1.length := l2
    have l4 : (XX n st i).1.length + (XX n st (i + 1)).2.length = (XX n st (i + 1)).1.length := l4
    by_cases big : 5040 < (XX n st (i + 1)).1.length
    · have b : (5040 : Int) < ((XX n st (i + 1)).1.length : Int) := by omega
      refine .inr (.inr (.inr ⟨_, 2, [some (.int n), some (dRs st), some (.int 5040), some (dT dR (XX n st (i + 1)).1), some (dL (XX n st i).2), some (dL (XX n st (i + 1)).2), o6', o7', o8'], T, ?_, .inr ⟨⟨i + 1, big⟩, _, rfl⟩⟩))
      generalize ((XX n st (i + 1)).1.length : Int) = lz at *
      generalize dT dR (XX n st (i + 1)).1 = F2 at *
      generalize dT dR (XX n st i).1 = F1 at *
      generalize dL (XX n st (i + 1)).2 = N2 at *
      generalize dL (XX n st i).2 = N1 at *
      generalize dRs st = ST at *
      simp [B_ways_from_rounds_3, e, ln, b]
    · have b : ¬ (5040 : Int) < ((XX n st (i + 1)).1.length : Int) := by omega
      refine .inr (.inl ⟨_, (i + 1, some (dL (XX n st (i + 1)).2), o6', o7', o8'), T, ?_, by dsimp only; omega, ?_⟩)
      · generalize ((XX n st (i + 1)).1.length : Int) = lz at *
        dsimp only
        generalize dT dR (XX n st (i + 1)).1 = F2 at *
        generalize dT dR (XX n st i).1 = F1 at *
        generalize dL (XX n st (i + 1)).2 = N2 at *
        generalize dL (XX n st i).2 = N1 at *
        generalize dRs st = ST at *
        simp [B_ways_from_rounds_3, e, ln, b]
      · dsimp only
        rw [if_neg q]
        by_cases q2 : (XX n st (i + 1)).2 = []
        · rw [if_pos q2]
          omega
        · rw [if_neg q2]
          have := List.length_pos_iff.mpr q2
          omega
theorem trng_ok (hn : 3 ≤ n ∧ n ≤ 12) : sem2 .trng (.int 1) (.int (n + 1)) = some (dC (rnd n)) := by
  have z : (rngOk 1 (n + 1) && decide (n + 1 - 1 ≤ 16777216)) = true := by simp [rngOk]; omega
  show (if rngOk 1 (n + 1) && decide (n + 1 - 1 ≤ 16777216) then some (D.tup (rngD 1 (n + 1 - 1).toNat 1)) else none) = _
  rw [if_pos z, rngD_map]
  unfold dC rnd
  rw [show n + 1 - 1 = n by omega, List.map_map]
  rfl
/-- what can be had, or TooLarge -/
theorem r_ways (k : Nat) (h : Sok n st) : (∃ es, Fin n st es ∧ fk (k + 2) f_ways_from_rounds [.int n, dRs st, .int 5040] = .ret (dT dR es) []) ∨ (Big n st ∧ fk (k + 2) f_ways_from_rounds [.int n, dRs st, .int 5040] = .exc 2 []) := by
  have tr := trng_ok h.n3
  have d1 : ev (fk (k + 1)) (.dic1 true (.op2 .trng (.c (.int 1)) (.op2 .add (.v 0) (.c (.int 1)))) (.lstD [])) [some (.int n), some (dRs st), some (.int 5040), none, none, none, none, none, none] = .ok (dT dR [(rnd n, [])]) [some (.int n), some (dRs st), some (.int 5040), none, none, none, none, none, none] := by
    simp only [ev]
    simp [tr, isKey_C]
    rfl
  rcases p_while k h with ⟨es, o4, o5, o6, o7, o8, hF, e⟩ | ⟨hB, ρ, e⟩
  · refine .inl ⟨es, hF, ?_⟩
    rw [e_ways_from_rounds]
    have e : exS Cc (fk (k + 1)) L_ways_from_rounds_3 [some (.int n), some (dRs st), some (.int 5040), some (dT dR [(rnd n, [])]), some (.lst [dC (rnd n)]), none, none, none, none] = _ := e
    generalize dT dR [(rnd n, [])] = F0 at *
    generalize dT dR es = F1 at *
    generalize dRs st = ST at *
    generalize dC (rnd n) = R0 at *
    simp [b_ways_from_rounds, d1, tr, e]
  · refine .inr ⟨hB, ?_⟩
    rw [e_ways_from_rounds]
    have e : exS Cc (fk (k + 1)) L_ways_from_rounds_3 [some (.int n), some (dRs st), some (.int 5040), some (dT dR [(rnd n, [])]), some (.lst [dC (rnd n)]), none, none, none, none] = _ := e
    generalize dT dR [(rnd n, [])] = F0 at *
    generalize dRs st = ST at *
    generalize dC (rnd n) = R0 at *
    simp [b_ways_from_rounds, d1, tr, e]
end
end K45
set_option Elab.async false
set_option linter.all false
set_option maxRecDepth 100000
set_option autoImplicit false
namespace K45
open PySem Bell L2
section
variable {n : Int} {st : List (List Int)} {S : Es × List (List Int)} {r : List Int}
/-! the law's search: as the program's, but it stops at once when there are too many -/
theorem st1_len (st : List (List Int)) (r : List Int) (S : Es × List (List Int)) (k : Nat) : S.1.length ≤ (st1 st r S k).1.length := by
  unfold st1
  split
  · exact Nat.le_refl _
  · simp
theorem fold_len (st : List (List Int)) (r : List Int) : ∀ (ks : List Nat) (S : Es × List (List Int)), S.1.length ≤ (ks.foldl (st1 st r) S).1.length
  | [], _ => Nat.le_refl _
  | k :: ks, S => Nat.le_trans (st1_len st r S k) (fold_len st r ks _)
theorem levs_len (st : List (List Int)) : ∀ (rs : List (List Int)) (S : Es × List (List Int)), S.1.length ≤ (rs.foldl (lev1 st) S).1.length
  | [], _ => Nat.le_refl _
  | r :: rs, S => Nat.le_trans (fold_len st r _ S) (levs_len st rs _)
theorem take_len {α β : Type} {f : Es × β → α → Es × β} (h : ∀ S a, S.1.length ≤ (f S a).1.length) : ∀ (xs : List α) (S : Es × β) (i : Nat), ((xs.take i).foldl f S).1.length ≤ (xs.foldl f S).1.length := by
  intro xs
  have mono : ∀ (ys : List α) (S : Es × β), S.1.length ≤ (ys.foldl f S).1.length := by
    intro ys
    induction ys with
    | nil => exact fun _ => Nat.le_refl _
    | cons y ys ih => exact fun S => Nat.le_trans (h S y) (ih _)
  intro S i
  conv => rhs; rw [← List.take_append_drop i xs, List.foldl_append]
  exact mono _ _
theorem l_row (k : Nat) (h : Sok n st) (g : Good n S) (hr : (gtT S.1 r).isSome = true) (hz : S.1.length ≤ 5040 ∧ S.2.length ≤ 100000) {E H : D} {o7 o8 : Option D} : (5040 < (lev1 st S r).1.length ∧ ∃ ρ, exS Cc (fk (k + 1)) L__law_search_1 (envW n st (some H) S E dRs (some (dR r)) o7 o8) = .ret .non ρ) ∨ ((lev1 st S r).1.length ≤ 5040 ∧ ∃ o7' o8', exS Cc (fk (k + 1)) L__law_search_1 (envW n st (some H) S E dRs (some (dR r)) o7 o8) = .next (envW n st (some H) (lev1 st S r) E dRs (some (dR r)) o7' o8')) := by
  have hl := h.len
  refine fr_rule (C := Cc) (φ := fk (k + 1)) (B := B__law_search_1) (j := 7) (ik := .rng1) (its := [(.op1 .len (.v 1))]) (emb := dI) (ds := [.int st.length]) (xs := List.range st.length) (ρ := envW n st (some H) S E dRs (some (dR r)) o7 o8)
    (fun (s : (Es × List (List Int)) × Option D) o => envW n st (some H) s.1 E dRs (some (dR r)) o s.2) (fun i s => s.1 = ((List.range st.length).take i).foldl (st1 st r) S ∧ Good n s.1 ∧ (gtT s.1.1 r).isSome = true ∧ s.1.1.length ≤ 5040 ∧ s.1.2.length ≤ S.2.length + i)
    (fun fl => (5040 < (lev1 st S r).1.length ∧ ∃ ρ, fl = .ret .non ρ) ∨ ((lev1 st S r).1.length ≤ 5040 ∧ ∃ o7' o8', fl = .next (envW n st (some H) (lev1 st S r) E dRs (some (dR r)) o7' o8'))) (s0 := (S, o8)) (o0 := o7) (by simp [dRs]) (items_rng1 (by omega)) (fun _ _ _ => rfl) ⟨rfl, g, hr, hz.1, Nat.le_refl _⟩ (fun s o ⟨hS, _, _, hb, _⟩ => ?_) fun i x hx s ⟨hS, g, hr, hb, hb2⟩ => ?_
  · rw [List.take_of_length_le (Nat.le_refl _)] at hS
    have hS : s.1 = lev1 st S r := hS
    rw [hS] at hb
    exact .inr ⟨hb, o, s.2, by rw [hS]⟩
  · obtain ⟨T, o8⟩ := s
    dsimp only at hS g hr hb hb2 ⊢
    obtain ⟨hi, ex⟩ := List.getElem?_eq_some_iff.mp hx
    rw [List.length_range] at hi
    rw [List.getElem_range] at ex
    subst ex
    obtain ⟨f1, f2, f3, _, f4⟩ := stp_facts h g hr hi
    have f4 := f4 k
    obtain ⟨g1, g2, g3, g4, g5, g6⟩ := st1_good h.pr g hr hi
    have tot : (st1 st r T i).1.length ≤ (lev1 st S r).1.length := by
      have := take_len (f := st1 st r) (st1_len st r) (List.range st.length) S (i + 1)
      rw [fd_take hi, List.foldl_append, ← hS] at this
      exact this
    obtain ⟨p, hp, hm⟩ := gtT_mem hr
    have lp := g.ln _ hm
    have lp : p.length ≤ T.1.length := lp
    have dg : sem2 .dget (dT dR T.1) (dC r) = some (dR p) := by rw [s2_dgetD, hp]; rfl
    have nm := s2_nmemD (g := dR) (es := T.1) (k := nx1 st r i)
    have tR := tup_R (nx1 st r i)
    have tr := tup_R r
    have ad := add_path p i (by omega)
    cases q : (gtT T.1 (nx1 st r i)).isSome with
    | true =>
      have es : st1 st r T i = T := by unfold st1; rw [q, if_pos rfl]
      rw [q] at nm
      refine .inl ⟨(T, some (dR (nx1 st r i))), ?_, by dsimp only; rw [fd_take hi, List.foldl_append, ← hS]; exact es.symm, g, hr, hb, by dsimp only; omega⟩
      unfold envW
      generalize dT dR T.1 = F at *
      generalize dR (st.getD i []) = si at *
      generalize dRs st = ST at *
      generalize dC (nx1 st r i) = w2 at *
      generalize dR (nx1 st r i) = w at *
      generalize dRs T.2 = NW at *
      simp [B__law_search_1, dI, f1, f4, tR, nm, -s2_idxl]
    | false =>
      have q0 : gtT T.1 (nx1 st r i) = none := by
        cases z : gtT T.1 (nx1 st r i) with
        | none => rfl
        | some x => rw [z] at q; cases q
      have es : st1 st r T i = (T.1 ++ [(nx1 st r i, p ++ [(i : Int)])], T.2 ++ [nx1 st r i]) := by unfold st1; rw [q, if_neg Bool.false_ne_true, hp]; rfl
      rw [q] at nm
      have sx := setDx_new (g := dR) (v := p ++ [(i : Int)]) q0 (by omega)
      have ap : ∀ ρ, appO 5 (.lst (T.2.map dR)) (dR (nx1 st r i)) ρ = _ := fun ρ => app_map _ (by omega)
      have ln : sem1 .len (dT dR (T.1 ++ [(nx1 st r i, p ++ [(i : Int)])])) = some (.int ((T.1.length : Int) + 1)) := by
        show some (D.int _) = _
        rw [List.length_map, List.length_append, List.length_singleton]
        rfl
      rw [es] at tot g1 g2 g3 g4 g5
      dsimp only at tot
      rw [List.length_append, List.length_singleton] at tot
      by_cases big : (5040 : Int) < (T.1.length : Int) + 1
      · refine .inr (.inl ⟨.non, [some (.int n), some (dRs st), some H, some (dT dR (T.1 ++ [(nx1 st r i, p ++ [(i : Int)])])), some E, some (.lst ((T.2 ++ [nx1 st r i]).map dR)), some (dR r), some (.int (i : Int)), some (dR (nx1 st r i))], ?_, .inl ⟨by omega, _, rfl⟩⟩)
        unfold envW dRs
        show exB Cc (fk (k + 1)) B__law_search_1 [some (.int n), some (dRs st), some H, some (dT dR T.1), some E, some (.lst (T.2.map dR)), some (dR r), some (.int (i : Int)), o8] = _
        show _ = Fl.ret D.non [some (.int n), some (dRs st), some H, some (dT dR (T.1 ++ [(nx1 st r i, p ++ [(i : Int)])])), some E, some (.lst ((T.2 ++ [nx1 st r i]).map dR)), some (dR r), some (.int (i : Int)), some (dR (nx1 st r i))]
        generalize (T.2 ++ [nx1 st r i]).map dR = N2 at *
        generalize dT dR (T.1 ++ [(nx1 st r i, p ++ [(i : Int)])]) = F2 at *
        generalize dT dR T.1 = F at *
        generalize dR (st.getD i []) = si at *
        generalize dRs st = ST at *
        generalize dC (nx1 st r i) = w2 at *
        generalize dR (nx1 st r i) = w at *
        generalize T.2.map dR = NW at *
        generalize dR (p ++ [(i : Int)]) = pp at *
        generalize dR p = pq at *
        generalize dC r = r2 at *
        generalize dR r = r1 at *
        generalize (T.1.length : Int) + 1 = lz at *
        simp [B__law_search_1, f1, f4, tR, tr, nm, dg, ad, sx, ap, ln, big, -s2_idxl]
      · refine .inl ⟨(st1 st r T i, some (dR (nx1 st r i))), ?_, by dsimp only; rw [fd_take hi, List.foldl_append, ← hS]; rfl, by rw [es]; exact g1, by rw [es]; exact g2, by rw [es]; simp; omega, by rw [es]; simp; omega⟩
        rw [es]
        unfold envW dRs
        show exB Cc (fk (k + 1)) B__law_search_1 [some (.int n), some (dRs st), some H, some (dT dR T.1), some E, some (.lst (T.2.map dR)), some (dR r), some (.int (i : Int)), o8] = .next [some (.int n), some (dRs st), some H, some (dT dR (T.1 ++ [(nx1 st r i, p ++ [(i : Int)])])), some E, some (.lst ((T.2 ++ [nx1 st r i]).map dR)), some (dR r), some (.int (i : Int)), some (dR (nx1 st r i))]
        generalize (T.2 ++ [nx1 st r i]).map dR = N2 at *
        generalize dT dR (T.1 ++ [(nx1 st r i, p ++ [(i : Int)])]) = F2 at *
        generalize dT dR T.1 = F at *
        generalize dR (st.getD i []) = si at *
        generalize dRs st = ST at *
        generalize dC (nx1 st r i) = w2 at *
        generalize dR (nx1 st r i) = w at *
        generalize T.2.map dR = NW at *
        generalize dR (p ++ [(i : Int)]) = pp at *
        generalize dR p = pq at *
        generalize dC r = r2 at *
        generalize dR r = r1 at *
        generalize (T.1.length : Int) + 1 = lz at *
        simp [B__law_search_1, f1, f4, tR, tr, nm, dg, ad, sx, ap, ln, big, -s2_idxl]
end
end K45
set_option Elab.async false
set_option linter.all false
set_option maxRecDepth 100000
set_option autoImplicit false
namespace K45
open PySem Bell L2
section
variable {n : Int} {st : List (List Int)} {S : Es × List (List Int)} {r : List Int}
theorem l_level (k : Nat) (h : Sok n st) (g : Good n S) (hz : S.1.length ≤ 5040 ∧ S.2.length ≤ S.1.length) {H : D} {o6 o7 o8 : Option D} : (5040 < (lev st S).1.length ∧ ∃ ρ, exS Cc (fk (k + 1)) L__law_search_2 (envW n st (some H) (S.1, []) (dRs S.2) dRs o6 o7 o8) = .ret .non ρ) ∨ ((lev st S).1.length ≤ 5040 ∧ ∃ o6' o7' o8', exS Cc (fk (k + 1)) L__law_search_2 (envW n st (some H) (S.1, []) (dRs S.2) dRs o6 o7 o8) = .next (envW n st (some H) (lev st S) (dRs S.2) dRs o6' o7' o8')) := by
  have hl := h.len
  refine fr_rule (C := Cc) (φ := fk (k + 1)) (B := B__law_search_2) (j := 6) (ik := .lst) (its := [(.v 4)]) (emb := dR) (ds := [dRs S.2]) (xs := S.2) (ρ := envW n st (some H) (S.1, []) (dRs S.2) dRs o6 o7 o8)
    (fun (s : (Es × List (List Int)) × Option D × Option D) o => envW n st (some H) s.1 (dRs S.2) dRs o s.2.1 s.2.2) (fun i s => s.1 = (S.2.take i).foldl (lev1 st) (S.1, []) ∧ Good n s.1 ∧ (∀ x, (gtT S.1 x).isSome = true → (gtT s.1.1 x).isSome = true) ∧ s.1.1.length ≤ 5040 ∧ s.1.2.length ≤ i * 12)
    (fun fl => (5040 < (lev st S).1.length ∧ ∃ ρ, fl = .ret .non ρ) ∨ ((lev st S).1.length ≤ 5040 ∧ ∃ o6' o7' o8', fl = .next (envW n st (some H) (lev st S) (dRs S.2) dRs o6' o7' o8'))) (s0 := ((S.1, []), o7, o8)) (o0 := o6) (by simp) rfl (fun _ _ _ => rfl) ⟨rfl, g.cut, fun _ z => z, hz.1, by simp⟩ (fun s o ⟨hT, _, _, hb, _⟩ => ?_) fun i r hx s ⟨hT, g', hk, hb, hb2⟩ => ?_
  · rw [List.take_of_length_le (Nat.le_refl _)] at hT
    have hT : s.1 = lev st S := hT
    rw [hT] at hb
    exact .inr ⟨hb, o, s.2.1, s.2.2, by rw [hT]⟩
  · obtain ⟨T, o7, o8⟩ := s
    dsimp only at hT g' hk hb hb2 ⊢
    have hi := (List.getElem?_eq_some_iff.mp hx).1
    have hr := hk r (g.nw r (List.mem_of_getElem? hx))
    have i12 : (i + 1) * 12 = i * 12 + 12 := Nat.succ_mul _ _
    have i5 : i * 12 ≤ 5040 * 12 := Nat.mul_le_mul_right _ (by omega)
    obtain ⟨g1, g2, g3, g4, g5⟩ := lev1_good h.pr g' hr (List.range st.length) fun k hk => List.mem_range.mp hk
    have el : lev1 st T r = (List.range st.length).foldl (st1 st r) T := rfl
    rw [← el] at g1 g2 g3 g4 g5
    rw [List.length_range] at g4
    have tk : (S.2.take (i + 1)).foldl (lev1 st) (S.1, []) = lev1 st T r := by
      rw [List.take_succ, hx, List.foldl_append, ← hT]
      rfl
    have tot : (lev1 st T r).1.length ≤ (lev st S).1.length := by
      have := take_len (f := lev1 st) (fun S r => fold_len st r _ S) S.2 (S.1, []) (i + 1)
      rw [tk] at this
      exact this
    rcases l_row k h g' hr (by omega) (E := dRs S.2) (H := H) (o7 := o7) (o8 := o8) with ⟨q, ρ, e⟩ | ⟨q, o7', o8', e⟩
    · refine .inr (.inl ⟨.non, ρ, ?_, .inl ⟨by omega, ρ, rfl⟩⟩)
      unfold B__law_search_2
      rw [z_cons, e]
      rfl
    · refine .inl ⟨(lev1 st T r, o7', o8'), ?_, tk.symm, g1, fun x hx => g2 x (hk x hx), q, by dsimp only; omega⟩
      unfold B__law_search_2
      rw [z_cons, e, z_next]
      rfl
theorem l_while (k : Nat) (h : Sok n st) {H : D} : (∃ es o4 o5 o6 o7 o8, Fin n st es ∧ exS Cc (fk (k + 1)) L__law_search_3 [some (.int n), some (dRs st), some H, some (dT dR [(rnd n, [])]), some (dRs [rnd n]), none, none, none, none] = .next [some (.int n), some (dRs st), some H, some (dT dR es), o4, o5, o6, o7, o8]) ∨ (Big n st ∧ ∃ ρ, exS Cc (fk (k + 1)) L__law_search_3 [some (.int n), some (dRs st), some H, some (dT dR [(rnd n, [])]), some (dRs [rnd n]), none, none, none, none] = .ret .non ρ) := by
  refine wh_ruleE (C := Cc) (φ := fk (k + 1)) (c := .op2 .gt (.op1 .len (.v 4)) (.c (.int 0))) (B := B__law_search_3) (fun (s : Nat × Option D × Option D × Option D × Option D) => [some (.int n), some (dRs st), some H, some (dT dR (XX n st s.1).1), some (dRs (XX n st s.1).2), s.2.1, s.2.2.1, s.2.2.2.1, s.2.2.2.2])
    (fun s => (XX n st s.1).1.length ≤ 5040) (fun s => if (XX n st s.1).2 = [] then 0 else 5041 - (XX n st s.1).1.length)
    (fun fl => (∃ es o4 o5 o6 o7 o8, Fin n st es ∧ fl = .next [some (.int n), some (dRs st), some H, some (dT dR es), o4, o5, o6, o7, o8]) ∨ (Big n st ∧ ∃ ρ, fl = .ret .non ρ)) (s0 := (0, none, none, none, none)) (by show 1 ≤ 5040; omega) (by dsimp only; split <;> omega) fun s hs => ?_
  obtain ⟨i, o5, o6, o7, o8⟩ := s
  dsimp only at hs ⊢
  have g := X_good h.pr i
  have ln0 : sem1 .len (dRs (XX n st i).2) = some (.int ((XX n st i).2.length : Int)) := by simp [dRs]
  by_cases q : (XX n st i).2 = []
  · have z : ¬ (0 : Int) < ((XX n st i).2.length : Int) := by rw [q]; simp
    have T : tst (ev (fk (k + 1)) (.op2 .gt (.op1 .len (.v 4)) (.c (.int 0))) [some (.int n), some (dRs st), some H, some (dT dR (XX n st i).1), some (dRs (XX n st i).2), o5, o6, o7, o8]) = .ok false [some (.int n), some (dRs st), some H, some (dT dR (XX n st i).1), some (dRs (XX n st i).2), o5, o6, o7, o8] := by
      generalize ((XX n st i).2.length : Int) = lz at *
      generalize dT dR (XX n st i).1 = F1 at *
      generalize dRs (XX n st i).2 = N1 at *
      generalize dRs st = ST at *
      simp [ln0, z]
      try omega
    exact .inl ⟨_, T, .inl ⟨_, _, _, _, _, _, ⟨i, q, rfl, hs⟩, rfl⟩⟩
  · have z : (0 : Int) < ((XX n st i).2.length : Int) := by
      have := List.length_pos_iff.mpr q
      omega
    have T : tst (ev (fk (k + 1)) (.op2 .gt (.op1 .len (.v 4)) (.c (.int 0))) [some (.int n), some (dRs st), some H, some (dT dR (XX n st i).1), some (dRs (XX n st i).2), o5, o6, o7, o8]) = .ok true [some (.int n), some (dRs st), some H, some (dT dR (XX n st i).1), some (dRs (XX n st i).2), o5, o6, o7, o8] := by
      generalize ((XX n st i).2.length : Int) = lz at *
      generalize dT dR (XX n st i).1 = F1 at *
      generalize dRs (XX n st i).2 = N1 at *
      generalize dRs st = ST at *
      simp [ln0, z]
      try omega
    obtain ⟨l1, l2, l3, l4⟩ := lev_ok h.pr g
    have l2 : (XX n st i).1.length ≤ (XX n st (i + 1)).1.length := l2
    have l4 : (XX n st i).1.length + (XX n st (i + 1)).2.length = (XX n st (i + 1)).1.length := l4
    rcases l_level k h g ⟨hs, X_new h i⟩ (H := H) (o6 := o6) (o7 := o7) (o8 := o8) with ⟨big, ρ, e⟩ | ⟨small, o6', o7', o8', e⟩
    · have e : exS Cc (fk (k + 1)) L__law_search_2 [some (.int n), some (dRs st), some H, some (dT dR (XX n st i).1), some (dRs (XX n st i).2), some (.lst []), o6, o7, o8] = .ret .non ρ := e
      refine .inr (.inr (.inl ⟨_, .non, ρ, T, ?_, .inr ⟨⟨i + 1, big⟩, _, rfl⟩⟩))
      generalize dT dR (XX n st i).1 = F1 at *
      generalize dRs (XX n st i).2 = N1 at *
      generalize dRs st = ST at *
      simp [B__law_search_3, e]
    · have e : exS Cc (fk (k + 1)) L__law_search_2 [some (.int n), some (dRs st), some H, some (dT dR (XX n st i).1), some (dRs (XX n st i).2), some (.lst []), o6, o7, o8] = .next [some (.int n), some (dRs st), some H, some (dT dR (XX n st (i + 1)).1), some (dRs (XX n st i).2), some (dRs (XX n st (i + 1)).2), o6', o7', o8'] := e
      have small : (XX n st (i + 1)).1.length ≤ 5040 := small
      refine .inr (.inl ⟨_, (i + 1, some (dRs (XX n st (i + 1)).2), o6', o7', o8'), T, ?_, small, ?_⟩)
      · dsimp only
        generalize dT dR (XX n st (i + 1)).1 = F2 at *
        generalize dT dR (XX n st i).1 = F1 at *
        generalize dRs (XX n st (i + 1)).2 = N2 at *
        generalize dRs (XX n st i).2 = N1 at *
        generalize dRs st = ST at *
        simp [B__law_search_3, e]
      · dsimp only
        rw [if_neg q]
        by_cases q2 : (XX n st (i + 1)).2 = []
        · rw [if_pos q2]
          omega
        · rw [if_neg q2]
          have := List.length_pos_iff.mpr q2
          omega
theorem r_search (k : Nat) (h : Sok n st) : (∃ es, Fin n st es ∧ fk (k + 2) f__law_search [.int n, dRs st] = .ret (dT dR es) []) ∨ (Big n st ∧ fk (k + 2) f__law_search [.int n, dRs st] = .ret .non []) := by
  have hn := h.n3
  have C1 : ev (fk (k + 1)) C__law_search_1 [some (.int n), some (dRs st), none, none, none, none, none, none, none] = .ok (dR (rnd n)) [some (.int n), some (dRs st), none, none, none, none, none, none, none] := by
    unfold C__law_search_1
    rw [ev_lcm (e := dI) (G := fun i : Nat => D.int ((i : Int) + 1)) (ds := [.int n]) (xs := List.range n.toNat) (by simp) (by simp) (by rw [show n = ((n.toNat : Nat) : Int) by omega]; exact items_rng1 (by omega)) (fun p hp => by simp [dI]) (by simp; omega), rnd_map n (by omega)]
    rfl
  have d1 : ev (fk (k + 1)) (.dic1 true (.op1 .tuple (.v 2)) (.lstD [])) [some (.int n), some (dRs st), some (dR (rnd n)), none, none, none, none, none, none] = .ok (dT dR [(rnd n, [])]) [some (.int n), some (dRs st), some (dR (rnd n)), none, none, none, none, none, none] := by
    have tR := tup_R (rnd n)
    have ik := isKey_C (rnd n)
    have e0 : dT dR [(rnd n, [])] = .dic true [(dC (rnd n), .lst [])] := rfl
    rw [e0]
    simp only [ev]
    generalize dR (rnd n) = R0 at *
    generalize dC (rnd n) = R1 at *
    simp [tR, ik]
  rcases l_while k h (H := dR (rnd n)) with ⟨es, o4, o5, o6, o7, o8, hF, e⟩ | ⟨hB, ρ, e⟩
  · refine .inl ⟨es, hF, ?_⟩
    rw [e__law_search]
    have e : exS Cc (fk (k + 1)) L__law_search_3 [some (.int n), some (dRs st), some (dR (rnd n)), some (dT dR [(rnd n, [])]), some (.lst [dR (rnd n)]), none, none, none, none] = _ := e
    generalize dT dR [(rnd n, [])] = F0 at *
    generalize dT dR es = F1 at *
    generalize dRs st = ST at *
    generalize dR (rnd n) = R0 at *
    simp [b__law_search, C1, d1, e]
  · refine .inr ⟨hB, ?_⟩
    rw [e__law_search]
    have e : exS Cc (fk (k + 1)) L__law_search_3 [some (.int n), some (dRs st), some (dR (rnd n)), some (dT dR [(rnd n, [])]), some (.lst [dR (rnd n)]), none, none, none, none] = _ := e
    generalize dT dR [(rnd n, [])] = F0 at *
    generalize dRs st = ST at *
    generalize dR (rnd n) = R0 at *
    simp [b__law_search, C1, d1, e]
end
end K45
set_option Elab.async false
set_option linter.all false
set_option maxRecDepth 100000
set_option autoImplicit false
namespace K45
open PySem Bell L2
/-! ascending -/
theorem ltDD_R : ∀ a b : List Int, ltDD (dR a) (dR b) = HT.lexLt a b := by
  intro a b
  show PySem.W.dataLt (.list (toPs (a.map D.int))) (.list (toPs (b.map D.int))) = _
  rw [toPs_ints, toPs_ints, PySem.W.dataLt_list]
  show PySem.W.rowLt (a.map .int) (b.map .int) = _
  induction a generalizing b with
  | nil =>
    cases b with
    | nil => rw [PySem.W.dataLt_ints]; rfl
    | cons y b => rw [PySem.W.dataLt_ints]; simp [HT.lexLt]
  | cons x a ih =>
    cases b with
    | nil => rw [PySem.W.dataLt_ints]; simp [HT.lexLt]
    | cons y b =>
      unfold PySem.W.rowLt
      rw [List.map_cons, List.map_cons, PySem.W.dataLt_cons (by simp [PySem.W.alike]), HT.lexLt_cons, PySem.W.dataLt_int]
      have e : PyData.eqv (.int x) (.int y) = decide (x = y) := by
        by_cases h : x = y <;> simp [PyData.eqv, h]
      rw [e]
      by_cases h : x = y
      · rw [decide_eq_true h, if_pos rfl, if_pos h]
        exact ih b
      · rw [decide_eq_false h, if_neg Bool.false_ne_true, if_neg h]
theorem srt_uniq : ∀ {l m : List (List Int)}, l.Perm m → l.Pairwise (fun x y => HT.lexLt y x = false) → m.Pairwise (fun x y => HT.lexLt y x = false) → l = m
  | [], m, p, _, _ => p.nil_eq
  | a :: l, [], p, _, _ => by
    have := p.length_eq
    cases this
  | a :: l, b :: m, p, h1, h2 => by
    obtain ⟨p1, p2⟩ := List.pairwise_cons.mp h1
    obtain ⟨q1, q2⟩ := List.pairwise_cons.mp h2
    have e : a = b := by
      by_cases e : a = b
      · exact e
      · have ma : a ∈ b :: m := p.mem_iff.mp List.mem_cons_self
        have mb : b ∈ a :: l := p.mem_iff.mpr List.mem_cons_self
        have x1 := (List.mem_cons.mp ma).resolve_left e
        have x2 := (List.mem_cons.mp mb).resolve_left fun z => e z.symm
        exact lexX_anti (q1 a x1) (p1 b x2)
    subst e
    rw [srt_uniq p.cons_inv p2 q2]
theorem alike_R (a b : List Int) : PySem.W.alike (toP (dR a)) (toP (dR b)) = true := by
  show PySem.W.alikeAll (toPs (a.map D.int)) (toPs (b.map D.int)) = true
  induction a generalizing b with
  | nil => rfl
  | cons x a ih =>
    cases b with
    | nil => rfl
    | cons y b =>
      show (PySem.W.alike (.int x) (.int y) && PySem.W.alikeAll (toPs (a.map D.int)) (toPs (b.map D.int))) = true
      rw [ih]
      rfl
theorem s1_sortD_R (ks : List (List Int)) (h : ks.length ≤ 2 ^ 24) : sem1 .sortD (dRs ks) = some (dRs (sortX ks)) := by
  have a1 : allAl (ks.map dR) = true := by
    unfold allAl
    refine List.all_eq_true.mpr fun x hx => ?_
    obtain ⟨r, _, rfl⟩ := List.mem_map.mp hx
    rw [(sh_R r).1, Bool.true_and]
    refine List.all_eq_true.mpr fun y hy => ?_
    obtain ⟨q, _, rfl⟩ := List.mem_map.mp hy
    exact alike_R r q
  have a2 : srtbl (ks.map dR) = true := by
    unfold srtbl
    rw [Bool.or_eq_true]
    refine .inr (List.all_eq_true.mpr fun x hx => ?_)
    obtain ⟨r, _, rfl⟩ := List.mem_map.mp hx
    rfl
  have a3 : decide ((ks.map dR).length ≤ sizeLine) = true := decide_eq_true (by rw [List.length_map]; exact Nat.le_trans h size_big)
  show (if allAl (ks.map dR) && (srtbl (ks.map dR) && decide ((ks.map dR).length ≤ sizeLine)) then some (D.lst ((ks.map dR).mergeSort fun a b => !ltDD b a)) else none) = _
  rw [a1, a2, a3]
  have e := List.map_mergeSort (r := fun a b => !HT.lexLt b a) (s := fun a b => !ltDD b a) (f := dR) (l := ks) fun a _ b _ => by rw [ltDD_R]
  have u : ks.mergeSort (fun a b => !HT.lexLt b a) = sortX ks := by
    refine srt_uniq ((List.mergeSort_perm _ _).trans (sortX_perm ks).symm) ?_ (sortX_srt ks)
    refine (List.pairwise_mergeSort (le := fun a b => !HT.lexLt b a) (fun a b c h1 h2 => ?_) (fun a b => ?_) ks).imp fun {a b} h => by simpa using h
    · have h1 : HT.lexLt b a = false := by simpa using h1
      have h2 : HT.lexLt c b = false := by simpa using h2
      cases z : HT.lexLt c a with
      | false => rfl
      | true =>
        have := lexX.ltle z h1
        rw [h2] at this
        cases this
    · cases z : HT.lexLt b a with
      | false => rfl
      | true =>
        rw [lexX.asym _ _ z]
        rfl
  show some (D.lst ((ks.map dR).mergeSort fun a b => !ltDD b a)) = _
  rw [← e, u]
  rfl
section
variable {n : Int} {d : D}
/-! drawn rows and steps -/
theorem r_drawn_row (k : Nat) (hd : Dr d) (hn : 3 ≤ n ∧ n ≤ 12) : ∃ r d', fk (k + 3) f__law_drawn_row [d, .int n] = .ret (dR r) [d'] ∧ Dr d' ∧ PR n r := by
  have C1 : ev (fk (k + 2)) C__law_drawn_row_1 [some d, some (.int n), none, none, none, none, none] = .ok (dR (rnd n)) [some d, some (.int n), none, none, none, none, none] := by
    unfold C__law_drawn_row_1
    rw [ev_lcm (e := dI) (G := fun i : Nat => D.int ((i : Int) + 1)) (ds := [.int n]) (xs := List.range n.toNat) (by simp) (by simp) (by rw [show n = ((n.toNat : Nat) : Int) by omega]; exact items_rng1 (by omega)) (fun p hp => by simp [dI]) (by simp; omega), rnd_map n (by omega)]
    rfl
  obtain ⟨z0, d1, j, e1, hd1, em, j0, j1⟩ := dr_mod k hd (m := 4) (by omega)
  obtain ⟨m, m0, m1, am⟩ : ∃ m : Int, 0 ≤ m ∧ m ≤ 12 ∧ atI [D.int n, .int 1, .int 2, .int 3] j = some (.int m) := by
    have z : j = 0 ∨ j = 1 ∨ j = 2 ∨ j = 3 := by omega
    rcases z with rfl | rfl | rfl | rfl
    · exact ⟨n, by omega, by omega, rfl⟩
    · exact ⟨1, by omega, by omega, rfl⟩
    · exact ⟨2, by omega, by omega, rfl⟩
    · exact ⟨3, by omega, by omega, rfl⟩
  obtain ⟨⟨d2, r, o4, o5⟩, o, e, hd2, hr⟩ := fr_inv (C := Cc) (φ := fk (k + 2)) (B := B__law_drawn_row_1) (j := 3) (ik := .rng1) (its := [(.op2 .idx (.lstD [(.v 1), (.c (.int 1)), (.c (.int 2)), (.c (.int 3))]) (.op2 .mod (.call f__law_draw [(.io 0)]) (.c (.int 4))))]) (emb := dI) (ds := [.int m]) (xs := List.range m.toNat) (ρ := [some d, some (.int n), some (dR (rnd n)), none, none, none, none])
    (fun (s : D × List Int × Option D × Option D) o => [some s.1, some (.int n), some (dR s.2.1), o, s.2.2.1, s.2.2.2, none]) (fun _ s => Dr s.1 ∧ PR n s.2.1) (s0 := (d1, rnd n, none, none)) (o0 := none) (by simp [e1, em, am]) (by rw [show m = ((m.toNat : Nat) : Int) by omega]; exact items_rng1 (by omega)) (fun _ _ _ => rfl) ⟨hd1, PR.r0 n⟩ fun i x hx s ⟨hd, hr⟩ => by
      obtain ⟨d, r, o4, o5⟩ := s
      dsimp only at hd hr ⊢
      obtain ⟨ra, da, a, ea, hda, ema, a0, a1⟩ := dr_mod k hd (m := n) (by omega)
      obtain ⟨rb, db, b, eb, hdb, emb, b0, b1⟩ := dr_mod k hda (m := n) (by omega)
      have hl : (r.length : Int) = n := by rw [hr.len]; omega
      have S := swap_ok (r := r) (φ := fk (k + 2)) (i := 2) (k1 := .v 4) (k2 := .v 5) (a := a) (b := b) (ρ := [some db, some (.int n), some (dR r), some (dI x), some (.int a), some (.int b), none]) rfl (by simp) (by simp) (fun o => by simp) (fun o => by simp) (by omega) (by omega)
      refine ⟨(db, swp r a b, some (.int a), some (.int b)), ?_, hdb, (swp_perm (by omega) (by omega)).trans hr⟩
      unfold B__law_drawn_row_1
      have P : exS Cc (fk (k + 2)) (.par 4 5 (.op2 .mod (.call f__law_draw [(.io 0)]) (.v 1)) (.op2 .mod (.call f__law_draw [(.io 0)]) (.v 1))) [some d, some (.int n), some (dR r), some (dI x), o4, o5, none] = .next [some db, some (.int n), some (dR r), some (dI x), some (.int a), some (.int b), none] := by
        generalize dR r = R at *
        simp [ea, ema, eb, emb]
      rw [z_cons, P, z_next, z_cons, S, z_next]
      rfl
  have e : exS Cc (fk (k + 2)) L__law_drawn_row_1 [some d, some (.int n), some (dR (rnd n)), none, none, none, none] = _ := e
  refine ⟨r, d2, ?_, hd2, hr⟩
  rw [e__law_drawn_row]
  generalize dR (rnd n) = R0 at *
  dsimp only at e
  generalize dR r = R1 at *
  simp [b__law_drawn_row, C1, e]
end
end K45
set_option Elab.async false
set_option linter.all false
set_option maxRecDepth 100000
set_option autoImplicit false
namespace K45
open PySem Bell L2
abbrev T_1 : Sm := .set 6 (.call f__law_drawn_row [(.io 0), (.v 1)])
abbrev T_2 : Sm := .ife (.op2 .eq (.v 2) (.c (.int 1))) [.setc 6 C__law_steps_1, L__law_steps_1, .frz 6] []
abbrev T_3 : Sm := .ife (.op2 .eq (.v 2) (.c (.int 3))) [.set 8 (.op2 .add (.c (.int 1)) (.op2 .mod (.call f__law_draw [(.io 0)]) (.v 1))), .setc 6 C__law_steps_2, .seto 6 (.op2 .catL (.op2 .add (.op3 .slice (.b 6) (.c (.int 1)) (.v 8)) (.op2 .upto (.b 6) (.c (.int 1)))) (.op2 .frm (.b 6) (.v 8))), .frz 6] []
abbrev T_4 : Sm := .ife (.and (.op2 .eq (.v 2) (.c (.int 4))) (.op2 .gt (.op1 .len (.b 4)) (.c (.int 0)))) [.set 6 (.call f__law_times [(.op2 .idx (.b 4) (.c (.int 0))), (.op2 .idx (.b 4) (.op2 .sub (.op1 .len (.b 4)) (.c (.int 1))))])] []
abbrev T_5 : Sm := .app 4 (.v 6)
theorem B_T : B__law_steps_2 = [T_1, T_2, T_3, T_4, T_5] := rfl
section
variable {n kd : Int} {d : D} {r : List Int} {F : List (List Int)} {my kk : Option D} {o6 o7 o8 : Option D}
theorem it3 {s : Int} (hs : s = 0 ∨ s = 1) (hn : 3 ≤ n ∧ n ≤ 12) : ∃ xs : List Int, items .rng3 [.int s, .int (n - 1), .int 2] = some (xs.map .int) ∧ ∀ p ∈ xs, 0 ≤ p ∧ p + 1 < n := by
  have hz : n = 3 ∨ n = 4 ∨ n = 5 ∨ n = 6 ∨ n = 7 ∨ n = 8 ∨ n = 9 ∨ n = 10 ∨ n = 11 ∨ n = 12 := by omega
  refine ⟨(List.range ((n - s) / 2).toNat).map fun i : Nat => s + 2 * (i : Int), ?_, ?_⟩
  · rcases hs with rfl | rfl <;> rcases hz with rfl | rfl | rfl | rfl | rfl | rfl | rfl | rfl | rfl | rfl <;> kernel_rfl
  · rcases hs with rfl | rfl <;> rcases hz with rfl | rfl | rfl | rfl | rfl | rfl | rfl | rfl | rfl | rfl <;> decide
theorem l_pairs (k : Nat) (hd : Dr d) (hn : 3 ≤ n ∧ n ≤ 12) : ∃ d' r' o7', exS Cc (fk (k + 2)) L__law_steps_1 [some d, some (.int n), some (.int kd), my, some (dRs F), kk, some (dR (rnd n)), o7, o8] = .next [some d', some (.int n), some (.int kd), my, some (dRs F), kk, some (dR r'), o7', o8] ∧ Dr d' ∧ PR n r' := by
  obtain ⟨z0, d1, s, e1, hd1, em, s0, s1⟩ := dr_mod k hd (m := 2) (by omega)
  obtain ⟨xs, ix, hx⟩ := it3 (s := s) (by omega) hn
  obtain ⟨r', o, e, hr⟩ := fr_inv (C := Cc) (φ := fk (k + 2)) (B := B__law_steps_1) (j := 7) (ik := .rng3) (its := [(.op2 .mod (.call f__law_draw [(.io 0)]) (.c (.int 2))), (.op2 .sub (.v 1) (.c (.int 1))), (.c (.int 2))]) (emb := D.int) (ds := [.int s, .int (n - 1), .int 2]) (xs := xs) (ρ := [some d, some (.int n), some (.int kd), my, some (dRs F), kk, some (dR (rnd n)), o7, o8])
    (fun (r : List Int) o => [some d1, some (.int n), some (.int kd), my, some (dRs F), kk, some (dR r), o, o8]) (fun _ r => PR n r) (s0 := rnd n) (o0 := o7) (by simp [e1, em]) ix (fun _ _ _ => rfl) (PR.r0 n) fun i p hp r hr => by
      obtain ⟨p0, p1⟩ := hx p (List.mem_of_getElem? hp)
      have hl : (r.length : Int) = n := by rw [hr.len]; omega
      have S := swap_ok (r := r) (φ := fk (k + 2)) (i := 6) (k1 := .v 7) (k2 := .op2 .add (.v 7) (.c (.int 1))) (a := p) (b := p + 1) (ρ := [some d1, some (.int n), some (.int kd), my, some (dRs F), kk, some (dR r), some (.int p), o8]) rfl (by simp) (by simp) (fun o => by simp) (fun o => by simp) (by omega) (by omega)
      refine ⟨swp r p (p + 1), ?_, (swp_perm (by omega) (by omega)).trans hr⟩
      unfold B__law_steps_1
      rw [z_cons, S, z_next]
      rfl
  exact ⟨d1, r', o, e, hd1, hr⟩
theorem t2 (k : Nat) (hd : Dr d) (hn : 3 ≤ n ∧ n ≤ 12) (hr : PR n r) : ∃ d' r' o7', exS Cc (fk (k + 2)) T_2 [some d, some (.int n), some (.int kd), my, some (dRs F), kk, some (dR r), o7, o8] = .next [some d', some (.int n), some (.int kd), my, some (dRs F), kk, some (dR r'), o7', o8] ∧ Dr d' ∧ PR n r' := by
  by_cases q : kd = 1
  · have C1 : ev (fk (k + 2)) C__law_steps_1 [some d, some (.int n), some (.int kd), my, some (dRs F), kk, some (dR r), o7, o8] = .ok (dR (rnd n)) [some d, some (.int n), some (.int kd), my, some (dRs F), kk, some (dR r), o7, o8] := by
      unfold C__law_steps_1
      rw [ev_lcm (e := dI) (G := fun i : Nat => D.int ((i : Int) + 1)) (ds := [.int n]) (xs := List.range n.toNat) (by simp) (by simp) (by rw [show n = ((n.toNat : Nat) : Int) by omega]; exact items_rng1 (by omega)) (fun p hp => by simp [dI]) (by simp; omega), rnd_map n (by omega)]
      rfl
    obtain ⟨d', r', o7', e, hd', hr'⟩ := l_pairs k hd hn (kd := kd) (F := F) (my := my) (kk := kk) (o7 := o7) (o8 := o8)
    refine ⟨d', r', o7', ?_, hd', hr'⟩
    generalize dR (rnd n) = R0 at *
    generalize dR r = R1 at *
    generalize dR r' = R2 at *
    generalize dRs F = FF at *
    subst q
    simp [eqD_int, C1, e]
  · refine ⟨d, r, o7, ?_, hd, hr⟩
    simp [eqD_int, q]
theorem cut_mid (z : Nat) (h1 : 1 ≤ z) (h2 : z ≤ (rnd n).length) : sem3 .slice (dR (rnd n)) (.int 1) (.int (z : Int)) = some (dR (((rnd n).take z).drop 1)) := by
  show some (D.lst (cutD ((rnd n).map .int) (some ((1 : Nat) : Int)) (some (z : Int)))) = _
  unfold cutD
  rw [HT.sIx_nat, HT.sIx_nat, List.length_map, Nat.min_eq_left h2, Nat.min_eq_left (show 1 ≤ (rnd n).length by omega), ← List.map_drop, ← List.map_take, List.drop_take]
  rfl
theorem t3 (k : Nat) (hd : Dr d) (hn : 3 ≤ n ∧ n ≤ 12) (hr : PR n r) : ∃ d' r' o8', exS Cc (fk (k + 2)) T_3 [some d, some (.int n), some (.int kd), my, some (dRs F), kk, some (dR r), o7, o8] = .next [some d', some (.int n), some (.int kd), my, some (dRs F), kk, some (dR r'), o7, o8'] ∧ Dr d' ∧ PR n r' := by
  by_cases q : kd = 3
  · obtain ⟨z0, d1, s, e1, hd1, em, s0, s1⟩ := dr_mod k hd (m := n) (by omega)
    have C2 : ∀ d o8, ev (fk (k + 2)) C__law_steps_2 [some d, some (.int n), some (.int kd), my, some (dRs F), kk, some (dR r), o7, o8] = .ok (dR (rnd n)) [some d, some (.int n), some (.int kd), my, some (dRs F), kk, some (dR r), o7, o8] := fun d o8 => by
      unfold C__law_steps_2
      rw [ev_lcm (e := dI) (G := fun i : Nat => D.int ((i : Int) + 1)) (ds := [.int n]) (xs := List.range n.toNat) (by simp) (by simp) (by rw [show n = ((n.toNat : Nat) : Int) by omega]; exact items_rng1 (by omega)) (fun p hp => by simp [dI]) (by simp; omega), rnd_map n (by omega)]
      rfl
    obtain ⟨z, hz⟩ : ∃ z : Nat, 1 + s = z := ⟨(1 + s).toNat, by omega⟩
    have ll := rnd_len n
    have sl := cut_mid (n := n) z (by omega) (by omega)
    have up : sem2 .upto (dR (rnd n)) (.int 1) = some (dR ((rnd n).take 1)) := by
      show some (D.lst (cutD ((rnd n).map .int) none (some ((1 : Nat) : Int)))) = _
      rw [(cut_n 1).1]
      rfl
    have fr : sem2 .frm (dR (rnd n)) (.int (z : Int)) = some (dR ((rnd n).drop z)) := by
      show some (D.lst (cutD ((rnd n).map .int) (some (z : Int)) none)) = _
      rw [(cut_n z).2]
      rfl
    have la : (((rnd n).take z).drop 1).length ≤ 12 := by rw [List.length_drop, List.length_take]; omega
    have lb : ((rnd n).take 1).length ≤ 12 := by rw [List.length_take]; omega
    have lc : ((rnd n).drop z).length ≤ 12 := by rw [List.length_drop]; omega
    have ad : sem2 .add (dR (((rnd n).take z).drop 1)) (dR ((rnd n).take 1)) = some (dR (((rnd n).take z).drop 1 ++ (rnd n).take 1)) := by
      unfold dR
      rw [s2_addl (by simp only [List.length_map]; omega), List.map_append]
    have ct : sem2 .catL (dR (((rnd n).take z).drop 1 ++ (rnd n).take 1)) (dR ((rnd n).drop z)) = some (dR (((rnd n).take z).drop 1 ++ (rnd n).take 1 ++ (rnd n).drop z)) := by
      unfold dR
      rw [s2_catL (by simp only [List.length_map, List.length_append]; omega), ← List.map_append]
    have pm : PR n (((rnd n).take z).drop 1 ++ (rnd n).take 1 ++ (rnd n).drop z) := by
      have e : (rnd n).take z = (rnd n).take 1 ++ ((rnd n).take z).drop 1 := by
        have := List.take_append_drop 1 ((rnd n).take z)
        rw [List.take_take, Nat.min_eq_left (by omega)] at this
        exact this.symm
      have p1 : (((rnd n).take z).drop 1 ++ (rnd n).take 1).Perm ((rnd n).take z) := by
        refine List.perm_append_comm.trans ?_
        rw [← e]
      have p2 := p1.append_right ((rnd n).drop z)
      rw [List.take_append_drop] at p2
      exact p2
    refine ⟨d1, _, some (.int (z : Int)), ?_, hd1, pm⟩
    generalize dR (((rnd n).take z).drop 1 ++ (rnd n).take 1 ++ (rnd n).drop z) = R5 at *
    generalize dR (((rnd n).take z).drop 1 ++ (rnd n).take 1) = R4 at *
    generalize dR (((rnd n).take z).drop 1) = Ra at *
    generalize dR ((rnd n).take 1) = Rb at *
    generalize dR ((rnd n).drop z) = Rc at *
    generalize dR (rnd n) = R0 at *
    generalize dR r = R1 at *
    generalize dRs F = FF at *
    subst q
    simp [eqD_int, e1, em, hz, C2, sl, up, fr, ad, ct]
  · refine ⟨d, r, o8, ?_, hd, hr⟩
    simp [eqD_int, q]
theorem t4 (k : Nat) (hn : 3 ≤ n ∧ n ≤ 12) (hr : PR n r) (hF : ∀ f ∈ F, PR n f) : ∃ r', exS Cc (fk (k + 2)) T_4 [some d, some (.int n), some (.int kd), my, some (dRs F), kk, some (dR r), o7, o8] = .next [some d, some (.int n), some (.int kd), my, some (dRs F), kk, some (dR r'), o7, o8] ∧ PR n r' := by
  have ln : sem1 .len (dRs F) = some (.int F.length) := by simp [dRs]
  by_cases q : kd = 4
  · by_cases l : (0 : Int) < F.length
    · have a0 : sem2 .idx (dRs F) (.int 0) = some (dR (F.getD 0 [])) := by
        have := atI_mapN (e := dR) (xs := F) (i := 0) (by omega)
        show atI (F.map dR) 0 = _
        rw [show (0 : Int) = ((0 : Nat) : Int) from rfl, this]
        congr 2
      have a1 : sem2 .idx (dRs F) (.int ((F.length : Int) - 1)) = some (dR (F.getD ((F.length : Int) - 1).toNat default)) := atI_map (e := dR) (by omega) (by omega)
      have p0 := hF _ (getD_mem (xs := F) (i := 0) (d := []) (by omega))
      have p1 := hF _ (getD_mem (xs := F) (i := ((F.length : Int) - 1).toNat) (d := default) (by omega))
      have T := r_law_times (k + 1) hn.2 p0.len p1.rng (by rw [p1.len]; omega)
      refine ⟨_, ?_, p0.tm p1⟩
      generalize dR (tms (F.getD 0 []) (F.getD ((F.length : Int) - 1).toNat default)) = R5 at *
      generalize dR (F.getD ((F.length : Int) - 1).toNat default) = R4 at *
      generalize dR (F.getD 0 []) = R3 at *
      generalize dR r = R1 at *
      generalize dRs F = FF at *
      generalize (F.length : Int) = lz at *
      subst q
      simp [eqD_int, ln, l, a0, a1, T, -s2_idxl]
    · refine ⟨r, ?_, hr⟩
      generalize dR r = R1 at *
      generalize dRs F = FF at *
      generalize (F.length : Int) = lz at *
      have l2 : lz ≤ 0 := by omega
      subst q
      simp [eqD_int, ln, l, l2]
  · refine ⟨r, ?_, hr⟩
    generalize dR r = R1 at *
    generalize dRs F = FF at *
    simp [eqD_int, q]
theorem r_steps (k : Nat) (hd : Dr d) (hn : 3 ≤ n ∧ n ≤ 12) : ∃ st d', fk (k + 5) f__law_steps [d, .int n] = .ret (dRs st) [d'] ∧ Dr d' ∧ Sok n st := by
  obtain ⟨z0, d1, kd, e1, hd1, em1, k0, k1⟩ := dr_mod (k + 2) hd (m := 5) (by omega)
  obtain ⟨c, c0, c1, ac⟩ : ∃ c : Int, 1 ≤ c ∧ c ≤ 12 ∧ atI [D.int 3, .int 2, .int 12, .int 4, .int 3] kd = some (.int c) := by
    have z : kd = 0 ∨ kd = 1 ∨ kd = 2 ∨ kd = 3 ∨ kd = 4 := by omega
    rcases z with rfl | rfl | rfl | rfl | rfl
    · exact ⟨3, by omega, by omega, rfl⟩
    · exact ⟨2, by omega, by omega, rfl⟩
    · exact ⟨12, by omega, by omega, rfl⟩
    · exact ⟨4, by omega, by omega, rfl⟩
    · exact ⟨3, by omega, by omega, rfl⟩
  obtain ⟨z1, d2, m, e2, hd2, em2, m0, m1⟩ := dr_mod (k + 2) hd1 (m := c) (by omega)
  obtain ⟨⟨d3, F, o6, o7, o8⟩, o, e, hd3, hl, hF⟩ := fr_inv (C := Cc) (φ := fk (k + 4)) (B := B__law_steps_2) (j := 5) (ik := .rng1) (its := [(.v 3)]) (emb := dI) (ds := [.int (1 + m)]) (xs := List.range (1 + m).toNat) (ρ := [some d2, some (.int n), some (.int kd), some (.int (1 + m)), some (dRs []), none, none, none, none])
    (fun (s : D × List (List Int) × Option D × Option D × Option D) o => [some s.1, some (.int n), some (.int kd), some (.int (1 + m)), some (dRs s.2.1), o, s.2.2.1, s.2.2.2.1, s.2.2.2.2]) (fun i s => Dr s.1 ∧ s.2.1.length = i ∧ ∀ f ∈ s.2.1, PR n f) (s0 := (d2, [], none, none, none)) (o0 := none) (by simp) (by rw [show 1 + m = (((1 + m).toNat : Nat) : Int) by omega]; exact items_rng1 (by omega)) (fun _ _ _ => rfl) ⟨hd2, rfl, fun _ h => by cases h⟩ fun i x hx s ⟨hd, hl, hF⟩ => by
      obtain ⟨d, F, o6, o7, o8⟩ := s
      dsimp only at hd hl hF ⊢
      have hi := (List.getElem?_eq_some_iff.mp hx).1
      rw [List.length_range] at hi
      obtain ⟨r1, da, ea, hda, pa⟩ := r_drawn_row (k + 1) hd hn
      obtain ⟨db, r2, o7', eb, hdb, pb⟩ := t2 (k + 2) hda hn pa (kd := kd) (F := F) (my := some (.int (1 + m))) (kk := some (dI x)) (o7 := o7) (o8 := o8)
      obtain ⟨dc, r3, o8', ec, hdc, pc⟩ := t3 (k + 2) hdb hn pb (kd := kd) (F := F) (my := some (.int (1 + m))) (kk := some (dI x)) (o7 := o7') (o8 := o8)
      obtain ⟨r4, ed, pd⟩ := t4 (k + 2) hn pc hF (d := dc) (kd := kd) (my := some (.int (1 + m))) (kk := some (dI x)) (o7 := o7') (o8 := o8')
      have ap : ∀ ρ, appO 4 (.lst (F.map dR)) (dR r4) ρ = _ := fun ρ => app_map _ (by omega)
      refine ⟨(dc, F ++ [r4], some (dR r4), o7', o8'), ?_, hdc, by dsimp only; rw [List.length_append, hl]; rfl, fun f hf => ?_⟩
      · have S1 : exS Cc (fk (k + 4)) T_1 [some d, some (.int n), some (.int kd), some (.int (1 + m)), some (dRs F), some (dI x), o6, o7, o8] = .next [some da, some (.int n), some (.int kd), some (.int (1 + m)), some (dRs F), some (dI x), some (dR r1), o7, o8] := by
          generalize dR r1 = R1 at *
          generalize dRs F = FF at *
          simp [ea]
        have S5 : exS Cc (fk (k + 4)) T_5 [some dc, some (.int n), some (.int kd), some (.int (1 + m)), some (dRs F), some (dI x), some (dR r4), o7', o8'] = .next [some dc, some (.int n), some (.int kd), some (.int (1 + m)), some (dRs (F ++ [r4])), some (dI x), some (dR r4), o7', o8'] := by
          unfold dRs at *
          generalize (F ++ [r4]).map dR = F2 at *
          generalize dR r4 = R4 at *
          generalize F.map dR = FF at *
          simp [ap]
        rw [B_T, z_cons, S1, z_next, z_cons, eb, z_next, z_cons, ec, z_next, z_cons, ed, z_next, z_cons, S5, z_next]
        rfl
      · rcases List.mem_append.mp hf with hf | hf
        · exact hF f hf
        · rw [List.mem_singleton.mp hf]
          exact pd
  dsimp only at hd3 hl hF
  rw [List.length_range] at hl
  have e : exS Cc (fk (k + 4)) L__law_steps_2 [some d2, some (.int n), some (.int kd), some (.int (1 + m)), some (.lst []), none, none, none, none] = _ := e
  refine ⟨F, d3, ?_, hd3, hn, by omega, hF⟩
  rw [e__law_steps]
  dsimp only at e
  generalize dRs F = FF at *
  simp [b__law_steps, e1, em1, ac, e2, em2, e]
end
end K45
set_option Elab.async false
set_option linter.all false
set_option maxRecDepth 100000
set_option autoImplicit false
namespace K45
open PySem Bell L2
section
variable {n : Int} {st : List (List Int)} {es : Es} {r : List Int} {S d : D}
theorem r_check_bells (k : Nat) (hn : 3 ≤ n ∧ n ≤ 12) : fk (k + 2) f_check_bells [.int n] = .ret .non [] := by
  rw [e_check_bells]
  simp [b_check_bells, r_is_number, hn]
theorem r_check_steps (k : Nat) (h : Sok n st) : fk (k + 3) f_check_steps [.int n, dRs st] = .ret .non [] := by
  have A := r_check_bells k h.n3
  have hl := h.len
  have C1 : ev (fk (k + 2)) C_check_steps_1 [some (.int n), some (dRs st), none] = .ok (.lst []) [some (.int n), some (dRs st), none] := by
    unfold C_check_steps_1
    rw [ev_lce (e := dR) (g := fun _ => none) (ds := [dRs st]) (xs := st) (by simp) (by simp) rfl (fun r hr => ?_) (by omega)]
    · simp
    · have R := r_is_row k h.n3 (h.pr r hr)
      have l1 : sem1 .len (dR r) = some (.int n) := by simp [dR, (h.pr r hr).len]; have := h.n3; omega
      generalize dRs st = ST at *
      simp [R, l1, eqD_int]
  have ln : sem1 .len (dRs st) = some (.int st.length) := by simp [dRs]
  have il : sem1 (.isI .list) (dRs st) = some (.bl true) := rfl
  have t1 : (1 : Int) ≤ st.length := by omega
  have t2 : (st.length : Int) ≤ 12 := by omega
  rw [e_check_steps]
  generalize dRs st = ST at *
  generalize (st.length : Int) = m at *
  simp [b_check_steps, A, C1, ln, il, t1, t2]
theorem r_check_one (k : Nat) (hn : 3 ≤ n ∧ n ≤ 12) (hr : PR n r) : fk (k + 3) f_check_one [.int n, dR r] = .ret .non [] := by
  have R := r_is_row k hn hr
  have l1 : sem1 .len (dR r) = some (.int n) := by simp [dR, hr.len]; omega
  rw [e_check_one]
  simp [b_check_one, R, l1, eqD_int]
def keys (es : Es) : List (List Int) := es.map Prod.fst
theorem sortT_dT (h : ∀ e ∈ es, e.1 ≠ []) : sem1 .sortT (dT dR es) = some (dL (sortX (keys es))) := by
  show (tupsO ((es.map fun e => (dC e.1, dR e.2)).map (·.1))).map (fun ns => D.lst ((sortX ns).map tI)) = _
  have e : (es.map fun e => (dC e.1, dR e.2)).map (·.1) = (keys es).map dC := by
    unfold keys
    rw [List.map_map, List.map_map]
    rfl
  rw [e, tupsO_C']
  rfl
theorem fin_good (hs : ∀ s ∈ st, PR n s) (h : Fin n st es) : (∀ e ∈ es, PR n e.1) ∧ (∀ e ∈ es, e.2.length ≤ 5040) ∧ es.length ≤ 5040 ∧ 1 ≤ es.length := by
  obtain ⟨i, _, rfl, l⟩ := h
  have g := X_good hs i
  have m := X_mono (n := n) hs 0 i (Nat.zero_le _)
  have m : 1 ≤ (XX n st i).1.length := m
  exact ⟨g.pr, fun e he => Nat.le_trans (g.ln e he) l, l, m⟩
theorem r_made (k : Nat) (h : Sok n st) : (∀ es, Fin n st es → fk (k + 4) f_made_rows [.int n, dRs st] = .ret (dRs (sortX (keys es))) []) ∧ (Big n st → fk (k + 4) f_made_rows [.int n, dRs st] = .exc 2 []) := by
  have A := r_check_steps k h
  have W := r_ways (k + 1) h
  refine ⟨fun es hF => ?_, fun hB => ?_⟩
  · obtain ⟨p, _, l5, _⟩ := fin_good h.pr hF
    have W : fk (k + 3) f_ways_from_rounds [.int n, dRs st, .int 5040] = .ret (dT dR es) [] := by
      rcases W with ⟨es', hF', e⟩ | ⟨hB, _⟩
      · rw [fin_uniq hF hF']
        exact e
      · exact (fin_big h.pr hF hB).elim
    have sT := sortT_dT (es := es) fun e he z => by
      have q := (p e he).len
      rw [z, List.length_nil] at q
      have := h.n3
      omega
    have C1 : ev (fk (k + 3)) C_made_rows_1 [some (.int n), some (dRs st), none] = .ok (dRs (sortX (keys es))) [some (.int n), some (dRs st), none] := by
      unfold C_made_rows_1
      rw [ev_lcm (e := dC) (G := dR) (ds := [dL (sortX (keys es))]) (xs := sortX (keys es)) (by simp) ?_ rfl (fun p hp => ?_) (by rw [(sortX_perm _).length_eq]; unfold keys; rw [List.length_map]; omega)]
      · rfl
      · generalize dL (sortX (keys es)) = K at *
        generalize dT dR es = F at *
        generalize dRs st = ST at *
        simp [W, sT]
      · have tl : sem1 .list (dC p) = some (dR p) := rfl
        generalize dC p = P at *
        generalize dRs st = ST at *
        simp [tl]
    rw [e_made_rows]
    generalize dRs (sortX (keys es)) = K at *
    generalize dRs st = ST at *
    simp [b_made_rows, A, C1]
  · have W : fk (k + 3) f_ways_from_rounds [.int n, dRs st, .int 5040] = .exc 2 [] := by
      rcases W with ⟨es', hF', e⟩ | ⟨_, e⟩
      · exact (fin_big h.pr hF' hB).elim
      · exact e
    have C1 : ev (fk (k + 3)) C_made_rows_1 [some (.int n), some (dRs st), none] = .exc 2 [some (.int n), some (dRs st), none] := by
      unfold C_made_rows_1
      rw [ev_lc]
      unfold lcM
      have e : evL (fk (k + 3)) [(.op1 .sortT (.call f_ways_from_rounds [(.v 0), (.v 1), (.g "MOST_MADE" (.int 5040))]))] [some (.int n), some (dRs st), none] = .exc 2 [some (.int n), some (dRs st), none] := by
        generalize dRs st = ST at *
        simp [W]
        try rfl
      rw [e]
      rfl
    rw [e_made_rows]
    generalize dRs st = ST at *
    simp [b_made_rows, A, C1]
    try rfl
def oD (es : Es) (r : List Int) : D := ((gtT es r).map dR).getD .non
theorem get1_T : semM .get1 (dT dR es) [dC r] = some (oD es r) := by
  show (if isKey true (dC r) then some ((dGet (es.map fun e => (dC e.1, dR e.2)) (dC r)).getD .non) else none) = _
  rw [isKey_C, dGet_T]
  rfl
theorem r_to (k : Nat) (h : Sok n st) (hr : PR n r) : (∀ es, Fin n st es → fk (k + 4) f_steps_to [.int n, dRs st, dR r] = .ret (oD es r) []) ∧ (Big n st → fk (k + 4) f_steps_to [.int n, dRs st, dR r] = .exc 2 []) := by
  have A := r_check_steps k h
  have B := r_check_one k h.n3 hr
  have W := r_ways (k + 1) h
  have tR := tup_R r
  refine ⟨fun es hF => ?_, fun hB => ?_⟩
  · have W : fk (k + 3) f_ways_from_rounds [.int n, dRs st, .int 5040] = .ret (dT dR es) [] := by
      rcases W with ⟨es', hF', e⟩ | ⟨hB, _⟩
      · rw [fin_uniq hF hF']
        exact e
      · exact (fin_big h.pr hF hB).elim
    have g := get1_T (es := es) (r := r)
    have km : kindM .get1 (dT dR es) = true := rfl
    rw [e_steps_to]
    generalize dT dR es = F at *
    generalize dRs st = ST at *
    generalize dC r = R1 at *
    generalize dR r = R0 at *
    unfold oD at *
    cases q : gtT es r with
    | none =>
      rw [q] at g
      have g : semM .get1 F [R1] = some .non := g
      show _ = Res.ret D.non []
      simp [b_steps_to, A, B, W, km, tR, g]
    | some p =>
      rw [q] at g
      have g : semM .get1 F [R1] = some (dR p) := g
      have i0 : sem1 .isN (dR p) = some (.bl false) := rfl
      have l0 : sem1 .list (dR p) = some (dR p) := rfl
      show _ = Res.ret (dR p) []
      generalize dR p = P at *
      simp [b_steps_to, A, B, W, km, tR, g, i0, l0]
  · have W : fk (k + 3) f_ways_from_rounds [.int n, dRs st, .int 5040] = .exc 2 [] := by
      rcases W with ⟨es', hF', e⟩ | ⟨_, e⟩
      · exact (fin_big h.pr hF' hB).elim
      · exact e
    rw [e_steps_to]
    generalize dRs st = ST at *
    generalize dC r = R1 at *
    generalize dR r = R0 at *
    simp [b_steps_to, A, B, W]
    try rfl
theorem r_many (k : Nat) (h : Sok n st) (hr : PR n r) (hB : Big n st) : fk (k + 5) f__law_too_many [.int n, dRs st, .non] = .ret (.bl true) [] ∧ fk (k + 5) f__law_too_many [.int n, dRs st, dR r] = .ret (.bl true) [] := by
  have M := (r_made k h).2 hB
  have T := (r_to k h hr).2 hB
  have c1 : Cc 2 2 = true := by decide +kernel
  have i0 : sem1 .isN (dR r) = some (.bl false) := rfl
  constructor
  · rw [e__law_too_many]
    generalize dRs st = ST at *
    simp [b__law_too_many, M, c1]
  · rw [e__law_too_many]
    generalize dRs st = ST at *
    generalize dR r = R0 at *
    simp [b__law_too_many, T, c1, i0]
theorem eqR (k : Nat) {x : List Int} (hx : x.length ≤ 2 ^ 24) : fk (k + 3) f__law_equal [dR x, dR x] = .ret (.bl true) [] := r_equal 1 _ (okE_ints 0 hx).1 k
theorem eqRs (k : Nat) {xs : List (List Int)} (hx : xs.length ≤ 2 ^ 24) (h : ∀ x ∈ xs, x.length ≤ 2 ^ 24) : fk (k + 5) f__law_equal [dRs xs, dRs xs] = .ret (.bl true) [] := r_equal 2 _ (okE_map (fun c hc => (okE_ints 0 (h c hc)).1) hx).1 k
theorem eqN (k : Nat) : fk (k + 1) f__law_equal [.non, .non] = .ret (.bl true) [] := by kernel_rfl
theorem lcd_keys {φ : Calls} {ρ : Bell.Env} {own : List Nat} {tg : Tg} {i : Nat} {elt : Ex} (h : ρ[i]? = some (some (dT dR es))) : ev φ (.lcd own tg i none elt) ρ = ev φ (.lc own tg .lst [.c (dL (keys es))] none elt) ρ := by
  rw [ev_lcd, ev_lc]
  unfold lcdM lcM rd
  rw [h]
  have e : (es.map fun e => (dC e.1, dR e.2)).map (·.1) = (keys es).map dC := by
    unfold keys
    rw [List.map_map, List.map_map]
    rfl
  have e2 : evL φ [.c (dL (keys es))] ρ = .ok [dL (keys es)] ρ := by simp
  rw [e2]
  show (match lcGo own (lcF tg (condM φ none) (ev φ elt)) ((es.map fun e => (dC e.1, dR e.2)).map (·.1)) ρ with
    | .ok ys ρ1 => if ys.length ≤ sizeLine then Out.ok (D.lst ys) (restE ρ ρ1 own) else .stuck
    | _ => .stuck) = _
  rw [e]
  rfl
theorem l_law (k : Nat) (h : Sok n st) (hF : Fin n st es) (hd : Dr d) (hr : PR n r) : ∃ d' o6 o8, exS Cc (fk (k + 11)) L_law_1 [some S, some d, some (.int n), some (dRs st), some (dRs st), some (dT dR es), some (dR r), some (dRs (sortX (keys es))), none, none] = .next [some S, some d', some (.int n), some (dRs st), some (dRs st), some (dT dR es), o6, some (dRs (sortX (keys es))), o8, none] := by
  obtain ⟨p, pl, l5, l1⟩ := fin_good h.pr hF
  have lk : (sortX (keys es)).length = es.length := by rw [(sortX_perm _).length_eq]; unfold keys; rw [List.length_map]
  obtain ⟨⟨d', r'⟩, o, e, _⟩ := fr_inv (C := Cc) (φ := fk (k + 11)) (B := B_law_1) (j := 8) (ik := .rng1) (its := [(.c (.int 4))]) (emb := dI) (ds := [.int 4]) (xs := List.range 4) (ρ := [some S, some d, some (.int n), some (dRs st), some (dRs st), some (dT dR es), some (dR r), some (dRs (sortX (keys es))), none, none])
    (fun (s : D × List Int) o => [some S, some s.1, some (.int n), some (dRs st), some (dRs st), some (dT dR es), some (dR s.2), some (dRs (sortX (keys es))), o, none]) (fun _ s => Dr s.1 ∧ PR n s.2) (s0 := (d, r)) (o0 := none) (by simp) (items_rng1 (n := 4) (by decide)) (fun _ _ _ => rfl) ⟨hd, hr⟩ fun i x hx s ⟨hd, hr⟩ => by
      obtain ⟨d, r⟩ := s
      dsimp only at hd hr ⊢
      have T := (r_to (k + 7) h hr).1 es hF
      have tR := tup_R r
      have mm := s2_memD (g := dR) (es := es) (k := r)
      have dg := s2_dgetD (g := dR) (es := es) (k := r)
      obtain ⟨z0, d1, j, e1, hd1, em, j0, j1⟩ := dr_mod (k + 9) hd (m := (es.length : Int)) (by omega)
      have ln : sem1 .len (dRs (sortX (keys es))) = some (.int es.length) := by simp [dRs, lk]
      have ai : sem2 .idx (dRs (sortX (keys es))) (.int j) = some (dR ((sortX (keys es)).getD j.toNat default)) := atI_map (e := dR) j0 (by rw [lk]; exact j1)
      have hm := getD_mem (xs := sortX (keys es)) (i := j.toNat) (d := default) (by rw [lk]; omega)
      have pm : PR n ((sortX (keys es)).getD j.toNat default) := by
        have := (sortX_perm (keys es)).mem_iff.mp hm
        obtain ⟨e, he, z⟩ := List.mem_map.mp this
        rw [← z]
        exact p e he
      refine ⟨(d1, (sortX (keys es)).getD j.toNat default), ?_, hd1, pm⟩
      dsimp only
      generalize dR ((sortX (keys es)).getD j.toNat default) = R5 at *
      generalize dRs (sortX (keys es)) = K at *
      generalize (es.length : Int) = lz at *
      unfold oD at T
      cases q : gtT es r with
      | none =>
        rw [q] at T mm dg
        have T : fk (k + 11) f_steps_to [.int n, dRs st, dR r] = .ret .non [] := T
        have E := eqN (k + 10)
        have mm : sem2 .mem (dC r) (dT dR es) = some (.bl false) := mm
        generalize dT dR es = F at *
        generalize dRs st = ST at *
        generalize dC r = R1 at *
        generalize dR r = R0 at *
        simp [B_law_1, T, tR, mm, E, e1, ln, em, ai, -s2_idxl]
      | some w =>
        rw [q] at T mm dg
        have T : fk (k + 11) f_steps_to [.int n, dRs st, dR r] = .ret (dR w) [] := T
        have mm : sem2 .mem (dC r) (dT dR es) = some (.bl true) := mm
        have dg : sem2 .dget (dT dR es) (dC r) = some (dR w) := dg
        have E := eqR (k + 8) (x := w) (by have := pl _ (gtT_some q); have : w.length ≤ 5040 := this; omega)
        generalize dT dR es = F at *
        generalize dRs st = ST at *
        generalize dC r = R1 at *
        generalize dR w = W at *
        generalize dR r = R0 at *
        simp [B_law_1, T, tR, mm, dg, E, e1, ln, em, ai, -s2_idxl]
  exact ⟨d', _, _, e⟩
end
/-- THE LAW -/
theorem r_law (k : Nat) {sc : List Int} (h : sc.length ≤ 63) : fk (k + 12) f_law [.scr sc] = .ret (.bl true) [] := by
  obtain ⟨nums, en, hm, hln⟩ := r_numbers (k + 9) h
  have hd0 : Dr (.lst [.lst (nums.map .int), .int 0]) := ⟨nums, 0, rfl, hm, by omega, hln⟩
  generalize hdd : D.lst [.lst (nums.map .int), .int 0] = d0 at hd0
  generalize D.scr sc = S at en ⊢
  have S1 : exS Cc (fk (k + 11)) (.seto 1 (.lstD [(.call f__law_numbers [(.v 0)]), (.c (.int 0))])) [some S, none, none, none, none, none, none, none, none, none] = .next [some S, some d0, none, none, none, none, none, none, none, none] := by
    simp [en, hdd]
  obtain ⟨z1, d1, e1, hd1, q0, q1⟩ := r_draw (k + 9) hd0
  obtain ⟨z2, d2, j, e2, hd2, em2, j0, j1⟩ := dr_mod (k + 9) hd1 (m := 4) (by omega)
  obtain ⟨c, c0, c1, ac⟩ : ∃ c : Int, 1 ≤ c ∧ c ≤ 10 ∧ atI [D.int 10, .int 4, .int 4, .int 5] j = some (.int c) := by
    have z : j = 0 ∨ j = 1 ∨ j = 2 ∨ j = 3 := by omega
    rcases z with rfl | rfl | rfl | rfl
    · exact ⟨10, by omega, by omega, rfl⟩
    · exact ⟨4, by omega, by omega, rfl⟩
    · exact ⟨4, by omega, by omega, rfl⟩
    · exact ⟨5, by omega, by omega, rfl⟩
  have em1 : sem2 .mod (.int z1) (.int c) = some (.int (z1 % c)) := s2_mod (by omega)
  have n0 : 0 ≤ z1 % c := Int.emod_nonneg _ (by omega)
  have n1 : z1 % c < c := Int.emod_lt_of_pos _ (by omega)
  have hn : 3 ≤ 3 + z1 % c ∧ 3 + z1 % c ≤ 12 := by omega
  generalize z1 % c = y at em1 hn
  generalize hnn : 3 + y = n at hn
  have S2 : exS Cc (fk (k + 11)) (.set 2 (.op2 .add (.c (.int 3)) (.op2 .mod (.call f__law_draw [(.io 1)]) (.op2 .idx (.lstD [(.c (.int 10)), (.c (.int 4)), (.c (.int 4)), (.c (.int 5))]) (.op2 .mod (.call f__law_draw [(.io 1)]) (.c (.int 4))))))) [some S, some d0, none, none, none, none, none, none, none, none] = .next [some S, some d2, some (.int n), none, none, none, none, none, none, none] := by
    simp [e1, e2, em2, ac, em1, hnn]
  obtain ⟨st, d3, e3, hd3, hs⟩ := r_steps (k + 6) hd2 hn
  obtain ⟨r, d4, e4, hd4, hr⟩ := r_drawn_row (k + 8) hd3 hn
  have ls := hs.len
  have S3 : exS Cc (fk (k + 11)) (.set 3 (.call f__law_steps [(.io 1), (.v 2)])) [some S, some d2, some (.int n), none, none, none, none, none, none, none] = .next [some S, some d3, some (.int n), some (dRs st), none, none, none, none, none, none] := by
    simp [e3]
  have C1 : ev (fk (k + 11)) C_law_1 [some S, some d3, some (.int n), some (dRs st), none, none, none, none, none, none] = .ok (dRs st) [some S, some d3, some (.int n), some (dRs st), none, none, none, none, none, none] := by
    unfold C_law_1
    rw [ev_lcm (e := dR) (G := dR) (ds := [dRs st]) (xs := st) (by simp) (by simp) rfl (fun x hx => by
      have tl : sem1 .list (dR x) = some (dR x) := rfl
      generalize dR x = X at *
      generalize dRs st = ST at *
      simp [tl]) (by omega)]
    rfl
  have S4 : exS Cc (fk (k + 11)) (.set 4 C_law_1) [some S, some d3, some (.int n), some (dRs st), none, none, none, none, none, none] = .next [some S, some d3, some (.int n), some (dRs st), some (dRs st), none, none, none, none, none] := by
    simp [C1]
  have V := r_search (k + 9) hs
  rw [e_law]
  unfold b_law
  rcases V with ⟨es, hF, ev5⟩ | ⟨hB, ev5⟩
  · obtain ⟨p, pl, l5, l1⟩ := fin_good hs.pr hF
    have S5 : exS Cc (fk (k + 11)) (.set 5 (.call f__law_search [(.v 2), (.v 3)])) [some S, some d3, some (.int n), some (dRs st), some (dRs st), none, none, none, none, none] = .next [some S, some d3, some (.int n), some (dRs st), some (dRs st), some (dT dR es), none, none, none, none] := by
      generalize dRs st = ST at *
      generalize dT dR es = F at *
      simp [ev5]
    have S6 : exS Cc (fk (k + 11)) (.set 6 (.call f__law_drawn_row [(.io 1), (.v 2)])) [some S, some d3, some (.int n), some (dRs st), some (dRs st), some (dT dR es), none, none, none, none] = .next [some S, some d4, some (.int n), some (dRs st), some (dRs st), some (dT dR es), some (dR r), none, none, none] := by
      generalize dRs st = ST at *
      generalize dT dR es = F at *
      simp [e4]
    have S7 : exS Cc (fk (k + 11)) (.ife (.op1 .isN (.v 5)) [.ret (.and (.call f__law_too_many [(.v 2), (.v 4), (.c .non)]) (.call f__law_too_many [(.v 2), (.v 4), (.v 6)]))] []) [some S, some d4, some (.int n), some (dRs st), some (dRs st), some (dT dR es), some (dR r), none, none, none] = .next [some S, some d4, some (.int n), some (dRs st), some (dRs st), some (dT dR es), some (dR r), none, none, none] := by
      have i0 : sem1 .isN (dT dR es) = some (.bl false) := rfl
      generalize dRs st = ST at *
      generalize dT dR es = F at *
      simp [i0]
    have C2 : ev (fk (k + 11)) C_law_2 [some S, some d4, some (.int n), some (dRs st), some (dRs st), some (dT dR es), some (dR r), none, none, none] = .ok (dRs (keys es)) [some S, some d4, some (.int n), some (dRs st), some (dRs st), some (dT dR es), some (dR r), none, none, none] := by
      unfold C_law_2
      rw [lcd_keys (es := es) rfl, ev_lcm (e := dC) (G := dR) (ds := [dL (keys es)]) (xs := keys es) (by simp) (by simp) rfl (fun x hx => by
        have tl : sem1 .list (dC x) = some (dR x) := rfl
        generalize dC x = X at *
        generalize dT dR es = F at *
        generalize dRs st = ST at *
        simp [tl]) (by unfold keys; rw [List.length_map]; omega)]
      rfl
    have sd := s1_sortD_R (keys es) (by unfold keys; rw [List.length_map]; omega)
    have S8 : exS Cc (fk (k + 11)) (.set 7 (.op1 .sortD C_law_2)) [some S, some d4, some (.int n), some (dRs st), some (dRs st), some (dT dR es), some (dR r), none, none, none] = .next [some S, some d4, some (.int n), some (dRs st), some (dRs st), some (dT dR es), some (dR r), some (dRs (sortX (keys es))), none, none] := by
      generalize dRs (sortX (keys es)) = K2 at *
      generalize dRs (keys es) = K1 at *
      generalize dRs st = ST at *
      generalize dT dR es = F at *
      simp [C2, sd]
    have M := (r_made (k + 7) hs).1 es hF
    have lk : (sortX (keys es)).length = es.length := by rw [(sortX_perm _).length_eq]; unfold keys; rw [List.length_map]
    have E := eqRs (k + 6) (xs := sortX (keys es)) (by omega) fun x hx => by
      have := (sortX_perm (keys es)).mem_iff.mp hx
      obtain ⟨e, he, z⟩ := List.mem_map.mp this
      rw [← z, (p e he).len]
      omega
    have S9 : exS Cc (fk (k + 11)) (.ife (.not (.call f__law_equal [(.call f_made_rows [(.v 2), (.v 4)]), (.v 7)])) [.ret (.c (.bl false))] []) [some S, some d4, some (.int n), some (dRs st), some (dRs st), some (dT dR es), some (dR r), some (dRs (sortX (keys es))), none, none] = .next [some S, some d4, some (.int n), some (dRs st), some (dRs st), some (dT dR es), some (dR r), some (dRs (sortX (keys es))), none, none] := by
      generalize dRs (sortX (keys es)) = K2 at *
      generalize dRs st = ST at *
      generalize dT dR es = F at *
      simp [M, E]
    obtain ⟨d5, o6, o8, L⟩ := l_law (S := S) k hs hF hd4 hr
    have E2 := eqRs (k + 6) (xs := st) (by omega) fun x hx => by
      rw [(hs.pr x hx).len]
      omega
    have S11 : exS Cc (fk (k + 11)) (.ret (.call f__law_equal [(.v 4), (.v 3)])) [some S, some d5, some (.int n), some (dRs st), some (dRs st), some (dT dR es), o6, some (dRs (sortX (keys es))), o8, none] = .ret (.bl true) [some S, some d5, some (.int n), some (dRs st), some (dRs st), some (dT dR es), o6, some (dRs (sortX (keys es))), o8, none] := by
      generalize dRs (sortX (keys es)) = K2 at *
      generalize dRs st = ST at *
      generalize dT dR es = F at *
      simp [E2]
    rw [z_cons, S1, z_next, z_cons, S2, z_next, z_cons, S3, z_next, z_cons, S4, z_next, z_cons, S5, z_next, z_cons, S6, z_next, z_cons, S7, z_next, z_cons, S8, z_next, z_cons, S9, z_next, z_cons, L, z_next, z_cons, S11, z_seqr]
    rfl
  · obtain ⟨M1, M2⟩ := r_many (k + 6) hs hr hB
    have S5 : exS Cc (fk (k + 11)) (.set 5 (.call f__law_search [(.v 2), (.v 3)])) [some S, some d3, some (.int n), some (dRs st), some (dRs st), none, none, none, none, none] = .next [some S, some d3, some (.int n), some (dRs st), some (dRs st), some .non, none, none, none, none] := by
      generalize dRs st = ST at *
      simp [ev5]
    have S6 : exS Cc (fk (k + 11)) (.set 6 (.call f__law_drawn_row [(.io 1), (.v 2)])) [some S, some d3, some (.int n), some (dRs st), some (dRs st), some .non, none, none, none, none] = .next [some S, some d4, some (.int n), some (dRs st), some (dRs st), some .non, some (dR r), none, none, none] := by
      generalize dRs st = ST at *
      simp [e4]
    have S7 : exS Cc (fk (k + 11)) (.ife (.op1 .isN (.v 5)) [.ret (.and (.call f__law_too_many [(.v 2), (.v 4), (.c .non)]) (.call f__law_too_many [(.v 2), (.v 4), (.v 6)]))] []) [some S, some d4, some (.int n), some (dRs st), some (dRs st), some .non, some (dR r), none, none, none] = .ret (.bl true) [some S, some d4, some (.int n), some (dRs st), some (dRs st), some .non, some (dR r), none, none, none] := by
      generalize dRs st = ST at *
      generalize dR r = R0 at *
      simp [M1, M2]
    rw [z_cons, S1, z_next, z_cons, S2, z_next, z_cons, S3, z_next, z_cons, S4, z_next, z_cons, S5, z_next, z_cons, S6, z_next, z_cons, S7, z_seqr]
    rfl
end K45
theorem PySem.Challenge.cw_roundshome_k45_whole_rows_that_steps_mak_holds : PySem.Challenge.rw_roundshome_k45_whole_rows_that_steps_mak.Holds := by
  exact K45.holds_of fun ns h => K45.r_law 12 h
