import PyProof.Rows.All
import Wide.All
import OpenK.AllK
import Wide.FinOn
import KE.KStateDown
import HandS.ForMost
import HandS.ForExc
import HandS.Defaults
import HandS.Head0
import HandS.Head1
import HandS.Head2
import HandS.HeadEnd
import HandS.HeadHook1
import HandS.HeadHook2
import HandS.Flow
import HandS.TupMul
import HandS.TupAny
import HandS.NoneIn
import HandS.IsInst
import HandS.Deep
import HandS.Iter
import HandS.Walk
import PyProof.ReprRoads
import HandS.Property
import HandS.Comp
import KE.KExcSuper
import HandS.ExcValue
import HandS.ExcField
import HandS.ExcIs
import HandS.EndBits
import HandS.Dict
import PySem.Challenge.RW_partedlanes_k01_exceptions
import HandS.Words
set_option Elab.async false
set_option linter.all false
set_option maxRecDepth 100000
set_option maxHeartbeats 4000000
/-! # PL: a small checked interpreter over the hand layer. Data as pure values (D), lists, dicts and instances by index (HE); each construct has a combinator and a rule. -/
namespace PL
open PySem PySem.Spec PyProof.Rows L2

/-- a value: tuples are pure; lists, dicts and instances are objects by index; kr x: what the module's name x stands for; wl: a list that nobody writes (the script) -/
inductive D where
  | non | bl (b : Bool) | int (i : Int) | str (x : Str) | ty (n : String) | kr (x : Str) | obj (i : Nat) | tup (ds : List D) | wl (ds : List D)

/-- an object -/
inductive Ob where
  | lst (ds : List D)
  | ins (c : Str) (fs : List (Str × D))
  | dic (kvs : List (Key × D))
  | exi (c : Str) (fs : List (Str × D))
  | non

/-! ### the heap: a binary tree by index -/
inductive Tr where
  | leaf
  | node (v : Option Ob) (l r : Tr)
def Tr.get : Tr → Nat → Option Ob
  | .leaf, _ => none
  | .node v l r, n => if n = 0 then v else if n % 2 = 1 then l.get (n / 2) else r.get (n / 2 - 1)
def Tr.val : Tr → Option Ob
  | .leaf => none
  | .node v _ _ => v
def Tr.lt : Tr → Tr
  | .leaf => .leaf
  | .node _ l _ => l
def Tr.rt : Tr → Tr
  | .leaf => .leaf
  | .node _ _ r => r
def Tr.putF : Nat → Tr → Nat → Ob → Tr
  | 0, t, _, o => .node (some o) t.lt t.rt
  | f + 1, t, n, o => if n = 0 then .node (some o) t.lt t.rt else if n % 2 = 1 then .node t.val (Tr.putF f t.lt (n / 2) o) t.rt else .node t.val t.lt (Tr.putF f t.rt (n / 2 - 1) o)
def Tr.put (t : Tr) (n : Nat) (o : Ob) : Tr := Tr.putF n t n o
theorem Tr.get_parts (t : Tr) (n : Nat) : t.get n = if n = 0 then t.val else if n % 2 = 1 then t.lt.get (n / 2) else t.rt.get (n / 2 - 1) := by
  cases t with
  | leaf =>
    show none = if n = 0 then none else if n % 2 = 1 then none else none
    split
    · rfl
    · split <;> rfl
  | node v l r => rfl
theorem Tr.get_putF : ∀ (f : Nat) (t : Tr) (n m : Nat) (o : Ob), n ≤ f → (Tr.putF f t n o).get m = if m = n then some o else t.get m
  | 0, t, n, m, o, h => by
    have hn : n = 0 := Nat.le_zero.mp h
    subst hn
    show (Tr.node (some o) t.lt t.rt).get m = _
    rw [Tr.get_parts t m]
    show (if m = 0 then some o else if m % 2 = 1 then t.lt.get (m / 2) else t.rt.get (m / 2 - 1)) = _
    by_cases e : m = 0
    · rw [if_pos e, if_pos e]
    · rw [if_neg e, if_neg e, if_neg e]
  | f + 1, t, n, m, o, h => by
    rw [Tr.get_parts t m]
    show (if n = 0 then Tr.node (some o) t.lt t.rt else if n % 2 = 1 then Tr.node t.val (Tr.putF f t.lt (n / 2) o) t.rt else Tr.node t.val t.lt (Tr.putF f t.rt (n / 2 - 1) o)).get m = _
    by_cases e : n = 0
    · rw [if_pos e]
      show (if m = 0 then some o else if m % 2 = 1 then t.lt.get (m / 2) else t.rt.get (m / 2 - 1)) = _
      subst e
      by_cases e2 : m = 0
      · rw [if_pos e2, if_pos e2]
      · rw [if_neg e2, if_neg e2, if_neg e2]
    · rw [if_neg e]
      by_cases o1 : n % 2 = 1
      · rw [if_pos o1]
        show (if m = 0 then t.val else if m % 2 = 1 then (Tr.putF f t.lt (n / 2) o).get (m / 2) else t.rt.get (m / 2 - 1)) = _
        by_cases e2 : m = 0
        · have : ¬ m = n := by omega
          rw [if_pos e2, if_neg this, if_pos e2]
        · rw [if_neg e2]
          by_cases o2 : m % 2 = 1
          · rw [if_pos o2, Tr.get_putF f t.lt (n / 2) (m / 2) o (by omega)]
            by_cases q : m = n
            · rw [if_pos q, if_pos (by rw [q])]
            · rw [if_neg q, if_neg (by omega), if_neg e2, if_pos o2]
          · rw [if_neg o2]
            have : ¬ m = n := by intro z; rw [z] at o2; exact o2 o1
            rw [if_neg this, if_neg e2, if_neg o2]
      · rw [if_neg o1]
        show (if m = 0 then t.val else if m % 2 = 1 then t.lt.get (m / 2) else (Tr.putF f t.rt (n / 2 - 1) o).get (m / 2 - 1)) = _
        by_cases e2 : m = 0
        · have : ¬ m = n := by omega
          rw [if_pos e2, if_neg this, if_pos e2]
        · rw [if_neg e2]
          by_cases o2 : m % 2 = 1
          · have : ¬ m = n := by intro z; rw [z] at o2; exact o1 o2
            rw [if_pos o2, if_neg this, if_neg e2, if_pos o2]
          · rw [if_neg o2, Tr.get_putF f t.rt (n / 2 - 1) (m / 2 - 1) o (by omega)]
            by_cases q : m = n
            · rw [if_pos q, if_pos (by rw [q])]
            · rw [if_neg q, if_neg (by omega), if_neg e2, if_neg o2]
/-- the heap of the interpreter -/
structure HE where
  n : Nat
  t : Tr
def HE.get (h : HE) (i : Nat) : Option Ob := if i < h.n then h.t.get i else none
def HE.new (h : HE) (o : Ob) : HE := ⟨h.n + 1, h.t.put h.n o⟩
def HE.put (h : HE) (i : Nat) (o : Ob) : HE := ⟨h.n, h.t.put i o⟩
theorem Tr.get_put (t : Tr) (n m : Nat) (o : Ob) : (t.put n o).get m = if m = n then some o else t.get m := Tr.get_putF n t n m o (Nat.le_refl _)
theorem HE.get_new (h : HE) (o : Ob) (i : Nat) : (h.new o).get i = if i = h.n then some o else h.get i := by
  show (if i < h.n + 1 then (h.t.put h.n o).get i else none) = if i = h.n then some o else if i < h.n then h.t.get i else none
  rw [Tr.get_put]
  by_cases e : i = h.n
  · rw [if_pos e, if_pos e, if_pos (by omega)]
  · rw [if_neg e, if_neg e]
    by_cases q : i < h.n
    · rw [if_pos q, if_pos (by omega)]
    · rw [if_neg q, if_neg (by omega)]
theorem HE.get_put (h : HE) (i : Nat) (o : Ob) (j : Nat) (hi : i < h.n) : (h.put i o).get j = if j = i then some o else h.get j := by
  show (if j < h.n then (h.t.put i o).get j else none) = if j = i then some o else if j < h.n then h.t.get j else none
  rw [Tr.get_put]
  by_cases e : j = i
  · rw [if_pos e, if_pos e, if_pos (by omega)]
  · rw [if_neg e, if_neg e]
theorem HE.lt_of {h : HE} {i : Nat} {o : Ob} (e : h.get i = some o) : i < h.n := by
  unfold HE.get at e
  by_cases q : i < h.n
  · exact q
  · rw [if_neg q] at e; cases e
end PL

set_option Elab.async false
set_option linter.all false
set_option maxRecDepth 100000
set_option maxHeartbeats 4000000
namespace PL
open PySem PySem.Spec PyProof.Rows L2
abbrev Fg := PySem.W.Frag

/-! ### how the interpreter's values stand for the layer's -/
/-- a list that nobody writes: locked, or of the written part -/
def SqW (K : Fg) (H : Hp) (a : Addr) (xs : List V) : Prop :=
  (∃ o, H a = some (.frz o (.lst xs))) ∨ ∃ (its : List Value) (n : Nat), K.lookup a = some ({ cls := .type "list", data := .seq its.toArray n } : Obj) ∧ its.length ≤ sizeLine ∧ Vals xs its
theorem SqW.sq {K : Fg} {H : Hp} {a : Addr} {xs : List V} (h : SqW K H a xs) : SqL K H a xs := by
  rcases h with ⟨o, h⟩ | ⟨its, n, h, hz, r⟩
  · exact .inl (.inr ⟨o, h⟩)
  · exact .inr ⟨_, its.toArray, n, h, rfl, rfl, rfl, by simpa using hz, by simpa using r⟩
mutual
inductive RelD (K : Fg) (m : List Addr) (H : Hp) : D → V → Prop
  | non : RelD K m H .non .non
  | bl (b : Bool) : RelD K m H (.bl b) (.bl b)
  | int (i : Int) : RelD K m H (.int i) (.int i)
  | str (x : Str) : RelD K m H (.str x) (.str x)
  | ty (n : String) : RelD K m H (.ty n) (.ty n)
  | kr (x : Str) : RelD K m H (.kr x) (.ref (He.ga K x))
  | obj {i : Nat} {a : Addr} (h : m[i]? = some a) : RelD K m H (.obj i) (.ref a)
  | tup {ds : List D} {vs : List V} {a : Addr} (h : SqT K H a vs) (r : RelDs K m H ds vs) : RelD K m H (.tup ds) (.ref a)
  | wl {ds : List D} {vs : List V} {a : Addr} (h : SqW K H a vs) (r : RelDs K m H ds vs) : RelD K m H (.wl ds) (.ref a)
inductive RelDs (K : Fg) (m : List Addr) (H : Hp) : List D → List V → Prop
  | nil : RelDs K m H [] []
  | cons {d : D} {v : V} {ds : List D} {vs : List V} (h : RelD K m H d v) (t : RelDs K m H ds vs) : RelDs K m H (d :: ds) (v :: vs)
end
/-- tuples and locked lists stay -/
structure Ext (H H' : Hp) : Prop where
  tup : ∀ a xs, Rd H a (.tup xs) → Rd H' a (.tup xs)
  frz : ∀ a o xs, H a = some (.frz o (.lst xs)) → H' a = some (.frz o (.lst xs))
  xd : ∀ a gs, H a = some (.xd gs) → H' a = some (.xd gs)
theorem Ext.refl (H : Hp) : Ext H H := ⟨fun _ _ h => h, fun _ _ _ h => h, fun _ _ h => h⟩
theorem Ext.trans {H H1 H2 : Hp} (a : Ext H H1) (b : Ext H1 H2) : Ext H H2 := ⟨fun c xs h => b.tup c xs (a.tup c xs h), fun c o xs h => b.frz c o xs (a.frz c o xs h), fun c gs h => b.xd c gs (a.xd c gs h)⟩
theorem Ext.new {H : Hp} {p : Addr} {o : HO} (h : H p = none) : Ext H (upd H p o) := ⟨fun a xs r => by
  rcases r with r | ⟨ob, r⟩
  · exact .inl (by rw [upd_ne (ne_of_none r h)]; exact r)
  · exact .inr ⟨ob, by rw [upd_ne (ne_of_none r h)]; exact r⟩, fun a ob xs r => by rw [upd_ne (ne_of_none r h)]; exact r, fun a gs r => by rw [upd_ne (ne_of_none r h)]; exact r⟩
theorem Ext.put {H : Hp} {p : Addr} {o u : HO} (h : H p = some u) (nt : ∀ xs, u ≠ .tup xs) (nf : ∀ ob v, u ≠ .frz ob v) (nx : ∀ gs, u ≠ .xd gs) : Ext H (upd H p o) := ⟨fun a xs r => by
  rcases r with r | ⟨ob, r⟩
  · exact .inl (by rw [upd_ne (ne_of r h (fun z => nt xs z.symm))]; exact r)
  · exact .inr ⟨ob, by rw [upd_ne (ne_of r h (fun z => nf _ _ z.symm))]; exact r⟩, fun a ob xs r => by rw [upd_ne (ne_of r h (fun z => nf _ _ z.symm))]; exact r, fun a gs r => by rw [upd_ne (ne_of r h (fun z => nx _ z.symm))]; exact r⟩
theorem sqt_ext {K : Fg} {H H' : Hp} {a : Addr} {xs : List V} (h : SqT K H a xs) (e : Ext H H') : SqT K H' a xs := by
  rcases h with h | h
  · exact .inl (e.tup _ _ h)
  · exact .inr h
theorem sqw_ext {K : Fg} {H H' : Hp} {a : Addr} {xs : List V} (h : SqW K H a xs) (e : Ext H H') : SqW K H' a xs := by
  rcases h with ⟨o, h⟩ | h
  · exact .inl ⟨o, e.frz _ _ _ h⟩
  · exact .inr h
/-- the places of the objects only grow -/
def Pre (m m' : List Addr) : Prop := ∃ l, m' = m ++ l
theorem Pre.refl (m : List Addr) : Pre m m := ⟨[], by simp⟩
theorem Pre.trans {m m1 m2 : List Addr} (a : Pre m m1) (b : Pre m1 m2) : Pre m m2 := by
  obtain ⟨l, rfl⟩ := a
  obtain ⟨l2, rfl⟩ := b
  exact ⟨l ++ l2, by simp⟩
theorem Pre.get {m m' : List Addr} (p : Pre m m') {i : Nat} {a : Addr} (h : m[i]? = some a) : m'[i]? = some a := by
  obtain ⟨l, rfl⟩ := p
  have hi : i < m.length := (List.getElem?_eq_some_iff.mp h).1
  rw [List.getElem?_append_left hi]
  exact h
theorem Pre.snoc (m : List Addr) (a : Addr) : Pre m (m ++ [a]) := ⟨[a], rfl⟩
mutual
theorem RelD.mono {K : Fg} {m m' : List Addr} {H H' : Hp} (p : Pre m m') (e : Ext H H') : ∀ {d : D} {v : V}, RelD K m H d v → RelD K m' H' d v
  | _, _, .non => .non
  | _, _, .bl b => .bl b
  | _, _, .int i => .int i
  | _, _, .str x => .str x
  | _, _, .ty n => .ty n
  | _, _, .kr x => .kr x
  | _, _, .obj h => .obj (p.get h)
  | _, _, .tup h r => .tup (sqt_ext h e) (RelDs.mono p e r)
  | _, _, .wl h r => .wl (sqw_ext h e) (RelDs.mono p e r)
theorem RelDs.mono {K : Fg} {m m' : List Addr} {H H' : Hp} (p : Pre m m') (e : Ext H H') : ∀ {ds : List D} {vs : List V}, RelDs K m H ds vs → RelDs K m' H' ds vs
  | _, _, .nil => .nil
  | _, _, .cons h t => .cons (h.mono p e) (RelDs.mono p e t)
end
section
variable {K : Fg} {m : List Addr} {H : Hp}
theorem RelDs.length : ∀ {ds : List D} {vs : List V}, RelDs K m H ds vs → ds.length = vs.length
  | _, _, .nil => rfl
  | _, _, .cons _ t => by simp [RelDs.length t]
theorem RelDs.get : ∀ {ds : List D} {vs : List V} {i : Nat} {d : D}, RelDs K m H ds vs → ds[i]? = some d → ∃ v, vs[i]? = some v ∧ RelD K m H d v
  | _, _, _, _, .nil, e => by simp at e
  | _, _, 0, _, .cons h _, e => by simp at e; subst e; exact ⟨_, rfl, h⟩
  | _, _, i + 1, _, .cons _ t, e => by
    obtain ⟨v, h1, h2⟩ := RelDs.get (i := i) t (by simpa using e)
    exact ⟨v, by simpa using h1, h2⟩
theorem RelDs.getV : ∀ {ds : List D} {vs : List V} {i : Nat} {v : V}, RelDs K m H ds vs → vs[i]? = some v → ∃ d, ds[i]? = some d ∧ RelD K m H d v
  | _, _, _, _, .nil, e => by simp at e
  | _, _, 0, _, .cons h _, e => by simp at e; subst e; exact ⟨_, rfl, h⟩
  | _, _, i + 1, _, .cons _ t, e => by
    obtain ⟨v, h1, h2⟩ := RelDs.getV (i := i) t (by simpa using e)
    exact ⟨v, by simpa using h1, h2⟩
theorem RelDs.append : ∀ {ds es : List D} {vs us : List V}, RelDs K m H ds vs → RelDs K m H es us → RelDs K m H (ds ++ es) (vs ++ us)
  | _, _, _, _, .nil, r => r
  | _, _, _, _, .cons h t, r => .cons h (RelDs.append t r)
theorem RelDs.take : ∀ {ds : List D} {vs : List V} (n : Nat), RelDs K m H ds vs → RelDs K m H (ds.take n) (vs.take n)
  | _, _, 0, _ => .nil
  | _, _, _ + 1, .nil => .nil
  | _, _, n + 1, .cons h t => .cons h (RelDs.take n t)
theorem RelDs.drop : ∀ {ds : List D} {vs : List V} (n : Nat), RelDs K m H ds vs → RelDs K m H (ds.drop n) (vs.drop n)
  | _, _, 0, r => r
  | _, _, _ + 1, .nil => .nil
  | _, _, n + 1, .cons _ t => RelDs.drop n t
theorem RelDs.set {d : D} {v : V} (r : RelD K m H d v) : ∀ {ds : List D} {vs : List V} (i : Nat), RelDs K m H ds vs → RelDs K m H (ds.set i d) (vs.set i v)
  | _, _, _, .nil => .nil
  | _, _, 0, .cons _ t => .cons r t
  | _, _, i + 1, .cons q t => .cons q (RelDs.set r i t)
end
/-- attributes, in order -/
inductive RelF (K : Fg) (m : List Addr) (H : Hp) : List (Str × D) → List (Str × V) → Prop
  | nil : RelF K m H [] []
  | cons {f : Str} {d : D} {v : V} {fs : List (Str × D)} {gs : List (Str × V)} (h : RelD K m H d v) (t : RelF K m H fs gs) : RelF K m H ((f, d) :: fs) ((f, v) :: gs)
theorem RelF.mono {K : Fg} {m m' : List Addr} {H H' : Hp} (p : Pre m m') (e : Ext H H') : ∀ {fs : List (Str × D)} {gs : List (Str × V)}, RelF K m H fs gs → RelF K m' H' fs gs
  | _, _, .nil => .nil
  | _, _, .cons h t => .cons (h.mono p e) (RelF.mono p e t)
theorem RelF.length {K : Fg} {m : List Addr} {H : Hp} : ∀ {fs : List (Str × D)} {gs : List (Str × V)}, RelF K m H fs gs → fs.length = gs.length
  | _, _, .nil => rfl
  | _, _, .cons _ t => by simp [RelF.length t]
theorem RelF.look {K : Fg} {m : List Addr} {H : Hp} {f : Str} : ∀ {fs : List (Str × D)} {gs : List (Str × V)} {d : D}, RelF K m H fs gs → fs.lookup f = some d → ∃ v, gs.lookup f = some v ∧ RelD K m H d v
  | _, _, _, .nil, e => by simp at e
  | _, _, d, .cons (f := g) h t, e => by
    rw [List.lookup_cons] at e ⊢
    cases q : (f == g) with
    | true =>
      rw [q] at e
      have e' := Option.some.inj e
      subst e'
      exact ⟨_, rfl, h⟩
    | false =>
      rw [q] at e
      exact RelF.look t e
theorem RelF.lookN {K : Fg} {m : List Addr} {H : Hp} {f : Str} : ∀ {fs : List (Str × D)} {gs : List (Str × V)}, RelF K m H fs gs → fs.lookup f = none → gs.lookup f = none
  | _, _, .nil, _ => rfl
  | _, _, .cons (f := g) h t, e => by
    rw [List.lookup_cons] at e ⊢
    cases q : (f == g) with
    | true =>
      rw [q] at e
      cases e
    | false =>
      rw [q] at e
      exact RelF.lookN t e
/-- a field put -/
def putD (f : Str) (d : D) : List (Str × D) → List (Str × D)
  | [] => [(f, d)]
  | (g, x) :: r => if g = f then (g, d) :: r else (g, x) :: putD f d r
inductive RelK (K : Fg) (m : List Addr) (H : Hp) : List (Key × D) → List (Key × V) → Prop
  | nil : RelK K m H [] []
  | cons {k : Key} {d : D} {v : V} {fs : List (Key × D)} {gs : List (Key × V)} (h : RelD K m H d v) (t : RelK K m H fs gs) : RelK K m H ((k, d) :: fs) ((k, v) :: gs)
theorem RelK.mono {K : Fg} {m m' : List Addr} {H H' : Hp} (p : Pre m m') (e : Ext H H') : ∀ {fs : List (Key × D)} {gs : List (Key × V)}, RelK K m H fs gs → RelK K m' H' fs gs
  | _, _, .nil => .nil
  | _, _, .cons h t => .cons (h.mono p e) (RelK.mono p e t)

/-- an exception that is a value: at a, of the class at C, its dict -/
def XvO (C : Addr) (od : Option Addr) (a : Addr) : HO := .ext fun h => ∃ (oe : Obj) (vs : Array Value), h.get? a = some oe ∧ Zc (.ref C) od oe ∧ oe.data = .fields vs
theorem xvO_ok {P : Program} {w : World} {H : Hp} {h : Heap} {a C : Addr} {od : Option Addr} {oe : Obj} {vs : Array Value} (e : h.get? a = some oe) (z : Zc (.ref C) od oe) (d : oe.data = .fields vs) : ObjOk P w H h a (XvO C od a) :=
  ⟨⟨oe, vs, e, z, d⟩, ⟨oe, e⟩, fun _ _ ⟨o, v, q, r⟩ k => ⟨o, v, k o q, r⟩⟩
/-- what an object of the interpreter is in the layer's heap -/
def ObR (K : Fg) (m : List Addr) (H : Hp) (a : Addr) : Ob → Prop
  | .lst ds => ∃ vs, H a = some (.lst vs) ∧ RelDs K m H ds vs
  | .ins c fs => ∃ dx gs, H a = some (.ins (He.ga K c) dx gs) ∧ RelF K m H fs gs
  | .dic kvs => ∃ us, H a = some (.dK us) ∧ RelK K m H kvs us
  | .exi c fs => ∃ od, H a = some (XvO (He.ga K c) od a) ∧ ((od = none ∧ fs = []) ∨ ∃ dx gs, od = some dx ∧ H dx = some (.xd gs) ∧ RelF K m H fs gs)
  | .non => True
structure Rel (K : Fg) (m : List Addr) (h : HE) (H : Hp) : Prop where
  len : m.length = h.n
  inj : ∀ (i j : Nat) (a : Addr), m[i]? = some a → m[j]? = some a → i = j
  ob : ∀ (i : Nat) (o : Ob), h.get i = some o → ∃ a, m[i]? = some a ∧ ObR K m H a o
  trk : ∀ (i : Nat) (a : Addr), m[i]? = some a → ∃ o, H a = some o ∧ ∀ xs, o ≠ .tup xs
section
variable {K : Fg} {m : List Addr} {h : HE} {H : Hp}
theorem ObR.mono {m' : List Addr} {H' : Hp} {a : Addr} {o : Ob} (x : ObR K m H a o) (p : Pre m m') (e : Ext H H') (ha : H' a = H a) : ObR K m' H' a o := by
  cases o with
  | lst ds => obtain ⟨vs, q, r⟩ := x; exact ⟨vs, ha.trans q, r.mono p e⟩
  | ins c fs => obtain ⟨dx, gs, q, r⟩ := x; exact ⟨dx, gs, ha.trans q, r.mono p e⟩
  | dic kvs => obtain ⟨us, q, r⟩ := x; exact ⟨us, ha.trans q, r.mono p e⟩
  | exi c fs =>
    obtain ⟨od, q, r⟩ := x
    refine ⟨od, ha.trans q, ?_⟩
    rcases r with r | ⟨dx, gs, r1, r2, r3⟩
    · exact .inl r
    · exact .inr ⟨dx, gs, r1, e.xd _ _ r2, r3.mono p e⟩
  | non => exact trivial
/-- a new object -/
theorem Rel.new (R : Rel K m h H) {p : Addr} {u : HO} {o : Ob} (hp : H p = none) (nt : ∀ xs, u ≠ .tup xs) (x : ObR K (m ++ [p]) (upd H p u) p o) : Rel K (m ++ [p]) (h.new o) (upd H p u) where
  len := by rw [List.length_append, R.len]; rfl
  inj := fun i j a hi hj => by
    have old : ∀ (i : Nat) (a : Addr), (m ++ [p])[i]? = some a → (i < m.length ∧ m[i]? = some a) ∨ (i = m.length ∧ a = p) := fun i a hi => by
      by_cases q : i < m.length
      · rw [List.getElem?_append_left q] at hi; exact .inl ⟨q, hi⟩
      · rw [List.getElem?_append_right (by omega)] at hi
        have : i - m.length = 0 := by
          by_cases z : i - m.length = 0
          · exact z
          · rw [List.getElem?_eq_none (by simp; omega)] at hi; cases hi
        rw [this] at hi
        exact .inr ⟨by omega, (Option.some.inj hi).symm⟩
    have np : ∀ (i : Nat) (a : Addr), m[i]? = some a → a ≠ p := fun i a hi z => by
      obtain ⟨o, q, _⟩ := R.trk i a hi
      rw [z, hp] at q; cases q
    rcases old i a hi with ⟨_, q1⟩ | ⟨q1, e1⟩
    · rcases old j a hj with ⟨_, q2⟩ | ⟨q2, e2⟩
      · exact R.inj i j a q1 q2
      · exact absurd e2 (np i a q1)
    · rcases old j a hj with ⟨_, q2⟩ | ⟨q2, e2⟩
      · exact absurd e1 (np j a q2)
      · omega
  ob := fun i o' e => by
    rw [HE.get_new] at e
    by_cases q : i = h.n
    · rw [if_pos q] at e
      cases e
      exact ⟨p, by rw [q, ← R.len, List.getElem?_append_right (Nat.le_refl _)]; simp, x⟩
    · rw [if_neg q] at e
      obtain ⟨a, ha, xo⟩ := R.ob i o' e
      obtain ⟨o2, q2, _⟩ := R.trk i a ha
      exact ⟨a, (Pre.snoc m p).get ha, xo.mono (Pre.snoc m p) (Ext.new hp) (upd_ne (ne_of_none q2 hp))⟩
  trk := fun i a hi => by
    by_cases q : i < m.length
    · rw [List.getElem?_append_left q] at hi
      obtain ⟨o2, q2, z⟩ := R.trk i a hi
      exact ⟨o2, by rw [upd_ne (ne_of_none q2 hp)]; exact q2, z⟩
    · rw [List.getElem?_append_right (by omega)] at hi
      have : i - m.length = 0 := by
        by_cases z : i - m.length = 0
        · exact z
        · rw [List.getElem?_eq_none (by simp; omega)] at hi; cases hi
      rw [this] at hi
      have e := (Option.some.inj hi).symm
      subst e
      exact ⟨u, upd_same, nt⟩
/-- an untracked thing beside (a tuple, an instance's dict) -/
theorem Rel.beside (R : Rel K m h H) {p : Addr} {u : HO} (hp : H p = none) : Rel K m h (upd H p u) where
  len := R.len
  inj := R.inj
  ob := fun i o e => by
    obtain ⟨a, ha, xo⟩ := R.ob i o e
    obtain ⟨o2, q2, _⟩ := R.trk i a ha
    exact ⟨a, ha, xo.mono (Pre.refl m) (Ext.new hp) (upd_ne (ne_of_none q2 hp))⟩
  trk := fun i a hi => by
    obtain ⟨o2, q2, z⟩ := R.trk i a hi
    exact ⟨o2, by rw [upd_ne (ne_of_none q2 hp)]; exact q2, z⟩
/-- an object is changed -/
theorem Rel.put (R : Rel K m h H) {i : Nat} {a : Addr} {u u' : HO} {o : Ob} (hi : m[i]? = some a) (ha : H a = some u) (nf : ∀ ob v, u ≠ .frz ob v) (nx : ∀ gs, u ≠ .xd gs) (nt' : ∀ xs, u' ≠ .tup xs) (x : ObR K m (upd H a u') a o) :
    Rel K m (h.put i o) (upd H a u') ∧ Ext H (upd H a u') := by
  obtain ⟨u0, e0, nt⟩ := R.trk i a hi
  rw [ha] at e0
  cases e0
  have ex : Ext H (upd H a u') := Ext.put ha nt nf nx
  have lt : i < h.n := by rw [← R.len]; exact (List.getElem?_eq_some_iff.mp hi).1
  refine ⟨⟨R.len, R.inj, fun j o' e => ?_, fun j b hj => ?_⟩, ex⟩
  · rw [HE.get_put h i o j lt] at e
    by_cases q : j = i
    · rw [if_pos q] at e
      cases e
      exact ⟨a, by rw [q]; exact hi, x⟩
    · rw [if_neg q] at e
      obtain ⟨b, hb, xo⟩ := R.ob j o' e
      have nb : b ≠ a := fun z => q (R.inj j i a (by rw [← z]; exact hb) hi)
      exact ⟨b, hb, xo.mono (Pre.refl m) ex (upd_ne nb)⟩
  · by_cases q : b = a
    · subst q
      exact ⟨u', upd_same, nt'⟩
    · obtain ⟨o2, q2, z⟩ := R.trk j b hj
      exact ⟨o2, by rw [upd_ne q]; exact q2, z⟩
end

/-! ### results, readings -/
/-- an exception: an own class by its name, its attributes; a built-in class -/
inductive Xc where
  | own (c : Str) (fs : List (Str × D))
  | blt (n : String)
inductive Rs (α : Type) where
  | ok (a : α) (h : HE)
  | exc (x : Xc) (h : HE)
  | fail
def Rs.bind {α β : Type} (r : Rs α) (f : α → HE → Rs β) : Rs β := match r with
  | .ok a h => f a h
  | .exc x h => .exc x h
  | .fail => .fail
/-- slots: nothing, a value, the error that an except suite holds -/
inductive So where
  | no
  | va (d : D)
  | xo (c : Str) (fs : List (Str × D))
abbrev Sl := List So
/-- the error at hand: where it stands, its own dict, its class -/
abbrev Kp := Option (Addr × Addr × Str)
abbrev Wz := WX × Kp
inductive RelO1 (κ : Kp) (K : Fg) (m : List Addr) (H : Hp) : So → Option V → Prop
  | none (v : Option V) : RelO1 κ K m H .no v
  | some {d : D} {v : V} (h : RelD K m H d v) : RelO1 κ K m H (.va d) (.some v)
  | xo {a dd : Addr} {c : Str} {fs : List (Str × D)} {gs : List (Str × V)} (e : κ = .some (a, dd, c)) (h : H dd = .some (.xd gs)) (r : RelF K m H fs gs) : RelO1 κ K m H (.xo c fs) (.some (.ref a))
inductive RelS (κ : Kp) (K : Fg) (m : List Addr) (H : Hp) : Sl → L2.St → Prop
  | nil : RelS κ K m H [] []
  | cons {d : So} {v : Option V} {ds : Sl} {vs : L2.St} (h : RelO1 κ K m H d v) (t : RelS κ K m H ds vs) : RelS κ K m H (d :: ds) (v :: vs)
theorem RelO1.mono {κ : Kp} {K : Fg} {m m' : List Addr} {H H' : Hp} (p : Pre m m') (e : Ext H H') {d : So} {v : Option V} (r : RelO1 κ K m H d v) : RelO1 κ K m' H' d v := by
  cases r with
  | none => exact .none _
  | some h => exact .some (h.mono p e)
  | xo ek h r => exact .xo ek (e.xd _ _ h) (r.mono p e)
theorem RelS.mono {κ : Kp} {K : Fg} {m m' : List Addr} {H H' : Hp} (p : Pre m m') (e : Ext H H') : ∀ {ds : Sl} {vs : L2.St}, RelS κ K m H ds vs → RelS κ K m' H' ds vs
  | _, _, .nil => .nil
  | _, _, .cons h t => .cons (h.mono p e) (RelS.mono p e t)
theorem RelS.at {κ : Kp} {K : Fg} {m : List Addr} {H : Hp} : ∀ {ds : Sl} {vs : L2.St} {i : Nat} {d : So}, RelS κ K m H ds vs → ds[i]? = some d → ∃ v, vs[i]? = some v ∧ RelO1 κ K m H d v
  | _, _, _, _, .nil, e => by simp at e
  | _, _, 0, _, .cons h _, e => by
    simp at e
    subst e
    exact ⟨_, rfl, h⟩
  | _, _, i + 1, _, .cons _ t, e => by
    obtain ⟨v, h1, h2⟩ := RelS.at (i := i) t (by simpa using e)
    exact ⟨v, by simpa using h1, h2⟩
theorem RelS.get {κ : Kp} {K : Fg} {m : List Addr} {H : Hp} {ds : Sl} {vs : L2.St} {i : Nat} {d : D} (S : RelS κ K m H ds vs) (e : ds[i]? = some (.va d)) : ∃ v, vs[i]? = some (some v) ∧ RelD K m H d v := by
  obtain ⟨v, h1, h2⟩ := S.at e
  cases h2 with
  | some h => exact ⟨_, h1, h⟩
theorem RelS.set {κ : Kp} {K : Fg} {m : List Addr} {H : Hp} {d : So} {v : Option V} (r : RelO1 κ K m H d v) : ∀ {ds : Sl} {vs : L2.St} (i : Nat), RelS κ K m H ds vs → RelS κ K m H (ds.set i d) (vs.set i v)
  | _, _, _, .nil => .nil
  | _, _, 0, .cons _ t => .cons r t
  | _, _, i + 1, .cons q t => .cons q (RelS.set r i t)
/-- no error is held -/
def noXo (ρ : Sl) : Bool := ρ.all fun
  | .xo _ _ => false
  | _ => true
theorem RelS.other {κ κ' : Kp} {K : Fg} {m : List Addr} {H : Hp} : ∀ {ds : Sl} {vs : L2.St}, RelS κ K m H ds vs → noXo ds = true → RelS κ' K m H ds vs
  | _, _, .nil, _ => .nil
  | _, _, .cons (d := d) h t, e => by
    unfold noXo at e
    rw [List.all_cons, Bool.and_eq_true] at e
    refine .cons ?_ (RelS.other t e.2)
    cases h with
    | none => exact .none _
    | some h => exact .some h
    | xo _ _ _ => cases e.1
def RelX (K : Fg) (m : List Addr) (H : Hp) : Xc → Value → Option Addr → Prop
  | .own c fs, cls, d => cls = .ref (He.ga K c) ∧ ∃ dd gs, d = some dd ∧ H dd = some (.xd gs) ∧ RelF K m H fs gs
  | .blt n, cls, d => cls = .type n ∧ d = none

/-- what is wanted behind an expression's result: of a value, of an exception -/
def Post (K : Fg) {α β : Type} (R : List Addr → Hp → α → β → Prop) (m : List Addr) (H : Hp) (r : Rs α) (Q : β → Hp → Prop) (E : XK) : Prop := match r with
  | .ok a h' => ∀ m' H' b, Pre m m' → Ext H H' → Rel K m' h' H' → R m' H' a b → Q b H'
  | .exc x h' => ∀ m' H' cls d, Pre m m' → Ext H H' → Rel K m' h' H' → RelX K m' H' x cls d → E cls d H'
  | .fail => False
abbrev Ev := Sl → HE → Rs D
abbrev EvB := Sl → HE → Rs Bool
abbrev EvL := Sl → HE → Rs (List D)
/-- an expression's reading -/
def tD (K : Fg) (W : Wz) (e : Ev) : TE := fun σ H Q => ∃ m h ρ, Rel K m h H ∧ RelS W.2 K m H ρ σ ∧ Post K (RelD K) m H (e ρ h) Q (fun cls d H' => W.1 cls d σ H')
def tB' (K : Fg) (W : Wz) (e : EvB) : TT := fun σ H Q => ∃ m h ρ, Rel K m h H ∧ RelS W.2 K m H ρ σ ∧ Post K (fun _ _ (a b : Bool) => a = b) m H (e ρ h) Q (fun cls d H' => W.1 cls d σ H')
def tL (K : Fg) (W : Wz) (e : EvL) : TA := fun σ H Q => ∃ m h ρ, Rel K m h H ∧ RelS W.2 K m H ρ σ ∧ Post K (RelDs K) m H (e ρ h) Q (fun cls d H' => W.1 cls d σ H')
theorem Post.mono {K : Fg} {α β : Type} {R : List Addr → Hp → α → β → Prop} {m m1 : List Addr} {H H1 : Hp} {r : Rs α} {Q : β → Hp → Prop} {E : XK} (h : Post K R m H r Q E) (p : Pre m m1) (e : Ext H H1) : Post K R m1 H1 r Q E := by
  cases r with
  | ok a h' => exact fun m' H' b p' e' => h m' H' b (p.trans p') (e.trans e')
  | exc x h' => exact fun m' H' c d p' e' => h m' H' c d (p.trans p') (e.trans e')
  | fail => exact h
theorem pe_imp {X : Cx} {e : Expr} {t t' : TE} (h : PE X e t) (i : ∀ σ H Q, t' σ H Q → t σ H Q) : PE X e t' := ⟨fun pins s σ H Q I q => h.run pins s σ H Q I (i _ _ _ q)⟩
theorem pt_imp {X : Cx} {e : Expr} {t t' : TT} (h : PT X e t) (i : ∀ σ H Q, t' σ H Q → t σ H Q) : PT X e t' := ⟨fun pins s σ H Q I q => h.run pins s σ H Q I (i _ _ _ q)⟩
theorem pa_imp {X : Cx} {e : List Expr} {t t' : TA} (h : PA X e t) (i : ∀ σ H Q, t' σ H Q → t σ H Q) : PA X e t' := ⟨fun pos pins s σ H Q I q => h.run pos pins s σ H Q I (i _ _ _ q)⟩
theorem ps_imp {X : Cx} {e : Stmt} {t t' : TS} (h : PS X e t) (i : ∀ D σ H, t' D σ H → t D σ H) : PS X e t' := ⟨fun pins s σ H D I q => h.run pins s σ H D I (i _ _ _ q)⟩
theorem pss_imp {X : Cx} {e : List Stmt} {t t' : TS} (h : PSs X e t) (i : ∀ D σ H, t' D σ H → t D σ H) : PSs X e t' := ⟨fun pins s σ H D I q => h.run pins s σ H D I (i _ _ _ q)⟩
end PL

set_option Elab.async false
set_option linter.all false
set_option maxRecDepth 100000
set_option maxHeartbeats 4000000
namespace PL
open PySem PySem.Spec PyProof.Rows L2

/-! ### sequencing -/
theorem post_bind {K : Fg} {α β γ δ : Type} {R : List Addr → Hp → α → β → Prop} {R2 : List Addr → Hp → γ → δ → Prop} {m : List Addr} {H : Hp} {r : Rs α} {k : α → HE → Rs γ} {Q : δ → Hp → Prop} {E : XK} (h : Post K R2 m H (r.bind k) Q E) :
    Post K R m H r (fun b H1 => ∃ m1 h1 a, Pre m m1 ∧ Ext H H1 ∧ Rel K m1 h1 H1 ∧ R m1 H1 a b ∧ Post K R2 m1 H1 (k a h1) Q E) E := by
  cases r with
  | ok a h' => exact fun m' H' b p e r' q => ⟨m', h', a, p, e, r', q, h.mono p e⟩
  | exc x h' => exact h
  | fail => exact h
theorem Post.ok {K : Fg} {α β : Type} {R : List Addr → Hp → α → β → Prop} {m m' : List Addr} {H H' : Hp} {a : α} {b : β} {h' : HE} {Q : β → Hp → Prop} {E : XK} (h : Post K R m H (.ok a h') Q E) (p : Pre m m') (e : Ext H H') (r : Rel K m' h' H') (q : R m' H' a b) : Q b H' := h m' H' b p e r q
theorem Post.here {K : Fg} {α β : Type} {R : List Addr → Hp → α → β → Prop} {m : List Addr} {H : Hp} {a : α} {b : β} {h' : HE} {Q : β → Hp → Prop} {E : XK} (h : Post K R m H (.ok a h') Q E) (r : Rel K m h' H) (q : R m H a b) : Q b H := h m H b (Pre.refl m) (Ext.refl H) r q

section
variable {X : Cx} {W : Wz}
/-! ### names, constants -/
def eVar (i : Nat) : Ev := fun ρ h => match ρ[i]? with
  | some (.va d) => .ok d h
  | _ => .fail
def eC (d : D) : Ev := fun _ h => .ok d h
theorem d_var (i : Nat) {x : Str} {pos : Pos} (hN : X.N[i]? = some x := by rfl) (hv : Vis X.env.scope x := by first | exact Or.inl rfl | exact Or.inr (Or.inl rfl) | exact Or.inr (Or.inr rfl)) (hd : (x == ("__debug__" : Str)) = false := by decide)
    (hcd : (x == ("__classdict__" : Str)) = false := by decide) : PE X (.Name x pos) (tD X.K W (eVar i)) := by
  refine pe_imp (pe_var (i := i) hN hv hd hcd) fun σ H Q h => ?_
  obtain ⟨m, hh, ρ, R, S, P⟩ := h
  unfold eVar at P
  cases e : ρ[i]? with
  | none => rw [e] at P; exact P.elim
  | some o =>
    rw [e] at P
    cases o with
    | va d =>
      obtain ⟨v, e1, e2⟩ := S.get e
      exact ⟨v, e1, P.here R e2⟩
    | _ => exact P.elim
theorem d_const {e : Expr} {v : V} {d : D} (h : PE X e (tC v)) (r : ∀ m H, RelD X.K m H d v) : PE X e (tD X.K W (eC d)) := pe_imp h fun σ H Q q => by
  obtain ⟨m, hh, ρ, R, S, P⟩ := q
  exact P.here R (r _ _)
theorem d_int {i j pos} : PE X (.Constant (.int i) j pos) (tD X.K W (eC (.int i))) := d_const pe_int fun _ _ => .int i
theorem d_bl {b j pos} : PE X (.Constant (.bool b) j pos) (tD X.K W (eC (.bl b))) := d_const pe_bl fun _ _ => .bl b
theorem d_non {j pos} : PE X (.Constant .none j pos) (tD X.K W (eC .non)) := d_const pe_non fun _ _ => .non
theorem d_str {x j pos} : PE X (.Constant (.str x) j pos) (tD X.K W (eC (.str x))) := d_const pe_str fun _ _ => .str x
theorem d_gint {x : Str} {i : Int} {pos : Pos} (hg : Gl X x) (hm : ∃ t, X.mg x = some (.int i t)) (hd : (x == ("__debug__" : Str)) = false := by decide) : PE X (.Name x pos) (tD X.K W (eC (.int i))) := by
  obtain ⟨t, hm⟩ := hm
  exact d_const (pe_glob (v := .int i) hg hm ⟨t, rfl⟩ hd) fun _ _ => .int i
theorem d_gstr {x z : Str} {pos : Pos} (hg : Gl X x) (hm : ∃ t, X.mg x = some (.str z t)) (hd : (x == ("__debug__" : Str)) = false := by decide) : PE X (.Name x pos) (tD X.K W (eC (.str z))) := by
  obtain ⟨t, hm⟩ := hm
  exact d_const (pe_glob (v := .str z) hg hm ⟨t, rfl⟩ hd) fun _ _ => .str z
theorem d_gkr {x : Str} {pos : Pos} (hg : Gl X x) (hm : X.mg x = some (.ref (He.ga X.K x))) (hd : (x == ("__debug__" : Str)) = false := by decide) : PE X (.Name x pos) (tD X.K W (eC (.kr x))) :=
  d_const (pe_glob (v := .ref (He.ga X.K x)) hg hm rfl hd) fun _ _ => .kr x
theorem d_ty {x : Str} {n : String} {pos : Pos} (hg : Gl X x) (hm : X.mg x = none) (hv : bootBuiltins x = some (.type n)) (hn : x ≠ "__name__" := by decide) (hd : (x == ("__debug__" : Str)) = false := by decide) : PE X (.Name x pos) (tD X.K W (eC (.ty n))) :=
  d_const (pe_bltn (v := .ty n) hg hm hv rfl hn hd) fun _ _ => .ty n

/-! ### truth -/
def truth (d : D) (h : HE) : Option Bool := match d with
  | .non => some false
  | .bl b => some b
  | .int i => some (i != 0)
  | .str x => if x.length ≤ sizeLine then some ((x.length : Int) != 0) else none
  | .tup ds => some (!ds.isEmpty)
  | .wl ds => some (!ds.isEmpty)
  | .obj i => (match h.get i with
    | some (.lst ds) => some (!ds.isEmpty)
    | some (.dic kvs) => some (!kvs.isEmpty)
    | _ => none)
  | _ => none
theorem RelDs.empty {K : Fg} {m : List Addr} {H : Hp} {ds : List D} {vs : List V} (r : RelDs K m H ds vs) : (!ds.isEmpty) = !vs.isEmpty := by cases r <;> rfl
theorem RelK.empty {K : Fg} {m : List Addr} {H : Hp} {ds : List (Key × D)} {vs : List (Key × V)} (r : RelK K m H ds vs) : (!ds.isEmpty) = !vs.isEmpty := by cases r <;> rfl
theorem truth_ok {K : Fg} {m : List Addr} {h : HE} {H : Hp} {d : D} {x : V} {k : Bool} (R : Rel K m h H) (r : RelD K m H d x) (e : truth d h = some k) : TruV K x H k := by
  cases r with
  | non => cases e; rfl
  | bl b => cases e; rfl
  | int i => cases e; rfl
  | str z =>
    unfold truth at e
    by_cases q : z.length ≤ sizeLine
    · simp only [if_pos q] at e
      cases e
      exact ⟨q, rfl⟩
    · simp only [if_neg q] at e
      cases e
  | ty n => cases e
  | kr n => cases e
  | tup hs rs => cases e; exact .inr (.inl ⟨_, hs, rs.empty⟩)
  | wl hs rs => cases e; exact .inl ⟨_, hs.sq, rs.empty⟩
  | @obj i a ha =>
    unfold truth at e
    cases q : h.get i with
    | none => simp only [q] at e; cases e
    | some o =>
      simp only [q] at e
      obtain ⟨a', ha', x⟩ := R.ob i o q
      rw [ha] at ha'
      cases ha'
      cases o with
      | lst ds =>
        cases e
        obtain ⟨vs, hv, rv⟩ := x
        exact .inl ⟨vs, SqL.of hv, rv.empty⟩
      | dic kvs =>
        cases e
        obtain ⟨us, hv, rv⟩ := x
        exact .inr (.inr ⟨us, hv, rv.empty⟩)
      | _ => cases e
/-- a test: a value's truth -/
def bTru (e : Ev) : EvB := fun ρ h => (e ρ h).bind fun d h1 => match truth d h1 with
  | some k => .ok k h1
  | none => .fail
theorem b_tru {a : Expr} {ea : Ev} (ha : PE X a (tD X.K W ea)) (he : ∀ whole, isTrue a X.env whole = (do let v ← whole; standAt a.pos; holding [v] (truthy v)) := by intro _; rfl) : PT X a (tB' X.K W (bTru ea)) := by
  refine pt_imp (pt_truth ha he) fun σ H Q q => ?_
  obtain ⟨m, hh, ρ, R, S, P⟩ := q
  refine ⟨m, hh, ρ, R, S, ?_⟩
  have P2 := post_bind (R := RelD X.K) P
  revert P2
  cases ea ρ hh with
  | fail => exact fun z => z
  | exc x h' => exact fun z => z
  | ok d h' =>
    intro P2 m' H' b p e r' rd
    obtain ⟨m1, h1, d1, p1, e1, R1, r1, P1⟩ := P2 m' H' b p e r' rd
    cases t : truth d1 h1 with
    | none => simp only [t] at P1; exact P1.elim
    | some k =>
      simp only [t] at P1
      exact ⟨k, truth_ok R1 r1 t, P1.here R1 rfl⟩
end
end PL

set_option Elab.async false
set_option linter.all false
set_option maxRecDepth 100000
set_option maxHeartbeats 4000000
namespace PL
open PySem PySem.Spec PyProof.Rows L2

theorem Post.imp {K : Fg} {α β : Type} {R : List Addr → Hp → α → β → Prop} {m : List Addr} {H : Hp} {r : Rs α} {Q Q' : β → Hp → Prop} {E : XK} (h : Post K R m H r Q E) (i : ∀ b H', Q b H' → Q' b H') : Post K R m H r Q' E := by
  cases r with
  | ok a h' => exact fun m' H' b p e r q => i _ _ (h m' H' b p e r q)
  | exc x h' => exact h
  | fail => exact h

/-! ### two-place operations of values -/
abbrev Op2 := D → D → HE → Rs D
def OpG (X : Cx) (W : Wz) (f : Value → Value → Sem Value) (g : Op2) : Prop :=
  ∀ (pins : List (Addr × Obj)) (s : Shared) (σ : L2.St) (H : Hp) (x y : V) (v u : Value) (Q : VK) (m : List Addr) (h : HE) (d e : D), Inv X pins σ H s → L2.RelV x v → L2.RelV y u → Rel X.K m h H → RelD X.K m H d x → RelD X.K m H e y →
    Post X.K (RelD X.K) m H (g d e h) Q (fun c dd H' => W.1 c dd σ H') → wpAny (model X.prog X.w) X.A (f v u) (EP X pins σ Q) X.xe s
section
variable {X : Cx} {W : Wz} {a b c : Expr} {ea eb ec : Ev} {pos : Pos}
def eBin (g : Op2) (ea eb : Ev) : Ev := fun ρ h => (ea ρ h).bind fun d h1 => (eb ρ h1).bind fun e h2 => g d e h2
/-- the two operands, then what is to be done with them -/
theorem two {γ δ : Type} {R2 : List Addr → Hp → γ → δ → Prop} {k : D → D → HE → Rs γ} (ha : PE X a (tD X.K W ea)) (hb : PE X b (tD X.K W eb)) {pins : List (Addr × Obj)} {s : Shared} {σ : L2.St} {H : Hp} {Q : δ → Hp → Prop} (I : Inv X pins σ H s)
    {m : List Addr} {h : HE} {ρ : Sl} (R : Rel X.K m h H) (S : RelS W.2 X.K m H ρ σ) (P : Post X.K R2 m H ((ea ρ h).bind fun d h1 => (eb ρ h1).bind fun e h2 => k d e h2) Q (fun c dd H' => W.1 c dd σ H'))
    {α : Type} {T : α → Shared → Prop} {f : Value → Value → Sem α}
    (hf : ∀ v u s2 x y H2 m2 h2 d e, Inv X pins σ H2 s2 → L2.RelV x v → L2.RelV y u → Rel X.K m2 h2 H2 → RelS W.2 X.K m2 H2 ρ σ → RelD X.K m2 H2 d x → RelD X.K m2 H2 e y → Post X.K R2 m2 H2 (k d e h2) Q (fun c dd H' => W.1 c dd σ H') → wpAny (model X.prog X.w) X.A (f v u) T X.xe s2) :
    wpAny (model X.prog X.w) X.A (eval a X.env) (fun v s₁ => wpAny (model X.prog X.w) X.A (eval b X.env) (fun u s₂ => wpAny (model X.prog X.w) X.A (f v u) T X.xe s₂) X.xe s₁) X.xe s := by
  refine thn (ha.run pins s σ H _ I ⟨m, h, ρ, R, S, post_bind P⟩) fun v s1 ⟨x, H1, I1, r1, m1, h1, d, p1, e1, R1, d1, P1⟩ => ?_
  refine thn (hb.run pins s1 σ H1 _ I1 ⟨m1, h1, ρ, R1, S.mono p1 e1, post_bind P1⟩) fun u s2 ⟨y, H2, I2, r2, m2, h2, e, p2, e2, R2', d2, P2⟩ => ?_
  exact hf v u s2 x y H2 m2 h2 d e I2 r1 r2 R2' ((S.mono p1 e1).mono p2 e2) (d1.mono p2 e2) d2 P2
theorem d_bin {op : Operator} {g : Op2} (ho : OpG X W (binaryOp op) g) (ha : PE X a (tD X.K W ea)) (hb : PE X b (tD X.K W eb)) : PE X (.BinOp a op b pos) (tD X.K W (eBin g ea eb)) := by
  refine ⟨fun pins s σ H Q I q => ?_⟩
  obtain ⟨m, h, ρ, R, S, P⟩ := q
  exact wpAny_BinOp (two (k := g) ha hb I R S P fun v u s2 x y H2 m2 h2 d e I2 rv ru R2 _ dx dy P2 => ho pins s2 σ H2 x y v u Q m2 h2 d e I2 rv ru R2 dx dy P2)
theorem d_cmp {op : CmpOp} {g : Op2} (ho : OpG X W (compareOp op) g) (ha : PE X a (tD X.K W ea)) (hb : PE X b (tD X.K W eb)) (hm : behindInMarks op b = false) : PE X (.Compare a [op] [b] pos) (tD X.K W (eBin g ea eb)) := by
  refine ⟨fun pins s σ H Q I q => ?_⟩
  obtain ⟨m, h, ρ, R, S, P⟩ := q
  exact wpAny_Compare1 (two (k := g) ha hb I R S P fun v u s2 x y H2 m2 h2 d e I2 rv ru R2 _ dx dy P2 => ho pins s2 σ H2 x y v u Q m2 h2 d e I2 rv ru R2 dx dy P2) hm
/-- a test: the value is a bool -/
def isB (d : D) (h : HE) : Rs Bool := match d with
  | .bl k => .ok k h
  | _ => .fail
def bBin (g : Op2) (ea eb : Ev) : EvB := fun ρ h => (ea ρ h).bind fun d h1 => (eb ρ h1).bind fun e h2 => (g d e h2).bind isB
theorem isB_ok {K : Fg} {m : List Addr} {H : Hp} {d : D} {x : V} {h : HE} {Q : Bool → Hp → Prop} {E : XK} (R : Rel K m h H) (r : RelD K m H d x) (P : Post K (fun _ _ (a b : Bool) => a = b) m H (isB d h) Q E) : ∃ k, x = .bl k ∧ Q k H := by
  cases r with
  | bl k => exact ⟨k, rfl, P.here R rfl⟩
  | _ => exact P.elim
theorem b_cmp {op : CmpOp} {g : Op2} (ho : OpG X W (compareOp op) g) (ha : PE X a (tD X.K W ea)) (hb : PE X b (tD X.K W eb)) (hm : behindInMarks op b = false) : PT X (.Compare a [op] [b] pos) (tB' X.K W (bBin g ea eb)) := by
  refine ⟨fun pins s σ H Q I q => ?_⟩
  obtain ⟨m, h, ρ, R, S, P⟩ := q
  refine wpAny_isTrue_Compare1 (two (k := fun d e h2 => (g d e h2).bind isB) ha hb I R S P fun v u s2 x y H2 m2 h2 d e I2 rv ru R2 _ dx dy P2 => ?_) hm
  refine thn (ho pins s2 σ H2 x y v u _ m2 h2 d e I2 rv ru R2 dx dy (post_bind P2)) fun c s3 ⟨z, H3, I3, r3, m3, h3, d3, p3, e3, R3, q3, P3⟩ => ?_
  obtain ⟨k, ez, Q3⟩ := isB_ok R3 q3 P3
  subst ez
  cases r3
  exact wpAny_truthy_bool ⟨H3, I3, Q3⟩
/-- a op1 b op2 c -/
def eChain (g g' : Op2) (ea eb ec : Ev) : Ev := fun ρ h => (ea ρ h).bind fun d h1 => (eb ρ h1).bind fun e h2 => (g d e h2).bind fun z h3 => (isB z h3).bind fun k h4 => match k with
  | true => (ec ρ h4).bind fun w h5 => g' e w h5
  | false => .ok (.bl false) h4
theorem isB_bind {K : Fg} {γ δ : Type} {R2 : List Addr → Hp → γ → δ → Prop} {m : List Addr} {H : Hp} {d : D} {x : V} {h : HE} {k : Bool → HE → Rs γ} {Q : δ → Hp → Prop} {E : XK} (r : RelD K m H d x) (P : Post K R2 m H ((isB d h).bind k) Q E) : ∃ c, x = .bl c ∧ Post K R2 m H (k c h) Q E := by
  cases r with
  | bl c => exact ⟨c, rfl, P⟩
  | _ => exact P.elim
theorem d_chain {op op' : CmpOp} {g g' : Op2} (ho : OpG X W (compareOp op) g) (ho' : OpG X W (compareOp op') g') (ha : PE X a (tD X.K W ea)) (hb : PE X b (tD X.K W eb)) (hc : PE X c (tD X.K W ec))
    (hm : lastMarks [op, op'] [b, c] = false := by with_unfolding_all rfl) : PE X (.Compare a [op, op'] [b, c] pos) (tD X.K W (eChain g g' ea eb ec)) := by
  refine ⟨fun pins s σ H Q I q => ?_⟩
  obtain ⟨m, h, ρ, R, S, P⟩ := q
  refine Compare_chain (thn (ha.run pins s σ H _ I ⟨m, h, ρ, R, S, post_bind P⟩) fun v s1 ⟨x, H1, I1, r1, m1, h1, d, p1, e1, R1, d1, P1⟩ => chain_link (thn (hb.run pins s1 σ H1 _ I1 ⟨m1, h1, ρ, R1, S.mono p1 e1, post_bind P1⟩) fun u s2 ⟨y, H2, I2, r2, m2, h2, e, p2, e2, R2, d2, P2⟩ =>
    thn (ho pins s2 σ H2 x y v u _ m2 h2 d e I2 r1 r2 R2 (d1.mono p2 e2) d2 (post_bind P2)) fun dv s3 ⟨z, H3, I3, r3, m3, h3, dz, p3, e3, R3, q3, P3⟩ => ?_)) hm
  obtain ⟨k, ez, Q3⟩ := isB_bind q3 P3
  subst ez
  cases r3
  refine wpAny_truthy_bool ?_
  cases k with
  | false => exact ite_ff ⟨.bl false, H3, I3, rfl, Q3.here R3 (.bl _)⟩
  | true =>
    have S3 := ((S.mono p1 e1).mono p2 e2).mono p3 e3
    refine ite_tt (chain_last (thn (hc.run pins s3 σ H3 _ I3 ⟨m3, h3, ρ, R3, S3, post_bind Q3⟩) fun w' s4 ⟨z', H4, I4, r4, m4, h4, dw, p4, e4, R4, q4, P4⟩ => ?_))
    exact ho' pins s4 σ H4 y z' u w' Q m4 h4 e dw I4 r2 r4 R4 ((d2.mono p3 e3).mono p4 e4) q4 P4
def bOf (e : Ev) : EvB := fun ρ h => (e ρ h).bind isB
theorem b_chain {op op' : CmpOp} {g g' : Op2} (ho : OpG X W (compareOp op) g) (ho' : OpG X W (compareOp op') g') (ha : PE X a (tD X.K W ea)) (hb : PE X b (tD X.K W eb)) (hc : PE X c (tD X.K W ec))
    (hm : lastMarks [op, op'] [b, c] = false := by with_unfolding_all rfl) : PT X (.Compare a [op, op'] [b, c] pos) (tB' X.K W (bOf (eChain g g' ea eb ec))) := by
  refine ⟨fun pins s σ H Q I q => ?_⟩
  obtain ⟨m, h, ρ, R, S, P⟩ := q
  have P0 : Post X.K (fun _ _ (a b : Bool) => a = b) m H ((ea ρ h).bind fun d h1 => (eb ρ h1).bind fun e h2 => (g d e h2).bind fun z h3 => (isB z h3).bind fun k h4 => match k with
      | true => (ec ρ h4).bind fun w h5 => (g' e w h5).bind isB
      | false => .ok false h4) Q (fun c dd H' => W.1 c dd σ H') := by
    have E0 : (bOf (eChain g g' ea eb ec)) ρ h = ((ea ρ h).bind fun d h1 => (eb ρ h1).bind fun e h2 => (g d e h2).bind fun z h3 => (isB z h3).bind fun k h4 => match k with
      | true => (ec ρ h4).bind fun w h5 => (g' e w h5).bind isB
      | false => .ok false h4) := by
      unfold bOf eChain
      cases ea ρ h with
      | ok d h1 =>
        simp only [Rs.bind]
        cases eb ρ h1 with
        | ok e h2 =>
          simp only []
          cases g d e h2 with
          | ok z h3 =>
            simp only []
            cases isB z h3 with
            | ok k h4 =>
              cases k with
              | true =>
                simp only []
                cases ec ρ h4 <;> rfl
              | false => rfl
            | _ => rfl
          | _ => rfl
        | _ => rfl
      | _ => rfl
    rw [← E0]
    exact P
  refine isTrue_chain (thn (ha.run pins s σ H _ I ⟨m, h, ρ, R, S, post_bind P0⟩) fun v s1 ⟨x, H1, I1, r1, m1, h1, d, p1, e1, R1, d1, P1⟩ => test_link (thn (hb.run pins s1 σ H1 _ I1 ⟨m1, h1, ρ, R1, S.mono p1 e1, post_bind P1⟩) fun u s2 ⟨y, H2, I2, r2, m2, h2, e, p2, e2, R2, d2, P2⟩ =>
    thn (ho pins s2 σ H2 x y v u _ m2 h2 d e I2 r1 r2 R2 (d1.mono p2 e2) d2 (post_bind P2)) fun dv s3 ⟨z, H3, I3, r3, m3, h3, dz, p3, e3, R3, q3, P3⟩ => ?_)) hm
  obtain ⟨k, ez, Q3⟩ := isB_bind q3 P3
  subst ez
  cases r3
  refine wpAny_truthy_bool ?_
  cases k with
  | false => exact ite_ff ⟨H3, I3, Q3.here R3 rfl⟩
  | true =>
    have S3 := ((S.mono p1 e1).mono p2 e2).mono p3 e3
    refine ite_tt (test_last (thn (hc.run pins s3 σ H3 _ I3 ⟨m3, h3, ρ, R3, S3, post_bind Q3⟩) fun w' s4 ⟨z', H4, I4, r4, m4, h4, dw, p4, e4, R4, q4, P4⟩ => ?_))
    refine thn (ho' pins s4 σ H4 y z' u w' _ m4 h4 e dw I4 r2 r4 R4 ((d2.mono p3 e3).mono p4 e4) q4 (post_bind P4)) fun d' s5 ⟨z2, H5, I5, r5, m5, h5, dz5, p5, e5, R5, q5, P5⟩ => ?_
    obtain ⟨k2, ez2, Q5⟩ := isB_ok R5 q5 P5
    subst ez2
    cases r5
    exact wpAny_truthy_bool ⟨H5, I5, Q5⟩

/-! ### and, or, not, if-else -/
def bAnd (a b : EvB) : EvB := fun ρ h => (a ρ h).bind fun k h1 => match k with
  | true => b ρ h1
  | false => .ok false h1
def bOr (a b : EvB) : EvB := fun ρ h => (a ρ h).bind fun k h1 => match k with
  | true => .ok true h1
  | false => b ρ h1
def bNot (a : EvB) : EvB := fun ρ h => (a ρ h).bind fun k h1 => .ok (!k) h1
variable {ba bb : EvB} {rest : List Expr}
theorem bw_and (ha : PT X a (tB' X.K W ba)) (hb : PW X (.BoolOp .And (b :: rest) pos) (tB' X.K W bb)) : PW X (.BoolOp .And (a :: b :: rest) pos) (tB' X.K W (bAnd ba bb)) := by
  refine ⟨fun wh pins s σ H Q I q => ?_⟩
  obtain ⟨m, h, ρ, R, S, P⟩ := q
  refine isTrue_and (thn (ha.run pins s σ H _ I ⟨m, h, ρ, R, S, post_bind P⟩) fun c s1 ⟨H1, I1, m1, h1, k, p1, e1, R1, ek, P1⟩ => ?_)
  subst ek
  cases k with
  | true => exact hb.run wh pins s1 σ H1 Q I1 ⟨m1, h1, ρ, R1, S.mono p1 e1, P1⟩
  | false => exact ⟨H1, I1, P1.here R1 rfl⟩
theorem bw_or (ha : PT X a (tB' X.K W ba)) (hb : PW X (.BoolOp .Or (b :: rest) pos) (tB' X.K W bb)) : PW X (.BoolOp .Or (a :: b :: rest) pos) (tB' X.K W (bOr ba bb)) := by
  refine ⟨fun wh pins s σ H Q I q => ?_⟩
  obtain ⟨m, h, ρ, R, S, P⟩ := q
  refine isTrue_or (thn (ha.run pins s σ H _ I ⟨m, h, ρ, R, S, post_bind P⟩) fun c s1 ⟨H1, I1, m1, h1, k, p1, e1, R1, ek, P1⟩ => ?_)
  subst ek
  cases k with
  | true => exact ⟨H1, I1, P1.here R1 rfl⟩
  | false => exact hb.run wh pins s1 σ H1 Q I1 ⟨m1, h1, ρ, R1, S.mono p1 e1, P1⟩
theorem b_not (ha : PT X a (tB' X.K W ba)) : PT X (.UnaryOp .Not a pos) (tB' X.K W (bNot ba)) := by
  refine ⟨fun pins s σ H Q I q => ?_⟩
  obtain ⟨m, h, ρ, R, S, P⟩ := q
  refine isTrue_not (thn (ha.run pins s σ H _ I ⟨m, h, ρ, R, S, post_bind P⟩) fun c s1 ⟨H1, I1, m1, h1, k, p1, e1, R1, ek, P1⟩ => ?_)
  subst ek
  exact ⟨H1, I1, P1.here R1 rfl⟩
def eIf (c : EvB) (a b : Ev) : Ev := fun ρ h => (c ρ h).bind fun k h1 => match k with
  | true => a ρ h1
  | false => b ρ h1
theorem d_if {c : Expr} {bc : EvB} (hc : PT X c (tB' X.K W bc)) (ha : PE X a (tD X.K W ea)) (hb : PE X b (tD X.K W eb)) : PE X (.IfExp c a b pos) (tD X.K W (eIf bc ea eb)) := by
  refine ⟨fun pins s σ H Q I q => ?_⟩
  obtain ⟨m, h, ρ, R, S, P⟩ := q
  refine wpAny_IfExp (thn (hc.run pins s σ H _ I ⟨m, h, ρ, R, S, post_bind P⟩) fun c s1 ⟨H1, I1, m1, h1, k, p1, e1, R1, ek, P1⟩ => ?_)
  subst ek
  cases k with
  | true => exact ha.run pins s1 σ H1 Q I1 ⟨m1, h1, ρ, R1, S.mono p1 e1, P1⟩
  | false => exact hb.run pins s1 σ H1 Q I1 ⟨m1, h1, ρ, R1, S.mono p1 e1, P1⟩
/-- x and y, x or y, not x as values, by truth -/
def eAnd (a b : Ev) : Ev := fun ρ h => (a ρ h).bind fun d h1 => match truth d h1 with
  | some true => b ρ h1
  | some false => .ok d h1
  | none => .fail
def eOr (a b : Ev) : Ev := fun ρ h => (a ρ h).bind fun d h1 => match truth d h1 with
  | some true => .ok d h1
  | some false => b ρ h1
  | none => .fail
def eNot (a : Ev) : Ev := fun ρ h => (a ρ h).bind fun d h1 => match truth d h1 with
  | some k => .ok (.bl (!k)) h1
  | none => .fail
theorem d_and (ha : PE X a (tD X.K W ea)) (hb : PE X (.BoolOp .And (b :: rest) pos) (tD X.K W eb)) : PE X (.BoolOp .And (a :: b :: rest) pos) (tD X.K W (eAnd ea eb)) := by
  refine pe_imp (pe_andT ha hb) fun σ H Q q => ?_
  obtain ⟨m, h, ρ, R, S, P⟩ := q
  refine ⟨m, h, ρ, R, S, (post_bind (R := RelD X.K) P).imp fun x H1 ⟨m1, h1, d, p1, e1, R1, r1, P1⟩ => ?_⟩
  cases t : truth d h1 with
  | none => simp only [t] at P1; exact P1.elim
  | some k =>
    simp only [t] at P1
    refine ⟨k, truth_ok R1 r1 t, ?_⟩
    cases k with
    | true => exact iteT ⟨m1, h1, ρ, R1, S.mono p1 e1, P1⟩
    | false => exact iteF (P1.here R1 r1)
theorem d_or (ha : PE X a (tD X.K W ea)) (hb : PE X (.BoolOp .Or (b :: rest) pos) (tD X.K W eb)) : PE X (.BoolOp .Or (a :: b :: rest) pos) (tD X.K W (eOr ea eb)) := by
  refine pe_imp (pe_orT ha hb) fun σ H Q q => ?_
  obtain ⟨m, h, ρ, R, S, P⟩ := q
  refine ⟨m, h, ρ, R, S, (post_bind (R := RelD X.K) P).imp fun x H1 ⟨m1, h1, d, p1, e1, R1, r1, P1⟩ => ?_⟩
  cases t : truth d h1 with
  | none => simp only [t] at P1; exact P1.elim
  | some k =>
    simp only [t] at P1
    refine ⟨k, truth_ok R1 r1 t, ?_⟩
    cases k with
    | true => exact iteT (P1.here R1 r1)
    | false => exact iteF ⟨m1, h1, ρ, R1, S.mono p1 e1, P1⟩
theorem d_not (ha : PE X a (tD X.K W ea)) : PE X (.UnaryOp .Not a pos) (tD X.K W (eNot ea)) := by
  refine pe_imp (pe_notT ha) fun σ H Q q => ?_
  obtain ⟨m, h, ρ, R, S, P⟩ := q
  refine ⟨m, h, ρ, R, S, (post_bind (R := RelD X.K) P).imp fun x H1 ⟨m1, h1, d, p1, e1, R1, r1, P1⟩ => ?_⟩
  cases t : truth d h1 with
  | none => simp only [t] at P1; exact P1.elim
  | some k =>
    simp only [t] at P1
    exact ⟨k, truth_ok R1 r1 t, P1.here R1 (.bl _)⟩
def eNeg (a : Ev) : Ev := fun ρ h => (a ρ h).bind fun d h1 => match d with
  | .int i => .ok (.int (-i)) h1
  | _ => .fail
theorem d_neg (ha : PE X a (tD X.K W ea)) : PE X (.UnaryOp .USub a pos) (tD X.K W (eNeg ea)) := by
  refine pe_imp (pe_un un_neg ha) fun σ H Q q => ?_
  obtain ⟨m, h, ρ, R, S, P⟩ := q
  refine ⟨m, h, ρ, R, S, (post_bind (R := RelD X.K) P).imp fun x H1 ⟨m1, h1, d, p1, e1, R1, r1, P1⟩ => ?_⟩
  cases r1 with
  | int i => exact ⟨i, rfl, P1.here R1 (.int _)⟩
  | _ => exact P1.elim
end
end PL

set_option Elab.async false
set_option linter.all false
set_option maxRecDepth 100000
set_option maxHeartbeats 4000000
namespace PL
open PySem PySem.Spec PyProof.Rows L2

section
variable {K : Fg} {m : List Addr} {h : HE} {H : Hp} {ds es : List D} {vs us : List V} {Q : VK} {E : XK}
theorem get_snoc (m : List Addr) (p : Addr) (R : m.length = h.n) : (m ++ [p])[h.n]? = some p := by rw [← R, List.getElem?_append_right (Nat.le_refl _)]; simp
theorem rel_newL (R : Rel K m h H) (rs : RelDs K m H ds vs) {p : Addr} (hp : H p = none) : Rel K (m ++ [p]) (h.new (.lst ds)) (upd H p (.lst vs)) :=
  R.new hp (fun _ z => by cases z) ⟨vs, upd_same, rs.mono (Pre.snoc m p) (Ext.new hp)⟩
theorem post_newL (R : Rel K m h H) (rs : RelDs K m H ds vs) (P : Post K (RelD K) m H (.ok (.obj h.n) (h.new (.lst ds))) Q E) : ∀ p, H p = none → Q (.ref p) (upd H p (.lst vs)) := fun p hp =>
  P _ _ _ (Pre.snoc m p) (Ext.new hp) (rel_newL R rs hp) (.obj (get_snoc m p R.len))
theorem post_newT (R : Rel K m h H) (rs : RelDs K m H ds vs) (P : Post K (RelD K) m H (.ok (.tup ds) h) Q E) : ∀ p, H p = none → Q (.ref p) (upd H p (.tup vs)) := fun p hp =>
  P _ _ _ (Pre.refl m) (Ext.new hp) (R.beside hp) (.tup (SqT.of upd_same) (rs.mono (Pre.refl m) (Ext.new hp)))
theorem rel_setL (R : Rel K m h H) {i : Nat} {a : Addr} {vs0 : List V} (hi : m[i]? = some a) (ha : H a = some (.lst vs0)) (rs : RelDs K m H ds vs) : Rel K m (h.put i (.lst ds)) (upd H a (.lst vs)) ∧ Ext H (upd H a (.lst vs)) := by
  have ex : Ext H (upd H a (.lst vs)) := Ext.put ha (fun _ z => by cases z) (fun _ _ z => by cases z) (fun _ z => by cases z)
  exact R.put hi ha (fun _ _ z => by cases z) (fun _ z => by cases z) (fun _ z => by cases z) ⟨vs, upd_same, rs.mono (Pre.refl m) ex⟩
/-- a list that is read -/
def rdL (h : HE) : D → Option (List D)
  | .wl ds => some ds
  | .obj i => (match h.get i with
    | some (.lst ds) => some ds
    | _ => none)
  | _ => none
theorem rdL_obj (R : Rel K m h H) {i : Nat} {a : Addr} (hi : m[i]? = some a) (e : h.get i = some (.lst ds)) : ∃ vs, H a = some (.lst vs) ∧ RelDs K m H ds vs := by
  obtain ⟨a', ha, vs, x⟩ := R.ob i _ e
  rw [hi] at ha
  cases ha
  exact ⟨vs, x⟩
theorem rdL_ok (R : Rel K m h H) {d : D} {x : V} (r : RelD K m H d x) (e : rdL h d = some ds) : ∃ a vs, x = .ref a ∧ SqL K H a vs ∧ RelDs K m H ds vs := by
  cases r with
  | @obj i a hi =>
    unfold rdL at e
    cases q : h.get i with
    | none => simp only [q] at e; cases e
    | some o =>
      simp only [q] at e
      cases o with
      | lst ds' =>
        cases e
        obtain ⟨vs, hv, rv⟩ := rdL_obj R hi q
        exact ⟨a, vs, rfl, SqL.of hv, rv⟩
      | _ => cases e
  | wl hs rs => cases e; exact ⟨_, _, rfl, hs.sq, rs⟩
  | _ => cases e
/-- .. with its very object -/
theorem rdL_is {X : Cx} {pins : List (Addr × Obj)} {σ : L2.St} {s : Shared} (I : Inv X pins σ H s) (R : Rel X.K m h H) {d : D} {x : V} (r : RelD X.K m H d x) (e : rdL h d = some ds) :
    ∃ a vs its n, x = .ref a ∧ RelDs X.K m H ds vs ∧ Vals vs its ∧ vs.length ≤ sizeLine ∧ s.heap.get? a = some { cls := .type "list", data := .seq its.toArray n } := by
  cases r with
  | @obj i a hi =>
    unfold rdL at e
    cases q : h.get i with
    | none => simp only [q] at e; cases e
    | some o =>
      simp only [q] at e
      cases o with
      | lst ds' =>
        cases e
        obtain ⟨vs, hv, rv⟩ := rdL_obj R hi q
        obtain ⟨z, its, n, r, _, e⟩ := I.lstM hv
        exact ⟨a, vs, its, n, rfl, rv, r, z, e⟩
      | _ => cases e
  | wl hs rs =>
    cases e
    rcases hs with ⟨o, hs⟩ | ⟨its, n, hk, hz, rv⟩
    · obtain ⟨_, z, its, n, r, e⟩ := I.hok _ _ hs
      exact ⟨_, _, its, n, rfl, rs, r, z, e⟩
    · exact ⟨_, _, its, n, rfl, rs, rv, by rw [rv.length]; exact hz, I.kIn _ _ hk⟩
  | _ => cases e
end

/-! ### + - * // % ** -/
def okLst (h : HE) (ds : List D) : Rs D := if ds.length ≤ sizeLine then .ok (.obj h.n) (h.new (.lst ds)) else .fail
def gAdd : Op2 := fun d e h => match d, e with
  | .int i, .int j => .ok (.int (i + j)) h
  | .str x, .str y => if x.length + y.length ≤ sizeLine then .ok (.str (x ++ y)) h else .fail
  | .tup ds, .tup es => if ds.length + es.length ≤ sizeLine then .ok (.tup (ds ++ es)) h else .fail
  | d, e => (match rdL h d, rdL h e with
    | some ds, some es => okLst h (ds ++ es)
    | _, _ => .fail)
def gSub : Op2 := fun d e h => match d, e with
  | .int i, .int j => .ok (.int (i - j)) h
  | _, _ => .fail
def gMul : Op2 := fun d e h => match d, e with
  | .int i, .int j => if (-(2 ^ 64) < i ∧ i < 2 ^ 64) ∨ (-(2 ^ 64) < j ∧ j < 2 ^ 64) then .ok (.int (i * j)) h else .fail
  | .tup ds, .int k => if ds ≠ [] ∧ 2 ≤ k ∧ k ≤ 1000 ∧ ds.length ≤ 1000 then .ok (.tup (List.replicate k.toNat ds).flatten) h else .fail
  | .obj i, .int k => (match h.get i with
    | some (.lst ds) => if -(2 ^ 63) ≤ k ∧ k < 2 ^ 63 ∧ ds.length * k.toNat ≤ sizeLine then .ok (.obj h.n) (h.new (.lst (List.replicate k.toNat ds).flatten)) else .fail
    | _ => .fail)
  | _, _ => .fail
def gFdiv : Op2 := fun d e h => match d, e with
  | .int i, .int j => if 0 < j ∧ j < 1073741824 then .ok (.int (i / j)) h else .fail
  | _, _ => .fail
def gMod : Op2 := fun d e h => match d, e with
  | .int i, .int j => if 0 < j then .ok (.int (i % j)) h else .fail
  | _, _ => .fail
def gPow : Op2 := fun d e h => match d, e with
  | .int i, .int j => if 0 ≤ j ∧ j ≤ 1000000 ∧ i.natAbs < 2 ^ 64 then .ok (.int (i ^ j.toNat)) h else .fail
  | _, _ => .fail
section
variable {X : Cx} {W : Wz}
theorem RelDs.rep {K : Fg} {m : List Addr} {H : Hp} {ds : List D} {vs : List V} (r : RelDs K m H ds vs) : ∀ k : Nat, RelDs K m H (List.replicate k ds).flatten (List.replicate k vs).flatten
  | 0 => .nil
  | k + 1 => by
    rw [List.replicate_succ, List.replicate_succ, List.flatten_cons, List.flatten_cons]
    exact r.append (RelDs.rep r k)
theorem og_addL (pins : List (Addr × Obj)) (s : Shared) (σ : L2.St) (H : Hp) (x y : V) (v u : Value) (Q : VK) (m : List Addr) (h : HE) (d e : D) (I : Inv X pins σ H s) (rx : L2.RelV x v) (ry : L2.RelV y u) (R : Rel X.K m h H) (r1 : RelD X.K m H d x) (r2 : RelD X.K m H e y)
    (P : Post X.K (RelD X.K) m H (match rdL h d, rdL h e with
    | some ds, some es => okLst h (ds ++ es)
    | _, _ => .fail) Q (fun c dd H' => W.1 c dd σ H')) : wpAny (model X.prog X.w) X.A (binaryOp .Add v u) (EP X pins σ Q) X.xe s := by
  cases q1 : rdL h d with
  | none => simp only [q1] at P; exact P.elim
  | some ds =>
    cases q2 : rdL h e with
    | none => simp only [q1, q2] at P; exact P.elim
    | some es =>
      simp only [q1, q2] at P
      unfold okLst at P
      by_cases hz : (ds ++ es).length ≤ sizeLine
      · rw [if_pos hz] at P
        obtain ⟨a, vs, its, n, rfl, rs, rv, z, ho⟩ := rdL_is I R r1 q1
        obtain ⟨b, us, its2, n2, rfl, rs2, rv2, z2, ho2⟩ := rdL_is I R r2 q2
        cases rx
        cases ry
        have l1 := rs.length
        have l2 := rs2.length
        have l3 := rv.length
        have l4 := rv2.length
        rw [List.length_append] at hz
        refine PySem.P.add_list ho ho2 ?_ (by rw [List.size_toArray, List.size_toArray]; omega)
        have ea : its.toArray ++ its2.toArray = (its ++ its2).toArray := by simp
        rw [ea]
        exact ⟨.ref _, _, I.lnew (t' := s.toks) (rv.append rv2) (by rw [List.length_append]; omega), rfl, post_newL R (rs.append rs2) P _ I.fresh⟩
      · rw [if_neg hz] at P
        exact P.elim
theorem og_add : OpG X W (binaryOp .Add) gAdd := by
  intro pins s σ H x y v u Q m h d e I rx ry R r1 r2 P
  cases r1 with
  | int i =>
    cases r2 with
    | int j => exact op_add pins s σ H _ _ v u Q I rx ry ⟨i, j, rfl, rfl, P.here R (.int _)⟩
    | _ => exact P.elim
  | str i =>
    cases r2 with
    | str j =>
      by_cases hz : i.length + j.length ≤ sizeLine
      · have P' : Post X.K (RelD X.K) m H (.ok (.str (i ++ j)) h) Q (fun c dd H' => W.1 c dd σ H') := by simpa only [gAdd, if_pos hz] using P
        exact op_add_str pins s σ H _ _ v u Q I rx ry ⟨i, j, rfl, rfl, hz, P'.here R (.str _)⟩
      · simp only [gAdd, if_neg hz] at P
        exact P.elim
    | _ => exact P.elim
  | @tup ds vs a hs rs =>
    cases r2 with
    | @tup es us b hs2 rs2 =>
      by_cases hz : ds.length + es.length ≤ sizeLine
      · have P' : Post X.K (RelD X.K) m H (.ok (.tup (ds ++ es)) h) Q (fun c dd H' => W.1 c dd σ H') := by simpa only [gAdd, if_pos hz] using P
        have l1 := rs.length
        have l2 := rs2.length
        refine op_catA pins s σ H _ _ v u Q I rx ry ⟨a, b, vs, us, rfl, rfl, hs, hs2, by omega, fun z => ?_, fun _ z => ?_, fun _ _ => post_newT R (rs.append rs2) P'⟩
        · subst z
          cases rs
          exact P'.here R (.tup hs2 rs2)
        · subst z
          cases rs2
          rw [List.append_nil] at P'
          exact P'.here R (.tup hs rs)
      · simp only [gAdd, if_neg hz] at P
        exact P.elim
    | _ => exact P.elim
  | obj hi =>
    cases r2 with
    | obj hj => exact og_addL pins s σ H _ _ v u Q m h _ _ I rx ry R (.obj hi) (.obj hj) P
    | wl hs2 rs2 => exact og_addL pins s σ H _ _ v u Q m h _ _ I rx ry R (.obj hi) (.wl hs2 rs2) P
    | _ =>
      have P' : False := by
        simp only [gAdd, rdL] at P
        split at P
        · contradiction
        · exact P
      exact P'.elim
  | wl hs rs =>
    cases r2 with
    | obj hj => exact og_addL pins s σ H _ _ v u Q m h _ _ I rx ry R (.wl hs rs) (.obj hj) P
    | wl hs2 rs2 => exact og_addL pins s σ H _ _ v u Q m h _ _ I rx ry R (.wl hs rs) (.wl hs2 rs2) P
    | _ => exact P.elim
  | _ => cases r2 <;> exact P.elim
theorem og_sub : OpG X W (binaryOp .Sub) gSub := by
  intro pins s σ H x y v u Q m h d e I rx ry R r1 r2 P
  cases r1 with
  | int i =>
    cases r2 with
    | int j => exact op_sub pins s σ H _ _ v u Q I rx ry ⟨i, j, rfl, rfl, P.here R (.int _)⟩
    | _ => exact P.elim
  | _ => exact P.elim
theorem og_fdiv : OpG X W (binaryOp .FloorDiv) gFdiv := by
  intro pins s σ H x y v u Q m h d e I rx ry R r1 r2 P
  cases r1 with
  | int i =>
    cases r2 with
    | int j =>
      by_cases hz : 0 < j ∧ j < 1073741824
      · have P' : Post X.K (RelD X.K) m H (.ok (.int (i / j)) h) Q (fun c dd H' => W.1 c dd σ H') := by simpa only [gFdiv, if_pos hz] using P
        exact op_fdiv pins s σ H _ _ v u Q I rx ry ⟨i, j, rfl, rfl, hz, P'.here R (.int _)⟩
      · simp only [gFdiv, if_neg hz] at P
        exact P.elim
    | _ => exact P.elim
  | _ => exact P.elim
theorem og_mod : OpG X W (binaryOp .Mod) gMod := by
  intro pins s σ H x y v u Q m h d e I rx ry R r1 r2 P
  cases r1 with
  | int i =>
    cases r2 with
    | int j =>
      by_cases hz : 0 < j
      · have P' : Post X.K (RelD X.K) m H (.ok (.int (i % j)) h) Q (fun c dd H' => W.1 c dd σ H') := by simpa only [gMod, if_pos hz] using P
        exact op_mod pins s σ H _ _ v u Q I rx ry ⟨i, j, rfl, rfl, hz, P'.here R (.int _)⟩
      · simp only [gMod, if_neg hz] at P
        exact P.elim
    | _ => exact P.elim
  | _ => exact P.elim
theorem og_pow : OpG X W (binaryOp .Pow) gPow := by
  intro pins s σ H x y v u Q m h d e I rx ry R r1 r2 P
  cases r1 with
  | int i =>
    cases r2 with
    | int j =>
      by_cases hz : 0 ≤ j ∧ j ≤ 1000000 ∧ i.natAbs < 2 ^ 64
      · have P' : Post X.K (RelD X.K) m H (.ok (.int (i ^ j.toNat)) h) Q (fun c dd H' => W.1 c dd σ H') := by simpa only [gPow, if_pos hz] using P
        exact op_pow pins s σ H _ _ v u Q I rx ry ⟨i, j, rfl, rfl, hz, P'.here R (.int _)⟩
      · simp only [gPow, if_neg hz] at P
        exact P.elim
    | _ => exact P.elim
  | _ => exact P.elim
theorem og_mul : OpG X W (binaryOp .Mult) gMul := by
  intro pins s σ H x y v u Q m h d e I rx ry R r1 r2 P
  cases r1 with
  | int i =>
    cases r2 with
    | int j =>
      by_cases hz : (-(2 ^ 64) < i ∧ i < 2 ^ 64) ∨ (-(2 ^ 64) < j ∧ j < 2 ^ 64)
      · have P' : Post X.K (RelD X.K) m H (.ok (.int (i * j)) h) Q (fun c dd H' => W.1 c dd σ H') := by simpa only [gMul, if_pos hz] using P
        exact op_mul pins s σ H _ _ v u Q I rx ry ⟨i, j, rfl, rfl, hz, P'.here R (.int _)⟩
      · simp only [gMul, if_neg hz] at P
        exact P.elim
    | _ => exact P.elim
  | @tup ds vs a hs rs =>
    cases r2 with
    | int k =>
      by_cases hz : ds ≠ [] ∧ 2 ≤ k ∧ k ≤ 1000 ∧ ds.length ≤ 1000
      · have P' : Post X.K (RelD X.K) m H (.ok (.tup (List.replicate k.toNat ds).flatten) h) Q (fun c dd H' => W.1 c dd σ H') := by simpa only [gMul, if_pos hz] using P
        have l1 := rs.length
        exact op_repT pins s σ H _ _ v u Q I rx ry ⟨a, k, vs, rfl, rfl, hs, fun z => hz.1 (by subst z; cases rs; rfl), hz.2.1, hz.2.2.1, by omega, post_newT R (rs.rep k.toNat) P'⟩
      · simp only [gMul, if_neg hz] at P
        exact P.elim
    | _ => exact P.elim
  | @obj i a hi =>
    cases r2 with
    | int k =>
      cases q : h.get i with
      | none => simp only [gMul, q] at P; exact P.elim
      | some o =>
        cases o with
        | lst ds =>
          by_cases hz : -(2 ^ 63) ≤ k ∧ k < 2 ^ 63 ∧ ds.length * k.toNat ≤ sizeLine
          · have P' : Post X.K (RelD X.K) m H (.ok (.obj h.n) (h.new (.lst (List.replicate k.toNat ds).flatten))) Q (fun c dd H' => W.1 c dd σ H') := by simpa only [gMul, q, if_pos hz] using P
            obtain ⟨vs, hv, rs⟩ := rdL_obj R hi q
            have l1 := rs.length
            exact op_rep pins s σ H _ _ v u Q I rx ry ⟨a, k, vs, rfl, rfl, hv, hz.1, hz.2.1, by rw [← l1]; exact hz.2.2, post_newL R (rs.rep k.toNat) P'⟩
          · simp only [gMul, q, if_neg hz] at P
            exact P.elim
        | _ => simp only [gMul, q] at P; exact P.elim
    | _ => exact P.elim
  | _ => cases r2 <;> exact P.elim
end
end PL

set_option Elab.async false
set_option linter.all false
set_option maxRecDepth 100000
set_option maxHeartbeats 4000000
namespace PL
open PySem PySem.Spec PyProof.Rows L2

/-! ### a value as plain data -/
def mapO {α β : Type} (f : α → Option β) : List α → Option (List β)
  | [] => some []
  | a :: r => (match f a with
    | some b => (match mapO f r with
      | some bs => some (b :: bs)
      | none => none)
    | none => none)
def toPy : Nat → HE → D → Option PyData
  | 0, _, _ => none
  | n + 1, h, d => (match d with
    | .non => some .none
    | .bl b => some (.bool b)
    | .int i => some (.int i)
    | .str x => some (.str x)
    | .tup ds => (mapO (toPy n h) ds).map .tuple
    | .wl ds => (mapO (toPy n h) ds).map .list
    | .obj i => (match h.get i with
      | some (.lst ds) => (mapO (toPy n h) ds).map .list
      | _ => none)
    | _ => none)
section
variable {K : Fg} {m : List Addr} {h : HE} {H : Hp}
theorem mapO_ok {f : D → Option PyData} (hf : ∀ d x p, RelD K m H d x → f d = some p → Dp K H x p) : ∀ {ds : List D} {vs : List V} {ps : List PyData}, RelDs K m H ds vs → mapO f ds = some ps → DpAll K H vs ps
  | _, _, _, .nil, e => by cases e; exact .nil
  | _, _, ps, .cons (d := d) (ds := ds) r t, e => by
    unfold mapO at e
    cases q : f d with
    | none => simp only [q] at e; cases e
    | some b =>
      simp only [q] at e
      cases q2 : mapO f ds with
      | none => simp only [q2] at e; cases e
      | some bs =>
        simp only [q2] at e
        cases e
        exact .cons (hf _ _ _ r q) (mapO_ok hf t q2)
theorem map_some {α β : Type} {o : Option α} {f : α → β} {b : β} (e : o.map f = some b) : ∃ a, o = some a ∧ f a = b := by
  cases o with
  | none => cases e
  | some a => exact ⟨a, rfl, Option.some.inj e⟩
theorem toPy_ok (R : Rel K m h H) : ∀ (n : Nat) (d : D) (x : V) (p : PyData), RelD K m H d x → toPy n h d = some p → Dp K H x p
  | 0, _, _, _, _, e => by cases e
  | n + 1, d, x, p, r, e => by
    cases r with
    | non => cases e; exact .non
    | bl b => cases e; exact .bl b
    | int i => cases e; exact .int i
    | str z => cases e; exact .str z
    | tup hs rs =>
      obtain ⟨ps, q, rfl⟩ := map_some (show (mapO (toPy n h) _).map PyData.tuple = some p from e)
      exact .tup hs (mapO_ok (fun d x p => toPy_ok R n d x p) rs q)
    | wl hs rs =>
      obtain ⟨ps, q, rfl⟩ := map_some (show (mapO (toPy n h) _).map PyData.list = some p from e)
      exact .lst hs.sq (mapO_ok (fun d x p => toPy_ok R n d x p) rs q)
    | @obj i a hi =>
      have e' : (match h.get i with
        | some (.lst ds) => (mapO (toPy n h) ds).map PyData.list
        | _ => none) = some p := e
      cases q : h.get i with
      | none => simp only [q] at e'; cases e'
      | some o =>
        simp only [q] at e'
        cases o with
        | lst ds =>
          obtain ⟨ps, q2, rfl⟩ := map_some e'
          obtain ⟨vs, hv, rs⟩ := rdL_obj R hi q
          exact .lst (SqL.of hv) (mapO_ok (fun d x p => toPy_ok R n d x p) rs q2)
        | _ => cases e'
    | _ => cases e
end

/-! ### comparisons -/
def py2 (h : HE) (d e : D) (k : PyData → PyData → Rs D) : Rs D := match toPy 20 h d, toPy 20 h e with
  | some p, some q => if SeqAt.shaped p = true ∧ SeqAt.shaped q = true then k p q else .fail
  | _, _ => .fail
def gEq : Op2 := fun d e h => py2 h d e fun p q => .ok (.bl (PyData.eqv p q)) h
def gNe : Op2 := fun d e h => py2 h d e fun p q => .ok (.bl (!PyData.eqv p q)) h
def gI (f : Int → Int → Bool) : Op2 := fun d e h => match d, e with
  | .int i, .int j => .ok (.bl (f i j)) h
  | _, _ => .fail
def gLt : Op2 := gI fun i j => decide (i < j)
def gLe : Op2 := gI fun i j => decide (i ≤ j)
def gGt : Op2 := gI fun i j => decide (j < i)
def gGe : Op2 := gI fun i j => decide (j ≤ i)
def isNon : D → Bool
  | .non => true
  | _ => false
def gIs : Op2 := fun d e h => match e with
  | .non => .ok (.bl (isNon d)) h
  | _ => .fail
def gIsNot : Op2 := fun d e h => match e with
  | .non => .ok (.bl (!isNon d)) h
  | _ => .fail
section
variable {X : Cx} {W : Wz}
theorem py2_ok {K : Fg} {m : List Addr} {h : HE} {H : Hp} {d e : D} {x y : V} {k : PyData → PyData → Rs D} {Q : VK} {E : XK} (R : Rel K m h H) (r1 : RelD K m H d x) (r2 : RelD K m H e y) (P : Post K (RelD K) m H (py2 h d e k) Q E) :
    ∃ p q, toPy 20 h d = some p ∧ toPy 20 h e = some q ∧ Dp K H x p ∧ Dp K H y q ∧ SeqAt.shaped p = true ∧ SeqAt.shaped q = true ∧ Post K (RelD K) m H (k p q) Q E := by
  unfold py2 at P
  cases q1 : toPy 20 h d with
  | none => simp only [q1] at P; exact P.elim
  | some p =>
    cases q2 : toPy 20 h e with
    | none => simp only [q1, q2] at P; exact P.elim
    | some q =>
      simp only [q1, q2] at P
      by_cases hz : SeqAt.shaped p = true ∧ SeqAt.shaped q = true
      · rw [if_pos hz] at P
        exact ⟨p, q, rfl, rfl, toPy_ok R 20 d x p r1 q1, toPy_ok R 20 e y q r2 q2, hz.1, hz.2, P⟩
      · rw [if_neg hz] at P
        exact P.elim
theorem og_eq (hu : X.A.units + 64 < cLine) : OpG X W (compareOp .Eq) gEq := by
  intro pins s σ H x y v u Q m h d e I rx ry R r1 r2 P
  obtain ⟨p, q, _, _, d1, d2, s1, s2, P'⟩ := py2_ok R r1 r2 P
  exact op_eqD hu pins s σ H x y v u Q I rx ry ⟨p, q, d1, d2, s1, s2, P'.here R (.bl _)⟩
theorem og_ne (hu : X.A.units + 64 < cLine) : OpG X W (compareOp .NotEq) gNe := by
  intro pins s σ H x y v u Q m h d e I rx ry R r1 r2 P
  obtain ⟨p, q, _, _, d1, d2, s1, s2, P'⟩ := py2_ok R r1 r2 P
  exact op_neD hu pins s σ H x y v u Q I rx ry ⟨p, q, d1, d2, s1, s2, P'.here R (.bl _)⟩
theorem og_int {op : CmpOp} {f : Int → Int → Bool} (ho : OpR X (compareOp op) (rI0 fun i j => .bl (f i j))) : OpG X W (compareOp op) (gI f) := by
  intro pins s σ H x y v u Q m h d e I rx ry R r1 r2 P
  cases r1 with
  | int i =>
    cases r2 with
    | int j => exact ho pins s σ H _ _ v u Q I rx ry ⟨i, j, rfl, rfl, P.here R (.bl _)⟩
    | _ => exact P.elim
  | _ => cases r2 <;> exact P.elim
theorem og_lt : OpG X W (compareOp .Lt) gLt := og_int op_lt
theorem og_le : OpG X W (compareOp .LtE) gLe := og_int op_le
theorem og_gt : OpG X W (compareOp .Gt) gGt := og_int op_gt
theorem og_ge : OpG X W (compareOp .GtE) gGe := og_int op_ge
theorem isNon_ok {K : Fg} {m : List Addr} {H : Hp} {d : D} {x : V} (r : RelD K m H d x) : isNon d = decide (x = .non) := by
  cases r <;> first | rfl | (symm; exact decide_eq_false (by intro z; cases z))
theorem og_is : OpG X W (compareOp .Is) gIs := by
  intro pins s σ H x y v u Q m h d e I rx ry R r1 r2 P
  cases r2 with
  | non => exact op_isN pins s σ H _ _ v u Q I rx ry ⟨rfl, by rw [← isNon_ok r1]; exact P.here R (.bl _)⟩
  | _ => exact P.elim
theorem og_isNot : OpG X W (compareOp .IsNot) gIsNot := by
  intro pins s σ H x y v u Q m h d e I rx ry R r1 r2 P
  cases r2 with
  | non => exact op_notN pins s σ H _ _ v u Q I rx ry ⟨rfl, by rw [← isNon_ok r1]; exact P.here R (.bl _)⟩
  | _ => exact P.elim

/-! ### displays, items, slices -/
def lNil : EvL := fun _ h => .ok [] h
def lCons (e : Ev) (r : EvL) : EvL := fun ρ h => (e ρ h).bind fun d h1 => (r ρ h1).bind fun ds h2 => .ok (d :: ds) h2
variable {a b e : Expr} {es : List Expr} {ea eb : Ev} {el : EvL} {pos : Pos}
theorem l_nil : PA X [] (tL X.K W lNil) := pa_imp pa_nil fun σ H Q q => by
  obtain ⟨m, h, ρ, R, S, P⟩ := q
  exact P.here R .nil
theorem l_cons (ha : PE X e (tD X.K W ea)) (hr : PA X es (tL X.K W el)) (hs : starEach (e :: es) X.env = (false, eval e X.env) :: starEach es X.env := by rfl) : PA X (e :: es) (tL X.K W (lCons ea el)) := by
  refine pa_imp (pa_cons ha hr hs) fun σ H Q q => ?_
  obtain ⟨m, h, ρ, R, S, P⟩ := q
  refine ⟨m, h, ρ, R, S, (post_bind (R := RelD X.K) P).imp fun x H1 ⟨m1, h1, d, p1, e1, R1, r1, P1⟩ => ?_⟩
  refine ⟨m1, h1, ρ, R1, S.mono p1 e1, (post_bind (R := RelDs X.K) P1).imp fun xs H2 ⟨m2, h2, ds, p2, e2, R2, r2, P2⟩ => ?_⟩
  exact P2.here R2 (.cons (r1.mono p2 e2) r2)
def eTup (l : EvL) : Ev := fun ρ h => (l ρ h).bind fun ds h1 => if ds.length ≤ sizeLine then .ok (.tup ds) h1 else .fail
def eLst (l : EvL) : Ev := fun ρ h => (l ρ h).bind fun ds h1 => okLst h1 ds
theorem d_tup {x1} (h : PA X es (tL X.K W el)) : PE X (.Tuple es x1 pos) (tD X.K W (eTup el)) := by
  refine pe_imp (pe_tup h) fun σ H Q q => ?_
  obtain ⟨m, h, ρ, R, S, P⟩ := q
  refine ⟨m, h, ρ, R, S, (post_bind (R := RelDs X.K) P).imp fun xs H1 ⟨m1, h1, ds, p1, e1, R1, r1, P1⟩ => ?_⟩
  by_cases hz : ds.length ≤ sizeLine
  · rw [if_pos hz] at P1
    exact ⟨by rw [← r1.length]; exact hz, post_newT R1 r1 P1⟩
  · rw [if_neg hz] at P1
    exact P1.elim
theorem d_lst (h : PA X es (tL X.K W el)) : PE X (.List es pos) (tD X.K W (eLst el)) := by
  refine pe_imp (pe_lst h) fun σ H Q q => ?_
  obtain ⟨m, h, ρ, R, S, P⟩ := q
  refine ⟨m, h, ρ, R, S, (post_bind (R := RelDs X.K) P).imp fun xs H1 ⟨m1, h1, ds, p1, e1, R1, r1, P1⟩ => ?_⟩
  unfold okLst at P1
  by_cases hz : ds.length ≤ sizeLine
  · rw [if_pos hz] at P1
    exact ⟨by rw [← r1.length]; exact hz, post_newL R1 r1 P1⟩
  · rw [if_neg hz] at P1
    exact P1.elim
/-- x[i] of a list, a tuple, a text -/
def gIx : Op2 := fun d e h => match e with
  | .int i => (match d with
    | .tup ds => (match atI ds i with
      | some v => .ok v h
      | none => .fail)
    | .str z => (match atI z.cps.toList i with
      | some c => if z.length ≤ sizeLine then .ok (.str ⟨#[c]⟩) h else .fail
      | none => .fail)
    | d => (match rdL h d with
      | some ds => (match atI ds i with
        | some v => .ok v h
        | none => .fail)
      | none => .fail))
  | _ => .fail
theorem atI_rel {K : Fg} {m : List Addr} {H : Hp} {ds : List D} {vs : List V} {i : Int} {d : D} (r : RelDs K m H ds vs) (e : atI ds i = some d) : ∃ v, atI vs i = some v ∧ RelD K m H d v := by
  unfold atI at e ⊢
  rw [r.length] at e
  cases q : ixN vs.length i with
  | none => rw [q] at e; cases e
  | some j =>
    rw [q] at e
    exact r.get (show ds[j]? = some d from e)
theorem d_ix (ha : PE X a (tD X.K W ea)) (hb : PE X b (tD X.K W eb)) (hs : PlainIx b) : PE X (.Subscript a b pos) (tD X.K W (eBin gIx ea eb)) := by
  refine pe_imp (pe_ix (ix_list.or (ix_tup.or ix_str)) ha hb hs) fun σ H Q q => ?_
  obtain ⟨m, h, ρ, R, S, P⟩ := q
  refine ⟨m, h, ρ, R, S, (post_bind (R := RelD X.K) P).imp fun x H1 ⟨m1, h1, d, p1, e1, R1, r1, P1⟩ => ?_⟩
  refine ⟨m1, h1, ρ, R1, S.mono p1 e1, (post_bind (R := RelD X.K) P1).imp fun y H2 ⟨m2, h2, e, p2, e2, R2, r2, P2⟩ => ?_⟩
  have r1' := r1.mono p2 e2
  cases r2 with
  | int i =>
    have lists : ∀ {a : Addr} {vs : List V} {ds : List D}, x = .ref a → SqL X.K H2 a vs → RelDs X.K m2 H2 ds vs → Post X.K (RelD X.K) m2 H2 (match atI ds i with
        | some v => .ok v h2
        | none => .fail) Q (fun c dd H' => W.1 c dd σ H') → rIxL X.K x (.int i) H2 Q := fun {a vs ds} ex hs rs P3 => by
      cases q : atI ds i with
      | none => simp only [q] at P3; exact P3.elim
      | some v =>
        simp only [q] at P3
        obtain ⟨w, hw, rw'⟩ := atI_rel rs q
        exact ⟨a, vs, i, w, ex, rfl, hs, hw, P3.here R2 rw'⟩
    have fromL : ∀ {ds : List D}, rdL h2 d = some ds → Post X.K (RelD X.K) m2 H2 (match atI ds i with
        | some v => .ok v h2
        | none => .fail) Q (fun c dd H' => W.1 c dd σ H') → rIxL X.K x (.int i) H2 Q := fun {ds} q P3 => by
      obtain ⟨a, vs, ex, hs, rs⟩ := rdL_ok R2 r1' q
      exact lists ex hs rs P3
    cases r1' with
    | @tup ds vs a hs rs =>
      refine .inr (.inl ?_)
      have P3 : Post X.K (RelD X.K) m2 H2 (match atI ds i with
        | some v => .ok v h2
        | none => .fail) Q (fun c dd H' => W.1 c dd σ H') := P2
      cases q : atI ds i with
      | none => simp only [q] at P3; exact P3.elim
      | some v =>
        simp only [q] at P3
        obtain ⟨w, hw, rw'⟩ := atI_rel rs q
        exact ⟨a, vs, i, w, rfl, rfl, hs, hw, P3.here R2 rw'⟩
    | str z =>
      refine .inr (.inr ?_)
      have P3 : Post X.K (RelD X.K) m2 H2 (match atI z.cps.toList i with
        | some c => if z.length ≤ sizeLine then .ok (.str ⟨#[c]⟩) h2 else .fail
        | none => .fail) Q (fun c dd H' => W.1 c dd σ H') := P2
      cases q : atI z.cps.toList i with
      | none => simp only [q] at P3; exact P3.elim
      | some c =>
        simp only [q] at P3
        by_cases hz : z.length ≤ sizeLine
        · rw [if_pos hz] at P3
          exact ⟨z, i, c, rfl, rfl, hz, q, P3.here R2 (.str _)⟩
        · rw [if_neg hz] at P3
          exact P3.elim
    | wl hs rs => exact .inl (lists rfl hs.sq rs P2)
    | @obj i' a' hi =>
      refine .inl ?_
      cases q : rdL h2 (.obj i') with
      | none => simp only [gIx, q] at P2; exact P2.elim
      | some ds =>
        simp only [gIx, q] at P2
        exact fromL q P2
    | _ => exact P2.elim
  | _ => exact P2.elim
/-- x[lo:hi] -/
abbrev EvO := Sl → HE → Rs (Option Int)
def oNone : EvO := fun _ h => .ok none h
def oSome (e : Ev) : EvO := fun ρ h => (e ρ h).bind fun d h1 => match d with
  | .int i => .ok (some i) h1
  | _ => .fail
def tOo (K : Fg) (W : Wz) (e : EvO) : TO := fun σ H Q => ∃ m h ρ, Rel K m h H ∧ RelS W.2 K m H ρ σ ∧ Post K (fun _ _ (a b : Option Int) => a = b) m H (e ρ h) Q (fun cls d H' => W.1 cls d σ H')
theorem po_imp {X : Cx} {e : Option Expr} {t t' : TO} (h : PO X e t) (i : ∀ σ H Q, t' σ H Q → t σ H Q) : PO X e t' := ⟨fun pins s σ H Q I q => h.run pins s σ H Q I (i _ _ _ q)⟩
theorem o_none : PO X none (tOo X.K W oNone) := po_imp po_none fun σ H Q q => by
  obtain ⟨m, h, ρ, R, S, P⟩ := q
  exact P.here R rfl
theorem o_some (he : PE X e (tD X.K W ea)) : PO X (some e) (tOo X.K W (oSome ea)) := po_imp (po_some he) fun σ H Q q => by
  obtain ⟨m, h, ρ, R, S, P⟩ := q
  refine ⟨m, h, ρ, R, S, (post_bind (R := RelD X.K) P).imp fun x H1 ⟨m1, h1, d, p1, e1, R1, r1, P1⟩ => ?_⟩
  cases r1 with
  | int i => exact ⟨i, rfl, P1.here R1 rfl⟩
  | _ => exact P1.elim
def cutD (xs : List D) (lo hi : Option Int) : List D := (xs.drop (HT.sIx xs.length 0 lo)).take (HT.sIx xs.length xs.length hi - HT.sIx xs.length 0 lo)
def gSl (d : D) (lo hi : Option Int) (h : HE) : Rs D := match d with
  | .tup ds => .ok (.tup (cutD ds lo hi)) h
  | .str z => if z.length ≤ sizeLine then .ok (.str (cutS z lo hi)) h else .fail
  | d => (match rdL h d with
    | some ds => .ok (.obj h.n) (h.new (.lst (cutD ds lo hi)))
    | none => .fail)
def eSl (e : Ev) (lo hi : EvO) : Ev := fun ρ h => (e ρ h).bind fun d h1 => (lo ρ h1).bind fun l h2 => (hi ρ h2).bind fun u h3 => gSl d l u h3
theorem cut_rel {K : Fg} {m : List Addr} {H : Hp} {ds : List D} {vs : List V} (r : RelDs K m H ds vs) (lo hi : Option Int) : RelDs K m H (cutD ds lo hi) (cutV vs lo hi) := by
  unfold cutD cutV
  rw [r.length]
  exact (r.drop _).take _
theorem cut_whole {α : Type} (xs : List α) (lo hi : Nat) (h0 : lo = 0) (h1 : hi = xs.length) : (xs.drop lo).take (hi - lo) = xs := by
  subst h0 h1
  simp
theorem d_sl {lo hi : Option Expr} {ol oh : EvO} {p2 : Pos} (he : PE X e (tD X.K W ea)) (hl : PO X lo (tOo X.K W ol)) (hh : PO X hi (tOo X.K W oh)) : PE X (.Subscript e (.Slice lo hi none p2) pos) (tD X.K W (eSl ea ol oh)) := by
  refine pe_imp (pe_slice (sl_list.or (sl_tupA.or sl_str)) he hl hh) fun σ H Q q => ?_
  obtain ⟨m, h, ρ, R, S, P⟩ := q
  refine ⟨m, h, ρ, R, S, (post_bind (R := RelD X.K) P).imp fun x H1 ⟨m1, h1, d, p1, e1, R1, r1, P1⟩ => ?_⟩
  refine ⟨m1, h1, ρ, R1, S.mono p1 e1, (post_bind (R := fun _ _ (a b : Option Int) => a = b) P1).imp fun l H2 ⟨m2, h2, l', p2, e2, R2, r2, P2⟩ => ?_⟩
  subst r2
  refine ⟨m2, h2, ρ, R2, (S.mono p1 e1).mono p2 e2, (post_bind (R := fun _ _ (a b : Option Int) => a = b) P2).imp fun u H3 ⟨m3, h3, u', p3, e3, R3, r3, P3⟩ => ?_⟩
  subst r3
  have r1' := (r1.mono p2 e2).mono p3 e3
  have fromL : ∀ {ds : List D}, rdL h3 d = some ds → Post X.K (RelD X.K) m3 H3 (.ok (.obj h3.n) (h3.new (.lst (cutD ds l' u')))) Q (fun c dd H' => W.1 c dd σ H') → rSlL X.K x l' u' H3 Q := fun {ds} q P4 => by
    obtain ⟨a, vs, ex, hs, rs⟩ := rdL_ok R3 r1' q
    exact ⟨a, vs, ex, hs, post_newL R3 (cut_rel rs l' u') P4⟩
  cases r1' with
  | @tup ds vs a hs rs =>
    refine .inr (.inl ⟨a, vs, rfl, hs, fun hw => ?_, fun _ => post_newT R3 (cut_rel rs l' u') P3⟩)
    have ew : cutD ds l' u' = ds := cut_whole ds _ _ (by rw [rs.length]; exact hw.1) (by rw [rs.length]; exact hw.2)
    have P4 : Post X.K (RelD X.K) m3 H3 (.ok (.tup (cutD ds l' u')) h3) Q (fun c dd H' => W.1 c dd σ H') := P3
    rw [ew] at P4
    exact P4.here R3 (.tup hs rs)
  | str z =>
    refine .inr (.inr ?_)
    have P4 : Post X.K (RelD X.K) m3 H3 (if z.length ≤ sizeLine then .ok (.str (cutS z l' u')) h3 else .fail) Q (fun c dd H' => W.1 c dd σ H') := P3
    by_cases hz : z.length ≤ sizeLine
    · rw [if_pos hz] at P4
      exact ⟨z, rfl, hz, P4.here R3 (.str _)⟩
    · rw [if_neg hz] at P4
      exact P4.elim
  | wl hs rs => exact .inl (fromL rfl P3)
  | @obj i' a' hi =>
    refine .inl ?_
    cases q : rdL h3 (.obj i') with
    | none => simp only [gSl, q] at P3; exact P3.elim
    | some ds =>
      simp only [gSl, q] at P3
      exact fromL q P3
  | _ => exact P3.elim
end
end PL

set_option Elab.async false
set_option linter.all false
set_option maxRecDepth 100000
set_option maxHeartbeats 4000000
namespace PL
open PySem PySem.Spec PyProof.Rows L2

/-! ### statements -/
inductive Rt where
  | nx (ρ : Sl) (h : HE)
  | rt (d : D) (h : HE)
  | bk (ρ : Sl) (h : HE)
  | ct (ρ : Sl) (h : HE)
  | exc (x : Xc) (ρ : Sl) (h : HE)
  | fail
abbrev Sv := Sl → HE → Rt
def PostS (K : Fg) (m : List Addr) (H : Hp) (r : Rt) (Dn : Ends) (W : Wz) : Prop := match r with
  | .nx ρ' h' => ∀ m' H' σ', Pre m m' → Ext H H' → Rel K m' h' H' → RelS W.2 K m' H' ρ' σ' → Dn.nx σ' H'
  | .rt d h' => ∀ m' H' v, Pre m m' → Ext H H' → Rel K m' h' H' → RelD K m' H' d v → Dn.rt v H'
  | .bk ρ' h' => ∀ m' H' σ', Pre m m' → Ext H H' → Rel K m' h' H' → RelS W.2 K m' H' ρ' σ' → Dn.bk σ' H'
  | .ct ρ' h' => ∀ m' H' σ', Pre m m' → Ext H H' → Rel K m' h' H' → RelS W.2 K m' H' ρ' σ' → Dn.ct σ' H'
  | .exc x ρ' h' => ∀ m' H' σ' cls d, Pre m m' → Ext H H' → Rel K m' h' H' → RelS W.2 K m' H' ρ' σ' → RelX K m' H' x cls d → W.1 cls d σ' H'
  | .fail => False
def tSv (K : Fg) (W : Wz) (s : Sv) : TS := fun Dn σ H => ∃ m h ρ, Rel K m h H ∧ RelS W.2 K m H ρ σ ∧ PostS K m H (s ρ h) Dn W
theorem PostS.mono {K : Fg} {m m1 : List Addr} {H H1 : Hp} {r : Rt} {Dn : Ends} {W : Wz} (h : PostS K m H r Dn W) (p : Pre m m1) (e : Ext H H1) : PostS K m1 H1 r Dn W := by
  cases r with
  | nx ρ' h' => exact fun m' H' b p' e' => h m' H' b (p.trans p') (e.trans e')
  | rt d h' => exact fun m' H' b p' e' => h m' H' b (p.trans p') (e.trans e')
  | bk ρ' h' => exact fun m' H' b p' e' => h m' H' b (p.trans p') (e.trans e')
  | ct ρ' h' => exact fun m' H' b p' e' => h m' H' b (p.trans p') (e.trans e')
  | exc x ρ' h' => exact fun m' H' b c d p' e' => h m' H' b c d (p.trans p') (e.trans e')
  | fail => exact h
def bindS {α : Type} (r : Rs α) (ρ : Sl) (k : α → HE → Rt) : Rt := match r with
  | .ok a h => k a h
  | .exc x h => .exc x ρ h
  | .fail => .fail
theorem post_bindS {K : Fg} {α β : Type} {R : List Addr → Hp → α → β → Prop} {m : List Addr} {H : Hp} {r : Rs α} {ρ : Sl} {σ : L2.St} {k : α → HE → Rt} {Dn : Ends} {W : Wz} (S : RelS W.2 K m H ρ σ) (h : PostS K m H (bindS r ρ k) Dn W) :
    Post K R m H r (fun b H1 => ∃ m1 h1 a, Pre m m1 ∧ Ext H H1 ∧ Rel K m1 h1 H1 ∧ R m1 H1 a b ∧ PostS K m1 H1 (k a h1) Dn W) (fun c d H' => W.1 c d σ H') := by
  cases r with
  | ok a h' => exact fun m' H' b p e r' q => ⟨m', h', a, p, e, r', q, h.mono p e⟩
  | exc x h' => exact fun m' H' cls d p e r' q => h m' H' σ cls d p e r' (S.mono p e) q
  | fail => exact h
/-- blocks -/
def sNil : Sv := fun ρ h => .nx ρ h
def sSeq (s t : Sv) : Sv := fun ρ h => match s ρ h with
  | .nx ρ' h' => t ρ' h'
  | r => r
section
variable {X : Cx} {W : Wz} {st : Stmt} {rest : List Stmt} {s t : Sv} {e : Expr} {ea : Ev} {pos : Pos}
theorem s_nil : PSs X [] (tSv X.K W sNil) := pss_imp pss_nil fun Dn σ H q => by
  obtain ⟨m, h, ρ, R, S, P⟩ := q
  exact P m H σ (Pre.refl m) (Ext.refl H) R S
theorem s_cons (h1 : PS X st (tSv X.K W s)) (h2 : PSs X rest (tSv X.K W t)) : PSs X (st :: rest) (tSv X.K W (sSeq s t)) := by
  refine pss_imp (pss_cons h1 h2) fun Dn σ H q => ?_
  obtain ⟨m, h, ρ, R, S, P⟩ := q
  refine ⟨m, h, ρ, R, S, ?_⟩
  unfold sSeq at P
  cases e : s ρ h with
  | nx ρ' h' =>
    rw [e] at P
    exact fun m' H' σ' p ex R' S' => ⟨m', h', ρ', R', S', PostS.mono (show PostS X.K m H (t ρ' h') Dn W from P) p ex⟩
  | rt d h' => rw [e] at P; exact P
  | bk ρ' h' => rw [e] at P; exact P
  | ct ρ' h' => rw [e] at P; exact P
  | exc x ρ' h' => rw [e] at P; exact P
  | fail => rw [e] at P; exact P
theorem s_one (h1 : PS X st (tSv X.K W s)) : PSs X [st] (tSv X.K W s) := pss_imp (pss_one h1) fun Dn σ H q => q
theorem s_pass : PS X (.Pass pos) (tSv X.K W sNil) := ps_imp ps_pass fun Dn σ H q => by
  obtain ⟨m, h, ρ, R, S, P⟩ := q
  exact P m H σ (Pre.refl m) (Ext.refl H) R S
theorem s_doc {x j pos pos'} : PS X (.Expr (.Constant (.str x) j pos) pos') (tSv X.K W sNil) := ps_imp ps_doc fun Dn σ H q => by
  obtain ⟨m, h, ρ, R, S, P⟩ := q
  exact P m H σ (Pre.refl m) (Ext.refl H) R S
def sBreak : Sv := fun ρ h => .bk ρ h
def sCont : Sv := fun ρ h => .ct ρ h
theorem s_break : PS X (.Break pos) (tSv X.K W sBreak) := ps_imp ps_break fun Dn σ H q => by
  obtain ⟨m, h, ρ, R, S, P⟩ := q
  exact P m H σ (Pre.refl m) (Ext.refl H) R S
theorem s_continue : PS X (.Continue pos) (tSv X.K W sCont) := ps_imp ps_continue fun Dn σ H q => by
  obtain ⟨m, h, ρ, R, S, P⟩ := q
  exact P m H σ (Pre.refl m) (Ext.refl H) R S
def sExpr (e : Ev) : Sv := fun ρ h => bindS (e ρ h) ρ fun _ h1 => .nx ρ h1
theorem s_expr (he : PE X e (tD X.K W ea)) (hs : swapsWith e none pos.line X.env = pure false := by rfl) : PS X (.Expr e pos) (tSv X.K W (sExpr ea)) := by
  refine ps_imp (ps_expr he hs) fun Dn σ H q => ?_
  obtain ⟨m, h, ρ, R, S, P⟩ := q
  refine ⟨m, h, ρ, R, S, (post_bindS (R := RelD X.K) S P).imp fun x H1 ⟨m1, h1, d, p1, e1, R1, r1, P1⟩ => ?_⟩
  exact P1 m1 H1 σ (Pre.refl _) (Ext.refl _) R1 (S.mono p1 e1)
def sRet (e : Ev) : Sv := fun ρ h => bindS (e ρ h) ρ fun d h1 => .rt d h1
theorem s_ret (he : PE X e (tD X.K W ea)) : PS X (.Return (some e) pos) (tSv X.K W (sRet ea)) := by
  refine ps_imp (ps_ret he) fun Dn σ H q => ?_
  obtain ⟨m, h, ρ, R, S, P⟩ := q
  refine ⟨m, h, ρ, R, S, (post_bindS (R := RelD X.K) S P).imp fun x H1 ⟨m1, h1, d, p1, e1, R1, r1, P1⟩ => ?_⟩
  exact P1 m1 H1 x (Pre.refl _) (Ext.refl _) R1 r1
def sRetN : Sv := fun _ h => .rt .non h
theorem s_retN : PS X (.Return none pos) (tSv X.K W sRetN) := ps_imp ps_retN fun Dn σ H q => by
  obtain ⟨m, h, ρ, R, S, P⟩ := q
  exact P m H .non (Pre.refl m) (Ext.refl H) R .non
def sIf (c : EvB) (s t : Sv) : Sv := fun ρ h => bindS (c ρ h) ρ fun k h1 => match k with
  | true => s ρ h1
  | false => t ρ h1
theorem s_if {c : Expr} {a b : List Stmt} {bc : EvB} (hc : PT X c (tB' X.K W bc)) (ha : PSs X a (tSv X.K W s)) (hb : PSs X b (tSv X.K W t)) : PS X (.If c a b pos) (tSv X.K W (sIf bc s t)) := by
  refine ps_imp (ps_if hc ha hb) fun Dn σ H q => ?_
  obtain ⟨m, h, ρ, R, S, P⟩ := q
  refine ⟨m, h, ρ, R, S, (post_bindS (R := fun _ _ (a b : Bool) => a = b) S P).imp fun k H1 ⟨m1, h1, k', p1, e1, R1, r1, P1⟩ => ?_⟩
  subst r1
  cases k' with
  | true => exact iteT ⟨m1, h1, ρ, R1, S.mono p1 e1, P1⟩
  | false => exact iteF ⟨m1, h1, ρ, R1, S.mono p1 e1, P1⟩

/-! ### targets -/
abbrev Gv := D → Sl → HE → Rs Sl
abbrev Gvs := List D → Sl → HE → Rs Sl
def tGt (K : Fg) (W : Wz) (g : Gv) : TG := fun v σ H Q => ∃ m h ρ d, Rel K m h H ∧ RelS W.2 K m H ρ σ ∧ RelD K m H d v ∧ Post K (RelS W.2 K) m H (g d ρ h) (fun σ' H' => Q σ' H') (fun c dd H' => W.1 c dd σ H')
def tGts (K : Fg) (W : Wz) (g : Gvs) : TGs := fun vs σ H Q => ∃ m h ρ ds, Rel K m h H ∧ RelS W.2 K m H ρ σ ∧ RelDs K m H ds vs ∧ Post K (RelS W.2 K) m H (g ds ρ h) (fun σ' H' => Q σ' H') (fun _ _ _ => False)
def gNm (i : Nat) : Gv := fun d ρ h => .ok (ρ.set i (.va d)) h
theorem pg_imp {X : Cx} {e : Expr} {t t' : TG} (h : PG X e t) (i : ∀ v σ H Q, t' v σ H Q → t v σ H Q) : PG X e t' := ⟨fun pins s σ H v u Q I r q => h.run pins s σ H v u Q I r (i _ _ _ _ q)⟩
theorem pgs_imp {X : Cx} {e : List Expr} {t t' : TGs} (h : PGs X e t) (i : ∀ v σ H Q, t' v σ H Q → t v σ H Q) : PGs X e t' := ⟨fun pins s σ H v u Q I r q => h.run pins s σ H v u Q I r (i _ _ _ _ q)⟩
theorem g_nm {i : Nat} {x : Str} (hN : X.N.Nodup) (hi : X.N[i]? = some x) (hx : Loc X.env.scope x) (hf : X.fn x = true ∨ X.env.scope.names.lookup x = some .local := by first | exact .inl rfl | exact .inr rfl | assumption) : PG X (.Name x pos) (tGt X.K W (gNm i)) :=
  pg_imp (pg_name hN hi hx hf) fun v σ H Q q => by
    obtain ⟨m, h, ρ, d, R, S, r, P⟩ := q
    exact P.here R (S.set (.some r) i)
def gsNil : Gvs := fun ds ρ h => match ds with
  | [] => .ok ρ h
  | _ => .fail
def gsCons (g : Gv) (gs : Gvs) : Gvs := fun ds ρ h => match ds with
  | d :: r => (match g d ρ h with
    | .ok ρ1 h1 => gs r ρ1 h1
    | _ => .fail)
  | _ => .fail
theorem gs_nil : PGs X [] (tGts X.K W gsNil) := pgs_imp pgs_nil fun v σ H Q q => by
  obtain ⟨m, h, ρ, ds, R, S, r, P⟩ := q
  cases r with
  | nil => exact ⟨rfl, P.here R S⟩
  | cons _ _ => exact P.elim
theorem gs_cons {es : List Expr} {g : Gv} {gs : Gvs} (h1 : PG X e (tGt X.K W g)) (h2 : PGs X es (tGts X.K W gs))
    (hs : (assignEach (e :: es) X.env).map (·.2) = assign e X.env :: (assignEach es X.env).map (·.2) := by rfl) : PGs X (e :: es) (tGts X.K W (gsCons g gs)) := pgs_imp (pgs_cons h1 h2 hs) fun v σ H Q q => by
  obtain ⟨m, h, ρ, ds, R, S, r, P⟩ := q
  cases r with
  | nil => exact P.elim
  | @cons d v ds vs r t =>
    refine ⟨v, vs, rfl, m, h, ρ, d, R, S, r, ?_⟩
    have P' : Post X.K (RelS W.2 X.K) m H (match g d ρ h with
      | .ok ρ1 h1 => gs ds ρ1 h1
      | _ => .fail) (fun σ' H' => Q σ' H') (fun _ _ _ => False) := P
    cases q : g d ρ h with
    | ok ρ1 h1 =>
      rw [q] at P'
      exact fun m' H' σ' p e R' S' => ⟨m', h1, ρ1, ds, R', S', t.mono p e, Post.mono P' p e⟩
    | exc x h1 => rw [q] at P'; exact P'.elim
    | fail => rw [q] at P'; exact P'.elim
def noX {α : Type} : Rs α → Rs α
  | .ok a h => .ok a h
  | _ => .fail
def gTp (n : Nat) (gs : Gvs) : Gv := fun d ρ h => match d with
  | .tup ds => if ds.length = n then noX (gs ds ρ h) else .fail
  | _ => .fail
theorem g_tup {es : List Expr} {k : Nat} {gs : Gvs} {n : Nat} (hc : X.calm = true) (hg : PGs X es (tGts X.K W gs)) (hn : (assignEach es X.env).length = n := by rfl) (hst : (assignEach es X.env).findIdx? (·.1) = none := by rfl) :
    PG X (.Tuple es k pos) (tGt X.K W (gTp n gs)) := pg_imp (pg_tup hc hg hn hst) fun v σ H Q q => by
  obtain ⟨m, h, ρ, d, R, S, r, P⟩ := q
  cases r with
  | @tup ds vs a hs rs =>
    have P' : Post X.K (RelS W.2 X.K) m H (if ds.length = n then noX (gs ds ρ h) else .fail) (fun σ' H' => Q σ' H') (fun c dd H' => W.1 c dd σ H') := P
    by_cases hz : ds.length = n
    · rw [if_pos hz] at P'
      refine ⟨a, vs, rfl, hs, by rw [← rs.length]; exact hz, m, h, ρ, ds, R, S, rs, ?_⟩
      cases q : gs ds ρ h with
      | ok ρ1 h1 => rw [q] at P'; exact P'
      | exc x h1 => rw [q] at P'; exact P'.elim
      | fail => rw [q] at P'; exact P'
    · rw [if_neg hz] at P'
      exact P'.elim
  | _ => exact P.elim
/-- o[i] = v of a list -/
def gSt (eo ei : Ev) : Gv := fun d ρ h => (eo ρ h).bind fun o h1 => (ei ρ h1).bind fun i h2 => match o, i with
  | .obj k, .int j => (match h2.get k with
    | some (.lst ds) => (match ixN ds.length j with
      | some n => .ok ρ (h2.put k (.lst (ds.set n d)))
      | none => .fail)
    | _ => .fail)
  | _, _ => .fail
theorem g_sub {o i : Expr} {eo ei : Ev} (ho : PE X o (tD X.K W eo)) (hi : PE X i (tD X.K W ei))
    (ha : ∀ v, assign (.Subscript o i pos) X.env v = (do
      let ov ← holding [v] (eval o X.env)
      let iv ← holding [v, ov] (eval i X.env)
      standAt pos
      holding [v, ov, iv] (setItem ov iv v)
      release [v, ov, iv] []) := by intro _; rfl) : PG X (.Subscript o i pos) (tGt X.K W (gSt eo ei)) := pg_imp (pg_sub ho hi set_list ha) fun v σ H Q q => by
  obtain ⟨m, h, ρ, d, R, S, r, P⟩ := q
  refine ⟨m, h, ρ, R, S, (post_bind (R := RelD X.K) P).imp fun x H1 ⟨m1, h1, o', p1, e1, R1, r1, P1⟩ => ?_⟩
  refine ⟨m1, h1, ρ, R1, S.mono p1 e1, (post_bind (R := RelD X.K) P1).imp fun y H2 ⟨m2, h2, i', p2, e2, R2, r2, P2⟩ => ?_⟩
  have r1' := r1.mono p2 e2
  have r' := (r.mono p1 e1).mono p2 e2
  have S' := (S.mono p1 e1).mono p2 e2
  cases r1' with
  | @obj k a hk =>
    cases r2 with
    | int j =>
      cases q : h2.get k with
      | none => simp only [q] at P2; exact P2.elim
      | some ob =>
        simp only [q] at P2
        cases ob with
        | lst ds =>
          obtain ⟨vs, hv, rs⟩ := rdL_obj R2 hk q
          cases q2 : ixN ds.length j with
          | none => simp only [q2] at P2; exact P2.elim
          | some n =>
            simp only [q2] at P2
            obtain ⟨R3, e3⟩ := rel_setL R2 hk hv (rs.set r' n)
            exact ⟨a, vs, j, n, rfl, rfl, hv, by rw [← rs.length]; exact q2, P2.ok (Pre.refl _) e3 R3 (S'.mono (Pre.refl _) e3)⟩
        | _ => exact P2.elim
    | _ => exact P2.elim
  | _ => cases r2 <;> exact P2.elim
/-- target = e -/
def sAsg (e : Ev) (g : Gv) : Sv := fun ρ h => bindS (e ρ h) ρ fun d h1 => bindS (g d ρ h1) ρ fun ρ1 h2 => .nx ρ1 h2
theorem asg_read {K : Fg} {g : Gv} : ∀ Dn σ H, tSv K W (sAsg ea g) Dn σ H → tAsg (tD K W ea) (tGt K W g) Dn σ H := fun Dn σ H q => by
  obtain ⟨m, h, ρ, R, S, P⟩ := q
  refine ⟨m, h, ρ, R, S, (post_bindS (R := RelD K) S P).imp fun x H1 ⟨m1, h1, d, p1, e1, R1, r1, P1⟩ => ?_⟩
  refine ⟨m1, h1, ρ, d, R1, S.mono p1 e1, r1, (post_bindS (R := RelS W.2 K) (S.mono p1 e1) P1).imp fun σ2 H2 ⟨m2, h2, ρ2, p2, e2, R2, S2, P2⟩ => ?_⟩
  exact P2 m2 H2 σ2 (Pre.refl _) (Ext.refl _) R2 S2
theorem s_asg {tg : Expr} {g : Gv} (he : PE X e (tD X.K W ea)) (hg : PG X tg (tGt X.K W g)) (hs : swapsWithSole [tg] e pos.line X.env = pure false := by rfl) (hw : swappedStores [tg] e X.env = pure none := by rfl)
    (h1 : (assignEach [tg] X.env).map (·.2) = [assign tg X.env] := by rfl) : PS X (.Assign [tg] e pos) (tSv X.K W (sAsg ea g)) := ps_imp (ps_asg he hg hs hw h1) asg_read
/-- name = e -/
def sSet (i : Nat) (e : Ev) : Sv := fun ρ h => bindS (e ρ h) ρ fun d h1 => .nx (ρ.set i (.va d)) h1
theorem s_set (i : Nat) {x : Str} {pos' : Pos} (hN : X.N.Nodup) (hi : X.N[i]? = some x) (hx : Loc X.env.scope x) (he : PE X e (tD X.K W ea)) (hs : swapsWith e (some (.Name x pos')) pos.line X.env = pure false := by rfl)
    (hf : X.fn x = true ∨ X.env.scope.names.lookup x = some .local := by first | exact .inl rfl | exact .inr rfl | assumption) : PS X (.Assign [.Name x pos'] e pos) (tSv X.K W (sSet i ea)) := by
  refine ps_imp (ps_set hN hi hx he hs hf) fun Dn σ H q => ?_
  obtain ⟨m, h, ρ, R, S, P⟩ := q
  refine ⟨m, h, ρ, R, S, (post_bindS (R := RelD X.K) S P).imp fun x H1 ⟨m1, h1, d, p1, e1, R1, r1, P1⟩ => ?_⟩
  exact P1 m1 H1 _ (Pre.refl _) (Ext.refl _) R1 ((S.mono p1 e1).set (.some r1) i)
/-- a, b = x, y (names) -/
def sPar (i j : Nat) (l : EvL) : Sv := fun ρ h => bindS (l ρ h) ρ fun ds h1 => match ds with
  | [d, e] => .nx ((ρ.set i (.va d)).set j (.va e)) h1
  | _ => .fail
theorem s_par (i j : Nat) {x y : Str} {a b : Expr} {el : EvL} {px py pt : Pos} {kt k2 pt2} (hc : X.calm = true) (hN : X.N.Nodup) (hi : X.N[i]? = some x) (hj : X.N[j]? = some y) (hij : i ≠ j)
    (hx : X.env.scope.names.lookup x = some .local) (hy : X.env.scope.names.lookup y = some .local) (ha : PA X [a, b] (tL X.K W el))
    (hw : swappedStores [.Tuple [.Name x px, .Name y py] kt pt] (.Tuple [a, b] k2 pt2) X.env = pure (some [x, y]))
    (hs : swapsWithSole [.Tuple [.Name x px, .Name y py] kt pt] (.Tuple [a, b] k2 pt2) pos.line X.env = pure false := by rfl) :
    PS X (.Assign [.Tuple [.Name x px, .Name y py] kt pt] (.Tuple [a, b] k2 pt2) pos) (tSv X.K W (sPar i j el)) := by
  refine ps_imp (ps_par hc hN hi hj hij hx hy ha hw hs) fun Dn σ H q => ?_
  obtain ⟨m, h, ρ, R, S, P⟩ := q
  refine ⟨m, h, ρ, R, S, (post_bindS (R := RelDs X.K) S P).imp fun xs H1 ⟨m1, h1, ds, p1, e1, R1, r1, P1⟩ => ?_⟩
  cases r1 with
  | nil => exact P1.elim
  | cons r t =>
    cases t with
    | nil => exact P1.elim
    | cons r2 t2 =>
      cases t2 with
      | nil => exact ⟨_, _, rfl, P1 m1 H1 _ (Pre.refl _) (Ext.refl _) R1 (((S.mono p1 e1).set (.some r) i).set (.some r2) j)⟩
      | cons _ _ => exact P1.elim

/-! ### loops -/
/-- a turn's end: on to the next turn, out, or away -/
def onTurn (r : Rt) (k : Sl → HE → Rt) : Rt := match r with
  | .nx ρ h => k ρ h
  | .ct ρ h => k ρ h
  | .bk ρ h => .nx ρ h
  | .rt d h => .rt d h
  | .exc x ρ h => .exc x ρ h
  | .fail => .fail
def wLoop (c : EvB) (s : Sv) : Nat → Sl → HE → Rt
  | 0, _, _ => .fail
  | n + 1, ρ, h => bindS (c ρ h) ρ fun k h1 => match k with
    | true => onTurn (s ρ h1) (wLoop c s n)
    | false => .nx ρ h1
def sWhile (n : Nat) (c : EvB) (s : Sv) : Sv := fun ρ h => wLoop c s n ρ h
theorem turn_read {K : Fg} {m : List Addr} {H : Hp} {r : Rt} {k : Sl → HE → Rt} {Dn : Ends} {N : L2.St → Hp → Prop} (P : PostS K m H (onTurn r k) Dn W)
    (hN : ∀ m' H' σ' ρ' h', Pre m m' → Ext H H' → Rel K m' h' H' → RelS W.2 K m' H' ρ' σ' → PostS K m' H' (k ρ' h') Dn W → N σ' H') : PostS K m H r { Dn with nx := N, ct := N, bk := Dn.nx } W := by
  cases r with
  | nx ρ' h' => exact fun m' H' σ' p e R' S' => hN m' H' σ' ρ' h' p e R' S' (PostS.mono (show PostS K m H (k ρ' h') Dn W from P) p e)
  | ct ρ' h' => exact fun m' H' σ' p e R' S' => hN m' H' σ' ρ' h' p e R' S' (PostS.mono (show PostS K m H (k ρ' h') Dn W from P) p e)
  | bk ρ' h' => exact P
  | rt d h' => exact P
  | exc x ρ' h' => exact P
  | fail => exact P
theorem s_while (n : Nat) {c : Expr} {body : List Stmt} {bc : EvB} (hp : PassesOwn (model X.prog X.w) X.A X.env X.xe) (hc : PT X c (tB' X.K W bc)) (hb : PSs X body (tSv X.K W s)) : PS X (.While c body [] pos) (tSv X.K W (sWhile n bc s)) := by
  refine ps_imp (ps_while hp hc hb) fun Dn σ H q => ?_
  obtain ⟨m, h, ρ, R, S, P⟩ := q
  refine ⟨fun k σ H => ∃ m h ρ, Rel X.K m h H ∧ RelS W.2 X.K m H ρ σ ∧ PostS X.K m H (wLoop bc s k ρ h) Dn W, ⟨n, m, h, ρ, R, S, P⟩, ?_⟩
  rintro k σ H ⟨m, h, ρ, R, S, P⟩
  cases k with
  | zero => exact P.elim
  | succ k =>
    refine ⟨m, h, ρ, R, S, (post_bindS (R := fun _ _ (a b : Bool) => a = b) S P).imp fun b H1 ⟨m1, h1, b', p1, e1, R1, r1, P1⟩ => ?_⟩
    subst r1
    have S1 := S.mono p1 e1
    cases b' with
    | true =>
      refine iteT ⟨fun σ' H' => ∃ m h ρ, Rel X.K m h H' ∧ RelS W.2 X.K m H' ρ σ' ∧ PostS X.K m H' (wLoop bc s k ρ h) Dn W, fun σ' H' z => ⟨k, Nat.lt_succ_self k, z⟩, m1, h1, ρ, R1, S1, ?_⟩
      exact turn_read P1 fun m' H' σ' ρ' h' p e R' S' P' => ⟨m', h', ρ', R', S', P'⟩
    | false => exact iteF (P1 m1 H1 σ (Pre.refl _) (Ext.refl _) R1 S1)
end
end PL

set_option Elab.async false
set_option linter.all false
set_option maxRecDepth 100000
set_option maxHeartbeats 4000000
namespace PL
open PySem PySem.Spec PyProof.Rows L2

/-! ### what is walked -/
abbrev Src := HE → Option (List D)
abbrev EvI := Sl → HE → Rs Src
/-- the walk J gives what the source tells, as long as things go on as they do -/
def SrcR (K : Fg) (m : List Addr) (H : Hp) (src : Src) (J : It) : Prop := ∀ m' h' H' ds, Pre m m' → Ext H H' → Rel K m' h' H' → src h' = some ds →
  (∀ i, i < ds.length → J.go i H') ∧ (∀ i, ds.length ≤ i → J.stop i H') ∧ ∀ i d x H2, ds[i]? = some d → J.yld i H' x H2 → Ext H' H2 ∧ Rel K m' h' H2 ∧ RelD K m' H2 d x
theorem SrcR.mono {K : Fg} {m m1 : List Addr} {H H1 : Hp} {src : Src} {J : It} (r : SrcR K m H src J) (p : Pre m m1) (e : Ext H H1) : SrcR K m1 H1 src J := fun m' h' H' ds p' e' => r m' h' H' ds (p.trans p') (e.trans e')
def tIt (K : Fg) (W : Wz) (e : EvI) : TI := fun σ H R => ∃ m h ρ, Rel K m h H ∧ RelS W.2 K m H ρ σ ∧ Post K (SrcR K) m H (e ρ h) (fun J H1 => R J H1) (fun c d H' => W.1 c d σ H')
theorem pi_imp {X : Cx} {tg e : Expr} {t t' : TI} (h : PI X tg e t) (i : ∀ σ H R, t' σ H R → t σ H R) : PI X tg e t' := ⟨fun pins s σ H R I q => h.run pins s σ H R I (i _ _ _ q)⟩
theorem pi_or {X : Cx} {tg e : Expr} {t t' : TI} (h : PI X tg e t) (h' : PI X tg e t') : PI X tg e (fun σ H R => t σ H R ∨ t' σ H R) := ⟨fun pins s σ H R I q => by
  rcases q with q | q
  · exact h.run pins s σ H R I q
  · exact h'.run pins s σ H R I q⟩
def rdO (k : Nat) : Src := fun h => match h.get k with
  | some (.lst ds) => some ds
  | _ => none
def signs (z : Str) : List D := z.cps.toList.map fun c => .str ⟨#[c]⟩
def srcOf (d : D) (h : HE) : Rs Src := match d with
  | .tup ds => .ok (fun _ => some ds) h
  | .wl ds => .ok (fun _ => some ds) h
  | .obj k => (match h.get k with
    | some (.lst _) => .ok (rdO k) h
    | _ => .fail)
  | .str z => .ok (fun _ => some (signs z)) h
  | _ => .fail
section
variable {K : Fg} {m : List Addr} {h : HE} {H : Hp}
theorem walk_stop {K : Fg} {a : Addr} {xs : List V} {H : Hp} (q : SqL K H a xs) {i : Nat} (hi : xs.length ≤ i) : (Itl K a).stop i H := ⟨xs, q, hi⟩
/-- a source that stands still: tuples, locked lists -/
theorem srcR_tup {a : Addr} {vs : List V} {ds : List D} (hs : SqT K H a vs) (rs : RelDs K m H ds vs) : SrcR K m H (fun _ => some ds) (Itt K a) := fun m' h' H' ds' p e R q => by
  cases q
  have hs' := sqt_ext hs e
  have rs' := rs.mono p e
  have l := rs'.length
  refine ⟨fun i hi => ⟨vs, vs[i]'(by omega), hs', by simp [show i < vs.length by omega]⟩, fun i hi => ⟨vs, hs', by omega⟩, fun i d x H2 hd y => ?_⟩
  obtain ⟨e2, y⟩ := y
  subst e2
  obtain ⟨v, hv, rv⟩ := rs'.get hd
  have := y vs hs'
  rw [hv] at this
  cases this
  exact ⟨Ext.refl _, R, rv⟩
theorem srcR_wl {a : Addr} {vs : List V} {ds : List D} (hs : SqW K H a vs) (rs : RelDs K m H ds vs) : SrcR K m H (fun _ => some ds) (Itl K a) := fun m' h' H' ds' p e R q => by
  cases q
  have hs' := (sqw_ext hs e).sq
  have rs' := rs.mono p e
  have l := rs'.length
  refine ⟨fun i hi => ⟨vs, vs[i]'(by omega), hs', by simp [show i < vs.length by omega]⟩, fun i hi => ⟨vs, hs', by omega⟩, fun i d x H2 hd y => ?_⟩
  obtain ⟨e2, y⟩ := y
  subst e2
  obtain ⟨v, hv, rv⟩ := rs'.get hd
  have := y vs hs'
  rw [hv] at this
  cases this
  exact ⟨Ext.refl _, R, rv⟩
theorem rdO_ok {k : Nat} {a : Addr} {ds : List D} (R : Rel K m h H) (hk : m[k]? = some a) (e : rdO k h = some ds) : ∃ vs, H a = some (.lst vs) ∧ RelDs K m H ds vs := by
  unfold rdO at e
  cases q : h.get k with
  | none => simp only [q] at e; cases e
  | some o =>
    simp only [q] at e
    cases o with
    | lst ds' => cases e; exact rdL_obj R hk q
    | _ => cases e
theorem srcR_obj {k : Nat} {a : Addr} (hk : m[k]? = some a) : SrcR K m H (rdO k) (Itl K a) := fun m' h' H' ds p e R q => by
  obtain ⟨vs, hv, rs⟩ := rdO_ok R (p.get hk) q
  have hs' : SqL K H' a vs := SqL.of hv
  have l := rs.length
  refine ⟨fun i hi => ⟨vs, vs[i]'(by omega), hs', by simp [show i < vs.length by omega]⟩, fun i hi => ⟨vs, hs', by omega⟩, fun i d x H2 hd y => ?_⟩
  obtain ⟨e2, y⟩ := y
  subst e2
  obtain ⟨v, hv', rv⟩ := rs.get hd
  have := y vs hs'
  rw [hv'] at this
  cases this
  exact ⟨Ext.refl _, R, rv⟩
theorem srcR_str (z : Str) : SrcR K m H (fun _ => some (signs z)) (Its z) := fun m' h' H' ds p e R q => by
  cases q
  have l : (signs z).length = z.cps.size := by simp [signs]
  refine ⟨fun i hi => by show i < z.cps.size; omega, fun i hi => by show z.cps.size ≤ i; omega, fun i d x H2 hd y => ?_⟩
  obtain ⟨e2, c, hc, ex⟩ := y
  subst e2 ex
  have : (signs z)[i]? = some (.str ⟨#[c]⟩) := by
    unfold signs
    rw [List.getElem?_map]
    have : z.cps.toList[i]? = some c := by simpa using hc
    rw [this]
    rfl
  rw [this] at hd
  cases hd
  exact ⟨Ext.refl _, R, .str _⟩
end
def iSeq (e : Ev) : EvI := fun ρ h => (e ρ h).bind fun d h1 => srcOf d h1
section
variable {X : Cx} {W : Wz} {tg e : Expr} {es : List Expr} {ea : Ev} {el : EvL} {pos : Pos}
theorem i_seq (he : PE X e (tD X.K W ea)) : PI X tg e (tIt X.K W (iSeq ea)) := by
  refine pi_imp (pi_or (pi_list he) (pi_or (pi_tup he) (pi_str he))) fun σ H Rr q => ?_
  obtain ⟨m, h, ρ, R, S, P⟩ := q
  have P2 := post_bind (R := RelD X.K) P
  cases q : ea ρ h with
  | fail => rw [q] at P2; exact P2.elim
  | exc x h' => exact .inl ⟨m, h, ρ, R, S, by rw [q] at P2 ⊢; exact P2⟩
  | ok d h' =>
    have P3 : Post X.K (SrcR X.K) m H (srcOf d h') (fun J H1 => Rr J H1) (fun c d H' => W.1 c d σ H') := by
      have : (iSeq ea) ρ h = srcOf d h' := by unfold iSeq; rw [q]; rfl
      rw [← this]
      exact P
    cases d with
    | tup ds =>
      refine .inr (.inl ⟨m, h, ρ, R, S, ?_⟩)
      rw [q]
      intro m' H' x p e R' r
      cases r with
      | tup hs rs => exact ⟨_, rfl, ⟨_, hs⟩, P3 m' H' _ p e R' (srcR_tup hs rs)⟩
    | wl ds =>
      refine .inl ⟨m, h, ρ, R, S, ?_⟩
      rw [q]
      intro m' H' x p e R' r
      cases r with
      | wl hs rs => exact ⟨_, rfl, ⟨_, hs.sq⟩, P3 m' H' _ p e R' (srcR_wl hs rs)⟩
    | str z =>
      refine .inr (.inr ⟨m, h, ρ, R, S, ?_⟩)
      rw [q]
      intro m' H' x p e R' r
      cases r with
      | str => exact ⟨z, rfl, P3 m' H' _ p e R' (srcR_str z)⟩
    | obj k =>
      refine .inl ⟨m, h, ρ, R, S, ?_⟩
      rw [q]
      intro m' H' x p e R' r
      cases r with
      | @obj k a hk =>
        have P4 : Post X.K (SrcR X.K) m H (match h'.get k with
          | some (.lst _) => .ok (rdO k) h'
          | _ => .fail) (fun J H1 => Rr J H1) (fun c d H' => W.1 c d σ H') := P3
        cases q2 : h'.get k with
        | none => rw [q2] at P4; exact P4.elim
        | some o =>
          rw [q2] at P4
          cases o with
          | lst ds =>
            obtain ⟨vs, hv, rs⟩ := rdL_obj R' hk q2
            exact ⟨a, rfl, ⟨_, SqL.of hv⟩, P4 m' H' _ p e R' (srcR_obj hk)⟩
          | _ => exact P4.elim
    | _ => exact P3.elim
/-- range(n), range(a, b) -/
def intsD (lo : Int) (n : Nat) : List D := (List.range n).map fun (i : Nat) => .int (lo + (i : Int))
theorem srcR_rng {K : Fg} {m : List Addr} {H : Hp} (lo : Int) (n : Nat) : SrcR K m H (fun _ => some (intsD lo n)) (Itr lo n) := fun m' h' H' ds p e R q => by
  cases q
  have l : (intsD lo n).length = n := by simp [intsD]
  refine ⟨fun i hi => by show i < n; omega, fun i hi => by show n ≤ i; omega, fun i d x H2 hd y => ?_⟩
  obtain ⟨e2, ex⟩ := y
  subst e2 ex
  have hi : i < n := by
    have := (List.getElem?_eq_some_iff.mp hd).1
    omega
  have : (intsD lo n)[i]? = some (.int (lo + (i : Int))) := by simp [intsD, hi]
  rw [this] at hd
  cases hd
  exact ⟨Ext.refl _, R, .int _⟩
def iRange1 (l : EvL) : EvI := fun ρ h => (l ρ h).bind fun ds h1 => match ds with
  | [.int j] => if -(2 ^ 62) ≤ j ∧ j < 2 ^ 62 then .ok (fun _ => some (intsD 0 j.toNat)) h1 else .fail
  | _ => .fail
def iRange2 (l : EvL) : EvI := fun ρ h => (l ρ h).bind fun ds h1 => match ds with
  | [.int i, .int j] => if -(2 ^ 62) ≤ i ∧ i < 2 ^ 62 ∧ -(2 ^ 62) ≤ j ∧ j < 2 ^ 62 then .ok (fun _ => some (intsD i (j - i).toNat)) h1 else .fail
  | _ => .fail
theorem i_range1 {p : Pos} (hg : Gl X "range") (hm : X.mg "range" = none) (ha : PA X [e] (tL X.K W el)) (hs : starEach [e] X.env = [(false, eval e X.env)] := by rfl) : PI X tg (.Call (.Name "range" p) [e] [] pos) (tIt X.K W (iRange1 el)) := by
  refine pi_imp (pi_range1 hg hm ha hs) fun σ H Rr q => ?_
  obtain ⟨m, h, ρ, R, S, P⟩ := q
  refine ⟨m, h, ρ, R, S, (post_bind (R := RelDs X.K) P).imp fun xs H1 ⟨m1, h1, ds, p1, e1, R1, r1, P1⟩ => ?_⟩
  cases r1 with
  | nil => exact P1.elim
  | cons r t =>
    cases t with
    | nil =>
      cases r with
      | int j =>
        by_cases hz : -(2 ^ 62) ≤ j ∧ j < 2 ^ 62
        · simp only [if_pos hz] at P1
          exact ⟨j, rfl, hz.1, hz.2, P1 m1 H1 _ (Pre.refl _) (Ext.refl _) R1 (srcR_rng 0 j.toNat)⟩
        · simp only [if_neg hz] at P1
          exact P1.elim
      | _ => exact P1.elim
    | cons r2 t2 => cases r <;> exact P1.elim
theorem i_range2 {e2 : Expr} {p : Pos} (hg : Gl X "range") (hm : X.mg "range" = none) (ha : PA X [e, e2] (tL X.K W el)) (hs : starEach [e, e2] X.env = [(false, eval e X.env), (false, eval e2 X.env)] := by rfl) (hs2 : starEach [e2] X.env = [(false, eval e2 X.env)] := by rfl) :
    PI X tg (.Call (.Name "range" p) [e, e2] [] pos) (tIt X.K W (iRange2 el)) := by
  refine pi_imp (pi_range2 hg hm ha hs hs2) fun σ H Rr q => ?_
  obtain ⟨m, h, ρ, R, S, P⟩ := q
  refine ⟨m, h, ρ, R, S, (post_bind (R := RelDs X.K) P).imp fun xs H1 ⟨m1, h1, ds, p1, e1, R1, r1, P1⟩ => ?_⟩
  cases r1 with
  | nil => exact P1.elim
  | cons r t =>
    cases t with
    | nil => cases r <;> exact P1.elim
    | cons r2 t2 =>
      cases t2 with
      | nil =>
        cases r with
        | int i =>
          cases r2 with
          | int j =>
            by_cases hz : -(2 ^ 62) ≤ i ∧ i < 2 ^ 62 ∧ -(2 ^ 62) ≤ j ∧ j < 2 ^ 62
            · simp only [if_pos hz] at P1
              exact ⟨i, j, rfl, hz, P1 m1 H1 _ (Pre.refl _) (Ext.refl _) R1 (srcR_rng i (j - i).toNat)⟩
            · simp only [if_neg hz] at P1
              exact P1.elim
          | _ => exact P1.elim
        | _ => cases r2 <;> exact P1.elim
      | cons _ _ => cases r <;> cases r2 <;> exact P1.elim
/-- enumerate(a list) -/
def numbered : Nat → List D → List D
  | _, [] => []
  | i, d :: r => .tup [.int (i : Int), d] :: numbered (i + 1) r
theorem numbered_length : ∀ (i : Nat) (ds : List D), (numbered i ds).length = ds.length
  | _, [] => rfl
  | i, _ :: r => by simp [numbered, numbered_length (i + 1) r]
theorem numbered_get : ∀ (j i : Nat) (ds : List D), (numbered j ds)[i]? = (ds[i]?).map fun d => .tup [.int ((j + i : Nat) : Int), d]
  | _, _, [] => by simp [numbered]
  | j, 0, d :: r => by simp [numbered]
  | j, i + 1, d :: r => by
    have := numbered_get (j + 1) i r
    simp only [numbered, List.getElem?_cons_succ]
    rw [this, show j + 1 + i = j + (i + 1) by omega]
def iEnumD (l : EvL) : EvI := fun ρ h => (l ρ h).bind fun ds h1 => match ds with
  | [.wl ds] => .ok (fun _ => some (numbered 0 ds)) h1
  | [.obj k] => (match h1.get k with
    | some (.lst _) => .ok (fun h2 => (rdO k h2).map (numbered 0)) h1
    | _ => .fail)
  | _ => .fail
theorem enum_yields {K : Fg} {m : List Addr} {h : HE} {H : Hp} {a : Addr} {vs : List V} {ds : List D} (R : Rel K m h H) (hs : SqL K H a vs) (rs : RelDs K m H ds vs) :
    (∀ i, i < (numbered 0 ds).length → (Ite K a).go i H) ∧ (∀ i, (numbered 0 ds).length ≤ i → (Ite K a).stop i H) ∧ ∀ i d x H2, (numbered 0 ds)[i]? = some d → (Ite K a).yld i H x H2 → Ext H H2 ∧ Rel K m h H2 ∧ RelD K m H2 d x := by
  have l := rs.length
  rw [numbered_length]
  refine ⟨fun i hi => ⟨vs, vs[i]'(by omega), hs, by simp [show i < vs.length by omega]⟩, fun i hi => ⟨vs, hs, by omega⟩, fun i d x H2 hd y => ?_⟩
  obtain ⟨T, v, ex, hT, eH, y⟩ := y
  subst ex eH
  rw [numbered_get] at hd
  cases q : ds[i]? with
  | none => rw [q] at hd; cases hd
  | some d0 =>
    rw [q] at hd
    cases hd
    obtain ⟨w, hw, rw'⟩ := rs.get q
    have := y vs hs
    rw [hw] at this
    cases this
    refine ⟨Ext.new hT, R.beside hT, .tup (SqT.of upd_same) (.cons ?_ (.cons (rw'.mono (Pre.refl _) (Ext.new hT)) .nil))⟩
    rw [Nat.zero_add]
    exact .int _
theorem i_enum {elts : List Expr} {kk : Nat} {p tpos : Pos} (hg : Gl X "enumerate") (hm : X.mg "enumerate" = none) (ha : PA X [e] (tL X.K W el)) (hs : starEach [e] X.env = [(false, eval e X.env)] := by rfl) :
    PI X (.Tuple elts kk tpos) (.Call (.Name "enumerate" p) [e] [] pos) (tIt X.K W (iEnumD el)) := by
  refine pi_imp (pi_enum hg hm ha hs) fun σ H Rr q => ?_
  obtain ⟨m, h, ρ, R, S, P⟩ := q
  refine ⟨m, h, ρ, R, S, (post_bind (R := RelDs X.K) P).imp fun xs H1 ⟨m1, h1, ds, p1, e1, R1, r1, P1⟩ => ?_⟩
  cases r1 with
  | nil => exact P1.elim
  | cons r t =>
    cases t with
    | nil =>
      cases r with
      | @wl ds vs a hs rs =>
        refine ⟨a, vs, rfl, hs.sq, P1 m1 H1 _ (Pre.refl _) (Ext.refl _) R1 fun m' h' H' ds' p e R' q => ?_⟩
        cases q
        exact enum_yields R' (sqw_ext hs e).sq (rs.mono p e)
      | @obj k a hk =>
        cases q2 : h1.get k with
        | none => simp only [q2] at P1; exact P1.elim
        | some o =>
          simp only [q2] at P1
          cases o with
          | lst ds =>
            obtain ⟨vs, hv, rs⟩ := rdL_obj R1 hk q2
            refine ⟨a, vs, rfl, SqL.of hv, P1 m1 H1 _ (Pre.refl _) (Ext.refl _) R1 fun m' h' H' ds' p e R' q => ?_⟩
            have q : (rdO k h').map (numbered 0) = some ds' := q
            cases q3 : rdO k h' with
            | none => rw [q3] at q; cases q
            | some ds2 =>
              rw [q3] at q
              cases q
              obtain ⟨vs2, hv2, rs2⟩ := rdO_ok R' (p.get hk) q3
              exact enum_yields R' (SqL.of hv2) rs2
          | _ => exact P1.elim
      | _ => exact P1.elim
    | cons r2 t2 => cases r <;> exact P1.elim

/-! ### for -/
def forS (src : Src) (g : Gv) (s : Sv) : Nat → Nat → Sl → HE → Rt
  | 0, _, _, _ => .fail
  | n + 1, i, ρ, h => match src h with
    | none => .fail
    | some ds => (match ds[i]? with
      | none => .nx ρ h
      | some d => bindS (g d ρ h) ρ fun ρ1 h1 => onTurn (s ρ1 h1) (forS src g s n (i + 1)))
def sFor (n : Nat) (it : EvI) (g : Gv) (s : Sv) : Sv := fun ρ h => bindS (it ρ h) ρ fun src h1 => forS src g s n 0 ρ h1
/-- over a source that stands still -/
def forP (g : Gv) (s : Sv) : List D → Sl → HE → Rt
  | [], ρ, h => .nx ρ h
  | d :: r, ρ, h => bindS (g d ρ h) ρ fun ρ1 h1 => onTurn (s ρ1 h1) (forP g s r)
theorem forS_const {g : Gv} {s : Sv} {ds : List D} : ∀ (n i : Nat) (ρ : Sl) (h : HE), ds.length - i < n → forS (fun _ => some ds) g s n i ρ h = forP g s (ds.drop i) ρ h
  | 0, _, _, _, hn => absurd hn (Nat.not_lt_zero _)
  | n + 1, i, ρ, h, hn => by
    unfold forS
    simp only []
    by_cases hi : i < ds.length
    · rw [List.getElem?_eq_getElem hi, List.drop_eq_getElem_cons hi]
      simp only [forP]
      have : (forS (fun _ => some ds) g s n (i + 1)) = forP g s (ds.drop (i + 1)) := by
        funext ρ' h'
        exact forS_const n (i + 1) ρ' h' (by omega)
      rw [this]
    · rw [List.getElem?_eq_none (by omega), List.drop_eq_nil_of_le (by omega)]
      rfl
theorem s_for (n : Nat) {iter : Expr} {body : List Stmt} {it : EvI} {g : Gv} {s : Sv} (hp : PassesOwn (model X.prog X.w) X.A X.env X.xe) (hc : X.calm = true) (hi : PI X tg iter (tIt X.K W it)) (hg : PG X tg (tGt X.K W g)) (hb : PSs X body (tSv X.K W s))
    (hs : ∀ x, foldedSetIterable iter X.env x = pure x := by intro _; rfl) : PS X (.For tg iter body [] pos) (tSv X.K W (sFor n it g s)) := by
  refine ps_imp (ps_for hp hc hi hg hb hs) fun Dn σ H q => ?_
  obtain ⟨m, h, ρ, R, S, P⟩ := q
  refine ⟨m, h, ρ, R, S, (post_bindS (R := SrcR X.K) S P).imp fun J H1 ⟨m1, h1, src, p1, e1, R1, r1, P1⟩ => ?_⟩
  refine ⟨fun i k σ H => ∃ m h ρ, Rel X.K m h H ∧ RelS W.2 X.K m H ρ σ ∧ SrcR X.K m H src J ∧ PostS X.K m H (forS src g s k i ρ h) Dn W, ⟨n, m1, h1, ρ, R1, S.mono p1 e1, r1, P1⟩, ?_⟩
  rintro i k σ H ⟨m, h, ρ, R, S, r, P⟩
  cases k with
  | zero => exact P.elim
  | succ k =>
    unfold forS at P
    cases q : src h with
    | none => simp only [q] at P; exact P.elim
    | some ds =>
      simp only [q] at P
      obtain ⟨go, stop, yld⟩ := r m h H ds (Pre.refl _) (Ext.refl _) R q
      cases q2 : ds[i]? with
      | none =>
        simp only [q2] at P
        exact .inl ⟨stop i (List.getElem?_eq_none_iff.mp q2), P m H σ (Pre.refl _) (Ext.refl _) R S⟩
      | some d =>
        simp only [q2] at P
        refine .inr ⟨go i (List.getElem?_eq_some_iff.mp q2).1, fun σ' H' => ∃ m h ρ, Rel X.K m h H' ∧ RelS W.2 X.K m H' ρ σ' ∧ SrcR X.K m H' src J ∧ PostS X.K m H' (forS src g s k (i + 1) ρ h) Dn W, fun σ' H' z => ⟨k, Nat.lt_succ_self k, z⟩, fun x H' y => ?_⟩
        obtain ⟨ex, R', rd⟩ := yld i d x H' q2 y
        have S' := S.mono (Pre.refl _) ex
        refine ⟨m, h, ρ, d, R', S', rd, (post_bindS (R := RelS W.2 X.K) S' (P.mono (Pre.refl _) ex)).imp fun σ2 H2 ⟨m2, h2, ρ2, p2, e2, R2, S2, P2⟩ => ?_⟩
        refine ⟨m2, h2, ρ2, R2, S2, turn_read P2 fun m' H'' σ' ρ' h' p e R'' S'' P'' => ⟨m', h', ρ', R'', S'', ((r.mono (Pre.refl _) ex).mono p2 e2).mono p e, P''⟩⟩
end
end PL

set_option Elab.async false
set_option linter.all false
set_option maxRecDepth 100000
set_option maxHeartbeats 4000000
namespace PL
open PySem PySem.Spec PyProof.Rows L2

/-! ### a def's promise, where no repr is under way -/
structure FnG (P : Program) (w : World) (K : Fg) (mg : Str → Option Value) (base : Heap) (k : Nat) (f : Addr) (fd : FuncData) (ps : List Str) (sp : Sp) : Prop where
  len : ∀ vs H Q E, sp vs H Q E → vs.length = ps.length
  run : ∀ (A : Around) (outer : List Env) (s : Shared) (H : Hp) (args : Args) (us : List Value) (vs : List V) (Q : VK) (E : XK), A.guards = some [] → Room k A → Env0 P w K mg base A outer s H → BindsTo s fd args (ps.zip us) → Vals vs us → sp vs H Q E →
    codeAny (model P w) A (.call (.ref f) args) (CR (L2.CX P w) outer P w H s Q E) s
theorem FnG.mono {P : Program} {w : World} {K : Fg} {mg : Str → Option Value} {base : Heap} {j k : Nat} {f : Addr} {fd : FuncData} {ps : List Str} {sp : Sp} (F : FnG P w K mg base j f fd ps sp) (h : j ≤ k) : FnG P w K mg base k f fd ps sp :=
  ⟨F.len, fun A outer s H args us vs Q E hg hr => F.run A outer s H args us vs Q E hg (hr.mono h)⟩
section
variable {P : Program} {w : World} {K : Fg} {mg : Str → Option Value} {base : Heap} {x qual : Str} {params : Arguments} {body : List Stmt} {scope : Scope} {dvs : List V} {kws : List (Str × V)} {f : Addr} {fd : FuncData}
/-- a def by its body (as the layer's own rule, with the guards told) -/
theorem fnG_of {N ps : List Str} {k : Nat} {sp : Sp} (F : FunD K x qual params body scope dvs kws f fd) (S : FnScope N ps scope) (len : ∀ vs H Q E, sp vs H Q E → vs.length = ps.length)
    (hbody : ∀ (cdv : Value) (A : Around) (outer : List Env) (s : Shared) (H : Hp) (vs : List V) (Q : VK) (E : XK), A.guards = some [] → Room k (A.deeper (envOfC qual scope s.heap.objs.size f cdv)) → sp vs H Q E →
      ∃ t, PSs (cxOf (L2.CX P w) P w K mg base N qual scope f cdv A outer s H E) body t ∧ t { nx := fun _ H' => Q .non H', rt := Q } (L2.start N vs) H) : FnG P w K mg base (k + 1) f fd ps sp := by
  obtain ⟨oc, od, dV, kV, doc, pm, an, cdv, ct, osl, rfl, lk, hcd, _, _⟩ := F.ex
  refine ⟨len, fun A outer s H args us vs Q E hg hr e0 hb r hsp => ?_⟩
  have hl := len _ _ _ _ hsp
  have KX : K.In s.heap := e0.mod.kin.keeps fun b o e => (e0.bs b o e).1
  have lim : s.heap.NoLimit := e0.mod.nolimit.keeps fun b o e => (e0.bs b o e).1
  have hkind : ∀ y ∈ ps.zip us, scope.names.lookup y.1 = some .local ∨ (scope.names.lookup y.1 = some .cell ∧ ((cellsFrom (s.heap.objs.size + 1) scope.names []).lookup y.1).isSome = true) := fun ⟨n, v⟩ hy => by
    rcases S.par n (List.of_mem_zip hy).1 with q | q
    · exact .inl q
    · exact .inr ⟨q, PySem.W.cellsFrom_some _ _ _ (.inl q)⟩
  refine codeAny_call_function hr.depth (KX _ _ lk) rfl S.co S.gen rfl (PySem.W.codeRec_of KX hcd) (hb _ _ _ _ ?_)
  refine wpAny_newFunctionEnv_cells S.kind hkind fun env he s1 x => ?_
  subst he
  refine ⟨lim.keeps x.toInCall.keep, codeAny_func ?_⟩
  obtain ⟨t, ht, hq⟩ := hbody cdv A outer s H vs Q E hg (hr.deeper _) hsp
  have I : Inv (cxOf (L2.CX P w) P w K mg base N qual scope f cdv A outer s H E) [] (L2.start N vs) H s1 := inv_start S hr.hd e0 hl r x
  refine wpAny_mono (ht.run [] s1 (L2.start N vs) H _ I hq) (fun fl s' hs => ?_) fun e s' hs => hs
  have fin : ∀ {σ' : L2.St} {H' : Hp} {v : V} {u : Value}, Inv (cxOf (L2.CX P w) P w K mg base N qual scope f cdv A outer s H E) [] σ' H' s' → L2.RelV v u → Q v H' → CE outer P w H s Q u s' :=
    fun {σ' H' v u} J rv q => ⟨v, H', J.os, J.bare, J.base, J.hok, rv, q⟩
  cases fl with
  | ret u =>
    obtain ⟨v, σ', H', J, rv, q⟩ := hs
    exact fin J rv q
  | next =>
    obtain ⟨σ', H', J, q⟩ := hs
    exact fin (v := V.non) (u := Value.none) J rfl q
  | brk =>
    obtain ⟨_, _, _, q⟩ := hs
    exact False.elim q
  | cont =>
    obtain ⟨_, _, _, q⟩ := hs
    exact False.elim q
end

/-! ### the interpreter's defs -/
abbrev Fn := List D → HE → Rs D
def spD (K : Fg) (n : Nat) (g : Fn) : Sp := fun vs H Q E => vs.length = n ∧ ∃ m h ds, Rel K m h H ∧ RelDs K m H ds vs ∧ Post K (RelD K) m H (g ds h) Q E
def runB (n : Nat) (s : Sv) : Fn := fun ds h => match s (ds.map So.va ++ List.replicate (n - ds.length) So.no) h with
  | .rt d h => .ok d h
  | .nx _ h => .ok .non h
  | .exc x _ h => .exc x h
  | _ => .fail
theorem relS_some {κ : Kp} {K : Fg} {m : List Addr} {H : Hp} : ∀ {ds : List D} {vs : List V} (k : Nat), RelDs K m H ds vs → RelS κ K m H (ds.map So.va ++ List.replicate k So.no) (vs.map some ++ List.replicate k none)
  | _, _, 0, .nil => .nil
  | _, _, k + 1, .nil => by
    have := relS_some (κ := κ) (K := K) (m := m) (H := H) k .nil
    rw [List.replicate_succ, List.replicate_succ]
    exact .cons (.none _) this
  | _, _, k, .cons r t => .cons (.some r) (relS_some k t)
/-- the context facts of a def's body -/
structure Cc (X : Cx) (k : Nat) : Prop where
  room : Room k X.A
  grd : X.A.guards = some []
section
variable {P : Program} {w : World} {K : Fg} {mg : Str → Option Value} {base : Heap} {x qual : Str} {params : Arguments} {body : List Stmt} {scope : Scope} {dvs : List V} {kws : List (Str × V)} {f : Addr} {fd : FuncData}
/-- a def by its body's rules: X is the layer's own context of a body -/
theorem def_ok {N ps : List Str} {k : Nat} {s : Sv} (F : FunD K x qual params body scope dvs kws f fd) (S : FnScope N ps scope)
    (hb : ∀ (cdv : Value) (A : Around) (outer : List Env) (sh : Shared) (H : Hp) (E : XK), Cc (cxOf (L2.CX P w) P w K mg base N qual scope f cdv A outer sh H E) k → Takes (cxOf (L2.CX P w) P w K mg base N qual scope f cdv A outer sh H E) (fun cls d _ H => E cls d H) →
      PassesOwn (model P w) (A.deeper (envOfC qual scope sh.heap.objs.size f cdv)) (envOfC qual scope sh.heap.objs.size f cdv) (cxOf (L2.CX P w) P w K mg base N qual scope f cdv A outer sh H E).xe →
      PSs (cxOf (L2.CX P w) P w K mg base N qual scope f cdv A outer sh H E) body (tSv K (fun cls d _ H => E cls d H, none) s)) :
    FnG P w K mg base (k + 1) f fd ps (spD K ps.length (runB N.length s)) := by
  refine fnG_of F S (fun vs H Q E h => h.1) fun cdv A outer sh H vs Q E hg hr h => ?_
  obtain ⟨hl, m, h, ds, R, r, Po⟩ := h
  refine ⟨_, hb cdv A outer sh H E ⟨hr, hg⟩ (takes_of rfl rfl rfl rfl) (passes_of rfl), ?_⟩
  refine ⟨m, h, ds.map So.va ++ List.replicate (N.length - ds.length) So.no, R, ?_, ?_⟩
  · unfold L2.start
    rw [r.length]
    exact relS_some _ r
  · unfold runB at Po
    cases q : s (ds.map So.va ++ List.replicate (N.length - ds.length) So.no) h with
    | nx ρ' h' =>
      rw [q] at Po
      exact fun m' H' σ' p e R' S' => Po m' H' .non p e R' .non
    | rt d h' => rw [q] at Po; exact Po
    | bk ρ' h' => rw [q] at Po; exact Po.elim
    | ct ρ' h' => rw [q] at Po; exact Po.elim
    | exc x ρ' h' =>
      rw [q] at Po
      exact fun m' H' σ' cls d p e R' S' X' => Po m' H' cls d p e R' X'
    | fail => rw [q] at Po; exact Po.elim
end

/-! ### calls -/
section
variable {X : Cx} {W : Wz} {k n : Nat} {f : Addr} {fd : FuncData} {ps : List Str} {sp : Sp} {g : Fn} {x : Str} {p pos apos : Pos} {e o : Expr} {es : List Expr} {el : EvL} {ds : List Value} {dvs : List V} {dd : List D}
theorem run_g {pins : List (Addr × Obj)} {σ : L2.St} {H : Hp} {s : Shared} {Q : VK} {us : List Value} {vs : List V} (F : FnG X.prog X.w X.K X.mg X.base k f fd ps sp) (c : Cc X k) (hb : Binds X.K fd ps ds) (hd : Vals dvs ds) (tk : Takes X W.1)
    (I : Inv X pins σ H s) (r : Vals vs us) (h : sp (vs ++ dvs) H Q (fun cls d H' => W.1 cls d σ H')) : wpAny (model X.prog X.w) X.A (call (.ref f) us) (EP X pins σ Q) X.xe s := by
  have r2 : Vals (vs ++ dvs) (us ++ ds) := r.append hd
  have hl : (us ++ ds).length = ps.length := by rw [← r2.length]; exact F.len _ _ _ _ h
  refine wpAny_call (codeAny_mono (F.run X.A X.stack s H ⟨us, []⟩ (us ++ ds) (vs ++ dvs) Q _ c.grd c.room I.env0 (hb s us I.kIn hl) r2 h) fun r s' hq => ?_)
  cases r with
  | error e => exact tk e s' (XE.of_call I (fun _ _ _ z => z) hq)
  | ok fl =>
    cases fl with
    | ret u => exact I.after hq
    | next => exact False.elim hq
    | brk => exact False.elim hq
    | cont => exact False.elim hq
/-- f(..): the arguments, then defaults -/
def eCall (n : Nat) (g : Fn) (dd : List D) (l : EvL) : Ev := fun ρ h => (l ρ h).bind fun ds h1 => if (ds ++ dd).length = n then g (ds ++ dd) h1 else .fail
theorem call_sp {K : Fg} {m : List Addr} {h : HE} {H : Hp} {ds : List D} {vs : List V} {Q : VK} {E : XK} (R : Rel K m h H) (r : RelDs K m H ds vs) (hdd : ∀ m H, RelDs K m H dd dvs) (P : Post K (RelD K) m H (if (ds ++ dd).length = n then g (ds ++ dd) h else .fail) Q E) : spD K n g (vs ++ dvs) H Q E := by
  have r' := r.append (hdd m H)
  by_cases hz : (ds ++ dd).length = n
  · rw [if_pos hz] at P
    exact ⟨by rw [← r'.length]; exact hz, m, h, _, R, r', P⟩
  · rw [if_neg hz] at P
    exact P.elim
theorem d_call (F : FnG X.prog X.w X.K X.mg X.base k f fd ps (spD X.K n g)) (c : Cc X k) (tk : Takes X W.1) (hg : Gl X x) (hm : X.mg x = some (.ref f)) (hk : PySem.W.keepIn X.K (.ref f) = true) (hb : Binds X.K fd ps ds) (hd : Vals dvs ds) (hdd : ∀ m H, RelDs X.K m H dd dvs)
    (ha : PA X (e :: es) (tL X.K W el)) (hdb : (x == ("__debug__" : Str)) = false := by decide) (he : starEach (e :: es) X.env = (false, eval e X.env) :: starEach es X.env := by rfl) (hpl : (backTo pos (starEach es X.env)).any (·.1) = false := by rfl) :
    PE X (.Call (.Name x p) (e :: es) [] pos) (tD X.K W (eCall n g dd el)) := by
  refine ⟨fun pins s σ H Q I q => ?_⟩
  obtain ⟨m, h, ρ, R, S, P⟩ := q
  refine wpAny_Call_Name_kw (ld_glob I hg hm ?_ hdb)
  refine PySem.W.callWith_K (h₀ := X.base) I.ok.mod.kin hk (thn (ha.run pos pins s σ H _ I ⟨m, h, ρ, R, S, post_bind P⟩) fun us s1 ⟨vs, H1, I1, r, m1, h1, ds, p1, e1, R1, r1, P1⟩ => ⟨I1.kIn, ?_⟩) he hpl
  exact run_g F c hb hd tk I1 r (call_sp R1 r1 hdd P1)
theorem d_call0 (F : FnG X.prog X.w X.K X.mg X.base k f fd ps (spD X.K n g)) (c : Cc X k) (tk : Takes X W.1) (hg : Gl X x) (hm : X.mg x = some (.ref f)) (hk : PySem.W.keepIn X.K (.ref f) = true) (hb : Binds X.K fd ps ds) (hd : Vals dvs ds) (hdd : ∀ m H, RelDs X.K m H dd dvs)
    (hdb : (x == ("__debug__" : Str)) = false := by decide) : PE X (.Call (.Name x p) [] [] pos) (tD X.K W (eCall n g dd lNil)) := by
  refine ⟨fun pins s σ H Q I q => ?_⟩
  obtain ⟨m, h, ρ, R, S, P⟩ := q
  refine wpAny_Call_Name_kw (ld_glob I hg hm ?_ hdb)
  exact PySem.W.callWith_K0 I.kIn hk (run_g (us := []) F c hb hd tk I .nil (call_sp R .nil hdd P))
end
end PL

set_option Elab.async false
set_option linter.all false
set_option maxRecDepth 100000
set_option maxHeartbeats 4000000
namespace PL
open PySem PySem.Spec PyProof.Rows L2

/-! ### built-in functions and types, by values -/
def rOf (K : Fg) (g : Fn) : List V → Hp → VK → Prop := fun xs H Q => ∃ m h ds, Rel K m h H ∧ RelDs K m H ds xs ∧ Post K (RelD K) m H (noX (g ds h)) Q (fun _ _ _ => False)
def eCb (g : Fn) (l : EvL) : Ev := fun ρ h => (l ρ h).bind fun ds h1 => noX (g ds h1)
theorem noX_post {K : Fg} {α β : Type} {R : List Addr → Hp → α → β → Prop} {m : List Addr} {H : Hp} {r : Rs α} {Q : β → Hp → Prop} {E E' : XK} (P : Post K R m H (noX r) Q E) : Post K R m H (noX r) Q E' := by
  cases r with
  | ok a h => exact P
  | exc x h => exact P
  | fail => exact P
theorem noX_ok {K : Fg} {α β : Type} {R : List Addr → Hp → α → β → Prop} {m : List Addr} {H : Hp} {r : Rs α} {Q : β → Hp → Prop} {E : XK} (P : Post K R m H (noX r) Q E) : Post K R m H r Q (fun _ _ _ => False) := by
  cases r with
  | ok a h => exact P
  | exc x h => exact P.elim
  | fail => exact P
section
variable {X : Cx} {W : Wz} {x : Str} {p pos : Pos} {e : Expr} {es : List Expr} {el : EvL} {idn T : String} {g : Fn}
theorem cb_read {σ : L2.St} {H : Hp} {Q : VK} (q : tD X.K W (eCb g el) σ H Q) : tCB (rOf X.K g) (tL X.K W el) σ H Q := by
  obtain ⟨m, h, ρ, R, S, P⟩ := q
  refine ⟨m, h, ρ, R, S, (post_bind (R := RelDs X.K) P).imp fun xs H1 ⟨m1, h1, ds, p1, e1, R1, r1, P1⟩ => ?_⟩
  exact ⟨m1, h1, ds, R1, r1, noX_post P1⟩
theorem d_callB (hc : CallR X (.builtin idn) (rOf X.K g)) (hg : Gl X x) (hm : X.mg x = none) (hv : bootBuiltins x = some (.builtin idn)) (ha : PA X (e :: es) (tL X.K W el)) (hn : x ≠ "__name__" := by decide) (hdb : (x == ("__debug__" : Str)) = false := by decide)
    (he : starEach (e :: es) X.env = (false, eval e X.env) :: starEach es X.env := by rfl) (hpl : (backTo pos (starEach es X.env)).any (·.1) = false := by rfl) : PE X (.Call (.Name x p) (e :: es) [] pos) (tD X.K W (eCb g el)) :=
  pe_imp (pe_callB hc hg hm hv ha hn hdb he hpl) fun σ H Q q => cb_read q
theorem d_callTy (hc : CallR X (.type T) (rOf X.K g)) (hg : Gl X x) (hm : X.mg x = none) (hv : bootBuiltins x = some (.type T)) (ha : PA X (e :: es) (tL X.K W el)) (hn : x ≠ "__name__" := by decide) (hdb : (x == ("__debug__" : Str)) = false := by decide)
    (he : starEach (e :: es) X.env = (false, eval e X.env) :: starEach es X.env := by rfl) (hpl : (backTo pos (starEach es X.env)).any (·.1) = false := by rfl) : PE X (.Call (.Name x p) (e :: es) [] pos) (tD X.K W (eCb g el)) :=
  pe_imp (pe_callTy hc hg hm hv ha hn hdb he hpl) fun σ H Q q => cb_read q

/-- one argument, two arguments -/
def fn1 (f : D → HE → Rs D) : Fn := fun ds h => match ds with
  | [d] => f d h
  | _ => .fail
def fn2 (f : D → D → HE → Rs D) : Fn := fun ds h => match ds with
  | [d, e] => f d e h
  | _ => .fail
theorem fn1_ok {K : Fg} {m : List Addr} {H : Hp} {h : HE} {ds : List D} {xs : List V} {f : D → HE → Rs D} {Q : VK} {E : XK} (r : RelDs K m H ds xs) (P : Post K (RelD K) m H (noX (fn1 f ds h)) Q E) : ∃ d x, xs = [x] ∧ RelD K m H d x ∧ Post K (RelD K) m H (f d h) Q (fun _ _ _ => False) := by
  have P := noX_ok P
  cases r with
  | nil => exact P.elim
  | cons r t =>
    cases t with
    | nil => exact ⟨_, _, rfl, r, P⟩
    | cons _ _ => exact P.elim
theorem fn2_ok {K : Fg} {m : List Addr} {H : Hp} {h : HE} {ds : List D} {xs : List V} {f : D → D → HE → Rs D} {Q : VK} {E : XK} (r : RelDs K m H ds xs) (P : Post K (RelD K) m H (noX (fn2 f ds h)) Q E) : ∃ d e x y, xs = [x, y] ∧ RelD K m H d x ∧ RelD K m H e y ∧ Post K (RelD K) m H (f d e h) Q (fun _ _ _ => False) := by
  have P := noX_ok P
  cases r with
  | nil => exact P.elim
  | cons r t =>
    cases t with
    | nil => exact P.elim
    | cons r2 t2 =>
      cases t2 with
      | nil => exact ⟨_, _, _, _, rfl, r, r2, P⟩
      | cons _ _ => exact P.elim
/-- len -/
def len1 : D → HE → Rs D := fun d h => match d with
    | .tup l => .ok (.int l.length) h
    | .str z => if z.length ≤ sizeLine then .ok (.int z.length) h else .fail
    | d => (match rdL h d with
      | some l => .ok (.int l.length) h
      | none => .fail)
def bLen : Fn := fn1 len1
theorem c_len : CallR X (.builtin "len") (rOf X.K bLen) := by
  intro pins s σ H xs us Q I rv q
  obtain ⟨m, h, ds, R, r, P⟩ := q
  obtain ⟨d, x, rfl, r, P⟩ := fn1_ok r P
  refine call_len pins s σ H _ us Q I rv ?_
  cases r with
  | @tup l vs a hs rs => exact ⟨_, l.length, rfl, .inr ⟨vs, hs, rs.length⟩, P.here R (.int _)⟩
  | str z =>
    by_cases hz : z.length ≤ sizeLine
    · simp only [len1, if_pos hz] at P
      exact ⟨_, z.length, rfl, ⟨hz, rfl⟩, P.here R (.int _)⟩
    · simp only [len1, if_neg hz] at P
      exact P.elim
  | @wl l vs a hs rs => exact ⟨_, l.length, rfl, .inl ⟨vs, hs.sq, rs.length⟩, P.here R (.int _)⟩
  | @obj i a hi =>
    cases q : rdL h (.obj i) with
    | none => simp only [len1, q] at P; exact P.elim
    | some l =>
      simp only [len1, q] at P
      obtain ⟨b, vs, ex, hs, rs⟩ := rdL_ok R (.obj hi) q
      cases ex
      exact ⟨_, l.length, rfl, .inl ⟨vs, hs, rs.length⟩, P.here R (.int _)⟩
  | _ => exact P.elim
/-- max, min of two ints -/
def int2 (f : Int → Int → Int) : D → D → HE → Rs D := fun d e h => match d, e with
  | .int i, .int j => .ok (.int (f i j)) h
  | _, _ => .fail
def bMax : Fn := fn2 (int2 fun i j => if j > i then j else i)
def bMin : Fn := fn2 (int2 fun i j => if j < i then j else i)
theorem int2_ok {K : Fg} {m : List Addr} {H : Hp} {h : HE} {d e : D} {x y : V} {f : Int → Int → Int} {Q : VK} {E : XK} (R : Rel K m h H) (r1 : RelD K m H d x) (r2 : RelD K m H e y) (P : Post K (RelD K) m H (int2 f d e h) Q E) : ∃ i j, x = .int i ∧ y = .int j ∧ Q (.int (f i j)) H := by
  cases r1 with
  | int i =>
    cases r2 with
    | int j => exact ⟨i, j, rfl, rfl, P.here R (.int _)⟩
    | _ => exact P.elim
  | _ => cases r2 <;> exact P.elim
theorem c_max (hc : X.calm = true) : CallR X (.builtin "max") (rOf X.K bMax) := by
  intro pins s σ H xs us Q I rv q
  obtain ⟨m, h, ds, R, r, P⟩ := q
  obtain ⟨d, e, x, y, rfl, r1, r2, P⟩ := fn2_ok r P
  obtain ⟨i, j, rfl, rfl, q⟩ := int2_ok R r1 r2 P
  exact call_max2 hc pins s σ H _ us Q I rv ⟨i, j, rfl, q⟩
theorem c_min (hc : X.calm = true) : CallR X (.builtin "min") (rOf X.K bMin) := by
  intro pins s σ H xs us Q I rv q
  obtain ⟨m, h, ds, R, r, P⟩ := q
  obtain ⟨d, e, x, y, rfl, r1, r2, P⟩ := fn2_ok r P
  obtain ⟨i, j, rfl, rfl, q⟩ := int2_ok R r1 r2 P
  exact call_min2 hc pins s σ H _ us Q I rv ⟨i, j, rfl, q⟩
/-- int(n), int(flag) -/
def bInt : Fn := fn1 fun d h => match d with
    | .int i => .ok (.int i) h
    | .bl k => .ok (.int (if k then 1 else 0)) h
    | _ => .fail
theorem c_int : CallR X (.type "int") (rOf X.K bInt) := by
  intro pins s σ H xs us Q I rv q
  obtain ⟨m, h, ds, R, r, P⟩ := q
  obtain ⟨d, x, rfl, r, P⟩ := fn1_ok r P
  cases r with
  | int i => exact call_int1 pins s σ H _ us Q I rv (.inl ⟨i, rfl, P.here R (.int _)⟩)
  | bl k => exact call_int1 pins s σ H _ us Q I rv (.inr ⟨k, rfl, P.here R (.int _)⟩)
  | _ => exact P.elim
/-- str(n) -/
def bStr : Fn := fn1 fun d h => match d with
    | .int i => if i.natAbs.log2 < 1920 then .ok (.str (toString i)) h else .fail
    | _ => .fail
theorem c_str : CallR X (.type "str") (rOf X.K bStr) := by
  intro pins s σ H xs us Q I rv q
  obtain ⟨m, h, ds, R, r, P⟩ := q
  obtain ⟨d, x, rfl, r, P⟩ := fn1_ok r P
  cases r with
  | int i =>
    by_cases hz : i.natAbs.log2 < 1920
    · simp only [if_pos hz] at P
      exact call_str_int pins s σ H _ us Q I rv ⟨i, rfl, hz, P.here R (.str _)⟩
    · simp only [if_neg hz] at P
      exact P.elim
  | _ => exact P.elim
/-- list(x), tuple(x) -/
def list1 : D → HE → Rs D := fun d h => match d with
    | .tup l => .ok (.obj h.n) (h.new (.lst l))
    | d => (match rdL h d with
      | some l => .ok (.obj h.n) (h.new (.lst l))
      | none => .fail)
def bList : Fn := fn1 list1
def tuple1 : D → HE → Rs D := fun d h => match d with
    | .tup l => .ok (.tup l) h
    | d => (match rdL h d with
      | some l => .ok (.tup l) h
      | none => .fail)
def bTuple : Fn := fn1 tuple1
theorem c_list : CallR X (.type "list") (rOf X.K bList) := by
  intro pins s σ H xs us Q I rv q
  obtain ⟨m, h, ds, R, r, P⟩ := q
  obtain ⟨d, x, rfl, r, P⟩ := fn1_ok r P
  refine call_list_of pins s σ H _ us Q I rv ?_
  have fromL : ∀ {l : List D}, rdL h d = some l → Post X.K (RelD X.K) m H (.ok (.obj h.n) (h.new (.lst l))) Q (fun _ _ _ => False) → ∃ p ys, [x] = [V.ref p] ∧ (SqL X.K H p ys ∨ SqT X.K H p ys) ∧ ∀ l, H l = none → Q (.ref l) (upd H l (.lst ys)) := fun {l} q P => by
    obtain ⟨a, vs, ex, hs, rs⟩ := rdL_ok R r q
    exact ⟨a, vs, by rw [ex], .inl hs, post_newL R rs P⟩
  cases r with
  | @tup l vs a hs rs => exact ⟨a, vs, rfl, .inr hs, post_newL R rs P⟩
  | wl hs rs => exact fromL rfl P
  | @obj i a hi =>
    cases q : rdL h (.obj i) with
    | none => simp only [list1, q] at P; exact P.elim
    | some l =>
      simp only [list1, q] at P
      exact fromL q P
  | _ => exact P.elim
theorem c_tuple : CallR X (.type "tuple") (rOf X.K bTuple) := by
  intro pins s σ H xs us Q I rv q
  obtain ⟨m, h, ds, R, r, P⟩ := q
  obtain ⟨d, x, rfl, r, P⟩ := fn1_ok r P
  refine call_tuple_of pins s σ H _ us Q I rv ?_
  have fromL : ∀ {l : List D}, rdL h d = some l → Post X.K (RelD X.K) m H (.ok (.tup l) h) Q (fun _ _ _ => False) → ∃ p ys, [x] = [V.ref p] ∧ ((SqL X.K H p ys ∧ ∀ l, H l = none → Q (.ref l) (upd H l (.tup ys))) ∨ (SqT X.K H p ys ∧ Q (.ref p) H)) := fun {l} q P => by
    obtain ⟨a, vs, ex, hs, rs⟩ := rdL_ok R r q
    exact ⟨a, vs, by rw [ex], .inl ⟨hs, post_newT R rs P⟩⟩
  cases r with
  | @tup l vs a hs rs => exact ⟨a, vs, rfl, .inr ⟨hs, P.here R (.tup hs rs)⟩⟩
  | wl hs rs => exact fromL rfl P
  | @obj i a hi =>
    cases q : rdL h (.obj i) with
    | none => simp only [tuple1, q] at P; exact P.elim
    | some l =>
      simp only [tuple1, q] at P
      exact fromL q P
  | _ => exact P.elim
/-- all, any of a list of truths -/
def bools : List D → Option (List Bool)
  | [] => some []
  | .bl b :: r => (bools r).map (b :: ·)
  | _ :: _ => none
theorem bools_ok {K : Fg} {m : List Addr} {H : Hp} : ∀ {l : List D} {vs : List V} {bs : List Bool}, RelDs K m H l vs → bools l = some bs → vs = bs.map V.bl
  | _, _, _, .nil, e => by cases e; rfl
  | _, _, bs, .cons (d := d) (ds := ds) r t, e => by
    cases r with
    | bl b =>
      obtain ⟨bs', q, rfl⟩ := map_some (show (bools ds).map (b :: ·) = some bs from e)
      rw [bools_ok t q]
      rfl
    | _ => cases e
def bools1 (f : List Bool → Bool) : D → HE → Rs D := fun d h => match rdL h d with
    | some l => (match bools l with
      | some bs => .ok (.bl (f bs)) h
      | none => .fail)
    | none => .fail
def bAll : Fn := fn1 (bools1 fun bs => bs.all (fun b => b))
def bAny : Fn := fn1 (bools1 fun bs => bs.any (fun b => b))
theorem bools1_ok {K : Fg} {m : List Addr} {H : Hp} {h : HE} {d : D} {x : V} {f : List Bool → Bool} {Q : VK} {E : XK} (R : Rel K m h H) (r : RelD K m H d x) (P : Post K (RelD K) m H (bools1 f d h) Q E) : ∃ a bs, x = .ref a ∧ SqL K H a (bs.map V.bl) ∧ Q (.bl (f bs)) H := by
  unfold bools1 at P
  cases q : rdL h d with
  | none => simp only [q] at P; exact P.elim
  | some l =>
    simp only [q] at P
    cases q2 : bools l with
    | none => simp only [q2] at P; exact P.elim
    | some bs =>
      simp only [q2] at P
      obtain ⟨a, vs, ex, hs, rs⟩ := rdL_ok R r q
      rw [bools_ok rs q2] at hs
      exact ⟨a, bs, ex, hs, P.here R (.bl _)⟩
theorem c_all (hc : X.calm = true) : CallR X (.builtin "all") (rOf X.K bAll) := by
  intro pins s σ H xs us Q I rv q
  obtain ⟨m, h, ds, R, r, P⟩ := q
  obtain ⟨d, x, rfl, r, P⟩ := fn1_ok r P
  obtain ⟨a, bs, rfl, hs, q⟩ := bools1_ok R r P
  exact cr_all hc pins s σ H _ us Q I rv ⟨a, bs, rfl, hs, q⟩
theorem c_any (hc : X.calm = true) : CallR X (.builtin "any") (rOf X.K bAny) := by
  intro pins s σ H xs us Q I rv q
  obtain ⟨m, h, ds, R, r, P⟩ := q
  obtain ⟨d, x, rfl, r, P⟩ := fn1_ok r P
  obtain ⟨a, bs, rfl, hs, q⟩ := bools1_ok R r P
  exact cr_any hc pins s σ H _ us Q I rv ⟨a, bs, rfl, hs, q⟩
end
end PL

set_option Elab.async false
set_option linter.all false
set_option maxRecDepth 100000
set_option maxHeartbeats 4000000
namespace PL
open PySem PySem.Spec PyProof.Rows L2

/-! ### one of two ways, by what the values are -/
def eAlt (a b : Ev) : Ev := fun ρ h => match a ρ h with
  | .fail => b ρ h
  | r => r
section
variable {X : Cx} {W : Wz} {e o : Expr} {es : List Expr} {ea eb eo : Ev} {el : EvL} {pos apos cpos pos' : Pos} {f : Str}
theorem d_alt (h1 : PE X e (tD X.K W ea)) (h2 : PE X e (tD X.K W eb)) : PE X e (tD X.K W (eAlt ea eb)) := ⟨fun pins s σ H Q I q => by
  obtain ⟨m, h, ρ, R, S, P⟩ := q
  unfold eAlt at P
  cases q : ea ρ h with
  | fail => rw [q] at P; exact h2.run pins s σ H Q I ⟨m, h, ρ, R, S, P⟩
  | ok d h' => exact h1.run pins s σ H Q I ⟨m, h, ρ, R, S, by rw [q] at P ⊢; exact P⟩
  | exc x h' => exact h1.run pins s σ H Q I ⟨m, h, ρ, R, S, by rw [q] at P ⊢; exact P⟩⟩
def bAlt (a b : EvB) : EvB := fun ρ h => match a ρ h with
  | .fail => b ρ h
  | r => r
theorem b_alt {ba bb : EvB} (h1 : PT X e (tB' X.K W ba)) (h2 : PT X e (tB' X.K W bb)) : PT X e (tB' X.K W (bAlt ba bb)) := ⟨fun pins s σ H Q I q => by
  obtain ⟨m, h, ρ, R, S, P⟩ := q
  unfold bAlt at P
  cases q : ba ρ h with
  | fail => rw [q] at P; exact h2.run pins s σ H Q I ⟨m, h, ρ, R, S, P⟩
  | ok d h' => exact h1.run pins s σ H Q I ⟨m, h, ρ, R, S, by rw [q] at P ⊢; exact P⟩
  | exc x h' => exact h1.run pins s σ H Q I ⟨m, h, ρ, R, S, by rw [q] at P ⊢; exact P⟩⟩

/-! ### methods of lists -/
abbrev Mn := D → List D → HE → Rs D
def mOf (K : Fg) (g : Mn) : V → List V → Hp → VK → Prop := fun x xs H Q => ∃ m h o ds, Rel K m h H ∧ RelD K m H o x ∧ RelDs K m H ds xs ∧ Post K (RelD K) m H (noX (g o ds h)) Q (fun _ _ _ => False)
def eMl (g : Mn) (eo : Ev) (l : EvL) : Ev := fun ρ h => (eo ρ h).bind fun o h1 => match rdL h1 o with
  | some _ => (l ρ h1).bind fun ds h2 => noX (g o ds h2)
  | none => .fail
theorem d_ml {name : Str} {idn : String} {g : Mn} (slot : Slot "list" name idn) (hty : typeOf (.builtin idn) = pure (.type "method_descriptor")) (hm : MtR X idn (mOf X.K g)) (ho : PE X o (tD X.K W eo)) (ha : PA X (e :: es) (tL X.K W el))
    (hbase : attributeBase o name X.env (eval o X.env) = eval o X.env := by rfl)
    (hfew : ((backTo cpos (starEach (e :: es) X.env)).all (fun x => !x.1) && (backToKw cpos (keywordEach [] X.env)).all (fun x => x.1.isSome)
      && decide ((e :: es).length + ([] : List Keyword).length + (if ([] : List Keyword).isEmpty then 0 else 1) < 30)) = true := by rfl)
    (hline : (apos.endLine == cpos.line) = true := by rfl) (hs : starEach (e :: es) X.env = (false, eval e X.env) :: starEach es X.env := by rfl) (hplain : (backTo cpos (starEach es X.env)).any (·.1) = false := by rfl) :
    PE X (.Call (.Attribute o name apos) (e :: es) [] cpos) (tD X.K W (eMl g eo el)) := by
  refine pe_imp (pe_bm PySem.F.plainAttrs_list slot hty hm ho ha hbase hfew hline hs hplain) fun σ H Q q => ?_
  obtain ⟨m, h, ρ, R, S, P⟩ := q
  refine ⟨m, h, ρ, R, S, (post_bind (R := RelD X.K) P).imp fun x H1 ⟨m1, h1, d, p1, e1, R1, r1, P1⟩ => ?_⟩
  cases q : rdL h1 d with
  | none => simp only [q] at P1; exact P1.elim
  | some l =>
    simp only [q] at P1
    obtain ⟨a, vs, ex, hs, rs⟩ := rdL_ok R1 r1 q
    refine ⟨by rw [ex]; exact .inl ⟨rfl, vs, hs⟩, m1, h1, ρ, R1, S.mono p1 e1, (post_bind (R := RelDs X.K) P1).imp fun xs H2 ⟨m2, h2, ds, p2, e2, R2, r2, P2⟩ => ?_⟩
    exact ⟨m2, h2, d, ds, R2, r1.mono p2 e2, r2, noX_post P2⟩
def mAppend : Mn := fun o ds h => match o, ds with
  | .obj k, [d] => (match h.get k with
    | some (.lst l) => if l.length < sizeLine then .ok .non (h.put k (.lst (l ++ [d]))) else .fail
    | _ => .fail)
  | _, _ => .fail
theorem m_append : MtR X "list.append" (mOf X.K mAppend) := by
  intro pins s σ H x xs v us Q I rx rv q
  obtain ⟨m, h, o, ds, R, r, rs, P⟩ := q
  have P := noX_ok P
  cases r with
  | @obj k a hk =>
    cases rs with
    | nil => exact P.elim
    | cons r2 t =>
      cases t with
      | cons _ _ => exact P.elim
      | nil =>
        cases q : h.get k with
        | none => simp only [mAppend, q] at P; exact P.elim
        | some ob =>
          simp only [mAppend, q] at P
          cases ob with
          | lst l =>
            obtain ⟨vs, hv, rl⟩ := rdL_obj R hk q
            by_cases hz : l.length < sizeLine
            · simp only [if_pos hz] at P
              obtain ⟨R3, e3⟩ := rel_setL R hk hv (rl.append (.cons r2 .nil))
              exact mt_append pins s σ H _ _ v us Q I rx rv ⟨a, vs, _, rfl, rfl, hv, by rw [← rl.length]; exact hz, P.ok (Pre.refl _) e3 R3 .non⟩
            · simp only [if_neg hz] at P
              exact P.elim
          | _ => exact P.elim
  | _ => cases rs <;> exact P.elim
theorem d_append (ho : PE X o (tD X.K W eo)) (ha : PA X (e :: es) (tL X.K W el)) (hbase : attributeBase o "append" X.env (eval o X.env) = eval o X.env := by rfl)
    (hfew : ((backTo cpos (starEach (e :: es) X.env)).all (fun x => !x.1) && (backToKw cpos (keywordEach [] X.env)).all (fun x => x.1.isSome)
      && decide ((e :: es).length + ([] : List Keyword).length + (if ([] : List Keyword).isEmpty then 0 else 1) < 30)) = true := by rfl)
    (hline : (apos.endLine == cpos.line) = true := by rfl) (hs : starEach (e :: es) X.env = (false, eval e X.env) :: starEach es X.env := by rfl) (hplain : (backTo cpos (starEach es X.env)).any (·.1) = false := by rfl) :
    PE X (.Call (.Attribute o "append" apos) (e :: es) [] cpos) (tD X.K W (eMl mAppend eo el)) := d_ml PySem.F.slot_list_append PySem.F.type_list_append m_append ho ha hbase hfew hline hs hplain

/-! ### instances -/
theorem RelF.put {K : Fg} {m : List Addr} {H : Hp} {d : D} {v : V} (r : RelD K m H d v) : ∀ {fs : List (Str × D)} {gs : List (Str × V)}, RelF K m H fs gs → RelF K m H (putD f d fs) (putF f v gs)
  | _, _, .nil => .cons r .nil
  | _, _, .cons (f := g) q t => by
    unfold putD putF
    by_cases e : g = f
    · rw [if_pos e, if_pos e]; exact .cons r t
    · rw [if_neg e, if_neg e]; exact .cons q (RelF.put r t)
theorem ins_ok {K : Fg} {m : List Addr} {h : HE} {H : Hp} {i : Nat} {a : Addr} {c : Str} {fs : List (Str × D)} (R : Rel K m h H) (hi : m[i]? = some a) (e : h.get i = some (.ins c fs)) : ∃ dx gs, H a = some (.ins (He.ga K c) dx gs) ∧ RelF K m H fs gs := by
  obtain ⟨a', ha, dx, gs, x⟩ := R.ob i _ e
  rw [hi] at ha
  cases ha
  exact ⟨dx, gs, x⟩
theorem rel_setI {K : Fg} {m : List Addr} {h : HE} {H : Hp} {i : Nat} {a : Addr} {c : Str} {fs : List (Str × D)} {dx : Addr} {gs gs0 : List (Str × V)} (R : Rel K m h H) (hi : m[i]? = some a) (ha : H a = some (.ins (He.ga K c) dx gs0)) (rs : RelF K m H fs gs) :
    Rel K m (h.put i (.ins c fs)) (upd H a (.ins (He.ga K c) dx gs)) ∧ Ext H (upd H a (.ins (He.ga K c) dx gs)) := by
  have ex : Ext H (upd H a (.ins (He.ga K c) dx gs)) := Ext.put ha (fun _ z => by cases z) (fun _ _ z => by cases z) (fun _ z => by cases z)
  exact R.put hi ha (fun _ _ z => by cases z) (fun _ z => by cases z) (fun _ z => by cases z) ⟨dx, gs, upd_same, rs.mono (Pre.refl m) ex⟩
/-- o.f -/
def fld1 (cs : List Str) (f : Str) : D → HE → Rs D := fun d h => match d with
  | .obj i => (match h.get i with
    | some (.ins c fs) => if c ∈ cs then (match fs.lookup f with
      | some v => .ok v h
      | none => .fail) else .fail
    | _ => .fail)
  | _ => .fail
def eFld (cs : List Str) (f : Str) (eo : Ev) : Ev := fun ρ h => (eo ρ h).bind (fld1 cs f)
theorem d_fld {cs : List Str} (hC : ∀ c ∈ cs, Cls X.K (He.ga X.K c) ∧ NoAttr X.K (He.ga X.K c) f) (he : PE X e (tD X.K W ea)) (hb : attributeBase e f X.env (eval e X.env) = eval e X.env := by rfl) : PE X (.Attribute e f pos) (tD X.K W (eFld cs f ea)) := by
  refine pe_imp (pe_fld he hb) fun σ H Q q => ?_
  obtain ⟨m, h, ρ, R, S, P⟩ := q
  refine ⟨m, h, ρ, R, S, (post_bind (R := RelD X.K) P).imp fun x H1 ⟨m1, h1, d, p1, e1, R1, r1, P1⟩ => ?_⟩
  cases r1 with
  | @obj i a hi =>
    cases q : h1.get i with
    | none => simp only [fld1, q] at P1; exact P1.elim
    | some ob =>
      cases ob with
      | ins c fs =>
        simp only [fld1, q] at P1
        by_cases hc : c ∈ cs
        · simp only [if_pos hc] at P1
          obtain ⟨dx, gs, hg, rf⟩ := ins_ok R1 hi q
          cases q2 : fs.lookup f with
          | none => simp only [q2] at P1; exact P1.elim
          | some v =>
            simp only [q2] at P1
            obtain ⟨w, hw, rw'⟩ := rf.look q2
            exact ⟨a, _, dx, gs, w, rfl, hg, (hC c hc).1, (hC c hc).2, hw, P1.here R1 rw'⟩
        · simp only [if_neg hc] at P1
          exact P1.elim
      | _ => simp only [fld1, q] at P1; exact P1.elim
  | _ => exact P1.elim
/-- o.f = v -/
def sFldD (cs : List Str) (f : Str) (eo ev : Ev) : Sv := fun ρ h => bindS (ev ρ h) ρ fun v h1 => bindS (eo ρ h1) ρ fun o h2 => match o with
  | .obj i => (match h2.get i with
    | some (.ins c fs) => if c ∈ cs ∧ fs.length < 1000 then .nx ρ (h2.put i (.ins c (putD f v fs))) else .fail
    | _ => .fail)
  | _ => .fail
theorem s_fld {cs : List Str} {value : Expr} {ev : Ev} (hC : ∀ c ∈ cs, Cls X.K (He.ga X.K c) ∧ NoAttr X.K (He.ga X.K c) f) (ho : PE X o (tD X.K W eo)) (hv : PE X value (tD X.K W ev)) (hs : swapsWith value (some (.Attribute o f pos')) pos.line X.env = pure false := by rfl) :
    PS X (.Assign [.Attribute o f pos'] value pos) (tSv X.K W (sFldD cs f eo ev)) := by
  refine ps_imp (ps_fld ho hv hs) fun Dn σ H q => ?_
  obtain ⟨m, h, ρ, R, S, P⟩ := q
  refine ⟨m, h, ρ, R, S, (post_bindS (R := RelD X.K) S P).imp fun y H1 ⟨m1, h1, v, p1, e1, R1, r1, P1⟩ => ?_⟩
  refine ⟨m1, h1, ρ, R1, S.mono p1 e1, (post_bindS (R := RelD X.K) (S.mono p1 e1) P1).imp fun x H2 ⟨m2, h2, o', p2, e2, R2, r2, P2⟩ => ?_⟩
  cases r2 with
  | @obj i a hi =>
    cases q : h2.get i with
    | none => simp only [q] at P2; exact P2.elim
    | some ob =>
      cases ob with
      | ins c fs =>
        simp only [q] at P2
        by_cases hc : c ∈ cs ∧ fs.length < 1000
        · simp only [if_pos hc] at P2
          obtain ⟨dx, gs, hg, rf⟩ := ins_ok R2 hi q
          obtain ⟨R3, e3⟩ := rel_setI R2 hi hg (rf.put (f := f) (r1.mono p2 e2))
          exact ⟨a, _, dx, gs, rfl, hg, (hC c hc.1).1, (hC c hc.1).2, by rw [← rf.length]; exact hc.2, P2 m2 _ σ (Pre.refl _) e3 R3 (((S.mono p1 e1).mono p2 e2).mono (Pre.refl _) e3)⟩
        · simp only [if_neg hc] at P2
          exact P2.elim
      | _ => simp only [q] at P2; exact P2.elim
  | _ => exact P2.elim
end

/-! ### methods, instances made -/
section
variable {X : Cx} {W : Wz} {k n : Nat} {fa : Addr} {fd : FuncData} {ps : List Str} {g : Fn} {x c mt : Str} {p pos apos : Pos} {e o : Expr} {es : List Expr} {eo : Ev} {el : EvL} {ds : List Value} {dvs : List V} {dd : List D}
/-- o.m(..), o an instance of c -/
def eMeth (c mt : Str) (n : Nat) (g : Fn) (dd : List D) (eo : Ev) (l : EvL) : Ev := fun ρ h => (eo ρ h).bind fun o h1 => match o with
  | .obj i => (match h1.get i with
    | some (.ins c' fs) => if c' = c ∧ fs.lookup mt = none then (l ρ h1).bind fun ds h2 => if (o :: ds ++ dd).length = n then g (o :: ds ++ dd) h2 else .fail else .fail
    | _ => .fail)
  | _ => .fail
theorem meth_core {pins : List (Addr × Obj)} {s : Shared} {σ : L2.St} {H : Hp} {Q : VK} {m : List Addr} {h : HE} {d : D} {v : V} {kk : HE → Rs D} (R : Rel X.K m h H) (r : RelD X.K m H d v) (P : Post X.K (RelD X.K) m H (match d with
  | .obj i => (match h.get i with
    | some (.ins c' fs) => if c' = c ∧ fs.lookup mt = none then kk h else .fail
    | _ => .fail)
  | _ => .fail) Q (fun cls d H' => W.1 cls d σ H')) : ∃ a dx gs, v = .ref a ∧ H a = some (.ins (He.ga X.K c) dx gs) ∧ gs.lookup mt = none ∧ Post X.K (RelD X.K) m H (kk h) Q (fun cls d H' => W.1 cls d σ H') := by
  cases r with
  | @obj i a hi =>
    cases q : h.get i with
    | none => simp only [q] at P; exact P.elim
    | some ob =>
      cases ob with
      | ins c' fs =>
        simp only [q] at P
        by_cases hc : c' = c ∧ fs.lookup mt = none
        · simp only [if_pos hc] at P
          obtain ⟨dx, gs, hg, rf⟩ := ins_ok R hi q
          rw [hc.1] at hg
          exact ⟨a, dx, gs, rfl, hg, rf.lookN hc.2, P⟩
        · simp only [if_neg hc] at P
          exact P.elim
      | _ => simp only [q] at P; exact P.elim
  | _ => exact P.elim
theorem d_meth {pl : Sem Bool} (he : PE X o (tD X.K W eo)) (cl : Cls X.K (He.ga X.K c)) (hm : Meth X.K (He.ga X.K c) mt fa) (F : FnG X.prog X.w X.K X.mg X.base k fa fd ps (spD X.K n g)) (cc : Cc X k) (tk : Takes X W.1) (hb : Binds X.K fd ps ds) (hd : Vals dvs ds) (hdd : ∀ m H, RelDs X.K m H dd dvs)
    (ha : PA X (e :: es) (tL X.K W el)) (hst : starEach (e :: es) X.env = (false, eval e X.env) :: starEach es X.env := by rfl) (hpl : (backTo pos (starEach es X.env)).any (·.1) = false := by rfl)
    (ht : eval (.Call (.Attribute o mt apos) (e :: es) [] pos) X.env = (do
      let ov ← eval o X.env
      standAt apos.atName
      let (f, first) ← holding [ov] (getMethod ov mt pl)
      callWith pos f first (backTo pos (starEach (e :: es) X.env)) (backToKw pos (keywordEach [] X.env))) := by rfl) :
    PE X (.Call (.Attribute o mt apos) (e :: es) [] pos) (tD X.K W (eMeth c mt n g dd eo el)) := by
  refine ⟨fun pins s σ H Q I q => ?_⟩
  obtain ⟨m, h, ρ, R, S, P⟩ := q
  refine PySem.W.methodCall_KW (pl := pl) (thn (he.run pins s σ H _ I ⟨m, h, ρ, R, S, post_bind P⟩) fun u s1 ⟨v, H1, I1, rx, m1, h1, d, p1, e1, R1, r1, P1⟩ => ?_) ht
  obtain ⟨a, dx, gs, rfl, ea, l, P2⟩ := meth_core (pins := pins) (s := s) (kk := fun h1 => (el ρ h1).bind fun ds h2 => if (d :: ds ++ dd).length = n then g (d :: ds ++ dd) h2 else .fail) R1 r1 (by cases d <;> exact P1)
  obtain rfl : u = Value.ref a := rx
  refine getmeth_ok I1 ea cl hm l ?_
  refine PySem.W.callWith_K (first := [.ref a]) (h₀ := X.base) I.ok.mod.kin hm.kp (thn (ha.run pos pins s1 σ H1 _ I1 ⟨m1, h1, ρ, R1, S.mono p1 e1, post_bind P2⟩) fun us s2 ⟨vs, H2, I2, r, m2, h2, ds2, p2, e2, R2, r2, P3⟩ => ⟨I2.kIn, ?_⟩) hst hpl
  exact run_g (us := .ref a :: us) (vs := .ref a :: vs) F cc hb hd tk I2 (.cons rfl r) (call_sp R2 (.cons (r1.mono p2 e2) r2) hdd P3)
theorem d_meth0 {pl : Sem Bool} (he : PE X o (tD X.K W eo)) (cl : Cls X.K (He.ga X.K c)) (hm : Meth X.K (He.ga X.K c) mt fa) (F : FnG X.prog X.w X.K X.mg X.base k fa fd ps (spD X.K n g)) (cc : Cc X k) (tk : Takes X W.1) (hb : Binds X.K fd ps ds) (hd : Vals dvs ds) (hdd : ∀ m H, RelDs X.K m H dd dvs)
    (ht : eval (.Call (.Attribute o mt apos) [] [] pos) X.env = (do
      let ov ← eval o X.env
      standAt apos.atName
      let (f, first) ← holding [ov] (getMethod ov mt pl)
      callWith pos f first (backTo pos (starEach [] X.env)) (backToKw pos (keywordEach [] X.env))) := by rfl) :
    PE X (.Call (.Attribute o mt apos) [] [] pos) (tD X.K W (eMeth c mt n g dd eo lNil)) := by
  refine ⟨fun pins s σ H Q I q => ?_⟩
  obtain ⟨m, h, ρ, R, S, P⟩ := q
  refine PySem.W.methodCall_KW (pl := pl) (thn (he.run pins s σ H _ I ⟨m, h, ρ, R, S, post_bind P⟩) fun u s1 ⟨v, H1, I1, rx, m1, h1, d, p1, e1, R1, r1, P1⟩ => ?_) ht
  obtain ⟨a, dx, gs, rfl, ea, l, P2⟩ := meth_core (pins := pins) (s := s) (kk := fun h1 => (lNil ρ h1).bind fun ds h2 => if (d :: ds ++ dd).length = n then g (d :: ds ++ dd) h2 else .fail) R1 r1 (by cases d <;> exact P1)
  obtain rfl : u = Value.ref a := rx
  refine getmeth_ok I1 ea cl hm l ?_
  exact PySem.W.callWith_K0 (first := [.ref a]) I1.kIn hm.kp (run_g (us := [.ref a]) (vs := [.ref a]) F cc hb hd tk I1 (.cons rfl .nil) (call_sp R1 (.cons r1 .nil) hdd P2))
end
end PL

set_option Elab.async false
set_option linter.all false
set_option maxRecDepth 100000
set_option maxHeartbeats 4000000
namespace PL
open PySem PySem.Spec PyProof.Rows L2

/-! ### list comprehensions -/
abbrev W0 (κ : Kp) : Wz := (fun _ _ _ _ => False, κ)
def lcS (src : Src) (st : D → Sl → Option Sl) (bt : EvB) (ee : Ev) (ρ0 : Sl) (dn : Nat) : Nat → Nat → HE → Rs D
  | 0, _, _ => .fail
  | n + 1, i, h => match src h with
    | none => .fail
    | some ds => (match ds[i]? with
      | none => .ok (.obj dn) h
      | some d => (match st d ρ0 with
        | none => .fail
        | some ρ1 => (noX (bt ρ1 h)).bind fun k h2 => match k with
          | true => (noX (ee ρ1 h2)).bind fun v h3 => (match h3.get dn with
            | some (.lst acc) => if acc.length < sizeLine then lcS src st bt ee ρ0 dn n (i + 1) (h3.put dn (.lst (acc ++ [v]))) else .fail
            | _ => .fail)
          | false => lcS src st bt ee ρ0 dn n (i + 1) h2))
def wipeD (ρ : Sl) : List Nat → Sl
  | [] => ρ
  | v :: vs => (wipeD ρ vs).set v .no
def eLc (n : Nat) (vs : List Nat) (it : EvI) (st : D → Sl → Option Sl) (bt : EvB) (ee : Ev) : Ev := fun ρ h => (it ρ h).bind fun src h1 => lcS src st bt ee (wipeD ρ vs) h1.n n 0 (h1.new (.lst []))
theorem RelS.wipe {κ : Kp} {K : Fg} {m : List Addr} {H : Hp} {ρ : Sl} {σ : L2.St} (S : RelS κ K m H ρ σ) : ∀ vs : List Nat, RelS κ K m H (wipeD ρ vs) (L2.wipe σ vs)
  | [] => S
  | v :: vs => (RelS.wipe S vs).set (.none _) v
theorem wipe_set {σ : L2.St} {i : Nat} {x : Option V} : ∀ {vs : List Nat}, i ∈ vs → L2.wipe (σ.set i x) vs = L2.wipe σ vs
  | [], h => by cases h
  | v :: vs, h => by
    show (L2.wipe (σ.set i x) vs).set v none = (L2.wipe σ vs).set v none
    by_cases hi : i ∈ vs
    · rw [wipe_set hi]
    · have e : i = v := by
        rcases List.mem_cons.mp h with e | e
        · exact e
        · exact absurd e hi
      subst e
      have key : ∀ (us : List Nat), i ∉ us → L2.wipe (σ.set i x) us = (L2.wipe σ us).set i x := by
        intro us
        induction us with
        | nil => intro _; rfl
        | cons u us ih =>
          intro hn
          have h1 : i ≠ u := fun z => hn (by rw [z]; exact List.mem_cons_self)
          have h2 : i ∉ us := fun z => hn (List.mem_cons_of_mem _ z)
          show (L2.wipe (σ.set i x) us).set u none = ((L2.wipe σ us).set u none).set i x
          rw [ih h2, List.set_comm _ _ h1]
      rw [key vs hi, List.set_set]
theorem wipe_wipe {σ : L2.St} : ∀ {us vs : List Nat}, (∀ v ∈ us, v ∈ vs) → L2.wipe (L2.wipe σ us) vs = L2.wipe σ vs
  | [], _, _ => rfl
  | u :: us, vs, h => by
    show L2.wipe ((L2.wipe σ us).set u none) vs = _
    rw [wipe_set (h u List.mem_cons_self), wipe_wipe fun v hv => h v (List.mem_cons_of_mem _ hv)]
/-- the target's stores, by slots -/
def StOk (κ : Kp) (K : Fg) (vs : List Nat) (st : D → Sl → Option Sl) (g : TG) : Prop := ∀ (m : List Addr) (h : HE) (H : Hp) (d : D) (x : V) (σ : L2.St) (ρ0 ρ1 : Sl) (Q : L2.St → Hp → Prop), Rel K m h H → RelD K m H d x → RelS κ K m H ρ0 (L2.wipe σ vs) → st d ρ0 = some ρ1 →
  (∀ σ2, RelS κ K m H ρ1 σ2 → L2.wipe σ2 vs = L2.wipe σ vs → Q σ2 H) → g x (L2.wipe σ vs) H Q
def stN (i : Nat) : D → Sl → Option Sl := fun d ρ => some (ρ.set i (.va d))
theorem st_name {κ : Kp} {K : Fg} (i : Nat) (vs : List Nat) (hi : i ∈ vs) : StOk κ K vs (stN i) (gName i) := fun m h H d x σ ρ0 ρ1 Q R r S e q => by
  cases e
  exact q _ (S.set (.some r) i) (by rw [wipe_set hi, wipe_wipe fun _ h => h])
def st2 (i j : Nat) : D → Sl → Option Sl := fun d ρ => match d with
  | .tup [a, b] => some ((ρ.set i (.va a)).set j (.va b))
  | _ => none
theorem st_two {κ : Kp} {K : Fg} (i j : Nat) (vs : List Nat) (hi : i ∈ vs) (hj : j ∈ vs) : StOk κ K vs (st2 i j) (gTup K 2 (gCons (gName i) (gCons (gName j) gNil))) := fun m h H d x σ ρ0 ρ1 Q R r S e q => by
  cases r with
  | @tup ds us a hs rs =>
    cases rs with
    | nil => cases e
    | cons r1 t =>
      cases t with
      | nil => cases e
      | cons r2 t2 =>
        cases t2 with
        | cons _ _ => cases e
        | nil =>
          cases e
          refine ⟨a, _, rfl, hs, rfl, _, _, rfl, _, _, rfl, rfl, ?_⟩
          exact q _ ((S.set (.some r1) i).set (.some r2) j) (by rw [wipe_set hj, wipe_set hi, wipe_wipe fun _ h => h])
  | _ => cases e
def bYes : EvB := fun _ h => .ok true h
section
variable {X : Cx} {W : Wz}
theorem pts_imp {X : Cx} {e : List Expr} {t t' : TT} (h : PTs X e t) (i : ∀ σ H Q, t' σ H Q → t σ H Q) : PTs X e t' := ⟨fun pins s σ H Q I q => h.run pins s σ H Q I (i _ _ _ q)⟩
theorem bs_nil : PTs X [] (tB' X.K W bYes) := pts_imp pts_nil fun σ H Q q => by
  obtain ⟨m, h, ρ, R, S, P⟩ := q
  exact P.here R rfl
theorem bs_one {c : Expr} {bc : EvB} (h : PT X c (tB' X.K W bc)) : PTs X [c] (tB' X.K W bc) := pts_one h
theorem lc_read (n : Nat) {own : List (Str × Nat)} {it : EvI} {st : D → Sl → Option Sl} {g : TG} {bt : EvB} {ee : Ev} {vs : List Nat} (ho : StOk W.2 X.K vs st g) :
    ∀ σ H Q, tD X.K W (eLc n vs it st bt ee) σ H Q → tLc (tIt X.K W it) g (tB' X.K (W0 W.2) bt) (tD X.K (W0 W.2) ee) vs σ H Q := fun σ H Q q => by
  obtain ⟨m, h, ρ, R, S, P⟩ := q
  refine ⟨m, h, ρ, R, S, (post_bind (R := SrcR X.K) P).imp fun J H1 ⟨m1, h1, src, p1, e1, R1, r1, P1⟩ => ?_⟩
  intro D hD
  have Rn := rel_newL (ds := []) (vs := []) R1 .nil hD
  have en : Ext H1 (upd H1 D (.lst [])) := Ext.new hD
  refine ⟨fun i k H => ∃ m h, Rel X.K m h H ∧ RelS W.2 X.K m H (wipeD ρ vs) (L2.wipe σ vs) ∧ m[h1.n]? = some D ∧ SrcR X.K m H src J ∧ Post X.K (RelD X.K) m H (lcS src st bt ee (wipeD ρ vs) h1.n k i h) Q (fun c d H' => W.1 c d σ H'),
    ⟨n, m1 ++ [D], h1.new (.lst []), Rn, (((S.mono p1 e1).mono (Pre.snoc m1 D) en).wipe vs), get_snoc m1 D R1.len, r1.mono (Pre.snoc m1 D) en, P1.mono (Pre.snoc m1 D) en⟩, ?_⟩
  rintro i k H2 ⟨m2, h2, R2, S2, hdn, r2, P2⟩
  cases k with
  | zero => exact P2.elim
  | succ k =>
    unfold lcS at P2
    cases q : src h2 with
    | none => simp only [q] at P2; exact P2.elim
    | some ds =>
      simp only [q] at P2
      obtain ⟨go, stop, yld⟩ := r2 m2 h2 H2 ds (Pre.refl _) (Ext.refl _) R2 q
      cases q2 : ds[i]? with
      | none =>
        simp only [q2] at P2
        exact .inl ⟨stop i (List.getElem?_eq_none_iff.mp q2), P2.here R2 (.obj hdn)⟩
      | some d =>
        simp only [q2] at P2
        cases q3 : st d (wipeD ρ vs) with
        | none => simp only [q3] at P2; exact P2.elim
        | some ρ1 =>
          simp only [q3] at P2
          refine .inr ⟨go i (List.getElem?_eq_some_iff.mp q2).1, fun H' => ∃ m h, Rel X.K m h H' ∧ RelS W.2 X.K m H' (wipeD ρ vs) (L2.wipe σ vs) ∧ m[h1.n]? = some D ∧ SrcR X.K m H' src J ∧ Post X.K (RelD X.K) m H' (lcS src st bt ee (wipeD ρ vs) h1.n k (i + 1) h) Q (fun c d H' => W.1 c d σ H'),
            fun H' z => ⟨k, Nat.lt_succ_self k, z⟩, fun x H' y => ?_⟩
          obtain ⟨ex, R', rd⟩ := yld i d x H' q2 y
          have S' := S2.mono (Pre.refl _) ex
          have P3 := P2.mono (Pre.refl m2) ex
          refine ho m2 h2 H' d x σ _ ρ1 _ R' rd S' q3 fun σ2 Sn hw => ⟨hw, m2, h2, ρ1, R', Sn, ?_⟩
          refine (noX_ok (E := fun c d H' => W.1 c d σ H') (?_ : Post X.K (fun _ _ (a b : Bool) => a = b) m2 H' (noX (bt ρ1 h2)) _ _))
          refine (post_bind (R := fun _ _ (a b : Bool) => a = b) P3).imp fun b H3 ⟨m3, h3, b', p3, e3, R3, rb, P4⟩ => ?_
          subst rb
          have S3 := S'.mono p3 e3
          have r3 := ((r2.mono (Pre.refl _) ex).mono p3 e3)
          cases b' with
          | false => exact iteF ⟨m3, h3, R3, S3, p3.get hdn, r3, P4⟩
          | true =>
            refine iteT ⟨m3, h3, ρ1, R3, Sn.mono p3 e3, ?_⟩
            refine (noX_ok (E := fun c d H' => W.1 c d σ H') (?_ : Post X.K (RelD X.K) m3 H3 (noX (ee ρ1 h3)) _ _))
            refine (post_bind (R := RelD X.K) P4).imp fun y' H4 ⟨m4, h4, v, p4, e4, R4, rv, P5⟩ => ?_
            have hdn4 := p4.get (p3.get hdn)
            cases q5 : h4.get h1.n with
            | none => simp only [q5] at P5; exact P5.elim
            | some ob =>
              simp only [q5] at P5
              cases ob with
              | lst acc =>
                obtain ⟨us, hu, ru⟩ := rdL_obj R4 hdn4 q5
                by_cases hz : acc.length < sizeLine
                · simp only [if_pos hz] at P5
                  obtain ⟨R5, e5⟩ := rel_setL R4 hdn4 hu (ru.append (.cons rv .nil))
                  exact ⟨us, hu, by rw [← ru.length]; exact hz, m4, _, R5, (S3.mono p4 e4).mono (Pre.refl _) e5, hdn4, (r3.mono p4 e4).mono (Pre.refl _) e5, P5.mono (Pre.refl _) e5⟩
                · simp only [if_neg hz] at P5
                  exact P5.elim
              | _ => exact P5.elim
theorem d_lc (n : Nat) {elt tg iter : Expr} {ifs : List Expr} {scope : Scope} {own : List (Str × Nat)} {pos : Pos} {it : EvI} {st : D → Sl → Option Sl} {g : TG} {bt : EvB} {ee : Ev} (ho : StOk W.2 X.K (own.map (·.2)) st g) (hc : X.calm = true) (hN : X.N.Nodup) (hi : PI X tg iter (tIt X.K W it)) (ok : BlkOk X.N X.env.scope scope own)
    (hg : ∀ (s : Shared) (H : Hp) (C : Addr) (cl : List (Str × Addr)) (fp : List Addr), PG (X.blk s H scope (compEnvC scope cl C X.env) fp) tg g) (ht : ∀ (s : Shared) (H : Hp) (C : Addr) (cl : List (Str × Addr)) (fp : List Addr), PTs (X.blk s H scope (compEnvC scope cl C X.env) fp) ifs (tB' X.K (W0 W.2) bt))
    (he : ∀ (s : Shared) (H : Hp) (C : Addr) (cl : List (Str × Addr)) (fp : List Addr), PE (X.blk s H scope (compEnvC scope cl C X.env) fp) elt (tD X.K (W0 W.2) ee)) (hs : ∀ x, foldedSetIterable iter X.env x = pure x := by intro _; rfl) :
    PE X (.ListComp elt [⟨tg, iter, ifs, 0⟩] scope pos) (tD X.K W (eLc n (own.map (·.2)) it st bt ee)) := pe_imp (pe_lc hc hN hi ok hg ht he hs) (lc_read (own := own) n ho)
/-- y = [..] on one line -/
theorem s_setLc (n i : Nat) {y : Str} {py : Pos} {elt tg iter : Expr} {ifs : List Expr} {scope : Scope} {own : List (Str × Nat)} {pos spos : Pos} {it : EvI} {st : D → Sl → Option Sl} {g : TG} {bt : EvB} {ee : Ev} (ho : StOk W.2 X.K (own.map (·.2)) st g) (hc : X.calm = true) (hN : X.N.Nodup) (hy : X.N[i]? = some y) (hyl : X.env.scope.names.lookup y = some .local)
    (hsw : swapsWith (.ListComp elt [⟨tg, iter, ifs, 0⟩] scope pos) (some (.Name y py)) spos.line X.env = pure true) (hi : PI X tg iter (tIt X.K W it)) (ok : BlkOk X.N X.env.scope scope own)
    (hg : ∀ (s : Shared) (H : Hp) (C : Addr) (cl : List (Str × Addr)) (fp : List Addr), PG (X.blk s H scope (compEnvC scope cl C X.env) fp) tg g) (ht : ∀ (s : Shared) (H : Hp) (C : Addr) (cl : List (Str × Addr)) (fp : List Addr), PTs (X.blk s H scope (compEnvC scope cl C X.env) fp) ifs (tB' X.K (W0 W.2) bt))
    (he : ∀ (s : Shared) (H : Hp) (C : Addr) (cl : List (Str × Addr)) (fp : List Addr), PE (X.blk s H scope (compEnvC scope cl C X.env) fp) elt (tD X.K (W0 W.2) ee)) (hs : ∀ x, foldedSetIterable iter X.env x = pure x := by intro _; rfl) :
    PS X (.Assign [.Name y py] (.ListComp elt [⟨tg, iter, ifs, 0⟩] scope pos) spos) (tSv X.K W (sSet i (eLc n (own.map (·.2)) it st bt ee))) := by
  refine ps_imp (ps_setLc hc hN hy hyl hsw hi ok hg ht he hs) fun Dn σ H q => ?_
  obtain ⟨m, h, ρ, R, S, P⟩ := q
  refine lc_read (own := own) n ho σ H _ ⟨m, h, ρ, R, S, (post_bindS (R := RelD X.K) S P).imp fun x H1 ⟨m1, h1, d, p1, e1, R1, r1, P1⟩ => ?_⟩
  exact P1 m1 H1 _ (Pre.refl _) (Ext.refl _) R1 ((S.mono p1 e1).set (.some r1) i)
/-! ### instances made -/
variable {k n : Nat} {fa C : Addr} {fd : FuncData} {ps : List Str} {g : Fn} {x c : Str} {p pos : Pos} {e : Expr} {es : List Expr} {el : EvL} {ds : List Value} {dvs : List V} {dd : List D}
def mk1 (c : Str) (n : Nat) (g : Fn) (dd : List D) (ds : List D) (h : HE) : Rs D := if (D.obj h.n :: ds ++ dd).length = n then (g (D.obj h.n :: ds ++ dd) (h.new (.ins c []))).bind fun r h3 => (match r with
    | .non => .ok (.obj h.n) h3
    | _ => .fail) else .fail
def eMake (c : Str) (n : Nat) (g : Fn) (dd : List D) (l : EvL) : Ev := fun ρ h => (l ρ h).bind (mk1 c n g dd)
theorem run_mk {pins : List (Addr × Obj)} {σ : L2.St} {H : Hp} {s : Shared} {Q : VK} {us : List Value} {vs : List V} {m : List Addr} {h : HE} {dl : List D} (M : Mk X.K (He.ga X.K c) fa) (F : FnG X.prog X.w X.K X.mg X.base k fa fd ps (spD X.K n g)) (cc : Cc X (k + 1)) (hb : Binds X.K fd ps ds) (hd : Vals dvs ds) (hdd : ∀ m H, RelDs X.K m H dd dvs)
    (tk : Takes X W.1) (I : Inv X pins σ H s) (r : Vals vs us) (R : Rel X.K m h H) (rs : RelDs X.K m H dl vs) (P : Post X.K (RelD X.K) m H (mk1 c n g dd dl h) Q (fun cls d H' => W.1 cls d σ H')) :
    wpAny (model X.prog X.w) X.A (call (.ref (He.ga X.K c)) us) (EP X pins σ Q) X.xe s := by
  unfold mk1 at P
  by_cases hz : (D.obj h.n :: dl ++ dd).length = n
  · rw [if_pos hz] at P
    have hn1 : H s.heap.objs.size = none := I.hok.fresh (Nat.le_refl _)
    have hn2 : H (s.heap.objs.size + 1) = none := I.hok.fresh (Nat.le_succ _)
    have hn3 : upd H s.heap.objs.size (.own (s.heap.objs.size + 1)) (s.heap.objs.size + 1) = none := by rw [upd_ne (Nat.succ_ne_self _)]; exact hn2
    have R1 : Rel X.K m h (upd H s.heap.objs.size (.own (s.heap.objs.size + 1))) := R.beside hn1
    have R2 : Rel X.K (m ++ [s.heap.objs.size + 1]) (h.new (.ins c [])) (upd (upd H s.heap.objs.size (.own (s.heap.objs.size + 1))) (s.heap.objs.size + 1) (.ins (He.ga X.K c) s.heap.objs.size [])) :=
      R1.new hn3 (fun _ z => by cases z) ⟨_, [], upd_same, .nil⟩
    have e2 : Ext H (upd (upd H s.heap.objs.size (.own (s.heap.objs.size + 1))) (s.heap.objs.size + 1) (.ins (He.ga X.K c) s.heap.objs.size [])) := (Ext.new hn1).trans (Ext.new hn3)
    have pr : Pre m (m ++ [s.heap.objs.size + 1]) := Pre.snoc m _
    have hself : (m ++ [s.heap.objs.size + 1])[h.n]? = some (s.heap.objs.size + 1) := get_snoc m _ R.len
    have rs2 : RelDs X.K (m ++ [s.heap.objs.size + 1]) (upd (upd H s.heap.objs.size (.own (s.heap.objs.size + 1))) (s.heap.objs.size + 1) (.ins (He.ga X.K c) s.heap.objs.size [])) (D.obj h.n :: dl ++ dd) (V.ref (s.heap.objs.size + 1) :: vs ++ dvs) :=
      (RelDs.cons (.obj hself) (rs.mono pr e2)).append (hdd _ _)
    have hsp : spD X.K n g (V.ref (s.heap.objs.size + 1) :: (vs ++ dvs)) (upd (upd H s.heap.objs.size (.own (s.heap.objs.size + 1))) (s.heap.objs.size + 1) (.ins (He.ga X.K c) s.heap.objs.size [])) (fun v H2 => v = .non ∧ Q (.ref (s.heap.objs.size + 1)) H2) (fun cls d H' => W.1 cls d σ H') := by
      refine ⟨by rw [← hz]; exact rs2.length.symm, _, _, _, R2, rs2, (post_bind (R := RelD X.K) (P.mono pr e2)).imp fun v H2 ⟨m2, h2, d, p2, e3, R3, rd, P2⟩ => ?_⟩
      cases rd with
      | non => exact ⟨rfl, P2.here R3 (.obj (p2.get hself))⟩
      | _ => exact P2.elim
    have I2 := Inv.made (C := He.ga X.K c) I
    have r2 : Vals (V.ref (s.heap.objs.size + 1) :: (vs ++ dvs)) (Value.ref (s.heap.objs.size + 1) :: (us ++ ds)) := .cons rfl (r.append hd)
    have hl : (Value.ref (s.heap.objs.size + 1) :: us ++ ds).length = ps.length := by
      have e := r2.length
      rw [F.len _ _ _ _ hsp] at e
      exact e.symm
    refine wpAny_call (make_map (f := fa) I.kIn M.makes M.init (beq_iff_eq.mp M.fn) (codeAny_mono (F.run _ X.stack _ _ ⟨Value.ref (s.heap.objs.size + 1) :: us, []⟩ (Value.ref (s.heap.objs.size + 1) :: (us ++ ds)) _ _ _ ?_ (cc.room.make (He.ga X.K c) us [])
      (I2.env0.make (He.ga X.K c) us []) (hb _ (Value.ref (s.heap.objs.size + 1) :: us) I2.kIn hl) r2 hsp) fun r s' hq' => ?_))
    · have : ∀ (A : Around), (A.under (.builtin "type.__call__" ⟨.ref (He.ga X.K c) :: us, []⟩)).guards = A.guards := fun A => by
        first | rfl | simp [Around.under, Code.guards, Code.isGuard, guardIds, pushGuards]
      rw [this]
      exact cc.grd
    · cases r with
      | error e => exact tk e s' (XE.of_call I2 (fun _ _ _ z => z) hq')
      | ok fl =>
        cases fl with
        | ret u =>
          obtain ⟨v, H', I3, rv, ev, q3⟩ := I2.after hq'
          subst ev
          exact ⟨rv, ⟨V.ref (s.heap.objs.size + 1), H', I3, rfl, q3⟩⟩
        | next => exact False.elim hq'
        | brk => exact False.elim hq'
        | cont => exact False.elim hq'
  · rw [if_neg hz] at P
    exact P.elim
theorem d_make (M : Mk X.K (He.ga X.K c) fa) (F : FnG X.prog X.w X.K X.mg X.base k fa fd ps (spD X.K n g)) (cc : Cc X (k + 1)) (tk : Takes X W.1) (hg : Gl X c) (hm : X.mg c = some (.ref (He.ga X.K c))) (hb : Binds X.K fd ps ds) (hd : Vals dvs ds) (hdd : ∀ m H, RelDs X.K m H dd dvs)
    (ha : PA X (e :: es) (tL X.K W el)) (hdb : (c == ("__debug__" : Str)) = false := by decide) (he : starEach (e :: es) X.env = (false, eval e X.env) :: starEach es X.env := by rfl) (hpl : (backTo pos (starEach es X.env)).any (·.1) = false := by rfl) :
    PE X (.Call (.Name c p) (e :: es) [] pos) (tD X.K W (eMake c n g dd el)) := by
  refine ⟨fun pins s σ H Q I q => ?_⟩
  obtain ⟨m, h, ρ, R, S, P⟩ := q
  refine wpAny_Call_Name_kw (ld_glob I hg hm ?_ hdb)
  refine PySem.W.callWith_K (h₀ := X.base) I.ok.mod.kin M.kp (thn (ha.run pos pins s σ H _ I ⟨m, h, ρ, R, S, post_bind P⟩) fun us s1 ⟨vs, H1, I1, r, m1, h1, ds, p1, e1, R1, r1, P1⟩ => ⟨I1.kIn, ?_⟩) he hpl
  exact run_mk M F cc hb hd hdd tk I1 r R1 r1 P1
theorem d_make0 (M : Mk X.K (He.ga X.K c) fa) (F : FnG X.prog X.w X.K X.mg X.base k fa fd ps (spD X.K n g)) (cc : Cc X (k + 1)) (tk : Takes X W.1) (hg : Gl X c) (hm : X.mg c = some (.ref (He.ga X.K c))) (hb : Binds X.K fd ps ds) (hd : Vals dvs ds) (hdd : ∀ m H, RelDs X.K m H dd dvs)
    (hdb : (c == ("__debug__" : Str)) = false := by decide) : PE X (.Call (.Name c p) [] [] pos) (tD X.K W (eMake c n g dd lNil)) := by
  refine ⟨fun pins s σ H Q I q => ?_⟩
  obtain ⟨m, h, ρ, R, S, P⟩ := q
  refine wpAny_Call_Name_kw (ld_glob I hg hm ?_ hdb)
  exact PySem.W.callWith_K0 I.kIn M.kp (run_mk (us := []) M F cc hb hd hdd tk I .nil R .nil P)
end
end PL

set_option Elab.async false
set_option linter.all false
set_option maxRecDepth 100000
set_option maxHeartbeats 4000000
/-! built-in bases of own errors: ValueError, KeyError, OverflowError -/
namespace PL
open PySem PySem.Spec PySem.W PySem.Calls PyProof.Rows PySem.HandSPX
/-- a built-in base: its name, the owner of its __new__, the ids, its mro -/
structure Bs where
  B : String
  nO : String
  newId : String
  initId : String
  tl : List Value
def bsVE : Bs := ⟨"ValueError", "ValueError", "ValueError.__new__", "ValueError.__init__", [.type "ValueError", .type "Exception", .type "BaseException", .type "object"]⟩
def bsKE : Bs := ⟨"KeyError", "LookupError", "LookupError.__new__", "KeyError.__init__", [.type "KeyError", .type "LookupError", .type "Exception", .type "BaseException", .type "object"]⟩
def bsOE : Bs := ⟨"OverflowError", "OverflowError", "OverflowError.__new__", "OverflowError.__init__", [.type "OverflowError", .type "ArithmeticError", .type "Exception", .type "BaseException", .type "object"]⟩
structure BsOk (b : Bs) : Prop where
  nf : ∃ iN bmN, ExcBaseFacts b.nO b.newId iN bmN
  hasN : b.tl.contains (.type b.nO) = true
  hasB : b.tl.contains (.type b.B) = true
  noA : b.tl.contains (.type "AttributeError") = false
  noN : b.tl.contains (.type "NameError") = false
  ob : b.tl.contains (.type "object") = true
  init : Slot b.B (Str.ofString "__init__") b.initId
  initEntry : entryFor table b.initId = some Builtin.«BaseException.__init__»
  initKind : builtinKind b.initId = some Manifest.AttrKind.slot
  initRow : Manifest.signature? b.initId = some { machinery := Manifest.Machinery.positional, full := "*", short := b.B, receiver := Manifest.Receiver.self, params := [{ name := "args", kind := Manifest.ParamKind.varPos, required := false }] }
  noStar : (b.B != "*") = true
  quiet : b.initId.startsWith "lifetime." = false
  kf : KxsFacts b.B b.initId
  pass : ∀ self : Value, refuseLoop self "__setattr__" b.tl = pure ()
theorem bsVE_ok : BsOk bsVE where
  nf := ⟨_, _, F.excBase_ValueError⟩
  hasN := by decide +kernel
  hasB := by decide +kernel
  noA := by decide +kernel
  noN := by decide +kernel
  ob := by decide +kernel
  init := F.excBase_ValueError.init
  initEntry := F.excBase_ValueError.initEntry
  initKind := F.excBase_ValueError.initKind
  initRow := F.excBase_ValueError.initRow
  noStar := by decide +kernel
  quiet := by decide +kernel
  kf := kxs_ValueError
  pass := fun self => by show refuseLoop self "__setattr__" [.type "ValueError", .type "Exception", .type "BaseException", .type "object"] = _; kernel_rfl
theorem bsOE_ok : BsOk bsOE where
  nf := ⟨_, _, F.excBase_OverflowError⟩
  hasN := by decide +kernel
  hasB := by decide +kernel
  noA := by decide +kernel
  noN := by decide +kernel
  ob := by decide +kernel
  init := F.excBase_OverflowError.init
  initEntry := F.excBase_OverflowError.initEntry
  initKind := F.excBase_OverflowError.initKind
  initRow := F.excBase_OverflowError.initRow
  noStar := by decide +kernel
  quiet := by decide +kernel
  kf := kxs_OverflowError
  pass := fun self => by show refuseLoop self "__setattr__" [.type "OverflowError", .type "ArithmeticError", .type "Exception", .type "BaseException", .type "object"] = _; kernel_rfl
theorem kxs_KeyError : KxsFacts "KeyError" "KeyError.__init__" := ⟨by show builtinType _ = _; rw [builtinType_eq_fast]; kernel_rfl, by first | kernel_rfl | rfl⟩
theorem slot_KeyError : Slot "KeyError" (Str.ofString "__init__") "KeyError.__init__" := .of (owner := "KeyError") (n := "__init__") (by rw [typeLookup_type, builtinLookup_eq_fast]; kernel_rfl) (by decide +kernel) (by decide +kernel) (by decide +kernel)
    (by first | exact .inl (by decide +kernel) | exact .inr (by decide +kernel)) (by rw [isSubtype_type]; kernel_rfl)
theorem entry_KeyError : entryFor table "KeyError.__init__" = some Builtin.«BaseException.__init__» := entryFor_alias (id' := "BaseException.__init__") (by rw [fastTable_eq_tree]; kernel_rfl) (by first | rfl | decide +kernel) (by decide +kernel) (by rw [fastTable_eq_tree]; kernel_rfl)
theorem bsKE_ok : BsOk bsKE where
  nf := ⟨_, _, F.excBase_LookupError⟩
  hasN := by decide +kernel
  hasB := by decide +kernel
  noA := by decide +kernel
  noN := by decide +kernel
  ob := by decide +kernel
  init := slot_KeyError
  initEntry := entry_KeyError
  initKind := by kernel_rfl
  initRow := by kernel_rfl
  noStar := by decide +kernel
  quiet := by decide +kernel
  kf := kxs_KeyError
  pass := fun self => by show refuseLoop self "__setattr__" [.type "KeyError", .type "LookupError", .type "Exception", .type "BaseException", .type "object"] = _; kernel_rfl
/-- own classes, then the base's mro -/
def refsT (tl : List Value) : List Value → Bool
  | .ref _ :: r => refsT tl r
  | l => l == tl
theorem refsT_cases {tl : List Value} : ∀ l : List Value, refsT tl l = true → (∃ c r, l = .ref c :: r ∧ refsT tl r = true) ∨ l = tl
  | [], e => .inr (beq_iff_eq.mp e)
  | .ref c :: r, e => .inl ⟨c, r, rfl, e⟩
  | .none :: _, e => .inr (beq_iff_eq.mp e)
  | .ellipsis :: _, e => .inr (beq_iff_eq.mp e)
  | .notImplemented :: _, e => .inr (beq_iff_eq.mp e)
  | .bool _ :: _, e => .inr (beq_iff_eq.mp e)
  | .int _ _ :: _, e => .inr (beq_iff_eq.mp e)
  | .float _ _ :: _, e => .inr (beq_iff_eq.mp e)
  | .str _ _ :: _, e => .inr (beq_iff_eq.mp e)
  | .bytes _ _ :: _, e => .inr (beq_iff_eq.mp e)
  | .type _ :: _, e => .inr (beq_iff_eq.mp e)
  | .builtin _ :: _, e => .inr (beq_iff_eq.mp e)
theorem refsT_pass {tl : List Value} {self : Value} (p : refuseLoop self "__setattr__" tl = pure ()) : ∀ l : List Value, refsT tl l = true → refuseLoop self "__setattr__" l = pure () := by
  intro l
  induction l with
  | nil =>
    intro e
    rcases refsT_cases [] e with ⟨c, r', q, h⟩ | q
    · cases q
    · rw [q]; exact p
  | cons a r ih =>
    intro e
    rcases refsT_cases (a :: r) e with ⟨c, r', q, h⟩ | q
    · obtain ⟨rfl, rfl⟩ := List.cons.inj q
      rw [refuseLoop_ref]; exact ih h
    · rw [q]; exact p
theorem refsT_contains {tl : List Value} (X : String) : ∀ l : List Value, refsT tl l = true → l.contains (.type X) = tl.contains (.type X) := by
  intro l
  induction l with
  | nil =>
    intro e
    rcases refsT_cases [] e with ⟨c, r', q, h⟩ | q
    · cases q
    · rw [q]
  | cons a r ih =>
    intro e
    rcases refsT_cases (a :: r) e with ⟨c, r', q, h⟩ | q
    · obtain ⟨rfl, rfl⟩ := List.cons.inj q
      rw [List.contains_cons, ih h]; rfl
    · rw [q]

section
variable {M : Model} {prog : Program} {w : World} {A : Around} {E : Value → Shared → Prop} {R : Result → Shared → Prop} {h : Heap} {g : Array GenState} {d : Drawn} {t : Nat} {os : OsState}
variable {nm q : Str} {C N : Addr} {bs bm : List Value} {hdct : Bool} {sn : List Str} {sub : List Value} {ab : Bool} {col : Option Bool} {dd : Option Addr} {k0 k1 k2 k3 k5 : Option Value} {b : Bs}
theorem b_check_tc {rest : List Value} {kw : List (Str × Value)} {newId : String} {Q : Unit → Shared → Prop} (hC : h.get? C = some (excClassObj nm q C N bs bm hdct sn sub ab col dd k0 k1 k2 k3 k5 newId))
    (hq : Q () ⟨h, g, d, t, os⟩) : wpAny M A (checkBuiltinCall "type.__call__" ⟨.ref C :: rest, kw⟩) Q E ⟨h, g, d, t, os⟩ := by
  have f3 := tc_sub
  have hT : (⟨h, g, d, t, os⟩ : Shared).TypeIs (.ref C) "type" := ⟨_, hC, rfl⟩
  simp only [checkBuiltinCall, tc_kind, tc_split]
  repeat (any_goals (first | assumption | with_reducible refine wpAny_loadPart_at hC ?_ | with_reducible refine wpAny_onRaise ?_ | with_reducible refine wpAny_map ?_ | wp_step))
theorem b_check_new (F : BsOk b) (hT : ∀ X : String, bm.contains (.type X) = b.tl.contains (.type X)) {rest : List Value} {kw : List (Str × Value)} {Q : Unit → Shared → Prop}
    (hC : h.get? C = some (excClassObj nm q C N bs bm hdct sn sub ab col dd k0 k1 k2 k3 k5 b.newId)) (hq : Q () ⟨h, g, d, t, os⟩) : wpAny M A (checkBuiltinCall b.newId ⟨.ref C :: rest, kw⟩) Q E ⟨h, g, d, t, os⟩ := by
  have hcont : (Value.ref C :: bm).contains (.type b.nO) = true := by rw [List.contains_cons, hT, F.hasN, Bool.or_true]
  obtain ⟨iN, bmN, G⟩ := F.nf
  have hstar := G.noStar
  simp only [checkBuiltinCall, G.newKind, G.newSplit, G.newRow]
  repeat (first | refine wpAny_loadPart_at hC ?_ | (refine wpAny_isSubtype_exc hC ?_; rw [hcont]) | refine wpAny_staticBase_exc hC ?_ | refine wpAny_madeBy_exc hC ?_ | simp only [bne_self_eq_false, Bool.false_eq_true, if_false] | wp_step)
  exact hq
theorem b_new (F : BsOk b) (hT : ∀ X : String, bm.contains (.type X) = b.tl.contains (.type X)) {rest : List Value} {kw : List (Str × Value)}
    (hC : h.get? C = some (excClassObj nm q C N bs bm hdct sn sub ab col dd k0 k1 k2 k3 k5 b.newId))
    (hq : R (.ok (.ret (.ref (h.objs.size + 1)))) ⟨(h.push { cls := .type "tuple", data := .seq rest.toArray }).push
      { cls := .ref C, data := .fields #[.ref h.objs.size, .none, .none, .none, .bool false, .none] }, g, d, t, os⟩) (hrest : rest.length ≤ sizeLine) :
    codeAny (model prog w) A (.builtin b.newId ⟨.ref C :: rest, kw⟩) R ⟨h, g, d, t, os⟩ := by
  obtain ⟨iN, bmN, G⟩ := F.nf
  have hends := G.ends
  have hcB : (Value.ref C :: bm).contains (.type b.nO) = true := by rw [List.contains_cons, hT, F.hasN, Bool.or_true]
  have hcA : (Value.ref C :: bm).contains (.type "AttributeError") = false := by rw [List.contains_cons, hT, F.noA]; rfl
  have hcN : (Value.ref C :: bm).contains (.type "NameError") = false := by rw [List.contains_cons, hT, F.noN]; rfl
  refine codeAny_builtinAt G.entry ?_
  unfold Builtin.«BaseException.__new__»
  refine _root_.PySem.wpAt_bind ?_
  show _root_.PySem.wpAt _ _ _ (stack >>= _) _ _ _
  refine _root_.PySem.wpAt_bind (_root_.PySem.wpAt_stack fun p below => _root_.PySem.wpAt_of_wpAny ?_)
  wp_walk
  refine _root_.PySem.wpAt_of_wpAny ?_
  rw [G.owner]
  repeat (first | with_reducible refine wpAny_madeHere_exc G.canon hC ?_ | with_reducible refine wpAny_loadPart_at hC ?_ | (with_reducible refine wpAny_isSubtype_exc hC ?_; first | rw [hcB] | rw [hcA] | rw [hcN]) | wp_step)
  show R _ _
  rw [Heap.size_push]
  exact hq
theorem b_type_call (F : BsOk b) (hT : ∀ X : String, bm.contains (.type X) = b.tl.contains (.type X)) {rest : List Value} {kw : List (Str × Value)} {fI : Addr} {Q : Fin → Shared → Prop}
    (hC : h.get? C = some (excClassObj nm q C N bs bm hdct sn sub ab col dd k0 k1 k2 k3 k5 b.newId))
    (hi : W.Looks (model prog w) h (typeLookup (.ref C) "__init__") (some (.ref fI))) (hb : ∀ self, W.Looks (model prog w) h (bindSpecial (.ref fI) self) (.ref fI, [self])) (hrest : rest.length ≤ sizeLine)
    (hq : codeAny (model prog w) A (.call (.ref fI) ⟨.ref (h.objs.size + 1) :: rest, kw⟩)
      (fun r s' => match r with | .ok (.ret v) => v = .none ∧ Q (.done (.ret (.ref (h.objs.size + 1)))) s' | .ok _ => False | .error e => E e s')
      ⟨(h.push (W.kdv_tup rest)).push (excO C h.objs.size), g, d, t, os⟩) :
    wpAny (model prog w) A (Builtin.«type.__call__» ⟨.ref C :: rest, kw⟩) Q E ⟨h, g, d, t, os⟩ := by
  obtain ⟨iN, bmN, G⟩ := F.nf
  repeat (first | with_reducible refine wpAny_loadPart_at hC ?_ | with_reducible refine wpAny_madeBy_exc hC ?_ | wp_step)
  refine codeAny_call_builtin_code (Code.quiet_builtin _ G.quiet) (b_check_new F hT hC ?_)
  refine b_new F hT hC ?_ hrest
  show wpAny _ _ _ _ _ _
  have k : ∀ b o, h.get? b = some o → ((h.push (W.kdv_tup rest)).push (excO C h.objs.size)).get? b = some o := fun b o e => Heap.get?_push_of_some _ (Heap.get?_push_of_some _ e)
  have hC₁ := k _ _ hC
  have hget : ((h.push (W.kdv_tup rest)).push (excO C h.objs.size)).get? (h.objs.size + 1) = some (excO C h.objs.size) := by heap_get
  have hcC : (Value.ref C :: bm).contains (.ref C) = true := by simp
  have i1 := hi.keeps k
  have b1 := (hb (.ref (h.objs.size + 1))).keeps k
  unfold isInstance
  repeat (first | with_reducible refine wpAny_loadPart_at hget ?_ | (with_reducible refine wpAny_isSubtype_exc hC₁ ?_; rw [hcC]) | wp_step)
  show wpAny _ _ (typeLookup (.ref C) _) _ _ _
  refine i1.at ?_
  refine wpAny_holding (wpAny_bind (b1.at ?_))
  refine wpAny_bind (wpAny_call (codeAny_mono hq fun r s' z => ?_))
  rcases r with e | (v | _ | _ | _) <;> first | exact z | exact z.elim | skip
  obtain ⟨rfl, z⟩ := z
  first
    | exact wpAny_pure (wpAny_pure z)
    | (wp_walk; exact z)
theorem b_call (F : BsOk b) (hT : ∀ X : String, bm.contains (.type X) = b.tl.contains (.type X)) {rest : List Value} {kw : List (Str × Value)} {fI : Addr}
    (hC : h.get? C = some (excClassObj nm q C N bs bm hdct sn sub ab col dd k0 k1 k2 k3 k5 b.newId))
    (hi : W.Looks (model prog w) h (typeLookup (.ref C) "__init__") (some (.ref fI))) (hb : ∀ self, W.Looks (model prog w) h (bindSpecial (.ref fI) self) (.ref fI, [self])) (hrest : rest.length ≤ sizeLine)
    (hq : codeAny (model prog w) (A.under (.builtin "type.__call__" ⟨.ref C :: rest, kw⟩)) (.call (.ref fI) ⟨.ref (h.objs.size + 1) :: rest, kw⟩) (W.InitBack (h.objs.size + 1) R)
      ⟨(h.push (W.kdv_tup rest)).push (excO C h.objs.size), g, d, t, os⟩) :
    codeAny (model prog w) A (.call (.ref C) ⟨rest, kw⟩) R ⟨h, g, d, t, os⟩ := by
  have f1 := tc_lookup
  have f2 := tc_bind (.ref C)
  have hTy : (⟨h, g, d, t, os⟩ : Shared).TypeIs (.ref C) "type" := ⟨_, hC, rfl⟩
  refine codeAny_of_tree ?_
  show wpAny _ _ (callAny (.ref C) _) _ _ _
  repeat (any_goals (first | assumption | with_reducible refine wpAny_loadPart_at hC ?_ | wp_step))
  refine ⟨rfl, ?_⟩
  refine codeAny_call_builtin_at (Code.quiet_builtin _ (by decide +kernel)) entry_typeCall (b_check_tc hC (b_type_call F hT hC hi hb hrest ?_))
  refine codeAny_mono hq fun r s' z => ?_
  rcases r with e | (v | _ | _ | _) <;> exact z
theorem b_bound_init (F : BsOk b) {e : Addr} {oe : Obj} {rest : List Value} {Q : Unit → Shared → Prop}
    (hC : h.get? C = some (excClassObj nm q C N bs bm hdct sn sub ab col dd k0 k1 k2 k3 k5 b.newId)) (he : h.get? e = some oe) (hcls : oe.cls = .ref C) (hq : Q () ⟨h, g, d, t, os⟩) : wpAny M A (checkBoundCall b.initId ⟨.ref e :: rest, []⟩) Q E ⟨h, g, d, t, os⟩ := by
  have hshort := F.noStar
  simp only [checkBoundCall, F.initKind, F.initRow]
  repeat (first | (with_reducible refine wpAny_loadPart_at he ?_; rw [hcls]) | with_reducible refine wpAny_loadPart_at hC ?_ | wp_step)
  refine wpAny_onRaise ?_
  rw [show ∀ (a c : String) (n : Nat), Bind.check ⟨.positional, "*", b.B, .self, [⟨"args", .varPos, false⟩]⟩ a c n (List.map (fun x => x.fst) ({ pos := Value.ref e :: rest } : Args).kw) = pure () from
    fun a b n => check_star_args _ _ _ _ _ _]
  exact wpAny_pure hq
end
section
open Builtin Builtin.ObjectAttr
variable {prog : Program} {w : World} {A : Around} {E : Value → Shared → Prop} {R : Result → Shared → Prop} {hp : Heap} {g : Array GenState} {d : Drawn} {t : Nat} {os : OsState} {b : Bs}
theorem b_osa (B : BsOk b) {K : W.Frag} {name : Str} {tk : Tok} {v : Value} {x C : Addr} {fv : Array Value} {cd : ClassData}
    (X : K.In hp) (hx : hp.get? x = some { cls := .ref C, data := .fields fv }) (hcd : W.clsIn K C = some cd) (hm : refsT b.tl cd.mro = true) (ne : cd.mro.isEmpty = false) (hh : cd.hasDict = true) (ha : W.findIn K (.ref C) name = some none)
    (hq : ∀ h' tk' dx, (∀ b o, b ≠ x → hp.get? b = some o → h'.get? b = some o) → hp.objs.size ≤ dx → dx ≠ x → h'.get? x = some { cls := .ref C, dict := some dx, data := .fields fv } →
      h'.Ns1 dx (fun y => if y = name then some v else none) → R (.ok (.ret .none)) ⟨h', g, d, tk', os⟩) :
    codeAny (model prog w) A (.call (.builtin "object.__setattr__") ⟨[.ref x, .str name tk, v], []⟩) R ⟨hp, g, d, t, os⟩ := by
  have I : W.InstAt hp x { cls := .ref C, data := .fields fv } C none := ⟨hx, rfl, rfl, trivial⟩
  have SF := F.store_object
  have hob : cd.mro.contains (.type "object") = true := (refsT_contains "object" _ hm).trans B.ob
  have hxs : x ≠ hp.objs.size := Nat.ne_of_lt (Heap.lt_size hx)
  have sub : W.Looks (model prog w) hp (isInstance (.ref x) (.type "object")) true := I.type.andThen (W.looks_mroIn X (by unfold W.mroIn; rw [hcd, Option.bind_some, if_neg (by rw [ne]; decide), hob]))
  refine codeAny_call_builtin SF.slot.plain SF.entry (@W.check_slot (model prog w) _ _ ⟨hp, g, d, t, os⟩ "object.__setattr__" "object" "__setattr__" (.ref x) [.str name tk, v] [] _ SF.kind SF.split sub (SF.args (.ref x) (.str name tk) v) ?_)
  have hmr : W.Looks (model prog w) hp (mroOf (.ref C)) cd.mro := (W.looks_clsIn X hcd).andThen .now
  have L3 : W.Looks (model prog w) hp (storeTaker? none) none := .now
  have hcls : W.Looks (model prog w) hp (classData C) cd := W.looks_clsIn X hcd
  rw [W.osa_eq, refuse_eq]
  refine wpAny_bind (wpAny_bind (I.type.at (wpAny_bind (hmr.at ?_))))
  rw [refsT_pass (B.pass _) _ hm]
  refine wpAny_pure (wpAny_bind (I.type.at (wpAny_bind ((W.looks_findIn X ha).at (wpAny_bind (L3.at ?_))))))
  show wpAny _ _ (storeInOwnDict (.ref x) (.ref C) (.str name tk) name v false) _ _ _
  obtain ⟨nm, bs, mro, ns, qn, hd, sn, sb, ab, col, del⟩ := cd
  dsimp only at hh
  subst hh
  unfold storeInOwnDict ownDictForStores
  repeat (first | with_reducible refine store_in_new ?_ ?_ | with_reducible refine wpAny_loadPart_at hx ?_ | with_reducible refine hcls.at ?_ | wp_step)
  · exact ⟨_, #[], _, (Heap.get?_update_ne _ _ _ _ hxs.symm).trans (Heap.get?_push_at rfl rfl), rfl, fun e he => absurd he (by simp), fun _ => rfl⟩
  · intro h' tk' hn' hs
    have hx₁ : (hp.push { cls := .type "dict", data := .dict #[] }).get? x = some { cls := .ref C, data := .fields fv } := Heap.get?_push_of_some _ hx
    refine hq h' tk' hp.objs.size (fun b o hb ho => ?_) (Nat.le_refl _) hxs.symm ?_ hn'
    · exact (hs.2 b (Nat.ne_of_lt (Heap.lt_size ho))).trans ((Heap.get?_update_ne _ _ _ _ hb).trans (Heap.get?_push_of_some _ ho))
    · exact (hs.2 x hxs).trans (Heap.get?_update_self _ hx₁ rfl)
end
end PL

set_option Elab.async false
set_option linter.all false
set_option maxRecDepth 100000
set_option maxHeartbeats 4000000
/-! an own error over ValueError, its __init__: super().__init__(value); self.value = value -/
namespace PL
open PySem PySem.Spec PySem.W PySem.Calls PyProof.Rows PySem.HandSPX
def xA (p1 p2 : Pos) : Arguments := { posonlyargs := [], args := [{ arg := "self", annotation := none, pos := p1 }, { arg := "value", annotation := none, pos := p2 }], vararg := none, kwonlyargs := [], kw_defaults := [], kwarg := none, defaults := [] }
def xB (q1 q2 q3 q4 q5 q6 r1 r2 r3 r4 : Pos) : List Stmt :=
  [.Expr (.Call (.Attribute (.Call (.Name "super" q1) [] [] q2) "__init__" q3) [.Name "value" q4] [] q5) q6, .Assign [.Attribute (.Name "self" r1) "value" r2] (.Name "value" r3) r4]
def xS : Scope := { kind := .function, names := [(PySem.Str.ofString "self", .local), (PySem.Str.ofString "value", .local), (PySem.Str.ofString "__class__", .free), (PySem.Str.ofString "super", .globalImplicit)], isGenerator := false, isCoroutine := false, more := [] }
/-- what the written part says of such a class at C; D: the class whose __init__, at fI, it is -/
structure XTxt (prog : Program) (K : Frag) (β : Bs) (C : Addr) : Prop where
  base : BsOk β
  cls : ∃ nm q N bs bm sn sub ab col dd k0 k1 k2 k3 k5, K.lookup C = some (excClassObj nm q C N bs bm true sn sub ab col dd k0 k1 k2 k3 k5 β.newId) ∧ refsT β.tl bm = true
  sa : findIn K (.ref C) "__setattr__" = some (some (.builtin "object.__setattr__"))
  noN : findIn K (.ref C) "value" = some none
  kC : keepIn K (.ref C) = true
  exC : subIn K (.ref C) (.type "BaseException") = some true
  veC : subIn K (.ref C) (.type β.B) = some true
  tyC : typeIn K (.ref C) = some (.type "type")
  opq : nsIn K cStatics "thirdparty.any" = some none
  sup : nsIn K mainGlobals "super" = some none
  top : (prog.main.scope.names.lookup ("super" : Str)).isSome = false
  fn : ∃ (D fI cc cda : Addr) (qual : Str) (oc : Value) (od : Option Addr) (kV doc pm : Value) (an : Option Addr) (ct : Value) (osl : Array (Option Value)) (p1 p2 q1 q2 q3 q4 q5 q6 r1 r2 r3 r4 : Pos) (cl : Value) (cld : Option Addr) (csl : Array (Option Value)) (cdD : ClassData)
      (ccl : Value) (cdd : Option Addr) (vs : Array Value) (ccs : Array (Option Value)) (file : Str) (tf : Tok),
    findIn K (.ref C) "__init__" = some (some (.ref fI)) ∧ typeIn K (.ref fI) = some (.type "function") ∧
    K.lookup fI = some ⟨oc, od, .func (ksFn "__init__" qual (xA p1 p2) (xB q1 q2 q3 q4 q5 q6 r1 r2 r3 r4) xS .none kV doc pm an (.ref cda) ct cc), osl⟩ ∧ codeIn K (.ref cda) qual = true ∧
    K.lookup cc = some ⟨cl, cld, .cell (some (.ref D)), csl⟩ ∧ clsIn K D = some cdD ∧ mroIn K C (.ref D) = some true ∧ ks_superIn K C D "__init__" = some (some (.builtin β.initId)) ∧
    K.lookup cda = some ⟨ccl, cdd, .fields vs, ccs⟩ ∧ vs[2]? = some (.str file tf) ∧ ((prog.main.file : Str) == file) = true ∧
    ∃ pl : Env → Sem Bool, ∀ env : Env, eval (.Call (.Attribute (.Call (.Name "super" q1) [] [] q2) "__init__" q3) [.Name "value" q4] [] q5) env = (do
      let ov ← attributeBase (.Call (.Name "super" q1) [] [] q2) "__init__" env (eval (.Call (.Name "super" q1) [] [] q2) env)
      standAt q3.atName
      let (f, first) ← holding [ov] (getMethod ov "__init__" (pl env))
      callWith q5 f first (backTo q5 (starEach [.Name "value" q4] env)) [])
/-- what __init__ leaves of a fresh exception at x -/
structure XInit (h h' : Heap) (x C dx t1 : Addr) (v : Value) : Prop where
  keep : ∀ b o, b ≠ x → h.get? b = some o → h'.get? b = some o
  obj : h'.get? x = some { cls := .ref C, dict := some dx, data := .fields #[.ref t1, .none, .none, .none, .bool false, .none] }
  dbig : h.objs.size ≤ dx
  dne : dx ≠ x
  ns : h'.Ns1 dx (fun y => if y = "value" then some v else none)
section
variable {prog : Program} {w : World} {A : Around} {E : Value → Shared → Prop} {R : Result → Shared → Prop} {s : Shared} {K : Frag} {mg mb : Str → Option Value} {C : Addr} {β : Bs}
/-- ValueError.__init__ bound, called -/
theorem x_bw (B : BsOk β) {nm q : Str} {N : Addr} {bs bm : List Value} {hdct : Bool} {sn : List Str} {sub : List Value} {ab : Bool} {col : Option Bool} {dd : Option Addr} {k0 k1 k2 k3 k5 : Option Value} {h : Heap} {g : Array GenState} {d : Drawn} {t : Nat} {os : OsState} {u e t0 : Addr} {rest : List Value} {Q : Value → Shared → Prop}
    (hC : h.get? C = some (excClassObj nm q C N bs bm hdct sn sub ab col dd k0 k1 k2 k3 k5 β.newId)) (he : h.get? e = some (excO C t0)) (hu : h.get? u = some (kxs_mw β.initId e)) (hrest : rest.length ≤ sizeLine)
    (hq : ∀ h' t1, (∀ b o, b ≠ e → h.get? b = some o → h'.get? b = some o) → h'.get? e = some (excO C t1) → Q .none ⟨h', g, d, t, os⟩) :
    wpAny (model prog w) A (call (.ref u) rest) Q E ⟨h, g, d, t, os⟩ := by
  refine wpAny_call (codeAny_of_tree ?_)
  show wpAny _ A.in1 (callAny (.ref u) ⟨rest, []⟩) _ _ _
  simp only [callAny]
  refine wpAny_bind (wpAny_load hu ?_)
  simp only [kxs_mw, show (Value.type "method-wrapper" == Value.type "method" || Value.type "method-wrapper" == Value.type "builtin_function_or_method" || Value.type "method-wrapper" == Value.type "method-wrapper") = true by decide, if_true]
  refine W.KFB.if_so (by decide) ?_
  refine wpAny_bind (b_bound_init B hC he rfl ?_)
  refine wpAny_bind (wpAny_pure (wpAny_pure ?_))
  refine ⟨Code.quiet_builtin _ B.quiet, codeAny_builtin B.initEntry ?_⟩
  rw [Around.under_plainId B.init.plain _]
  wp_walk
  refine hq _ h.objs.size (fun b o hb ho => ?_) ?_
  · rw [Heap.get?_update_other _ _ (Ne.symm hb)]
    exact Heap.get?_push_of_some _ ho
  · rw [Heap.get?_update_self _ (Heap.get?_push_of_some _ he) rfl]
    rfl
theorem x_init (T : XTxt prog K β C) {x t0 : Addr} {v : Value} {fI : Addr} (hfI : findIn K (.ref C) "__init__" = some (some (.ref fI))) (X : K.In s.heap) (hG : s.heap.Ns mainGlobals mg) (hB : s.heap.Ns builtinsNs mb) (hbb : ∀ x : Str, x ≠ "__name__" → mb x = bootBuiltins x) (hlim : s.heap.NoLimit)
    {args : Args} (ha : args = ⟨[.ref x, v], []⟩ ∨ args = ⟨[.ref x], [(PySem.Str.ofString "value", v)]⟩) (hx : s.heap.get? x = some (excO C t0)) (hnx : K.lookup x = none) (hroom : A.depth < recursionLimit) (hq : ∀ h' tk dx t1, XInit s.heap h' x C dx t1 v → R (.ok (.ret .none)) { s with heap := h', toks := tk }) :
    codeAny (model prog w) A (.call (.ref fI) args) R s := by
  obtain ⟨D, fI', cc, cda, qual, oc, od, kV, doc, pm, an, ct, osl, p1, p2, q1, q2, q3, q4, q5, q6, r1, r2, r3, r4, cl, cld, csl, cdD, ccl, cdd, vs, ccs, file, tf, hfI', htf, hfn, hcd, hcell, hcD, hsub, hsup, hcode, hvs, hfile, pl, hev⟩ := T.fn
  rw [hfI] at hfI'
  cases hfI'
  obtain ⟨nm, q, N, bs, bm, sn, sub, ab, col, dd, k0, k1, k2, k3, k5, hC, hbm⟩ := T.cls
  have hcl : clsIn K C = some { name := nm, bases := bs, mro := .ref C :: bm, ns := N, qualname := q, hasDict := true, slotNames := sn, subclasses := sub, abstract := ab, collection := col, hasDel := false } := by unfold clsIn; rw [hC] <;> rfl
  refine ks_codeAny_call_defAt (binds := [("self", .ref x), ("value", v)]) hroom (X _ _ hfn) rfl hlim (codeRec_of X hcd) rfl (BindsTo.of_eq (by rcases ha with rfl | rfl <;> first | rfl | with_unfolding_all rfl)) (show ∀ y ∈ xS.names, y.2 ≠ .cell by decide) (fun y hy => by
    rcases List.mem_cons.mp hy with rfl | hy
    · rfl
    · rcases List.mem_cons.mp hy with rfl | hy
      · rfl
      · cases hy) (fun h₁ hn k => ?_)
  have X₁ : K.In h₁ := X.keeps k
  have hx₁ := k _ _ hx
  have hself : (fun y => ([("self", Value.ref x), ("value", v)] : List (Str × Value)).reverse.lookup y) ("self" : Str) = some (.ref x) := by first | rfl | decide
  have hval : (fun y => ([("self", Value.ref x), ("value", v)] : List (Str × Value)).reverse.lookup y) ("value" : Str) = some v := by first | rfl | decide
  show _root_.PySem.wpAt _ _ _ (execs (.Expr (.Call (.Attribute (.Call (.Name "super" q1) [] [] q2) "__init__" q3) [.Name "value" q4] [] q5) q6 :: [.Assign [.Attribute (.Name "self" r1) "value" r2] (.Name "value" r3) r4]) _) _ _ _
  refine ks_wpAt_execs_cons (ks_wpAt_Expr_any (ks_wpAt_MethodCall (pl := pl _) ?_ (hev _)))
  obtain ⟨oD, hD1, hD2⟩ : ∃ oD, h₁.get? D = some oD ∧ oD.data = .cls cdD := by
    unfold clsIn at hcD
    split at hcD
    · rename_i c d cd' sl ho
      cases hcD
      exact ⟨_, X₁ _ _ ho, rfl⟩
    · cases hcD
  refine ks_wpAt_super_base (f := fI) (cc := cda) (ar := { arg := "self", annotation := none, pos := p1 }) (by rfl) (by rfl) (by decide) rfl (X₁ _ _ hfn) rfl rfl rfl (X₁ _ _ hcode) rfl hvs hfile T.top ?_
  refine ks_loadName_global (by rfl) (by rfl) (loadGlobal_builtin (hG.keeps k) (mg_none_of X hG T.sup) (hB.keeps k) ((hbb "super" (by decide +kernel)).trans (by first | boot_by_name | rfl | kernel_rfl)) ⟨rfl, ?_⟩)
  refine wpAny_loadName_free (by rfl) (by rfl) rfl ⟨_, X₁ _ _ hcell, rfl⟩ ?_
  refine wpAny_loadName_local (by rfl) (by rfl) hn hself ?_
  refine ks_wpAny_isType_cls hD1 hD2 ⟨rfl, ?_⟩
  refine ks_wpAny_call_super hD1 hD2 hx₁ rfl (fun c e => by cases e) (looks_mroIn X₁ hsub) (fun h₂ e₂ k₂ => ?_)
  have X₂ : K.In h₂ := X₁.keeps k₂
  have xneC : x ≠ C := fun z => by
    have e1 := X₁ _ _ hC
    rw [← z, hx₁] at e1
    cases e1
  have J₂ : InstAt h₂ x (excO C t0) C none := ⟨k₂ _ _ hx₁, rfl, rfl, trivial⟩
  have hI₂ : Looks (model prog w) h₂ (isInstance (.ref x) (.type β.B)) true := J₂.type.andThen (looks_subIn X₂ T.veC)
  unfold ks_superIn at hsup
  rw [hcl] at hsup
  refine kxs_getMethod T.base.kf e₂ (looks_opaque X₂ T.opq) (l₀ := .ref C :: bm) ?_ rfl X₂ hsup hI₂ xneC (by decide) ?_
  · exact fun A Q E s k q => wpAny_bind ((looks_clsIn X₂ hcl) A _ E s k (wpAny_pure q))
  have k₃ : ∀ b o, h₂.get? b = some o → (h₂.push (kxs_mw β.initId x)).get? b = some o := fun b o e => Heap.get?_push_of_some _ e
  have hu₃ : (h₂.push (kxs_mw β.initId x)).get? h₂.objs.size = some (kxs_mw β.initId x) := Heap.get?_push_at rfl rfl
  have X₃ : K.In (h₂.push (kxs_mw β.initId x)) := X₂.keeps k₃
  have hn₃ : (h₂.push (kxs_mw β.initId x)).Ns s.heap.objs.size (fun y => ([("self", Value.ref x), ("value", v)] : List (Str × Value)).reverse.lookup y) := hn.keeps fun b o e => k₃ b o (k₂ b o e)
  show wpAny _ _ (callWith q5 (.ref h₂.objs.size) [] (backTo q5 (starEach [.Name "value" q4] _)) []) _ _ _
  refine kxs_callWith (i := β.initId) (x := x) rfl (evalArgs_plain ?_)
  refine Calls.spliced_cons (wpAny_Name (wpAny_loadName_local (by rfl) (by rfl) hn₃ hval ?_) (by decide)) 
  refine Calls.spliced_nil ⟨hu₃, ?_⟩
  refine x_bw T.base (rest := [v]) (X₃ _ _ hC) (k₃ _ _ (k₂ _ _ hx₁)) hu₃ (by rw [sizeLine_eq]; exact (by decide : 1 ≤ 16777216)) fun h₄ t1 k₄ hx₄ => ?_
  show _root_.PySem.wpAt _ _ _ (execs (.Assign [.Attribute (.Name "self" r1) "value" r2] (.Name "value" r3) r4 :: []) _) _ _ _
  have X₄ : K.In h₄ := fun a o e => k₄ a o (fun z => by rw [z, hnx] at e; cases e) (X₃ a o e)
  have hLx : s.heap.objs.size ≠ x := Nat.ne_of_gt (Heap.lt_size hx)
  have hn₄ : h₄.Ns s.heap.objs.size (fun y => ([("self", Value.ref x), ("value", v)] : List (Str × Value)).reverse.lookup y) := by
    obtain ⟨o, es, ep, e, r⟩ := hn₃
    exact ⟨o, es, ep, k₄ _ _ hLx e, r⟩
  refine wpAt_of_wpAny (wpAny_execs_cons (plainObj_wpAny_Assign_Attribute ?_))
  refine wpAny_Name (wpAny_loadName_local (by rfl) (by rfl) hn₄ hval ?_) (by decide)
  refine wpAny_Name (wpAny_loadName_local (by rfl) (by rfl) hn₄ hself ?_) (by decide)
  refine set_plain X₄ (ox := excO C t1) (od := none) ⟨hx₄, rfl, rfl, trivial⟩ T.sa ?_
  refine b_osa T.base X₄ hx₄ hcl (show refsT β.tl (.ref C :: bm) = true from hbm) rfl rfl T.noN (fun h₅ tk₅ dx k₅ dn dne hx₅ hn₅ => ?_)
  show wpAny _ _ (execs _ _) _ _ _
  have sz : s.heap.objs.size ≤ h₄.objs.size := Nat.le_of_lt hn₄.lt
  refine wpAny_execs_nil (hq h₅ tk₅ dx t1 ⟨fun b o hb e => k₅ b o hb (k₄ b o hb (k₃ b o (k₂ b o (k b o e)))), hx₅, Nat.le_trans sz dn, dne, hn₅⟩)
/-- a made error -/
structure XMade (h h' : Heap) (e C d : Addr) (v : Value) : Prop where
  keep : ∀ b o, h.get? b = some o → h'.get? b = some o
  new : h.objs.size ≤ e
  obj : ∃ oe vs, h'.get? e = some oe ∧ oe.cls = .ref C ∧ oe.dict = some d ∧ oe.data = .fields vs ∧ vs[1]? = some .none
  dbig : h.objs.size ≤ d
  dne : d ≠ e
  ns : h'.Ns1 d (fun y => if y = "value" then some v else none)
theorem x_made (T : XTxt prog K β C) {v : Value} (X : K.In s.heap) (hG : s.heap.Ns mainGlobals mg) (hB : s.heap.Ns builtinsNs mb) (hbb : ∀ x : Str, x ≠ "__name__" → mb x = bootBuiltins x) (hlim : s.heap.NoLimit) (hroom : A.depth + 1 < recursionLimit) {rest : List Value} {kw : List (Str × Value)} (ha : (rest = [v] ∧ kw = []) ∨ (rest = [] ∧ kw = [(PySem.Str.ofString "value", v)]))
    (hq : ∀ h' tk e d, XMade s.heap h' e C d v → R (.ok (.ret (.ref e))) { s with heap := h', toks := tk }) :
    codeAny (model prog w) A (.call (.ref C) ⟨rest, kw⟩) R s := by
  obtain ⟨nm, q, N, bs, bm, sn, sub, ab, col, dd, k0, k1, k2, k3, k5, hC, hbm⟩ := T.cls
  obtain ⟨D, fI, cc, cda, qual, oc, od, kV, doc, pm, an, ct, osl, p1, p2, q1, q2, q3, q4, q5, q6, r1, r2, r3, r4, cl, cld, csl, cdD, ccl, cdd, vs, ccs, file, tf, hfI, htf, _⟩ := T.fn
  obtain ⟨hp, g, dr, tk, os⟩ := s
  have k : ∀ b o, hp.get? b = some o → ((hp.push (kdv_tup rest)).push (excO C hp.objs.size)).get? b = some o := fun b o e => Heap.get?_push_of_some _ (Heap.get?_push_of_some _ e)
  have hget : ((hp.push (kdv_tup rest)).push (excO C hp.objs.size)).get? (hp.objs.size + 1) = some (excO C hp.objs.size) := by heap_get
  have hnx : K.lookup (hp.objs.size + 1) = none := by
    cases e : K.lookup (hp.objs.size + 1) with
    | none => rfl
    | some o =>
      have z : hp.get? (hp.objs.size + 1) = some o := X _ _ e
      exact absurd (Nat.lt_of_succ_lt (Heap.lt_size z)) (Nat.lt_irrefl _)
  refine b_call T.base (fun X => refsT_contains X bm hbm) (X _ _ hC) (looks_findIn X hfI) (fun self => bind_fn X self htf) (by rw [sizeLine_eq]; rcases ha with ⟨rfl, _⟩ | ⟨rfl, _⟩ <;> simp) ?_
  refine x_init (s := ⟨(hp.push (kdv_tup rest)).push (excO C hp.objs.size), g, dr, tk, os⟩) T hfI (X.keeps k) (hG.keeps k) (hB.keeps k) hbb (hlim.keeps k) (by rcases ha with ⟨rfl, rfl⟩ | ⟨rfl, rfl⟩; exact .inl rfl; exact .inr rfl) hget hnx ?_ fun h' tk' dx t1 M => ?_
  · show A.depth + 1 < recursionLimit
    exact hroom
  · obtain ⟨k', hx, dn, dne, hns⟩ := M
    have old : ∀ b o, hp.get? b = some o → h'.get? b = some o := fun b o e => k' b o (Nat.ne_of_lt (Nat.lt_succ_of_lt (Heap.lt_size e))) (k b o e)
    have z : hp.objs.size + 1 + 1 ≤ dx := by
      first
        | (simpa only [Heap.size_push] using dn)
        | exact dn
        | (have q := dn; rw [Heap.size_push, Heap.size_push] at q; exact q)
    exact ⟨rfl, hq h' tk' (hp.objs.size + 1) dx ⟨old, Nat.le_succ _, ⟨_, _, hx, rfl, rfl, rfl, rfl⟩, Nat.le_trans (Nat.le_trans (Nat.le_succ _) (Nat.le_succ _)) z, dne, hns⟩⟩
end
end PL

set_option Elab.async false
set_option linter.all false
set_option maxRecDepth 100000
set_option maxHeartbeats 4000000
/-! exceptions of own classes as values: made, asked (isinstance), read (.value) -/
namespace PL
section
open PySem PySem.Spec PySem.W PySem.Calls PyProof.Rows
variable {prog : Program} {w : World} {A : Around} {E : Value → Shared → Prop} {s : Shared} {K : Frag} {x D : Addr} {ox : Obj} {od : Option Obj}
theorem findObj_dataG {C : Addr} {name : Str} {a g : Value} (hc : (clsIn K C).isSome = true) (ha : findIn K (.ref C) name = some (some a)) (hg : specialIn K a "__get__" = some (some g)) (ht : takesIn K a = some true) : findObj K C od name = some (.bind g a) := by
  obtain ⟨cd, hc⟩ := Option.isSome_iff_exists.mp hc
  unfold findObj
  rw [hc, Option.bind_some, ha, Option.bind_some]
  simp [hg, ht]
theorem kin_classG {Q : Option Value → Shared → Prop} (C : L2.ExcC K D)
    (X : K.In s.heap) (I : InstAt s.heap x ox D od) (h : Q (some (.ref D)) { s with toks := s.toks + 1 }) : wpAny (model prog w) A (getAttr? (.ref x) "__class__") Q E s := by
  obtain ⟨hga, hgt, hsub, hdct, ha, hn, htk, hm⟩ := C
  have hf : findObj K D od "__class__" = some (.bind (.builtin "getset_descriptor.__get__") (.builtin "object.__class__")) := findObj_dataG (by obtain ⟨cd, hc, _⟩ := any_some hdct; rw [hc]; rfl) ha hn htk
  obtain ⟨hp, g, d, t, os⟩ := s
  have L0 := I.type (M := model prog w)
  have L1 := looks_findIn (M := model prog w) X hga
  have L2 := looks_findIn (M := model prog w) X hgt
  have L3 := looks_find (M := model prog w) X I hf
  have sub : Looks (model prog w) hp (isInstance (.ref x) (.type "BaseException")) true := L0.andThen (looks_subIn X hsub)
  have hx0 : (false && onTheHeap (Value.builtin "BaseException.__getattribute__")) = false := rfl
  have hx2 : (Value.builtin "BaseException.__getattribute__" == Value.builtin "object.__getattribute__") = false := by decide +kernel
  have hx1 : (onTheHeap (Value.ref D) && Value.builtin "BaseException.__getattribute__" == Value.builtin "object.__getattribute__") = false := by rw [hx2]; rfl
  unfold getAttr? getAttrBy? getAttrBy
  refine wpAny_bind (wpAny_mkText (wpAny_bind (wpAny_attempt (wpAny_holding (wpAny_bind (L0.at (wpAny_bind (L1.at ?_))))))))
  show wpAny _ _ (if (onTheHeap (Value.ref D) && Value.builtin "BaseException.__getattribute__" == Value.builtin "object.__getattribute__") = true then _ else _) _ _ _
  rw [hx1, if_neg Bool.false_ne_true]
  unfold getAttrByItsOwn hookBefore
  refine wpAny_bind ?_
  rw [if_pos (show onTheHeap (Value.ref D) = true from rfl)]
  refine L2.at ?_
  refine wpAny_bind (wpAny_attempt (wpAny_holding ?_))
  unfold callGetattribute
  rw [hx0, if_neg Bool.false_ne_true]
  unfold boundAndCalled
  rw [PySem.F.excAttr_ValueError.ga.bind (.ref x)]
  refine wpAny_bind (wpAny_pure ?_)
  show wpAny _ _ (call (.builtin "BaseException.__getattribute__") [.ref x, .str "__class__" t]) _ _ _
  refine wpAny_call (codeAny_call_builtin PySem.F.excAttr_ValueError.ga.plain PySem.F.entry_bexc_ga ?_)
  refine @check_slot (model prog w) _ _ ⟨hp, g, d, t + 1, os⟩ "BaseException.__getattribute__" "BaseException" "__getattribute__" (.ref x) [.str "__class__" t] [] _ (by decide +kernel) (by decide +kernel) sub (PySem.F.args_bexc_ga (.ref x) (.str "__class__" t)) ?_
  unfold Builtin.«object.__getattribute__»
  refine wpAny_bind (wpAny_of_eq (a := ((Value.ref x : Value), [Value.str "__class__" t])) (by first | rfl | (simp only [slotArgs]; rfl)) ?_)
  refine wpAny_bind (wpAny_pure (wpAny_bind (L0.at (wpAny_bind (L3.at ?_)))))
  show wpAny _ _ (holding [Value.builtin "object.__class__"] (call (.builtin "getset_descriptor.__get__") [.builtin "object.__class__", .ref x, .ref D]) >>= ret) _ _ _
  refine wpAny_bind (wpAny_holding (wpAny_call (class_get (s := ⟨hp, g, d, t + 1, os⟩) (ox := ox) (od := od) X I hm ?_)))
  refine wpAny_pure ?_
  show wpAny _ _ (handedOut (.ref D)) _ _ _
  rw [handedOut_of (v := .ref D) rfl]
  first
    | exact wpAny_pure (wpAny_pure h)
    | exact wpAny_pure h
    | exact wpAny_pure (wpAny_bind (wpAny_pure (wpAny_pure h)))
theorem kitx_excG (C : L2.ExcC K D) : KitX K (.ref x) (.ref D) (fun h => ∃ ox od, InstAt h x ox D od) where
  ty := fun _ _ _ ⟨_, _, I⟩ => I.type
  it := fun _ _ X _ => by
    obtain ⟨cdD, hcD, _⟩ := any_some C.hd
    unfold clsIn at hcD
    split at hcD
    · rename_i c' d' cd' sl' ho
      intro A' Q' E' s' k q
      unfold isType loadHead
      exact wpAny_bind (wpAny_loadPart (k _ _ (X _ _ ho)) (wpAny_pure q))
    · cases hcD
  ne := fun h tp dd its n sl X htp => by
    obtain ⟨cdD, hcD, _⟩ := any_some C.hd
    refine Bool.eq_false_iff.mpr fun q => ?_
    have e : D = tp := Value.ref.inj (beq_iff_eq.mp q)
    subst e
    unfold clsIn at hcD
    split at hcD
    · rename_i c' d' cd' sl' ho
      have z := (X _ _ ho).symm.trans htp
      cases z
    · cases hcD
  ca := fun X ⟨_, _, I⟩ k => kin_classG C X I k
end
open PySem PySem.Spec PyProof.Rows L2
/-- what a tracked exception is -/
theorem xv_inst {X : Cx} {pins : List (Addr × Obj)} {σ : L2.St} {H : Hp} {s : Shared} {a C : Addr} {od : Option Addr} (I : Inv X pins σ H s) (h : H a = some (XvO C od a)) (hd : ∀ dx, od = some dx → ∃ gs, H dx = some (.xd gs)) : ∃ oe oo, PySem.W.InstAt s.heap a oe C oo := by
  obtain ⟨⟨oe, vs, ho, hz, hf⟩, _, _⟩ := I.hok a _ h
  cases od with
  | none => exact ⟨oe, none, ho, hz.1, by unfold PySem.W.notCls; rw [hf] <;> rfl, by rw [hz.2]; trivial⟩
  | some dx =>
    obtain ⟨gs, q⟩ := hd dx rfl
    obtain ⟨mA, hns, hr⟩ := (show ObjOk X.prog X.w H s.heap dx (.xd gs) from I.hok dx _ q)
    obtain ⟨oo, ho2, hl⟩ := lookIn_ns hns
    exact ⟨oe, some oo, ho, hz.1, by unfold PySem.W.notCls; rw [hf] <;> rfl, by rw [hz.2]; exact ho2⟩

/-! ### isinstance -/
/-- a value's type: a built-in one, an own class of instances, an own class of exceptions -/
inductive Tn where
  | ty (n : String)
  | ins (c : Str)
  | exc (c : Str)
def Tn.val (K : Fg) : Tn → Value
  | .ty n => .type n
  | .ins c => .ref (He.ga K c)
  | .exc c => .ref (He.ga K c)
def tnOf (h : HE) : D → Option Tn
  | .non => some (.ty "NoneType")
  | .bl _ => some (.ty "bool")
  | .int _ => some (.ty "int")
  | .str _ => some (.ty "str")
  | .tup _ => some (.ty "tuple")
  | .wl _ => some (.ty "list")
  | .obj i => match h.get i with
    | some (.lst _) => some (.ty "list")
    | some (.dic _) => some (.ty "dict")
    | some (.ins c _) => some (.ins c)
    | some (.exi c _) => some (.exc c)
    | _ => none
  | _ => none
/-- answers: for own classes asked, for built-in types asked -/
abbrev Irow := List (Str × Bool) × List (String × Bool)
structure Itab where
  ty : List (String × Irow)
  ins : List (Str × Irow)
  exc : List (Str × Irow)
def Itab.row (T : Itab) : Tn → Option Irow
  | .ty n => T.ty.lookup n
  | .ins c => T.ins.lookup c
  | .exc c => T.exc.lookup c
def askR (r : Irow) : D → Option Bool
  | .ty n => r.2.lookup n
  | .kr x => r.1.lookup x
  | _ => none
def isi2 (T : Itab) : D → D → HE → Rs D := fun d c h => match tnOf h d with
  | none => .fail
  | some t => match T.row t with
    | none => .fail
    | some r => match askR r c with
      | some b => .ok (.bl b) h
      | none => .fail
def bIsi (T : Itab) : Fn := fn2 (isi2 T)
/-- what an own class of instances must say -/
structure InsC (K : Fg) (C : Addr) : Prop where
  cl : Cls K C
  ha : PySem.W.findIn K (.ref C) "__class__" = some (some (.builtin "object.__class__"))
  hn : PySem.W.specialIn K (.builtin "object.__class__") "__get__" = some (some (.builtin "getset_descriptor.__get__"))
  htk : PySem.W.takesIn K (.builtin "object.__class__") = some true
  hm : PySem.W.mroIn K C (.type "object") = some true
def rowB (K : Fg) (t : Value) (r : Irow) : Bool := (r.1.all fun p => decide (PySem.W.kitOne K t (.ref (He.ga K p.1)) = some p.2)) && r.2.all fun p => decide (PySem.W.kitOne K t (.type p.1) = some p.2)
structure ItOk (K : Fg) (T : Itab) : Prop where
  ty : ∀ n r, T.ty.lookup n = some r → rowB K (.type n) r = true
  ins : ∀ c r, T.ins.lookup c = some r → rowB K (.ref (He.ga K c)) r = true ∧ InsC K (He.ga K c)
  exc : ∀ c r, T.exc.lookup c = some r → rowB K (.ref (He.ga K c)) r = true ∧ ExcC K (He.ga K c)
theorem lookup_mem {α β : Type} [BEq α] [LawfulBEq α] : ∀ {l : List (α × β)} {a : α} {b : β}, l.lookup a = some b → (a, b) ∈ l
  | [], _, _, e => by simp at e
  | (x, y) :: l, a, b, e => by
    rw [List.lookup_cons] at e
    cases q : (a == x) with
    | true =>
      rw [q] at e
      have e1 : y = b := Option.some.inj e
      have e2 : a = x := eq_of_beq q
      subst e1 e2
      exact List.mem_cons_self
    | false =>
      rw [q] at e
      exact List.mem_cons_of_mem _ (lookup_mem e)
theorem rowB_ask {K : Fg} {t : Value} {r : Irow} (h : rowB K t r = true) {m : List Addr} {H : Hp} {c : D} {v : V} (rc : RelD K m H c v) {b : Bool} (e : askR r c = some b) : ∃ u, ClsV v u ∧ PySem.W.kitOne K t u = some b := by
  obtain ⟨h1, h2⟩ := Bool.and_eq_true_iff.mp h
  cases rc with
  | ty n => exact ⟨_, .ty n, of_decide_eq_true (List.all_eq_true.mp h2 _ (lookup_mem e))⟩
  | kr x => exact ⟨_, .own _, of_decide_eq_true (List.all_eq_true.mp h1 _ (lookup_mem e))⟩
  | _ => cases e
section
variable {X : Cx}
theorem sqt_ty {K : Fg} {H : Hp} {a : Addr} {xs : List V} (h : SqT K H a xs) : TyX K H (.ref a) (.type "tuple") := by
  rcases h with (h | ⟨o, h⟩) | h
  · exact .base (.tup h)
  · exact .fTuple h
  · obtain ⟨o, its, n, h, h1, _⟩ := h
    exact .kTuple h h1
theorem sqw_ty {K : Fg} {H : Hp} {a : Addr} {xs : List V} (h : SqW K H a xs) : TyX K H (.ref a) (.type "list") := by
  rcases h with ⟨o, h⟩ | ⟨its, n, h, _⟩
  · exact .base (.frz h)
  · exact .kList h rfl
theorem c_isi {T : Itab} (ok : ItOk X.K T) : CallR X (.builtin "isinstance") (rOf X.K (bIsi T)) := by
  intro pins s σ H xs us Q I rv q
  obtain ⟨m, h, ds, R, r, P⟩ := q
  obtain ⟨d, c, x, y, rfl, rd, rc, P⟩ := fn2_ok r P
  unfold isi2 at P
  cases ht : tnOf h d with
  | none => rw [ht] at P; exact P.elim
  | some t =>
    rw [ht] at P
    simp only at P
    cases hr : T.row t with
    | none => rw [hr] at P; exact P.elim
    | some ro =>
      rw [hr] at P
      simp only at P
      cases hb : askR ro c with
      | none => rw [hb] at P; exact P.elim
      | some b =>
        rw [hb] at P
        have q := P.here R (.bl b)
        have ans : ∀ {n : String}, t = .ty n → TyX X.K H x (.type n) → rIsi X.K [x, y] H Q := fun {n} e ty => by
          subst e
          obtain ⟨u, k1, k2⟩ := rowB_ask (ok.ty n ro hr) rc hb
          exact ⟨x, y, _, u, b, rfl, k1, ty, k2, q⟩
        cases rd with
        | non => cases ht; exact call_isi pins s σ H _ us Q I rv (ans rfl (.base .non))
        | bl z => cases ht; exact call_isi pins s σ H _ us Q I rv (ans rfl (.base (.bl z)))
        | int z => cases ht; exact call_isi pins s σ H _ us Q I rv (ans rfl (.base (.int z)))
        | str z => cases ht; exact call_isi pins s σ H _ us Q I rv (ans rfl (.base (.str z)))
        | ty n => cases ht
        | kr n => cases ht
        | tup hs rs => cases ht; exact call_isi pins s σ H _ us Q I rv (ans rfl (sqt_ty hs))
        | wl hs rs => cases ht; exact call_isi pins s σ H _ us Q I rv (ans rfl (sqw_ty hs))
        | @obj i a hi =>
          simp only [tnOf] at ht
          cases ho : h.get i with
          | none => rw [ho] at ht; cases ht
          | some o =>
            rw [ho] at ht
            obtain ⟨a', ha', xo⟩ := R.ob i o ho
            rw [hi] at ha'
            cases ha'
            cases o with
            | lst l =>
              cases ht
              obtain ⟨vs, e1, _⟩ := xo
              exact call_isi pins s σ H _ us Q I rv (ans rfl (.base (.lst e1)))
            | dic l =>
              cases ht
              obtain ⟨vs, e1, _⟩ := xo
              exact call_isi pins s σ H _ us Q I rv (ans rfl (.base (.dK e1)))
            | non => cases ht
            | ins cn fs =>
              cases ht
              obtain ⟨dx, gs, e1, _⟩ := xo
              obtain ⟨h1, h2⟩ := ok.ins cn ro hr
              obtain ⟨u, k1, k2⟩ := rowB_ask h1 rc hb
              exact call_isi pins s σ H _ us Q I rv ⟨.ref a, y, _, u, b, rfl, k1, .base (.ins e1 h2.cl h2.ha h2.hn h2.htk h2.hm), k2, q⟩
            | exi cn fs =>
              cases ht
              obtain ⟨od, e1, e2⟩ := xo
              obtain ⟨h1, h2⟩ := ok.exc cn ro hr
              obtain ⟨u, k1, k2⟩ := rowB_ask h1 rc hb
              obtain ⟨u1, u2, rfl, r1, r2⟩ := vals2 rv
              have e3 := k1.eq r2
              subst e3
              cases (show u1 = Value.ref a from r1)
              have J := xv_inst I e1 fun dx z => by
                rcases e2 with ⟨z2, _⟩ | ⟨dx', gs, z2, z3, _⟩
                · rw [z] at z2; cases z2
                · rw [z] at z2; cases z2; exact ⟨gs, z3⟩
              exact PySem.W.kia_one (kitx_excG h2) I.kIn J k2 (fun z => nomatch z) fun tk => ⟨.bl b, H, I.tok tk, rfl, q⟩
end
end PL

set_option Elab.async false
set_option linter.all false
set_option maxRecDepth 100000
set_option maxHeartbeats 4000000
namespace PL
open PySem PySem.Spec PyProof.Rows L2
theorem relO_one {v : V} {v' : Value} {n : Str} (r : L2.RelV v v') (f : Str) : RelO (List.lookup f [(n, v)]) (if f = n then some v' else none) := by
  by_cases hw : f = n
  · subst hw
    rw [if_pos rfl]
    have q : List.lookup f [(f, v)] = some v := by simp [List.lookup]
    rw [q]
    exact r
  · rw [if_neg hw]
    have q : List.lookup f [(n, v)] = none := by
      have : (f == n) = false := by simpa using hw
      simp [List.lookup, this]
    rw [q]
    trivial
/-- C(e), C(value = e) as a value -/
def eXv (c : Str) (e : Ev) : Ev := fun ρ h => (e ρ h).bind fun d h1 => .ok (.obj h1.n) (h1.new (.exi c [("value", d)]))
section
variable {X : Cx} {W : Wz} {k : Nat} {β : Bs} {c : Str} {p pos apos kpos : Pos} {e : Expr} {es : List Expr} {ea : Ev}
theorem run_xv (T : XTxt X.prog X.K β (He.ga X.K c)) (cc : Cc X (k + 1)) {pins : List (Addr × Obj)} {σ : L2.St} {H : Hp} {s : Shared} {us : List Value} {kw : List (Str × Value)} {v : V} {v' : Value} {Q : VK} {E : XK} {m : List Addr} {h : HE} {d : D}
    (I : Inv X pins σ H s) (rv : L2.RelV v v') (ha : (us = [v'] ∧ kw = []) ∨ (us = [] ∧ kw = [(PySem.Str.ofString "value", v')])) (R : Rel X.K m h H) (rd : RelD X.K m H d v) (P : Post X.K (RelD X.K) m H (.ok (.obj h.n) (h.new (.exi c [("value", d)]))) Q E) :
    wpAny (model X.prog X.w) X.A (call (.ref (He.ga X.K c)) us kw) (EP X pins σ Q) X.xe s := by
  have hlim := I.nolimit
  have hG := I.mod.glob.keeps I.bk
  obtain ⟨mb, hB0, hbb⟩ := I.mod.blt
  have hB := hB0.keeps I.bk
  obtain ⟨hp, g, dr, tk, os⟩ := s
  refine wpAny_call (x_made T I.kIn hG hB hbb hlim (by have := cc.room.dp; omega) ha fun h' tk' e d' M => ?_)
  obtain ⟨oe, fv, hoe, hc, hd, hdat, h1⟩ := M.obj
  have hns := M.ns
  obtain ⟨G', g1, g2⟩ := restrict h' fun b => decide (b ≠ e)
  have gk : ∀ b, b ≠ e → G'.get? b = h'.get? b := fun b hb => g1 b (decide_eq_true hb)
  have ge : G'.get? e = none := g2 e (by simp)
  have old : ∀ b o, hp.get? b = some o → G'.get? b = some o := fun b o q => (gk b (Nat.ne_of_lt (Nat.lt_of_lt_of_le (Heap.lt_size q) M.new))).trans (M.keep b o q)
  have ob : ObjOk X.prog X.w (upd H d' (.xd [(("value" : Str), v)])) G' d' (.xd [(("value" : Str), v)]) :=
    ⟨_, hns.at (fun o q => (gk d' M.dne).trans q), fun f => relO_one rv f⟩
  have J : Inv X pins σ (upd H d' (.xd [(("value" : Str), v)])) ⟨G', g, dr, tk', os⟩ := I.laid (t' := tk') old M.dbig ob
  have fd : H d' = none := I.hok.fresh M.dbig
  have fe : H e = none := I.hok.fresh M.new
  have fe' : upd H d' (.xd [(("value" : Str), v)]) e = none := by rw [upd_ne (Ne.symm M.dne)]; exact fe
  have J2 : Inv X pins σ (upd (upd H d' (.xd [(("value" : Str), v)])) e (XvO (He.ga X.K c) (some d') e)) ⟨h', g, dr, tk', os⟩ :=
    Inv.laidN (t' := tk') J (fun b u q => by
      have hb : b ≠ e := fun z => by
        rw [z] at q
        have q' : G'.get? e = some u := q
        rw [ge] at q'
        cases q'
      exact (gk b hb).symm.trans q) ge fe' (xvO_ok hoe ⟨hc, hd⟩ hdat)
  refine ⟨V.ref e, _, J2, rfl, ?_⟩
  have R1 : Rel X.K m h (upd H d' (.xd [(("value" : Str), v)])) := R.beside fd
  have e1 : Ext H (upd H d' (.xd [(("value" : Str), v)])) := Ext.new fd
  have e2 : Ext (upd H d' (.xd [(("value" : Str), v)])) (upd (upd H d' (.xd [(("value" : Str), v)])) e (XvO (He.ga X.K c) (some d') e)) := Ext.new fe'
  have R2 : Rel X.K (m ++ [e]) (h.new (.exi c [("value", d)])) (upd (upd H d' (.xd [(("value" : Str), v)])) e (XvO (He.ga X.K c) (some d') e)) :=
    R1.new fe' (fun xs z => by cases z) ⟨some d', upd_same, .inr ⟨d', _, rfl, by rw [upd_ne M.dne]; exact upd_same, .cons (rd.mono (Pre.snoc m e) (e1.trans e2)) .nil⟩⟩
  exact P _ _ _ (Pre.snoc m e) (e1.trans e2) R2 (.obj (get_snoc m _ R.len))
theorem d_xv (T : XTxt X.prog X.K β (He.ga X.K c)) (cc : Cc X (k + 1)) (hg : Gl X c) (hm : X.mg c = some (.ref (He.ga X.K c))) (ha : PE X e (tD X.K W ea)) (hdb : (c == ("__debug__" : Str)) = false := by decide) (hs : starEach [e] X.env = (false, eval e X.env) :: starEach [] X.env := by rfl) :
    PE X (.Call (.Name c p) [e] [] pos) (tD X.K W (eXv c ea)) := by
  refine ⟨fun pins s σ H Q I q => ?_⟩
  obtain ⟨m, h, ρ, R, S, P⟩ := q
  refine wpAny_Call_Name_kw (ld_glob I hg hm ?_ hdb)
  refine PySem.W.callWith_K (h₀ := X.base) I.ok.mod.kin T.kC ?_ hs (by rfl)
  rw [hs]
  show wpAny _ _ (spliced ((false, eval e X.env) :: backTo pos (starEach [] X.env))) _ _ s
  refine Calls.spliced_cons (thn (ha.run pins s σ H _ I ⟨m, h, ρ, R, S, post_bind P⟩) fun u s1 ⟨v, H1, I1, r1, m1, h1, d, p1, e1, R1, rd, P1⟩ => ?_)
  refine Calls.spliced_nil ⟨I1.kIn, ?_⟩
  exact run_xv T cc I1 r1 (.inl ⟨rfl, rfl⟩) R1 rd P1
theorem d_xvK (T : XTxt X.prog X.K β (He.ga X.K c)) (cc : Cc X (k + 1)) (hg : Gl X c) (hm : X.mg c = some (.ref (He.ga X.K c))) (ha : PE X e (tD X.K W ea)) (hdb : (c == ("__debug__" : Str)) = false := by decide) :
    PE X (.Call (.Name c p) [] [⟨some "value", e, kpos⟩] pos) (tD X.K W (eXv c ea)) := by
  refine ⟨fun pins s σ H Q I q => ?_⟩
  obtain ⟨m, h, ρ, R, S, P⟩ := q
  refine wpAny_Call_Name_kw (ld_glob I hg hm ?_ hdb)
  refine PySem.W.callWith_KW0 (h₀ := X.base) I.ok.mod.kin T.kC (by rfl) ?_ (by rfl)
  show wpAny _ _ (evalAll ((do let v ← eval e X.env; standAt pos; pure v) :: [])) _ _ s
  refine wpAny_evalAll_cons (wpAny_bind (thn (ha.run pins s σ H _ I ⟨m, h, ρ, R, S, post_bind P⟩) fun u s1 ⟨v, H1, I1, r1, m1, h1, d, p1, e1, R1, rd, P1⟩ => wpAny_bind (wpAny_standAt (wpAny_pure ?_))))
  refine wpAny_evalAll_nil ⟨I1.kIn, ?_⟩
  exact run_xv T cc I1 r1 (.inr ⟨rfl, rfl⟩) R1 rd P1
/-- C(), an own exception class without an own __init__ -/
def eXv0 (c : Str) : Ev := fun _ h => .ok (.obj h.n) (h.new (.exi c []))
theorem d_xv0 {bmB : List Value} {B newId initId : String} (F : ExcBaseFacts B newId initId bmB) (q : PySem.W.excIn X.K (He.ga X.K c) bmB newId = true) (kC : PySem.W.keepIn X.K (.ref (He.ga X.K c)) = true) (hg : Gl X c) (hm : X.mg c = some (.ref (He.ga X.K c))) (hdb : (c == ("__debug__" : Str)) = false := by decide) :
    PE X (.Call (.Name c p) [] [] pos) (tD X.K W (eXv0 c)) := by
  refine ⟨fun pins s σ H Q I z => ?_⟩
  obtain ⟨m, h, ρ, R, S, P⟩ := z
  refine wpAny_Call_Name_kw (ld_glob I hg hm ?_ hdb)
  refine PySem.W.callWith_K0 I.kIn kC ?_
  show wpAny _ _ (call (.ref (He.ga X.K c)) []) _ _ _
  obtain ⟨bm, N, nm, qn, bs, hdct, sn, sub, ab, col, dd, k0, k1, k2, k3, k5, mN, hC, hN, hni, T⟩ := exc_obj I.kIn q
  obtain ⟨hp, g, dr, tk, os⟩ := s
  refine wpAny_call_exc_subT F T hC hN hni (fun h' a hm => ?_) (by show 0 ≤ sizeLine; omega)
  have hn : H a = none := I.hok.gone hm.new
  obtain ⟨t, ht, _, _⟩ := hm.there
  have e1 : Ext H (upd H a (XvO (He.ga X.K c) none a)) := Ext.new hn
  have R2 : Rel X.K (m ++ [a]) (h.new (.exi c [])) (upd H a (XvO (He.ga X.K c) none a)) := R.new hn (fun xs z => by cases z) ⟨none, upd_same, .inl ⟨rfl, rfl⟩⟩
  exact ⟨.ref a, upd H a (XvO (He.ga X.K c) none a), Inv.laidN I hm.keeps hm.new hn (xvO_ok ht ⟨rfl, rfl⟩ rfl), rfl, P _ _ _ (Pre.snoc m a) e1 R2 (.obj (get_snoc m _ R.len))⟩
/-- e.value of an exception that is a value -/
def eXf (cs : List Str) (f : Str) (e : Ev) : Ev := fun ρ h => (e ρ h).bind fun d h1 => match d with
  | .obj i => match h1.get i with
    | some (.exi c fs) => if cs.contains c = true then (match fs.lookup f with
      | some v => .ok v h1
      | none => .fail) else .fail
    | _ => .fail
  | _ => .fail
theorem d_xvf {cs : List Str} {f : Str} (ok : ∀ c ∈ cs, XfC X.K (He.ga X.K c) ∧ PySem.W.findIn X.K (.ref (He.ga X.K c)) f = some none) (ha : PE X e (tD X.K W ea)) (hb : attributeBase e f X.env (eval e X.env) = eval e X.env := by rfl) :
    PE X (.Attribute e f pos) (tD X.K W (eXf cs f ea)) := by
  refine ⟨fun pins s σ H Q I q => ?_⟩
  obtain ⟨m, h, ρ, R, S, P⟩ := q
  refine attr_of hb (thn (ha.run pins s σ H _ I ⟨m, h, ρ, R, S, post_bind P⟩) fun u s1 ⟨v, H1, I1, r1, m1, h1, d, p1, e1, R1, rd, P1⟩ => ?_)
  cases rd with
  | @obj i a hi =>
    cases (show u = Value.ref a from r1)
    simp only at P1
    cases ho : h1.get i with
    | none => rw [ho] at P1; exact P1.elim
    | some o =>
      rw [ho] at P1
      obtain ⟨a', ha', xo⟩ := R1.ob i o ho
      rw [hi] at ha'
      cases ha'
      cases o with
      | exi c fs =>
        simp only at P1
        by_cases hc : cs.contains c = true
        · rw [if_pos hc] at P1
          cases hl : fs.lookup f with
          | none => rw [hl] at P1; exact P1.elim
          | some dv =>
            rw [hl] at P1
            obtain ⟨od, e2, e3⟩ := xo
            rcases e3 with ⟨_, e3⟩ | ⟨dx, gs, rfl, e4, rf⟩
            · rw [e3] at hl; cases hl
            · obtain ⟨gv, hgv, rgv⟩ := rf.look hl
              obtain ⟨⟨oe, vs, hoe, hz, hf⟩, _, _⟩ := I1.hok a _ e2
              obtain ⟨mA, hns, hr⟩ := (show ObjOk X.prog X.w H1 s1.heap dx (.xd gs) from I1.hok dx _ e4)
              obtain ⟨oo, ho2, hlk⟩ := lookIn_ns hns
              obtain ⟨u, hu, ru⟩ := RelO.some_of (v := gv) (o := mA f) (by rw [← hgv]; exact hr f)
              have J : PySem.W.InstAt s1.heap a oe (He.ga X.K c) (some oo) := ⟨hoe, hz.1, by unfold PySem.W.notCls; rw [hf] <;> rfl, by rw [hz.2]; exact ho2⟩
              obtain ⟨T, hno⟩ := ok c (List.contains_iff_mem.mp hc)
              exact HandSPX.exc_get I1.kIn J T.ga T.gg T.exC (PySem.W.findObj_own T.hdC hno rfl (by rw [hlk, hu])) (handed_of ru) ⟨gv, H1, I1.tok _, ru, P1.here R1 rgv⟩
        · rw [if_neg hc] at P1
          exact P1.elim
      | _ => exact P1.elim
  | _ => exact P1.elim
end
end PL

set_option Elab.async false
set_option linter.all false
set_option maxRecDepth 100000
set_option maxHeartbeats 4000000
/-! the head's facts, the law's end -/
namespace PL
open PySem PySem.Spec PyProof.Rows L2

/-! ### the law's end -/
def HE.emp : HE := ⟨0, .leaf⟩
theorem HE.get_emp (i : Nat) : HE.emp.get i = none := if_neg (Nat.not_lt_zero i)
theorem rel_nil {K : Fg} {H : Hp} : Rel K [] HE.emp H := by
  refine ⟨rfl, fun i j a h => ?_, fun i o h => ?_, fun i a h => ?_⟩
  · simp at h
  · rw [HE.get_emp] at h
    cases h
  · simp at h
theorem rel_ints {K : Fg} {m : List Addr} {H : Hp} : ∀ ns : List Int, RelDs K m H (ns.map D.int) (ns.map V.int)
  | [] => .nil
  | n :: ns => .cons (.int n) (rel_ints ns)
theorem law_callG {P : Program} {w : World} {K : Fg} {mg mb : Str → Option Value} {k : Nat} {fa a : Addr} {fd : FuncData} {x : Str} {g : Fn} {s₁ : Shared} {vs : List Value} {ns : List Int}
    (KX : K.In s₁.heap) (hns : s₁.heap.Ns mainGlobals mg) (hb : s₁.heap.Ns builtinsNs mb) (hbb : ∀ x : Str, x ≠ "__name__" → mb x = bootBuiltins x) (hlim : s₁.heap.NoLimit) (hg : s₁.gens = #[])
    (ha : s₁.heap.get? a = some { cls := .type "list", data := .seq vs.toArray }) (hi : IntsAre vs ns) (hl : ns.length ≤ sizeLine) (hr : Room k callerA)
    (F : ∀ base : Heap, K.In base → base.Ns mainGlobals mg → FnG P w K mg base k fa fd [x] (spD K 1 g)) (hbind : ∀ (s : Shared) (u : Value), BindsTo s fd ⟨[u], []⟩ [(x, u)])
    (hsp : ∃ h', g [.wl (ns.map D.int)] HE.emp = .ok (.bl true) h') :
    codeAny (model P w) callerA (.call (.ref fa) ⟨[.ref a], []⟩) (fun r s' => r = .ok (.ret (.bool true)) ∧ OldK s₁.heap s'.heap ∧ s'.os = s₁.os ∧ AllBare s'.gens) s₁ := by
  have rv := vals_ints hi
  have lenV := hi.length
  have core : ∀ H : Hp, Only H → SqW K H a (ns.map V.int) → HOk P w H s₁.heap → (∀ b, H b ≠ none → b = a) → (H a ≠ none → K.lookup a = none) →
      codeAny (model P w) callerA (.call (.ref fa) ⟨[.ref a], []⟩) (fun r s' => r = .ok (.ret (.bool true)) ∧ OldK s₁.heap s'.heap ∧ s'.os = s₁.os ∧ AllBare s'.gens) s₁ := by
    intro H hO hS hok hA hK
    have base_of : ∀ {b : Addr} {o : Obj}, s₁.heap.get? b = some o → H b = none → (hidT s₁.heap H).get? b = some o := fun e n => hidT_get e n
    have noA : ∀ {b : Addr} {o : Obj} {es : Array DictEntry} {ep : Nat}, s₁.heap.get? b = some o → o.data = .dict es ep → H b = none := fun {b o es ep} e d => by
      cases q : H b with
      | none => rfl
      | some u =>
        have e' : b = a := hA b (by rw [q]; simp)
        subst e'
        rw [ha] at e; cases e
        have d' : Data.seq vs.toArray _ = Data.dict es ep := d
        cases d'
    have nsK : ∀ {b : Addr} {m : Str → Option Value}, s₁.heap.Ns b m → (hidT s₁.heap H).Ns b m := fun {b m} ⟨o, es, ep, e, d, r⟩ => ⟨o, es, ep, base_of e (noA e d), d, r⟩
    have hKb : K.In (hidT s₁.heap H) := fun b o e => base_of (KX b o e) (by
      cases q : H b with
      | none => rfl
      | some u =>
        have e' : b = a := hA b (by rw [q]; simp)
        subst e'
        rw [hK (by rw [q]; simp)] at e; cases e)
    have hM : Mod K mg (hidT s₁.heap H) := ⟨hKb, nsK hns, ⟨mb, nsK hb, hbb⟩, let ⟨mc, h1, h2⟩ := hlim; ⟨mc, nsK h1, h2⟩⟩
    have e0 : Env0 P w K mg (hidT s₁.heap H) callerA [] s₁ H := ⟨rfl, hM, fun b o e => of_hidT e, Nat.le_of_eq (hidT_size _ _), trivial, fun b hb => absurd (show b ∈ ([] : List Addr) from hb) (by simp), hok, .of_eq hg⟩
    obtain ⟨h', hg'⟩ := hsp
    have sp : spD K 1 g [V.ref a] H (fun v _ => v = .bl true) (fun _ _ _ => False) := ⟨rfl, [], HE.emp, [.wl (ns.map D.int)], rel_nil, .cons (.wl hS (rel_ints ns)) .nil, by
      rw [hg']
      intro m' H' b _ _ _ rb
      cases rb
      rfl⟩
    refine codeAny_mono ((F _ hKb (nsK hns)).run callerA [] s₁ H ⟨[.ref a], []⟩ [.ref a] [.ref a] _ _ rfl hr e0 (hbind s₁ (.ref a)) (.cons rfl .nil) sp) fun r s' h => ?_
    cases r with
    | error e =>
      obtain ⟨_, _, _, _, _, _, _, _, _, _, _, _, z⟩ := h
      exact z.elim
    | ok fl =>
      cases fl with
      | next => exact False.elim h
      | brk => exact False.elim h
      | cont => exact False.elim h
      | ret u =>
        obtain ⟨v, H', os, bare, un, hok', r', q⟩ := h
        have q' : v = .bl true := q
        subst q'
        obtain rfl : u = Value.bool true := r'
        refine ⟨rfl, OldK.of_keep fun b o e => ?_, os, bare⟩
        cases q : H b with
        | none => exact un.keep b o e q (by intro z; exact absurd (show b ∈ ([] : List Addr) from z) (by simp)) (by simp)
        | some u =>
          rcases hO b with z | ⟨ob, xs, z⟩
          · rw [q] at z; cases z
          · have z2 := un.frzs b ob _ z
            obtain ⟨e1, _⟩ := hok b _ z
            obtain ⟨e2, _⟩ := hok' b _ z2
            rw [e] at e1; cases e1
            exact e2
  cases hk : K.lookup a with
  | some o =>
    have e := KX a o hk
    rw [ha] at e
    cases e
    refine core (fun _ => none) (fun _ => .inl rfl) (.inr ⟨vs, _, hk, by rw [lenV]; exact hl, rv⟩) (fun b u z => by have z' : (none : Option HO) = some u := z; cases z') (fun b z => absurd rfl z) fun z => absurd rfl z
  | none =>
    refine core (fun b => if b = a then some (.frz { cls := .type "list", data := .seq vs.toArray } (.lst (ns.map V.int))) else none) (fun b => ?_) (.inl ⟨{ cls := .type "list", data := .seq vs.toArray }, if_pos rfl⟩) (fun b u z => ?_) (fun b z => ?_) fun _ => hk
    · by_cases hb : b = a
      · exact .inr ⟨_, _, if_pos hb⟩
      · exact .inl (if_neg hb)
    · by_cases hb : b = a
      · have z' := (if_pos hb).symm.trans z
        cases z'
        subst hb
        exact ⟨ha, by rw [List.length_map]; exact hl, vs, _, rv, ha⟩
      · have z' := (if_neg hb).symm.trans z
        cases z'
    · by_cases hb : b = a
      · exact hb
      · exact absurd (if_neg hb) z

/-! ### the head's facts -/
/-- one own error class: its name, the class that has its __init__, its base -/
structure XD where
  cls : Str
  own : Str
  base : Bs
/-- what stands at a class's own __init__ -/
abbrev XnW : Type := Option (Str × Str × Arguments × FuncBody × Scope × Addr × List Str × Value × Addr)
def xiA (K : Fg) (own : Str) : Addr := He.ma K (He.ga K own) "__init__"
def xnW (K : Fg) (own : Str) : XnW := match K.lookup (xiA K own) with
  | some ⟨_, _, .func fd, _⟩ => some (fd.name, fd.qualname, fd.params, fd.body, fd.scope, fd.globals, fd.closure.map (·.1), fd.defaults, fd.builtins)
  | _ => none
structure XI where
  own : Str
  qual : Str
  params : Arguments
  body : List Stmt
  scope : Scope
def XI.val (x : XI) : XnW := some ("__init__", x.qual, x.params, .stmts x.body, x.scope, mainGlobals, ["__class__"], .none, builtinsNs)
def eqB (a b : Option Bool) : Bool := decide (a = b)
def eqV (a b : Option Value) : Bool := decide (a = b)
def excClsB (K : Fg) (b : Bs) (C : Addr) : Bool := match K.lookup C with
  | some ⟨.type t, _, .cls cd, sl⟩ => decide (t = "type") && (cd.hasDict && (!cd.hasDel && ((match cd.mro with
    | .ref c :: bm => decide (c = C) && refsT b.tl bm
    | _ => false) && (match sl.toList with
    | [_, _, _, _, some (.builtin n), _] => decide (n = b.newId)
    | _ => false))))
  | _ => false
def cellB (K : Fg) (file qual : Str) (fI D : Addr) : Bool := match K.lookup fI with
  | some ⟨_, _, .func fd, _⟩ => (match fd.closure with
    | [(_, cc)] => (match K.lookup cc with
      | some ⟨_, _, .cell (some (.ref d)), _⟩ => decide (d = D)
      | _ => false)
    | _ => false) && (match fd.code with
    | .ref cda => PySem.W.codeIn K (.ref cda) qual && (match K.lookup cda with
      | some ⟨_, _, .fields vs, _⟩ => (match (vs[2]? : Option Value) with
        | some (Value.str f _) => file == f
        | _ => false)
      | _ => false)
    | _ => false)
  | _ => false
def xdB (K : Fg) (file : Str) (qual : Str) (x : XD) : Bool :=
  excClsB K x.base (He.ga K x.cls) && (He.eqO (PySem.W.findIn K (.ref (He.ga K x.cls)) "__setattr__") (some (some (.builtin "object.__setattr__"))) && (He.eqO (PySem.W.findIn K (.ref (He.ga K x.cls)) "value") (some none) &&
  (PySem.W.keepIn K (.ref (He.ga K x.cls)) && (eqB (PySem.W.subIn K (.ref (He.ga K x.cls)) (.type "BaseException")) (some true) && (eqB (PySem.W.subIn K (.ref (He.ga K x.cls)) (.type x.base.B)) (some true) &&
  (eqV (PySem.W.typeIn K (.ref (He.ga K x.cls))) (some (.type "type")) && (He.eqO (PySem.W.nsIn K cStatics "thirdparty.any") (some none) && (He.eqO (PySem.W.nsIn K mainGlobals "super") (some none) &&
  (He.eqO (PySem.W.findIn K (.ref (He.ga K x.cls)) "__init__") (some (some (.ref (xiA K x.own)))) && (eqV (PySem.W.typeIn K (.ref (xiA K x.own))) (some (.type "function")) && (cellB K file qual (xiA K x.own) (He.ga K x.own) &&
  ((PySem.W.clsIn K (He.ga K x.own)).isSome && (eqB (PySem.W.mroIn K (He.ga K x.cls) (.ref (He.ga K x.own))) (some true) && He.eqO (PySem.W.ks_superIn K (He.ga K x.cls) (He.ga K x.own) "__init__") (some (some (.builtin x.base.initId))))))))))))))))
theorem excClsB_ok {K : Fg} {b : Bs} {C : Addr} (h : excClsB K b C = true) : ∃ nm q N bs bm sn sub ab col dd k0 k1 k2 k3 k5, K.lookup C = some (excClassObj nm q C N bs bm true sn sub ab col dd k0 k1 k2 k3 k5 b.newId) ∧ refsT b.tl bm = true := by
  unfold excClsB at h
  split at h
  · rename_i t od cd sl hC
    obtain ⟨h1, h⟩ := He.ba h
    obtain ⟨h2, h⟩ := He.ba h
    obtain ⟨h3, h⟩ := He.ba h
    obtain ⟨h4, h5⟩ := He.ba h
    have e1 : t = "type" := of_decide_eq_true h1
    subst e1
    split at h4
    · rename_i c bm hm
      obtain ⟨h6, h7⟩ := He.ba h4
      have e2 : c = C := of_decide_eq_true h6
      subst e2
      split at h5
      · rename_i k0 k1 k2 k3 n k5 hs
        have e3 : n = b.newId := of_decide_eq_true h5
        subst e3
        obtain ⟨nm, bs, mro, ns, qn, hd, sn, sb, ab, col, del⟩ := cd
        simp only at h2 h3 hm
        subst hm h2
        have e4 : del = false := by simpa using h3
        subst e4
        obtain ⟨sl⟩ := sl
        simp only at hs
        subst hs
        exact ⟨nm, qn, ns, bs, bm, sn, sb, ab, col, od, k0, k1, k2, k3, k5, hC, h7⟩
      · cases h5
    · cases h4
  · cases h
def XEv (q1 q2 q3 q4 q5 : Pos) : Prop := ∃ pl : Env → Sem Bool, ∀ env : Env, eval (.Call (.Attribute (.Call (.Name "super" q1) [] [] q2) "__init__" q3) [.Name "value" q4] [] q5) env = (do
      let ov ← attributeBase (.Call (.Name "super" q1) [] [] q2) "__init__" env (eval (.Call (.Name "super" q1) [] [] q2) env)
      standAt q3.atName
      let (f, first) ← holding [ov] (getMethod ov "__init__" (pl env))
      callWith q5 f first (backTo q5 (starEach [.Name "value" q4] env)) [])
theorem xd_ok {prog : Program} {K : Fg} {x : XD} {xi : XI} (hB : BsOk x.base) (ho : x.own = xi.own) (hn : xnW K xi.own = xi.val) (h : xdB K prog.main.file xi.qual x = true) (top : (prog.main.scope.names.lookup ("super" : Str)).isSome = false)
    (hp : ∃ p1 p2, xi.params = xA p1 p2) (hb : ∃ q1 q2 q3 q4 q5 q6 r1 r2 r3 r4, xi.body = xB q1 q2 q3 q4 q5 q6 r1 r2 r3 r4 ∧ XEv q1 q2 q3 q4 q5) (hs : xi.scope = xS) : XTxt prog K x.base (He.ga K x.cls) := by
  unfold xdB at h
  obtain ⟨c1, h⟩ := He.ba h
  obtain ⟨c2, h⟩ := He.ba h
  obtain ⟨c3, h⟩ := He.ba h
  obtain ⟨c4, h⟩ := He.ba h
  obtain ⟨c5, h⟩ := He.ba h
  obtain ⟨c6, h⟩ := He.ba h
  obtain ⟨c7, h⟩ := He.ba h
  obtain ⟨c8, h⟩ := He.ba h
  obtain ⟨c9, h⟩ := He.ba h
  obtain ⟨c10, h⟩ := He.ba h
  obtain ⟨c11, h⟩ := He.ba h
  obtain ⟨c12, h⟩ := He.ba h
  obtain ⟨c13, h⟩ := He.ba h
  obtain ⟨c14, c15⟩ := He.ba h
  refine ⟨hB, excClsB_ok c1, He.eqO_ok c2, He.eqO_ok c3, c4, of_decide_eq_true c5, of_decide_eq_true c6, of_decide_eq_true c7, He.eqO_ok c8, He.eqO_ok c9, top, ?_⟩
  obtain ⟨p1, p2, hp⟩ := hp
  obtain ⟨q1, q2, q3, q4, q5, q6, r1, r2, r3, r4, hb, hev⟩ := hb
  unfold cellB at c12
  unfold xnW at hn
  rw [ho] at c10 c11 c12 c13 c14 c15
  cases q : K.lookup (xiA K xi.own) with
  | none => rw [q] at hn; cases hn
  | some o =>
    obtain ⟨oc, od, dt, osl⟩ := o
    rw [q] at hn c12
    cases dt with
    | func fd =>
      obtain ⟨n1, n2, n3, n4, n5, n6, n7, n8, n9, n10, n11, n12, n13, n14, n15⟩ := fd
      have e2 : (some (n1, n2, n3, n4, n5, n6, n7.map (·.1), n8, n15) : XnW) = (some ("__init__", xi.qual, xi.params, .stmts xi.body, xi.scope, mainGlobals, ["__class__"], .none, builtinsNs) : XnW) := hn
      simp only [Option.some.injEq, Prod.mk.injEq] at e2
      obtain ⟨h1, h2, h3, h4, h5, h6, h7, h8, h9⟩ := e2
      subst h1 h2 h3 h4 h5 h6 h8 h9
      obtain ⟨d1, d2⟩ := He.ba c12
      simp only at d1 d2
      split at d1
      · rename_i nm cc
        have e7 : nm = ("__class__" : Str) := by simpa using h7
        subst e7
        split at d1
        · rename_i cl cld d csl hcc
          have e8 := of_decide_eq_true d1
          subst e8
          split at d2
          · rename_i cda
            obtain ⟨d3, d4⟩ := He.ba d2
            split at d4
            · rename_i ccl cdd vs ccs hcda
              split at d4
              · rename_i file tf hvs
                obtain ⟨cdD, hcD⟩ := Option.isSome_iff_exists.mp c13
                rw [hp, hb, hs] at q
                exact ⟨_, _, cc, cda, _, oc, od, n9, n10, n11, n12, n14, osl, p1, p2, q1, q2, q3, q4, q5, q6, r1, r2, r3, r4, cl, cld, csl, cdD, ccl, cdd, vs, ccs, file, tf, He.eqO_ok c10, of_decide_eq_true c11, q, d3, hcc, hcD, of_decide_eq_true c14, He.eqO_ok c15, hcda, hvs, d4, hev⟩
              · cases d4
            · cases d4
          · cases d2
        · cases d1
      · cases d1
    | _ => cases hn
/-! ### the Hook -/
/-- more facts, as Booleans -/
abbrev AlP : Type := Bool × List He.FnW × List XnW
def obsP (fb : Fg → Bool) (fa : List He.Fa) (fn : List He.DefD) (xi : List XI) (K : Fg) : AlP := ((fa.all fun f => f.ok K) && ((fn.all fun d => d.ok K) && fb K), fn.map fun d => He.fnW K d.at_, xi.map fun x => xnW K x.own)
def valP (fn : List He.DefD) (xi : List XI) : AlP := (true, fn.map He.DefD.val, xi.map XI.val)
structure SaysP (fb : Fg → Bool) (fa : List He.Fa) (fn : List He.DefD) (xi : List XI) (K : Fg) : Prop where
  fact : ∀ (i : Nat) {f : He.Fa}, fa[i]? = some f → f.ok K = true
  def_ : ∀ (i : Nat) {d : He.DefD}, fn[i]? = some d → ∃ fd, FunD K d.name d.qual d.params d.body d.scope (d.dvs K) (d.kws K) (He.fAd K d.at_) fd
  xi : ∀ (i : Nat) {x : XI}, xi[i]? = some x → xnW K x.own = x.val
  fb : fb K = true
theorem saysP {fb : Fg → Bool} {fa : List He.Fa} {fn : List He.DefD} {xi : List XI} {K : Fg} (c : obsP fb fa fn xi K = valP fn xi) : SaysP fb fa fn xi K := by
  have c1 : ((fa.all fun f => f.ok K) && ((fn.all fun d => d.ok K) && fb K)) = true := congrArg (fun z : AlP => z.1) c
  have c2 : fn.map (fun d => He.fnW K d.at_) = fn.map He.DefD.val := congrArg (fun z : AlP => z.2.1) c
  have c3 : xi.map (fun x => xnW K x.own) = xi.map XI.val := congrArg (fun z : AlP => z.2.2) c
  obtain ⟨b1, b2⟩ := He.ba c1
  obtain ⟨b3, b4⟩ := He.ba b2
  refine ⟨fun i f h => List.all_eq_true.mp b1 f (List.mem_of_getElem? h), fun i d h => ?_, fun i x h => ?_, b4⟩
  · have e2 : (fn.map fun d => He.fnW K d.at_)[i]? = (fn.map He.DefD.val)[i]? := by rw [c2]
    rw [List.getElem?_map, List.getElem?_map, h] at e2
    exact He.DefD.funD (Option.some.inj e2) (List.all_eq_true.mp b3 d (List.mem_of_getElem? h))
  · have e2 : (xi.map fun x => xnW K x.own)[i]? = (xi.map XI.val)[i]? := by rw [c3]
    rw [List.getElem?_map, List.getElem?_map, h] at e2
    exact Option.some.inj e2
def obsPG (n : Nat) (fb : Fg → Bool) (fa : List He.Fa) (fn : List He.DefD) (xi : List XI) (g : Addr → Option Obj) : AlP := obsP fb fa fn xi (He.frG g (cStatics :: sysModules :: He.asD g n))
def hookP (n : Nat) (fb : Fg → Bool) (fa : List He.Fa) (fn : List He.DefD) (xi : List XI) : PySem.W.Hook where
  α := AlP
  obs := fun s => obsPG n fb fa fn xi s.heap.get?
  val := fun _ => valP fn xi
  says := fun _ h => ∃ K : PySem.W.Frag, K.In h ∧ SaysP fb fa fn xi K
  of := fun _ _ e => ⟨_, He.frG_in, saysP e⟩
  keeps := fun _ _ _ ⟨K, hK, c⟩ k => ⟨K, PySem.W.Frag.In.keeps hK k, c⟩
theorem obsPG_eq {n : Nat} {fb : Fg → Bool} {fa : List He.Fa} {fn : List He.DefD} {xi : List XI} {g : Addr → Option Obj} {s : Shared} (h : ∀ a, g a = s.heap.get? a) : obsPG n fb fa fn xi g = (hookP n fb fa fn xi).obs s := by
  have e : g = s.heap.get? := funext h
  rw [e] <;> rfl
/-- the law, from the promise of its def -/
theorem walk_ofG {l : PySem.W.OpenLaw} {n k : Nat} {q : Program} {loose : List Str} {XP : (Str → Option Value) → Heap → Prop} {YP : World → Heap → Prop} {d : DefRec} {x : Str} {g : Fn}
    (hn : l.most = some n) (hn2 : n ≤ sizeLine) (hdf : d.params.defaults = []) (hr : Room k callerA)
    (hsp : ∀ ns : List Int, ns.length ≤ n → (∀ k ∈ ns, Builtin.Int.intBits k ≤ 1048576) → ∃ h', g [.wl (ns.map D.int)] HE.emp = .ok (.bl true) h')
    (F : ∀ (w : World) (mg : Str → Option Value) (fa : Addr) (h : Heap), YP w h → h.Ns mainGlobals mg → mg d.name = some (.ref fa) →
      ∃ (K : PySem.W.Frag) (fd : FuncData), K.In h ∧ (∀ (s : Shared) (u : Value), BindsTo s fd ⟨[u], []⟩ [(x, u)]) ∧
        ∀ base : Heap, K.In base → base.Ns mainGlobals mg → FnG l.prog w K mg base k fa fd [x] (spD K 1 g)) :
    PySem.W.WalkO q loose XP YP l.row.toRowW d [] (fun f vs => PySem.call f vs) := by
  refine Att.attach_callB hn hdf fun w s₀ s₁ mg mb fa o pm cd doc a vs ns G Y ho hd hcd hmg hobj hints hlen hbits hg => ?_
  obtain ⟨K, fd, KX, hb, hF⟩ := F w mg fa _ Y G.T.g hmg
  exact law_callG KX G.T.g G.T.b G.T.builtins G.T.nolimit hg hobj hints (Nat.le_trans hlen hn2) hr hF hb (hsp ns hlen hbits)
end PL

set_option Elab.async false
set_option linter.all false
set_option maxRecDepth 100000
set_option maxHeartbeats 4000000
namespace PL
open PySem PySem.Spec PyProof.Rows L2
/-! ### repr -/
def scal : D → Option PyData
  | .non => some .none
  | .bl b => some (.bool b)
  | .int i => some (.int i)
  | .str x => some (.str x)
  | _ => none
def keyPy : Key → PyData
  | .inl i => .int i
  | .inr x => .str x
def pyKv (kv : Key × D) : Option (PyData × PyData) := (scal kv.2).map fun p => (keyPy kv.1, p)
def pyR (h : HE) (d : D) : Option (PyData × Bool) := match d with
  | .obj i => match h.get i with
    | some (.dic kvs) => (mapO pyKv kvs).map fun l => (.dict l, true)
    | _ => (toPy 20 h d).map fun p => (p, false)
  | d => (toPy 20 h d).map fun p => (p, false)
def repr1 : D → HE → Rs D := fun d h => match pyR h d with
  | some (p, k) => if (p.showable && (decide (p.depth ≤ 30) && (decide (p.shown.length ≤ sizeLine) && (k || !p.hasDict)))) = true then .ok (.str p.shown) h else .fail
  | none => .fail
def bRepr : Fn := fn1 repr1

theorem scal_reads {K : Fg} {m : List Addr} {H : Hp} {d : D} {x : V} {p : PyData} {u : Value} {h : Heap} (r : RelD K m H d x) (e : scal d = some p) (ru : L2.RelV x u) : Reads h u p [] := by
  cases r with
  | non => cases e; cases ru; exact .none
  | bl b => cases e; cases ru; exact .bool b
  | int i => cases e; obtain ⟨t, rfl⟩ := ru; exact .int i t
  | str z => cases e; obtain ⟨t, rfl⟩ := ru; exact .str z t
  | _ => cases e
theorem kvs_reads {P : Program} {w : World} {K : Fg} {m : List Addr} {H : Hp} {h : Heap} : ∀ {kvs : List (Key × D)} {gs : List (Key × V)} {vs : List (Key × Value)} {es : List DictEntry} {l : List (PyData × PyData)}, RelK K m H kvs gs → KV gs vs → Pairs (mixKind P w) es vs → mapO pyKv kvs = some l →
    ReadsAll h (es.map (·.key)) (l.map (·.1)) [] ∧ ReadsAll h (es.map (·.val)) (l.map (·.2)) []
  | _, _, _, _, l, .nil, .nil, .nil, e => by
    cases e
    exact ⟨.nil, .nil⟩
  | _, _, _, _, l, .cons (k := k) (d := d) r t, .cons hh tt, .cons hk hv hp, e => by
    unfold mapO at e
    cases q1 : pyKv (k, d) with
    | none => rw [q1] at e; cases e
    | some p =>
      rw [q1] at e
      cases q2 : mapO pyKv _ with
      | none => rw [q2] at e; cases e
      | some l2 =>
        rw [q2] at e
        cases e
        obtain ⟨h1, h2⟩ := kvs_reads (h := h) t tt hp q2
        obtain ⟨pv, e1, rfl⟩ := map_some (show (scal d).map (fun p => (keyPy k, p)) = some p from q1)
        obtain ⟨ek, ev⟩ := hh
        refine ⟨ReadsAll.cons (as := []) (bs := []) ?_ h1, ReadsAll.cons (as := []) (bs := []) ?_ h2⟩
        · rename_i b _ en _
          show Reads h en.key (keyPy k) []
          have hk2 : keyIs k en.key = true := by
            have e5 : k = b.1 := ek
            rw [e5]
            exact hk
          rcases keyIs_shape hk2 with ⟨i, t, rfl, e6⟩ | ⟨z, t, rfl, e6⟩
          · rw [e6]; exact .int i t
          · rw [e6]; exact .str z t
        · rename_i b _ en _
          show Reads h en.val pv []
          rw [hv]
          exact scal_reads r e1 ev
section
variable {X : Cx}
theorem c_repr (hg : X.A.guards = some []) (hu : X.A.units + 64 < cLine) : CallR X (.builtin "repr") (rOf X.K bRepr) := by
  intro pins s σ H xs us Q I rv q
  obtain ⟨m, h, ds, R, r, P⟩ := q
  obtain ⟨d, x, rfl, r, P⟩ := fn1_ok r P
  have hu1 : ∃ u, us = [u] ∧ L2.RelV x u := by
    cases rv with
    | cons a b =>
      cases b
      exact ⟨_, rfl, a⟩
  obtain ⟨u, rfl, ru⟩ := hu1
  unfold repr1 at P
  cases hp : pyR h d with
  | none => rw [hp] at P; exact P.elim
  | some pk =>
    obtain ⟨p, k⟩ := pk
    rw [hp] at P
    simp only at P
    by_cases hc : (p.showable && (decide (p.depth ≤ 30) && (decide (p.shown.length ≤ sizeLine) && (k || !p.hasDict)))) = true
    · rw [if_pos hc] at P
      obtain ⟨c1, hc⟩ := He.ba hc
      obtain ⟨c2, hc⟩ := He.ba hc
      obtain ⟨c3, c4⟩ := He.ba hc
      have c2 := of_decide_eq_true c2
      have c3 := of_decide_eq_true c3
      have fin : ∀ (h' : Heap) (t' : Tok) (tk : Nat), (∀ b o, s.heap.get? b = some o → h'.get? b = some o) → EP X pins σ Q (.str p.shown t') { s with heap := h', toks := tk } := fun h' t' tk k => ⟨.str p.shown, H, I.kept (t' := tk) k, ⟨t', rfl⟩, P.here R (.str _)⟩
      -- what is read
      have big : ∀ (a : Addr) (as : List Addr), u = .ref a → Reads s.heap (.ref a) p as → (p.hasDict = true → sysModules ∉ as) → wpAny (model X.prog X.w) X.A (call (.builtin "repr") [u]) (EP X pins σ Q) X.xe s := fun a as e rd hs => by
        subst e
        exact repr_of_reads' rd c1 hs hg (by omega) (fun b o e => e) (fun h' t' tk k => fin h' t' tk k) c3
      cases r with
      | non =>
        cases hp
        cases ru
        exact PySem.P.repr_of_none (fin s.heap _ _ fun _ _ e => e)
      | bl b =>
        cases hp
        cases ru
        exact PySem.P.repr_of_bool (fin s.heap _ _ fun _ _ e => e)
      | int i =>
        cases hp
        obtain ⟨t, rfl⟩ := ru
        exact PySem.P.repr_of_int (of_decide_eq_true c1) (fin s.heap _ _ fun _ _ e => e)
      | str z =>
        cases hp
        obtain ⟨t, rfl⟩ := ru
        exact PySem.P.repr_of_str (fin s.heap _ _ fun _ _ e => e) c3
      | ty n => cases hp
      | kr n => cases hp
      | @tup l vs a hs rs =>
        obtain ⟨p', e1, e2⟩ := map_some (show (toPy 20 h (.tup l)).map (fun p => (p, false)) = some (p, k) from hp)
        cases e2
        cases (show u = Value.ref a from ru)
        obtain ⟨as, rd⟩ := Dp.reads I p _ (.ref a) (toPy_ok R 20 _ _ p (.tup hs rs) e1) rfl
        exact big a as rfl rd fun z => by rw [z] at c4; cases c4
      | @wl l vs a hs rs =>
        obtain ⟨p', e1, e2⟩ := map_some (show (toPy 20 h (.wl l)).map (fun p => (p, false)) = some (p, k) from hp)
        cases e2
        cases (show u = Value.ref a from ru)
        obtain ⟨as, rd⟩ := Dp.reads I p _ (.ref a) (toPy_ok R 20 _ _ p (.wl hs rs) e1) rfl
        exact big a as rfl rd fun z => by rw [z] at c4; cases c4
      | @obj i a hi =>
        cases (show u = Value.ref a from ru)
        have other : (toPy 20 h (.obj i)).map (fun p => (p, false)) = some (p, k) → wpAny (model X.prog X.w) X.A (call (.builtin "repr") [.ref a]) (EP X pins σ Q) X.xe s := fun hp => by
          obtain ⟨p', e1, e2⟩ := map_some hp
          cases e2
          obtain ⟨as, rd⟩ := Dp.reads I p _ (.ref a) (toPy_ok R 20 _ _ p (.obj hi) e1) rfl
          exact big a as rfl rd fun z => by rw [z] at c4; cases c4
        unfold pyR at hp
        cases ho : h.get i with
        | none => simp only [ho] at hp; exact other hp
        | some o =>
          cases o with
          | dic kvs =>
            simp only [ho] at hp
            obtain ⟨l, e1, e2⟩ := map_some hp
            cases e2
            obtain ⟨a', ha', xo⟩ := R.ob i _ ho
            rw [hi] at ha'
            cases ha'
            obtain ⟨gs, e3, rk⟩ := xo
            obtain ⟨_, hsys, vs, kv, o, es, ep, ho1, hx, hd, _, hpr, _⟩ := (show ObjOk X.prog X.w H s.heap a (.dK gs) from I.hok a _ e3)
            obtain ⟨h1, h2⟩ := kvs_reads (h := s.heap) rk kv hpr e1
            refine big a (a :: [] ++ []) rfl (Reads.dict ho1 hx.1 hd h1 h2) fun _ z => ?_
            have e4 : sysModules = a := by simpa using z
            rw [← e4] at hsys
            simp at hsys
          | lst l => simp only [ho] at hp; exact other hp
          | ins c fs => simp only [ho] at hp; exact other hp
          | exi c fs => simp only [ho] at hp; exact other hp
          | non => simp only [ho] at hp; exact other hp
    · rw [if_neg hc] at P
      exact P.elim
end
/-! ### dicts written out -/
def putD2 (kvs : List (Key × D)) (k : Key) (d : D) : List (Key × D) :=
  if (kvs.any fun kv => decide (kv.1 = k)) = true then kvs.map (fun kv => if kv.1 = k then (kv.1, d) else kv) else kvs ++ [(k, d)]
def mergeD (kvs more : List (Key × D)) : List (Key × D) := more.foldl (fun acc kv => putD2 acc kv.1 kv.2) kvs
def keyD : D → Option Key
  | .int i => some (.inl i)
  | .str x => some (.inr x)
  | _ => none
abbrev EvP := Sl → HE → Rs (List (Key × D))
def pNil : EvP := fun _ h => .ok [] h
def pCons (ek ev : Ev) (r : EvP) : EvP := fun ρ h => (ek ρ h).bind fun k h1 => (ev ρ h1).bind fun v h2 => (r ρ h2).bind fun l h3 => match keyD k with
  | some kk => .ok ((kk, v) :: l) h3
  | none => .fail
def eDic (p : EvP) : Ev := fun ρ h => (p ρ (h.new (.dic []))).bind fun l h1 => match h1.get h.n with
  | some (.dic []) => if l.length ≤ 15 then .ok (.obj h.n) (h1.put h.n (.dic (mergeD [] l))) else .fail
  | _ => .fail

inductive RelP (K : Fg) (m : List Addr) (H : Hp) : List (Key × D) → List (V × V) → Prop
  | nil : RelP K m H [] []
  | cons {k : Key} {d : D} {v : V} {l : List (Key × D)} {ps : List (V × V)} (h : RelD K m H d v) (t : RelP K m H l ps) : RelP K m H ((k, d) :: l) ((kV k, v) :: ps)
theorem RelP.mono {K : Fg} {m m' : List Addr} {H H' : Hp} (p : Pre m m') (e : Ext H H') : ∀ {l : List (Key × D)} {ps : List (V × V)}, RelP K m H l ps → RelP K m' H' l ps
  | _, _, .nil => .nil
  | _, _, .cons h t => .cons (h.mono p e) (RelP.mono p e t)
theorem RelP.kvs {K : Fg} {m : List Addr} {H : Hp} : ∀ {l : List (Key × D)} {ps : List (V × V)}, RelP K m H l ps → ∃ kvs : List (Key × V), ps = kvs.map (fun kv => (kV kv.1, kv.2)) ∧ RelK K m H l kvs
  | _, _, .nil => ⟨[], rfl, .nil⟩
  | _, _, .cons (k := k) (v := v) h t => by
    obtain ⟨kvs, rfl, r⟩ := t.kvs
    exact ⟨(k, v) :: kvs, rfl, .cons h r⟩
theorem RelK.length {K : Fg} {m : List Addr} {H : Hp} : ∀ {l : List (Key × D)} {us : List (Key × V)}, RelK K m H l us → l.length = us.length
  | _, _, .nil => rfl
  | _, _, .cons _ t => by simp [t.length]
theorem RelK.any {K : Fg} {m : List Addr} {H : Hp} {k : Key} : ∀ {l : List (Key × D)} {us : List (Key × V)}, RelK K m H l us → (l.any fun kv => decide (kv.1 = k)) = us.any fun kv => decide (kv.1 = k)
  | _, _, .nil => rfl
  | _, _, .cons _ t => by simp [t.any]
theorem RelK.snoc {K : Fg} {m : List Addr} {H : Hp} {k : Key} {d : D} {v : V} (r : RelD K m H d v) : ∀ {l : List (Key × D)} {us : List (Key × V)}, RelK K m H l us → RelK K m H (l ++ [(k, d)]) (us ++ [(k, v)])
  | _, _, .nil => .cons r .nil
  | _, _, .cons h t => .cons h (t.snoc r)
theorem RelK.repl {K : Fg} {m : List Addr} {H : Hp} {k : Key} {d : D} {v : V} (r : RelD K m H d v) : ∀ {l : List (Key × D)} {us : List (Key × V)}, RelK K m H l us → RelK K m H (l.map fun kv => if kv.1 = k then (kv.1, d) else kv) (us.map fun kv => if kv.1 = k then (kv.1, v) else kv)
  | _, _, .nil => .nil
  | _, _, .cons (k := j) h t => by
    by_cases e : j = k
    · simp only [List.map_cons, if_pos e]
      exact .cons r (t.repl r)
    · simp only [List.map_cons, if_neg e]
      exact .cons h (t.repl r)
theorem RelK.put {K : Fg} {m : List Addr} {H : Hp} {k : Key} {d : D} {v : V} {l : List (Key × D)} {us : List (Key × V)} (t : RelK K m H l us) (r : RelD K m H d v) : RelK K m H (putD2 l k d) (putK us k v) := by
  unfold putD2 putK
  rw [t.any]
  split
  · exact t.repl r
  · exact t.snoc r
theorem RelK.merge {K : Fg} {m : List Addr} {H : Hp} : ∀ {more : List (Key × D)} {rs : List (Key × V)} {l : List (Key × D)} {us : List (Key × V)}, RelK K m H more rs → RelK K m H l us → RelK K m H (mergeD l more) (mergeK us rs)
  | _, _, _, _, .nil, t => t
  | _, _, l, us, .cons (k := k) (d := d) (v := v) h r, t => RelK.merge (l := putD2 l k d) (us := putK us k v) r (t.put h)
def tPs (K : Fg) (W : Wz) (trs : List (TE × TE)) (p : EvP) : Prop := ∀ (m : List Addr) (h : HE) (H : Hp) (ρ : Sl) (σ : L2.St) (Q : List (V × V) → Hp → Prop), Rel K m h H → RelS W.2 K m H ρ σ → Post K (RelP K) m H (p ρ h) Q (fun cls d H' => W.1 cls d σ H') → tPairs trs σ H Q
section
variable {X : Cx} {W : Wz} {pos : Pos} {keys : List (Option Expr)} {values : List Expr}
/-- the pairs of a display -/
def PDs (X : Cx) (W : Wz) (pos : Pos) (keys : List (Option Expr)) (values : List Expr) (p : EvP) : Prop := ∃ trs, PPs X pos keys values trs ∧ tPs X.K W trs p
theorem ps_nil' : PDs X W pos [] [] pNil := ⟨[], pps_nil, fun m h H ρ σ Q R S P => P.here R .nil⟩
theorem ps_cons' {k v : Expr} {ek ev : Ev} {p : EvP} (hk : PE X k (tD X.K W ek)) (hv : PE X v (tD X.K W ev)) (hr : PDs X W pos keys values p) : PDs X W pos (some k :: keys) (v :: values) (pCons ek ev p) := by
  obtain ⟨trs, h1, h2⟩ := hr
  refine ⟨(tD X.K W ek, tD X.K W ev) :: trs, pps_cons hk hv h1, fun m h H ρ σ Q R S P => ?_⟩
  refine ⟨m, h, ρ, R, S, (post_bind (R := RelD X.K) P).imp fun x H1 ⟨m1, h1', d1, p1, e1, R1, r1, P1⟩ => ?_⟩
  refine ⟨m1, h1', ρ, R1, S.mono p1 e1, (post_bind (R := RelD X.K) P1).imp fun y H2 ⟨m2, h2', d2, p2, e2, R2, r2, P2⟩ => ?_⟩
  refine h2 m2 h2' H2 ρ σ _ R2 ((S.mono p1 e1).mono p2 e2) ((post_bind (R := RelP X.K) P2).imp fun ps H3 ⟨m3, h3', l, p3, e3, R3, r3, P3⟩ => ?_)
  cases r1 with
  | int i => exact P3.here R3 (.cons (k := .inl i) (r2.mono p3 e3) r3)
  | str z => exact P3.here R3 (.cons (k := .inr z) (r2.mono p3 e3) r3)
  | _ => exact P3.elim
theorem d_dic {p : EvP} (h : PDs X W pos keys values p) (hall : keys.all (·.isSome) = true) (hl : keys.length = values.length) (h0 : keys ≠ []) (h15 : keys.length ≤ 15) : PE X (.Dict keys values pos) (tD X.K W (eDic p)) := by
  obtain ⟨trs, h1, h2⟩ := h
  refine pe_imp (pe_disp h1 hall hl h0 h15) fun σ H Q q => ?_
  obtain ⟨m, h, ρ, R, S, P⟩ := q
  intro a ha
  have R1 : Rel X.K (m ++ [a]) (h.new (.dic [])) (upd H a (.dK [])) := R.new ha (fun _ z => by cases z) ⟨[], upd_same, .nil⟩
  have e0 : Ext H (upd H a (.dK [])) := Ext.new ha
  have pr : Pre m (m ++ [a]) := Pre.snoc m a
  have ga : (m ++ [a])[h.n]? = some a := get_snoc m a R.len
  refine h2 _ _ _ ρ σ _ R1 (S.mono pr e0) ((post_bind (R := RelP X.K) (P.mono pr e0)).imp fun ps H2 ⟨m2, h2', l, p2, e2, R2, r2, P2⟩ => ?_)
  have ga2 := p2.get ga
  cases hg : h2'.get h.n with
  | none => rw [hg] at P2; exact P2.elim
  | some o =>
    rw [hg] at P2
    cases o with
    | dic kv0 =>
      cases kv0 with
      | cons _ _ => exact P2.elim
      | nil =>
        simp only at P2
        by_cases hz : l.length ≤ 15
        · rw [if_pos hz] at P2
          obtain ⟨a', ha', us, e3, rk0⟩ := R2.ob h.n _ hg
          rw [ga2] at ha'
          cases ha'
          cases rk0
          obtain ⟨kvs, ek, rk⟩ := r2.kvs
          refine ⟨e3, kvs, ek, by rw [← rk.length]; exact hz, ?_⟩
          have ex : Ext H2 (upd H2 a (.dK (mergeK [] kvs))) := Ext.put e3 (fun _ z => by cases z) (fun _ _ z => by cases z) (fun _ z => by cases z)
          obtain ⟨R3, _⟩ := R2.put (o := .dic (mergeD [] l)) (u' := .dK (mergeK [] kvs)) ga2 e3 (fun _ _ z => by cases z) (fun _ z => by cases z) (fun _ z => by cases z) ⟨_, upd_same, (RelK.merge rk .nil).mono (Pre.refl _) ex⟩
          exact P2 m2 _ (.ref a) (Pre.refl _) ex R3 (.obj ga2)
        · rw [if_neg hz] at P2
          exact P2.elim
    | _ => exact P2.elim
/-- {} -/
def eDic0 : Ev := fun _ h => .ok (.obj h.n) (h.new (.dic []))
theorem d_dic0 : PE X (.Dict [] [] pos) (tD X.K W eDic0) := by
  refine pe_imp pe_dnewK fun σ H Q q => ?_
  obtain ⟨m, h, ρ, R, S, P⟩ := q
  intro a ha
  exact P _ _ _ (Pre.snoc m a) (Ext.new ha) (R.new ha (fun _ z => by cases z) ⟨[], upd_same, .nil⟩) (.obj (get_snoc m a R.len))
end
end PL

set_option Elab.async false
set_option linter.all false
set_option maxRecDepth 100000
set_option maxHeartbeats 4000000
/-! the laws' own drawing of numbers, as combinators, and what it tells -/
namespace PL
open PySem PySem.Spec PyProof.Rows L2
/-! ### putting twice -/
theorem Tr.putF_putF : ∀ (f : Nat) (t : Tr) (n : Nat) (a b : Ob), Tr.putF f (Tr.putF f t n a) n b = Tr.putF f t n b
  | 0, t, n, a, b => rfl
  | f + 1, t, n, a, b => by
    by_cases e : n = 0
    · simp only [Tr.putF, if_pos e, Tr.lt, Tr.rt]
    · by_cases o : n % 2 = 1
      · simp only [Tr.putF, if_neg e, if_pos o, Tr.lt, Tr.rt, Tr.val, Tr.putF_putF f]
      · simp only [Tr.putF, if_neg e, if_neg o, Tr.lt, Tr.rt, Tr.val, Tr.putF_putF f]
theorem HE.new_put (h : HE) (a b : Ob) : (h.new a).put h.n b = h.new b := by
  unfold HE.new HE.put Tr.put
  simp only [Tr.putF_putF]
theorem HE.new_n (h : HE) (o : Ob) : (h.new o).n = h.n + 1 := rfl
theorem HE.get_new_self (h : HE) (o : Ob) : (h.new o).get h.n = some o := by rw [HE.get_new, if_pos rfl]
theorem HE.get_new_old {h : HE} {o u : Ob} {i : Nat} (e : h.get i = some u) : (h.new o).get i = some u := by
  rw [HE.get_new, if_neg (Nat.ne_of_lt (HE.lt_of e))]
  exact e
theorem rdL_new {h : HE} {d : D} {l : List D} (o : Ob) (e : rdL h d = some l) : rdL (h.new o) d = some l := by
  cases d with
  | obj i =>
    simp only [rdL] at e ⊢
    cases q : h.get i with
    | none => rw [q] at e; cases e
    | some u => rw [q] at e; rw [HE.get_new_old q]; exact e
  | wl l => exact e
  | _ => cases e
theorem atI_nat {α : Type} {l : List α} {k : Nat} {x : α} (e : l[k]? = some x) : atI l (k : Int) = some x := by
  have hk : k < l.length := (List.getElem?_eq_some_iff.mp e).1
  unfold atI ixN
  have h1 : ¬ ((k : Int) < 0) := by omega
  simp only [show (0 : Int) ≤ (k : Int) by omega, if_true, show (k : Int) < (l.length : Int) by omega, Option.bind_some, Int.toNat_natCast, e]
theorem gIx_rd {h : HE} {d : D} {l : List D} {k : Nat} {x : D} (e : rdL h d = some l) (q : l[k]? = some x) : gIx d (.int (k : Int)) h = .ok x h := by
  cases d with
  | obj i => simp only [gIx, e, atI_nat q]
  | wl l => simp only [gIx, e, atI_nat q]
  | _ => cases e

/-! ### the drawing -/
def numBig : Sv := sSeq (sExpr (eMl mAppend (eVar 5) (lCons (eBin gMod (eVar 4) (eBin gIx (eVar 2) (eVar 6))) (lNil)))) (sSet 4 (eBin gFdiv (eVar 4) (eBin gIx (eVar 2) (eVar 6))))
def numA : Ev := eBin gMod (eBin gPow (eBin gAdd (eBin gAdd (eBin gMod (eVar 3) (eC (.int 2147483629))) (eBin gMul (eC (.int 7919)) (eVar 1))) (eC (.int 1))) (eC (.int 3))) (eC (.int 2147483647))
def numB : Ev := eBin gMod (eBin gMul (eBin gAdd (eVar 7) (eBin gMul (eC (.int 104729)) (eBin gAdd (eVar 6) (eC (.int 1))))) (eBin gAdd (eVar 6) (eC (.int 3)))) (eC (.int 2147483629))
def numD : Ev := eBin gMod (eBin gMul (eBin gMod (eBin gPow (eVar 7) (eC (.int 5))) (eC (.int 2147483647))) (eC (.int 48271))) (eC (.int 2147483629))
def numSmall : Sv := sSeq (sSet 7 numA) (sSeq (sSet 7 numB) (sSeq (sSet 7 numD) (sExpr (eMl mAppend (eVar 5) (lCons (eBin gMod (eBin gFdiv (eVar 7) (eC (.int 16))) (eBin gIx (eVar 2) (eVar 6))) (lNil))))))
def numBody : Sv := sIf (bAnd (bBin gGe (eVar 3) (eBin gPow (eC (.int 10)) (eC (.int 18)))) (bBin gGt (eVar 4) (eC (.int 0)))) numBig numSmall
def numC (n : Nat) : Sv := sSeq (sSet 3 (eCb bMax (lCons (eVar 0) (lCons (eBin gSub (eNeg (eC (.int 1))) (eVar 0)) (lNil))))) (sSeq (sSet 4 (eVar 3)) (sSeq (sSet 5 (eLst (lNil))) (sSeq (sFor n (iRange1 (lCons (eCb bLen (lCons (eVar 2) (lNil))) (lNil))) (gNm 6) numBody) (sRet (eVar 5)))))
/-- the same, in numbers -/
def nW (c : Int) : Int := if -1 - c > c then -1 - c else c
def nA (w salt : Int) : Int := (w % 2147483629 + 7919 * salt + 1) ^ 3 % 2147483647
def nB (a k : Int) : Int := (a + 104729 * (k + 1)) * (k + 3) % 2147483629
def nD (b : Int) : Int := b ^ 5 % 2147483647 * 48271 % 2147483629
def nBig (w left : Int) : Bool := decide ((10 : Int) ^ 18 ≤ w) && decide (0 < left)
def nVal (w salt left k s : Int) : Int := if nBig w left = true then left % s else nD (nB (nA w salt) k) / 16 % s
def nLeft (w left s : Int) : Int := if nBig w left = true then left / s else left
def nNums (w salt : Int) : Int → Int → List Int → List Int
  | _, _, [] => []
  | k, left, s :: r => nVal w salt left k s :: nNums w salt (k + 1) (nLeft w left s) r
theorem nNums_length (w salt : Int) : ∀ (k left : Int) (ss : List Int), (nNums w salt k left ss).length = ss.length
  | _, _, [] => rfl
  | k, left, s :: r => by simp [nNums, nNums_length w salt]
theorem nVal_lt {w salt left k s : Int} (h : 0 < s) : 0 ≤ nVal w salt left k s ∧ nVal w salt left k s < s := by
  unfold nVal
  split
  · exact ⟨Int.emod_nonneg _ (by omega), Int.emod_lt_of_pos _ h⟩
  · exact ⟨Int.emod_nonneg _ (by omega), Int.emod_lt_of_pos _ h⟩
theorem append_new {h : HE} {xs : List D} {d : D} (hx : xs.length < sizeLine) : mAppend (.obj h.n) [d] (h.new (.lst xs)) = .ok .non (h.new (.lst (xs ++ [d]))) := by
  simp only [mAppend, HE.get_new_self, if_pos hx, HE.new_put]
theorem gPow_ok {i j : Int} {h : HE} (a : 0 ≤ j) (b : j ≤ 1000000) (c : i.natAbs < 2 ^ 64) : gPow (.int i) (.int j) h = .ok (.int (i ^ j.toNat)) h := if_pos ⟨a, b, c⟩
theorem gMod_ok {i j : Int} {h : HE} (a : 0 < j) : gMod (.int i) (.int j) h = .ok (.int (i % j)) h := if_pos a
theorem gFdiv_ok {i j : Int} {h : HE} (a : 0 < j) (b : j < 1073741824) : gFdiv (.int i) (.int j) h = .ok (.int (i / j)) h := if_pos ⟨a, b⟩
theorem gMul_ok {i j : Int} {h : HE} (a : -(2 ^ 64) < j) (b : j < 2 ^ 64) : gMul (.int i) (.int j) h = .ok (.int (i * j)) h := if_pos (.inr ⟨a, b⟩)
theorem gAdd_int {i j : Int} {h : HE} : gAdd (.int i) (.int j) h = .ok (.int (i + j)) h := rfl
theorem gSub_int {i j : Int} {h : HE} : gSub (.int i) (.int j) h = .ok (.int (i - j)) h := rfl
theorem gGe_int {i j : Int} {h : HE} : gGe (.int i) (.int j) h = .ok (.bl (decide (j ≤ i))) h := rfl
theorem gGt_int {i j : Int} {h : HE} : gGt (.int i) (.int j) h = .ok (.bl (decide (j < i))) h := rfl
theorem bind_ok {α β : Type} {a : α} {h : HE} {f : α → HE → Rs β} : (Rs.ok a h).bind f = f a h := rfl
theorem bindS_ok {α : Type} {a : α} {h : HE} {ρ : Sl} {f : α → HE → Rt} : bindS (Rs.ok a h) ρ f = f a h := rfl
theorem isB_bl {b : Bool} {h : HE} : isB (.bl b) h = .ok b h := rfl
theorem noX_of_ok {α : Type} {a : α} {h : HE} : noX (Rs.ok a h) = Rs.ok a h := rfl
theorem num_step {h : HE} {ss : List Int} {c salt w left : Int} {d : D} {k : Nat} {s : Int} {s7 : So} {xs : List D} (hd : rdL h d = some (ss.map D.int)) (hk : ss[k]? = some s) (hs : 0 < s) (hs2 : s < 1073741824) (hx : xs.length < sizeLine)
    (h1 : 0 ≤ salt) (h2 : salt ≤ 100000000) (h3 : k ≤ 100000) : ∃ s7', numBody [.va (.int c), .va (.int salt), .va d, .va (.int w), .va (.int left), .va (.obj h.n), .va (.int (k : Int)), s7] (h.new (.lst xs)) =
      .nx [.va (.int c), .va (.int salt), .va d, .va (.int w), .va (.int (nLeft w left s)), .va (.obj h.n), .va (.int (k : Int)), s7'] (h.new (.lst (xs ++ [.int (nVal w salt left k s)]))) := by
  have hix : ∀ o, gIx d (.int (k : Int)) (h.new o) = .ok (.int s) (h.new o) := fun o => gIx_rd (rdL_new o hd) (by rw [List.getElem?_map, hk]; rfl)
  have hr : rdL (h.new (.lst xs)) (.obj h.n) = some xs := by simp only [rdL, HE.get_new_self]
  have a1 := fun d => append_new (h := h) (d := d) hx
  have e18 : ∀ g, gPow (.int 10) (.int 18) g = .ok (.int ((10 : Int) ^ 18)) g := fun g => rfl
  have hm : ∀ {i : Int} {g : HE}, gMod (.int i) (.int s) g = .ok (.int (i % s)) g := gMod_ok hs
  have hf : ∀ {i : Int} {g : HE}, gFdiv (.int i) (.int s) g = .ok (.int (i / s)) g := gFdiv_ok hs hs2
  have test : ∀ g, (bAnd (bBin gGe (eVar 3) (eBin gPow (eC (.int 10)) (eC (.int 18)))) (bBin gGt (eVar 4) (eC (.int 0)))) [.va (.int c), .va (.int salt), .va d, .va (.int w), .va (.int left), .va (.obj h.n), .va (.int (k : Int)), s7] g = .ok (nBig w left) g := fun g => by
    unfold bAnd bBin eBin eVar eC nBig
    simp only [List.getElem?_cons_succ, List.getElem?_cons_zero, bind_ok, e18, gGe_int, gGt_int, isB_bl]
    cases decide ((10 : Int) ^ 18 ≤ w) <;> rfl
  by_cases hb : nBig w left = true
  · refine ⟨s7, ?_⟩
    have e1 : nLeft w left s = left / s := if_pos hb
    have e2 : nVal w salt left k s = left % s := if_pos hb
    rw [e1, e2]
    unfold numBody sIf
    rw [test, hb, bindS_ok]
    unfold numBig sSeq sExpr sSet eBin eMl eVar lCons lNil
    simp only [List.getElem?_cons_succ, List.getElem?_cons_zero, bind_ok, bindS_ok, hix, hr, hm, hf, a1, noX_of_ok, List.set]
  · have hb2 : nBig w left = false := by simpa using hb
    have e1 : nLeft w left s = left := if_neg hb
    have e2 : nVal w salt left k s = nD (nB (nA w salt) k) / 16 % s := if_neg hb
    refine ⟨.va (.int (nD (nB (nA w salt) k))), ?_⟩
    rw [e1, e2]
    unfold numBody sIf
    rw [test, hb2, bindS_ok]
    have b1 : 0 ≤ w % 2147483629 ∧ w % 2147483629 < 2147483629 := ⟨Int.emod_nonneg _ (by omega), Int.emod_lt_of_pos _ (by omega)⟩
    have vA : ∀ s7 g, numA [.va (.int c), .va (.int salt), .va d, .va (.int w), .va (.int left), .va (.obj h.n), .va (.int (k : Int)), s7] g = .ok (.int (nA w salt)) g := fun s7 g => by
      unfold numA eBin eVar eC nA
      simp only [List.getElem?_cons_succ, List.getElem?_cons_zero, bind_ok]
      rw [gMod_ok (by omega), bind_ok, gMul_ok (by omega) (by omega), bind_ok, gAdd_int, bind_ok, gAdd_int, bind_ok, gPow_ok (by omega) (by omega) (by omega), bind_ok, gMod_ok (by omega)]
      rfl
    have bA : 0 ≤ nA w salt ∧ nA w salt < 2147483647 := ⟨Int.emod_nonneg _ (by omega), Int.emod_lt_of_pos _ (by omega)⟩
    have vB : ∀ g, numB [.va (.int c), .va (.int salt), .va d, .va (.int w), .va (.int left), .va (.obj h.n), .va (.int (k : Int)), .va (.int (nA w salt))] g = .ok (.int (nB (nA w salt) k)) g := fun g => by
      unfold numB eBin eVar eC nB
      simp only [List.getElem?_cons_succ, List.getElem?_cons_zero, bind_ok]
      rw [gAdd_int, bind_ok, gMul_ok (by omega) (by omega), bind_ok, gAdd_int, bind_ok, gAdd_int, bind_ok, gMul_ok (by omega) (by omega), bind_ok, gMod_ok (by omega)]
    have bB : 0 ≤ nB (nA w salt) k ∧ nB (nA w salt) k < 2147483629 := ⟨Int.emod_nonneg _ (by omega), Int.emod_lt_of_pos _ (by omega)⟩
    have vD : ∀ g, numD [.va (.int c), .va (.int salt), .va d, .va (.int w), .va (.int left), .va (.obj h.n), .va (.int (k : Int)), .va (.int (nB (nA w salt) k))] g = .ok (.int (nD (nB (nA w salt) k))) g := fun g => by
      unfold numD eBin eVar eC nD
      simp only [List.getElem?_cons_succ, List.getElem?_cons_zero, bind_ok]
      rw [gPow_ok (by omega) (by omega) (by omega), bind_ok, gMod_ok (by omega), bind_ok, gMul_ok (by omega) (by omega), bind_ok, gMod_ok (by omega)]
      rfl
    unfold numSmall sSeq sSet
    simp only [vA, vB, vD, bindS_ok, List.set]
    unfold sExpr eMl eBin eVar eC lCons lNil
    simp only [List.getElem?_cons_succ, List.getElem?_cons_zero, bind_ok, bindS_ok, hix, hr, a1, noX_of_ok]
    rw [gFdiv_ok (by omega) (by omega)]
    simp only [List.getElem?_cons_succ, List.getElem?_cons_zero, bind_ok, bindS_ok, hix, hr, hm, a1, noX_of_ok]

def tailD : Nat → List Int → List D
  | _, [] => []
  | k, _ :: r => .int (k : Int) :: tailD (k + 1) r
theorem tailD_eq : ∀ (k : Nat) (ss : List Int), tailD k ss = (List.range' k ss.length).map fun (i : Nat) => D.int (i : Int)
  | _, [] => rfl
  | k, _ :: r => by
    rw [tailD, tailD_eq (k + 1) r, List.length_cons, List.range'_succ, List.map_cons]
theorem intsD_tail (ss : List Int) : intsD 0 ss.length = tailD 0 ss := by
  rw [tailD_eq]
  unfold intsD
  rw [List.range_eq_range']
  refine List.map_congr_left fun i _ => ?_
  rw [Int.zero_add]
theorem num_loop {h : HE} {c salt w : Int} {d : D} {all : List Int} (hd : rdL h d = some (all.map D.int)) (hs : ∀ s ∈ all, 0 < s ∧ s < 1073741824) (hl : all.length ≤ 100000) (h1 : 0 ≤ salt) (h2 : salt ≤ 100000000) :
    ∀ (ss pre : List Int) (k : Nat) (left : Int) (s6 s7 : So) (xs : List D), all = pre ++ ss → pre.length = k → xs.length = k →
      ∃ left' s6' s7', forP (gNm 6) numBody (tailD k ss) [.va (.int c), .va (.int salt), .va d, .va (.int w), .va (.int left), .va (.obj h.n), s6, s7] (h.new (.lst xs)) =
        .nx [.va (.int c), .va (.int salt), .va d, .va (.int w), .va (.int left'), .va (.obj h.n), s6', s7'] (h.new (.lst (xs ++ (nNums w salt k left ss).map D.int)))
  | [], pre, k, left, s6, s7, xs, _, _, _ => ⟨left, s6, s7, by simp [forP, tailD, nNums]⟩
  | s :: r, pre, k, left, s6, s7, xs, e, hp, hx => by
    have hm : s ∈ all := by rw [e]; simp
    have hk : all[k]? = some s := by rw [e, List.getElem?_append_right (by omega)]; simp [hp]
    have hlen : all.length = k + (r.length + 1) := by rw [e, List.length_append, hp]; rfl
    have hz : xs.length < sizeLine := by rw [sizeLine_eq]; omega
    obtain ⟨t7, st⟩ := num_step (h := h) (c := c) (salt := salt) (w := w) (left := left) (d := d) (s7 := s7) (xs := xs) hd hk (hs s hm).1 (hs s hm).2 hz h1 h2 (by omega)
    obtain ⟨l', u6, u7, go⟩ := num_loop hd hs hl h1 h2 r (pre ++ [s]) (k + 1) (nLeft w left s) (.va (.int (k : Int))) t7 (xs ++ [.int (nVal w salt left k s)]) (by rw [e]; simp) (by simp [hp]) (by simp [hx])
    refine ⟨l', u6, u7, ?_⟩
    unfold tailD forP gNm
    simp only [bindS_ok, List.set]
    rw [st]
    show forP (gNm 6) numBody (tailD (k + 1) r) _ _ = _
    rw [go]
    simp [nNums]
theorem p62 : (2 : Int) ^ 62 = 4611686018427387904 := by decide +kernel
theorem in62 (n : Nat) (h : n ≤ 100000) : -(2 ^ 62) ≤ (n : Int) ∧ (n : Int) < 2 ^ 62 := by
  rw [p62]
  omega
theorem rng_j {l : EvL} {ρ : Sl} {h g : HE} {j : Int} (e : l ρ h = .ok [.int j] g) (c : -(2 ^ 62) ≤ j ∧ j < 2 ^ 62) : iRange1 l ρ h = .ok (fun _ => some (intsD 0 j.toNat)) g := by
  unfold iRange1
  rw [e]
  exact if_pos c
theorem rng_ok {l : EvL} {ρ : Sl} {h g : HE} {n : Nat} (e : l ρ h = .ok [.int (n : Int)] g) (hn : n ≤ 100000) : iRange1 l ρ h = .ok (fun _ => some (intsD 0 n)) g := by
  have z := rng_j e (in62 n hn)
  rw [Int.toNat_natCast] at z
  exact z
theorem num_spec (n : Nat) {h : HE} {c salt : Int} {d : D} {ss : List Int} (hd : rdL h d = some (ss.map D.int)) (hs : ∀ s ∈ ss, 0 < s ∧ s < 1073741824) (hl : ss.length ≤ 100000) (hn : ss.length < n) (h1 : 0 ≤ salt) (h2 : salt ≤ 100000000) :
    runB 8 (numC n) [.int c, .int salt, d] h = .ok (.obj h.n) (h.new (.lst ((nNums (nW c) salt 0 (nW c) ss).map D.int))) := by
  have hd' := rdL_new (.lst []) hd
  have hlen : len1 d (h.new (.lst [])) = .ok (.int ((ss.length : Nat) : Int)) (h.new (.lst [])) := by
    cases d with
    | obj i => simp only [len1, hd', List.length_map]
    | wl l =>
      have e : l = ss.map D.int := Option.some.inj hd
      simp only [len1, rdL, e, List.length_map]
    | _ => cases hd
  have it : (iRange1 (lCons (eCb bLen (lCons (eVar 2) (lNil))) (lNil))) [.va (.int c), .va (.int salt), .va d, .va (.int (nW c)), .va (.int (nW c)), .va (.obj h.n), .no, .no] (h.new (.lst [])) = .ok (fun _ => some (intsD 0 ss.length)) (h.new (.lst [])) := by
    have e1 : (lCons (eCb bLen (lCons (eVar 2) (lNil))) (lNil)) [.va (.int c), .va (.int salt), .va d, .va (.int (nW c)), .va (.int (nW c)), .va (.obj h.n), .no, .no] (h.new (.lst [])) = .ok [.int ((ss.length : Nat) : Int)] (h.new (.lst [])) := by
      unfold lCons lNil eCb eVar bLen fn1
      simp only [List.getElem?_cons_succ, List.getElem?_cons_zero, bind_ok, hlen, noX_of_ok]
    exact rng_ok e1 hl
  obtain ⟨l', u6, u7, go⟩ := num_loop (h := h) (c := c) (w := nW c) hd hs hl h1 h2 ss [] 0 (nW c) .no .no [] rfl rfl rfl
  have loop : (sFor n (iRange1 (lCons (eCb bLen (lCons (eVar 2) (lNil))) (lNil))) (gNm 6) numBody) [.va (.int c), .va (.int salt), .va d, .va (.int (nW c)), .va (.int (nW c)), .va (.obj h.n), .no, .no] (h.new (.lst [])) =
      .nx [.va (.int c), .va (.int salt), .va d, .va (.int (nW c)), .va (.int l'), .va (.obj h.n), u6, u7] (h.new (.lst ((nNums (nW c) salt 0 (nW c) ss).map D.int))) := by
    unfold sFor
    rw [it, bindS_ok, forS_const _ _ _ _ (by simp [intsD]; omega), List.drop_zero, intsD_tail]
    rw [go]
    simp
  unfold runB numC
  have st3 : sSet 3 (eCb bMax (lCons (eVar 0) (lCons (eBin gSub (eNeg (eC (.int 1))) (eVar 0)) (lNil)))) [.va (.int c), .va (.int salt), .va d, .no, .no, .no, .no, .no] h = .nx [.va (.int c), .va (.int salt), .va d, .va (.int (nW c)), .no, .no, .no, .no] h := rfl
  show (match sSeq _ _ [.va (.int c), .va (.int salt), .va d, .no, .no, .no, .no, .no] h with
    | .rt d h => Rs.ok d h
    | .nx _ h => Rs.ok .non h
    | .exc x _ h => Rs.exc x h
    | _ => Rs.fail) = _
  unfold sSeq
  rw [st3]
  simp only []
  have st4 : sSet 4 (eVar 3) [.va (.int c), .va (.int salt), .va d, .va (.int (nW c)), .no, .no, .no, .no] h = .nx [.va (.int c), .va (.int salt), .va d, .va (.int (nW c)), .va (.int (nW c)), .no, .no, .no] h := rfl
  have st5 : sSet 5 (eLst lNil) [.va (.int c), .va (.int salt), .va d, .va (.int (nW c)), .va (.int (nW c)), .no, .no, .no] h = .nx [.va (.int c), .va (.int salt), .va d, .va (.int (nW c)), .va (.int (nW c)), .va (.obj h.n), .no, .no] (h.new (.lst [])) := by
    unfold sSet eLst lNil okLst
    simp only [bind_ok, List.length_nil, Nat.zero_le, if_true, bindS_ok, List.set]
  simp only [st4, st5]
  rw [loop]
  rfl
end PL

set_option Elab.async false
set_option linter.all false
set_option maxRecDepth 100000
set_option maxHeartbeats 0
namespace Law
open PySem PySem.Spec PyProof.Rows L2 PL
/-! ### the text -/
abbrev prog : Program := PySem.Challenge.pw_partedlanes_k01_exceptions
def top (i : Nat) : Stmt := prog.main.body.getD i (.Pass ⟨0, 0, 0, 0⟩)
def inCls (s : Stmt) (i : Nat) : Stmt := match s with
  | .ClassDef _ _ _ b _ _ _ _ _ _ _ => b.getD i (.Pass ⟨0, 0, 0, 0⟩)
  | s => s
abbrev x_LanesError : Stmt := inCls (top 1) 0
abbrev x_Absent : Stmt := inCls (top 24) 0
abbrev x_TooLarge : Stmt := inCls (top 27) 0
abbrev x_TooMany : Stmt := inCls (top 28) 0
abbrev s__law_numbers : Stmt := top 31
abbrev s__law_made : Stmt := top 32
abbrev s__law_marks : Stmt := top 33
abbrev s_law : Stmt := top 34
def xi : List XI := [⟨"LanesError", "LanesError.__init__", defArgs x_LanesError, defBody x_LanesError, defScope x_LanesError⟩, ⟨"Absent", "Absent.__init__", defArgs x_Absent, defBody x_Absent, defScope x_Absent⟩, ⟨"TooLarge", "TooLarge.__init__", defArgs x_TooLarge, defBody x_TooLarge, defScope x_TooLarge⟩, ⟨"TooMany", "TooMany.__init__", defArgs x_TooMany, defBody x_TooMany, defScope x_TooMany⟩]
def xd_LanesError : XD := ⟨"LanesError", "LanesError", bsVE⟩
def xd_BadRegisters : XD := ⟨"BadRegisters", "LanesError", bsVE⟩
def xd_BadNumber : XD := ⟨"BadNumber", "LanesError", bsVE⟩
def xd_BadRow : XD := ⟨"BadRow", "LanesError", bsVE⟩
def xd_BadRows : XD := ⟨"BadRows", "LanesError", bsVE⟩
def xd_BadJoins : XD := ⟨"BadJoins", "LanesError", bsVE⟩
def xd_BadProgram : XD := ⟨"BadProgram", "LanesError", bsVE⟩
def xd_BadRule : XD := ⟨"BadRule", "LanesError", bsVE⟩
def xd_BadData : XD := ⟨"BadData", "LanesError", bsVE⟩
def xd_BadText : XD := ⟨"BadText", "LanesError", bsVE⟩
def xd_BadKind : XD := ⟨"BadKind", "LanesError", bsVE⟩
def xd_BadMachine : XD := ⟨"BadMachine", "LanesError", bsVE⟩
def xd_NotNested : XD := ⟨"NotNested", "LanesError", bsVE⟩
def xd_NotPlain : XD := ⟨"NotPlain", "LanesError", bsVE⟩
def xd_BadState : XD := ⟨"BadState", "LanesError", bsVE⟩
def xd_BadPromise : XD := ⟨"BadPromise", "LanesError", bsVE⟩
def xd_BadPaper : XD := ⟨"BadPaper", "LanesError", bsVE⟩
def xd_BadLine : XD := ⟨"BadLine", "LanesError", bsVE⟩
def xd_BadBlock : XD := ⟨"BadBlock", "LanesError", bsVE⟩
def xd_Guarded : XD := ⟨"Guarded", "LanesError", bsVE⟩
def xd_Unlike : XD := ⟨"Unlike", "LanesError", bsVE⟩
def xd_BadEdits : XD := ⟨"BadEdits", "LanesError", bsVE⟩
def xd_BadKeeper : XD := ⟨"BadKeeper", "LanesError", bsVE⟩
def xd_Absent : XD := ⟨"Absent", "Absent", bsKE⟩
def xd_NoLane : XD := ⟨"NoLane", "Absent", bsKE⟩
def xd_NoScene : XD := ⟨"NoScene", "Absent", bsKE⟩
def xd_TooLarge : XD := ⟨"TooLarge", "TooLarge", bsOE⟩
def xd_TooMany : XD := ⟨"TooMany", "TooMany", bsOE⟩
def xcs : List Str := (["LanesError", "BadRegisters", "BadNumber", "BadRow", "BadRows", "BadJoins", "BadProgram", "BadRule", "BadData", "BadText", "BadKind", "BadMachine", "NotNested", "NotPlain", "BadState", "BadPromise", "BadPaper", "BadLine", "BadBlock", "Guarded"] : List Str) ++ (["Unlike", "BadEdits", "BadKeeper", "Absent", "NoLane", "NoScene", "TooLarge", "TooMany"] : List Str)
def irows : List (Str × Irow) := [
  ("LanesError", [("BadRegisters", false), ("BadNumber", false), ("BadRow", false), ("BadRows", false), ("BadJoins", false), ("BadProgram", false), ("BadRule", false), ("BadData", false), ("BadText", false), ("BadKind", false), ("BadMachine", false), ("NotNested", false), ("NotPlain", false), ("BadBlock", false), ("BadState", false), ("BadPromise", false), ("BadPaper", false), ("BadLine", false), ("NoLane", false), ("NoScene", false), ("TooLarge", false), ("TooMany", false), ("Guarded", false), ("Unlike", false), ("BadEdits", false), ("BadKeeper", false), ("NothingToUndo", false), ("LanesError", true), ("Absent", false)], [("RuntimeError", false), ("ValueError", true), ("KeyError", false), ("OverflowError", false)]),
  ("BadRegisters", [("BadRegisters", true), ("BadNumber", false), ("BadRow", false), ("BadRows", false), ("BadJoins", false), ("BadProgram", false), ("BadRule", false), ("BadData", false), ("BadText", false), ("BadKind", false), ("BadMachine", false), ("NotNested", false), ("NotPlain", false), ("BadBlock", false), ("BadState", false), ("BadPromise", false), ("BadPaper", false), ("BadLine", false), ("NoLane", false), ("NoScene", false), ("TooLarge", false), ("TooMany", false), ("Guarded", false), ("Unlike", false), ("BadEdits", false), ("BadKeeper", false), ("NothingToUndo", false), ("LanesError", true), ("Absent", false)], [("RuntimeError", false), ("ValueError", true), ("KeyError", false), ("OverflowError", false)]),
  ("BadNumber", [("BadRegisters", false), ("BadNumber", true), ("BadRow", false), ("BadRows", false), ("BadJoins", false), ("BadProgram", false), ("BadRule", false), ("BadData", false), ("BadText", false), ("BadKind", false), ("BadMachine", false), ("NotNested", false), ("NotPlain", false), ("BadBlock", false), ("BadState", false), ("BadPromise", false), ("BadPaper", false), ("BadLine", false), ("NoLane", false), ("NoScene", false), ("TooLarge", false), ("TooMany", false), ("Guarded", false), ("Unlike", false), ("BadEdits", false), ("BadKeeper", false), ("NothingToUndo", false), ("LanesError", true), ("Absent", false)], [("RuntimeError", false), ("ValueError", true), ("KeyError", false), ("OverflowError", false)]),
  ("BadRow", [("BadRegisters", false), ("BadNumber", false), ("BadRow", true), ("BadRows", false), ("BadJoins", false), ("BadProgram", false), ("BadRule", false), ("BadData", false), ("BadText", false), ("BadKind", false), ("BadMachine", false), ("NotNested", false), ("NotPlain", false), ("BadBlock", false), ("BadState", false), ("BadPromise", false), ("BadPaper", false), ("BadLine", false), ("NoLane", false), ("NoScene", false), ("TooLarge", false), ("TooMany", false), ("Guarded", false), ("Unlike", false), ("BadEdits", false), ("BadKeeper", false), ("NothingToUndo", false), ("LanesError", true), ("Absent", false)], [("RuntimeError", false), ("ValueError", true), ("KeyError", false), ("OverflowError", false)]),
  ("BadRows", [("BadRegisters", false), ("BadNumber", false), ("BadRow", false), ("BadRows", true), ("BadJoins", false), ("BadProgram", false), ("BadRule", false), ("BadData", false), ("BadText", false), ("BadKind", false), ("BadMachine", false), ("NotNested", false), ("NotPlain", false), ("BadBlock", false), ("BadState", false), ("BadPromise", false), ("BadPaper", false), ("BadLine", false), ("NoLane", false), ("NoScene", false), ("TooLarge", false), ("TooMany", false), ("Guarded", false), ("Unlike", false), ("BadEdits", false), ("BadKeeper", false), ("NothingToUndo", false), ("LanesError", true), ("Absent", false)], [("RuntimeError", false), ("ValueError", true), ("KeyError", false), ("OverflowError", false)]),
  ("BadJoins", [("BadRegisters", false), ("BadNumber", false), ("BadRow", false), ("BadRows", false), ("BadJoins", true), ("BadProgram", false), ("BadRule", false), ("BadData", false), ("BadText", false), ("BadKind", false), ("BadMachine", false), ("NotNested", false), ("NotPlain", false), ("BadBlock", false), ("BadState", false), ("BadPromise", false), ("BadPaper", false), ("BadLine", false), ("NoLane", false), ("NoScene", false), ("TooLarge", false), ("TooMany", false), ("Guarded", false), ("Unlike", false), ("BadEdits", false), ("BadKeeper", false), ("NothingToUndo", false), ("LanesError", true), ("Absent", false)], [("RuntimeError", false), ("ValueError", true), ("KeyError", false), ("OverflowError", false)]),
  ("BadProgram", [("BadRegisters", false), ("BadNumber", false), ("BadRow", false), ("BadRows", false), ("BadJoins", false), ("BadProgram", true), ("BadRule", false), ("BadData", false), ("BadText", false), ("BadKind", false), ("BadMachine", false), ("NotNested", false), ("NotPlain", false), ("BadBlock", false), ("BadState", false), ("BadPromise", false), ("BadPaper", false), ("BadLine", false), ("NoLane", false), ("NoScene", false), ("TooLarge", false), ("TooMany", false), ("Guarded", false), ("Unlike", false), ("BadEdits", false), ("BadKeeper", false), ("NothingToUndo", false), ("LanesError", true), ("Absent", false)], [("RuntimeError", false), ("ValueError", true), ("KeyError", false), ("OverflowError", false)]),
  ("BadRule", [("BadRegisters", false), ("BadNumber", false), ("BadRow", false), ("BadRows", false), ("BadJoins", false), ("BadProgram", false), ("BadRule", true), ("BadData", false), ("BadText", false), ("BadKind", false), ("BadMachine", false), ("NotNested", false), ("NotPlain", false), ("BadBlock", false), ("BadState", false), ("BadPromise", false), ("BadPaper", false), ("BadLine", false), ("NoLane", false), ("NoScene", false), ("TooLarge", false), ("TooMany", false), ("Guarded", false), ("Unlike", false), ("BadEdits", false), ("BadKeeper", false), ("NothingToUndo", false), ("LanesError", true), ("Absent", false)], [("RuntimeError", false), ("ValueError", true), ("KeyError", false), ("OverflowError", false)]),
  ("BadData", [("BadRegisters", false), ("BadNumber", false), ("BadRow", false), ("BadRows", false), ("BadJoins", false), ("BadProgram", false), ("BadRule", false), ("BadData", true), ("BadText", false), ("BadKind", false), ("BadMachine", false), ("NotNested", false), ("NotPlain", false), ("BadBlock", false), ("BadState", false), ("BadPromise", false), ("BadPaper", false), ("BadLine", false), ("NoLane", false), ("NoScene", false), ("TooLarge", false), ("TooMany", false), ("Guarded", false), ("Unlike", false), ("BadEdits", false), ("BadKeeper", false), ("NothingToUndo", false), ("LanesError", true), ("Absent", false)], [("RuntimeError", false), ("ValueError", true), ("KeyError", false), ("OverflowError", false)]),
  ("BadText", [("BadRegisters", false), ("BadNumber", false), ("BadRow", false), ("BadRows", false), ("BadJoins", false), ("BadProgram", false), ("BadRule", false), ("BadData", false), ("BadText", true), ("BadKind", false), ("BadMachine", false), ("NotNested", false), ("NotPlain", false), ("BadBlock", false), ("BadState", false), ("BadPromise", false), ("BadPaper", false), ("BadLine", false), ("NoLane", false), ("NoScene", false), ("TooLarge", false), ("TooMany", false), ("Guarded", false), ("Unlike", false), ("BadEdits", false), ("BadKeeper", false), ("NothingToUndo", false), ("LanesError", true), ("Absent", false)], [("RuntimeError", false), ("ValueError", true), ("KeyError", false), ("OverflowError", false)]),
  ("BadKind", [("BadRegisters", false), ("BadNumber", false), ("BadRow", false), ("BadRows", false), ("BadJoins", false), ("BadProgram", false), ("BadRule", false), ("BadData", false), ("BadText", false), ("BadKind", true), ("BadMachine", false), ("NotNested", false), ("NotPlain", false), ("BadBlock", false), ("BadState", false), ("BadPromise", false), ("BadPaper", false), ("BadLine", false), ("NoLane", false), ("NoScene", false), ("TooLarge", false), ("TooMany", false), ("Guarded", false), ("Unlike", false), ("BadEdits", false), ("BadKeeper", false), ("NothingToUndo", false), ("LanesError", true), ("Absent", false)], [("RuntimeError", false), ("ValueError", true), ("KeyError", false), ("OverflowError", false)]),
  ("BadMachine", [("BadRegisters", false), ("BadNumber", false), ("BadRow", false), ("BadRows", false), ("BadJoins", false), ("BadProgram", false), ("BadRule", false), ("BadData", false), ("BadText", false), ("BadKind", false), ("BadMachine", true), ("NotNested", false), ("NotPlain", false), ("BadBlock", false), ("BadState", false), ("BadPromise", false), ("BadPaper", false), ("BadLine", false), ("NoLane", false), ("NoScene", false), ("TooLarge", false), ("TooMany", false), ("Guarded", false), ("Unlike", false), ("BadEdits", false), ("BadKeeper", false), ("NothingToUndo", false), ("LanesError", true), ("Absent", false)], [("RuntimeError", false), ("ValueError", true), ("KeyError", false), ("OverflowError", false)]),
  ("NotNested", [("BadRegisters", false), ("BadNumber", false), ("BadRow", false), ("BadRows", false), ("BadJoins", false), ("BadProgram", false), ("BadRule", false), ("BadData", false), ("BadText", false), ("BadKind", false), ("BadMachine", false), ("NotNested", true), ("NotPlain", false), ("BadBlock", false), ("BadState", false), ("BadPromise", false), ("BadPaper", false), ("BadLine", false), ("NoLane", false), ("NoScene", false), ("TooLarge", false), ("TooMany", false), ("Guarded", false), ("Unlike", false), ("BadEdits", false), ("BadKeeper", false), ("NothingToUndo", false), ("LanesError", true), ("Absent", false)], [("RuntimeError", false), ("ValueError", true), ("KeyError", false), ("OverflowError", false)]),
  ("NotPlain", [("BadRegisters", false), ("BadNumber", false), ("BadRow", false), ("BadRows", false), ("BadJoins", false), ("BadProgram", false), ("BadRule", false), ("BadData", false), ("BadText", false), ("BadKind", false), ("BadMachine", false), ("NotNested", false), ("NotPlain", true), ("BadBlock", false), ("BadState", false), ("BadPromise", false), ("BadPaper", false), ("BadLine", false), ("NoLane", false), ("NoScene", false), ("TooLarge", false), ("TooMany", false), ("Guarded", false), ("Unlike", false), ("BadEdits", false), ("BadKeeper", false), ("NothingToUndo", false), ("LanesError", true), ("Absent", false)], [("RuntimeError", false), ("ValueError", true), ("KeyError", false), ("OverflowError", false)]),
  ("BadState", [("BadRegisters", false), ("BadNumber", false), ("BadRow", false), ("BadRows", false), ("BadJoins", false), ("BadProgram", false), ("BadRule", false), ("BadData", false), ("BadText", false), ("BadKind", false), ("BadMachine", false), ("NotNested", false), ("NotPlain", false), ("BadBlock", false), ("BadState", true), ("BadPromise", false), ("BadPaper", false), ("BadLine", false), ("NoLane", false), ("NoScene", false), ("TooLarge", false), ("TooMany", false), ("Guarded", false), ("Unlike", false), ("BadEdits", false), ("BadKeeper", false), ("NothingToUndo", false), ("LanesError", true), ("Absent", false)], [("RuntimeError", false), ("ValueError", true), ("KeyError", false), ("OverflowError", false)]),
  ("BadPromise", [("BadRegisters", false), ("BadNumber", false), ("BadRow", false), ("BadRows", false), ("BadJoins", false), ("BadProgram", false), ("BadRule", false), ("BadData", false), ("BadText", false), ("BadKind", false), ("BadMachine", false), ("NotNested", false), ("NotPlain", false), ("BadBlock", false), ("BadState", false), ("BadPromise", true), ("BadPaper", false), ("BadLine", false), ("NoLane", false), ("NoScene", false), ("TooLarge", false), ("TooMany", false), ("Guarded", false), ("Unlike", false), ("BadEdits", false), ("BadKeeper", false), ("NothingToUndo", false), ("LanesError", true), ("Absent", false)], [("RuntimeError", false), ("ValueError", true), ("KeyError", false), ("OverflowError", false)]),
  ("BadPaper", [("BadRegisters", false), ("BadNumber", false), ("BadRow", false), ("BadRows", false), ("BadJoins", false), ("BadProgram", false), ("BadRule", false), ("BadData", false), ("BadText", false), ("BadKind", false), ("BadMachine", false), ("NotNested", false), ("NotPlain", false), ("BadBlock", false), ("BadState", false), ("BadPromise", false), ("BadPaper", true), ("BadLine", false), ("NoLane", false), ("NoScene", false), ("TooLarge", false), ("TooMany", false), ("Guarded", false), ("Unlike", false), ("BadEdits", false), ("BadKeeper", false), ("NothingToUndo", false), ("LanesError", true), ("Absent", false)], [("RuntimeError", false), ("ValueError", true), ("KeyError", false), ("OverflowError", false)]),
  ("BadLine", [("BadRegisters", false), ("BadNumber", false), ("BadRow", false), ("BadRows", false), ("BadJoins", false), ("BadProgram", false), ("BadRule", false), ("BadData", false), ("BadText", false), ("BadKind", false), ("BadMachine", false), ("NotNested", false), ("NotPlain", false), ("BadBlock", false), ("BadState", false), ("BadPromise", false), ("BadPaper", false), ("BadLine", true), ("NoLane", false), ("NoScene", false), ("TooLarge", false), ("TooMany", false), ("Guarded", false), ("Unlike", false), ("BadEdits", false), ("BadKeeper", false), ("NothingToUndo", false), ("LanesError", true), ("Absent", false)], [("RuntimeError", false), ("ValueError", true), ("KeyError", false), ("OverflowError", false)]),
  ("BadBlock", [("BadRegisters", false), ("BadNumber", false), ("BadRow", false), ("BadRows", false), ("BadJoins", false), ("BadProgram", false), ("BadRule", false), ("BadData", false), ("BadText", false), ("BadKind", false), ("BadMachine", false), ("NotNested", false), ("NotPlain", false), ("BadBlock", true), ("BadState", false), ("BadPromise", false), ("BadPaper", false), ("BadLine", false), ("NoLane", false), ("NoScene", false), ("TooLarge", false), ("TooMany", false), ("Guarded", false), ("Unlike", false), ("BadEdits", false), ("BadKeeper", false), ("NothingToUndo", false), ("LanesError", true), ("Absent", false)], [("RuntimeError", false), ("ValueError", true), ("KeyError", false), ("OverflowError", false)]),
  ("Guarded", [("BadRegisters", false), ("BadNumber", false), ("BadRow", false), ("BadRows", false), ("BadJoins", false), ("BadProgram", false), ("BadRule", false), ("BadData", false), ("BadText", false), ("BadKind", false), ("BadMachine", false), ("NotNested", false), ("NotPlain", false), ("BadBlock", false), ("BadState", false), ("BadPromise", false), ("BadPaper", false), ("BadLine", false), ("NoLane", false), ("NoScene", false), ("TooLarge", false), ("TooMany", false), ("Guarded", true), ("Unlike", false), ("BadEdits", false), ("BadKeeper", false), ("NothingToUndo", false), ("LanesError", true), ("Absent", false)], [("RuntimeError", false), ("ValueError", true), ("KeyError", false), ("OverflowError", false)]),
  ("Unlike", [("BadRegisters", false), ("BadNumber", false), ("BadRow", false), ("BadRows", false), ("BadJoins", false), ("BadProgram", false), ("BadRule", false), ("BadData", false), ("BadText", false), ("BadKind", false), ("BadMachine", false), ("NotNested", false), ("NotPlain", false), ("BadBlock", false), ("BadState", false), ("BadPromise", false), ("BadPaper", false), ("BadLine", false), ("NoLane", false), ("NoScene", false), ("TooLarge", false), ("TooMany", false), ("Guarded", false), ("Unlike", true), ("BadEdits", false), ("BadKeeper", false), ("NothingToUndo", false), ("LanesError", true), ("Absent", false)], [("RuntimeError", false), ("ValueError", true), ("KeyError", false), ("OverflowError", false)]),
  ("BadEdits", [("BadRegisters", false), ("BadNumber", false), ("BadRow", false), ("BadRows", false), ("BadJoins", false), ("BadProgram", false), ("BadRule", false), ("BadData", false), ("BadText", false), ("BadKind", false), ("BadMachine", false), ("NotNested", false), ("NotPlain", false), ("BadBlock", false), ("BadState", false), ("BadPromise", false), ("BadPaper", false), ("BadLine", false), ("NoLane", false), ("NoScene", false), ("TooLarge", false), ("TooMany", false), ("Guarded", false), ("Unlike", false), ("BadEdits", true), ("BadKeeper", false), ("NothingToUndo", false), ("LanesError", true), ("Absent", false)], [("RuntimeError", false), ("ValueError", true), ("KeyError", false), ("OverflowError", false)]),
  ("BadKeeper", [("BadRegisters", false), ("BadNumber", false), ("BadRow", false), ("BadRows", false), ("BadJoins", false), ("BadProgram", false), ("BadRule", false), ("BadData", false), ("BadText", false), ("BadKind", false), ("BadMachine", false), ("NotNested", false), ("NotPlain", false), ("BadBlock", false), ("BadState", false), ("BadPromise", false), ("BadPaper", false), ("BadLine", false), ("NoLane", false), ("NoScene", false), ("TooLarge", false), ("TooMany", false), ("Guarded", false), ("Unlike", false), ("BadEdits", false), ("BadKeeper", true), ("NothingToUndo", false), ("LanesError", true), ("Absent", false)], [("RuntimeError", false), ("ValueError", true), ("KeyError", false), ("OverflowError", false)]),
  ("Absent", [("BadRegisters", false), ("BadNumber", false), ("BadRow", false), ("BadRows", false), ("BadJoins", false), ("BadProgram", false), ("BadRule", false), ("BadData", false), ("BadText", false), ("BadKind", false), ("BadMachine", false), ("NotNested", false), ("NotPlain", false), ("BadBlock", false), ("BadState", false), ("BadPromise", false), ("BadPaper", false), ("BadLine", false), ("NoLane", false), ("NoScene", false), ("TooLarge", false), ("TooMany", false), ("Guarded", false), ("Unlike", false), ("BadEdits", false), ("BadKeeper", false), ("NothingToUndo", false), ("LanesError", false), ("Absent", true)], [("RuntimeError", false), ("ValueError", false), ("KeyError", true), ("OverflowError", false)]),
  ("NoLane", [("BadRegisters", false), ("BadNumber", false), ("BadRow", false), ("BadRows", false), ("BadJoins", false), ("BadProgram", false), ("BadRule", false), ("BadData", false), ("BadText", false), ("BadKind", false), ("BadMachine", false), ("NotNested", false), ("NotPlain", false), ("BadBlock", false), ("BadState", false), ("BadPromise", false), ("BadPaper", false), ("BadLine", false), ("NoLane", true), ("NoScene", false), ("TooLarge", false), ("TooMany", false), ("Guarded", false), ("Unlike", false), ("BadEdits", false), ("BadKeeper", false), ("NothingToUndo", false), ("LanesError", false), ("Absent", true)], [("RuntimeError", false), ("ValueError", false), ("KeyError", true), ("OverflowError", false)]),
  ("NoScene", [("BadRegisters", false), ("BadNumber", false), ("BadRow", false), ("BadRows", false), ("BadJoins", false), ("BadProgram", false), ("BadRule", false), ("BadData", false), ("BadText", false), ("BadKind", false), ("BadMachine", false), ("NotNested", false), ("NotPlain", false), ("BadBlock", false), ("BadState", false), ("BadPromise", false), ("BadPaper", false), ("BadLine", false), ("NoLane", false), ("NoScene", true), ("TooLarge", false), ("TooMany", false), ("Guarded", false), ("Unlike", false), ("BadEdits", false), ("BadKeeper", false), ("NothingToUndo", false), ("LanesError", false), ("Absent", true)], [("RuntimeError", false), ("ValueError", false), ("KeyError", true), ("OverflowError", false)]),
  ("TooLarge", [("BadRegisters", false), ("BadNumber", false), ("BadRow", false), ("BadRows", false), ("BadJoins", false), ("BadProgram", false), ("BadRule", false), ("BadData", false), ("BadText", false), ("BadKind", false), ("BadMachine", false), ("NotNested", false), ("NotPlain", false), ("BadBlock", false), ("BadState", false), ("BadPromise", false), ("BadPaper", false), ("BadLine", false), ("NoLane", false), ("NoScene", false), ("TooLarge", true), ("TooMany", false), ("Guarded", false), ("Unlike", false), ("BadEdits", false), ("BadKeeper", false), ("NothingToUndo", false), ("LanesError", false), ("Absent", false)], [("RuntimeError", false), ("ValueError", false), ("KeyError", false), ("OverflowError", true)]),
  ("TooMany", [("BadRegisters", false), ("BadNumber", false), ("BadRow", false), ("BadRows", false), ("BadJoins", false), ("BadProgram", false), ("BadRule", false), ("BadData", false), ("BadText", false), ("BadKind", false), ("BadMachine", false), ("NotNested", false), ("NotPlain", false), ("BadBlock", false), ("BadState", false), ("BadPromise", false), ("BadPaper", false), ("BadLine", false), ("NoLane", false), ("NoScene", false), ("TooLarge", false), ("TooMany", true), ("Guarded", false), ("Unlike", false), ("BadEdits", false), ("BadKeeper", false), ("NothingToUndo", false), ("LanesError", false), ("Absent", false)], [("RuntimeError", false), ("ValueError", false), ("KeyError", false), ("OverflowError", true)]),
  ("NothingToUndo", [("BadRegisters", false), ("BadNumber", false), ("BadRow", false), ("BadRows", false), ("BadJoins", false), ("BadProgram", false), ("BadRule", false), ("BadData", false), ("BadText", false), ("BadKind", false), ("BadMachine", false), ("NotNested", false), ("NotPlain", false), ("BadBlock", false), ("BadState", false), ("BadPromise", false), ("BadPaper", false), ("BadLine", false), ("NoLane", false), ("NoScene", false), ("TooLarge", false), ("TooMany", false), ("Guarded", false), ("Unlike", false), ("BadEdits", false), ("BadKeeper", false), ("NothingToUndo", true), ("LanesError", false), ("Absent", false)], [("RuntimeError", true), ("ValueError", false), ("KeyError", false), ("OverflowError", false)])]
def itab : Itab := ⟨[], [], irows⟩
def d__law_numbers : He.DefD := ⟨("_law_numbers", none), "_law_numbers", "_law_numbers", defArgs s__law_numbers, defBody s__law_numbers, defScope s__law_numbers, [], []⟩
def d__law_made : He.DefD := ⟨("_law_made", none), "_law_made", "_law_made", defArgs s__law_made, defBody s__law_made, defScope s__law_made, [], []⟩
def d__law_marks : He.DefD := ⟨("_law_marks", none), "_law_marks", "_law_marks", defArgs s__law_marks, defBody s__law_marks, defScope s__law_marks, [], []⟩
def d_law : He.DefD := ⟨("law", none), "law", "law", defArgs s_law, defBody s_law, defScope s_law, [], []⟩
def fn : List He.DefD := [d__law_numbers, d__law_made, d__law_marks, d_law]
def gls : List Str := (["BadRegisters", "BadNumber", "BadRow", "BadRows", "BadJoins", "BadProgram", "BadRule", "BadData", "BadText", "BadKind", "BadMachine", "NotNested", "NotPlain", "BadBlock", "BadState", "BadPromise", "BadPaper", "BadLine", "NoLane", "NoScene"] : List Str) ++ (["TooLarge", "TooMany", "Guarded", "Unlike", "BadEdits", "BadKeeper", "NothingToUndo", "_law_numbers", "_law_made", "_law_marks", "LanesError", "Absent", "law"] : List Str)
def frs_ : List Str := (["max", "range", "len", "isinstance", "RuntimeError", "enumerate", "repr", "ValueError", "KeyError", "OverflowError", "super"] : List Str)
def fa : List He.Fa := gls.map .glo ++ frs_.map .free
def exB (K : Fg) (C : Addr) : Bool := xfB K C && (He.eqO (PySem.W.findIn K (.ref C) "__class__") (some (some (.builtin "object.__class__"))) && eqB (PySem.W.mroIn K C (.type "object")) (some true))
def xds : List (XD × Str) := ([(xd_LanesError, "LanesError.__init__"), (xd_BadRegisters, "LanesError.__init__"), (xd_BadNumber, "LanesError.__init__"), (xd_BadRow, "LanesError.__init__"), (xd_BadRows, "LanesError.__init__"), (xd_BadJoins, "LanesError.__init__"), (xd_BadProgram, "LanesError.__init__"), (xd_BadRule, "LanesError.__init__"), (xd_BadData, "LanesError.__init__"), (xd_BadText, "LanesError.__init__")] : List (XD × Str)) ++ ([(xd_BadKind, "LanesError.__init__"), (xd_BadMachine, "LanesError.__init__"), (xd_NotNested, "LanesError.__init__"), (xd_NotPlain, "LanesError.__init__"), (xd_BadState, "LanesError.__init__"), (xd_BadPromise, "LanesError.__init__"), (xd_BadPaper, "LanesError.__init__"), (xd_BadLine, "LanesError.__init__"), (xd_BadBlock, "LanesError.__init__"), (xd_Guarded, "LanesError.__init__")] : List (XD × Str)) ++ ([(xd_Unlike, "LanesError.__init__"), (xd_BadEdits, "LanesError.__init__"), (xd_BadKeeper, "LanesError.__init__"), (xd_Absent, "Absent.__init__"), (xd_NoLane, "Absent.__init__"), (xd_NoScene, "Absent.__init__"), (xd_TooLarge, "TooLarge.__init__"), (xd_TooMany, "TooMany.__init__")] : List (XD × Str))
def yds : List Str := (["NothingToUndo"] : List Str)
def yB : List Value := [.type "RuntimeError", .type "Exception", .type "BaseException", .type "object"]
def fb (K : Fg) : Bool := (xds.all fun p => xdB K prog.main.file p.2 p.1) && ((irows.all fun p => rowB K (.ref (He.ga K p.1)) p.2 && exB K (He.ga K p.1)) && ((xcs.all fun c => xfB K (He.ga K c) && He.eqO (PySem.W.findIn K (.ref (He.ga K c)) "value") (some none)) && ((yds.all fun c => PySem.W.excIn K (He.ga K c) yB "RuntimeError.__new__" && PySem.W.keepIn K (.ref (He.ga K c))) &&
  (He.eqO (PySem.W.specialIn K (.builtin "object.__class__") "__get__") (some (some (.builtin "getset_descriptor.__get__"))) && eqB (PySem.W.takesIn K (.builtin "object.__class__")) (some true)))))
/-! ### what the defs do -/
def c__law_numbers_0 : Sv := sSet 3 (eCb bMax (lCons (eVar 0) (lCons (eBin gSub (eNeg (eC (.int 1))) (eVar 0)) (lNil))))
def c__law_numbers_1 : Sv := sSet 4 (eVar 3)
def c__law_numbers_2 : Sv := sSet 5 (eLst (lNil))
def l__law_numbers_1 : Sv := sIf (bAnd (bBin gGe (eVar 3) (eBin gPow (eC (.int 10)) (eC (.int 18)))) (bBin gGt (eVar 4) (eC (.int 0)))) (sSeq (sExpr (eMl mAppend (eVar 5) (lCons (eBin gMod (eVar 4) (eBin gIx (eVar 2) (eVar 6))) (lNil)))) (sSet 4 (eBin gFdiv (eVar 4) (eBin gIx (eVar 2) (eVar 6))))) (sSeq (sSet 7 (eBin gMod (eBin gPow (eBin gAdd (eBin gAdd (eBin gMod (eVar 3) (eC (.int 2147483629))) (eBin gMul (eC (.int 7919)) (eVar 1))) (eC (.int 1))) (eC (.int 3))) (eC (.int 2147483647)))) (sSeq (sSet 7 (eBin gMod (eBin gMul (eBin gAdd (eVar 7) (eBin gMul (eC (.int 104729)) (eBin gAdd (eVar 6) (eC (.int 1))))) (eBin gAdd (eVar 6) (eC (.int 3)))) (eC (.int 2147483629)))) (sSeq (sSet 7 (eBin gMod (eBin gMul (eBin gMod (eBin gPow (eVar 7) (eC (.int 5))) (eC (.int 2147483647))) (eC (.int 48271))) (eC (.int 2147483629)))) (sExpr (eMl mAppend (eVar 5) (lCons (eBin gMod (eBin gFdiv (eVar 7) (eC (.int 16))) (eBin gIx (eVar 2) (eVar 6))) (lNil)))))))
def c__law_numbers_3 : Sv := sFor 5000 (iRange1 (lCons (eCb bLen (lCons (eVar 2) (lNil))) (lNil))) (gNm 6) (l__law_numbers_1)
def c__law_numbers_4 : Sv := sRet (eVar 5)
def c__law_numbers : Sv := sSeq c__law_numbers_0 (sSeq c__law_numbers_1 (sSeq c__law_numbers_2 (sSeq c__law_numbers_3 (c__law_numbers_4))))
def f__law_numbers : Fn := runB 8 c__law_numbers
theorem num_is : c__law_numbers = numC 5000 := rfl
def c__law_made_0 : Sv := sSet 1 (eLst (lCons (eXv "BadRegisters" (eVar 0)) (lCons (eXv "BadNumber" (eVar 0)) (lCons (eXv "BadRow" (eVar 0)) (lCons (eXv "BadRows" (eVar 0)) (lCons (eXv "BadJoins" (eVar 0)) (lCons (eXv "BadProgram" (eVar 0)) (lNil))))))))
def c__law_made_1 : Sv := sSet 1 (eBin gAdd (eVar 1) (eLst (lCons (eXv "BadRule" (eVar 0)) (lCons (eXv "BadData" (eVar 0)) (lCons (eXv "BadText" (eVar 0)) (lCons (eXv "BadKind" (eVar 0)) (lCons (eXv "BadMachine" (eVar 0)) (lNil))))))))
def c__law_made_2 : Sv := sSet 1 (eBin gAdd (eVar 1) (eLst (lCons (eXv "NotNested" (eVar 0)) (lCons (eXv "NotPlain" (eVar 0)) (lCons (eXv "BadBlock" (eVar 0)) (lCons (eXv "BadState" (eVar 0)) (lNil)))))))
def c__law_made_3 : Sv := sSet 1 (eBin gAdd (eVar 1) (eLst (lCons (eXv "BadPromise" (eVar 0)) (lCons (eXv "BadPaper" (eVar 0)) (lCons (eXv "BadLine" (eVar 0)) (lCons (eXv "NoLane" (eVar 0)) (lNil)))))))
def c__law_made_4 : Sv := sSet 1 (eBin gAdd (eVar 1) (eLst (lCons (eXv "NoScene" (eVar 0)) (lCons (eXv "TooLarge" (eVar 0)) (lCons (eXv "TooMany" (eVar 0)) (lNil))))))
def c__law_made_5 : Sv := sRet (eBin gAdd (eVar 1) (eLst (lCons (eXv "Guarded" (eVar 0)) (lCons (eXv "Unlike" (eVar 0)) (lCons (eXv "BadEdits" (eVar 0)) (lCons (eXv "BadKeeper" (eVar 0)) (lNil)))))))
def c__law_made : Sv := sSeq c__law_made_0 (sSeq c__law_made_1 (sSeq c__law_made_2 (sSeq c__law_made_3 (sSeq c__law_made_4 (c__law_made_5)))))
def f__law_made : Fn := runB 2 c__law_made
def c__law_marks_0 : Sv := sSet 1 (eLst (lCons (eCb (bIsi itab) (lCons (eVar 0) (lCons (eC (.kr "BadRegisters")) (lNil)))) (lCons (eCb (bIsi itab) (lCons (eVar 0) (lCons (eC (.kr "BadNumber")) (lNil)))) (lCons (eCb (bIsi itab) (lCons (eVar 0) (lCons (eC (.kr "BadRow")) (lNil)))) (lCons (eCb (bIsi itab) (lCons (eVar 0) (lCons (eC (.kr "BadRows")) (lNil)))) (lNil))))))
def c__law_marks_1 : Sv := sSet 1 (eBin gAdd (eVar 1) (eLst (lCons (eCb (bIsi itab) (lCons (eVar 0) (lCons (eC (.kr "BadJoins")) (lNil)))) (lCons (eCb (bIsi itab) (lCons (eVar 0) (lCons (eC (.kr "BadProgram")) (lNil)))) (lCons (eCb (bIsi itab) (lCons (eVar 0) (lCons (eC (.kr "BadRule")) (lNil)))) (lCons (eCb (bIsi itab) (lCons (eVar 0) (lCons (eC (.kr "BadData")) (lNil)))) (lNil)))))))
def c__law_marks_2 : Sv := sSet 1 (eBin gAdd (eVar 1) (eLst (lCons (eCb (bIsi itab) (lCons (eVar 0) (lCons (eC (.kr "BadText")) (lNil)))) (lCons (eCb (bIsi itab) (lCons (eVar 0) (lCons (eC (.kr "BadKind")) (lNil)))) (lCons (eCb (bIsi itab) (lCons (eVar 0) (lCons (eC (.kr "BadMachine")) (lNil)))) (lNil))))))
def c__law_marks_3 : Sv := sSet 1 (eBin gAdd (eVar 1) (eLst (lCons (eCb (bIsi itab) (lCons (eVar 0) (lCons (eC (.kr "NotNested")) (lNil)))) (lCons (eCb (bIsi itab) (lCons (eVar 0) (lCons (eC (.kr "NotPlain")) (lNil)))) (lCons (eCb (bIsi itab) (lCons (eVar 0) (lCons (eC (.kr "BadBlock")) (lNil)))) (lNil))))))
def c__law_marks_4 : Sv := sSet 1 (eBin gAdd (eVar 1) (eLst (lCons (eCb (bIsi itab) (lCons (eVar 0) (lCons (eC (.kr "BadState")) (lNil)))) (lCons (eCb (bIsi itab) (lCons (eVar 0) (lCons (eC (.kr "BadPromise")) (lNil)))) (lCons (eCb (bIsi itab) (lCons (eVar 0) (lCons (eC (.kr "BadPaper")) (lNil)))) (lNil))))))
def c__law_marks_5 : Sv := sSet 1 (eBin gAdd (eVar 1) (eLst (lCons (eCb (bIsi itab) (lCons (eVar 0) (lCons (eC (.kr "BadLine")) (lNil)))) (lCons (eCb (bIsi itab) (lCons (eVar 0) (lCons (eC (.kr "NoLane")) (lNil)))) (lCons (eCb (bIsi itab) (lCons (eVar 0) (lCons (eC (.kr "NoScene")) (lNil)))) (lNil))))))
def c__law_marks_6 : Sv := sSet 1 (eBin gAdd (eVar 1) (eLst (lCons (eCb (bIsi itab) (lCons (eVar 0) (lCons (eC (.kr "TooLarge")) (lNil)))) (lCons (eCb (bIsi itab) (lCons (eVar 0) (lCons (eC (.kr "TooMany")) (lNil)))) (lCons (eCb (bIsi itab) (lCons (eVar 0) (lCons (eC (.kr "Guarded")) (lNil)))) (lNil))))))
def c__law_marks_7 : Sv := sSet 1 (eBin gAdd (eVar 1) (eLst (lCons (eCb (bIsi itab) (lCons (eVar 0) (lCons (eC (.kr "Unlike")) (lNil)))) (lCons (eCb (bIsi itab) (lCons (eVar 0) (lCons (eC (.kr "BadEdits")) (lNil)))) (lCons (eCb (bIsi itab) (lCons (eVar 0) (lCons (eC (.kr "BadKeeper")) (lNil)))) (lNil))))))
def c__law_marks_8 : Sv := sRet (eBin gAdd (eVar 1) (eLst (lCons (eCb (bIsi itab) (lCons (eVar 0) (lCons (eC (.kr "NothingToUndo")) (lNil)))) (lNil))))
def c__law_marks : Sv := sSeq c__law_marks_0 (sSeq c__law_marks_1 (sSeq c__law_marks_2 (sSeq c__law_marks_3 (sSeq c__law_marks_4 (sSeq c__law_marks_5 (sSeq c__law_marks_6 (sSeq c__law_marks_7 (c__law_marks_8))))))))
def f__law_marks : Fn := runB 2 c__law_marks
def c_law_0 : Sv := sSet 1 (eBin gIx (eBin gAdd (eVar 0) (eLst (lCons (eC (.int 7)) (lNil)))) (eC (.int 0)))
def c_law_1 : Sv := sSet 2 (eBin gIx (eLst (lCons (eC .non) (lCons (eC (.int 5)) (lCons (eC (.str "a")) (lCons (eTup (lCons (eC (.int 1)) (lCons (eC (.int 2)) (lNil)))) (lCons (eLst (lCons (eC (.int 3)) (lNil))) (lCons (eDic (pCons (eC (.str "a")) (eC (.int 1)) (pNil))) (lCons (eC (.bl true)) (lCons (eBin gPow (eC (.int 10)) (eC (.int 30))) (lCons (eC (.str "")) (lNil))))))))))) (eBin gIx (eCall 3 f__law_numbers [] (lCons (eVar 1) (lCons (eC (.int 100)) (lCons (eLst (lCons (eC (.int 9)) (lNil))) (lNil))))) (eC (.int 0))))
def c_law_2 : Sv := sPar 3 4 (lCons (eCall 1 f__law_made [] (lCons (eVar 2) (lNil))) (lCons (eXv0 "NothingToUndo") (lNil)))
def c_law_3 : Sv := sIf (bOr (bBin gNe (eCall 1 f__law_marks [] (lCons (eVar 4) (lNil))) (eBin gAdd (eBin gMul (eLst (lCons (eC (.bl false)) (lNil))) (eC (.int 26))) (eLst (lCons (eC (.bl true)) (lNil))))) (bNot (bTru (eCb (bIsi itab) (lCons (eVar 4) (lCons (eC (.ty "RuntimeError")) (lNil))))))) (sRet (eC (.bl false))) (sNil)
def l_law_1 : Sv := sSeq (sIf (bOr (bBin gNe (eCall 1 f__law_marks [] (lCons (eVar 6) (lNil))) (eLc 5000 [9] (iRange1 (lCons (eC (.int 27)) (lNil))) (stN 9) (bYes) (eBin gEq (eVar 9) (eVar 5)))) (bBin gNe (eCb bRepr (lCons (eXf xcs "value" (eVar 6)) (lNil))) (eCb bRepr (lCons (eVar 2) (lNil))))) (sRet (eC (.bl false))) (sNil)) (sSeq (sSet 7 (eLst (lCons (eCb (bIsi itab) (lCons (eVar 6) (lCons (eC (.kr "LanesError")) (lNil)))) (lCons (eCb (bIsi itab) (lCons (eVar 6) (lCons (eC (.ty "ValueError")) (lNil)))) (lCons (eCb (bIsi itab) (lCons (eVar 6) (lCons (eC (.kr "Absent")) (lNil)))) (lNil)))))) (sSeq (sSet 7 (eBin gAdd (eVar 7) (eLst (lCons (eCb (bIsi itab) (lCons (eVar 6) (lCons (eC (.ty "KeyError")) (lNil)))) (lCons (eCb (bIsi itab) (lCons (eVar 6) (lCons (eC (.ty "OverflowError")) (lNil)))) (lNil)))))) (sSeq (sSet 8 (eOr (eBin gLt (eVar 5) (eC (.int 18))) (eBin gGt (eVar 5) (eC (.int 21))))) (sIf (bOr (bBin gNe (eVar 7) (eLst (lCons (eVar 8) (lCons (eVar 8) (lCons (eChain gLe gLt (eC (.int 18)) (eVar 5) (eC (.int 20))) (lCons (eChain gLe gLt (eC (.int 18)) (eVar 5) (eC (.int 20))) (lCons (eChain gLe gLt (eC (.int 20)) (eVar 5) (eC (.int 22))) (lNil)))))))) (bTru (eCb (bIsi itab) (lCons (eVar 6) (lCons (eC (.ty "RuntimeError")) (lNil)))))) (sRet (eC (.bl false))) (sNil)))))
def c_law_4 : Sv := sFor 5000 (iEnumD (lCons (eVar 3) (lNil))) (gTp 2 (gsCons (gNm 5) (gsCons (gNm 6) (gsNil)))) (l_law_1)
def c_law_5 : Sv := sRet (eC (.bl true))
def c_law : Sv := sSeq c_law_0 (sSeq c_law_1 (sSeq c_law_2 (sSeq c_law_3 (sSeq c_law_4 (c_law_5)))))
def f_law : Fn := runB 10 c_law
/-! ### built-in names -/
theorem bt_max : bootBuiltins "max" = some (.builtin "max") := by kernel_rfl
theorem bt_len : bootBuiltins "len" = some (.builtin "len") := by kernel_rfl
theorem bt_isinstance : bootBuiltins "isinstance" = some (.builtin "isinstance") := by kernel_rfl
theorem bt_RuntimeError : bootBuiltins "RuntimeError" = some (.type "RuntimeError") := by kernel_rfl
theorem bt_repr : bootBuiltins "repr" = some (.builtin "repr") := by kernel_rfl
theorem bt_ValueError : bootBuiltins "ValueError" = some (.type "ValueError") := by kernel_rfl
theorem bt_KeyError : bootBuiltins "KeyError" = some (.type "KeyError") := by kernel_rfl
theorem bt_OverflowError : bootBuiltins "OverflowError" = some (.type "OverflowError") := by kernel_rfl
/-! ### the facts that the derivations take -/
structure Tx (P : Program) (w : World) (K : Fg) (mg : Str → Option Value) (base : Heap) : Prop where
  g_BadRegisters : mg "BadRegisters" = some (.ref (He.ga K "BadRegisters"))
  g_BadNumber : mg "BadNumber" = some (.ref (He.ga K "BadNumber"))
  g_BadRow : mg "BadRow" = some (.ref (He.ga K "BadRow"))
  g_BadRows : mg "BadRows" = some (.ref (He.ga K "BadRows"))
  g_BadJoins : mg "BadJoins" = some (.ref (He.ga K "BadJoins"))
  g_BadProgram : mg "BadProgram" = some (.ref (He.ga K "BadProgram"))
  g_BadRule : mg "BadRule" = some (.ref (He.ga K "BadRule"))
  g_BadData : mg "BadData" = some (.ref (He.ga K "BadData"))
  g_BadText : mg "BadText" = some (.ref (He.ga K "BadText"))
  g_BadKind : mg "BadKind" = some (.ref (He.ga K "BadKind"))
  g_BadMachine : mg "BadMachine" = some (.ref (He.ga K "BadMachine"))
  g_NotNested : mg "NotNested" = some (.ref (He.ga K "NotNested"))
  g_NotPlain : mg "NotPlain" = some (.ref (He.ga K "NotPlain"))
  g_BadBlock : mg "BadBlock" = some (.ref (He.ga K "BadBlock"))
  g_BadState : mg "BadState" = some (.ref (He.ga K "BadState"))
  g_BadPromise : mg "BadPromise" = some (.ref (He.ga K "BadPromise"))
  g_BadPaper : mg "BadPaper" = some (.ref (He.ga K "BadPaper"))
  g_BadLine : mg "BadLine" = some (.ref (He.ga K "BadLine"))
  g_NoLane : mg "NoLane" = some (.ref (He.ga K "NoLane"))
  g_NoScene : mg "NoScene" = some (.ref (He.ga K "NoScene"))
  g_TooLarge : mg "TooLarge" = some (.ref (He.ga K "TooLarge"))
  g_TooMany : mg "TooMany" = some (.ref (He.ga K "TooMany"))
  g_Guarded : mg "Guarded" = some (.ref (He.ga K "Guarded"))
  g_Unlike : mg "Unlike" = some (.ref (He.ga K "Unlike"))
  g_BadEdits : mg "BadEdits" = some (.ref (He.ga K "BadEdits"))
  g_BadKeeper : mg "BadKeeper" = some (.ref (He.ga K "BadKeeper"))
  g_NothingToUndo : mg "NothingToUndo" = some (.ref (He.ga K "NothingToUndo"))
  g__law_numbers : mg "_law_numbers" = some (.ref (He.ga K "_law_numbers"))
  g__law_made : mg "_law_made" = some (.ref (He.ga K "_law_made"))
  g__law_marks : mg "_law_marks" = some (.ref (He.ga K "_law_marks"))
  g_LanesError : mg "LanesError" = some (.ref (He.ga K "LanesError"))
  g_Absent : mg "Absent" = some (.ref (He.ga K "Absent"))
  g_law : mg "law" = some (.ref (He.ga K "law"))
  f_max : mg "max" = none
  f_range : mg "range" = none
  f_len : mg "len" = none
  f_isinstance : mg "isinstance" = none
  f_RuntimeError : mg "RuntimeError" = none
  f_enumerate : mg "enumerate" = none
  f_repr : mg "repr" = none
  f_ValueError : mg "ValueError" = none
  f_KeyError : mg "KeyError" = none
  f_OverflowError : mg "OverflowError" = none
  f_super : mg "super" = none
  x_LanesError : XTxt P K bsVE (He.ga K "LanesError")
  x_BadRegisters : XTxt P K bsVE (He.ga K "BadRegisters")
  x_BadNumber : XTxt P K bsVE (He.ga K "BadNumber")
  x_BadRow : XTxt P K bsVE (He.ga K "BadRow")
  x_BadRows : XTxt P K bsVE (He.ga K "BadRows")
  x_BadJoins : XTxt P K bsVE (He.ga K "BadJoins")
  x_BadProgram : XTxt P K bsVE (He.ga K "BadProgram")
  x_BadRule : XTxt P K bsVE (He.ga K "BadRule")
  x_BadData : XTxt P K bsVE (He.ga K "BadData")
  x_BadText : XTxt P K bsVE (He.ga K "BadText")
  x_BadKind : XTxt P K bsVE (He.ga K "BadKind")
  x_BadMachine : XTxt P K bsVE (He.ga K "BadMachine")
  x_NotNested : XTxt P K bsVE (He.ga K "NotNested")
  x_NotPlain : XTxt P K bsVE (He.ga K "NotPlain")
  x_BadState : XTxt P K bsVE (He.ga K "BadState")
  x_BadPromise : XTxt P K bsVE (He.ga K "BadPromise")
  x_BadPaper : XTxt P K bsVE (He.ga K "BadPaper")
  x_BadLine : XTxt P K bsVE (He.ga K "BadLine")
  x_BadBlock : XTxt P K bsVE (He.ga K "BadBlock")
  x_Guarded : XTxt P K bsVE (He.ga K "Guarded")
  x_Unlike : XTxt P K bsVE (He.ga K "Unlike")
  x_BadEdits : XTxt P K bsVE (He.ga K "BadEdits")
  x_BadKeeper : XTxt P K bsVE (He.ga K "BadKeeper")
  x_Absent : XTxt P K bsKE (He.ga K "Absent")
  x_NoLane : XTxt P K bsKE (He.ga K "NoLane")
  x_NoScene : XTxt P K bsKE (He.ga K "NoScene")
  x_TooLarge : XTxt P K bsOE (He.ga K "TooLarge")
  x_TooMany : XTxt P K bsOE (He.ga K "TooMany")
  y_NothingToUndo : PySem.W.excIn K (He.ga K "NothingToUndo") yB "RuntimeError.__new__" = true ∧ PySem.W.keepIn K (.ref (He.ga K "NothingToUndo")) = true
  it : ItOk K itab
  xf : ∀ c ∈ xcs, XfC K (He.ga K c) ∧ PySem.W.findIn K (.ref (He.ga K c)) "value" = some none
section
variable {P : Program} {w : World} {K : Fg} {mg : Str → Option Value} {base : Heap}
abbrev N__law_numbers : List Str := (["_law_cell", "_law_salt", "_law_sizes", "_law_whole", "_law_left", "_law_result", "_law_k", "_law_one"] : List Str)
theorem sc__law_numbers : FnScope N__law_numbers ["_law_cell", "_law_salt", "_law_sizes"] (defScope s__law_numbers) := ⟨rfl, rfl, rfl, by decide +kernel, rfl, by decide +kernel, by decide +kernel⟩
theorem ok__law_numbers (T : Tx P w K mg base) {f : Addr} {fd : FuncData} (F : FunD K "_law_numbers" "_law_numbers" (defArgs s__law_numbers) (defBody s__law_numbers) (defScope s__law_numbers) [] [] f fd) : FnG P w K mg base 2 f fd ["_law_cell", "_law_salt", "_law_sizes"] (spD K 3 f__law_numbers) := by
  refine def_ok F sc__law_numbers fun cdv A outer sh H E c tk po => ?_
  have sc := sc__law_numbers
  have hu : A.units + 3 + 64 < cLine := by have := c.room.un; exact Nat.lt_of_le_of_lt (by show A.units + 3 + 64 ≤ A.units + 3 + 16 * 1 + 200; omega) this
  exact s_cons (s_set 3 sc.nd rfl (.inl rfl) (d_callB (c_max rfl) rfl T.f_max bt_max (l_cons (d_var 0) (l_cons (d_bin og_sub (d_neg (d_int)) (d_var 0)) (l_nil)))))
    (s_cons (s_set 4 sc.nd rfl (.inl rfl) (d_var 3))
    (s_cons (s_set 5 sc.nd rfl (.inl rfl) (d_lst (l_nil)))
    (s_cons (s_for 5000 po rfl (i_range1 rfl T.f_range (l_cons (d_callB c_len rfl T.f_len bt_len (l_cons (d_var 2) (l_nil))) (l_nil))) (g_nm sc.nd rfl (.inl rfl)) (s_one (s_if (PW.pt (bw_and (b_cmp og_ge (d_var 3) (d_bin og_pow (d_int) (d_int)) (nomark _)) (pw_and1 (b_cmp og_gt (d_var 4) (d_int) (nomark _))))) (s_cons (s_expr (d_append (d_var 5) (l_cons (d_bin og_mod (d_var 4) (d_ix (d_var 2) (d_var 6) (fun _ _ => rfl))) (l_nil))))
    (s_one (s_set 4 sc.nd rfl (.inl rfl) (d_bin og_fdiv (d_var 4) (d_ix (d_var 2) (d_var 6) (fun _ _ => rfl)))))) (s_cons (s_set 7 sc.nd rfl (.inl rfl) (d_bin og_mod (d_bin og_pow (d_bin og_add (d_bin og_add (d_bin og_mod (d_var 3) (d_int)) (d_bin og_mul (d_int) (d_var 1))) (d_int)) (d_int)) (d_int)))
    (s_cons (s_set 7 sc.nd rfl (.inl rfl) (d_bin og_mod (d_bin og_mul (d_bin og_add (d_var 7) (d_bin og_mul (d_int) (d_bin og_add (d_var 6) (d_int)))) (d_bin og_add (d_var 6) (d_int))) (d_int)))
    (s_cons (s_set 7 sc.nd rfl (.inl rfl) (d_bin og_mod (d_bin og_mul (d_bin og_mod (d_bin og_pow (d_var 7) (d_int)) (d_int)) (d_int)) (d_int)))
    (s_one (s_expr (d_append (d_var 5) (l_cons (d_bin og_mod (d_bin og_fdiv (d_var 7) (d_int)) (d_ix (d_var 2) (d_var 6) (fun _ _ => rfl))) (l_nil)))))))))))
    (s_one (s_ret (d_var 5))))))
abbrev N__law_made : List Str := (["_law_thing", "_law_found"] : List Str)
theorem sc__law_made : FnScope N__law_made ["_law_thing"] (defScope s__law_made) := ⟨rfl, rfl, rfl, by decide +kernel, rfl, by decide +kernel, by decide +kernel⟩
theorem ok__law_made (T : Tx P w K mg base) {f : Addr} {fd : FuncData} (F : FunD K "_law_made" "_law_made" (defArgs s__law_made) (defBody s__law_made) (defScope s__law_made) [] [] f fd) : FnG P w K mg base 2 f fd ["_law_thing"] (spD K 1 f__law_made) := by
  refine def_ok F sc__law_made fun cdv A outer sh H E c tk po => ?_
  have sc := sc__law_made
  have hu : A.units + 3 + 64 < cLine := by have := c.room.un; exact Nat.lt_of_le_of_lt (by show A.units + 3 + 64 ≤ A.units + 3 + 16 * 1 + 200; omega) this
  exact s_cons (s_set 1 sc.nd rfl (.inl rfl) (d_lst (l_cons (d_xv T.x_BadRegisters c rfl T.g_BadRegisters (d_var 0)) (l_cons (d_xv T.x_BadNumber c rfl T.g_BadNumber (d_var 0)) (l_cons (d_xv T.x_BadRow c rfl T.g_BadRow (d_var 0)) (l_cons (d_xv T.x_BadRows c rfl T.g_BadRows (d_var 0)) (l_cons (d_xv T.x_BadJoins c rfl T.g_BadJoins (d_var 0)) (l_cons (d_xv T.x_BadProgram c rfl T.g_BadProgram (d_var 0)) (l_nil)))))))))
    (s_cons (s_set 1 sc.nd rfl (.inl rfl) (d_bin og_add (d_var 1) (d_lst (l_cons (d_xv T.x_BadRule c rfl T.g_BadRule (d_var 0)) (l_cons (d_xv T.x_BadData c rfl T.g_BadData (d_var 0)) (l_cons (d_xv T.x_BadText c rfl T.g_BadText (d_var 0)) (l_cons (d_xv T.x_BadKind c rfl T.g_BadKind (d_var 0)) (l_cons (d_xv T.x_BadMachine c rfl T.g_BadMachine (d_var 0)) (l_nil)))))))))
    (s_cons (s_set 1 sc.nd rfl (.inl rfl) (d_bin og_add (d_var 1) (d_lst (l_cons (d_xv T.x_NotNested c rfl T.g_NotNested (d_var 0)) (l_cons (d_xvK T.x_NotPlain c rfl T.g_NotPlain (d_var 0)) (l_cons (d_xvK T.x_BadBlock c rfl T.g_BadBlock (d_var 0)) (l_cons (d_xvK T.x_BadState c rfl T.g_BadState (d_var 0)) (l_nil))))))))
    (s_cons (s_set 1 sc.nd rfl (.inl rfl) (d_bin og_add (d_var 1) (d_lst (l_cons (d_xvK T.x_BadPromise c rfl T.g_BadPromise (d_var 0)) (l_cons (d_xv T.x_BadPaper c rfl T.g_BadPaper (d_var 0)) (l_cons (d_xvK T.x_BadLine c rfl T.g_BadLine (d_var 0)) (l_cons (d_xv T.x_NoLane c rfl T.g_NoLane (d_var 0)) (l_nil))))))))
    (s_cons (s_set 1 sc.nd rfl (.inl rfl) (d_bin og_add (d_var 1) (d_lst (l_cons (d_xvK T.x_NoScene c rfl T.g_NoScene (d_var 0)) (l_cons (d_xvK T.x_TooLarge c rfl T.g_TooLarge (d_var 0)) (l_cons (d_xvK T.x_TooMany c rfl T.g_TooMany (d_var 0)) (l_nil)))))))
    (s_one (s_ret (d_bin og_add (d_var 1) (d_lst (l_cons (d_xv T.x_Guarded c rfl T.g_Guarded (d_var 0)) (l_cons (d_xvK T.x_Unlike c rfl T.g_Unlike (d_var 0)) (l_cons (d_xv T.x_BadEdits c rfl T.g_BadEdits (d_var 0)) (l_cons (d_xvK T.x_BadKeeper c rfl T.g_BadKeeper (d_var 0)) (l_nil)))))))))))))
abbrev N__law_marks : List Str := (["_law_e", "_law_some"] : List Str)
theorem sc__law_marks : FnScope N__law_marks ["_law_e"] (defScope s__law_marks) := ⟨rfl, rfl, rfl, by decide +kernel, rfl, by decide +kernel, by decide +kernel⟩
theorem ok__law_marks (T : Tx P w K mg base) {f : Addr} {fd : FuncData} (F : FunD K "_law_marks" "_law_marks" (defArgs s__law_marks) (defBody s__law_marks) (defScope s__law_marks) [] [] f fd) : FnG P w K mg base 2 f fd ["_law_e"] (spD K 1 f__law_marks) := by
  refine def_ok F sc__law_marks fun cdv A outer sh H E c tk po => ?_
  have sc := sc__law_marks
  have hu : A.units + 3 + 64 < cLine := by have := c.room.un; exact Nat.lt_of_le_of_lt (by show A.units + 3 + 64 ≤ A.units + 3 + 16 * 1 + 200; omega) this
  exact s_cons (s_set 1 sc.nd rfl (.inl rfl) (d_lst (l_cons (d_callB (c_isi T.it) rfl T.f_isinstance bt_isinstance (l_cons (d_var 0) (l_cons (d_gkr rfl (T.g_BadRegisters)) (l_nil)))) (l_cons (d_callB (c_isi T.it) rfl T.f_isinstance bt_isinstance (l_cons (d_var 0) (l_cons (d_gkr rfl (T.g_BadNumber)) (l_nil)))) (l_cons (d_callB (c_isi T.it) rfl T.f_isinstance bt_isinstance (l_cons (d_var 0) (l_cons (d_gkr rfl (T.g_BadRow)) (l_nil)))) (l_cons (d_callB (c_isi T.it) rfl T.f_isinstance bt_isinstance (l_cons (d_var 0) (l_cons (d_gkr rfl (T.g_BadRows)) (l_nil)))) (l_nil)))))))
    (s_cons (s_set 1 sc.nd rfl (.inl rfl) (d_bin og_add (d_var 1) (d_lst (l_cons (d_callB (c_isi T.it) rfl T.f_isinstance bt_isinstance (l_cons (d_var 0) (l_cons (d_gkr rfl (T.g_BadJoins)) (l_nil)))) (l_cons (d_callB (c_isi T.it) rfl T.f_isinstance bt_isinstance (l_cons (d_var 0) (l_cons (d_gkr rfl (T.g_BadProgram)) (l_nil)))) (l_cons (d_callB (c_isi T.it) rfl T.f_isinstance bt_isinstance (l_cons (d_var 0) (l_cons (d_gkr rfl (T.g_BadRule)) (l_nil)))) (l_cons (d_callB (c_isi T.it) rfl T.f_isinstance bt_isinstance (l_cons (d_var 0) (l_cons (d_gkr rfl (T.g_BadData)) (l_nil)))) (l_nil))))))))
    (s_cons (s_set 1 sc.nd rfl (.inl rfl) (d_bin og_add (d_var 1) (d_lst (l_cons (d_callB (c_isi T.it) rfl T.f_isinstance bt_isinstance (l_cons (d_var 0) (l_cons (d_gkr rfl (T.g_BadText)) (l_nil)))) (l_cons (d_callB (c_isi T.it) rfl T.f_isinstance bt_isinstance (l_cons (d_var 0) (l_cons (d_gkr rfl (T.g_BadKind)) (l_nil)))) (l_cons (d_callB (c_isi T.it) rfl T.f_isinstance bt_isinstance (l_cons (d_var 0) (l_cons (d_gkr rfl (T.g_BadMachine)) (l_nil)))) (l_nil)))))))
    (s_cons (s_set 1 sc.nd rfl (.inl rfl) (d_bin og_add (d_var 1) (d_lst (l_cons (d_callB (c_isi T.it) rfl T.f_isinstance bt_isinstance (l_cons (d_var 0) (l_cons (d_gkr rfl (T.g_NotNested)) (l_nil)))) (l_cons (d_callB (c_isi T.it) rfl T.f_isinstance bt_isinstance (l_cons (d_var 0) (l_cons (d_gkr rfl (T.g_NotPlain)) (l_nil)))) (l_cons (d_callB (c_isi T.it) rfl T.f_isinstance bt_isinstance (l_cons (d_var 0) (l_cons (d_gkr rfl (T.g_BadBlock)) (l_nil)))) (l_nil)))))))
    (s_cons (s_set 1 sc.nd rfl (.inl rfl) (d_bin og_add (d_var 1) (d_lst (l_cons (d_callB (c_isi T.it) rfl T.f_isinstance bt_isinstance (l_cons (d_var 0) (l_cons (d_gkr rfl (T.g_BadState)) (l_nil)))) (l_cons (d_callB (c_isi T.it) rfl T.f_isinstance bt_isinstance (l_cons (d_var 0) (l_cons (d_gkr rfl (T.g_BadPromise)) (l_nil)))) (l_cons (d_callB (c_isi T.it) rfl T.f_isinstance bt_isinstance (l_cons (d_var 0) (l_cons (d_gkr rfl (T.g_BadPaper)) (l_nil)))) (l_nil)))))))
    (s_cons (s_set 1 sc.nd rfl (.inl rfl) (d_bin og_add (d_var 1) (d_lst (l_cons (d_callB (c_isi T.it) rfl T.f_isinstance bt_isinstance (l_cons (d_var 0) (l_cons (d_gkr rfl (T.g_BadLine)) (l_nil)))) (l_cons (d_callB (c_isi T.it) rfl T.f_isinstance bt_isinstance (l_cons (d_var 0) (l_cons (d_gkr rfl (T.g_NoLane)) (l_nil)))) (l_cons (d_callB (c_isi T.it) rfl T.f_isinstance bt_isinstance (l_cons (d_var 0) (l_cons (d_gkr rfl (T.g_NoScene)) (l_nil)))) (l_nil)))))))
    (s_cons (s_set 1 sc.nd rfl (.inl rfl) (d_bin og_add (d_var 1) (d_lst (l_cons (d_callB (c_isi T.it) rfl T.f_isinstance bt_isinstance (l_cons (d_var 0) (l_cons (d_gkr rfl (T.g_TooLarge)) (l_nil)))) (l_cons (d_callB (c_isi T.it) rfl T.f_isinstance bt_isinstance (l_cons (d_var 0) (l_cons (d_gkr rfl (T.g_TooMany)) (l_nil)))) (l_cons (d_callB (c_isi T.it) rfl T.f_isinstance bt_isinstance (l_cons (d_var 0) (l_cons (d_gkr rfl (T.g_Guarded)) (l_nil)))) (l_nil)))))))
    (s_cons (s_set 1 sc.nd rfl (.inl rfl) (d_bin og_add (d_var 1) (d_lst (l_cons (d_callB (c_isi T.it) rfl T.f_isinstance bt_isinstance (l_cons (d_var 0) (l_cons (d_gkr rfl (T.g_Unlike)) (l_nil)))) (l_cons (d_callB (c_isi T.it) rfl T.f_isinstance bt_isinstance (l_cons (d_var 0) (l_cons (d_gkr rfl (T.g_BadEdits)) (l_nil)))) (l_cons (d_callB (c_isi T.it) rfl T.f_isinstance bt_isinstance (l_cons (d_var 0) (l_cons (d_gkr rfl (T.g_BadKeeper)) (l_nil)))) (l_nil)))))))
    (s_one (s_ret (d_bin og_add (d_var 1) (d_lst (l_cons (d_callB (c_isi T.it) rfl T.f_isinstance bt_isinstance (l_cons (d_var 0) (l_cons (d_gkr rfl (T.g_NothingToUndo)) (l_nil)))) (l_nil)))))))))))))
abbrev N_law : List Str := (["_law_script", "_law_cell", "_law_thing", "_law_made_here", "_law_last", "_law_at", "_law_one", "_law_kinds", "_law_plain", "_law_k"] : List Str)
theorem sc_law : FnScope N_law ["_law_script"] (defScope s_law) := ⟨rfl, rfl, rfl, by decide +kernel, rfl, by decide +kernel, by decide +kernel⟩
theorem ok_law (T : Tx P w K mg base) {fd__law_made : FuncData} (ok__law_made : FnG P w K mg base 2 (He.ga K "_law_made") fd__law_made ["_law_thing"] (spD K 1 f__law_made)) (k__law_made : PySem.W.keepIn K (.ref (He.ga K "_law_made")) = true) (b__law_made : Binds K fd__law_made ["_law_thing"] []) {fd__law_marks : FuncData} (ok__law_marks : FnG P w K mg base 2 (He.ga K "_law_marks") fd__law_marks ["_law_e"] (spD K 1 f__law_marks)) (k__law_marks : PySem.W.keepIn K (.ref (He.ga K "_law_marks")) = true) (b__law_marks : Binds K fd__law_marks ["_law_e"] []) {fd__law_numbers : FuncData} (ok__law_numbers : FnG P w K mg base 2 (He.ga K "_law_numbers") fd__law_numbers ["_law_cell", "_law_salt", "_law_sizes"] (spD K 3 f__law_numbers)) (k__law_numbers : PySem.W.keepIn K (.ref (He.ga K "_law_numbers")) = true) (b__law_numbers : Binds K fd__law_numbers ["_law_cell", "_law_salt", "_law_sizes"] []) {f : Addr} {fd : FuncData} (F : FunD K "law" "law" (defArgs s_law) (defBody s_law) (defScope s_law) [] [] f fd) : FnG P w K mg base 3 f fd ["_law_script"] (spD K 1 f_law) := by
  refine def_ok F sc_law fun cdv A outer sh H E c tk po => ?_
  have sc := sc_law
  have hu : A.units + 3 + 64 < cLine := by have := c.room.un; exact Nat.lt_of_le_of_lt (by show A.units + 3 + 64 ≤ A.units + 3 + 16 * 2 + 200; omega) this
  exact s_cons (s_set 1 sc.nd rfl (.inl rfl) (d_ix (d_bin og_add (d_var 0) (d_lst (l_cons (d_int) (l_nil)))) (d_int) (fun _ _ => rfl)))
    (s_cons (s_set 2 sc.nd rfl (.inl rfl) (d_ix (d_lst (l_cons (d_non) (l_cons (d_int) (l_cons (d_str) (l_cons (d_tup (l_cons (d_int) (l_cons (d_int) (l_nil)))) (l_cons (d_lst (l_cons (d_int) (l_nil))) (l_cons (d_dic (ps_cons' (d_str) (d_int) (ps_nil')) rfl rfl (fun z => by cases z) (by decide)) (l_cons (d_bl) (l_cons (d_bin og_pow (d_int) (d_int)) (l_cons (d_str) (l_nil))))))))))) (d_ix (d_call (ok__law_numbers.mono (by decide)) c tk rfl T.g__law_numbers k__law_numbers b__law_numbers .nil (fun _ _ => .nil) (l_cons (d_var 1) (l_cons (d_int) (l_cons (d_lst (l_cons (d_int) (l_nil))) (l_nil))))) (d_int) (fun _ _ => rfl)) (fun _ _ => rfl)))
    (s_cons (s_par 3 4 rfl sc.nd rfl rfl (by decide) rfl rfl (l_cons (d_call (ok__law_made.mono (by decide)) c tk rfl T.g__law_made k__law_made b__law_made .nil (fun _ _ => .nil) (l_cons (d_var 2) (l_nil))) (l_cons (d_xv0 PySem.F.excBase_RuntimeError T.y_NothingToUndo.1 T.y_NothingToUndo.2 rfl T.g_NothingToUndo) (l_nil))) rfl)
    (s_cons (s_if (PW.pt (bw_or (b_cmp (og_ne hu) (d_call (ok__law_marks.mono (by decide)) c tk rfl T.g__law_marks k__law_marks b__law_marks .nil (fun _ _ => .nil) (l_cons (d_var 4) (l_nil))) (d_bin og_add (d_bin og_mul (d_lst (l_cons (d_bl) (l_nil))) (d_int)) (d_lst (l_cons (d_bl) (l_nil)))) (nomark _)) (pw_or1 (b_not (b_tru (d_callB (c_isi T.it) rfl T.f_isinstance bt_isinstance (l_cons (d_var 4) (l_cons (d_ty rfl T.f_RuntimeError bt_RuntimeError) (l_nil))))))))) (s_one (s_ret (d_bl))) (s_nil))
    (s_cons (s_for 5000 po rfl (i_enum rfl T.f_enumerate (l_cons (d_var 3) (l_nil))) (g_tup rfl (gs_cons (g_nm sc.nd rfl (.inr rfl)) (gs_cons (g_nm sc.nd rfl (.inl rfl)) (gs_nil)))) (s_cons (s_if (PW.pt (bw_or (b_cmp (og_ne hu) (d_call (ok__law_marks.mono (by decide)) c tk rfl T.g__law_marks k__law_marks b__law_marks .nil (fun _ _ => .nil) (l_cons (d_var 6) (l_nil))) (d_lc (n := 5000) (own := [("_law_k", 9)]) (st_name 9 [9] (by decide)) rfl sc.nd (i_range1 rfl T.f_range (l_cons (d_int) (l_nil))) (show BlkOk N_law (defScope s_law) _ [("_law_k", 9)] from ⟨rfl, by decide +kernel, by decide +kernel, by decide +kernel, by decide +kernel⟩) (fun _ _ _ _ _ => pg_name sc.nd rfl (.inl rfl)) (fun _ _ _ _ _ => bs_nil) (fun _ _ _ _ _ => d_cmp (og_eq hu) (d_var 9) (d_var 5) (nomark _))) (nomark _)) (pw_or1 (b_cmp (og_ne hu) (d_callB (c_repr c.grd (by have := c.room.un; omega)) rfl T.f_repr bt_repr (l_cons (d_xvf T.xf (d_var 6)) (l_nil))) (d_callB (c_repr c.grd (by have := c.room.un; omega)) rfl T.f_repr bt_repr (l_cons (d_var 2) (l_nil))) (nomark _))))) (s_one (s_ret (d_bl))) (s_nil))
    (s_cons (s_set 7 sc.nd rfl (.inl rfl) (d_lst (l_cons (d_callB (c_isi T.it) rfl T.f_isinstance bt_isinstance (l_cons (d_var 6) (l_cons (d_gkr rfl (T.g_LanesError)) (l_nil)))) (l_cons (d_callB (c_isi T.it) rfl T.f_isinstance bt_isinstance (l_cons (d_var 6) (l_cons (d_ty rfl T.f_ValueError bt_ValueError) (l_nil)))) (l_cons (d_callB (c_isi T.it) rfl T.f_isinstance bt_isinstance (l_cons (d_var 6) (l_cons (d_gkr rfl (T.g_Absent)) (l_nil)))) (l_nil))))))
    (s_cons (s_set 7 sc.nd rfl (.inl rfl) (d_bin og_add (d_var 7) (d_lst (l_cons (d_callB (c_isi T.it) rfl T.f_isinstance bt_isinstance (l_cons (d_var 6) (l_cons (d_ty rfl T.f_KeyError bt_KeyError) (l_nil)))) (l_cons (d_callB (c_isi T.it) rfl T.f_isinstance bt_isinstance (l_cons (d_var 6) (l_cons (d_ty rfl T.f_OverflowError bt_OverflowError) (l_nil)))) (l_nil))))))
    (s_cons (s_set 8 sc.nd rfl (.inl rfl) (d_or (d_cmp og_lt (d_var 5) (d_int) (nomark _)) (pe_one (d_cmp og_gt (d_var 5) (d_int) (nomark _)))))
    (s_one (s_if (PW.pt (bw_or (b_cmp (og_ne hu) (d_var 7) (d_lst (l_cons (d_var 8) (l_cons (d_var 8) (l_cons (d_chain og_le og_lt (d_int) (d_var 5) (d_int)) (l_cons (d_chain og_le og_lt (d_int) (d_var 5) (d_int)) (l_cons (d_chain og_le og_lt (d_int) (d_var 5) (d_int)) (l_nil))))))) (nomark _)) (pw_or1 (b_tru (d_callB (c_isi T.it) rfl T.f_isinstance bt_isinstance (l_cons (d_var 6) (l_cons (d_ty rfl T.f_RuntimeError bt_RuntimeError) (l_nil)))))))) (s_one (s_ret (d_bl))) (s_nil))))))))
    (s_one (s_ret (d_bl)))))))
end
end Law

set_option Elab.async false
set_option linter.all false
set_option maxRecDepth 100000
set_option maxHeartbeats 0
namespace Law
open PySem PySem.Spec PyProof.Rows L2 PL
def eThings : Ev := eLst (lCons (eC .non) (lCons (eC (.int 5)) (lCons (eC (.str "a")) (lCons (eTup (lCons (eC (.int 1)) (lCons (eC (.int 2)) (lNil)))) (lCons (eLst (lCons (eC (.int 3)) (lNil))) (lCons (eDic (pCons (eC (.str "a")) (eC (.int 1)) (pNil))) (lCons (eC (.bl true)) (lCons (eBin gPow (eC (.int 10)) (eC (.int 30))) (lCons (eC (.str "")) (lNil))))))))))
def eDrawn : Ev := eCall 3 f__law_numbers [] (lCons (eVar 1) (lCons (eC (.int 100)) (lCons (eLst (lCons (eC (.int 9)) (lNil))) (lNil))))
theorem c1_is : c_law_1 = sSet 2 (eBin gIx eThings (eBin gIx eDrawn (eC (.int 0)))) := rfl
/-- the heap behind the first assignment -/
def hA (S : List D) : HE := (HE.emp.new (.lst [.int 7])).new (.lst (S ++ [.int 7]))
def heapOf : Rs D → HE
  | .ok _ h => h
  | _ => HE.emp
/-- the slots -/
def ρA (S : List D) (c : Int) : Sl := [.va (.wl S), .va (.int c), .no, .no, .no, .no, .no, .no, .no, .no]
def hB (S : List D) (c : Int) : HE := heapOf (eThings (ρA S c) (hA S))
def hD (S : List D) (c : Int) (r : Int) : HE := ((hB S c).new (.lst [.int 9])).new (.lst [.int r])
def rest : Sv := sSeq c_law_2 (sSeq c_law_3 (sSeq c_law_4 c_law_5))
def tailOf (S : List D) (c : Int) (r : Int) : Rt := match gIx (.obj 4) (.int r) (hD S c r) with
  | .ok d h => rest [.va (.wl S), .va (.int c), .va d, .no, .no, .no, .no, .no, .no, .no] h
  | .exc x h => .exc x (ρA S c) h
  | .fail => .fail
def isR : Rt → Bool
  | .rt (.bl true) _ => true
  | _ => false
theorem step0 (ns : List Int) (hl : ns.length ≤ 63) : ∃ c : Int, c_law_0 [.va (.wl (ns.map D.int)), .no, .no, .no, .no, .no, .no, .no, .no, .no] HE.emp = .nx (ρA (ns.map D.int) c) (hA (ns.map D.int)) := by
  have hz : ((ns.map D.int) ++ [D.int 7]).length ≤ sizeLine := by rw [sizeLine_eq]; simp; omega
  have add : gAdd (.wl (ns.map D.int)) (.obj 0) (HE.emp.new (.lst [.int 7])) = .ok (.obj 1) (hA (ns.map D.int)) := by
    have : gAdd (.wl (ns.map D.int)) (.obj 0) (HE.emp.new (.lst [.int 7])) = okLst (HE.emp.new (.lst [.int 7])) ((ns.map D.int) ++ [.int 7]) := rfl
    rw [this]
    unfold okLst
    rw [if_pos hz]
    rfl
  have ix : ∃ c : Int, gIx (.obj 1) (.int 0) (hA (ns.map D.int)) = .ok (.int c) (hA (ns.map D.int)) := by
    cases ns with
    | nil => exact ⟨7, rfl⟩
    | cons n r =>
      refine ⟨n, gIx_rd (k := 0) (l := (D.int n :: (r.map D.int)) ++ [.int 7]) rfl rfl⟩
  obtain ⟨c, ix⟩ := ix
  refine ⟨c, ?_⟩
  have el : eLst (lCons (eC (.int 7)) lNil) [.va (.wl (ns.map D.int)), .no, .no, .no, .no, .no, .no, .no, .no, .no] HE.emp = .ok (.obj 0) (HE.emp.new (.lst [.int 7])) := rfl
  unfold c_law_0 sSet eBin
  have ev : eVar 0 [.va (.wl (ns.map D.int)), .no, .no, .no, .no, .no, .no, .no, .no, .no] HE.emp = .ok (.wl (ns.map D.int)) HE.emp := rfl
  rw [ev, bind_ok, el, bind_ok, add, bind_ok]
  show bindS ((Rs.ok (D.int 0) (hA (ns.map D.int))).bind fun e h2 => gIx (.obj 1) e h2) _ _ = _
  rw [bind_ok, ix, bindS_ok]
  rfl
theorem things_ok (S : List D) (c : Int) : eThings (ρA S c) (hA S) = .ok (.obj 4) (hB S c) := by kernel_rfl
theorem hB_n (S : List D) (c : Int) : (hB S c).n = 5 := by kernel_rfl
theorem drawn_ok (S : List D) (c : Int) : ∃ r : Int, 0 ≤ r ∧ r < 9 ∧ eDrawn (ρA S c) (hB S c) = .ok (.obj 6) (hD S c r) := by
  have e1 : eDrawn (ρA S c) (hB S c) = f__law_numbers [.int c, .int 100, .obj (hB S c).n] ((hB S c).new (.lst [.int 9])) := rfl
  have hr : rdL ((hB S c).new (.lst [.int 9])) (.obj (hB S c).n) = some (([9] : List Int).map D.int) := by simp only [rdL, HE.get_new_self]; rfl
  have sp := num_spec 5000 (h := (hB S c).new (.lst [.int 9])) (c := c) (salt := 100) (d := .obj (hB S c).n) (ss := [9]) hr (fun s hs => by
    have : s = 9 := by simpa using hs
    subst this
    decide) (by decide) (by decide) (by decide) (by decide)
  have nv := nVal_lt (w := nW c) (salt := 100) (left := nW c) (k := 0) (s := 9) (by decide)
  refine ⟨_, nv.1, nv.2, ?_⟩
  rw [e1]
  unfold f__law_numbers
  rw [num_is, sp]
  have : ((hB S c).new (.lst [.int 9])).n = 6 := by rw [HE.new_n, hB_n]
  rw [this]
  rfl
theorem ix0 (S : List D) (c r : Int) : gIx (.obj 6) (.int 0) (hD S c r) = .ok (.int r) (hD S c r) := by
  have e : rdL (hD S c r) (.obj 6) = some [.int r] := by
    have q : (hD S c r).get 6 = some (.lst [.int r]) := by
      have n6 : ((hB S c).new (.lst [.int 9])).n = 6 := by rw [HE.new_n, hB_n]
      unfold hD
      rw [HE.get_new, n6]
      rfl
    simp only [rdL, q]
  exact gIx_rd (k := 0) e rfl
theorem tail_0 (S : List D) (c : Int) : isR (tailOf S c 0) = true := by kernel_rfl
theorem tail_1 (S : List D) (c : Int) : isR (tailOf S c 1) = true := by kernel_rfl
theorem tail_2 (S : List D) (c : Int) : isR (tailOf S c 2) = true := by kernel_rfl
theorem tail_3 (S : List D) (c : Int) : isR (tailOf S c 3) = true := by kernel_rfl
theorem tail_4 (S : List D) (c : Int) : isR (tailOf S c 4) = true := by kernel_rfl
theorem tail_5 (S : List D) (c : Int) : isR (tailOf S c 5) = true := by kernel_rfl
theorem tail_6 (S : List D) (c : Int) : isR (tailOf S c 6) = true := by kernel_rfl
theorem tail_7 (S : List D) (c : Int) : isR (tailOf S c 7) = true := by kernel_rfl
theorem tail_8 (S : List D) (c : Int) : isR (tailOf S c 8) = true := by kernel_rfl
theorem tail_all (S : List D) (c r : Int) (h0 : 0 ≤ r) (h1 : r < 9) : isR (tailOf S c r) = true := by
  have : r = 0 ∨ r = 1 ∨ r = 2 ∨ r = 3 ∨ r = 4 ∨ r = 5 ∨ r = 6 ∨ r = 7 ∨ r = 8 := by omega
  rcases this with rfl | rfl | rfl | rfl | rfl | rfl | rfl | rfl | rfl
  · exact tail_0 S c
  · exact tail_1 S c
  · exact tail_2 S c
  · exact tail_3 S c
  · exact tail_4 S c
  · exact tail_5 S c
  · exact tail_6 S c
  · exact tail_7 S c
  · exact tail_8 S c
theorem law_true (ns : List Int) (hl : ns.length ≤ 63) : ∃ h', f_law [.wl (ns.map D.int)] HE.emp = .ok (.bl true) h' := by
  obtain ⟨c, s0⟩ := step0 ns hl
  obtain ⟨r, r0, r9, dr⟩ := drawn_ok (ns.map D.int) c
  have tl := tail_all (ns.map D.int) c r r0 r9
  have s1 : c_law_1 (ρA (ns.map D.int) c) (hA (ns.map D.int)) = bindS (gIx (.obj 4) (.int r) (hD (ns.map D.int) c r)) (ρA (ns.map D.int) c) fun d h1 => .nx ((ρA (ns.map D.int) c).set 2 (.va d)) h1 := by
    rw [c1_is]
    unfold sSet eBin
    rw [things_ok, bind_ok, dr, bind_ok]
    show bindS (((Rs.ok (D.int 0) (hD (ns.map D.int) c r)).bind fun e h2 => gIx (.obj 6) e h2).bind fun e h2 => gIx (.obj 4) e h2) _ _ = _
    rw [bind_ok, ix0, bind_ok]
  have go : c_law [.va (.wl (ns.map D.int)), .no, .no, .no, .no, .no, .no, .no, .no, .no] HE.emp = tailOf (ns.map D.int) c r := by
    show sSeq c_law_0 (sSeq c_law_1 rest) _ _ = _
    unfold sSeq
    rw [s0]
    show (match c_law_1 (ρA (ns.map D.int) c) (hA (ns.map D.int)) with
      | .nx ρ h => rest ρ h
      | r => r) = _
    rw [s1]
    unfold tailOf
    cases gIx (.obj 4) (.int r) (hD (ns.map D.int) c r) with
    | ok d h => rfl
    | exc x h => rfl
    | fail => rfl
  have fin : f_law [.wl (ns.map D.int)] HE.emp = (match tailOf (ns.map D.int) c r with
    | .rt d h => .ok d h
    | .nx _ h => .ok .non h
    | .exc x _ h => .exc x h
    | _ => .fail) := by
    rw [← go]
    rfl
  rw [fin]
  cases q : tailOf (ns.map D.int) c r with
  | rt d h =>
    rw [q] at tl
    cases d with
    | bl b =>
      cases b with
      | true => exact ⟨h, rfl⟩
      | false => cases tl
    | _ => cases tl
  | _ => rw [q] at tl; cases tl
end Law

set_option Elab.async false
set_option linter.all false
set_option maxRecDepth 100000
set_option maxHeartbeats 0
namespace Law
open PySem PySem.Spec PyProof.Rows L2 PL
/-! ### the head -/
abbrev R : PySem.W.OpenRow := PySem.W.OpenLaw.row PySem.Challenge.rw_partedlanes_k01_exceptions
abbrev hk : PySem.W.Hook := hookP 4 fb fa fn xi
def ob (s : PySem.W.SharedT) : AlP := obsPG 4 fb fa fn xi (HandSHeadRun.getT s)
theorem ob_eq (s : PySem.W.SharedT) : ob s = hk.obs s.abs := obsPG_eq (HandSHeadRun.getT_eq s)
abbrev most : Nat := 7000
def loose : List Str := (["__name__", "LanesError", "BadRegisters", "BadNumber", "BadRow", "BadRows", "BadJoins", "BadProgram", "BadRule", "BadData", "BadText", "BadKind", "BadMachine", "NotNested", "NotPlain", "BadState", "BadPromise", "BadPaper", "BadLine", "BadBlock"] : List Str) ++ (["Guarded", "Unlike", "BadEdits", "BadKeeper", "Absent", "NoLane", "NoScene", "TooLarge", "TooMany", "NothingToUndo", "_law_numbers", "_law_made", "_law_marks"] : List Str)
theorem run (w : World) : HandSHeadRun.RunEq R (PySem.W.view R.prog [34]) hk ob most loose w := by
  intro os
  kernel_rfl
end Law

set_option Elab.async false
set_option linter.all false
set_option maxRecDepth 100000
set_option maxHeartbeats 0
namespace Law
open PySem PySem.Spec PyProof.Rows L2 PL
/-! ### the facts, read off the head -/
theorem tx {w : World} {K : Fg} {h : Heap} {mg : Str → Option Value} {base : Heap} (X : K.In h) (G : h.Ns mainGlobals mg) (c : SaysP fb fa fn xi K) : Tx prog w K mg base := by
  obtain ⟨b1, b⟩ := He.ba c.fb
  obtain ⟨b2, b⟩ := He.ba b
  obtain ⟨b3, b⟩ := He.ba b
  obtain ⟨b4, b⟩ := He.ba b
  obtain ⟨b5, b6⟩ := He.ba b
  have gx : ∀ (i : Nat) {x : Str}, fa[i]? = some (.glo x) → mg x = some (.ref (He.ga K x)) := fun i x e => He.glo_ok X G (c.fact i e)
  have fx : ∀ (i : Nat) {x : Str}, fa[i]? = some (.free x) → mg x = none := fun i x e => He.free_ok X G (c.fact i e)
  have xx : ∀ (i j : Nat) {x : XD} {y : XI}, xds[i]? = some (x, y.qual) → xi[j]? = some y → BsOk x.base → x.own = y.own → (∃ p1 p2, y.params = xA p1 p2) → (∃ q1 q2 q3 q4 q5 q6 r1 r2 r3 r4, y.body = xB q1 q2 q3 q4 q5 q6 r1 r2 r3 r4 ∧ XEv q1 q2 q3 q4 q5) → y.scope = xS → XTxt prog K x.base (He.ga K x.cls) :=
    fun i j x y e1 e2 hB ho hp hb hs => xd_ok hB ho (c.xi j e2) (List.all_eq_true.mp b1 _ (List.mem_of_getElem? e1)) (by kernel_rfl) hp hb hs
  have yy : ∀ (i : Nat) {x : Str}, yds[i]? = some x → PySem.W.excIn K (He.ga K x) yB "RuntimeError.__new__" = true ∧ PySem.W.keepIn K (.ref (He.ga K x)) = true := fun i x e => He.ba (List.all_eq_true.mp b4 _ (List.mem_of_getElem? e))
  have p_LanesError : ∃ p1 p2, (defArgs x_LanesError) = xA p1 p2 := ⟨_, _, rfl⟩
  have e_LanesError : ∃ q1 q2 q3 q4 q5 q6 r1 r2 r3 r4, (defBody x_LanesError) = xB q1 q2 q3 q4 q5 q6 r1 r2 r3 r4 ∧ XEv q1 q2 q3 q4 q5 := ⟨_, _, _, _, _, _, _, _, _, _, rfl, (fun env => do return (← importBound (.Call (.Name "super" ⟨0, 0, 0, 0⟩) [] [] ⟨0, 0, 0, 0⟩) env).getD true), fun env => rfl⟩
  have p_Absent : ∃ p1 p2, (defArgs x_Absent) = xA p1 p2 := ⟨_, _, rfl⟩
  have e_Absent : ∃ q1 q2 q3 q4 q5 q6 r1 r2 r3 r4, (defBody x_Absent) = xB q1 q2 q3 q4 q5 q6 r1 r2 r3 r4 ∧ XEv q1 q2 q3 q4 q5 := ⟨_, _, _, _, _, _, _, _, _, _, rfl, (fun env => do return (← importBound (.Call (.Name "super" ⟨0, 0, 0, 0⟩) [] [] ⟨0, 0, 0, 0⟩) env).getD true), fun env => rfl⟩
  have p_TooLarge : ∃ p1 p2, (defArgs x_TooLarge) = xA p1 p2 := ⟨_, _, rfl⟩
  have e_TooLarge : ∃ q1 q2 q3 q4 q5 q6 r1 r2 r3 r4, (defBody x_TooLarge) = xB q1 q2 q3 q4 q5 q6 r1 r2 r3 r4 ∧ XEv q1 q2 q3 q4 q5 := ⟨_, _, _, _, _, _, _, _, _, _, rfl, (fun env => do return (← importBound (.Call (.Name "super" ⟨0, 0, 0, 0⟩) [] [] ⟨0, 0, 0, 0⟩) env).getD true), fun env => rfl⟩
  have p_TooMany : ∃ p1 p2, (defArgs x_TooMany) = xA p1 p2 := ⟨_, _, rfl⟩
  have e_TooMany : ∃ q1 q2 q3 q4 q5 q6 r1 r2 r3 r4, (defBody x_TooMany) = xB q1 q2 q3 q4 q5 q6 r1 r2 r3 r4 ∧ XEv q1 q2 q3 q4 q5 := ⟨_, _, _, _, _, _, _, _, _, _, rfl, (fun env => do return (← importBound (.Call (.Name "super" ⟨0, 0, 0, 0⟩) [] [] ⟨0, 0, 0, 0⟩) env).getD true), fun env => rfl⟩
  have hexc : ∀ n r, itab.exc.lookup n = some r → rowB K (.ref (He.ga K n)) r = true ∧ ExcC K (He.ga K n) := by
    intro n r e
    obtain ⟨h1, h2⟩ := He.ba (List.all_eq_true.mp b2 _ (lookup_mem e))
    obtain ⟨h3, h4⟩ := He.ba h2
    obtain ⟨h5, h6⟩ := He.ba h4
    have z := xfB_ok h3
    exact ⟨h1, z.ga, z.gg, z.exC, z.hdC, He.eqO_ok h5, He.eqO_ok b5, of_decide_eq_true b6, of_decide_eq_true h6⟩
  have hit : ItOk K itab := ⟨(fun n r e => nomatch e), (fun n r e => nomatch e), hexc⟩
  have hxf : ∀ c ∈ xcs, XfC K (He.ga K c) ∧ PySem.W.findIn K (.ref (He.ga K c)) "value" = some none := by
    intro c hc
    obtain ⟨h1, h2⟩ := He.ba (List.all_eq_true.mp b3 c hc)
    exact ⟨xfB_ok h1, He.eqO_ok h2⟩
  exact {
    g_BadRegisters := gx 0 rfl
    g_BadNumber := gx 1 rfl
    g_BadRow := gx 2 rfl
    g_BadRows := gx 3 rfl
    g_BadJoins := gx 4 rfl
    g_BadProgram := gx 5 rfl
    g_BadRule := gx 6 rfl
    g_BadData := gx 7 rfl
    g_BadText := gx 8 rfl
    g_BadKind := gx 9 rfl
    g_BadMachine := gx 10 rfl
    g_NotNested := gx 11 rfl
    g_NotPlain := gx 12 rfl
    g_BadBlock := gx 13 rfl
    g_BadState := gx 14 rfl
    g_BadPromise := gx 15 rfl
    g_BadPaper := gx 16 rfl
    g_BadLine := gx 17 rfl
    g_NoLane := gx 18 rfl
    g_NoScene := gx 19 rfl
    g_TooLarge := gx 20 rfl
    g_TooMany := gx 21 rfl
    g_Guarded := gx 22 rfl
    g_Unlike := gx 23 rfl
    g_BadEdits := gx 24 rfl
    g_BadKeeper := gx 25 rfl
    g_NothingToUndo := gx 26 rfl
    g__law_numbers := gx 27 rfl
    g__law_made := gx 28 rfl
    g__law_marks := gx 29 rfl
    g_LanesError := gx 30 rfl
    g_Absent := gx 31 rfl
    g_law := gx 32 rfl
    f_max := fx 33 rfl
    f_range := fx 34 rfl
    f_len := fx 35 rfl
    f_isinstance := fx 36 rfl
    f_RuntimeError := fx 37 rfl
    f_enumerate := fx 38 rfl
    f_repr := fx 39 rfl
    f_ValueError := fx 40 rfl
    f_KeyError := fx 41 rfl
    f_OverflowError := fx 42 rfl
    f_super := fx 43 rfl
    x_LanesError := xx 0 0 (x := xd_LanesError) rfl rfl bsVE_ok rfl p_LanesError e_LanesError rfl
    x_BadRegisters := xx 1 0 (x := xd_BadRegisters) rfl rfl bsVE_ok rfl p_LanesError e_LanesError rfl
    x_BadNumber := xx 2 0 (x := xd_BadNumber) rfl rfl bsVE_ok rfl p_LanesError e_LanesError rfl
    x_BadRow := xx 3 0 (x := xd_BadRow) rfl rfl bsVE_ok rfl p_LanesError e_LanesError rfl
    x_BadRows := xx 4 0 (x := xd_BadRows) rfl rfl bsVE_ok rfl p_LanesError e_LanesError rfl
    x_BadJoins := xx 5 0 (x := xd_BadJoins) rfl rfl bsVE_ok rfl p_LanesError e_LanesError rfl
    x_BadProgram := xx 6 0 (x := xd_BadProgram) rfl rfl bsVE_ok rfl p_LanesError e_LanesError rfl
    x_BadRule := xx 7 0 (x := xd_BadRule) rfl rfl bsVE_ok rfl p_LanesError e_LanesError rfl
    x_BadData := xx 8 0 (x := xd_BadData) rfl rfl bsVE_ok rfl p_LanesError e_LanesError rfl
    x_BadText := xx 9 0 (x := xd_BadText) rfl rfl bsVE_ok rfl p_LanesError e_LanesError rfl
    x_BadKind := xx 10 0 (x := xd_BadKind) rfl rfl bsVE_ok rfl p_LanesError e_LanesError rfl
    x_BadMachine := xx 11 0 (x := xd_BadMachine) rfl rfl bsVE_ok rfl p_LanesError e_LanesError rfl
    x_NotNested := xx 12 0 (x := xd_NotNested) rfl rfl bsVE_ok rfl p_LanesError e_LanesError rfl
    x_NotPlain := xx 13 0 (x := xd_NotPlain) rfl rfl bsVE_ok rfl p_LanesError e_LanesError rfl
    x_BadState := xx 14 0 (x := xd_BadState) rfl rfl bsVE_ok rfl p_LanesError e_LanesError rfl
    x_BadPromise := xx 15 0 (x := xd_BadPromise) rfl rfl bsVE_ok rfl p_LanesError e_LanesError rfl
    x_BadPaper := xx 16 0 (x := xd_BadPaper) rfl rfl bsVE_ok rfl p_LanesError e_LanesError rfl
    x_BadLine := xx 17 0 (x := xd_BadLine) rfl rfl bsVE_ok rfl p_LanesError e_LanesError rfl
    x_BadBlock := xx 18 0 (x := xd_BadBlock) rfl rfl bsVE_ok rfl p_LanesError e_LanesError rfl
    x_Guarded := xx 19 0 (x := xd_Guarded) rfl rfl bsVE_ok rfl p_LanesError e_LanesError rfl
    x_Unlike := xx 20 0 (x := xd_Unlike) rfl rfl bsVE_ok rfl p_LanesError e_LanesError rfl
    x_BadEdits := xx 21 0 (x := xd_BadEdits) rfl rfl bsVE_ok rfl p_LanesError e_LanesError rfl
    x_BadKeeper := xx 22 0 (x := xd_BadKeeper) rfl rfl bsVE_ok rfl p_LanesError e_LanesError rfl
    x_Absent := xx 23 1 (x := xd_Absent) rfl rfl bsKE_ok rfl p_Absent e_Absent rfl
    x_NoLane := xx 24 1 (x := xd_NoLane) rfl rfl bsKE_ok rfl p_Absent e_Absent rfl
    x_NoScene := xx 25 1 (x := xd_NoScene) rfl rfl bsKE_ok rfl p_Absent e_Absent rfl
    x_TooLarge := xx 26 2 (x := xd_TooLarge) rfl rfl bsOE_ok rfl p_TooLarge e_TooLarge rfl
    x_TooMany := xx 27 3 (x := xd_TooMany) rfl rfl bsOE_ok rfl p_TooMany e_TooMany rfl
    y_NothingToUndo := yy 0 rfl
    it := hit
    xf := hxf }
theorem facts {w : World} {K : Fg} {h : Heap} {mg : Str → Option Value} {f : Addr} (X : K.In h) (G : h.Ns mainGlobals mg) (hfa : mg ("law" : Str) = some (.ref f)) (c : SaysP fb fa fn xi K) :
    ∃ fd : FuncData, (∀ (s : Shared) (v : Value), BindsTo s fd ⟨[v], []⟩ [("_law_script", v)]) ∧ ∀ base : Heap, K.In base → base.Ns mainGlobals mg → FnG prog w K mg base 3 f fd ["_law_script"] (spD K 1 f_law) := by
  obtain ⟨fd__law_numbers, F__law_numbers⟩ := c.def_ 0 (d := d__law_numbers) rfl
  obtain ⟨fd__law_made, F__law_made⟩ := c.def_ 1 (d := d__law_made) rfl
  obtain ⟨fd__law_marks, F__law_marks⟩ := c.def_ 2 (d := d__law_marks) rfl
  obtain ⟨fd_law, F_law⟩ := c.def_ 3 (d := d_law) rfl
  have e := hfa.symm.trans (He.glo_ok X G (c.fact 32 (f := .glo "law") rfl))
  cases e
  have b := FunD.bindsA (ps := ["_law_script"]) F_law fun _ _ _ _ _ _ us hl => match us, hl with | [_], _ => rfl
  refine ⟨fd_law, fun s v => b s [v] rfl, fun base _ _ => ?_⟩
  have T : Tx prog w K mg base := tx X G c
  have o__law_numbers := ok__law_numbers T  F__law_numbers
  have b__law_numbers : Binds K fd__law_numbers ["_law_cell", "_law_salt", "_law_sizes"] [] := F__law_numbers.bindsN fun _ _ _ _ _ _ us hl => match us, hl with | [_, _, _], _ => rfl
  have o__law_made := ok__law_made T  F__law_made
  have b__law_made : Binds K fd__law_made ["_law_thing"] [] := F__law_made.bindsN fun _ _ _ _ _ _ us hl => match us, hl with | [_], _ => rfl
  have o__law_marks := ok__law_marks T  F__law_marks
  have b__law_marks : Binds K fd__law_marks ["_law_e"] [] := F__law_marks.bindsN fun _ _ _ _ _ _ us hl => match us, hl with | [_], _ => rfl
  exact ok_law T o__law_made F__law_made.kp b__law_made o__law_marks F__law_marks.kp b__law_marks o__law_numbers F__law_numbers.kp b__law_numbers F_law
end Law
open PySem PySem.W PySem.Calls PyProof.Rows
theorem PySem.Challenge.cw_partedlanes_k01_exceptions_holds : PySem.Challenge.rw_partedlanes_k01_exceptions.Holds := by
  w_on; o_law
  refine HandSHeadRun.head_any (r := OpenLaw.row PySem.Challenge.rw_partedlanes_k01_exceptions) (q := view (OpenLaw.row PySem.Challenge.rw_partedlanes_k01_exceptions).prog [34]) (H := Law.hk) (ob := Law.ob) (M := Law.most) (loose := Law.loose) (d := HandSHeadRun.topDef (OpenLaw.row PySem.Challenge.rw_partedlanes_k01_exceptions).prog 34) (kwd := []) Law.ob_eq
    (by kernel_rfl) (fun s => by kernel_rfl) Law.run (by kernel_rfl) (by kernel_rfl) (by kernel_rfl) (by rfl) (by first | assumption | decide +kernel) (by decide +kernel) ⟨rfl, rfl, rfl, rfl, rfl, by decide +kernel⟩ ?hw ?hc
  case hw => w_witness2
  case hc =>
    refine PL.walk_ofG (l := PySem.Challenge.rw_partedlanes_k01_exceptions) (n := 63) (k := 3) (x := "_law_script") (g := Law.f_law) rfl (by decide) (by kernel_rfl) ⟨rfl, by decide, by decide⟩ (fun ns hl _ => Law.law_true ns hl) ?F
    intro w mg fa h Y G hmg0
    obtain ⟨K, KX, c⟩ := Y
    have hmg : mg ("law" : PySem.Str) = some (.ref fa) := by
      have e : (HandSHeadRun.topDef (OpenLaw.row PySem.Challenge.rw_partedlanes_k01_exceptions).prog 34).name = ("law" : PySem.Str) := by kernel_rfl
      rw [← e]
      exact hmg0
    obtain ⟨fd, hb, hF⟩ := Law.facts (w := w) KX G hmg c
    exact ⟨K, fd, KX, hb, hF⟩


