import PyProof.Rows.All
import Wide.All
import OpenK.AllK
import Wide.FinOn
import HandS.ForMost
import HandS.Exc
import HandS.Wide
import HandS.IsInst
import HandS.Deep
import HandS.TupAny
import HandS.Defaults
import HandS.HeadEnd
import KE.KStateDown
import HandS.Head0
import HandS.Head1
import HandS.Head2
import HandS.HeadHook1
import HandS.HeadHook2
import HandS.HeadHook4
import PySem.Challenge.RW_touchkept_k02_acts_on_lives
set_option Elab.async false
set_option linter.all false
set_option maxRecDepth 100000
set_option maxHeartbeats 8000000
/-! Tk1: data, stores of cells, and how they lie in the abstract heap. -/
namespace TK
open PySem PySem.Spec PyProof.Rows L2

/-- pure data: trees, and cells that may change -/
inductive Dt where
  | non | bl (b : Bool) | int (i : Int) | str (x : Str)
  | lst (xs : List Dt) | tup (xs : List Dt)
  | dic (kvs : List (Key × Dt))
  | obj (c : Nat) (fs : List (Nat × Dt))
  | cell (n : Nat)
  | ty (n : String)
  | fn (f : Nat)
  | cls (c : Nat)
  | scr (xs : List Dt)

/-- what a cell holds -/
inductive Ob where
  | dead
  | lst (xs : List Dt)
  | dic (kvs : List (Key × Dt))
  | ins (c : Nat) (fs : List (Nat × Dt))

def Ob.live : Ob → Bool
  | .dead => false
  | _ => true

abbrev Sto := List Ob

/-- what of the text the layer knows: classes' addresses, functions' addresses, attributes' names -/
structure Tb where
  K : PySem.W.Frag
  cl : Nat → Addr
  fn : Nat → Addr
  nm : Nat → Str

/-- a store with its addresses -/
structure Wd where
  S : Sto
  B : List Addr
  hid : List Addr

/-- the addresses that may change -/
def Wd.mu (w : Wd) (a : Addr) : Prop := a ∈ w.hid ∨ ∃ (n : Nat) (o : Ob), w.B[n]? = some a ∧ w.S[n]? = some o ∧ o.live = true

def LsAt (_ : Tb) (w : Wd) (H : Hp) (a : Addr) (xs : List V) : Prop := H a = some (.lst xs) ∧ ¬ w.mu a
section
variable (G : Tb) (w : Wd) (H : Hp)
def TpAt (a : Addr) (xs : List V) : Prop := (Rd H a (.tup xs) ∧ ¬ w.mu a) ∨
  ∃ (o : Obj) (its : Array Value) (n : Nat), G.K.lookup a = some o ∧ o.cls = .type "tuple" ∧ o.data = .seq its n ∧ its.size ≤ sizeLine ∧ Vals xs its.toList
mutual
inductive Rep : V → Dt → Prop
  | non : Rep .non .non
  | bl (b : Bool) : Rep (.bl b) (.bl b)
  | int (i : Int) : Rep (.int i) (.int i)
  | str (x : Str) : Rep (.str x) (.str x)
  | ty (n : String) : Rep (.ty n) (.ty n)
  | fn (f : Nat) : Rep (.ref (G.fn f)) (.fn f)
  | cls (c : Nat) : Rep (.ref (G.cl c)) (.cls c)
  | cell {a : Addr} {n : Nat} (h : w.B[n]? = some a) : Rep (.ref a) (.cell n)
  | scr {a : Addr} {xs : List V} {ds : List Dt} (h : (Rd H a (.lst xs) ∧ ¬ w.mu a) ∨ ∃ (o : Obj) (its : Array Value) (n : Nat), G.K.lookup a = some o ∧ o.cls = .type "list" ∧ o.dict = none ∧ o.data = .seq its n ∧ its.size ≤ sizeLine ∧ Vals xs its.toList) (r : Reps xs ds) : Rep (.ref a) (.scr ds)
  | lst {a : Addr} {xs : List V} {ds : List Dt} (h : LsAt G w H a xs) (r : Reps xs ds) : Rep (.ref a) (.lst ds)
  | tup {a : Addr} {xs : List V} {ds : List Dt} (h : TpAt G w H a xs) (r : Reps xs ds) : Rep (.ref a) (.tup ds)
  | dic {a : Addr} {kvs : List (Key × V)} {kds : List (Key × Dt)} (h : Rd H a (.dK kvs)) (m : ¬ w.mu a) (r : RepKs kvs kds) : Rep (.ref a) (.dic kds)
  | obj {a dx : Addr} {c : Nat} {fs : List (Str × V)} {ds : List (Nat × Dt)} (h : H a = some (.ins (G.cl c) dx fs)) (m : ¬ w.mu a) (r : RepFs fs ds) : Rep (.ref a) (.obj c ds)
inductive Reps : List V → List Dt → Prop
  | nil : Reps [] []
  | cons {v : V} {vs : List V} {d : Dt} {ds : List Dt} : Rep v d → Reps vs ds → Reps (v :: vs) (d :: ds)
inductive RepKs : List (Key × V) → List (Key × Dt) → Prop
  | nil : RepKs [] []
  | cons {k : Key} {v : V} {vs : List (Key × V)} {d : Dt} {ds : List (Key × Dt)} : Rep v d → RepKs vs ds → RepKs ((k, v) :: vs) ((k, d) :: ds)
inductive RepFs : List (Str × V) → List (Nat × Dt) → Prop
  | nil : RepFs [] []
  | cons {k : Nat} {v : V} {vs : List (Str × V)} {d : Dt} {ds : List (Nat × Dt)} : Rep v d → RepFs vs ds → RepFs ((G.nm k, v) :: vs) ((k, d) :: ds)
end
/-- what a cell's object says of the heap at its address -/
def ObAt (a : Addr) : Ob → Prop
  | .dead => True
  | .lst ds => ∃ xs, H a = some (.lst xs) ∧ Reps G w H xs ds
  | .dic kds => ∃ kvs, H a = some (.dK kvs) ∧ RepKs G w H kvs kds
  | .ins c ds => ∃ dx fs, H a = some (.ins (G.cl c) dx fs) ∧ RepFs G w H fs ds
/-- the store lies in the heap -/
structure Lies : Prop where
  len : w.B.length = w.S.length
  nd : w.B.Nodup
  at_ : ∀ (n : Nat) (a : Addr) (o : Ob), w.B[n]? = some a → w.S[n]? = some o → ObAt G w H a o
  there : ∀ a ∈ w.B, H a ≠ none
  hthere : ∀ a ∈ w.hid, H a ≠ none ∧ a ∉ w.B
end

/-- from one world to a later one: what is frozen stays, addresses stay, what may change is old or new -/
structure Ext0 (w : Wd) (H : Hp) (w' : Wd) (H' : Hp) : Prop where
  pre : w.B <+: w'.B
  keep : ∀ a u, ¬ w.mu a → H a = some u → ∃ u', H' a = some u' ∧ (∀ z, Rd H a z → Rd H' a z) ∧ (∀ C dx fs, u = .ins C dx fs → u' = u) ∧ (∀ xs, u = .lst xs → u' = u)
  new : ∀ a, w'.mu a → w.mu a ∨ H a = none
structure Ext (w : Wd) (H : Hp) (w' : Wd) (H' : Hp) : Prop extends Ext0 w H w' H' where
  stay : ∀ a, H a ≠ none → H' a ≠ none
  fresh : ∀ a ∈ w'.B, a ∈ w.B ∨ H a = none
  hid : ∀ a ∈ w.hid, a ∈ w'.hid
  hk : ∀ a ∈ w.hid, H' a = H a

theorem Rd.some {H : Hp} {a : Addr} {u : HO} (r : Rd H a u) : ∃ o, H a = Option.some o := by
  rcases r with h | ⟨o, h⟩
  · exact ⟨_, h⟩
  · exact ⟨_, h⟩
theorem Rd.ne {H : Hp} {a : Addr} {u : HO} (r : Rd H a u) : H a ≠ none := by
  obtain ⟨o, e⟩ := Rd.some r
  rw [e]; exact fun z => nomatch z

theorem Ext0.rd {w w' : Wd} {H H' : Hp} (x : Ext0 w H w' H') {a : Addr} {u : HO} (m : ¬ w.mu a) (r : Rd H a u) : Rd H' a u := by
  obtain ⟨o, e⟩ := Rd.some r
  obtain ⟨_, _, k, _, _⟩ := x.keep a o m e
  exact k u r
theorem Ext0.mu {w w' : Wd} {H H' : Hp} (x : Ext0 w H w' H') {a : Addr} (m : ¬ w.mu a) (r : H a ≠ none) : ¬ w'.mu a := fun z => (x.new a z).elim m r
theorem Ext.refl (w : Wd) (H : Hp) : Ext w H w H := ⟨⟨List.prefix_refl _, fun a u _ e => ⟨u, e, fun _ z => z, fun _ _ _ _ => rfl, fun _ _ => rfl⟩, fun a z => .inl z⟩, fun _ z => z, fun a z => .inl z, fun _ z => z, fun _ _ => rfl⟩
theorem Ext.trans {w w1 w2 : Wd} {H H1 H2 : Hp} (x : Ext w H w1 H1) (y : Ext w1 H1 w2 H2) : Ext w H w2 H2 where
  pre := x.pre.trans y.pre
  keep := fun a u m e => by
    obtain ⟨u1, e1, k1, i1, l1⟩ := x.keep a u m e
    have m1 : ¬ w1.mu a := x.mu m (by rw [e]; exact fun z => nomatch z)
    obtain ⟨u2, e2, k2, i2, l2⟩ := y.keep a u1 m1 e1
    refine ⟨u2, e2, fun z r => k2 z (k1 z r), fun C dx fs q => ?_, fun xs q => ?_⟩
    · have q1 := i1 C dx fs q
      rw [q1] at i2
      exact i2 C dx fs q
    · have q1 := l1 xs q
      rw [q1] at l2
      exact l2 xs q
  new := fun a z => by
    rcases y.new a z with h | h
    · exact x.new a h
    · by_cases m : w.mu a
      · exact .inl m
      · refine .inr ?_
        cases e : H a with
        | none => rfl
        | some u =>
          obtain ⟨u1, e1, _⟩ := x.keep a u m e
          rw [h] at e1; cases e1
  stay := fun a h => y.stay a (x.stay a h)
  fresh := fun a h => by
    rcases y.fresh a h with q | q
    · exact x.fresh a q
    · refine .inr ?_
      cases e : H a with
      | none => rfl
      | some u => exact absurd q (x.stay a (by rw [e]; exact fun z => nomatch z))
  hid := fun a h => y.hid a (x.hid a h)
  hk := fun a h => (y.hk a (x.hid a h)).trans (x.hk a h)

section
variable {G : Tb} {w w' : Wd} {H H' : Hp}
theorem LsAt.ext0 (x : Ext0 w H w' H') {a : Addr} {xs : List V} (h : LsAt G w H a xs) : LsAt G w' H' a xs := by
  obtain ⟨r, m⟩ := h
  obtain ⟨u', e, _, _, l⟩ := x.keep _ _ m r
  rw [l _ rfl] at e
  exact ⟨e, x.mu m (by rw [r]; exact fun z => nomatch z)⟩
theorem TpAt.ext0 (x : Ext0 w H w' H') {a : Addr} {xs : List V} (h : TpAt G w H a xs) : TpAt G w' H' a xs := by
  rcases h with ⟨r, m⟩ | h
  · exact .inl ⟨x.rd m r, x.mu m (Rd.ne r)⟩
  · exact .inr h
theorem get_prefix {α : Type} {l l' : List α} (p : l <+: l') {n : Nat} {a : α} (h : l[n]? = some a) : l'[n]? = some a := by
  obtain ⟨t, rfl⟩ := p
  have hn : n < l.length := (List.getElem?_eq_some_iff.mp h).1
  rw [List.getElem?_append_left hn]; exact h
mutual
theorem Rep.ext0 (x : Ext0 w H w' H') : ∀ {v : V} {d : Dt}, Rep G w H v d → Rep G w' H' v d
  | _, _, .non => .non
  | _, _, .bl b => .bl b
  | _, _, .int i => .int i
  | _, _, .str z => .str z
  | _, _, .ty n => .ty n
  | _, _, .fn f => .fn f
  | _, _, .cls c => .cls c
  | _, _, .cell h => .cell (get_prefix x.pre h)
  | _, _, .scr h r => by
    rcases h with ⟨h, m⟩ | h
    · exact .scr (.inl ⟨x.rd m h, x.mu m (Rd.ne h)⟩) (Reps.ext0 x r)
    · exact .scr (.inr h) (Reps.ext0 x r)
  | _, _, .lst h r => .lst (h.ext0 x) (Reps.ext0 x r)
  | _, _, .tup h r => .tup (h.ext0 x) (Reps.ext0 x r)
  | _, _, .dic h m r => .dic (x.rd m h) (x.mu m (Rd.ne h)) (RepKs.ext0 x r)
  | _, _, .obj h m r => by
    obtain ⟨u', e, _, i, _⟩ := x.keep _ _ m h
    rw [i _ _ _ rfl] at e
    exact .obj e (x.mu m (by rw [h]; exact fun z => nomatch z)) (RepFs.ext0 x r)
theorem Reps.ext0 (x : Ext0 w H w' H') : ∀ {v : List V} {d : List Dt}, Reps G w H v d → Reps G w' H' v d
  | _, _, .nil => .nil
  | _, _, .cons r t => .cons (Rep.ext0 x r) (Reps.ext0 x t)
theorem RepKs.ext0 (x : Ext0 w H w' H') : ∀ {v : List (Key × V)} {d : List (Key × Dt)}, RepKs G w H v d → RepKs G w' H' v d
  | _, _, .nil => .nil
  | _, _, .cons r t => .cons (Rep.ext0 x r) (RepKs.ext0 x t)
theorem RepFs.ext0 (x : Ext0 w H w' H') : ∀ {v : List (Str × V)} {d : List (Nat × Dt)}, RepFs G w H v d → RepFs G w' H' v d
  | _, _, .nil => .nil
  | _, _, .cons r t => .cons (Rep.ext0 x r) (RepFs.ext0 x t)
end
theorem LsAt.ext (x : Ext w H w' H') {a : Addr} {xs : List V} (h : LsAt G w H a xs) : LsAt G w' H' a xs := h.ext0 x.toExt0
theorem TpAt.ext (x : Ext w H w' H') {a : Addr} {xs : List V} (h : TpAt G w H a xs) : TpAt G w' H' a xs := h.ext0 x.toExt0
theorem Rep.ext (x : Ext w H w' H') {v : V} {d : Dt} (h : Rep G w H v d) : Rep G w' H' v d := Rep.ext0 x.toExt0 h
theorem Reps.ext (x : Ext w H w' H') {v : List V} {d : List Dt} (h : Reps G w H v d) : Reps G w' H' v d := Reps.ext0 x.toExt0 h
theorem RepKs.ext (x : Ext w H w' H') {v : List (Key × V)} {d : List (Key × Dt)} (h : RepKs G w H v d) : RepKs G w' H' v d := RepKs.ext0 x.toExt0 h
theorem RepFs.ext (x : Ext w H w' H') {v : List (Str × V)} {d : List (Nat × Dt)} (h : RepFs G w H v d) : RepFs G w' H' v d := RepFs.ext0 x.toExt0 h
theorem LsAt.sq (h : LsAt G w H a xs) : SqL G.K H a xs := SqL.of h.1
theorem TpAt.sq (h : TpAt G w H a xs) : SqT G.K H a xs := by
  rcases h with ⟨r, _⟩ | h
  · exact .inl r
  · exact .inr h
theorem Reps.length : ∀ {v : List V} {d : List Dt}, Reps G w H v d → v.length = d.length
  | _, _, .nil => rfl
  | _, _, .cons r t => by simp only [List.length_cons, Reps.length t]
theorem Reps.get : ∀ {v : List V} {d : List Dt} {i : Nat} {x : Dt}, Reps G w H v d → d[i]? = some x → ∃ y, v[i]? = some y ∧ Rep G w H y x
  | _, _, _, _, .nil, h => by simp at h
  | _, _, 0, _, .cons r t, h => by simp at h; subst h; exact ⟨_, rfl, r⟩
  | _, _, i + 1, x, .cons r t, h => by
    obtain ⟨y, e, q⟩ := Reps.get (i := i) (x := x) t (by simpa using h)
    exact ⟨y, by simpa using e, q⟩
theorem Reps.get' : ∀ {v : List V} {d : List Dt} {i : Nat} {y : V}, Reps G w H v d → v[i]? = some y → ∃ x, d[i]? = some x ∧ Rep G w H y x
  | _, _, _, _, .nil, h => by simp at h
  | _, _, 0, _, .cons r t, h => by simp at h; subst h; exact ⟨_, rfl, r⟩
  | _, _, i + 1, x, .cons r t, h => by
    obtain ⟨y, e, q⟩ := Reps.get' (i := i) (y := x) t (by simpa using h)
    exact ⟨y, by simpa using e, q⟩
theorem Reps.append : ∀ {v v' : List V} {d d' : List Dt}, Reps G w H v d → Reps G w H v' d' → Reps G w H (v ++ v') (d ++ d')
  | _, _, _, _, .nil, q => q
  | _, _, _, _, .cons r t, q => .cons r (Reps.append t q)
theorem Reps.take : ∀ {v : List V} {d : List Dt} (n : Nat), Reps G w H v d → Reps G w H (v.take n) (d.take n)
  | _, _, 0, _ => by simp; exact .nil
  | _, _, _ + 1, .nil => .nil
  | _, _, n + 1, .cons r t => .cons r (Reps.take n t)
theorem Reps.drop : ∀ {v : List V} {d : List Dt} (n : Nat), Reps G w H v d → Reps G w H (v.drop n) (d.drop n)
  | _, _, 0, q => q
  | _, _, _ + 1, .nil => .nil
  | _, _, n + 1, .cons r t => Reps.drop n t
theorem Reps.set {x : V} {u : Dt} (r : Rep G w H x u) : ∀ {v : List V} {d : List Dt} (n : Nat), Reps G w H v d → Reps G w H (v.set n x) (d.set n u)
  | _, _, _, .nil => .nil
  | _, _, 0, .cons _ t => .cons r t
  | _, _, n + 1, .cons q t => .cons q (Reps.set r n t)
end
end TK

/-! Tk2: the small interpreter. -/
namespace TK
open PySem PySem.Spec PyProof.Rows L2

structure Ex where
  c : Nat
  fs : List (Nat × Dt)
inductive Rs (α : Type) where
  | ok (a : α) (s : Sto)
  | exc (e : Ex) (s : Sto)
  | bad
def Rs.bind {α β : Type} (r : Rs α) (f : α → Sto → Rs β) : Rs β := match r with
  | .ok a s => f a s
  | .exc e s => .exc e s
  | .bad => .bad
@[simp] theorem Rs.bind_ok {α β : Type} (a : α) (s : Sto) (f : α → Sto → Rs β) : (Rs.ok a s).bind f = f a s := rfl
@[simp] theorem Rs.bind_exc {α β : Type} (e : Ex) (s : Sto) (f : α → Sto → Rs β) : (Rs.exc e s).bind f = .exc e s := rfl
@[simp] theorem Rs.bind_bad {α β : Type} (f : α → Sto → Rs β) : (Rs.bad : Rs α).bind f = .bad := rfl

abbrev Ev := List (Option Dt)
/-- what a call of the f-th def with its parameters' values does -/
abbrev Cal := Nat → List Dt → Sto → Rs Dt

/-- built-in functions -/
inductive Bf where
  | len | list | tuple | int | str | repr | isinst | min2 | max2 | all | any | abs
  deriving DecidableEq
/-- methods of built-in types -/
inductive Mf where
  | join
  deriving DecidableEq

inductive Tg where
  | name (i : Nat)
  | tup (ts : List Tg)

mutual
inductive CE where
  | var (i : Nat)
  | non | bl (b : Bool) | int (i : Int) | str (x : Str)
  | glb (k : Nat)
  | bty (n : String)
  | bin (o : Operator) (a b : CE)
  | neg (a : CE)
  | cmp (o : CmpOp) (a b : CE)
  | chain (o o' : CmpOp) (a b c : CE)
  | and (es : List CE) | or (es : List CE) | not (a : CE)
  | ite (c : CT) (a b : CE)
  | fn (f sh : Nat) (args : List CE) (kws : List CE)
  | bfn (f : Bf) (args : List CE)
  | meth (m : Mf) (o : CE) (args : List CE)
  | ix (a i : CE)
  | slc (a : CE) (lo hi : Option CE)
  | tup (es : List CE)
  | lst (cell : Bool) (es : List CE)
  | comp (cell : Bool) (t : Tg) (own : List Nat) (it : IT) (cond : Option CT) (e : CE)
inductive CT where
  | and (ts : List CT) | or (ts : List CT) | not (t : CT)
  | cmp (o : CmpOp) (a b : CE)
  | chain (o o' : CmpOp) (a b c : CE)
  | val (e : CE)
inductive IT where
  | plain (e : CE)
  | range1 (e : CE)
  | range2 (a b : CE)
end

inductive CS where
  | set (i : Nat) (e : CE)
  | setc (i : Nat) (e : CE)
  | par (i j : Nat) (a b : CE)
  | asg (t : Tg) (e : CE)
  | seti (o i e : CE)
  | expr (e : CE)
  | ret (e : CE)
  | ifs (c : CT) (a b : List CS)
  | for_ (t : Tg) (it : IT) (body : List CS)
  | pass

/-! ### operations on data -/
mutual
def py0 : Dt → Option PyData
  | .non => some .none
  | .bl b => some (.bool b)
  | .int i => some (.int i)
  | .str x => some (.str x)
  | .lst xs => (py0s xs).map .list
  | .tup xs => (py0s xs).map .tuple
  | _ => none
def py0s : List Dt → Option (List PyData)
  | [] => some []
  | x :: xs => match py0 x, py0s xs with
    | some p, some ps => some (p :: ps)
    | _, _ => none
end
/-- a list's items as it stands -/
def lsv (s : Sto) : Dt → Option (List Dt)
  | .lst xs => some xs
  | .cell n => match s[n]? with
    | some (.lst xs) => some xs
    | _ => none
  | _ => none
def pyv (s : Sto) : Dt → Option PyData
  | .cell n => match s[n]? with
    | some (.lst xs) => (py0s xs).map .list
    | _ => none
  | d => py0 d
def eqD (s : Sto) (x y : Dt) : Option Bool := match x, y with
  | .str a, .str b => some (a == b)
  | x, y => match pyv s x, pyv s y with
    | some p, some q => if SeqAt.shaped p = true ∧ SeqAt.shaped q = true then some (PyData.eqv p q) else none
    | _, _ => none
def inD (s : Sto) (x y : Dt) : Option Bool := match pyv s x, pyv s y with
  | some p, some (.list qs) => if SeqAt.shaped p = true ∧ SeqAt.shaped (.list qs) = true then some (qs.any fun z => PyData.eqv z p) else none
  | some p, some (.tuple qs) => match x, qs.all (fun q => match q with | .str _ => true | _ => false) with
    | .str a, true => some (qs.any fun z => PyData.eqv z (.str a))
    | _, _ => none
  | some (.str a), some (.str b) => if a.length = 1 then some (decide (a.cps.toList.getD 0 0 ∈ b.cps.toList)) else none
  | _, _ => none
def ofO {α : Type} (s : Sto) (o : Option α) : Rs α := match o with
  | some a => .ok a s
  | none => .bad
def binop (o : Operator) (x y : Dt) (s : Sto) : Rs Dt := match o, x, y with
  | .Add, .int i, .int j => .ok (.int (i + j)) s
  | .Add, .str a, .str b => if a.length + b.length ≤ sizeLine then .ok (.str (a ++ b)) s else .bad
  | .Add, .tup xs, .tup ys => if xs.length + ys.length ≤ sizeLine then .ok (.tup (xs ++ ys)) s else .bad
  | .Add, x, y => match lsv s x, lsv s y with
    | some xs, some ys => if xs.length + ys.length ≤ sizeLine then .ok (.lst (xs ++ ys)) s else .bad
    | _, _ => .bad
  | .Sub, .int i, .int j => .ok (.int (i - j)) s
  | .Mult, .int i, .int j => if i.natAbs < 2 ^ 64 ∨ j.natAbs < 2 ^ 64 then .ok (.int (i * j)) s else .bad
  | .Mult, .str a, .int j => if 0 ≤ j ∧ j ≤ 1000 ∧ a.length ≤ 1000 then .ok (.str (Txt.mul a j)) s else .bad
  | .FloorDiv, .int i, .int j => if 0 < j ∧ j.natAbs < 2 ^ 200 then .ok (.int (i / j)) s else .bad
  | .Mod, .int i, .int j => if 0 < j then .ok (.int (i % j)) s else .bad
  | .Pow, .int i, .int j => if 0 ≤ j ∧ j ≤ 1000 ∧ i.natAbs < 2 ^ 64 then .ok (.int (i ^ j.toNat)) s else .bad
  | _, _, _ => .bad
def isNon : Dt → Bool
  | .non => true
  | _ => false
def cmpop (o : CmpOp) (x y : Dt) (s : Sto) : Rs Dt := match o with
  | .Eq => ofO s ((eqD s x y).map .bl)
  | .NotEq => ofO s ((eqD s x y).map fun b => .bl (!b))
  | .Is => match y with
    | .non => .ok (.bl (isNon x)) s
    | _ => .bad
  | .IsNot => match y with
    | .non => .ok (.bl (!isNon x)) s
    | _ => .bad
  | .In => ofO s ((inD s x y).map .bl)
  | .NotIn => ofO s ((inD s x y).map fun b => .bl (!b))
  | .Lt => match x, y with
    | .int i, .int j => .ok (.bl (decide (i < j))) s
    | _, _ => .bad
  | .LtE => match x, y with
    | .int i, .int j => .ok (.bl (decide (i ≤ j))) s
    | _, _ => .bad
  | .Gt => match x, y with
    | .int i, .int j => .ok (.bl (decide (j < i))) s
    | _, _ => .bad
  | .GtE => match x, y with
    | .int i, .int j => .ok (.bl (decide (j ≤ i))) s
    | _, _ => .bad
def truth (s : Sto) : Dt → Option Bool
  | .non => some false
  | .bl b => some b
  | .int i => some (i != 0)
  | .str x => if x.length ≤ sizeLine then some ((x.length : Int) != 0) else none
  | .tup xs => some (!xs.isEmpty)
  | d => (lsv s d).map fun xs => !xs.isEmpty
/-- the name of a value's built-in type -/
def tyOf (s : Sto) : Dt → Option String
  | .non => some "NoneType"
  | .bl _ => some "bool"
  | .int _ => some "int"
  | .str _ => some "str"
  | .lst _ => some "list"
  | .tup _ => some "tuple"
  | .dic _ => some "dict"
  | .cell n => match s[n]? with
    | some (.lst _) => some "list"
    | some (.dic _) => some "dict"
    | _ => none
  | _ => none
def isT (a b : String) : Option Bool :=
  if a ∈ ["NoneType", "bool", "int", "str", "list", "tuple", "dict"] ∧ b ∈ ["bool", "int", "str", "list", "tuple", "dict"] then some (decide (a = b ∨ (a = "bool" ∧ b = "int"))) else none
def seqv (s : Sto) : Dt → Option (List Dt)
  | .tup xs => some xs
  | d => lsv s d
def bools : List Dt → Option (List Bool)
  | [] => some []
  | .bl b :: r => (bools r).map (b :: ·)
  | _ => none
def strsD : List Dt → Option (List Str)
  | [] => some []
  | .str b :: r => (strsD r).map (b :: ·)
  | _ => none
def bfd (f : Bf) (ds : List Dt) (s : Sto) : Rs Dt := match f, ds with
  | .len, [.str x] => if x.length ≤ sizeLine then .ok (.int x.length) s else .bad
  | .len, [d] => ofO s ((seqv s d).map fun xs => .int xs.length)
  | .list, [d] => ofO s ((seqv s d).map .lst)
  | .tuple, [.tup xs] => .ok (.tup xs) s
  | .tuple, [d] => ofO s ((lsv s d).map .tup)
  | .int, [.int i] => .ok (.int i) s
  | .str, [.int i] => if i.natAbs.log2 < 1920 then .ok (.str (toString i)) s else .bad
  | .str, [.str x] => .ok (.str x) s
  | .repr, [d] => match pyv s d with
    | some p => if p.showable = true ∧ p.hasDict = false ∧ p.shown.length ≤ sizeLine ∧ p.depth ≤ 64 then .ok (.str p.shown) s else .bad
    | none => .bad
  | .isinst, [d, .ty n] => match tyOf s d with
    | some t => ofO s ((isT t n).map .bl)
    | none => .bad
  | .min2, [.int i, .int j] => .ok (.int (if j < i then j else i)) s
  | .max2, [.int i, .int j] => .ok (.int (if j > i then j else i)) s
  | .all, [d] => match (lsv s d).bind bools with
    | some bs => .ok (.bl (bs.all id)) s
    | none => .bad
  | .any, [d] => match (lsv s d).bind bools with
    | some bs => .ok (.bl (bs.any id)) s
    | none => .bad
  | _, _ => .bad
/-- the receiver's kind -/
def mrec (m : Mf) (o : Dt) (s : Sto) : Bool := match m, o with
  | .join, .str _ => true
  | _, _ => false
def mef (m : Mf) (o : Dt) (ds : List Dt) (s : Sto) : Rs Dt := match m, o, ds with
  | .join, .str a, [d] => match (lsv s d).bind strsD with
    | some ys => if (ys.map (·.length)).sum + ys.length * a.length ≤ 16777216 then .ok (.str (Txt.join a ys)) s else .bad
    | none => .bad
  | _, _, _ => .bad
def ixd (x i : Dt) (s : Sto) : Rs Dt := match x, i with
  | .str z, .int k => if z.length ≤ sizeLine then ofO s ((atI z.cps.toList k).map fun c => .str ⟨#[c]⟩) else .bad
  | x, .int k => match seqv s x with
    | some xs => ofO s (atI xs k)
    | none => .bad
  | _, _ => .bad
def cutD (xs : List Dt) (lo hi : Option Int) : List Dt := (xs.drop (HT.sIx xs.length 0 lo)).take (HT.sIx xs.length xs.length hi - HT.sIx xs.length 0 lo)
def slcd (x : Dt) (lo hi : Option Int) (s : Sto) : Rs Dt := match x with
  | .str z => if z.length ≤ sizeLine then .ok (.str (cutS z lo hi)) s else .bad
  | .tup xs => .ok (.tup (cutD xs lo hi)) s
  | .scr xs => .ok (.lst (cutD xs lo hi)) s
  | d => ofO s ((lsv s d).map fun xs => .lst (cutD xs lo hi))
def optI : Dt → Option Int
  | .int i => some i
  | _ => none
/-- a new list: a cell, or frozen at once -/
def mkl (c : Bool) (ds : List Dt) (s : Sto) : Rs Dt :=
  if ds.length ≤ sizeLine then (if c then .ok (.cell s.length) (s ++ [.lst ds]) else .ok (.lst ds) s) else .bad
/-- what is walked: its items -/
def itemsD (s : Sto) : Dt → Option (List Dt)
  | .lst xs => some xs
  | .tup xs => some xs
  | .str x => some (x.cps.toList.map fun c => .str ⟨#[c]⟩)
  | _ => none
def ranged (a b : Int) : List Dt := (List.range (b - a).toNat).map fun k => .int (a + (k : Nat))
def smallI (a : Int) : Bool := decide (-(2 ^ 62) ≤ a ∧ a < 2 ^ 62)

/-! a target takes a value -/
mutual
def bindT : Tg → Dt → Ev → Option Ev
  | .name i, d, ρ => if i < ρ.length then some (ρ.set i (some d)) else none
  | .tup ts, .tup ds, ρ => bindTs ts ds ρ
  | .tup _, _, _ => none
def bindTs : List Tg → List Dt → Ev → Option Ev
  | [], [], ρ => some ρ
  | t :: ts, d :: ds, ρ => match bindT t d ρ with
    | some ρ' => bindTs ts ds ρ'
    | none => none
  | _, _, _ => none
end
mutual
def slotsT : Tg → List Nat
  | .name i => [i]
  | .tup ts => slotsTs ts
def slotsTs : List Tg → List Nat
  | [] => []
  | t :: ts => slotsT t ++ slotsTs ts
end
def wipeE (ρ : Ev) : List Nat → Ev
  | [] => ρ
  | v :: vs => (wipeE ρ vs).set v none

/-- the turns of a comprehension -/
def compL (t : Tg) (ρ : Ev) (c : Ev → Sto → Rs Bool) (e : Ev → Sto → Rs Dt) : List Dt → List Dt → Sto → Rs (List Dt)
  | [], acc, s => .ok acc s
  | d :: ds, acc, s => match bindT t d ρ with
    | none => .bad
    | some ρ' => (c ρ' s).bind fun b s1 => if b then (e ρ' s1).bind fun y s2 => if acc.length < sizeLine then compL t ρ c e ds (acc ++ [y]) s2 else .bad else compL t ρ c e ds acc s1

/-! ### how parameters come -/
inductive Src where
  | arg (i : Nat) | kw (i : Nat) | dfl (i : Nat)
def pick {α : Type} (us ws ds : List α) : Src → Option α
  | .arg i => us[i]?
  | .kw i => ws[i]?
  | .dfl i => ds[i]?
def order {α : Type} (us ws ds : List α) : List Src → List α
  | [] => []
  | s :: r => match pick us ws ds s with
    | some a => a :: order us ws ds r
    | none => order us ws ds r

/-- a call's form: the def, how many positional values, the keywords' names, whence each parameter comes -/
structure Sh where
  n : Nat
  ks : List Str
  o : List Src
/-- a def: its names (the parameters first), their number, its body, its defaults -/
structure Fi where
  N : List Str
  np : Nat
  body : List CS
  dfl : List Dt
  shs : List Sh
/-- what the layer knows of a text -/
structure Pg where
  gn : List Str
  gv : List Dt
  bn : List Str
  fn : List Str
  fs : List Fi
def asB (d : Dt) (s : Sto) : Rs Bool := match d with
  | .bl b => .ok b s
  | _ => .bad
def noexc {α : Type} (r : Rs α) : Rs α := match r with
  | .exc _ _ => .bad
  | r => r

section
variable (P : Pg) (C : Cal)
mutual
def ev : CE → Ev → Sto → Rs Dt
  | .var i, ρ, s => match ρ[i]? with
    | some (some d) => .ok d s
    | _ => .bad
  | .non, _, s => .ok .non s
  | .bl b, _, s => .ok (.bl b) s
  | .int i, _, s => .ok (.int i) s
  | .str x, _, s => .ok (.str x) s
  | .glb k, _, s => ofO s P.gv[k]?
  | .bty n, _, s => .ok (.ty n) s
  | .bin o a b, ρ, s => (ev a ρ s).bind fun x s1 => (ev b ρ s1).bind fun y s2 => binop o x y s2
  | .neg a, ρ, s => (ev a ρ s).bind fun x s1 => match x with
    | .int i => .ok (.int (-i)) s1
    | _ => .bad
  | .cmp o a b, ρ, s => (ev a ρ s).bind fun x s1 => (ev b ρ s1).bind fun y s2 => cmpop o x y s2
  | .chain o o' a b c, ρ, s => (ev a ρ s).bind fun x s1 => (ev b ρ s1).bind fun y s2 => (cmpop o x y s2).bind fun z s3 => match z with
    | .bl true => (ev c ρ s3).bind fun w s4 => cmpop o' y w s4
    | .bl false => .ok (.bl false) s3
    | _ => .bad
  | .and es, ρ, s => evAnd es ρ s
  | .or es, ρ, s => evOr es ρ s
  | .not a, ρ, s => (ev a ρ s).bind fun x s1 => match x with
    | .bl b => .ok (.bl !b) s1
    | _ => .bad
  | .ite c a b, ρ, s => (evT c ρ s).bind fun t s1 => if t then ev a ρ s1 else ev b ρ s1
  | .fn f q es kws, ρ, s => (evs es ρ s).bind fun ds s1 => (evs kws ρ s1).bind fun ws s2 => match P.fs[f]? with
    | some fi => (match fi.shs[q]? with
      | some h => if ds.length = h.n ∧ ws.length = h.ks.length then C f (order ds ws fi.dfl h.o) s2 else .bad
      | none => .bad)
    | none => .bad
  | .bfn f es, ρ, s => (evs es ρ s).bind fun ds s1 => bfd f ds s1
  | .meth m o es, ρ, s => (ev o ρ s).bind fun x s1 => if mrec m x s1 = true then (evs es ρ s1).bind fun ds s2 => mef m x ds s2 else .bad
  | .ix a i, ρ, s => (ev a ρ s).bind fun x s1 => (ev i ρ s1).bind fun y s2 => ixd x y s2
  | .slc a lo hi, ρ, s => (ev a ρ s).bind fun x s1 => (evO lo ρ s1).bind fun l s2 => (evO hi ρ s2).bind fun h s3 => slcd x l h s3
  | .tup es, ρ, s => (evs es ρ s).bind fun ds s1 => if ds.length ≤ sizeLine then .ok (.tup ds) s1 else .bad
  | .lst c es, ρ, s => (evs es ρ s).bind fun ds s1 => mkl c ds s1
  | .comp c t own it cond e, ρ, s => (evI it ρ s).bind fun ds s1 =>
      (noexc (compL t (wipeE ρ own) (fun ρ' s' => evC cond ρ' s') (fun ρ' s' => ev e ρ' s') ds [] s1)).bind fun ys s2 => mkl c ys s2
def evAnd : List CE → Ev → Sto → Rs Dt
  | [], _, _ => .bad
  | [e], ρ, s => ev e ρ s
  | e :: f :: es, ρ, s => (ev e ρ s).bind fun x s1 => match x with
    | .bl true => evAnd (f :: es) ρ s1
    | .bl false => .ok (.bl false) s1
    | _ => .bad
def evOr : List CE → Ev → Sto → Rs Dt
  | [], _, _ => .bad
  | [e], ρ, s => ev e ρ s
  | e :: f :: es, ρ, s => (ev e ρ s).bind fun x s1 => match x with
    | .bl true => .ok (.bl true) s1
    | .bl false => evOr (f :: es) ρ s1
    | _ => .bad
def evC : Option CT → Ev → Sto → Rs Bool
  | none, _, s => .ok true s
  | some e, ρ, s => evT e ρ s
def evTA : List CT → Ev → Sto → Rs Bool
  | [], _, s => .ok true s
  | e :: es, ρ, s => (evT e ρ s).bind fun x s1 => if x then evTA es ρ s1 else .ok false s1
def evTO : List CT → Ev → Sto → Rs Bool
  | [], _, s => .ok false s
  | e :: es, ρ, s => (evT e ρ s).bind fun x s1 => if x then .ok true s1 else evTO es ρ s1
/-- a test -/
def evT : CT → Ev → Sto → Rs Bool
  | .and es, ρ, s => evTA es ρ s
  | .or es, ρ, s => evTO es ρ s
  | .not a, ρ, s => (evT a ρ s).bind fun x s1 => .ok (!x) s1
  | .cmp o a b, ρ, s => (ev a ρ s).bind fun x s1 => (ev b ρ s1).bind fun y s2 => (cmpop o x y s2).bind asB
  | .chain o o' a b c, ρ, s => (ev a ρ s).bind fun x s1 => (ev b ρ s1).bind fun y s2 => (cmpop o x y s2).bind fun z s3 => match z with
    | .bl true => (ev c ρ s3).bind fun w s4 => (cmpop o' y w s4).bind asB
    | .bl false => .ok false s3
    | _ => .bad
  | .val e, ρ, s => (ev e ρ s).bind fun x s1 => ofO s1 (truth s1 x)
def evO : Option CE → Ev → Sto → Rs (Option Int)
  | none, _, s => .ok none s
  | some e, ρ, s => (ev e ρ s).bind fun x s1 => match x with
    | .int i => .ok (some i) s1
    | _ => .bad
def evs : List CE → Ev → Sto → Rs (List Dt)
  | [], _, s => .ok [] s
  | e :: es, ρ, s => (ev e ρ s).bind fun x s1 => (evs es ρ s1).bind fun xs s2 => .ok (x :: xs) s2
def evI : IT → Ev → Sto → Rs (List Dt)
  | .plain e, ρ, s => (ev e ρ s).bind fun x s1 => ofO s1 (itemsD s1 x)
  | .range1 e, ρ, s => (ev e ρ s).bind fun x s1 => match x with
    | .int b => if smallI b then .ok (ranged 0 b) s1 else .bad
    | _ => .bad
  | .range2 a b, ρ, s => (ev a ρ s).bind fun x s1 => (ev b ρ s1).bind fun y s2 => match x, y with
    | .int i, .int j => if smallI i && smallI j then .ok (ranged i j) s2 else .bad
    | _, _ => .bad
end

inductive Fl where
  | nx (ρ : Ev) | rt (d : Dt) | bk (ρ : Ev) | ct (ρ : Ev)

def loopF (body : Ev → Sto → Rs Fl) (t : Tg) : List Dt → Ev → Sto → Rs Fl
  | [], ρ, s => .ok (.nx ρ) s
  | d :: ds, ρ, s => match bindT t d ρ with
    | none => .bad
    | some ρ' => (body ρ' s).bind fun f s1 => match f with
      | .nx ρ2 => loopF body t ds ρ2 s1
      | .ct ρ2 => loopF body t ds ρ2 s1
      | .bk ρ2 => .ok (.nx ρ2) s1
      | .rt d => .ok (.rt d) s1
def setC (o i v : Dt) (s : Sto) : Rs Unit := match o, i with
  | .cell n, .int k => match s[n]? with
    | some (.lst xs) => match ixN xs.length k with
      | some j => .ok () (s.set n (.lst (xs.set j v)))
      | none => .bad
    | _ => .bad
  | _, _ => .bad
def setN (i : Nat) (d : Dt) (ρ : Ev) (s : Sto) : Rs Fl := if i < ρ.length then .ok (.nx (ρ.set i (some d))) s else .bad
mutual
def ex : CS → Ev → Sto → Rs Fl
  | .set i e, ρ, s => (ev P C e ρ s).bind fun d s1 => setN i d ρ s1
  | .setc i e, ρ, s => (ev P C e ρ s).bind fun d s1 => setN i d ρ s1
  | .par i j a b, ρ, s => (ev P C a ρ s).bind fun x s1 => (ev P C b ρ s1).bind fun y s2 => if i < ρ.length ∧ j < ρ.length then .ok (.nx ((ρ.set i (some x)).set j (some y))) s2 else .bad
  | .asg t e, ρ, s => (ev P C e ρ s).bind fun d s1 => match bindT t d ρ with
    | some ρ' => .ok (.nx ρ') s1
    | none => .bad
  | .seti o i e, ρ, s => (ev P C e ρ s).bind fun v s1 => (ev P C o ρ s1).bind fun x s2 => (ev P C i ρ s2).bind fun k s3 => (setC x k v s3).bind fun _ s4 => .ok (.nx ρ) s4
  | .expr e, ρ, s => (ev P C e ρ s).bind fun _ s1 => .ok (.nx ρ) s1
  | .ret e, ρ, s => (ev P C e ρ s).bind fun d s1 => .ok (.rt d) s1
  | .ifs c a b, ρ, s => (evT P C c ρ s).bind fun t s1 => if t then exs a ρ s1 else exs b ρ s1
  | .for_ t it body, ρ, s => (evI P C it ρ s).bind fun ds s1 => loopF (fun ρ' s' => exs body ρ' s') t ds ρ s1
  | .pass, ρ, s => .ok (.nx ρ) s
def exs : List CS → Ev → Sto → Rs Fl
  | [], ρ, s => .ok (.nx ρ) s
  | c :: cs, ρ, s => (ex c ρ s).bind fun f s1 => match f with
    | .nx ρ2 => exs cs ρ2 s1
    | f => .ok f s1
end
end

def start0 (n : Nat) (ds : List Dt) : Ev := ds.map some ++ List.replicate (n - ds.length) none
/-- calls, to a depth -/
def calls (P : Pg) : Nat → Cal
  | 0 => fun _ _ _ => .bad
  | k + 1 => fun f ds s => match P.fs[f]? with
    | none => .bad
    | some d => if ds.length = d.np then
        (exs P (calls P k) d.body (start0 d.N.length ds) s).bind fun fl s1 => match fl with
          | .nx _ => .ok .non s1
          | .rt v => .ok v s1
          | _ => .bad
      else .bad
end TK

/-! Tk3: what a run of the small interpreter says of the model's run; operations. -/
namespace TK
open PySem PySem.Spec L2

/-- an exception as it flies: its class, its own dict -/
def ExRep (G : Tb) (w : Wd) (H : Hp) (e : Ex) (c : Value) (d : Option Addr) : Prop :=
  c = .ref (G.cl e.c) ∧ ∃ dx fs, d = some dx ∧ H dx = some (.xd fs) ∧ ¬ w.mu dx ∧ RepFs G w H fs e.fs

/-- what is wanted of every place where the result may lie -/
def Po {α : Type} (G : Tb) (r : Rs α) (w : Wd) (H : Hp) (K : α → Wd → Hp → Prop) (W : XK) : Prop := match r with
  | .ok a S' => ∀ w' H', w'.S = S' → Ext w H w' H' → Lies G w' H' → K a w' H'
  | .exc e S' => ∀ w' H' c d, w'.S = S' → Ext w H w' H' → Lies G w' H' → ExRep G w' H' e c d → W c d H'
  | .bad => False

section
variable {G : Tb} {w : Wd} {H : Hp} {α β : Type} {K : α → Wd → Hp → Prop} {K' : β → Wd → Hp → Prop} {W : XK}
theorem Po.ok {a : α} {S : Sto} (h : Po G (.ok a S) w H K W) (e : w.S = S) (L : Lies G w H) : K a w H := h w H e (Ext.refl _ _) L
theorem Po.ok' {a : α} {S : Sto} (h : Po G (.ok a S) w H K W) {w' : Wd} {H' : Hp} (e : w'.S = S) (x : Ext w H w' H') (L : Lies G w' H') : K a w' H' := h w' H' e x L
theorem Po.bind {r : Rs β} {f : β → Sto → Rs α} (h : Po G (r.bind f) w H K W) : Po G r w H (fun a w' H' => Po G (f a w'.S) w' H' K W) W := by
  cases r with
  | ok a S =>
    intro w1 H1 e x L
    subst e
    have h' : Po G (f a w1.S) w H K W := h
    show Po G (f a w1.S) w1 H1 K W
    cases q : f a w1.S with
    | ok b S' =>
      rw [q] at h'
      exact fun w2 H2 e2 x2 L2 => h' w2 H2 e2 (x.trans x2) L2
    | exc ex S' =>
      rw [q] at h'
      exact fun w2 H2 c d e2 x2 L2 r2 => h' w2 H2 c d e2 (x.trans x2) L2 r2
    | bad =>
      rw [q] at h'
      exact h'
  | exc ex S => exact h
  | bad => exact h
theorem Po.imp {r : Rs α} {K2 : α → Wd → Hp → Prop} (h : Po G r w H K W) (hk : ∀ a w' H', Ext w H w' H' → Lies G w' H' → K a w' H' → K2 a w' H') : Po G r w H K2 W := by
  cases r with
  | ok a S => exact fun w' H' e x L => hk a w' H' x L (h w' H' e x L)
  | exc e S => exact h
  | bad => exact h
theorem Po.ofO {o : Option α} (h : Po G (ofO w.S o) w H K W) (L : Lies G w H) : ∃ a, o = some a ∧ K a w H := by
  cases o with
  | none => exact (show False from h).elim
  | some a => exact ⟨a, rfl, Po.ok h rfl L⟩
end

/-- the names' values -/
def EvR (G : Tb) (w : Wd) (H : Hp) (σ : St) (ρ : Ev) : Prop :=
  σ.length = ρ.length ∧ ∀ (i : Nat) (d : Dt), ρ[i]? = some (some d) → ∃ v, σ[i]? = some (some v) ∧ Rep G w H v d
theorem EvR.ext {G : Tb} {w w' : Wd} {H H' : Hp} {σ : St} {ρ : Ev} (h : EvR G w H σ ρ) (x : Ext w H w' H') : EvR G w' H' σ ρ :=
  ⟨h.1, fun i d e => let ⟨v, e1, r⟩ := h.2 i d e; ⟨v, e1, r.ext x⟩⟩
theorem EvR.set {G : Tb} {w : Wd} {H : Hp} {σ : St} {ρ : Ev} (h : EvR G w H σ ρ) (i : Nat) {v : V} {d : Dt} (r : Rep G w H v d) : EvR G w H (σ.set i (some v)) (ρ.set i (some d)) := by
  refine ⟨by rw [List.length_set, List.length_set]; exact h.1, fun j d' e => ?_⟩
  by_cases hj : i = j
  · subst hj
    by_cases hl : i < ρ.length
    · rw [List.getElem?_set_self hl] at e
      cases e
      exact ⟨v, by rw [List.getElem?_set_self (by rw [h.1]; exact hl)], r⟩
    · rw [List.getElem?_eq_none (by simpa using hl)] at e; cases e
  · rw [List.getElem?_set_ne hj] at e
    obtain ⟨v', e1, r1⟩ := h.2 j d' e
    exact ⟨v', by rw [List.getElem?_set_ne hj]; exact e1, r1⟩

abbrev Xw := Value → Option Addr → Hp → Prop
/-- an expression's reading by what the interpreter does -/
def tE (G : Tb) (W : XK) (m : Ev → Sto → Rs Dt) : TE := fun σ H Q => ∃ ρ w, EvR G w H σ ρ ∧ Lies G w H ∧ Po G (m ρ w.S) w H (fun d w' H' => ∀ v, Rep G w' H' v d → Q v H') W
def tT (G : Tb) (W : XK) (m : Ev → Sto → Rs Bool) : TT := fun σ H Q => ∃ ρ w, EvR G w H σ ρ ∧ Lies G w H ∧ Po G (m ρ w.S) w H (fun b _ H' => Q b H') W
def tA (G : Tb) (W : XK) (m : Ev → Sto → Rs (List Dt)) : TA := fun σ H Q => ∃ ρ w, EvR G w H σ ρ ∧ Lies G w H ∧ Po G (m ρ w.S) w H (fun ds w' H' => ∀ vs, Reps G w' H' vs ds → Q vs H') W
theorem tE.mk {G : Tb} {W : XK} {m : Ev → Sto → Rs Dt} {σ : St} {H : Hp} {Q : VK} {ρ : Ev} {w : Wd} (he : EvR G w H σ ρ) (L : Lies G w H)
    (h : Po G (m ρ w.S) w H (fun d w' H' => EvR G w' H' σ ρ → Lies G w' H' → Ext w H w' H' → ∀ v, Rep G w' H' v d → Q v H') W) : tE G W m σ H Q :=
  ⟨ρ, w, he, L, h.imp fun d w' H' x L' q => q (he.ext x) L' x⟩

theorem PE.imp {X : Cx} {e : Expr} {t t' : TE} (h : PE X e t) (k : ∀ σ H Q, t' σ H Q → t σ H Q) : PE X e t' := ⟨fun pins s σ H Q I q => h.run pins s σ H Q I (k σ H Q q)⟩
theorem PT.imp {X : Cx} {e : Expr} {t t' : TT} (h : PT X e t) (k : ∀ σ H Q, t' σ H Q → t σ H Q) : PT X e t' := ⟨fun pins s σ H Q I q => h.run pins s σ H Q I (k σ H Q q)⟩
theorem PA.imp {X : Cx} {e : List Expr} {t t' : TA} (h : PA X e t) (k : ∀ σ H Q, t' σ H Q → t σ H Q) : PA X e t' := ⟨fun pos pins s σ H Q I q => h.run pos pins s σ H Q I (k σ H Q q)⟩
theorem PS.imp {X : Cx} {e : Stmt} {t t' : TS} (h : PS X e t) (k : ∀ D σ H, t' D σ H → t D σ H) : PS X e t' := ⟨fun pins s σ H D I q => h.run pins s σ H D I (k D σ H q)⟩
theorem PSs.imp {X : Cx} {e : List Stmt} {t t' : TS} (h : PSs X e t) (k : ∀ D σ H, t' D σ H → t D σ H) : PSs X e t' := ⟨fun pins s σ H D I q => h.run pins s σ H D I (k D σ H q)⟩

/-! ### new objects -/
section
variable {G : Tb} {w : Wd} {H : Hp} {p : Addr}
theorem Lies.fresh (L : Lies G w H) (hp : H p = none) : p ∉ w.B := fun h => L.there p h hp
theorem not_mu_of (L : Lies G w H) (hp : H p = none) : ¬ w.mu p := fun z => by
  rcases z with z | ⟨n, o, e, _⟩
  · exact (L.hthere p z).1 hp
  · exact L.fresh hp (List.mem_of_getElem? e)
theorem ext_new (L : Lies G w H) (hp : H p = none) (o : HO) : Ext w H w (upd H p o) where
  pre := List.prefix_refl _
  keep := fun a u m e => ⟨u, by rw [upd_ne (ne_of_none e hp)]; exact e, fun z r => by
    have ne : a ≠ p := ne_of_none e hp
    rcases r with r | ⟨ob, r⟩
    · exact .inl (by rw [upd_ne ne]; exact r)
    · exact .inr ⟨ob, by rw [upd_ne ne]; exact r⟩, fun _ _ _ _ => rfl, fun _ _ => rfl⟩
  new := fun a z => .inl z
  stay := fun a h => by
    unfold upd
    split
    · exact fun z => nomatch z
    · exact h
  fresh := fun a z => .inl z
  hid := fun _ h => h
  hk := fun a h => upd_ne (fun z => (L.hthere a h).1 (z ▸ hp))
theorem ObAt.keep0 {G : Tb} {w w' : Wd} {H H' : Hp} {a : Addr} {o : Ob} (x : Ext0 w H w' H') (h : ObAt G w H a o) (e : H' a = H a) : ObAt G w' H' a o := by
  cases o with
  | dead => exact True.intro
  | lst ds => obtain ⟨xs, e1, r⟩ := h; exact ⟨xs, e.trans e1, r.ext0 x⟩
  | dic kds => obtain ⟨xs, e1, r⟩ := h; exact ⟨xs, e.trans e1, r.ext0 x⟩
  | ins c ds => obtain ⟨dx, fs, e1, r⟩ := h; exact ⟨dx, fs, e.trans e1, r.ext0 x⟩
theorem ObAt.keep {G : Tb} {w w' : Wd} {H H' : Hp} {a : Addr} {o : Ob} (x : Ext w H w' H') (h : ObAt G w H a o) (e : H' a = H a) : ObAt G w' H' a o := ObAt.keep0 x.toExt0 h e
theorem lies_new (L : Lies G w H) (hp : H p = none) (o : HO) : Lies G w (upd H p o) where
  len := L.len
  nd := L.nd
  at_ := fun n a ob e1 e2 => by
    have ne : a ≠ p := fun z => L.fresh hp (z ▸ List.mem_of_getElem? e1)
    exact ObAt.keep (ext_new L hp o) (L.at_ n a ob e1 e2) (upd_ne ne)
  there := fun a h => (ext_new L hp o).stay a (L.there a h)
  hthere := fun a h => ⟨(ext_new L hp o).stay a (L.hthere a h).1, (L.hthere a h).2⟩
theorem rep_lst (L : Lies G w H) (hp : H p = none) {xs : List V} {ds : List Dt} (r : Reps G w H xs ds) : Rep G w (upd H p (.lst xs)) (.ref p) (.lst ds) :=
  .lst ⟨upd_same, not_mu_of L hp⟩ (r.ext (ext_new L hp _))
theorem rep_tup (L : Lies G w H) (hp : H p = none) {xs : List V} {ds : List Dt} (r : Reps G w H xs ds) : Rep G w (upd H p (.tup xs)) (.ref p) (.tup ds) :=
  .tup (.inl ⟨.inl upd_same, not_mu_of L hp⟩) (r.ext (ext_new L hp _))
/-- a new cell -/
def Wd.cell (w : Wd) (o : Ob) (p : Addr) : Wd := ⟨w.S ++ [o], w.B ++ [p], w.hid⟩
theorem cell_mu {w : Wd} {o : Ob} {p a : Addr} (hl : w.B.length = w.S.length) (h : (w.cell o p).mu a) : w.mu a ∨ a = p := by
  rcases h with h | ⟨n, ob, e1, e2, lv⟩
  · exact .inl (.inl h)
  have e1 : (w.B ++ [p])[n]? = some a := e1
  have e2 : (w.S ++ [o])[n]? = some ob := e2
  by_cases hn : n < w.B.length
  · rw [List.getElem?_append_left hn] at e1
    rw [List.getElem?_append_left (by omega)] at e2
    exact .inl (.inr ⟨n, ob, e1, e2, lv⟩)
  · rw [List.getElem?_append_right (by omega)] at e1
    have : n - w.B.length = 0 := by
      have := (List.getElem?_eq_some_iff.mp e1).1
      simp at this
      omega
    rw [this] at e1
    exact .inr (by simpa using e1.symm)
theorem ext_cell (L : Lies G w H) (hp : H p = none) (o : Ob) (ho : HO) : Ext w H (w.cell o p) (upd H p ho) where
  pre := List.prefix_append _ _
  keep := (ext_new L hp ho).keep
  new := fun a z => by
    rcases cell_mu L.len z with h | h
    · exact .inl h
    · exact .inr (h ▸ hp)
  stay := (ext_new L hp ho).stay
  fresh := fun a h => by
    have h' : a ∈ w.B ++ [p] := h
    rcases List.mem_append.mp h' with q | q
    · exact .inl q
    · have : a = p := by simpa using q
      exact .inr (this ▸ hp)
  hid := fun _ h => h
  hk := (ext_new L hp ho).hk
theorem lies_cell (L : Lies G w H) (hp : H p = none) (o : Ob) (ho : HO) (h : ObAt G (w.cell o p) (upd H p ho) p o) : Lies G (w.cell o p) (upd H p ho) where
  len := by show (w.B ++ [p]).length = (w.S ++ [o]).length; simp [L.len]
  nd := by
    show (w.B ++ [p]).Nodup
    rw [List.nodup_append]
    refine ⟨L.nd, by simp, fun a ha b hb => ?_⟩
    have : b = p := by simpa using hb
    subst this
    exact fun z => L.fresh hp (z ▸ ha)
  at_ := fun n a ob e1 e2 => by
    have e1' : (w.B ++ [p])[n]? = some a := e1
    have e2' : (w.S ++ [o])[n]? = some ob := e2
    by_cases hn : n < w.B.length
    · rw [List.getElem?_append_left hn] at e1'
      rw [List.getElem?_append_left (by rw [← L.len]; exact hn)] at e2'
      have ne : a ≠ p := fun z => L.fresh hp (z ▸ List.mem_of_getElem? e1')
      exact ObAt.keep (ext_cell L hp o ho) (L.at_ n a ob e1' e2') (upd_ne ne)
    · rw [List.getElem?_append_right (by omega)] at e1'
      rw [List.getElem?_append_right (by rw [← L.len]; omega)] at e2'
      have z : n - w.B.length = 0 := by
        have := (List.getElem?_eq_some_iff.mp e1').1
        simp at this
        omega
      rw [z] at e1'
      rw [← L.len, z] at e2'
      have ea : a = p := by simpa using e1'.symm
      have eo : ob = o := by simpa using e2'.symm
      subst ea eo
      exact h
  there := fun a h => by
    have h' : a ∈ w.B ++ [p] := h
    rcases List.mem_append.mp h' with q | q
    · exact (ext_cell L hp o ho).stay a (L.there a q)
    · have : a = p := by simpa using q
      subst this
      rw [upd_same]
      exact fun z => nomatch z
  hthere := fun a h => ⟨(ext_new L hp ho).stay a (L.hthere a h).1, fun z => by
    have h' : a ∈ w.B ++ [p] := z
    rcases List.mem_append.mp h' with q | q
    · exact (L.hthere a h).2 q
    · have : a = p := by simpa using q
      exact (L.hthere a h).1 (this ▸ hp)⟩
theorem rep_cell (L : Lies G w H) (o : Ob) (H' : Hp) : Rep G (w.cell o p) H' (.ref p) (.cell w.S.length) := by
  refine .cell ?_
  show (w.B ++ [p])[w.S.length]? = some p
  rw [← L.len, List.getElem?_append_right (Nat.le_refl _)]
  simp
end
end TK

/-! Tk4: operations, built-ins. -/
namespace TK
open PySem PySem.Spec L2

section
variable {G : Tb} {w : Wd} {H : Hp}
mutual
theorem Rep.dp : ∀ {d : Dt} {v : V} {p : PyData}, Rep G w H v d → py0 d = some p → Dp G.K H v p
  | .non, _, _, .non, h => by cases h; exact .non
  | .bl b, _, _, .bl _, h => by cases h; exact .bl b
  | .int b, _, _, .int _, h => by cases h; exact .int b
  | .str b, _, _, .str _, h => by cases h; exact .str b
  | .lst ds, _, p, .lst ha r, h => by
    cases e : py0s ds with
    | none => simp [py0, e] at h
    | some ps =>
      simp [py0, e] at h
      subst h
      exact .lst ha.sq (Reps.dp r e)
  | .tup ds, _, p, .tup ha r, h => by
    cases e : py0s ds with
    | none => simp [py0, e] at h
    | some ps =>
      simp [py0, e] at h
      subst h
      exact .tup ha.sq (Reps.dp r e)
theorem Reps.dp : ∀ {d : List Dt} {v : List V} {p : List PyData}, Reps G w H v d → py0s d = some p → DpAll G.K H v p
  | [], _, _, .nil, h => by cases h; exact .nil
  | d :: ds, _, p, .cons r t, h => by
    cases e : py0 d with
    | none => simp [py0s, e] at h
    | some q =>
      cases e2 : py0s ds with
      | none => simp [py0s, e, e2] at h
      | some qs =>
        simp [py0s, e, e2] at h
        subst h
        exact .cons (Rep.dp r e) (Reps.dp t e2)
end
theorem lies_lst (L : Lies G w H) {v : V} {n : Nat} {xs : List Dt} (r : Rep G w H v (.cell n)) (e : w.S[n]? = some (.lst xs)) : ∃ a vs, v = .ref a ∧ w.B[n]? = some a ∧ H a = some (.lst vs) ∧ Reps G w H vs xs := by
  cases r with
  | cell h =>
    obtain ⟨vs, e1, r1⟩ := L.at_ _ _ _ h e
    exact ⟨_, vs, rfl, h, e1, r1⟩
theorem Rep.dpv (L : Lies G w H) {d : Dt} {v : V} {p : PyData} (r : Rep G w H v d) (h : pyv w.S d = some p) : Dp G.K H v p := by
  cases d with
  | cell n =>
    unfold pyv at h
    simp only at h
    split at h
    · rename_i xs e
      obtain ⟨a, vs, rfl, _, e1, r1⟩ := lies_lst L r e
      cases e2 : py0s xs with
      | none => simp [e2] at h
      | some ps =>
        simp [e2] at h
        subst h
        exact .lst (SqL.of e1) (Reps.dp r1 e2)
    · cases h
  | _ => exact Rep.dp r h
/-- a list as it stands -/
theorem Rep.lsv (L : Lies G w H) {d : Dt} {v : V} {xs : List Dt} (r : Rep G w H v d) (h : lsv w.S d = some xs) : ∃ a vs, v = .ref a ∧ H a = some (.lst vs) ∧ Reps G w H vs xs := by
  cases d with
  | lst ds =>
    cases h
    cases r with
    | lst ha r => exact ⟨_, _, rfl, ha.1, r⟩
  | cell n =>
    unfold TK.lsv at h
    simp only at h
    split at h
    · rename_i ys e
      cases h
      obtain ⟨a, vs, rfl, _, e1, r1⟩ := lies_lst L r e
      exact ⟨a, vs, rfl, e1, r1⟩
    · cases h
  | _ => cases h
theorem Rep.seqv (L : Lies G w H) {d : Dt} {v : V} {xs : List Dt} (r : Rep G w H v d) (h : seqv w.S d = some xs) : ∃ a vs, v = .ref a ∧ (H a = some (.lst vs) ∨ TpAt G w H a vs) ∧ Reps G w H vs xs := by
  cases d with
  | tup ds =>
    cases h
    cases r with
    | tup ha r => exact ⟨_, _, rfl, .inr ha, r⟩
  | _ =>
    obtain ⟨a, vs, e, e1, r1⟩ := Rep.lsv L r h
    exact ⟨a, vs, e, .inl e1, r1⟩
end

/-- a two-place operation's reading -/
def r2 (G : Tb) (W : XK) (f : Dt → Dt → Sto → Rs Dt) : R2 := fun x y H Q => ∃ w d e, Lies G w H ∧ Rep G w H x d ∧ Rep G w H y e ∧ Po G (f d e w.S) w H (fun r w' H' => ∀ v, Rep G w' H' v r → Q v H') W

section
variable {X : Cx} {G : Tb} {W : XK}
theorem Po.ok1 {d : Dt} {w : Wd} {H : Hp} {Q : VK} {S : Sto} (h : Po G (.ok d S) w H (fun r w' H' => ∀ v, Rep G w' H' v r → Q v H') W) (e : w.S = S) (L : Lies G w H) {v : V} (r : Rep G w H v d) : Q v H := Po.ok h e L v r

theorem mulOk_small {x : Str} {n : Int} (h0 : 0 ≤ n) (h1 : n ≤ 1000) (hx : x.length ≤ 1000) : MulOk x n := by
  refine ⟨by simp; omega, fun a _ => ?_, fun a _ => ?_⟩
  · have : (2 ^ 63 - 1 : Int) / n ≥ 1000 := by
      rw [ge_iff_le, Int.le_ediv_iff_mul_le (by omega)]
      omega
    omega
  · have h2 : x.length * n.toNat ≤ 1000 * 1000 := Nat.mul_le_mul hx (by omega)
    have h3 : sizeLine = 16777216 := sizeLine_eq
    unfold Builtin.Str.tooLong
    exact decide_eq_false (by omega)
theorem opB (hK : X.K = G.K) (o : Operator) : OpR X (binaryOp o) (r2 G W (binop o)) := by
  intro pins s σ H x y v u Q I rx ry h
  obtain ⟨w, d, e, L, r1, r2, h⟩ := h
  unfold binop at h
  split at h
  · cases r1; cases r2
    exact op_add pins s σ H _ _ v u Q I rx ry ⟨_, _, rfl, rfl, Po.ok1 h rfl L (.int _)⟩
  · cases r1; cases r2
    split at h
    · exact op_add_str pins s σ H _ _ v u Q I rx ry ⟨_, _, rfl, rfl, by assumption, Po.ok1 h rfl L (.str _)⟩
    · exact (show False from h).elim
  · cases r1 with
    | tup t1 q1 =>
      cases r2 with
      | tup t2 q2 =>
        split at h
        · refine op_catA pins s σ H _ _ v u Q I rx ry ⟨_, _, _, _, rfl, rfl, hK ▸ t1.sq, hK ▸ t2.sq, by rw [q1.length, q2.length]; assumption, fun z => ?_, fun z z2 => ?_, fun z z2 p hp => ?_⟩
          · subst z
            cases q1
            exact Po.ok1 h rfl L (.tup t2 q2)
          · subst z2
            cases q2
            rw [List.append_nil] at h
            exact Po.ok1 h rfl L (.tup t1 q1)
          · exact Po.ok' h rfl (ext_new L hp _) (lies_new L hp _) _ (rep_tup L hp (q1.append q2))
        · exact (show False from h).elim
  · split at h
    · rename_i xs ys ex ey
      obtain ⟨a, vs, rfl, ha, q1⟩ := r1.lsv L ex
      obtain ⟨b, us, rfl, hb, q2⟩ := r2.lsv L ey
      split at h
      · exact op_cat pins s σ H _ _ v u Q I rx ry ⟨a, b, vs, us, rfl, rfl, ha, hb, by rw [q1.length, q2.length]; assumption, fun p hp => Po.ok' h rfl (ext_new L hp _) (lies_new L hp _) _ (rep_lst L hp (q1.append q2))⟩
      · exact (show False from h).elim
    · exact (show False from h).elim
  · cases r1; cases r2
    exact op_sub pins s σ H _ _ v u Q I rx ry ⟨_, _, rfl, rfl, Po.ok1 h rfl L (.int _)⟩
  · cases r1; cases r2
    split at h
    · refine op_mul pins s σ H _ _ v u Q I rx ry ⟨_, _, rfl, rfl, ?_, Po.ok1 h rfl L (.int _)⟩
      rename_i q
      rcases q with q | q
      · exact .inl (by omega)
      · exact .inr (by omega)
    · exact (show False from h).elim
  · cases r1; cases r2
    split at h
    · rename_i a j q
      obtain ⟨t, rfl⟩ := rx
      obtain ⟨t', rfl⟩ := ry
      exact PySem.SB.mul (mulOk_small q.1 q.2.1 q.2.2) fun t' k => ⟨.str _, H, I.tok k, ⟨t', rfl⟩, Po.ok1 h rfl L (.str _)⟩
    · exact (show False from h).elim
  · cases r1; cases r2
    split at h
    · rename_i i j q
      refine op_fdivW pins s σ H _ _ v u Q I rx ry ⟨_, _, rfl, rfl, wide_div q.1 (b := 200) q.2 (by decide) (by decide), Po.ok1 h rfl L (.int _)⟩
    · exact (show False from h).elim
  · cases r1; cases r2
    split at h
    · exact op_mod pins s σ H _ _ v u Q I rx ry ⟨_, _, rfl, rfl, by assumption, Po.ok1 h rfl L (.int _)⟩
    · exact (show False from h).elim
  · cases r1; cases r2
    split at h
    · rename_i i j q
      exact op_pow pins s σ H _ _ v u Q I rx ry ⟨_, _, rfl, rfl, ⟨q.1, by omega, q.2.2⟩, Po.ok1 h rfl L (.int _)⟩
    · exact (show False from h).elim
  · exact (show False from h).elim

theorem str_one {a : Str} (h : a.length = 1) : a = ⟨#[a.cps.toList.getD 0 0]⟩ := by
  obtain ⟨⟨l⟩⟩ := a
  have h' : l.length = 1 := h
  cases l with
  | nil => cases h'
  | cons c r =>
    cases r with
    | nil => rfl
    | cons d r => simp at h'
theorem reps_strs {w : Wd} {H : Hp} : ∀ {ds : List Dt} {vs : List V} {ps : List PyData}, Reps G w H vs ds → py0s ds = some ps → (ps.all fun q => match q with | .str _ => true | _ => false) = true → ∃ zs : List Str, vs = zs.map V.str ∧ ps = zs.map PyData.str
  | [], _, _, .nil, e, _ => by cases e; exact ⟨[], rfl, rfl⟩
  | d :: ds, _, ps, .cons r t, e, h => by
    cases e1 : py0 d with
    | none => simp [py0s, e1] at e
    | some q =>
      cases e2 : py0s ds with
      | none => simp [py0s, e1, e2] at e
      | some qs =>
        simp [py0s, e1, e2] at e
        subst e
        rw [List.all_cons, Bool.and_eq_true] at h
        obtain ⟨zs, hz1, hz2⟩ := reps_strs t e2 h.2
        cases q with
        | str z =>
          have dp := Rep.dp r e1
          cases dp
          exact ⟨z :: zs, by rw [hz1]; rfl, by rw [hz2]; rfl⟩
        | _ => cases h.1
theorem in_strs (a : Str) : ∀ zs : List Str, inV (.str a) (zs.map V.str) = (zs.map PyData.str).any fun z => PyData.eqv z (.str a)
  | [] => rfl
  | z :: zs => by
    have ih := in_strs a zs
    unfold inV at ih ⊢
    rw [List.map_cons, List.any_cons, List.map_cons, List.any_cons, ih]
    rfl
theorem flat_strs : ∀ zs : List Str, (zs.map V.str).all flatV = true
  | [] => rfl
  | z :: zs => by rw [List.map_cons, List.all_cons, flat_strs zs]; rfl
theorem dp_tup {H : Hp} {K : PySem.W.Frag} {v : V} {qs : List PyData} (h : Dp K H v (.tuple qs)) : ∃ a vs, v = .ref a ∧ SqT K H a vs ∧ DpAll K H vs qs := by
  cases h with
  | tup h r => exact ⟨_, _, rfl, h, r⟩
theorem dp_strs {H : Hp} {K : PySem.W.Frag} : ∀ {vs : List V} {ps : List PyData}, DpAll K H vs ps → (ps.all fun q => match q with | .str _ => true | _ => false) = true → ∃ zs : List Str, vs = zs.map V.str ∧ ps = zs.map PyData.str
  | _, _, .nil, _ => ⟨[], rfl, rfl⟩
  | _, _, .cons (d := d) r t, h => by
    rw [List.all_cons, Bool.and_eq_true] at h
    obtain ⟨zs, hz1, hz2⟩ := dp_strs t h.2
    cases d with
    | str z =>
      cases r
      exact ⟨z :: zs, by rw [hz1]; rfl, by rw [hz2]; rfl⟩
    | _ => cases h.1
theorem inOk {w : Wd} {H : Hp} (hK : X.K = G.K) (hu : X.A.units + 65 < cLine) {pins : List (Addr × Obj)} {s : Shared} {σ : St} {x y : V} {v u : Value} {d e : Dt} {b : Bool} {Q : VK} (I : Inv X pins σ H s) (rx : RelV x v) (ry : RelV y u)
    (L : Lies G w H) (r1 : Rep G w H x d) (r2 : Rep G w H y e) (h : inD w.S d e = some b) : (Q (.bl b) H → wpAny (model X.prog X.w) X.A (compareOp .In v u) (EP X pins σ Q) X.xe s) ∧ (Q (.bl (!b)) H → wpAny (model X.prog X.w) X.A (compareOp .NotIn v u) (EP X pins σ Q) X.xe s) := by
  unfold inD at h
  split at h
  · rename_i p qs e1 e2
    split at h
    · rename_i q
      cases h
      have d1 := hK ▸ r1.dpv L e1
      have d2 := hK ▸ r2.dpv L e2
      exact ⟨fun z => op_inD hu pins s σ H x y v u Q I rx ry ⟨_, _, d1, d2, q.1, q.2, z⟩, fun z => op_notInD hu pins s σ H x y v u Q I rx ry ⟨_, _, d1, d2, q.1, q.2, z⟩⟩
    · cases h
  · rename_i p qs e1 e2
    split at h
    · rename_i a hall
      cases h
      cases r1
      obtain ⟨a', vs, rfl, ht, hd⟩ := dp_tup (r2.dpv L e2)
      obtain ⟨zs, rfl, rfl⟩ := dp_strs hd hall
      exact ⟨fun z => op_in_seq pins s σ H _ _ v u Q I rx ry ⟨a', _, rfl, .inr (hK ▸ ht), rfl, flat_strs zs, by show Q (.bl (inV _ _)) H; rw [in_strs]; exact z⟩,
        fun z => op_notIn_seq pins s σ H _ _ v u Q I rx ry ⟨a', _, rfl, .inr (hK ▸ ht), rfl, flat_strs zs, by show Q (.bl (!inV _ _)) H; rw [in_strs]; exact z⟩⟩
    · cases h
  · rename_i a b e1 e2
    split at h
    · rename_i q
      cases h
      have d1 := r1.dpv L e1
      have d2 := r2.dpv L e2
      cases d1
      cases d2
      have e3 := str_one q
      exact ⟨fun z => op_in_sign pins s σ H _ _ v u Q I rx ry ⟨a.cps.toList.getD 0 0, b, by rw [← e3], rfl, z⟩, fun z => op_notIn_sign pins s σ H _ _ v u Q I rx ry ⟨a.cps.toList.getD 0 0, b, by rw [← e3], rfl, z⟩⟩
    · cases h
  · cases h
theorem non_iff {w : Wd} {H : Hp} {x : V} {d : Dt} (r : Rep G w H x d) : decide (x = .non) = isNon d := by
  cases r <;> rfl
theorem str_dec (a b : Str) : decide ((.str a : V) = .str b) = (a == b) := by
  rw [Bool.eq_iff_iff]; simp
theorem opC (hK : X.K = G.K) (hu : X.A.units + 65 < cLine) (o : CmpOp) : OpR X (compareOp o) (r2 G W (cmpop o)) := by
  intro pins s σ H x y v u Q I rx ry h
  obtain ⟨w, d, e, L, r1, r2, h⟩ := h
  cases o with
  | Eq =>
    obtain ⟨a, e1, h⟩ := Po.ofO h L
    unfold eqD at e1
    split at e1
    · cases e1
      cases r1
      cases r2
      exact op_eq pins s σ H _ _ v u Q I rx ry ⟨rfl, by rw [str_dec]; exact h _ (.bl _)⟩
    split at e1
    · rename_i p q e2 e3
      split at e1
      · rename_i hs
        cases e1
        exact op_eqD (by omega) pins s σ H x y v u Q I rx ry ⟨_, _, hK ▸ r1.dpv L e2, hK ▸ r2.dpv L e3, hs.1, hs.2, h _ (.bl _)⟩
      · cases e1
    · cases e1
  | NotEq =>
    obtain ⟨a, e1, h⟩ := Po.ofO h L
    unfold eqD at e1
    split at e1
    · cases e1
      cases r1
      cases r2
      exact op_ne pins s σ H _ _ v u Q I rx ry ⟨rfl, by rw [str_dec]; exact h _ (.bl _)⟩
    split at e1
    · rename_i p q e2 e3
      split at e1
      · rename_i hs
        cases e1
        exact op_neD (by omega) pins s σ H x y v u Q I rx ry ⟨_, _, hK ▸ r1.dpv L e2, hK ▸ r2.dpv L e3, hs.1, hs.2, h _ (.bl _)⟩
      · cases e1
    · cases e1
  | Is =>
    cases e with
    | non =>
      cases r2
      exact op_isN pins s σ H _ _ v u Q I rx ry ⟨rfl, by rw [non_iff r1]; exact Po.ok1 h rfl L (.bl _)⟩
    | _ => exact (show False from h).elim
  | IsNot =>
    cases e with
    | non =>
      cases r2
      exact op_notN pins s σ H _ _ v u Q I rx ry ⟨rfl, by rw [non_iff r1]; exact Po.ok1 h rfl L (.bl _)⟩
    | _ => exact (show False from h).elim
  | In =>
    obtain ⟨a, e1, h⟩ := Po.ofO h L
    cases q : inD w.S d e with
    | none => rw [q] at e1; cases e1
    | some b =>
      rw [q] at e1; cases e1
      exact (inOk hK hu I rx ry L r1 r2 q).1 (h _ (.bl _))
  | NotIn =>
    obtain ⟨a, e1, h⟩ := Po.ofO h L
    cases q : inD w.S d e with
    | none => rw [q] at e1; cases e1
    | some b =>
      rw [q] at e1; cases e1
      exact (inOk hK hu I rx ry L r1 r2 q).2 (h _ (.bl _))
  | Lt =>
    unfold cmpop at h
    simp only at h
    split at h
    · cases r1; cases r2
      exact op_lt pins s σ H _ _ v u Q I rx ry ⟨_, _, rfl, rfl, Po.ok1 h rfl L (.bl _)⟩
    · exact (show False from h).elim
  | LtE =>
    unfold cmpop at h
    simp only at h
    split at h
    · cases r1; cases r2
      exact op_le pins s σ H _ _ v u Q I rx ry ⟨_, _, rfl, rfl, Po.ok1 h rfl L (.bl _)⟩
    · exact (show False from h).elim
  | Gt =>
    unfold cmpop at h
    simp only at h
    split at h
    · cases r1; cases r2
      exact op_gt pins s σ H _ _ v u Q I rx ry ⟨_, _, rfl, rfl, Po.ok1 h rfl L (.bl _)⟩
    · exact (show False from h).elim
  | GtE =>
    unfold cmpop at h
    simp only at h
    split at h
    · cases r1; cases r2
      exact op_ge pins s σ H _ _ v u Q I rx ry ⟨_, _, rfl, rfl, Po.ok1 h rfl L (.bl _)⟩
    · exact (show False from h).elim
theorem truV {w : Wd} {H : Hp} (L : Lies G w H) {x : V} {d : Dt} (r : Rep G w H x d) {b : Bool} (h : truth w.S d = some b) : TruV G.K x H b := by
  have isE : ∀ {vs : List V} {ds : List Dt}, Reps G w H vs ds → (!vs.isEmpty) = !ds.isEmpty := fun q => by cases q <;> rfl
  cases d with
  | non => cases h; cases r; rfl
  | bl b => cases h; cases r; rfl
  | int b => cases h; cases r; rfl
  | str z =>
    cases r
    unfold truth at h
    simp only at h
    split at h
    · cases h; exact ⟨by assumption, rfl⟩
    · cases h
  | tup ds =>
    cases h
    cases r with
    | tup ha q => exact .inr (.inl ⟨_, ha.sq, (isE q).symm⟩)
  | _ =>
    unfold truth at h
    simp only at h
    cases e : lsv w.S _ with
    | none => rw [e] at h; cases h
    | some xs =>
      rw [e] at h
      cases h
      obtain ⟨a, vs, rfl, ha, q⟩ := r.lsv L e
      exact .inl ⟨vs, SqL.of ha, (isE q).symm⟩
end
end TK

/-! Tk5: built-in functions, methods, items, slices. -/
namespace TK
open PySem PySem.Spec L2

/-- the built-in's value -/
def Bf.val : Bf → Value
  | .len => .builtin "len" | .list => .type "list" | .tuple => .type "tuple" | .int => .type "int" | .str => .type "str" | .repr => .builtin "repr"
  | .isinst => .builtin "isinstance" | .min2 => .builtin "min" | .max2 => .builtin "max" | .all => .builtin "all" | .any => .builtin "any" | .abs => .builtin "abs"
def rL (G : Tb) (W : XK) (f : List Dt → Sto → Rs Dt) : List V → Hp → VK → Prop := fun xs H Q => ∃ w ds, Lies G w H ∧ Reps G w H xs ds ∧ Po G (f ds w.S) w H (fun r w' H' => ∀ v, Rep G w' H' v r → Q v H') W

theorem reps1 {G : Tb} {w : Wd} {H : Hp} {vs : List V} {d : Dt} (h : Reps G w H vs [d]) : ∃ v, vs = [v] ∧ Rep G w H v d := by
  cases h with
  | cons r t => cases t; exact ⟨_, rfl, r⟩
theorem reps2 {G : Tb} {w : Wd} {H : Hp} {vs : List V} {d e : Dt} (h : Reps G w H vs [d, e]) : ∃ v u, vs = [v, u] ∧ Rep G w H v d ∧ Rep G w H u e := by
  cases h with
  | cons r t => obtain ⟨u, rfl, r2⟩ := reps1 t; exact ⟨_, _, rfl, r, r2⟩
theorem reps_bools {G : Tb} {w : Wd} {H : Hp} : ∀ {ds : List Dt} {vs : List V} {bs : List Bool}, Reps G w H vs ds → bools ds = some bs → vs = bs.map V.bl
  | [], _, _, .nil, h => by cases h; rfl
  | .bl b :: ds, _, _, .cons r t, h => by
    cases e : bools ds with
    | none => simp [bools, e] at h
    | some bs =>
      simp [bools, e] at h
      subst h
      cases r
      rw [reps_bools t e]; rfl
  | .non :: _, _, _, _, h | .int _ :: _, _, _, _, h | .str _ :: _, _, _, _, h | .lst _ :: _, _, _, _, h | .tup _ :: _, _, _, _, h | .dic _ :: _, _, _, _, h
  | .obj _ _ :: _, _, _, _, h | .cell _ :: _, _, _, _, h | .ty _ :: _, _, _, _, h | .fn _ :: _, _, _, _, h | .cls _ :: _, _, _, _, h | .scr _ :: _, _, _, _, h => by cases h
theorem reps_strsD {G : Tb} {w : Wd} {H : Hp} : ∀ {ds : List Dt} {vs : List V} {bs : List Str}, Reps G w H vs ds → strsD ds = some bs → vs = bs.map V.str
  | [], _, _, .nil, h => by cases h; rfl
  | .str b :: ds, _, _, .cons r t, h => by
    cases e : strsD ds with
    | none => simp [strsD, e] at h
    | some bs =>
      simp [strsD, e] at h
      subst h
      cases r
      rw [reps_strsD t e]; rfl
  | .non :: _, _, _, _, h | .int _ :: _, _, _, _, h | .bl _ :: _, _, _, _, h | .lst _ :: _, _, _, _, h | .tup _ :: _, _, _, _, h | .dic _ :: _, _, _, _, h
  | .obj _ _ :: _, _, _, _, h | .cell _ :: _, _, _, _, h | .ty _ :: _, _, _, _, h | .fn _ :: _, _, _, _, h | .cls _ :: _, _, _, _, h | .scr _ :: _, _, _, _, h => by cases h

/-- a value's type by the data -/
theorem tyX {G : Tb} {w : Wd} {H : Hp} (L : Lies G w H) {v : V} {d : Dt} {t : String} (r : Rep G w H v d) (h : tyOf w.S d = some t) : TyX G.K H v (.type t) := by
  cases d with
  | non => cases h; cases r; exact .base .non
  | bl b => cases h; cases r; exact .base (.bl _)
  | int b => cases h; cases r; exact .base (.int _)
  | str b => cases h; cases r; exact .base (.str _)
  | lst ds => cases h; cases r with | lst ha q => exact .base (.lst ha.1)
  | tup ds =>
    cases h
    cases r with
    | tup ha q =>
      rcases ha with ⟨ha | ⟨o, ha⟩, _⟩ | ⟨o, its, n, hk, hc, _⟩
      · exact .base (.tup ha)
      · exact .fTuple ha
      · exact .kTuple hk hc
  | dic ds =>
    cases h
    cases r with
    | dic ha m q =>
      rcases ha with ha | ⟨o, ha⟩
      · exact .base (.dK ha)
      · exact .fDict ha
  | cell n =>
    unfold tyOf at h
    simp only at h
    split at h
    · rename_i e
      cases h
      obtain ⟨a, vs, rfl, _, e1, _⟩ := lies_lst L r e
      exact .base (.lst e1)
    · rename_i e
      cases h
      cases r with
      | cell hb =>
        obtain ⟨vs, e1, r1⟩ := L.at_ _ _ _ hb e
        exact .base (.dK e1)
    · cases h
  | _ => cases h
theorem isT_ok {a b : String} {c : Bool} (h : isT a b = some c) : PySem.W.kitOne K (.type a) (.type b) = some c := by
  unfold isT at h
  split at h
  · rename_i q
    cases h
    refine kit_ty ?_
    obtain ⟨q1, q2⟩ := q
    simp only [List.mem_cons, List.not_mem_nil, or_false] at q1 q2
    rcases q1 with rfl | rfl | rfl | rfl | rfl | rfl | rfl <;> rcases q2 with rfl | rfl | rfl | rfl | rfl | rfl <;> decide +kernel
  · cases h
theorem dp_reads {X : Cx} {pins : List (Addr × Obj)} {σ : St} {H : Hp} {s : Shared} (I : Inv X pins σ H s) {d : PyData} {v : V} {u : Value} (h : Dp X.K H v d) (r : RelV v u) : ∃ as, Reads s.heap u d as := Dp.reads I d v u h r

section
variable {X : Cx} {G : Tb} {W : XK}
theorem call_repr (hg : X.A.guards = some []) (hu : X.A.units + 100 < cLine) : CallR X (.builtin "repr") (fun xs H Q => ∃ (x : V) (p : PyData), xs = [x] ∧ Dp X.K H x p ∧ p.showable = true ∧ p.hasDict = false ∧ p.shown.length ≤ sizeLine ∧ p.depth ≤ 64 ∧ Q (.str p.shown) H) := by
  intro pins s σ H xs us Q I r h
  obtain ⟨x, p, rfl, hd, h1, h2, h3, h4, q⟩ := h
  obtain ⟨u, rfl, rx⟩ := vals1 r
  obtain ⟨as, rd⟩ := Dp.reads I p x u hd rx
  have fin : ∀ h' t tk, (∀ b o, s.heap.get? b = some o → h'.get? b = some o) → EP X pins σ Q (.str p.shown t) { s with heap := h', toks := tk } := fun h' t tk k => ⟨.str p.shown, H, I.kept k, ⟨t, rfl⟩, q⟩
  have nd : p.hasDict = true → sysModules ∉ as := fun z => by rw [h2] at z; cases z
  cases hd with
  | non =>
    cases rx
    have := fin s.heap s.toks (s.toks + 1) fun _ _ e => e
    simp only [PyData.shown] at this
    exact P.repr_of_none this
  | bl b =>
    cases rx
    have := fin s.heap s.toks (s.toks + 1) fun _ _ e => e
    simp only [PyData.shown] at this
    exact P.repr_of_bool this
  | int i =>
    obtain ⟨t, rfl⟩ := rx
    have := fin s.heap s.toks (s.toks + 1) fun _ _ e => e
    simp only [PyData.shown] at this
    exact P.repr_of_int (by simpa [PyData.showable] using h1) this
  | str i =>
    obtain ⟨t, rfl⟩ := rx
    have := fin s.heap s.toks (s.toks + 1) fun _ _ e => e
    simp only [PyData.shown] at this h3
    exact P.repr_of_str this h3
  | lst hs hr =>
    cases rx
    exact repr_of_reads' rd h1 nd hg (by omega) (fun _ _ e => e) (fun h' u tk k => fin h' u tk k) h3
  | tup hs hr =>
    cases rx
    exact repr_of_reads' rd h1 nd hg (by omega) (fun _ _ e => e) (fun h' u tk k => fin h' u tk k) h3
theorem call_str_str : CallR X (.type "str") (fun xs H Q => ∃ z, xs = [.str z] ∧ Q (.str z) H) := by
  intro pins s σ H xs us Q I r h
  obtain ⟨z, rfl, q⟩ := h
  obtain ⟨u, rfl, t, rfl⟩ := vals1 r
  exact P.str_of_str ⟨.str z, H, I, ⟨_, rfl⟩, q⟩
theorem callB (hK : X.K = G.K) (hc : X.calm = true) (hg : X.A.guards = some []) (hu : X.A.units + 100 < cLine) (f : Bf) : CallR X f.val (rL G W (bfd f)) := by
  intro pins s σ H xs us Q I r h
  obtain ⟨w, ds, L, rs, h⟩ := h
  unfold bfd at h
  split at h
  · obtain ⟨v, rfl, r1⟩ := reps1 rs
    cases r1
    split at h
    · exact call_len_str pins s σ H _ us Q I r ⟨_, rfl, by assumption, Po.ok1 h rfl L (.int _)⟩
    · exact (show False from h).elim
  · obtain ⟨v, rfl, r1⟩ := reps1 rs
    obtain ⟨a, e1, h⟩ := Po.ofO h L
    cases e2 : seqv w.S _ with
    | none => rw [e2] at e1; cases e1
    | some ys =>
      rw [e2] at e1; cases e1
      obtain ⟨a, vs, rfl, hs, q⟩ := r1.seqv L e2
      refine call_len_seq pins s σ H _ us Q I r ⟨a, vs, rfl, hs.elim (fun z => .inl (SqL.of z)) (fun z => .inr (hK ▸ z.sq)), ?_⟩
      rw [q.length]
      exact h _ (.int _)
  · obtain ⟨v, rfl, r1⟩ := reps1 rs
    cases e2 : seqv w.S _ with
    | none => rw [e2] at h; exact (show False from h).elim
    | some ys =>
      rw [e2] at h
      obtain ⟨a, vs, rfl, hs, q⟩ := r1.seqv L e2
      exact call_list_of pins s σ H _ us Q I r ⟨a, vs, rfl, hs.elim (fun z => .inl (SqL.of z)) (fun z => .inr (hK ▸ z.sq)), fun l hl => Po.ok' h rfl (ext_new L hl _) (lies_new L hl _) _ (rep_lst L hl q)⟩
  · obtain ⟨v, rfl, r1⟩ := reps1 rs
    cases r1 with
    | tup ha q => exact call_tupleT pins s σ H _ us Q I r ⟨_, _, rfl, hK ▸ ha.sq, Po.ok1 h rfl L (.tup ha q)⟩
  · obtain ⟨v, rfl, r1⟩ := reps1 rs
    cases e2 : lsv w.S _ with
    | none => rw [e2] at h; exact (show False from h).elim
    | some ys =>
      rw [e2] at h
      obtain ⟨a, vs, rfl, hs, q⟩ := r1.lsv L e2
      exact call_tuple_of pins s σ H _ us Q I r ⟨a, vs, rfl, .inl ⟨SqL.of hs, fun l hl => Po.ok' h rfl (ext_new L hl _) (lies_new L hl _) _ (rep_tup L hl q)⟩⟩
  · obtain ⟨v, rfl, r1⟩ := reps1 rs
    cases r1
    exact call_int1 pins s σ H _ us Q I r (.inl ⟨_, rfl, Po.ok1 h rfl L (.int _)⟩)
  · obtain ⟨v, rfl, r1⟩ := reps1 rs
    cases r1
    split at h
    · exact call_str_int pins s σ H _ us Q I r ⟨_, rfl, by assumption, Po.ok1 h rfl L (.str _)⟩
    · exact (show False from h).elim
  · obtain ⟨v, rfl, r1⟩ := reps1 rs
    cases r1
    exact call_str_str pins s σ H _ us Q I r ⟨_, rfl, Po.ok1 h rfl L (.str _)⟩
  · obtain ⟨v, rfl, r1⟩ := reps1 rs
    split at h
    · rename_i p e
      split at h
      · rename_i q
        exact call_repr hg hu pins s σ H _ us Q I r ⟨v, p, rfl, hK ▸ r1.dpv L e, q.1, q.2.1, q.2.2.1, q.2.2.2, Po.ok1 h rfl L (.str _)⟩
      · exact (show False from h).elim
    · exact (show False from h).elim
  · obtain ⟨v, u, rfl, r1, r2⟩ := reps2 rs
    split at h
    · rename_i t e
      obtain ⟨a, e1, h⟩ := Po.ofO h L
      cases e2 : isT t _ with
      | none => rw [e2] at e1; cases e1
      | some b =>
        rw [e2] at e1; cases e1
        cases r2
        exact call_isi pins s σ H _ us Q I r ⟨v, _, _, _, b, rfl, .ty _, hK ▸ tyX L r1 e, isT_ok e2, h _ (.bl _)⟩
    · exact (show False from h).elim
  · obtain ⟨v, u, rfl, r1, r2⟩ := reps2 rs
    cases r1; cases r2
    exact call_min2 hc pins s σ H _ us Q I r ⟨_, _, rfl, Po.ok1 h rfl L (.int _)⟩
  · obtain ⟨v, u, rfl, r1, r2⟩ := reps2 rs
    cases r1; cases r2
    exact call_max2 hc pins s σ H _ us Q I r ⟨_, _, rfl, Po.ok1 h rfl L (.int _)⟩
  · obtain ⟨v, rfl, r1⟩ := reps1 rs
    split at h
    · rename_i bs e
      cases e2 : lsv w.S _ with
      | none => rw [e2] at e; cases e
      | some ys =>
        rw [e2] at e
        obtain ⟨a, vs, rfl, hs, q⟩ := r1.lsv L e2
        have q2 := reps_bools q (show bools ys = some bs from e)
        subst q2
        exact cr_all hc pins s σ H _ us Q I r ⟨a, bs, rfl, SqL.of hs, Po.ok1 h rfl L (.bl _)⟩
    · exact (show False from h).elim
  · obtain ⟨v, rfl, r1⟩ := reps1 rs
    split at h
    · rename_i bs e
      cases e2 : lsv w.S _ with
      | none => rw [e2] at e; cases e
      | some ys =>
        rw [e2] at e
        obtain ⟨a, vs, rfl, hs, q⟩ := r1.lsv L e2
        have q2 := reps_bools q (show bools ys = some bs from e)
        subst q2
        exact cr_any hc pins s σ H _ us Q I r ⟨a, bs, rfl, SqL.of hs, Po.ok1 h rfl L (.bl _)⟩
    · exact (show False from h).elim
  · exact (show False from h).elim
end
end TK

/-! Tk6: calls with no repr under way. -/
namespace TK
open PySem PySem.Spec L2

structure RoomG (k : Nat) (A : Around) : Prop where
  r : Room k A
  g : A.guards = some []
theorem RoomG.mono {j k : Nat} {A : Around} (h : RoomG k A) (l : j ≤ k) : RoomG j A := ⟨h.r.mono l, h.g⟩
theorem RoomG.deeper {k : Nat} {A : Around} (h : RoomG (k + 1) A) (env : Env) : RoomG k (A.deeper env) := ⟨h.r.deeper env, h.g⟩
theorem RoomG.make {k : Nat} {A : Around} (h : RoomG (k + 1) A) (C : Addr) (us : List Value) (kw : List (Str × Value)) : RoomG k (A.under (.builtin "type.__call__" ⟨.ref C :: us, kw⟩)) :=
  ⟨h.r.make C us kw, by
    have e := h.g
    obtain ⟨a, b, c, d, u⟩ := A
    simp only at e
    subst e
    rfl⟩

/-- a def keeps its promise wherever no repr is under way -/
structure Keeps (P : Program) (w : World) (K : PySem.W.Frag) (mg : Str → Option Value) (base : Heap) (k : Nat) (f : Addr) (fd : FuncData) (ps : List Str) (sp : Sp) : Prop where
  len : ∀ vs H Q E, sp vs H Q E → vs.length = ps.length
  go : ∀ (A : Around) (outer : List Env) (s : Shared) (H : Hp) (args : Args) (us : List Value) (vs : List V) (Q : VK) (E : XK),
    RoomG k A → Env0 P w K mg base A outer s H → BindsTo s fd args (ps.zip us) → Vals vs us → sp vs H Q E →
    codeAny (model P w) A (.call (.ref f) args) (CR (CX P w) outer P w H s Q E) s
section
variable {X : Cx} {k n : Nat} {f : Addr} {fd : FuncData} {ps ks : List Str} {sp : Sp} {E : XK}
variable {g : List Value → List Value → List Value} {gV : List V → List V → List V}
theorem go_call {pins : List (Addr × Obj)} {σ : L2.St} {H : Hp} {s : Shared} {Q : VK} {us ws : List Value} {vs zs : List V}
    (F : Keeps X.prog X.w X.K X.mg X.base k f fd ps sp) (room : RoomG k X.A) (bind : KBn X.K fd ps n ks g gV) (pass : Passes (CX X.prog X.w) X E)
    (I : Inv X pins σ H s) (rv : Vals vs us) (rz : Vals zs ws) (lv : vs.length = n) (lz : zs.length = ks.length) (wish : sp (gV vs zs) H Q E) :
    wpAny (model X.prog X.w) X.A (call (.ref f) us (ks.zip ws)) (EP X pins σ Q) X.xe s := by
  have both := bind.rel rv rz
  have bnd := bind.to s us ws I.kIn (rv.length.symm.trans lv) (rz.length.symm.trans lz)
  refine wpAny_call (codeAny_mono (F.go X.A X.stack s H ⟨us, ks.zip ws⟩ (g us ws) (gV vs zs) Q E room I.env0 bnd both wish) ?_)
  intro res s' got
  rcases res with e | fl
  · exact pass pins σ H s e s' I got
  · cases fl with
    | ret u => exact I.after got
    | next | brk | cont => exact False.elim got
end

/-- the rule of a def by its body -/
theorem keeps_of {P : Program} {w : World} {K : PySem.W.Frag} {mg : Str → Option Value} {base : Heap} {k : Nat} {f : Addr} {x qual : Str} {params : Arguments} {body : List Stmt} {scope : Scope} {dvs : List V} {kws : List (Str × V)} {fd : FuncData} {N ps : List Str} {sp : Sp}
    (F : FunD K x qual params body scope dvs kws f fd) (S : FnScope N ps scope) (len : ∀ vs H Q E, sp vs H Q E → vs.length = ps.length)
    (bodyOk : ∀ (cdv : Value) (A : Around) (outer : List Env) (s : Shared) (H : Hp) (vs : List V) (Q : VK) (E : XK), RoomG k (A.deeper (PyProof.Rows.envOfC qual scope s.heap.objs.size f cdv)) → sp vs H Q E →
      ∃ t, PSs (cxOf (CX P w) P w K mg base N qual scope f cdv A outer s H E) body t ∧ t { nx := fun _ H' => Q .non H', rt := Q } (start N vs) H) : Keeps P w K mg base (k + 1) f fd ps sp := by
  obtain ⟨oc, od, dV, kV, doc, pm, an, cdv, ct, osl, rfl, lk, hcd, _, _⟩ := F.ex
  refine ⟨len, fun A outer s H args us vs Q E room e0 hb rv wish => ?_⟩
  have lps := len _ _ _ _ wish
  have kin : K.In s.heap := e0.mod.kin.keeps fun b o e => (e0.bs b o e).1
  have lim : s.heap.NoLimit := e0.mod.nolimit.keeps fun b o e => (e0.bs b o e).1
  have kinds : ∀ y ∈ ps.zip us, scope.names.lookup y.1 = some .local ∨ (scope.names.lookup y.1 = some .cell ∧ ((cellsFrom (s.heap.objs.size + 1) scope.names []).lookup y.1).isSome = true) := by
    rintro ⟨n, v⟩ hy
    exact (S.par n (List.of_mem_zip hy).1).imp id fun q => ⟨q, PySem.W.cellsFrom_some _ _ _ (.inl q)⟩
  refine codeAny_call_function room.r.depth (kin _ _ lk) rfl S.co S.gen rfl (PySem.W.codeRec_of kin hcd) (hb _ _ _ _ ?_)
  refine wpAny_newFunctionEnv_cells S.kind kinds ?_
  intro env he s1 made
  subst he
  refine ⟨lim.keeps made.toInCall.keep, codeAny_func ?_⟩
  obtain ⟨t, ht, hq⟩ := bodyOk cdv A outer s H vs Q E (room.deeper _) wish
  have I := inv_start (CX := CX P w) (P := P) (E := E) S room.r.hd e0 lps rv made
  refine wpAny_mono (ht.run [] s1 (start N vs) H _ I hq) ?_ fun e s' hs => hs
  intro fl s' hs
  have back : ∀ {σ' : L2.St} {H' : Hp} {v : V} {u : Value}, Inv (cxOf (CX P w) P w K mg base N qual scope f cdv A outer s H E) [] σ' H' s' → RelV v u → Q v H' → L2.CE outer P w H s Q u s' :=
    fun J r q => ⟨_, _, J.os, J.bare, J.base, J.hok, r, q⟩
  cases fl with
  | ret u => obtain ⟨v, σ', H', J, r, q⟩ := hs; exact back J r q
  | next => obtain ⟨σ', H', J, q⟩ := hs; exact back (v := V.non) (u := Value.none) J rfl q
  | brk => obtain ⟨_, _, _, q⟩ := hs; exact q.elim
  | cont => obtain ⟨_, _, _, q⟩ := hs; exact q.elim

theorem pick_rel {α β : Type} {R : α → β → Prop} {us : List α} {us' : List β} {ws : List α} {ws' : List β} {ds : List α} {ds' : List β} (h1 : Paired R us us') (h2 : Paired R ws ws') (h3 : Paired R ds ds') (s : Src) :
    (pick us ws ds s = none ∧ pick us' ws' ds' s = none) ∨ ∃ a b, pick us ws ds s = some a ∧ pick us' ws' ds' s = some b ∧ R a b := by
  have one : ∀ {l : List α} {l' : List β}, Paired R l l' → ∀ i : Nat, (l[i]? = none ∧ l'[i]? = none) ∨ ∃ a b, l[i]? = some a ∧ l'[i]? = some b ∧ R a b := by
    intro l l' h
    induction h with
    | nil => exact fun i => .inl ⟨rfl, rfl⟩
    | cons r t ih =>
      intro i
      cases i with
      | zero => exact .inr ⟨_, _, rfl, rfl, r⟩
      | succ i => simpa using ih i
  cases s with
  | arg i => exact one h1 i
  | kw i => exact one h2 i
  | dfl i => exact one h3 i
theorem order_rel {α β : Type} {R : α → β → Prop} {us : List α} {us' : List β} {ws : List α} {ws' : List β} {ds : List α} {ds' : List β} (h1 : Paired R us us') (h2 : Paired R ws ws') (h3 : Paired R ds ds') : ∀ o : List Src, Paired R (order us ws ds o) (order us' ws' ds' o)
  | [] => .nil
  | s :: r => by
    unfold order
    rcases pick_rel h1 h2 h3 s with ⟨e1, e2⟩ | ⟨a, b, e1, e2, q⟩
    · rw [e1, e2]; exact order_rel h1 h2 h3 r
    · rw [e1, e2]; exact .cons q (order_rel h1 h2 h3 r)
/-- a call's form is bound so -/
def ShOk (K : PySem.W.Frag) (fd : FuncData) (ps : List Str) (n : Nat) (ks : List Str) (dvs : List V) (o : List Src) : Prop :=
  ∃ ds : List Value, KBn K fd ps n ks (fun us ws => order us ws ds o) (fun vs zs => order vs zs dvs o)
section
variable {K : PySem.W.Frag} {x qual : Str} {params : Arguments} {body : List Stmt} {scope : Scope} {dvs : List V} {kws : List (Str × V)} {f : Addr} {fd : FuncData} {ps : List Str}
/-- no defaults -/
theorem sh_nn (F : FunD K x qual params body scope [] [] f fd) (n : Nat) (ks : List Str) (o : List Src)
    (h : ∀ (kV doc pm : Value) (an : Option Addr) (cdv ct : Value) (us ws : List Value), us.length = n → ws.length = ks.length → bindArgs (PySem.W.fnOf x qual params body scope .none kV doc pm an cdv ct) ⟨us, ks.zip ws⟩ = pure (ps.zip (order us ws [] o))) : ShOk K fd ps n ks [] o := by
  obtain ⟨oc, od, dV, kV, doc, pm, an, cdv, ct, osl, rfl, lk, hcd, hD, hK⟩ := F.ex
  rcases hD with ⟨_, rfl⟩ | ⟨e, _⟩
  · exact ⟨[], ⟨fun s us ws X l1 l2 => .of_eq (h kV doc pm an cdv ct us ws l1 l2), fun r1 r2 => order_rel r1 r2 .nil o⟩⟩
  · exact absurd rfl e
/-- defaults of positional parameters alone -/
theorem sh_dn (F : FunD K x qual params body scope dvs [] f fd) (n : Nat) (ks : List Str) (o : List Src) (hd : dvs ≠ [])
    (h : ∀ (T : Addr) (kV doc pm : Value) (an : Option Addr) (cdv ct : Value) (us ws its : List Value), us.length = n → ws.length = ks.length → its.length = dvs.length →
      ∃ k, bindArgs (PySem.W.fnOf x qual params body scope (.ref T) kV doc pm an cdv ct) ⟨us, ks.zip ws⟩ = seqItems? (.ref T) >>= k ∧ k (some its.toArray) = pure (ps.zip (order us ws its o))) : ShOk K fd ps n ks dvs o := by
  obtain ⟨oc, od, dV, kV, doc, pm, an, cdv, ct, osl, rfl, lk, hcd, hD, hK⟩ := F.ex
  rcases hD with ⟨e, _⟩ | ⟨_, T, ob, its, m, rfl, lT, oT, rT⟩
  · exact absurd e hd
  · refine ⟨its, ⟨fun s us ws X l1 l2 => ?_, fun r1 r2 => order_rel r1 r2 rT o⟩⟩
    obtain ⟨k, e1, e2⟩ := h T kV doc pm an cdv ct us ws its l1 l2 rT.length.symm
    refine BindsTo.of_looks fun M => ?_
    rw [e1]
    exact looks_items X lT oT (.of_pure e2)
end
end TK

/-! Tk7: when a text of the small interpreter is that of the program. -/
namespace TK
open PySem PySem.Spec L2

def isVis (sc : Scope) (x : Str) : Bool := match sc.names.lookup x with
  | some .local => true
  | some .cell => true
  | some .free => true
  | _ => false
def isGl (sc : Scope) (x : Str) : Bool := decide (sc.names.lookup x = some .globalImplicit)
def isStore (top : Bool) (sc : Scope) (x : Str) : Bool := match sc.names.lookup x with
  | some .local => true
  | some .cell => top
  | _ => false
def notStar : Expr → Bool
  | .Starred _ _ => false
  | _ => true
def notSet : Expr → Bool
  | .Set _ _ _ => false
  | _ => true
def notSlice : Expr → Bool
  | .Slice _ _ _ _ => false
  | _ => true
def notComp : Expr → Bool
  | .ListComp _ _ _ _ => false
  | .SetComp _ _ _ _ => false
  | .DictComp _ _ _ _ _ => false
  | _ => true
def notSuper : Expr → Bool
  | .Call (.Name _ _) [] [] _ => false
  | _ => true
/-- a test by its value alone -/
def plainT : Expr → Bool
  | .UnaryOp .Not _ _ => false
  | .BoolOp _ _ _ => false
  | .IfExp _ _ _ _ => false
  | .Compare _ _ _ _ => false
  | _ => true
def bfName : Bf → Str
  | .len => "len" | .list => "list" | .tuple => "tuple" | .int => "int" | .str => "str" | .repr => "repr"
  | .isinst => "isinstance" | .min2 => "min" | .max2 => "max" | .all => "all" | .any => "any" | .abs => "abs"
def mfName : Mf → Str
  | .join => "join"
def tyNames : List (String × Str) := [("int", "int"), ("bool", "bool"), ("str", "str"), ("tuple", "tuple"), ("list", "list"), ("dict", "dict")]
section
variable (P : Pg) (N : List Str)
mutual
def mG (top : Bool) (sc : Scope) : Tg → Expr → Bool
  | .name i, .Name x _ => decide (N[i]? = some x) && isStore top sc x
  | .tup ts, .Tuple es _ _ => mGs top sc ts es
  | _, _ => false
def mGs (top : Bool) (sc : Scope) : List Tg → List Expr → Bool
  | [], [] => true
  | t :: ts, e :: es => notStar e && mG top sc t e && mGs top sc ts es
  | _, _ => false
end
def ownOf (own : List Nat) : List (Str × Nat) := own.map fun i => (N.getD i "", i)
mutual
def mE (sc : Scope) : CE → Expr → Bool
  | .var i, .Name x _ => decide (N[i]? = some x) && isVis sc x
  | .non, .Constant .none _ _ => true
  | .bl b, .Constant (.bool c) _ _ => b == c
  | .int b, .Constant (.int c) _ _ => decide (b = c)
  | .str b, .Constant (.str c) _ _ => decide (b = c)
  | .glb k, .Name x _ => decide (P.gn[k]? = some x) && isGl sc x
  | .bty n, .Name x _ => decide ((n, x) ∈ tyNames) && decide (x ∈ P.bn) && isGl sc x
  | .bin o a b, .BinOp l op r _ => decide (o = op) && mE sc a l && mE sc b r
  | .neg a, .UnaryOp .USub l _ => mE sc a l
  | .cmp o a b, .Compare l [op] [r] _ => decide (o = op) && mE sc a l && mE sc b r && notSet r
  | .chain o o' a b c, .Compare l [op, op'] [m, r] _ => decide (o = op) && decide (o' = op') && mE sc a l && mE sc b m && mE sc c r && notSet r
  | .and es, .BoolOp .And xs _ => !xs.isEmpty && mEs sc es xs
  | .or es, .BoolOp .Or xs _ => !xs.isEmpty && mEs sc es xs
  | .not a, .UnaryOp .Not l _ => mE sc a l
  | .ite c a b, .IfExp t l r _ => mT sc c t && mE sc a l && mE sc b r
  | .fn f q es kws, .Call (.Name x _) xs [] _ => (match P.fs[f]?.bind fun fi => fi.shs[q]? with
    | some h => decide (P.fn[f]? = some x) && decide (h.ks = []) && kws.isEmpty && isGl sc x && !xs.isEmpty && mEs sc es xs
    | none => false)
  | .bfn f es, .Call (.Name x _) xs [] _ => decide (bfName f = x) && decide (x ∈ P.bn) && isGl sc x && !xs.isEmpty && mEs sc es xs
  | .meth m o es, .Call (.Attribute l n ap) xs [] pos => decide (mfName m = n) && notSuper l && (ap.endLine == pos.line) && mE sc o l && !xs.isEmpty && decide (xs.length < 29) && mEs sc es xs
  | .ix a i, .Subscript l r _ => notSlice r && mE sc a l && mE sc i r
  | .slc a lo hi, .Subscript l (.Slice x y none _) _ => mE sc a l && mO sc lo x && mO sc hi y
  | .tup es, .Tuple xs _ _ => mEs sc es xs
  | .lst _ es, .List xs _ => mEs sc es xs
  | .comp _ t own it cond e, .ListComp elt [⟨tg, iter, ifs, 0⟩] scope _ => notSet iter && blkC N sc scope (ownOf N own) && (slotsT t).all own.contains && mI sc it iter && mG N false (relS scope sc) t tg && mC (relS scope sc) cond ifs && mE (relS scope sc) e elt
  | _, _ => false
def mT (sc : Scope) : CT → Expr → Bool
  | .and es, .BoolOp .And xs _ => !xs.isEmpty && mTs sc es xs
  | .or es, .BoolOp .Or xs _ => !xs.isEmpty && mTs sc es xs
  | .not a, .UnaryOp .Not l _ => mT sc a l
  | .cmp o a b, .Compare l [op] [r] _ => decide (o = op) && mE sc a l && mE sc b r && notSet r
  | .chain o o' a b c, .Compare l [op, op'] [m, r] _ => decide (o = op) && decide (o' = op') && mE sc a l && mE sc b m && mE sc c r && notSet r
  | .val e, x => plainT x && mE sc e x
  | _, _ => false
def mO (sc : Scope) : Option CE → Option Expr → Bool
  | none, none => true
  | some e, some x => mE sc e x
  | _, _ => false
def mC (sc : Scope) : Option CT → List Expr → Bool
  | none, [] => true
  | some e, [x] => mT sc e x
  | _, _ => false
def mEs (sc : Scope) : List CE → List Expr → Bool
  | [], [] => true
  | e :: es, x :: xs => notStar x && mE sc e x && mEs sc es xs
  | _, _ => false
def mTs (sc : Scope) : List CT → List Expr → Bool
  | [], [] => true
  | e :: es, x :: xs => mT sc e x && mTs sc es xs
  | _, _ => false
def mI (sc : Scope) : IT → Expr → Bool
  | .plain e, x => mE sc e x
  | .range1 e, .Call (.Name x _) [a] [] _ => decide (x = "range") && decide (x ∈ P.bn) && isGl sc x && notStar a && mE sc e a
  | .range2 e f, .Call (.Name x _) [a, b] [] _ => decide (x = "range") && decide (x ∈ P.bn) && isGl sc x && notStar a && notStar b && mE sc e a && mE sc f b
  | _, _ => false
end
end
end TK

/-! Tk8: the model's run follows the small interpreter: expressions. -/
namespace TK
open PySem PySem.Spec L2

/-- a def's promise: what the interpreter's call does -/
def spC (G : Tb) (f : List Dt → Sto → Rs Dt) (np : Nat) : Sp := fun vs H Q E => vs.length = np ∧ ∃ w ds, Lies G w H ∧ Reps G w H vs ds ∧ Po G (f ds w.S) w H (fun d w' H' => ∀ v, Rep G w' H' v d → Q v H') E

def okName (x : Str) : Bool := !(x == ("__debug__" : Str)) && !(x == ("__classdict__" : Str)) && !(x == ("__name__" : Str))

/-- what holds of the text's parts at a world -/
structure PgOk (G : Tb) (P : Pg) (C : Cal) (n : Nat) (prog : Program) (w : World) (mg : Str → Option Value) (base : Heap) : Prop where
  gl : ∀ (k : Nat) (x : Str), P.gn[k]? = some x → okName x = true ∧ ∃ d v u, P.gv[k]? = some d ∧ mg x = some u ∧ RelV v u ∧ ∀ w H, Rep G w H v d
  bn : ∀ x ∈ P.bn, mg x = none
  fn : ∀ (f : Nat) (x : Str), P.fn[f]? = some x → okName x = true ∧ mg x = some (.ref (G.fn f)) ∧ PySem.W.keepIn G.K (.ref (G.fn f)) = true
  fs : ∀ (f : Nat) (fi : Fi), P.fs[f]? = some fi → ∃ fd, Keeps prog w G.K mg base n (G.fn f) fd (fi.N.take fi.np) (spC G (C f) fi.np) ∧
    (∀ ds s, C f ds s = .bad ∨ ds.length = fi.np) ∧ ∃ dvs, (∀ w H, Reps G w H dvs fi.dfl) ∧ ∀ q ∈ fi.shs, ShOk G.K fd (fi.N.take fi.np) q.n q.ks dvs q.o

structure XG (G : Tb) (P : Pg) (C : Cal) (n : Nat) (N : List Str) (sc : Scope) (W : XK) (top : Bool) (X : Cx) : Prop where
  eK : X.K = G.K
  eN : X.N = N
  nd : N.Nodup
  eS : X.env.scope = sc
  names : ∀ x ∈ N, okName x = true
  calm : X.calm = true
  room : RoomG n X.A
  pg : PgOk G P C n X.prog X.w X.mg X.base
  pass : ∀ E : XK, (∀ c d H, E c d H → W c d H) → Passes (CX X.prog X.w) X E
  top : top = true → ∀ x, X.fn x = true

theorem okName.d {x : Str} (h : okName x = true) : (x == ("__debug__" : Str)) = false := by
  unfold okName at h
  simp only [Bool.and_eq_true, Bool.not_eq_true'] at h
  exact h.1.1
theorem okName.c {x : Str} (h : okName x = true) : (x == ("__classdict__" : Str)) = false := by
  unfold okName at h
  simp only [Bool.and_eq_true, Bool.not_eq_true'] at h
  exact h.1.2
theorem okName.n {x : Str} (h : okName x = true) : x ≠ "__name__" := by
  unfold okName at h
  simp only [Bool.and_eq_true, Bool.not_eq_true'] at h
  exact fun e => by rw [e] at h; simp at h
theorem vis_of {sc : Scope} {x : Str} (h : isVis sc x = true) : Vis sc x := by
  unfold isVis at h
  unfold Vis
  split at h <;> simp_all
theorem bn_bf (f : Bf) : bootBuiltins (bfName f) = some f.val := by cases f <;> decide +kernel
theorem ok_bf (f : Bf) : okName (bfName f) = true := by cases f <;> decide +kernel
theorem bn_ty : ∀ p ∈ tyNames, bootBuiltins p.2 = some (.type p.1) ∧ okName p.2 = true := by decide +kernel
theorem notStar_each {e : Expr} (h : notStar e = true) (es : List Expr) (env : Env) : starEach (e :: es) env = (false, eval e env) :: starEach es env := by
  cases e <;> first
    | rfl
    | exact absurd (show false = true from h) Bool.false_ne_true
theorem noStars {P : Pg} {N : List Str} {sc : Scope} : ∀ {es : List CE} {xs : List Expr} {pos : Pos} {env : Env}, mEs P N sc es xs = true → (backTo pos (starEach xs env)).any (·.1) = false
  | [], [], _, _, _ => rfl
  | e :: es, x :: xs, pos, env, h => by
    unfold mEs at h
    simp only [Bool.and_eq_true] at h
    rw [notStar_each h.1.1]
    show (false || (backTo pos (starEach xs env)).any (·.1)) = false
    rw [noStars h.2]; rfl
  | [], _ :: _, _, _, h => by unfold mEs at h; exact absurd h Bool.false_ne_true
  | _ :: _, [], _, _, h => by unfold mEs at h; exact absurd h Bool.false_ne_true
theorem marks_of {op : CmpOp} {e : Expr} (h : notSet e = true) : behindInMarks op e = false := by
  cases e <;> first
    | rfl
    | exact absurd (show false = true from h) Bool.false_ne_true
theorem base_of {o : Expr} {a : Str} {env : Env} {t : Sem Value} (h : notSuper o = true) : attributeBase o a env t = t := by
  unfold attributeBase
  split
  · exact absurd (show false = true from h) Bool.false_ne_true
  · rfl
theorem plainT_ok {e : Expr} {env : Env} (h : plainT e = true) (whole : Sem Value) : isTrue e env whole = (do let v ← whole; standAt e.pos; holding [v] (truthy v)) := by
  cases e with
  | UnaryOp op _ _ =>
    cases op <;> first
      | rfl
      | exact absurd (show false = true from h) Bool.false_ne_true
  | BoolOp _ _ _ => exact absurd (show false = true from h) Bool.false_ne_true
  | IfExp _ _ _ _ => exact absurd (show false = true from h) Bool.false_ne_true
  | Compare _ _ _ _ => exact absurd (show false = true from h) Bool.false_ne_true
  | _ => rfl

section
variable {G : Tb} {W : XK} {X : Cx}
theorem tE_op {m n : Ev → Sto → Rs Dt} {f : Dt → Dt → Sto → Rs Dt} {σ : L2.St} {H : Hp} {Q : VK} (h : tE G W (fun ρ s => (m ρ s).bind fun x s1 => (n ρ s1).bind fun y s2 => f x y s2) σ H Q) :
    tOp (r2 G W f) (tE G W m) (tE G W n) σ H Q := by
  obtain ⟨ρ, w, he, L, h⟩ := h
  exact ⟨ρ, w, he, L, (Po.bind h).imp fun x w1 H1 x1 L1 h1 v rv => ⟨ρ, w1, he.ext x1, L1, (Po.bind h1).imp fun y w2 H2 x2 L2 h2 u ru => ⟨w2, x, y, L2, rv.ext x2, ru, h2⟩⟩⟩
theorem tE_args {m : Ev → Sto → Rs (List Dt)} {f : List Dt → Sto → Rs Dt} {σ : L2.St} {H : Hp} {Q : VK} (h : tE G W (fun ρ s => (m ρ s).bind fun x s1 => f x s1) σ H Q) :
    tCB (rL G W f) (tA G W m) σ H Q := by
  obtain ⟨ρ, w, he, L, h⟩ := h
  exact ⟨ρ, w, he, L, (Po.bind h).imp fun ds w1 H1 x1 L1 h1 vs rv => ⟨w1, ds, L1, rv, h1⟩⟩
theorem Reps.paired {w : Wd} {H : Hp} : ∀ {vs : List V} {ds : List Dt}, Reps G w H vs ds → Paired (Rep G w H) vs ds
  | _, _, .nil => .nil
  | _, _, .cons r t => .cons r (Reps.paired t)
theorem Reps.of_paired {w : Wd} {H : Hp} : ∀ {vs : List V} {ds : List Dt}, Paired (Rep G w H) vs ds → Reps G w H vs ds
  | _, _, .nil => .nil
  | _, _, .cons r t => .cons r (Reps.of_paired t)
/-- a walked value: a list, a tuple, a text -/
def iAny (K : PySem.W.Frag) (te : TE) : TI := fun σ H R => te σ H fun x H1 => (∃ a, x = .ref a ∧ (∃ xs, SqL K H1 a xs) ∧ R (Itl K a) H1) ∨ (∃ a, x = .ref a ∧ (∃ xs, SqT K H1 a xs) ∧ R (Itt K a) H1) ∨ (∃ z, x = .str z ∧ R (Its z) H1)
theorem pi_any {tg e : Expr} {te : TE} (he : PE X e te) : PI X tg e (iAny X.K te) := by
  refine ⟨fun pins s σ H R I h => ?_⟩
  refine thn (he.run pins s σ H _ I h) fun v s1 ⟨y, H1, I1, r1, q⟩ => ?_
  rcases q with ⟨a, ex, ⟨xs, hq⟩, q⟩ | ⟨a, ex, ⟨xs, hq⟩, q⟩ | ⟨x, ex, q⟩
  · subst ex
    cases r1
    obtain ⟨its, rv, p, hz⟩ := I1.list hq
    refine wpAny_pyIter_list p.isList ?_
    refine ⟨s1.heap.objs.size, [s1.heap.objs.size], _, _, H1, rfl, I1.kept (t' := s1.toks) fun b o e => Heap.get?_push_of_some _ e, turn_list a _, ⟨_, Heap.get?_push_size _ rfl, rfl, rfl⟩, fun b hb => ?_, q⟩
    obtain rfl : b = s1.heap.objs.size := by simpa using hb
    exact I1.fpOk (Nat.le_refl _) (I1.hok.fresh (Nat.le_refl _))
  · subst ex
    cases r1
    obtain ⟨its, rv, p, hz⟩ := I1.tuple hq
    refine wpAny_pyIter_tuple (show s1.heap.IsTuple a its.toArray from p) ?_
    refine ⟨s1.heap.objs.size, [s1.heap.objs.size], _, _, H1, rfl, I1.kept (t' := s1.toks) fun b o e => Heap.get?_push_of_some _ e, turn_tuple a _, ⟨_, Heap.get?_push_size _ rfl, rfl, rfl⟩, fun b hb => ?_, q⟩
    obtain rfl : b = s1.heap.objs.size := by simpa using hb
    exact I1.fpOk (Nat.le_refl _) (I1.hok.fresh (Nat.le_refl _))
  · subst ex
    obtain ⟨t, rfl⟩ := r1
    cases ha : x.cps.all (· < 128)
    · exact wpAny_pyIter_wide ha (pi_one (tk := s1.toks) I1 _ (turn_str _ x t "str_iterator" (.inr rfl)) ⟨_, Heap.get?_push_size _ rfl, rfl, rfl⟩ q)
    · exact wpAny_pyIter_ascii ha (pi_one (tk := s1.toks) I1 _ (turn_str _ x t "str_ascii_iterator" (.inl rfl)) ⟨_, Heap.get?_push_size _ rfl, rfl, rfl⟩ q)
/-- the walk J gives the items ds wherever the world goes on from w, H -/
structure Gives (G : Tb) (w : Wd) (H : Hp) (J : It) (ds : List Dt) : Prop where
  go : ∀ (i : Nat) (d : Dt), ds[i]? = some d → ∀ w' H', Ext w H w' H' → Lies G w' H' → J.go i H' ∧ ∀ x H2, J.yld i H' x H2 → H2 = H' ∧ Rep G w' H' x d
  stop : ∀ w' H', Ext w H w' H' → Lies G w' H' → J.stop ds.length H'
theorem gives_list {w : Wd} {H : Hp} {a : Addr} {xs : List V} {ds : List Dt} (hK : X.K = G.K) (hl : LsAt G w H a xs) (r : Reps G w H xs ds) : Gives G w H (Itl X.K a) ds where
  go := fun i d e w' H' x L => by
    have h' := hl.ext x
    obtain ⟨y, e1, ry⟩ := (r.ext x).get e
    exact ⟨⟨xs, y, SqL.of h'.1, e1⟩, fun z H2 ⟨e2, q⟩ => ⟨e2, by
      have e3 := q xs (SqL.of h'.1)
      rw [e1] at e3
      cases e3
      exact ry⟩⟩
  stop := fun w' H' x L => ⟨xs, SqL.of (hl.ext x).1, by rw [r.length]; exact Nat.le_refl _⟩
theorem gives_tup {w : Wd} {H : Hp} {a : Addr} {xs : List V} {ds : List Dt} (hK : X.K = G.K) (hl : TpAt G w H a xs) (r : Reps G w H xs ds) : Gives G w H (Itt X.K a) ds where
  go := fun i d e w' H' x L => by
    have h' := hl.ext x
    obtain ⟨y, e1, ry⟩ := (r.ext x).get e
    exact ⟨⟨xs, y, hK ▸ h'.sq, e1⟩, fun z H2 ⟨e2, q⟩ => ⟨e2, by
      have e3 := q xs (hK ▸ h'.sq)
      rw [e1] at e3
      cases e3
      exact ry⟩⟩
  stop := fun w' H' x L => ⟨xs, hK ▸ (hl.ext x).sq, by rw [r.length]; exact Nat.le_refl _⟩
theorem gives_str {w : Wd} {H : Hp} (z : Str) : Gives G w H (Its z) (z.cps.toList.map fun c => .str ⟨#[c]⟩) where
  go := fun i d e w' H' x L => by
    rw [List.getElem?_map] at e
    cases q : z.cps.toList[i]? with
    | none => rw [q] at e; cases e
    | some c =>
      rw [q] at e; cases e
      have hi := (List.getElem?_eq_some_iff.mp q).1
      refine ⟨by show i < z.cps.size; simpa using hi, fun y H2 ⟨e2, c', ec, ey⟩ => ⟨e2, ?_⟩⟩
      have ec' : z.cps.toList[i]? = some c' := by simpa using ec
      rw [q] at ec'
      cases ec'
      rw [ey]
      exact .str _
  stop := fun w' H' x L => by show z.cps.size ≤ _; simp
theorem gives_range {w : Wd} {H : Hp} (a b : Int) : Gives G w H (Itr a (b - a).toNat) (ranged a b) where
  go := fun i d e w' H' x L => by
    unfold ranged at e
    rw [List.getElem?_map] at e
    cases q : (List.range (b - a).toNat)[i]? with
    | none => rw [q] at e; cases e
    | some c =>
      rw [q] at e; cases e
      obtain ⟨hi, ec⟩ := List.getElem?_eq_some_iff.mp q
      rw [List.length_range] at hi
      rw [List.getElem_range] at ec
      subst ec
      exact ⟨hi, fun y H2 ⟨e2, ey⟩ => ⟨e2, by rw [ey]; exact .int _⟩⟩
  stop := fun w' H' x L => by
    show (b - a).toNat ≤ _
    unfold ranged
    simp
/-- what walks: the items by the interpreter -/
def tI (G : Tb) (W : XK) (m : Ev → Sto → Rs (List Dt)) : TI := fun σ H R => ∃ ρ w, EvR G w H σ ρ ∧ Lies G w H ∧ Po G (m ρ w.S) w H (fun ds w' H' => ∀ J, Gives G w' H' J ds → R J H') W
theorem PI.imp {tg e : Expr} {t t' : TI} (h : PI X tg e t) (k : ∀ σ H Q, t' σ H Q → t σ H Q) : PI X tg e t' := ⟨fun pins s σ H Q I q => h.run pins s σ H Q I (k σ H Q q)⟩
/-- a test's reading out of a value's -/
theorem tT_of {m : Ev → Sto → Rs Dt} {σ : L2.St} {H : Hp} {Q : Bool → Hp → Prop} (hK : X.K = G.K) (h : tT G W (fun ρ s => (m ρ s).bind fun x s1 => ofO s1 (truth s1 x)) σ H Q) :
    tE G W m σ H (fun x H' => ∃ k, TruV X.K x H' k ∧ Q k H') := by
  obtain ⟨ρ, w, he, L, h⟩ := h
  refine ⟨ρ, w, he, L, (Po.bind h).imp fun d w1 H1 x1 L1 h1 v rv => ?_⟩
  obtain ⟨b, e, q⟩ := Po.ofO h1 L1
  exact ⟨b, hK ▸ truV L1 rv e, q⟩
end
end TK

/-! Tk9: items, slices, displays, comprehensions. -/
namespace TK
open PySem PySem.Spec L2

section
variable {G : Tb} {W : XK} {X : Cx}
theorem atI_rep {w : Wd} {H : Hp} {vs : List V} {ds : List Dt} {i : Int} {d : Dt} (r : Reps G w H vs ds) (h : atI ds i = some d) : ∃ v, atI vs i = some v ∧ Rep G w H v d := by
  unfold atI at h ⊢
  rw [r.length]
  cases e : ixN ds.length i with
  | none => rw [e] at h; cases h
  | some j =>
    rw [e] at h
    obtain ⟨v, e2, q⟩ := r.get (show ds[j]? = some d from h)
    exact ⟨v, e2, q⟩
theorem ixR (hK : X.K = G.K) : IxR X (r2 G W ixd) := by
  intro value slice pins s σ H x y v u Q I rx ry h sub
  obtain ⟨w, d, e, L, r1, r2, h⟩ := h
  unfold ixd at h
  split at h
  · rename_i z k
    cases r1; cases r2
    split at h
    · rename_i hz
      obtain ⟨a, e1, h⟩ := Po.ofO h L
      cases q : atI z.cps.toList k with
      | none => rw [q] at e1; cases e1
      | some c =>
        rw [q] at e1; cases e1
        exact ix_str value slice pins s σ H _ _ v u Q I rx ry ⟨z, k, c, rfl, rfl, hz, q, h _ (.str _)⟩ sub
    · exact (show False from h).elim
  · cases r2
    split at h
    · rename_i xs e1
      obtain ⟨a, vs, rfl, hs, q⟩ := r1.seqv L e1
      obtain ⟨d, e2, h⟩ := Po.ofO h L
      obtain ⟨z, e3, rz⟩ := atI_rep q e2
      rcases hs with hs | hs
      · exact ix_list value slice pins s σ H _ _ v u Q I rx ry ⟨a, vs, _, z, rfl, rfl, SqL.of hs, e3, h z rz⟩ sub
      · exact ix_tup value slice pins s σ H _ _ v u Q I rx ry ⟨a, vs, _, z, rfl, rfl, hK ▸ hs.sq, e3, h z rz⟩ sub
    · exact (show False from h).elim
  · exact (show False from h).elim
def rS (G : Tb) (W : XK) : V → Option Int → Option Int → Hp → VK → Prop := fun x lo hi H Q => ∃ w d, Lies G w H ∧ Rep G w H x d ∧ Po G (slcd d lo hi w.S) w H (fun r w' H' => ∀ v, Rep G w' H' v r → Q v H') W
theorem cut_rep {w : Wd} {H : Hp} {vs : List V} {ds : List Dt} (r : Reps G w H vs ds) (lo hi : Option Int) : Reps G w H (cutV vs lo hi) (cutD ds lo hi) := by
  unfold cutV cutD
  rw [r.length]
  exact (r.drop _).take _
theorem sIx_whole {α : Type} (xs : List α) (a b : Nat) (h1 : a = 0) (h2 : b = xs.length) : (xs.drop a).take (b - a) = xs := by
  subst h1 h2
  simp
theorem slR (hK : X.K = G.K) : SlR X (rS G W) := by
  intro pins s σ H x v vl vu lo hi sl Q I rx hs pl pu h
  obtain ⟨w, d, L, r1, h⟩ := h
  unfold slcd at h
  split at h
  · cases r1
    split at h
    · exact sl_str pins s σ H _ v vl vu lo hi sl Q I rx hs pl pu ⟨_, rfl, by assumption, Po.ok1 h rfl L (.str _)⟩
    · exact (show False from h).elim
  · cases r1 with
    | tup ha q =>
      refine sl_tupA pins s σ H _ v vl vu lo hi sl Q I rx hs pl pu ⟨_, _, rfl, hK ▸ ha.sq, fun z => ?_, fun z p hp => ?_⟩
      · have e : cutD _ lo hi = _ := sIx_whole _ _ _ (by rw [← q.length]; exact z.1) (by rw [← q.length]; exact z.2)
        rw [e] at h
        exact Po.ok1 h rfl L (.tup ha q)
      · exact Po.ok' h rfl (ext_new L hp _) (lies_new L hp _) _ (rep_tup L hp (cut_rep q lo hi))
  · cases r1 with
    | @scr a xs _ ha q =>
      have sq : SqL X.K H a xs := by
        rw [hK]
        rcases ha with ⟨z, _⟩ | z
        · exact .inl z
        · exact .inr z
      exact sl_list pins s σ H _ v vl vu lo hi sl Q I rx hs pl pu ⟨_, _, rfl, sq, fun p hp => Po.ok' h rfl (ext_new L hp _) (lies_new L hp _) _ (rep_lst L hp (cut_rep q lo hi))⟩
  · cases e2 : lsv w.S _ with
    | none => rw [e2] at h; exact (show False from h).elim
    | some ys =>
      rw [e2] at h
      obtain ⟨a, vs, rfl, ha, q⟩ := r1.lsv L e2
      exact sl_list pins s σ H _ v vl vu lo hi sl Q I rx hs pl pu ⟨_, _, rfl, SqL.of ha, fun p hp => Po.ok' h rfl (ext_new L hp _) (lies_new L hp _) _ (rep_lst L hp (cut_rep q lo hi))⟩
/-- an optional bound of a slice -/
def tOI (G : Tb) (W : XK) (m : Ev → Sto → Rs (Option Int)) : TO := fun σ H Q => ∃ ρ w, EvR G w H σ ρ ∧ Lies G w H ∧ Po G (m ρ w.S) w H (fun o _ H' => Q o H') W
/-- a list display -/
theorem mk_list {w : Wd} {H : Hp} {xs : List V} {ds : List Dt} {c : Bool} {Q : VK} {p : Addr} (L : Lies G w H) (r : Reps G w H xs ds) (h : Po G (mkl c ds w.S) w H (fun d w' H' => ∀ v, Rep G w' H' v d → Q v H') W) :
    xs.length ≤ sizeLine ∧ (H p = none → Q (.ref p) (upd H p (.lst xs))) := by
  unfold mkl at h
  split at h
  · rename_i hz
    refine ⟨by rw [r.length]; exact hz, fun hp => ?_⟩
    cases c with
    | false => exact Po.ok' h rfl (ext_new L hp _) (lies_new L hp _) _ (rep_lst L hp r)
    | true =>
      have x := ext_cell L hp (.lst ds) (.lst xs)
      refine Po.ok' (w' := w.cell (.lst ds) p) h rfl x (lies_cell L hp _ _ ⟨xs, upd_same, r.ext x⟩) _ (rep_cell L _ _)
  · exact (show False from h).elim
theorem tE_tup {m : Ev → Sto → Rs (List Dt)} {σ : L2.St} {H : Hp} {Q : VK} (h : tE G W (fun ρ s => (m ρ s).bind fun ds s1 => if ds.length ≤ sizeLine then .ok (.tup ds) s1 else .bad) σ H Q) : tTup (tA G W m) σ H Q := by
  obtain ⟨ρ, w, he, L, h⟩ := h
  refine ⟨ρ, w, he, L, (Po.bind h).imp fun ds w1 H1 x1 L1 h1 vs rv => ?_⟩
  split at h1
  · exact ⟨by rw [rv.length]; assumption, fun p hp => Po.ok' h1 rfl (ext_new L1 hp _) (lies_new L1 hp _) _ (rep_tup L1 hp rv)⟩
  · exact (show False from h1).elim
theorem tE_lst {c : Bool} {m : Ev → Sto → Rs (List Dt)} {σ : L2.St} {H : Hp} {Q : VK} (h : tE G W (fun ρ s => (m ρ s).bind fun ds s1 => mkl c ds s1) σ H Q) : tLst (tA G W m) σ H Q := by
  obtain ⟨ρ, w, he, L, h⟩ := h
  exact ⟨ρ, w, he, L, (Po.bind h).imp fun ds w1 H1 x1 L1 h1 vs rv => ⟨(mk_list (p := 0) L1 rv h1).1, fun p hp => (mk_list L1 rv h1).2 hp⟩⟩
theorem few_of {P : Pg} {N : List Str} {sc : Scope} : ∀ {es : List CE} {xs : List Expr} {pos : Pos} {env : Env}, mEs P N sc es xs = true → (backTo pos (starEach xs env)).all (fun x => !x.1) = true
  | [], [], _, _, _ => rfl
  | e :: es, x :: xs, pos, env, h => by
    unfold mEs at h
    simp only [Bool.and_eq_true] at h
    rw [notStar_each h.1.1]
    show (true && (backTo pos (starEach xs env)).all (fun x => !x.1)) = true
    rw [few_of h.2]; rfl
  | [], _ :: _, _, _, h => by unfold mEs at h; exact absurd h Bool.false_ne_true
  | _ :: _, [], _, _, h => by unfold mEs at h; exact absurd h Bool.false_ne_true

/-! ### targets -/
def Same1 (vs : List Nat) (σ σ' : L2.St) : Prop := σ'.length = σ.length ∧ ∀ i, i ∉ vs → σ'[i]? = σ[i]?
def gT (G : Tb) (t : Tg) : TG := fun v σ H Q => ∃ ρ w d, EvR G w H σ ρ ∧ Lies G w H ∧ Rep G w H v d ∧ ∃ ρ', bindT t d ρ = some ρ' ∧ ∀ σ', EvR G w H σ' ρ' → Same1 (slotsT t) σ σ' → Q σ' H
def gTs (G : Tb) (t : List Tg) : TGs := fun vs σ H Q => ∃ ρ w ds, EvR G w H σ ρ ∧ Lies G w H ∧ Reps G w H vs ds ∧ ∃ ρ', bindTs t ds ρ = some ρ' ∧ ∀ σ', EvR G w H σ' ρ' → Same1 (slotsTs t) σ σ' → Q σ' H
theorem PG.imp {e : Expr} {t t' : TG} (h : PG X e t) (k : ∀ v σ H Q, t' v σ H Q → t v σ H Q) : PG X e t' := ⟨fun pins s σ H v u Q I r q => h.run pins s σ H v u Q I r (k v σ H Q q)⟩
theorem PGs.imp {e : List Expr} {t t' : TGs} (h : PGs X e t) (k : ∀ v σ H Q, t' v σ H Q → t v σ H Q) : PGs X e t' := ⟨fun pins s σ H v u Q I r q => h.run pins s σ H v u Q I r (k v σ H Q q)⟩
theorem notStar_asg {e : Expr} (h : notStar e = true) (es : List Expr) (env : Env) : assignEach (e :: es) env = (false, assign e env) :: assignEach es env := by
  cases e <;> first
    | rfl
    | exact absurd (show false = true from h) Bool.false_ne_true
theorem mGs_len {N : List Str} {top : Bool} {sc : Scope} {env : Env} : ∀ {ts : List Tg} {es : List Expr}, mGs N top sc ts es = true → (assignEach es env).length = ts.length ∧ (assignEach es env).findIdx? (·.1) = none
  | [], [], _ => ⟨rfl, rfl⟩
  | t :: ts, e :: es, h => by
    unfold mGs at h
    simp only [Bool.and_eq_true] at h
    rw [notStar_asg h.1.1]
    obtain ⟨h1, h2⟩ := mGs_len (env := env) h.2
    refine ⟨by simp only [List.length_cons, h1], ?_⟩
    rw [List.findIdx?_cons]
    simp only [Bool.false_eq_true, if_false, h2]
    rfl
  | [], _ :: _, h => by unfold mGs at h; exact absurd h Bool.false_ne_true
  | _ :: _, [], h => by unfold mGs at h; exact absurd h Bool.false_ne_true
theorem bindTs_len {ρ' : Ev} : ∀ {ts : List Tg} {ds : List Dt} {ρ : Ev}, bindTs ts ds ρ = some ρ' → ds.length = ts.length
  | [], [], _, _ => rfl
  | t :: ts, d :: ds, ρ, h => by
    unfold bindTs at h
    split at h
    · rw [List.length_cons, List.length_cons, bindTs_len h]
    · cases h
  | [], _ :: _, _, h => by unfold bindTs at h; cases h
  | _ :: _, [], _, h => by unfold bindTs at h; cases h
mutual
theorem gOk {N : List Str} {top : Bool} {sc : Scope} (hK : X.K = G.K) (eN : X.N = N) (nd : N.Nodup) (eS : X.env.scope = sc) (calm : X.calm = true) (tp : top = true → ∀ x, X.fn x = true) : ∀ {t : Tg} {e : Expr}, mG N top sc t e = true → PG X e (gT G t)
  | .name i, .Name x p, h => by
    unfold mG at h
    simp only [Bool.and_eq_true, decide_eq_true_eq] at h
    obtain ⟨h1, h2⟩ := h
    have loc : Loc X.env.scope x ∧ (X.fn x = true ∨ X.env.scope.names.lookup x = some .local) := by
      rw [eS]
      unfold isStore at h2
      split at h2
      · exact ⟨.inl (by assumption), .inr (by assumption)⟩
      · exact ⟨.inr (by assumption), .inl (tp h2 x)⟩
      · cases h2
    refine PG.imp (pg_name (i := i) (by rw [eN]; exact nd) (by rw [eN]; exact h1) loc.1 loc.2) ?_
    rintro v σ H Q ⟨ρ, w, d, he, L, r, ρ', e, q⟩
    unfold bindT at e
    split at e
    · cases e
      refine q _ (he.set i r) ⟨List.length_set .., fun j hj => ?_⟩
      have hj' : j ≠ i := fun z => hj (by rw [z]; simp [slotsT])
      rw [List.getElem?_set_ne (Ne.symm hj')]
    · cases e
  | .tup ts, .Tuple es k p, h => by
    unfold mG at h
    obtain ⟨l1, l2⟩ := mGs_len (env := X.env) h
    refine PG.imp (pg_tup (n := ts.length) calm (gsOk hK eN nd eS calm tp h) l1 l2) ?_
    rintro v σ H Q ⟨ρ, w, d, he, L, r, ρ', e, q⟩
    cases d with
    | tup ds =>
      cases r with
      | tup ha rs =>
        unfold bindT at e
        exact ⟨_, _, rfl, hK ▸ ha.sq, by rw [rs.length]; exact bindTs_len (ρ := ρ) e, ρ, w, ds, he, L, rs, ρ', e, fun σ' h1 h2 => q σ' h1 (by unfold slotsT; exact h2)⟩
    | _ => unfold bindT at e; cases e
theorem gsOk {N : List Str} {top : Bool} {sc : Scope} (hK : X.K = G.K) (eN : X.N = N) (nd : N.Nodup) (eS : X.env.scope = sc) (calm : X.calm = true) (tp : top = true → ∀ x, X.fn x = true) : ∀ {t : List Tg} {e : List Expr}, mGs N top sc t e = true → PGs X e (gTs G t)
  | [], [], h => by
    refine PGs.imp pgs_nil ?_
    rintro vs σ H Q ⟨ρ, w, ds, he, L, r, ρ', e, q⟩
    cases ds with
    | nil =>
      cases r
      unfold bindTs at e
      cases e
      exact ⟨rfl, q _ he ⟨rfl, fun _ _ => rfl⟩⟩
    | cons d ds => unfold bindTs at e; cases e
  | t :: ts, e :: es, h => by
    unfold mGs at h
    simp only [Bool.and_eq_true] at h
    refine PGs.imp (pgs_cons (gOk hK eN nd eS calm tp h.1.2) (gsOk hK eN nd eS calm tp h.2) (by rw [notStar_asg h.1.1]; rfl)) ?_
    rintro vs σ H Q ⟨ρ, w, ds, he, L, r, ρ', e, q⟩
    cases r with
    | nil => unfold bindTs at e; cases e
    | cons r1 rs =>
      unfold bindTs at e
      split at e
      · rename_i ρ1 e1
        refine ⟨_, _, rfl, ρ, w, _, he, L, r1, ρ1, e1, fun σ' he' s1 => ⟨ρ1, w, _, he', L, rs, ρ', e, fun σ2 he2 s2 => q σ2 he2 ⟨s2.1.trans s1.1, fun i hi => ?_⟩⟩⟩
        have h1 : i ∉ slotsT t := fun z => hi (by unfold slotsTs; exact List.mem_append_left _ z)
        have h2 : i ∉ slotsTs ts := fun z => hi (by unfold slotsTs; exact List.mem_append_right _ z)
        exact (s2.2 i h2).trans (s1.2 i h1)
      · cases e
  | [], _ :: _, h => by unfold mGs at h; exact absurd h Bool.false_ne_true
  | _ :: _, [], h => by unfold mGs at h; exact absurd h Bool.false_ne_true
end
end
end TK

/-! Tk10: comprehensions. -/
namespace TK
open PySem PySem.Spec L2
abbrev noW : XK := fun _ _ _ => False
theorem wipe_get (σ : L2.St) : ∀ (vs : List Nat) (i : Nat), (wipe σ vs)[i]? = if i ∈ vs then (if i < σ.length then some none else none) else σ[i]?
  | [], i => by simp [wipe]
  | v :: vs, i => by
    unfold wipe
    by_cases h : v = i
    · subst h
      rw [if_pos List.mem_cons_self]
      by_cases hl : v < σ.length
      · rw [List.getElem?_set_self (by rw [wipe_length]; exact hl), if_pos hl]
      · rw [List.getElem?_eq_none (by rw [List.length_set, wipe_length]; omega), if_neg hl]
    · rw [List.getElem?_set_ne h, wipe_get σ vs i]
      by_cases hm : i ∈ vs
      · rw [if_pos hm, if_pos (List.mem_cons_of_mem _ hm)]
      · rw [if_neg hm, if_neg (by rw [List.mem_cons, not_or]; exact ⟨fun e => h e.symm, hm⟩)]
theorem wipe_eq {σ σ' : L2.St} {vs : List Nat} (hl : σ'.length = σ.length) (h : ∀ i, i ∉ vs → σ'[i]? = σ[i]?) : wipe σ' vs = wipe σ vs := by
  refine List.ext_getElem? fun i => ?_
  rw [wipe_get, wipe_get, hl]
  by_cases hm : i ∈ vs
  · rw [if_pos hm, if_pos hm]
  · rw [if_neg hm, if_neg hm]; exact h i hm
theorem wipeE_get (ρ : Ev) : ∀ (vs : List Nat) (i : Nat), (wipeE ρ vs)[i]? = if i ∈ vs then (if i < ρ.length then some none else none) else ρ[i]?
  | [], i => by simp [wipeE]
  | v :: vs, i => by
    have hlen : ∀ vs : List Nat, (wipeE ρ vs).length = ρ.length := by
      intro vs
      induction vs with
      | nil => rfl
      | cons a r ih => unfold wipeE; rw [List.length_set, ih]
    unfold wipeE
    by_cases h : v = i
    · subst h
      rw [if_pos List.mem_cons_self]
      by_cases hl : v < ρ.length
      · rw [List.getElem?_set_self (by rw [hlen]; exact hl), if_pos hl]
      · rw [List.getElem?_eq_none (by rw [List.length_set, hlen]; omega), if_neg hl]
    · rw [List.getElem?_set_ne h, wipeE_get ρ vs i]
      by_cases hm : i ∈ vs
      · rw [if_pos hm, if_pos (List.mem_cons_of_mem _ hm)]
      · rw [if_neg hm, if_neg (by rw [List.mem_cons, not_or]; exact ⟨fun e => h e.symm, hm⟩)]
theorem wipeE_len (ρ : Ev) : ∀ vs : List Nat, (wipeE ρ vs).length = ρ.length
  | [] => rfl
  | v :: vs => by unfold wipeE; rw [List.length_set, wipeE_len ρ vs]
theorem EvR.wipe {G : Tb} {w : Wd} {H : Hp} {σ : L2.St} {ρ : Ev} (h : EvR G w H σ ρ) (vs : List Nat) : EvR G w H (wipe σ vs) (wipeE ρ vs) := by
  refine ⟨by rw [wipe_length, wipeE_len]; exact h.1, fun i d e => ?_⟩
  rw [wipeE_get] at e
  rw [wipe_get]
  by_cases hm : i ∈ vs
  · rw [if_pos hm] at e
    split at e <;> cases e
  · rw [if_neg hm] at e
    rw [if_neg hm]
    exact h.2 i d e

/-- an address out of sight -/
def Wd.hide (w : Wd) (D : Addr) : Wd := ⟨w.S, w.B, D :: w.hid⟩
section
variable {G : Tb} {w w' : Wd} {H H' : Hp} {D : Addr}
theorem hide_mu {a : Addr} (h : (w.hide D).mu a) : a = D ∨ w.mu a := by
  rcases h with h | h
  · rcases List.mem_cons.mp h with q | q
    · exact .inl q
    · exact .inr (.inl q)
  · exact .inr (.inr h)
theorem hide_mu' {a : Addr} (h : w.mu a) : (w.hide D).mu a := by
  rcases h with h | h
  · exact .inl (List.mem_cons_of_mem _ h)
  · exact .inr h
theorem ext_hide (L : Lies G w H) (hD : H D = none) (o : HO) : Ext w H (w.hide D) (upd H D o) where
  pre := List.prefix_refl _
  keep := (ext_new L hD o).keep
  new := fun a z => (hide_mu z).elim (fun e => .inr (e ▸ hD)) .inl
  stay := (ext_new L hD o).stay
  fresh := fun a z => .inl z
  hid := fun a h => List.mem_cons_of_mem _ h
  hk := (ext_new L hD o).hk
theorem lies_hide (L : Lies G w H) (hD : H D = none) (o : HO) : Lies G (w.hide D) (upd H D o) where
  len := L.len
  nd := L.nd
  at_ := fun n a ob e1 e2 => ObAt.keep (ext_hide L hD o) (L.at_ n a ob e1 e2) (upd_ne fun z => L.fresh hD (z ▸ List.mem_of_getElem? e1))
  there := fun a h => (ext_new L hD o).stay a (L.there a h)
  hthere := fun a h => by
    rcases List.mem_cons.mp h with q | q
    · subst q
      exact ⟨(by rw [upd_same]; exact fun z => nomatch z), L.fresh hD⟩
    · exact ⟨(ext_new L hD o).stay a (L.hthere a q).1, (L.hthere a q).2⟩
/-- a hidden list grows -/
theorem ext_grow (h : D ∈ w.hid) {o o' : HO} (e : H D = some o) : Ext0 w H w (upd H D o') where
  pre := List.prefix_refl _
  keep := fun a u m q => ⟨u, by rw [upd_ne (show a ≠ D from fun z => m (.inl (by rw [z]; exact h)))]; exact q, fun z r => by
    have ne : a ≠ D := fun z => m (.inl (by rw [z]; exact h))
    rcases r with r | ⟨ob, r⟩
    · exact .inl (by rw [upd_ne ne]; exact r)
    · exact .inr ⟨ob, by rw [upd_ne ne]; exact r⟩, fun _ _ _ _ => rfl, fun _ _ => rfl⟩
  new := fun a z => .inl z
theorem lies_grow (L : Lies G w H) (h : D ∈ w.hid) {o o' : HO} (e : H D = some o) : Lies G w (upd H D o') where
  len := L.len
  nd := L.nd
  at_ := fun n a ob e1 e2 => ObAt.keep0 (ext_grow h e) (L.at_ n a ob e1 e2) (upd_ne fun z => (L.hthere D h).2 (z ▸ List.mem_of_getElem? e1))
  there := fun a q => by
    unfold upd
    split
    · exact fun z => nomatch z
    · exact L.there a q
  hthere := fun a q => ⟨(by
    unfold upd
    split
    · exact fun z => nomatch z
    · exact (L.hthere a q).1), (L.hthere a q).2⟩
/-- .. seen from before it was there -/
theorem Ext.grown {w0 : Wd} {H0 : Hp} (x : Ext w0 H0 w H) (hD : H0 D = none) (hh : D ∉ w0.hid) (o : HO) : Ext w0 H0 w (upd H D o) where
  pre := x.pre
  keep := fun a u m q => by
    have ne : a ≠ D := ne_of_none q hD
    obtain ⟨u', e, k, i, l⟩ := x.keep a u m q
    refine ⟨u', by rw [upd_ne ne]; exact e, fun z r => ?_, i, l⟩
    rcases k z r with r | ⟨ob, r⟩
    · exact .inl (by rw [upd_ne ne]; exact r)
    · exact .inr ⟨ob, by rw [upd_ne ne]; exact r⟩
  new := x.new
  stay := fun a q => by
    unfold upd
    split
    · exact fun z => nomatch z
    · exact x.stay a q
  fresh := x.fresh
  hid := x.hid
  hk := fun a q => by rw [upd_ne (show a ≠ D from fun z => hh (by rw [← z]; exact q))]; exact x.hk a q
/-- in sight again -/
def Wd.show_ (w : Wd) (D : Addr) : Wd := ⟨w.S, w.B, w.hid.filter (· ≠ D)⟩
theorem show_mu {a : Addr} (h : (w.show_ D).mu a) : w.mu a := by
  rcases h with h | h
  · exact .inl (List.mem_filter.mp h).1
  · exact .inr h
theorem show_not (L : Lies G w H) (h : D ∈ w.hid) : ¬ (w.show_ D).mu D := by
  rintro (q | ⟨n, o, e, _⟩)
  · have := (List.mem_filter.mp q).2
    simp at this
  · exact (L.hthere D h).2 (List.mem_of_getElem? e)
theorem ext_show : Ext0 w H (w.show_ D) H := ⟨List.prefix_refl _, fun a u m q => ⟨u, q, fun _ z => z, fun _ _ _ _ => rfl, fun _ _ => rfl⟩, fun a z => .inl (show_mu z)⟩
theorem lies_show (L : Lies G w H) : Lies G (w.show_ D) H where
  len := L.len
  nd := L.nd
  at_ := fun n a ob e1 e2 => ObAt.keep0 ext_show (L.at_ n a ob e1 e2) rfl
  there := L.there
  hthere := fun a q => L.hthere a (List.mem_filter.mp q).1
theorem Ext.shown {w0 : Wd} {H0 : Hp} (x : Ext w0 H0 w H) (hh : D ∉ w0.hid) : Ext w0 H0 (w.show_ D) H where
  pre := x.pre
  keep := x.keep
  new := fun a z => x.new a (show_mu z)
  stay := x.stay
  fresh := x.fresh
  hid := fun a q => List.mem_filter.mpr ⟨x.hid a q, by
    have : a ≠ D := fun z => hh (z ▸ q)
    simpa using this⟩
  hk := x.hk

/-- a hidden list becomes a cell -/
theorem open_mu (L : Lies G w H) (hin : D ∈ w.hid) {o : Ob} {a : Addr} (h : ((w.show_ D).cell o D).mu a) : w.mu a := by
  rcases cell_mu (w := w.show_ D) L.len h with q | q
  · exact show_mu q
  · exact .inl (by rw [q]; exact hin)
theorem ext0_open (L : Lies G w H) (hin : D ∈ w.hid) {o : Ob} : Ext0 w H ((w.show_ D).cell o D) H :=
  ⟨List.prefix_append _ _, fun a u m q => ⟨u, q, fun _ z => z, fun _ _ _ _ => rfl, fun _ _ => rfl⟩, fun a z => .inl (open_mu L hin z)⟩
theorem lies_open (L : Lies G w H) (hin : D ∈ w.hid) (o : Ob) (hn : H D ≠ none) (h : ObAt G ((w.show_ D).cell o D) H D o) : Lies G ((w.show_ D).cell o D) H where
  len := by show (w.B ++ [D]).length = (w.S ++ [o]).length; simp [L.len]
  nd := by
    show (w.B ++ [D]).Nodup
    rw [List.nodup_append]
    refine ⟨L.nd, by simp, fun a ha b hb => ?_⟩
    have : b = D := by simpa using hb
    subst this
    exact fun z => (L.hthere b hin).2 (z ▸ ha)
  at_ := fun n a ob e1 e2 => by
    have e1' : (w.B ++ [D])[n]? = some a := e1
    have e2' : (w.S ++ [o])[n]? = some ob := e2
    by_cases hn : n < w.B.length
    · rw [List.getElem?_append_left hn] at e1'
      rw [List.getElem?_append_left (by rw [← L.len]; exact hn)] at e2'
      exact ObAt.keep0 (ext0_open L hin) (L.at_ n a ob e1' e2') rfl
    · rw [List.getElem?_append_right (by omega)] at e1'
      rw [List.getElem?_append_right (by rw [← L.len]; omega)] at e2'
      have z : n - w.B.length = 0 := by
        have := (List.getElem?_eq_some_iff.mp e1').1
        simp at this
        omega
      rw [z] at e1'
      rw [← L.len, z] at e2'
      have ea : a = D := by simpa using e1'.symm
      have eo : ob = o := by simpa using e2'.symm
      subst ea eo
      exact h
  there := fun a h => by
    have h' : a ∈ w.B ++ [D] := h
    rcases List.mem_append.mp h' with q | q
    · exact L.there a q
    · have : a = D := by simpa using q
      rw [this]; exact hn
  hthere := fun a q => by
    obtain ⟨q1, q2⟩ := List.mem_filter.mp q
    refine ⟨(L.hthere a q1).1, fun z => ?_⟩
    have h' : a ∈ w.B ++ [D] := z
    rcases List.mem_append.mp h' with z | z
    · exact (L.hthere a q1).2 z
    · have : a = D := by simpa using z
      rw [this] at q2
      simp at q2
theorem ext_open {w0 : Wd} {H0 : Hp} (x : Ext w0 H0 w H) (L : Lies G w H) (hin : D ∈ w.hid) (hh : D ∉ w0.hid) (hD : H0 D = none) {o : Ob} : Ext w0 H0 ((w.show_ D).cell o D) H where
  pre := x.pre.trans (List.prefix_append _ _)
  keep := x.keep
  new := fun a z => x.new a (open_mu L hin z)
  stay := x.stay
  fresh := fun a z => by
    have h' : a ∈ w.B ++ [D] := z
    rcases List.mem_append.mp h' with q | q
    · exact x.fresh a q
    · have : a = D := by simpa using q
      exact .inr (by rw [this]; exact hD)
  hid := (x.shown hh).hid
  hk := x.hk
/-- the element's and the test's readings within the block -/
theorem comp_ok {t : Tg} {own : List Nat} {c : Bool} {mi : Ev → Sto → Rs (List Dt)} {mc : Ev → Sto → Rs Bool} {me : Ev → Sto → Rs Dt} {W : XK} {σ : L2.St} {H : Hp} {Q : VK} (hs : ∀ i ∈ slotsT t, i ∈ own)
    (h : tE G W (fun ρ s => (mi ρ s).bind fun ds s1 => (noexc (compL t (wipeE ρ own) mc me ds [] s1)).bind fun ys s2 => mkl c ys s2) σ H Q) :
    tLc (tI G W mi) (gT G t) (tT G noW mc) (tE G noW me) own σ H Q := by
  obtain ⟨ρ, w, he, L, h⟩ := h
  refine ⟨ρ, w, he, L, (Po.bind h).imp fun ds w1 H1 x1 L1 h1 J hJ D hD => ?_⟩
  have he1 := he.ext x1
  -- the whole of the turns
  cases ec : compL t (wipeE ρ own) mc me ds [] w1.S with
  | bad => rw [ec] at h1; exact (show False from h1).elim
  | exc e S => rw [ec] at h1; exact (show False from h1).elim
  | ok ys S' =>
    rw [ec] at h1
    have h1 : Po G (mkl c ys S') w1 H1 (fun d w' H' => ∀ v, Rep G w' H' v d → Q v H') W := h1
    have hh : D ∉ w1.hid := fun z => (L1.hthere D z).1 hD
    refine ⟨fun i m H2 => m = ds.length - i ∧ i ≤ ds.length ∧ ∃ w2 acc accD, Ext w1 H1 w2 H2 ∧ Lies G w2 H2 ∧ D ∈ w2.hid ∧ H2 D = some (.lst acc) ∧ Reps G w2 H2 acc accD ∧ compL t (wipeE ρ own) mc me (ds.drop i) accD w2.S = .ok ys S',
      ⟨ds.length, rfl, Nat.zero_le _, w1.hide D, [], [], ext_hide L1 hD _, lies_hide L1 hD _, List.mem_cons_self, upd_same, .nil, ec⟩, ?_⟩
    rintro i m H2 ⟨rfl, hi, w2, acc, accD, x2, L2', hin, hacc, racc, hrun⟩
    by_cases hlt : i < ds.length
    · right
      obtain ⟨d, hd⟩ : ∃ d, ds[i]? = some d := ⟨ds[i], List.getElem?_eq_getElem hlt⟩
      obtain ⟨go, yld⟩ := hJ.go i d hd w2 H2 x2 L2'
      refine ⟨go, fun H3 => ∃ w3 acc accD, Ext w1 H1 w3 H3 ∧ Lies G w3 H3 ∧ D ∈ w3.hid ∧ H3 D = some (.lst acc) ∧ Reps G w3 H3 acc accD ∧ compL t (wipeE ρ own) mc me (ds.drop (i + 1)) accD w3.S = .ok ys S',
        fun H3 ⟨w3, a3, d3, r⟩ => ⟨ds.length - (i + 1), by omega, rfl, hlt, w3, a3, d3, r⟩, fun x H3 hy => ?_⟩
      obtain ⟨e3, rx⟩ := yld x H3 hy
      subst e3
      have edrop : ds.drop i = d :: ds.drop (i + 1) := by
        rw [List.drop_eq_getElem_cons hlt]
        congr 1
        exact Option.some.inj ((List.getElem?_eq_getElem hlt).symm.trans hd)
      rw [edrop] at hrun
      unfold compL at hrun
      cases eb : bindT t d (wipeE ρ own) with
      | none => rw [eb] at hrun; cases hrun
      | some ρ' =>
        rw [eb] at hrun
        have hrun : (mc ρ' w2.S).bind (fun b s1 => if b then (me ρ' s1).bind fun y s2 => if accD.length < sizeLine then compL t (wipeE ρ own) mc me (ds.drop (i + 1)) (accD ++ [y]) s2 else .bad else compL t (wipeE ρ own) mc me (ds.drop (i + 1)) accD s1) = .ok ys S' := hrun
        refine ⟨wipeE ρ own, w2, d, (he1.wipe own).ext x2, L2', rx, ρ', eb, fun σ2 he2 same => ⟨?_, ?_⟩⟩
        · have s1 := same.1
          refine wipe_eq (by rw [s1, wipe_length]) fun i hi => ?_
          rw [same.2 i fun z => hi (hs i z), wipe_get, if_neg hi]
        · cases e1 : mc ρ' w2.S with
          | bad => rw [e1] at hrun; cases hrun
          | exc e s => rw [e1] at hrun; cases hrun
          | ok b s1 =>
            rw [e1] at hrun
            refine ⟨ρ', w2, he2, L2', ?_⟩
            rw [e1]
            intro w3 H4 es x3 L3
            subst es
            have hin3 : D ∈ w3.hid := x3.hid D hin
            have hacc3 : H4 D = some (.lst acc) := (x3.hk D hin).trans hacc
            cases b with
            | false =>
              rw [if_neg Bool.false_ne_true]
              exact ⟨w3, acc, accD, x2.trans x3, L3, hin3, hacc3, racc.ext x3, hrun⟩
            | true =>
              rw [if_pos rfl]
              have hrun : (me ρ' w3.S).bind (fun y s2 => if accD.length < sizeLine then compL t (wipeE ρ own) mc me (ds.drop (i + 1)) (accD ++ [y]) s2 else .bad) = .ok ys S' := hrun
              cases e4 : me ρ' w3.S with
              | bad => rw [e4] at hrun; cases hrun
              | exc e s => rw [e4] at hrun; cases hrun
              | ok y s2 =>
                rw [e4] at hrun
                have hrun : (if accD.length < sizeLine then compL t (wipeE ρ own) mc me (ds.drop (i + 1)) (accD ++ [y]) s2 else .bad) = .ok ys S' := hrun
                split at hrun
                · rename_i hz
                  refine ⟨ρ', w3, he2.ext x3, L3, ?_⟩
                  rw [e4]
                  intro w4 H5 es x4 L4 yv ry
                  subst es
                  have hin4 : D ∈ w4.hid := x4.hid D hin3
                  have hacc4 : H5 D = some (.lst acc) := (x4.hk D hin3).trans hacc3
                  have x14 := (x2.trans x3).trans x4
                  have g := ext_grow (w := w4) hin4 (o' := .lst (acc ++ [yv])) hacc4
                  refine ⟨acc, hacc4, by rw [racc.length]; exact hz, w4, acc ++ [yv], accD ++ [y], x14.grown hD hh _, lies_grow L4 hin4 hacc4, hin4, upd_same, ?_, hrun⟩
                  exact Reps.append (((racc.ext x3).ext x4).ext0 g) (.cons (Rep.ext0 g ry) .nil)
                · cases hrun
    · left
      have hi' : i = ds.length := by omega
      subst hi'
      refine ⟨hJ.stop w2 H2 x2 L2', ?_⟩
      rw [List.drop_length] at hrun
      have hrun : Rs.ok accD w2.S = .ok ys S' := hrun
      cases hrun
      have xs := x2.shown hh
      have Ls := lies_show (D := D) L2'
      have rs := racc.ext0 (ext_show (D := D))
      have nm := show_not L2' hin
      unfold mkl at h1
      split at h1
      · cases c with
        | false => exact Po.ok' (w' := w2.show_ D) h1 rfl xs Ls _ (.lst ⟨hacc, nm⟩ rs)
        | true => exact Po.ok' (w' := (w2.show_ D).cell (.lst ys) D) h1 rfl (ext_open x2 L2' hin hh hD) (lies_open L2' hin (.lst ys) (by rw [hacc]; exact fun z => nomatch z) ⟨acc, hacc, racc.ext0 (ext0_open L2' hin)⟩) _ (rep_cell Ls _ _)
      · exact (show False from h1).elim
end
end TK

/-! Tk11: expressions. -/
namespace TK
open PySem PySem.Spec L2

section
variable {G : Tb} {P : Pg} {C : Cal} {n : Nat} {N : List Str} {sc : Scope} {W : XK} {top : Bool} {X : Cx}
theorem XG.units (g : XG G P C n N sc W top X) : X.A.units + 100 < cLine := by have := g.room.r.un; omega
theorem XG.glb (g : XG G P C n N sc W top X) {x : Str} (h : isGl sc x = true) : Gl X x := by
  unfold Gl Env.kindOf
  rw [g.eS]
  exact of_decide_eq_true h
/-- within a comprehension's block -/
theorem XG.blk (g : XG G P C n N sc W top X) (s : Shared) (H : Hp) (scope : Scope) (c : Addr) (cl : List (Str × Addr)) (fp : List Addr) : XG G P C n N (relS scope sc) noW false (X.blk s H scope (compEnvC scope cl c X.env) fp) where
  eK := g.eK
  eN := g.eN
  nd := g.nd
  eS := by rw [← g.eS]; rfl
  names := g.names
  calm := g.calm
  room := g.room
  pg := g.pg
  pass := fun E hE pins σ H s e s' I h => by
    obtain ⟨a, B, H', cls, d, _, _, _, _, _, _, _, q⟩ := h
    exact (hE cls d H' q).elim
  top := fun z => nomatch z
theorem nf {p : Prop} (h : false = true) : p := absurd h Bool.false_ne_true
theorem and2 {a b : Bool} (h : (a && b) = true) : a = true ∧ b = true := Bool.and_eq_true_iff.mp h
theorem tE_ret {σ : L2.St} {H : Hp} {Q : VK} {d : Dt} {v : V} (r : ∀ w, Rep G w H v d) (h : tE G W (fun _ s => .ok d s) σ H Q) : Q v H := by
  obtain ⟨ρ, w, he, L, h⟩ := h
  exact Po.ok1 h rfl L (r w)
theorem tE_tt {m : Ev → Sto → Rs Bool} {m1 m2 : Ev → Sto → Rs Dt} {σ : L2.St} {H : Hp} {Q : VK} (h : tE G W (fun ρ s => (m ρ s).bind fun b s1 => if b then m1 ρ s1 else m2 ρ s1) σ H Q) : tIf (tT G W m) (tE G W m1) (tE G W m2) σ H Q := by
  obtain ⟨ρ, w, he, L, h⟩ := h
  refine ⟨ρ, w, he, L, (Po.bind h).imp fun b w1 H1 x1 L1 h1 => ?_⟩
  cases b with
  | true => exact ⟨ρ, w1, he.ext x1, L1, h1⟩
  | false => exact ⟨ρ, w1, he.ext x1, L1, h1⟩
theorem cmpop_bl {o : CmpOp} {x y d : Dt} {s s' : Sto} (h : cmpop o x y s = .ok d s') : ∃ b, d = .bl b ∧ s' = s := by
  have of : ∀ {o : Option Dt} (_ : ∀ d, o = some d → ∃ b, d = .bl b), ofO s o = .ok d s' → ∃ b, d = .bl b ∧ s' = s := by
    intro o ho h
    cases o with
    | none => cases h
    | some d => cases h; obtain ⟨b, e⟩ := ho _ rfl; exact ⟨b, e, rfl⟩
  have mp : ∀ {o : Option Bool} {f : Bool → Bool} (d : Dt), (o.map fun b => Dt.bl (f b)) = some d → ∃ b, d = .bl b := by
    intro o f d e
    cases o with
    | none => cases e
    | some b => cases e; exact ⟨_, rfl⟩
  cases o <;> unfold cmpop at h <;> simp only at h
  · exact of (fun d => mp (f := id) d) h
  · exact of (fun d => mp d) h
  · split at h
    · cases h; exact ⟨_, rfl, rfl⟩
    · cases h
  · split at h
    · cases h; exact ⟨_, rfl, rfl⟩
    · cases h
  · split at h
    · cases h; exact ⟨_, rfl, rfl⟩
    · cases h
  · split at h
    · cases h; exact ⟨_, rfl, rfl⟩
    · cases h
  · split at h
    · cases h; exact ⟨_, rfl, rfl⟩
    · cases h
  · split at h
    · cases h; exact ⟨_, rfl, rfl⟩
    · cases h
  · exact of (fun d => mp (f := id) d) h
  · exact of (fun d => mp d) h
theorem cmpop_ne {o : CmpOp} {x y : Dt} {s s' : Sto} {e : Ex} : cmpop o x y s ≠ .exc e s' := fun h => by
  cases o <;> unfold cmpop at h <;> simp only at h <;> first
    | (split at h <;> cases h)
    | (unfold TK.ofO at h; split at h <;> cases h)
theorem asB_cmp {o : CmpOp} {x y : Dt} {w : Wd} {H : Hp} {K : Bool → Wd → Hp → Prop} (h : Po G ((cmpop o x y w.S).bind asB) w H K W) : ∃ b, cmpop o x y w.S = .ok (.bl b) w.S ∧ Po G (.ok b w.S) w H K W := by
  cases e : cmpop o x y w.S with
  | bad => rw [e] at h; exact (show False from h).elim
  | exc ex s => exact absurd e cmpop_ne
  | ok d s =>
    obtain ⟨b, rfl, rfl⟩ := cmpop_bl e
    rw [e] at h
    exact ⟨b, rfl, h⟩
theorem r2_bl {o : CmpOp} {x y : V} {H : Hp} {w : Wd} {d e : Dt} {Q : Bool → Hp → Prop} (L : Lies G w H) (r1 : Rep G w H x d) (r2 : Rep G w H y e) (h : Po G ((cmpop o d e w.S).bind asB) w H (fun b _ H' => Q b H') W) :
    TK.r2 G W (cmpop o) x y H (fun z H' => ∃ k, z = .bl k ∧ Q k H') := by
  obtain ⟨b, e1, h⟩ := asB_cmp h
  refine ⟨w, d, e, L, r1, r2, ?_⟩
  rw [e1]
  intro w' H' e2 x1 L1 v rv
  cases rv
  exact ⟨b, rfl, Po.ok' h e2 x1 L1⟩
theorem tT_cmp {o : CmpOp} {m n : Ev → Sto → Rs Dt} {σ : L2.St} {H : Hp} {Q : Bool → Hp → Prop} (h : tT G W (fun ρ s => (m ρ s).bind fun x s1 => (n ρ s1).bind fun y s2 => (cmpop o x y s2).bind asB) σ H Q) :
    tTest (tOp (TK.r2 G W (cmpop o)) (tE G W m) (tE G W n)) σ H Q := by
  obtain ⟨ρ, w, he, L, h⟩ := h
  exact ⟨ρ, w, he, L, (Po.bind h).imp fun x w1 H1 x1 L1 h1 v rv => ⟨ρ, w1, he.ext x1, L1, (Po.bind h1).imp fun y w2 H2 x2 L2 h2 u ru => r2_bl L2 (rv.ext x2) ru h2⟩⟩
theorem r2_chain {o : CmpOp} {x y : V} {H : Hp} {w : Wd} {d e : Dt} {α : Type} {f : Dt → Sto → Rs α} {Q : VK} {K : α → Wd → Hp → Prop} (L : Lies G w H) (r1 : Rep G w H x d) (r2 : Rep G w H y e) (h : Po G ((cmpop o d e w.S).bind f) w H K W)
    (k : ∀ b w' H', Ext w H w' H' → Lies G w' H' → Po G (f (.bl b) w'.S) w' H' K W → Q (.bl b) H') : TK.r2 G W (cmpop o) x y H Q := by
  refine ⟨w, d, e, L, r1, r2, ?_⟩
  cases e1 : cmpop o d e w.S with
  | bad => rw [e1] at h; exact (show False from h).elim
  | exc ex s => exact absurd e1 cmpop_ne
  | ok z s =>
    obtain ⟨b, rfl, rfl⟩ := cmpop_bl e1
    intro w' H' e2 x1 L1 v rv
    cases rv
    rw [e1] at h
    refine k b w' H' x1 L1 ?_
    have h : Po G (f (.bl b) w.S) w H K W := h
    rw [← e2] at h
    cases q : f (.bl b) w'.S with
    | bad => rw [q] at h; exact h
    | ok a S' =>
      rw [q] at h
      exact fun w2 H2 e3 x3 L3 => h w2 H2 e3 (x1.trans x3) L3
    | exc ex S' =>
      rw [q] at h
      exact fun w2 H2 c d e3 x3 L3 r3 => h w2 H2 c d e3 (x1.trans x3) L3 r3
theorem tE_chain {o o' : CmpOp} {m n l : Ev → Sto → Rs Dt} {σ : L2.St} {H : Hp} {Q : VK} (h : tE G W (fun ρ s => (m ρ s).bind fun x s1 => (n ρ s1).bind fun y s2 => (cmpop o x y s2).bind fun z s3 => match z with
    | .bl true => (l ρ s3).bind fun w s4 => cmpop o' y w s4
    | .bl false => .ok (.bl false) s3
    | _ => .bad) σ H Q) : tChain (TK.r2 G W (cmpop o)) (TK.r2 G W (cmpop o')) (tE G W m) (tE G W n) (tE G W l) σ H Q := by
  obtain ⟨ρ, w, he, L, h⟩ := h
  refine ⟨ρ, w, he, L, (Po.bind h).imp fun x w1 H1 x1 L1 h1 v rv => ⟨ρ, w1, he.ext x1, L1, (Po.bind h1).imp fun y w2 H2 x2 L2 h2 u ru => ?_⟩⟩
  refine r2_chain L2 (rv.ext x2) ru h2 fun b w3 H3 x3 L3 h3 => ⟨b, rfl, ?_⟩
  cases b with
  | false => rw [if_neg Bool.false_ne_true]; exact Po.ok1 h3 rfl L3 (.bl _)
  | true =>
    rw [if_pos rfl]
    exact ⟨ρ, w3, ((he.ext x1).ext x2).ext x3, L3, (Po.bind h3).imp fun z w4 H4 x4 L4 h4 t rt => ⟨w4, y, z, L4, (ru.ext x3).ext x4, rt, h4⟩⟩
theorem tT_chain {o o' : CmpOp} {m n l : Ev → Sto → Rs Dt} {σ : L2.St} {H : Hp} {Q : Bool → Hp → Prop} (h : tT G W (fun ρ s => (m ρ s).bind fun x s1 => (n ρ s1).bind fun y s2 => (cmpop o x y s2).bind fun z s3 => match z with
    | .bl true => (l ρ s3).bind fun w s4 => (cmpop o' y w s4).bind asB
    | .bl false => .ok false s3
    | _ => .bad) σ H Q) : tTest (tChain (TK.r2 G W (cmpop o)) (TK.r2 G W (cmpop o')) (tE G W m) (tE G W n) (tE G W l)) σ H Q := by
  obtain ⟨ρ, w, he, L, h⟩ := h
  refine ⟨ρ, w, he, L, (Po.bind h).imp fun x w1 H1 x1 L1 h1 v rv => ⟨ρ, w1, he.ext x1, L1, (Po.bind h1).imp fun y w2 H2 x2 L2 h2 u ru => ?_⟩⟩
  refine r2_chain L2 (rv.ext x2) ru h2 fun b w3 H3 x3 L3 h3 => ⟨b, rfl, ?_⟩
  cases b with
  | false => rw [if_neg Bool.false_ne_true]; exact ⟨false, rfl, Po.ok h3 rfl L3⟩
  | true =>
    rw [if_pos rfl]
    exact ⟨ρ, w3, ((he.ext x1).ext x2).ext x3, L3, (Po.bind h3).imp fun z w4 H4 x4 L4 h4 t rt => r2_bl L4 ((ru.ext x3).ext x4) rt h4⟩

theorem tA_cons {m : Ev → Sto → Rs Dt} {ms : Ev → Sto → Rs (List Dt)} {σ : L2.St} {H : Hp} {Q : List V → Hp → Prop} (h : tA G W (fun ρ s => (m ρ s).bind fun x s1 => (ms ρ s1).bind fun xs s2 => .ok (x :: xs) s2) σ H Q) : tCons (tE G W m) (tA G W ms) σ H Q := by
  obtain ⟨ρ, w, he, L, h⟩ := h
  exact ⟨ρ, w, he, L, (Po.bind h).imp fun x w1 H1 x1 L1 h1 v rv => ⟨ρ, w1, he.ext x1, L1, (Po.bind h1).imp fun xs w2 H2 x2 L2 h2 vs rvs => Po.ok h2 rfl L2 (v :: vs) (.cons (rv.ext x2) rvs)⟩⟩
theorem tE_meth {m : Ev → Sto → Rs Dt} {ms : Ev → Sto → Rs (List Dt)} {T : String} {r : V → List V → Hp → VK → Prop} {c : Dt → Sto → Bool} {f : Dt → List Dt → Sto → Rs Dt} {σ : L2.St} {H : Hp} {Q : VK}
    (hk : ∀ {w : Wd} {H : Hp} {x : V} {d : Dt}, Lies G w H → Rep G w H x d → c d w.S = true → tyV X.K T x H)
    (hr : ∀ {w : Wd} {H : Hp} {x : V} {d : Dt} {xs : List V} {ds : List Dt}, Lies G w H → Rep G w H x d → Reps G w H xs ds → Po G (f d ds w.S) w H (fun r w' H' => ∀ v, Rep G w' H' v r → Q v H') W → r x xs H Q)
    (h : tE G W (fun ρ s => (m ρ s).bind fun x s1 => if c x s1 = true then (ms ρ s1).bind fun ds s2 => f x ds s2 else .bad) σ H Q) : tBM X.K T r (tE G W m) (tA G W ms) σ H Q := by
  obtain ⟨ρ, w, he, L, h⟩ := h
  refine ⟨ρ, w, he, L, (Po.bind h).imp fun x w1 H1 x1 L1 h1 v rv => ?_⟩
  split at h1
  · rename_i hc
    exact ⟨hk L1 rv hc, ρ, w1, he.ext x1, L1, (Po.bind h1).imp fun xs w2 H2 x2 L2 h2 vs rvs => hr L2 (rv.ext x2) rvs h2⟩
  · exact (show False from h1).elim
theorem tE_slc {m : Ev → Sto → Rs Dt} {ml mh : Ev → Sto → Rs (Option Int)} {σ : L2.St} {H : Hp} {Q : VK} (h : tE G W (fun ρ s => (m ρ s).bind fun x s1 => (ml ρ s1).bind fun l s2 => (mh ρ s2).bind fun u s3 => slcd x l u s3) σ H Q) :
    tSl (rS G W) (tE G W m) (tOI G W ml) (tOI G W mh) σ H Q := by
  obtain ⟨ρ, w, he, L, h⟩ := h
  exact ⟨ρ, w, he, L, (Po.bind h).imp fun x w1 H1 x1 L1 h1 v rv => ⟨ρ, w1, he.ext x1, L1, (Po.bind h1).imp fun l w2 H2 x2 L2 h2 => ⟨ρ, w2, (he.ext x1).ext x2, L2, (Po.bind h2).imp fun u w3 H3 x3 L3 h3 => ⟨w3, x, L3, (rv.ext x2).ext x3, h3⟩⟩⟩⟩
theorem tE_and {m : Ev → Sto → Rs Dt} {n : Ev → Sto → Rs Dt} {σ : L2.St} {H : Hp} {Q : VK} (h : tE G W (fun ρ s => (m ρ s).bind fun x s1 => match x with
    | .bl true => n ρ s1
    | .bl false => .ok (.bl false) s1
    | _ => .bad) σ H Q) : tAndV (tE G W m) (tE G W n) σ H Q := by
  obtain ⟨ρ, w, he, L, h⟩ := h
  refine ⟨ρ, w, he, L, (Po.bind h).imp fun x w1 H1 x1 L1 h1 v rv => ?_⟩
  split at h1
  · cases rv
    exact ⟨true, rfl, by rw [if_pos rfl]; exact ⟨ρ, w1, he.ext x1, L1, h1⟩⟩
  · cases rv
    exact ⟨false, rfl, by rw [if_neg Bool.false_ne_true]; exact Po.ok1 h1 rfl L1 (.bl _)⟩
  · exact (show False from h1).elim
theorem tE_or {m : Ev → Sto → Rs Dt} {n : Ev → Sto → Rs Dt} {σ : L2.St} {H : Hp} {Q : VK} (h : tE G W (fun ρ s => (m ρ s).bind fun x s1 => match x with
    | .bl true => .ok (.bl true) s1
    | .bl false => n ρ s1
    | _ => .bad) σ H Q) : tOrV (tE G W m) (tE G W n) σ H Q := by
  obtain ⟨ρ, w, he, L, h⟩ := h
  refine ⟨ρ, w, he, L, (Po.bind h).imp fun x w1 H1 x1 L1 h1 v rv => ?_⟩
  split at h1
  · cases rv
    exact ⟨true, rfl, by rw [if_pos rfl]; exact Po.ok1 h1 rfl L1 (.bl _)⟩
  · cases rv
    exact ⟨false, rfl, by rw [if_neg Bool.false_ne_true]; exact ⟨ρ, w1, he.ext x1, L1, h1⟩⟩
  · exact (show False from h1).elim
theorem tE_not {m : Ev → Sto → Rs Dt} {σ : L2.St} {H : Hp} {Q : VK} (h : tE G W (fun ρ s => (m ρ s).bind fun x s1 => match x with
    | .bl b => .ok (.bl !b) s1
    | _ => .bad) σ H Q) : tNotV (tE G W m) σ H Q := by
  obtain ⟨ρ, w, he, L, h⟩ := h
  refine ⟨ρ, w, he, L, (Po.bind h).imp fun x w1 H1 x1 L1 h1 v rv => ?_⟩
  split at h1
  · cases rv
    exact ⟨_, rfl, Po.ok1 h1 rfl L1 (.bl _)⟩
  · exact (show False from h1).elim
theorem tE_neg {m : Ev → Sto → Rs Dt} {σ : L2.St} {H : Hp} {Q : VK} (h : tE G W (fun ρ s => (m ρ s).bind fun x s1 => match x with
    | .int b => .ok (.int (-b)) s1
    | _ => .bad) σ H Q) : tUn (rU fun i => .int (-i)) (tE G W m) σ H Q := by
  obtain ⟨ρ, w, he, L, h⟩ := h
  refine ⟨ρ, w, he, L, (Po.bind h).imp fun x w1 H1 x1 L1 h1 v rv => ?_⟩
  split at h1
  · cases rv
    exact ⟨_, rfl, Po.ok1 h1 rfl L1 (.int _)⟩
  · exact (show False from h1).elim
theorem tT_and {m n : Ev → Sto → Rs Bool} {σ : L2.St} {H : Hp} {Q : Bool → Hp → Prop} (h : tT G W (fun ρ s => (m ρ s).bind fun x s1 => if x then n ρ s1 else .ok false s1) σ H Q) : tAnd (tT G W m) (tT G W n) σ H Q := by
  obtain ⟨ρ, w, he, L, h⟩ := h
  refine ⟨ρ, w, he, L, (Po.bind h).imp fun b w1 H1 x1 L1 h1 => ?_⟩
  cases b with
  | true => exact ⟨ρ, w1, he.ext x1, L1, h1⟩
  | false => exact Po.ok h1 rfl L1
theorem tT_or {m n : Ev → Sto → Rs Bool} {σ : L2.St} {H : Hp} {Q : Bool → Hp → Prop} (h : tT G W (fun ρ s => (m ρ s).bind fun x s1 => if x then .ok true s1 else n ρ s1) σ H Q) : tOr (tT G W m) (tT G W n) σ H Q := by
  obtain ⟨ρ, w, he, L, h⟩ := h
  refine ⟨ρ, w, he, L, (Po.bind h).imp fun b w1 H1 x1 L1 h1 => ?_⟩
  cases b with
  | false => exact ⟨ρ, w1, he.ext x1, L1, h1⟩
  | true => exact Po.ok h1 rfl L1
theorem tT_not {m : Ev → Sto → Rs Bool} {σ : L2.St} {H : Hp} {Q : Bool → Hp → Prop} (h : tT G W (fun ρ s => (m ρ s).bind fun x s1 => .ok (!x) s1) σ H Q) : tNot (tT G W m) σ H Q := by
  obtain ⟨ρ, w, he, L, h⟩ := h
  exact ⟨ρ, w, he, L, (Po.bind h).imp fun b w1 H1 x1 L1 h1 => Po.ok h1 rfl L1⟩
theorem tI_plain {m : Ev → Sto → Rs Dt} {σ : L2.St} {H : Hp} {R : It → Hp → Prop} (hK : X.K = G.K) (h : tI G W (fun ρ s => (m ρ s).bind fun x s1 => ofO s1 (itemsD s1 x)) σ H R) : iAny X.K (tE G W m) σ H R := by
  obtain ⟨ρ, w, he, L, h⟩ := h
  refine ⟨ρ, w, he, L, (Po.bind h).imp fun d w1 H1 x1 L1 h1 v rv => ?_⟩
  obtain ⟨ds, e, q⟩ := Po.ofO h1 L1
  cases d with
  | lst xs =>
    cases e
    cases rv with
    | lst ha r => exact .inl ⟨_, rfl, ⟨_, SqL.of ha.1⟩, q _ (gives_list hK ha r)⟩
  | tup xs =>
    cases e
    cases rv with
    | tup ha r => exact .inr (.inl ⟨_, rfl, ⟨_, hK ▸ ha.sq⟩, q _ (gives_tup hK ha r)⟩)
  | str z =>
    cases e
    cases rv
    exact .inr (.inr ⟨z, rfl, q _ (gives_str z)⟩)
  | _ => cases e
theorem small_of {a : Int} (h : smallI a = true) : -(2 ^ 62) ≤ a ∧ a < 2 ^ 62 := of_decide_eq_true h
theorem tI_range1 {m : Ev → Sto → Rs Dt} {σ : L2.St} {H : Hp} {R : It → Hp → Prop} (h : tI G W (fun ρ s => (m ρ s).bind fun x s1 => match x with
    | .int b => if smallI b then .ok (ranged 0 b) s1 else .bad
    | _ => .bad) σ H R) : iRng1 (tCons (tE G W m) tNil) σ H R := by
  obtain ⟨ρ, w, he, L, h⟩ := h
  refine ⟨ρ, w, he, L, (Po.bind h).imp fun d w1 H1 x1 L1 h1 v rv => ?_⟩
  split at h1
  · rename_i b
    split at h1
    · rename_i hb
      obtain ⟨s1, s2⟩ := small_of hb
      cases rv
      refine ⟨b, rfl, s1, s2, Po.ok h1 rfl L1 _ ?_⟩
      have := gives_range (G := G) (w := w1) (H := H1) 0 b
      rw [Int.sub_zero] at this
      exact this
    · exact (show False from h1).elim
  · exact (show False from h1).elim
theorem tI_range2 {m n : Ev → Sto → Rs Dt} {σ : L2.St} {H : Hp} {R : It → Hp → Prop} (h : tI G W (fun ρ s => (m ρ s).bind fun x s1 => (n ρ s1).bind fun y s2 => match x, y with
    | .int i, .int j => if smallI i && smallI j then .ok (ranged i j) s2 else .bad
    | _, _ => .bad) σ H R) : iRng2 (tCons (tE G W m) (tCons (tE G W n) tNil)) σ H R := by
  obtain ⟨ρ, w, he, L, h⟩ := h
  refine ⟨ρ, w, he, L, (Po.bind h).imp fun d w1 H1 x1 L1 h1 v rv => ⟨ρ, w1, he.ext x1, L1, (Po.bind h1).imp fun e w2 H2 x2 L2 h2 u ru => ?_⟩⟩
  split at h2
  · rename_i i j
    split at h2
    · rename_i hb
      obtain ⟨b1, b2⟩ := and2 hb
      obtain ⟨s1, s2⟩ := small_of b1
      obtain ⟨s3, s4⟩ := small_of b2
      cases rv; cases ru
      exact ⟨i, j, rfl, ⟨s1, s2, s3, s4⟩, Po.ok h2 rfl L2 _ (gives_range i j)⟩
    · exact (show False from h2).elim
  · exact (show False from h2).elim
theorem join_ty {w : Wd} {H : Hp} {x : V} {d : Dt} (r : Rep G w H x d) (h : mrec .join d w.S = true) : tyV X.K "str" x H := by
  unfold mrec at h
  split at h
  · cases r; rfl
  · cases h
theorem join_r (hK : X.K = G.K) {w : Wd} {H : Hp} {x : V} {d : Dt} {xs : List V} {ds : List Dt} {Q : VK} (L : Lies G w H) (r : Rep G w H x d) (rs : Reps G w H xs ds) (h : Po G (mef .join d ds w.S) w H (fun r w' H' => ∀ v, Rep G w' H' v r → Q v H') W) :
    ∃ a p, ∃ ys : List Str, x = .str a ∧ xs = [.ref p] ∧ (SqL X.K H p (ys.map V.str) ∨ SqT X.K H p (ys.map V.str)) ∧ (ys.map (·.length)).sum + ys.length * a.length ≤ 16777216 ∧ Q (.str (Txt.join a ys)) H := by
  unfold mef at h
  split at h
  · cases r
    obtain ⟨v, rfl, r1⟩ := reps1 rs
    split at h
    · rename_i ys e
      split at h
      · rename_i hz
        cases e2 : lsv w.S _ with
        | none => rw [e2] at e; cases e
        | some zs =>
          rw [e2] at e
          obtain ⟨a, vs, rfl, hs, q⟩ := r1.lsv L e2
          have q2 := reps_strsD q (show strsD zs = some ys from e)
          subst q2
          exact ⟨_, a, ys, rfl, rfl, .inl (SqL.of hs), hz, Po.ok1 h rfl L (.str _)⟩
      · exact (show False from h).elim
    · exact (show False from h).elim
  · exact (show False from h).elim
end
end TK

/-! Tk12: expressions, all together. -/
namespace TK
open PySem PySem.Spec L2

section
variable {G : Tb} {P : Pg} {C : Cal} {n : Nat} {N : List Str}
def tFn (G : Tb) (W : XK) (n : Nat) (f : List Dt → Sto → Rs Dt) (np : Nat) (dvs : List V) (o : List Src) (t : TA) : TE := fun σ H Q => t σ H fun vs H1 => vs.length = n ∧ spC G f np (order vs [] dvs o) H1 Q W
theorem pe_fn {sc : Scope} {W : XK} {top : Bool} {X : Cx} (g : XG G P C n N sc W top X) {f q : Nat} {h : Sh} {fi : Fi} {x : Str} {e : Expr} {es : List Expr} {t : TA} {p pos : Pos} (hq : fi.shs[q]? = some h) (hx : P.fn[f]? = some x) (hf : P.fs[f]? = some fi) (hks : h.ks = []) (hg : isGl sc x = true)
    (ha : PA X (e :: es) t) (hst : starEach (e :: es) X.env = (false, eval e X.env) :: starEach es X.env) (hpl : (backTo pos (starEach es X.env)).any (·.1) = false) :
    ∃ dvs, (∀ w H, Reps G w H dvs fi.dfl) ∧ PE X (.Call (.Name x p) (e :: es) [] pos) (tFn G W h.n (C f) fi.np dvs h.o t) := by
  obtain ⟨ok, hm, hk⟩ := g.pg.fn f x hx
  obtain ⟨fd, F, _, dvs, rd, shs⟩ := g.pg.fs f fi hf
  refine ⟨dvs, rd, ⟨fun pins s σ H Q I hw => ?_⟩⟩
  obtain ⟨ds, B⟩ := shs h (List.mem_of_getElem? hq)
  rw [← g.eK] at F B hk
  refine wpAny_Call_Name_kw (ld_glob I (g.glb hg) hm ?_ (okName.d ok))
  refine PySem.W.callWith_K (h₀ := X.base) I.ok.mod.kin hk (thn (ha.run pos pins s σ H _ I hw) fun us s1 ⟨vs, H1, I1, r, lv, sp⟩ => ⟨I1.kIn, ?_⟩) hst hpl
  have res := go_call (ws := []) (zs := []) (E := W) F g.room B (g.pass W fun _ _ _ z => z) I1 r .nil lv (by rw [hks]; rfl) sp
  rw [hks] at res
  exact res
theorem tE_fn {W : XK} {f : Nat} {sh : Sh} {fi : Fi} {dvs : List V} {m : Ev → Sto → Rs (List Dt)} {σ : L2.St} {H : Hp} {Q : VK} (len : ∀ ds s, C f ds s = .bad ∨ ds.length = fi.np) (rd : ∀ w H, Reps G w H dvs fi.dfl)
    (h : tE G W (fun ρ s => (m ρ s).bind fun ds s1 => if ds.length = sh.n then C f (order ds [] fi.dfl sh.o) s1 else .bad) σ H Q) : tFn G W sh.n (C f) fi.np dvs sh.o (tA G W m) σ H Q := by
  obtain ⟨ρ, w, he, L, h⟩ := h
  refine ⟨ρ, w, he, L, (Po.bind h).imp fun ds w1 H1 x1 L1 h1 vs rv => ?_⟩
  split at h1
  · rename_i hl
    have r2 : Reps G w1 H1 (order vs [] dvs sh.o) (order ds [] fi.dfl sh.o) := Reps.of_paired (order_rel rv.paired .nil (rd w1 H1).paired sh.o)
    refine ⟨by rw [rv.length]; exact hl, ?_, w1, _, L1, r2, h1⟩
    rw [r2.length]
    rcases len (order ds [] fi.dfl sh.o) w1.S with e | e
    · rw [e] at h1; exact (show False from h1).elim
    · exact e
  · exact (show False from h1).elim
theorem plainIx {e : Expr} (h : notSlice e = true) : PlainIx e := fun o i => by
  cases e <;> first
    | rfl
    | exact nf h

theorem set_free {e : Expr} (h : notSet e = true) (env : Env) (x : Value) : foldedSetIterable e env x = pure x := by
  unfold foldedSetIterable
  cases e <;> first
    | rfl
    | exact nf h
theorem PO.imp {X : Cx} {e : Option Expr} {t t' : TO} (h : PO X e t) (k : ∀ σ H Q, t' σ H Q → t σ H Q) : PO X e t' := ⟨fun pins s σ H Q I q => h.run pins s σ H Q I (k σ H Q q)⟩
mutual
theorem evOk : ∀ {e : CE} {x : Expr} {sc : Scope} {W : XK} {top : Bool} {X : Cx}, XG G P C n N sc W top X → mE P N sc e x = true → PE X x (tE G W (ev P C e))
  | .var i, x, sc, W, top, X, g, h => by
    cases x <;> first
      | exact nf h
      | skip
    rename_i y p
    obtain ⟨h1, h2⟩ := and2 (show (decide (N[i]? = some y) && isVis sc y) = true from h)
    have h1 : N[i]? = some y := of_decide_eq_true h1
    have ok := g.names y (List.mem_of_getElem? h1)
    refine PE.imp (pe_var (i := i) (by rw [g.eN]; exact h1) (by rw [g.eS]; exact vis_of h2) (okName.d ok) (okName.c ok)) ?_
    rintro σ H Q ⟨ρ, w, he, L, h⟩
    unfold ev at h
    split at h
    · rename_i d e
      obtain ⟨v, e1, r⟩ := he.2 i d e
      exact ⟨v, e1, Po.ok1 h rfl L r⟩
    · exact (show False from h).elim
  | .non, x, sc, W, top, X, g, h => by
    cases x <;> first
      | exact nf h
      | skip
    rename_i c k p
    cases c <;> first
      | exact nf h
      | skip
    exact PE.imp pe_non fun σ H Q q => tE_ret (d := .non) (fun w => .non) q
  | .bl b, x, sc, W, top, X, g, h => by
    cases x <;> first
      | exact nf h
      | skip
    rename_i c k p
    cases c <;> first
      | exact nf h
      | skip
    rename_i c
    have e : b = c := eq_of_beq (show (b == c) = true from h)
    subst e
    exact PE.imp pe_bl fun σ H Q q => tE_ret (d := .bl b) (fun w => .bl b) q
  | .int b, x, sc, W, top, X, g, h => by
    cases x <;> first
      | exact nf h
      | skip
    rename_i c k p
    cases c <;> first
      | exact nf h
      | skip
    rename_i c
    have e : b = c := of_decide_eq_true (show decide (b = c) = true from h)
    subst e
    exact PE.imp pe_int fun σ H Q q => tE_ret (d := .int b) (fun w => .int b) q
  | .str b, x, sc, W, top, X, g, h => by
    cases x <;> first
      | exact nf h
      | skip
    rename_i c k p
    cases c <;> first
      | exact nf h
      | skip
    rename_i c
    have e : b = c := of_decide_eq_true (show decide (b = c) = true from h)
    subst e
    exact PE.imp pe_str fun σ H Q q => tE_ret (d := .str b) (fun w => .str b) q
  | .glb k, x, sc, W, top, X, g, h => by
    cases x <;> first
      | exact nf h
      | skip
    rename_i y p
    obtain ⟨h1, h2⟩ := and2 (show (decide (P.gn[k]? = some y) && isGl sc y) = true from h)
    have h1 : P.gn[k]? = some y := of_decide_eq_true h1
    obtain ⟨ok, d, v, u, e1, hm, r, rp⟩ := g.pg.gl k y h1
    refine PE.imp (pe_glob (g.glb h2) hm r (okName.d ok)) ?_
    rintro σ H Q ⟨ρ, w, he, L, h⟩
    unfold ev at h
    rw [e1] at h
    exact Po.ok1 h rfl L (rp w H)
  | .bty t, x, sc, W, top, X, g, h => by
    cases x <;> first
      | exact nf h
      | skip
    rename_i y p
    obtain ⟨h1, h3⟩ := and2 (show (decide ((t, y) ∈ tyNames) && decide (y ∈ P.bn) && isGl sc y) = true from h)
    obtain ⟨h1, h2⟩ := and2 h1
    obtain ⟨b1, b2⟩ := bn_ty _ (of_decide_eq_true h1)
    exact PE.imp (pe_bltn (v := .ty t) (g.glb h3) (g.pg.bn y (of_decide_eq_true h2)) b1 rfl (okName.n b2) (okName.d b2)) fun σ H Q q => tE_ret (d := .ty t) (fun w => .ty t) q
  | .bin o a b, x, sc, W, top, X, g, h => by
    cases x <;> first
      | exact nf h
      | skip
    rename_i l op r p
    obtain ⟨h1, h3⟩ := and2 (show (decide (o = op) && mE P N sc a l && mE P N sc b r) = true from h)
    obtain ⟨h1, h2⟩ := and2 h1
    have e : o = op := of_decide_eq_true h1
    subst e
    exact PE.imp (pe_op (opB (W := W) g.eK o) (evOk g h2) (evOk g h3)) fun σ H Q q => tE_op q
  | .neg a, x, sc, W, top, X, g, h => by
    cases x <;> first
      | exact nf h
      | skip
    rename_i op l p
    cases op <;> first
      | exact nf h
      | skip
    exact PE.imp (pe_un un_neg (evOk g (show mE P N sc a l = true from h))) fun σ H Q q => tE_neg q
  | .cmp o a b, x, sc, W, top, X, g, h => by
    cases x <;> first
      | exact nf h
      | skip
    rename_i l ops rs p
    match ops, rs, h with
    | [op], [r], h =>
      obtain ⟨h1, h4⟩ := and2 (show (decide (o = op) && mE P N sc a l && mE P N sc b r && notSet r) = true from h)
      obtain ⟨h1, h3⟩ := and2 h1
      obtain ⟨h1, h2⟩ := and2 h1
      have e : o = op := of_decide_eq_true h1
      subst e
      exact PE.imp (pe_cmpR (opC (W := W) g.eK (by have := g.units; omega) o) (evOk g h2) (evOk g h3) (marks_of h4)) fun σ H Q q => tE_op q
  | .chain o o' a b c, x, sc, W, top, X, g, h => by
    cases x <;> first
      | exact nf h
      | skip
    rename_i l ops rs p
    match ops, rs, h with
    | [op, op'], [m, r], h =>
      obtain ⟨h1, h6⟩ := and2 (show (decide (o = op) && decide (o' = op') && mE P N sc a l && mE P N sc b m && mE P N sc c r && notSet r) = true from h)
      obtain ⟨h1, h5⟩ := and2 h1
      obtain ⟨h1, h4⟩ := and2 h1
      obtain ⟨h1, h3⟩ := and2 h1
      obtain ⟨h1, h2⟩ := and2 h1
      have e : o = op := of_decide_eq_true h1
      have e' : o' = op' := of_decide_eq_true h2
      subst e e'
      exact PE.imp (pe_chain (opC (W := W) g.eK (by have := g.units; omega) o) (opC (W := W) g.eK (by have := g.units; omega) o') (evOk g h3) (evOk g h4) (evOk g h5) (marks_of h6)) fun σ H Q q => tE_chain q
  | .and es, x, sc, W, top, X, g, h => by
    cases x <;> first
      | exact nf h
      | skip
    rename_i op xs p
    cases op <;> first
      | exact nf h
      | skip
    exact evAndOk g (and2 (show (!xs.isEmpty && mEs P N sc es xs) = true from h)).2
  | .or es, x, sc, W, top, X, g, h => by
    cases x <;> first
      | exact nf h
      | skip
    rename_i op xs p
    cases op <;> first
      | exact nf h
      | skip
    exact evOrOk g (and2 (show (!xs.isEmpty && mEs P N sc es xs) = true from h)).2
  | .not a, x, sc, W, top, X, g, h => by
    cases x <;> first
      | exact nf h
      | skip
    rename_i op l p
    cases op <;> first
      | exact nf h
      | skip
    exact PE.imp (pe_not (evOk g (show mE P N sc a l = true from h))) fun σ H Q q => tE_not q
  | .ite c a b, x, sc, W, top, X, g, h => by
    cases x <;> first
      | exact nf h
      | skip
    rename_i t l r p
    obtain ⟨h1, h3⟩ := and2 (show (mT P N sc c t && mE P N sc a l && mE P N sc b r) = true from h)
    obtain ⟨h1, h2⟩ := and2 h1
    exact PE.imp (pe_ifExp (evTOk g h1) (evOk g h2) (evOk g h3)) fun σ H Q q => tE_tt q
  | .fn f q es kws, x, sc, W, top, X, g, h => by
    cases x <;> first
      | exact nf h
      | skip
    rename_i fx xs ks p
    cases fx <;> first
      | exact nf h
      | skip
    rename_i y py
    match ks, h with
    | [], h =>
      have h : (match P.fs[f]?.bind fun fi => fi.shs[q]? with
        | some h => decide (P.fn[f]? = some y) && decide (h.ks = []) && kws.isEmpty && isGl sc y && !xs.isEmpty && mEs P N sc es xs
        | none => false) = true := h
      cases e1 : P.fs[f]?.bind fun fi => fi.shs[q]? with
      | none => rw [e1] at h; exact nf h
      | some sh =>
        rw [e1] at h
        obtain ⟨h, h6⟩ := and2 (show (decide (P.fn[f]? = some y) && decide (sh.ks = []) && kws.isEmpty && isGl sc y && !xs.isEmpty && mEs P N sc es xs) = true from h)
        obtain ⟨h, h5⟩ := and2 h
        obtain ⟨h, h4⟩ := and2 h
        obtain ⟨h, h3⟩ := and2 h
        obtain ⟨h1, h2⟩ := and2 h
        have h1 := of_decide_eq_true h1
        have h2 := of_decide_eq_true h2
        cases kws with
        | cons a b => exact nf h3
        | nil =>
          cases e2 : P.fs[f]? with
          | none => rw [e2] at e1; cases e1
          | some fi =>
            rw [e2] at e1
            have e1 : fi.shs[q]? = some sh := e1
            cases xs with
            | nil => exact nf h5
            | cons x xs =>
              cases es with
              | nil => exact nf h6
              | cons e es =>
                obtain ⟨i1, i2⟩ := and2 (show (notStar x && mE P N sc e x && mEs P N sc es xs) = true from h6)
                obtain ⟨dvs, rd, pe⟩ := pe_fn g (pos := p) (p := py) e1 h1 e2 h2 h4 (evsOk g h6) (notStar_each (and2 i1).1 _ _) (noStars i2)
                obtain ⟨fd, _, len, _⟩ := g.pg.fs f fi e2
                refine PE.imp pe fun σ H Q q => tE_fn len rd ?_
                obtain ⟨ρ, w, he, L, h⟩ := q
                refine ⟨ρ, w, he, L, ?_⟩
                unfold ev at h
                simp only [evs, e1, e2, h2, List.length_nil, and_true, Rs.bind_ok] at h ⊢
                exact h
  | .bfn f es, x, sc, W, top, X, g, h => by
    cases x <;> first
      | exact nf h
      | skip
    rename_i fx xs ks p
    cases fx <;> first
      | exact nf h
      | skip
    rename_i y py
    match ks, h with
    | [], h =>
      obtain ⟨h, h5⟩ := and2 (show (decide (bfName f = y) && decide (y ∈ P.bn) && isGl sc y && !xs.isEmpty && mEs P N sc es xs) = true from h)
      obtain ⟨h, h4⟩ := and2 h
      obtain ⟨h, h3⟩ := and2 h
      obtain ⟨h1, h2⟩ := and2 h
      have h1 : bfName f = y := of_decide_eq_true h1
      subst h1
      have h2 := g.pg.bn _ (of_decide_eq_true h2)
      have ok := ok_bf f
      cases xs with
      | nil => exact nf h4
      | cons x xs =>
        cases es with
        | nil => exact nf h5
        | cons e es =>
          obtain ⟨i1, i2⟩ := and2 (show (notStar x && mE P N sc e x && mEs P N sc es xs) = true from h5)
          have cb := callB (W := W) g.eK g.calm g.room.g g.units f
          have bv := bn_bf f
          have arg := evsOk g h5
          have st := notStar_each (and2 i1).1 xs X.env
          have ns := noStars (pos := p) (env := X.env) i2
          have res : PE X (.Call (.Name (bfName f) py) (x :: xs) [] p) (tCB (rL G W (bfd f)) (tA G W (evs P C (e :: es)))) := by
            cases f <;> first
              | exact pe_callB cb (g.glb h3) h2 bv arg (okName.n ok) (okName.d ok) st ns
              | exact pe_callTy cb (g.glb h3) h2 bv arg (okName.n ok) (okName.d ok) st ns
          exact PE.imp res fun σ H Q q => tE_args q
  | .meth m o es, x, sc, W, top, X, g, h => by
    cases x <;> first
      | exact nf h
      | skip
    rename_i fx xs ks p
    cases fx <;> first
      | exact nf h
      | skip
    rename_i l nm ap
    match ks, h with
    | [], h =>
      obtain ⟨h, h7⟩ := and2 (show (decide (mfName m = nm) && notSuper l && (ap.endLine == p.line) && mE P N sc o l && !xs.isEmpty && decide (xs.length < 29) && mEs P N sc es xs) = true from h)
      obtain ⟨h, h6⟩ := and2 h
      obtain ⟨h, h5⟩ := and2 h
      obtain ⟨h, h4⟩ := and2 h
      obtain ⟨h, h3⟩ := and2 h
      obtain ⟨h1, h2⟩ := and2 h
      have h1 : mfName m = nm := of_decide_eq_true h1
      subst h1
      cases xs with
      | nil => exact nf h5
      | cons x xs =>
        cases es with
        | nil => exact nf h7
        | cons e es =>
          obtain ⟨i1, i2⟩ := and2 (show (notStar x && mE P N sc e x && mEs P N sc es xs) = true from h7)
          have arg := evsOk g h7
          have st := notStar_each (and2 i1).1 xs X.env
          have ns := noStars (pos := p) (env := X.env) i2
          have few : ((backTo p (starEach (x :: xs) X.env)).all (fun x => !x.1) && (backToKw p (keywordEach [] X.env)).all (fun x => x.1.isSome)
              && decide ((x :: xs).length + ([] : List Keyword).length + (if ([] : List Keyword).isEmpty then 0 else 1) < 30)) = true := by
            rw [few_of h7]
            have h6 := of_decide_eq_true h6
            show (true && true && decide ((x :: xs).length + 0 + 0 < 30)) = true
            exact decide_eq_true (by omega)
          have recv := evOk g h4
          cases m with
          | join =>
            exact PE.imp (pe_bm PySem.F.plainAttrs_str PySem.F.slot_str_join PySem.F.type_str_join mt_join recv arg (base_of h2) few h3 st ns) fun σ H Q q => tE_meth (c := mrec .join) (f := mef .join) (fun L r hc => join_ty r hc) (fun L r rs hp => join_r g.eK L r rs hp) q
  | .ix a i, x, sc, W, top, X, g, h => by
    cases x <;> first
      | exact nf h
      | skip
    rename_i l r p
    obtain ⟨h, h3⟩ := and2 (show (notSlice r && mE P N sc a l && mE P N sc i r) = true from h)
    obtain ⟨h1, h2⟩ := and2 h
    exact PE.imp (pe_ix (ixR (W := W) g.eK) (evOk g h2) (evOk g h3) (plainIx h1)) fun σ H Q q => tE_op q
  | .slc a lo hi, x, sc, W, top, X, g, h => by
    cases x <;> first
      | exact nf h
      | skip
    rename_i l r p
    cases r <;> first
      | exact nf h
      | skip
    rename_i u v st sp
    match st, h with
    | none, h =>
      obtain ⟨h, h3⟩ := and2 (show (mE P N sc a l && mO P N sc lo u && mO P N sc hi v) = true from h)
      obtain ⟨h1, h2⟩ := and2 h
      exact PE.imp (pe_slice (slR (W := W) g.eK) (evOk g h1) (evOOk g h2) (evOOk g h3)) fun σ H Q q => tE_slc q
  | .tup es, x, sc, W, top, X, g, h => by
    cases x <;> first
      | exact nf h
      | skip
    rename_i xs k p
    exact PE.imp (pe_tup (evsOk g (show mEs P N sc es xs = true from h))) fun σ H Q q => tE_tup q
  | .lst c es, x, sc, W, top, X, g, h => by
    cases x <;> first
      | exact nf h
      | skip
    rename_i xs p
    exact PE.imp (pe_lst (evsOk g (show mEs P N sc es xs = true from h))) fun σ H Q q => tE_lst q
  | .comp c t own it cond e, x, sc, W, top, X, g, h => by
    cases x <;> first
      | exact nf h
      | skip
    rename_i elt gs scope p
    match gs, h with
    | [⟨tg, iter, ifs, 0⟩], h =>
      obtain ⟨h, h7⟩ := and2 (show (notSet iter && blkC N sc scope (ownOf N own) && (slotsT t).all own.contains && mI P N sc it iter && mG N false (relS scope sc) t tg && mC P N (relS scope sc) cond ifs && mE P N (relS scope sc) e elt) = true from h)
      obtain ⟨h, h6⟩ := and2 h
      obtain ⟨h, h5⟩ := and2 h
      obtain ⟨h, h4⟩ := and2 h
      obtain ⟨h, h3⟩ := and2 h
      obtain ⟨h1, h2⟩ := and2 h
      have ok : BlkOk X.N X.env.scope scope (ownOf N own) := by
        rw [g.eN, g.eS]
        exact blkOk_by h2
      have eo : (ownOf N own).map (·.2) = own := by
        unfold ownOf
        rw [List.map_map]
        exact List.map_id own
      have pe := pe_lc (pos := p) g.calm (by rw [g.eN]; exact g.nd) (evIOk g h4) ok
        (fun s H c cl fp => gOk (top := false) (g.blk s H scope c cl fp).eK g.eN g.nd (g.blk s H scope c cl fp).eS g.calm (fun z => nomatch z) h5)
        (fun s H c cl fp => evCOk (g.blk s H scope c cl fp) h6)
        (fun s H c cl fp => evOk (g.blk s H scope c cl fp) h7) (set_free h1 X.env)
      rw [eo] at pe
      exact PE.imp pe fun σ H Q q => comp_ok (fun i hi => by simpa using List.all_eq_true.mp h3 i hi) q
theorem evTOk : ∀ {e : CT} {x : Expr} {sc : Scope} {W : XK} {top : Bool} {X : Cx}, XG G P C n N sc W top X → mT P N sc e x = true → PT X x (tT G W (evT P C e))
  | .and es, x, sc, W, top, X, g, h => by
    cases x <;> first
      | exact nf h
      | skip
    rename_i op xs p
    cases op <;> first
      | exact nf h
      | skip
    obtain ⟨h1, h2⟩ := and2 (show (!xs.isEmpty && mTs P N sc es xs) = true from h)
    cases xs with
    | nil => exact nf h1
    | cons x xs => exact PW.pt (evTAOk g h2)
  | .or es, x, sc, W, top, X, g, h => by
    cases x <;> first
      | exact nf h
      | skip
    rename_i op xs p
    cases op <;> first
      | exact nf h
      | skip
    obtain ⟨h1, h2⟩ := and2 (show (!xs.isEmpty && mTs P N sc es xs) = true from h)
    cases xs with
    | nil => exact nf h1
    | cons x xs => exact PW.pt (evTOOk g h2)
  | .not a, x, sc, W, top, X, g, h => by
    cases x <;> first
      | exact nf h
      | skip
    rename_i op l p
    cases op <;> first
      | exact nf h
      | skip
    exact PT.imp (pt_not (evTOk g (show mT P N sc a l = true from h))) fun σ H Q q => tT_not q
  | .cmp o a b, x, sc, W, top, X, g, h => by
    cases x <;> first
      | exact nf h
      | skip
    rename_i l ops rs p
    match ops, rs, h with
    | [op], [r], h =>
      obtain ⟨h1, h4⟩ := and2 (show (decide (o = op) && mE P N sc a l && mE P N sc b r && notSet r) = true from h)
      obtain ⟨h1, h3⟩ := and2 h1
      obtain ⟨h1, h2⟩ := and2 h1
      have e : o = op := of_decide_eq_true h1
      subst e
      exact PT.imp (pt_cmpR (opC (W := W) g.eK (by have := g.units; omega) o) (evOk g h2) (evOk g h3) (marks_of h4)) fun σ H Q q => tT_cmp q
  | .chain o o' a b c, x, sc, W, top, X, g, h => by
    cases x <;> first
      | exact nf h
      | skip
    rename_i l ops rs p
    match ops, rs, h with
    | [op, op'], [m, r], h =>
      obtain ⟨h1, h6⟩ := and2 (show (decide (o = op) && decide (o' = op') && mE P N sc a l && mE P N sc b m && mE P N sc c r && notSet r) = true from h)
      obtain ⟨h1, h5⟩ := and2 h1
      obtain ⟨h1, h4⟩ := and2 h1
      obtain ⟨h1, h3⟩ := and2 h1
      obtain ⟨h1, h2⟩ := and2 h1
      have e : o = op := of_decide_eq_true h1
      have e' : o' = op' := of_decide_eq_true h2
      subst e e'
      exact PT.imp (pt_chain (opC (W := W) g.eK (by have := g.units; omega) o) (opC (W := W) g.eK (by have := g.units; omega) o') (evOk g h3) (evOk g h4) (evOk g h5) (marks_of h6)) fun σ H Q q => tT_chain q
  | .val e, x, sc, W, top, X, g, h => by
    obtain ⟨h1, h2⟩ := and2 (show (plainT x && mE P N sc e x) = true from h)
    exact PT.imp (pt_truth (evOk g h2) (plainT_ok h1)) fun σ H Q q => tT_of g.eK q
theorem evAndOk : ∀ {es : List CE} {xs : List Expr} {sc : Scope} {W : XK} {top : Bool} {X : Cx} {p : Pos}, XG G P C n N sc W top X → mEs P N sc es xs = true → PE X (.BoolOp .And xs p) (tE G W (evAnd P C es))
  | [], xs, sc, W, top, X, p, g, h => by
    refine PE.imp (t := fun _ _ _ => False) ⟨fun _ _ _ _ _ _ z => z.elim⟩ ?_
    rintro σ H Q ⟨ρ, w, he, L, h⟩
    exact h
  | [e], [x], sc, W, top, X, p, g, h => by
    obtain ⟨h1, h3⟩ := and2 (show (notStar x && mE P N sc e x && mEs P N sc [] []) = true from h)
    exact pe_one (evOk g (and2 h1).2)
  | e :: f :: es, x :: y :: xs, sc, W, top, X, p, g, h => by
    obtain ⟨h1, h3⟩ := and2 (show (notStar x && mE P N sc e x && mEs P N sc (f :: es) (y :: xs)) = true from h)
    exact PE.imp (pe_and (evOk g (and2 h1).2) (evAndOk g h3)) fun σ H Q q => tE_and q
  | [e], [], _, _, _, _, _, _, h => nf h
  | [e], x :: y :: xs, _, _, _, _, _, _, h => nf (and2 (show (notStar x && mE P N _ e x && mEs P N _ [] (y :: xs)) = true from h)).2
  | e :: f :: es, [], _, _, _, _, _, _, h => nf h
  | e :: f :: es, [x], _, _, _, _, _, _, h => nf (and2 (show (notStar x && mE P N _ e x && mEs P N _ (f :: es) []) = true from h)).2
theorem evOrOk : ∀ {es : List CE} {xs : List Expr} {sc : Scope} {W : XK} {top : Bool} {X : Cx} {p : Pos}, XG G P C n N sc W top X → mEs P N sc es xs = true → PE X (.BoolOp .Or xs p) (tE G W (evOr P C es))
  | [], xs, sc, W, top, X, p, g, h => by
    refine PE.imp (t := fun _ _ _ => False) ⟨fun _ _ _ _ _ _ z => z.elim⟩ ?_
    rintro σ H Q ⟨ρ, w, he, L, h⟩
    exact h
  | [e], [x], sc, W, top, X, p, g, h => by
    obtain ⟨h1, h3⟩ := and2 (show (notStar x && mE P N sc e x && mEs P N sc [] []) = true from h)
    exact pe_one (evOk g (and2 h1).2)
  | e :: f :: es, x :: y :: xs, sc, W, top, X, p, g, h => by
    obtain ⟨h1, h3⟩ := and2 (show (notStar x && mE P N sc e x && mEs P N sc (f :: es) (y :: xs)) = true from h)
    exact PE.imp (pe_or (evOk g (and2 h1).2) (evOrOk g h3)) fun σ H Q q => tE_or q
  | [e], [], _, _, _, _, _, _, h => nf h
  | [e], x :: y :: xs, _, _, _, _, _, _, h => nf (and2 (show (notStar x && mE P N _ e x && mEs P N _ [] (y :: xs)) = true from h)).2
  | e :: f :: es, [], _, _, _, _, _, _, h => nf h
  | e :: f :: es, [x], _, _, _, _, _, _, h => nf (and2 (show (notStar x && mE P N _ e x && mEs P N _ (f :: es) []) = true from h)).2
theorem evTAOk : ∀ {es : List CT} {x : Expr} {xs : List Expr} {sc : Scope} {W : XK} {top : Bool} {X : Cx} {p : Pos}, XG G P C n N sc W top X → mTs P N sc es (x :: xs) = true → PW X (.BoolOp .And (x :: xs) p) (tT G W (evTA P C es))
  | [e], x, [], sc, W, top, X, p, g, h => by
    obtain ⟨h1, h3⟩ := and2 (show (mT P N sc e x && mTs P N sc [] []) = true from h)
    refine ⟨fun wh pins s σ H Q I q => (pw_and1 (evTOk g h1)).run wh pins s σ H Q I ?_⟩
    obtain ⟨ρ, w, he, L, h⟩ := q
    refine ⟨ρ, w, he, L, ?_⟩
    have h : Po G ((evT P C e ρ w.S).bind fun x s1 => if x then .ok true s1 else .ok false s1) w H (fun b _ H' => Q b H') W := h
    cases q : evT P C e ρ w.S with
    | bad => rw [q] at h; exact h
    | exc ex s => rw [q] at h; exact h
    | ok b s => rw [q] at h; cases b <;> exact h
  | e :: f :: es, x, y :: xs, sc, W, top, X, p, g, h => by
    obtain ⟨h1, h3⟩ := and2 (show (mT P N sc e x && mTs P N sc (f :: es) (y :: xs)) = true from h)
    exact ⟨fun wh pins s σ H Q I q => (pw_and (evTOk g h1) (evTAOk g h3)).run wh pins s σ H Q I (tT_and q)⟩
  | [], x, xs, _, _, _, _, _, _, h => nf h
  | [e], x, y :: xs, _, _, _, _, _, _, h => nf (and2 (show (mT P N _ e x && mTs P N _ [] (y :: xs)) = true from h)).2
  | e :: f :: es, x, [], _, _, _, _, _, _, h => nf (and2 (show (mT P N _ e x && mTs P N _ (f :: es) []) = true from h)).2
theorem evTOOk : ∀ {es : List CT} {x : Expr} {xs : List Expr} {sc : Scope} {W : XK} {top : Bool} {X : Cx} {p : Pos}, XG G P C n N sc W top X → mTs P N sc es (x :: xs) = true → PW X (.BoolOp .Or (x :: xs) p) (tT G W (evTO P C es))
  | [e], x, [], sc, W, top, X, p, g, h => by
    obtain ⟨h1, h3⟩ := and2 (show (mT P N sc e x && mTs P N sc [] []) = true from h)
    refine ⟨fun wh pins s σ H Q I q => (pw_or1 (evTOk g h1)).run wh pins s σ H Q I ?_⟩
    obtain ⟨ρ, w, he, L, h⟩ := q
    refine ⟨ρ, w, he, L, ?_⟩
    have h : Po G ((evT P C e ρ w.S).bind fun x s1 => if x then .ok true s1 else .ok false s1) w H (fun b _ H' => Q b H') W := h
    cases q : evT P C e ρ w.S with
    | bad => rw [q] at h; exact h
    | exc ex s => rw [q] at h; exact h
    | ok b s => rw [q] at h; cases b <;> exact h
  | e :: f :: es, x, y :: xs, sc, W, top, X, p, g, h => by
    obtain ⟨h1, h3⟩ := and2 (show (mT P N sc e x && mTs P N sc (f :: es) (y :: xs)) = true from h)
    exact ⟨fun wh pins s σ H Q I q => (pw_or (evTOk g h1) (evTOOk g h3)).run wh pins s σ H Q I (tT_or q)⟩
  | [], x, xs, _, _, _, _, _, _, h => nf h
  | [e], x, y :: xs, _, _, _, _, _, _, h => nf (and2 (show (mT P N _ e x && mTs P N _ [] (y :: xs)) = true from h)).2
  | e :: f :: es, x, [], _, _, _, _, _, _, h => nf (and2 (show (mT P N _ e x && mTs P N _ (f :: es) []) = true from h)).2
theorem evCOk : ∀ {e : Option CT} {x : List Expr} {sc : Scope} {W : XK} {top : Bool} {X : Cx}, XG G P C n N sc W top X → mC P N sc e x = true → PTs X x (tT G W (evC P C e))
  | none, [], sc, W, top, X, g, h => ⟨fun pins s σ H Q I q => pts_nil.run pins s σ H Q I (by
    obtain ⟨ρ, w, he, L, h⟩ := q
    exact Po.ok h rfl L)⟩
  | some e, [x], sc, W, top, X, g, h => pts_one (evTOk g (show mT P N sc e x = true from h))
  | none, _ :: _, _, _, _, _, _, h => nf h
  | some _, [], _, _, _, _, _, h => nf h
  | some _, _ :: _ :: _, _, _, _, _, _, h => nf h
theorem evOOk : ∀ {e : Option CE} {x : Option Expr} {sc : Scope} {W : XK} {top : Bool} {X : Cx}, XG G P C n N sc W top X → mO P N sc e x = true → PO X x (tOI G W (evO P C e))
  | none, none, sc, W, top, X, g, h => PO.imp po_none fun σ H Q q => by
    obtain ⟨ρ, w, he, L, h⟩ := q
    exact Po.ok h rfl L
  | some e, some x, sc, W, top, X, g, h => PO.imp (po_some (evOk g (show mE P N sc e x = true from h))) fun σ H Q q => by
    obtain ⟨ρ, w, he, L, h⟩ := q
    refine ⟨ρ, w, he, L, (Po.bind (show Po G ((ev P C e ρ w.S).bind fun x s1 => match x with
      | .int i => .ok (some i) s1
      | _ => .bad) w H (fun o _ H' => Q o H') W from h)).imp fun d w1 H1 x1 L1 h1 v rv => ?_⟩
    split at h1
    · cases rv
      exact ⟨_, rfl, Po.ok h1 rfl L1⟩
    · exact (show False from h1).elim
  | none, some _, _, _, _, _, _, h => nf h
  | some _, none, _, _, _, _, _, h => nf h
theorem evIOk : ∀ {e : IT} {x : Expr} {tg : Expr} {sc : Scope} {W : XK} {top : Bool} {X : Cx}, XG G P C n N sc W top X → mI P N sc e x = true → PI X tg x (tI G W (evI P C e))
  | .plain e, x, tg, sc, W, top, X, g, h => PI.imp (pi_any (evOk g (show mE P N sc e x = true from h))) fun σ H R q => tI_plain g.eK q
  | .range1 e, x, tg, sc, W, top, X, g, h => by
    cases x <;> first
      | exact nf h
      | skip
    rename_i fx xs ks p
    cases fx <;> first
      | exact nf h
      | skip
    rename_i y py
    match xs, ks, h with
    | [a], [], h =>
      obtain ⟨h, h5⟩ := and2 (show (decide (y = "range") && decide (y ∈ P.bn) && isGl sc y && notStar a && mE P N sc e a) = true from h)
      obtain ⟨h, h4⟩ := and2 h
      obtain ⟨h, h3⟩ := and2 h
      obtain ⟨h1, h2⟩ := and2 h
      have h1 : y = "range" := of_decide_eq_true h1
      subst h1
      exact PI.imp (pi_range1 (g.glb h3) (g.pg.bn _ (of_decide_eq_true h2)) (pa_cons (evOk g h5) pa_nil (notStar_each h4 _ _)) (notStar_each h4 _ _)) fun σ H R q => tI_range1 q
  | .range2 e f, x, tg, sc, W, top, X, g, h => by
    cases x <;> first
      | exact nf h
      | skip
    rename_i fx xs ks p
    cases fx <;> first
      | exact nf h
      | skip
    rename_i y py
    match xs, ks, h with
    | [a, b], [], h =>
      obtain ⟨h, h7⟩ := and2 (show (decide (y = "range") && decide (y ∈ P.bn) && isGl sc y && notStar a && notStar b && mE P N sc e a && mE P N sc f b) = true from h)
      obtain ⟨h, h6⟩ := and2 h
      obtain ⟨h, h5⟩ := and2 h
      obtain ⟨h, h4⟩ := and2 h
      obtain ⟨h, h3⟩ := and2 h
      obtain ⟨h1, h2⟩ := and2 h
      have h1 : y = "range" := of_decide_eq_true h1
      subst h1
      exact PI.imp (pi_range2 (g.glb h3) (g.pg.bn _ (of_decide_eq_true h2)) (pa_cons (evOk g h6) (pa_cons (evOk g h7) pa_nil (notStar_each h5 _ _)) (notStar_each h4 _ _)) (by rw [notStar_each h4, notStar_each h5]; rfl) (by rw [notStar_each h5]; rfl)) fun σ H R q => tI_range2 q
theorem evsOk : ∀ {es : List CE} {xs : List Expr} {sc : Scope} {W : XK} {top : Bool} {X : Cx}, XG G P C n N sc W top X → mEs P N sc es xs = true → PA X xs (tA G W (evs P C es))
  | [], [], sc, W, top, X, g, h => by
    refine PA.imp pa_nil ?_
    rintro σ H Q ⟨ρ, w, he, L, h⟩
    exact Po.ok h rfl L [] .nil
  | e :: es, x :: xs, sc, W, top, X, g, h => by
    obtain ⟨h1, h3⟩ := and2 (show (notStar x && mE P N sc e x && mEs P N sc es xs) = true from h)
    obtain ⟨h1, h2⟩ := and2 h1
    exact PA.imp (pa_cons (evOk g h2) (evsOk g h3) (notStar_each h1 _ _)) fun σ H Q q => tA_cons q
  | [], _ :: _, _, _, _, _, _, h => nf h
  | _ :: _, [], _, _, _, _, _, h => nf h
end
end
end TK

/-! Tk13: statements. -/
namespace TK
open PySem PySem.Spec L2

def notTup : Expr → Bool
  | .Tuple _ _ _ => false
  | _ => true
def isTupT : Expr → Bool
  | .Tuple _ _ _ => true
  | _ => false
def notDoc : Expr → Bool
  | .Constant _ _ _ => false
  | _ => true
section
variable (P : Pg) (N : List Str)
mutual
def mS (sc : Scope) : CS → Stmt → Bool
  | .set i e, .Assign [.Name x _] v _ => decide (N[i]? = some x) && isStore true sc x && notComp v && mE P N sc e v
  | .setc i (.comp c t own it cond e), .Assign [.Name x py] (.ListComp elt [⟨tg, iter, ifs, 0⟩] scope pos) _ =>
      decide (N[i]? = some x) && decide (sc.names.lookup x = some .local) && (py.line == pos.line) && !(scope.names.any fun (n, k) => n == x && (k == .local || k == .cell)) &&
      mE P N sc (.comp c t own it cond e) (.ListComp elt [⟨tg, iter, ifs, 0⟩] scope pos)
  | .par i j a b, .Assign [.Tuple [.Name x px, .Name y py] _ _] (.Tuple [u, v] _ _) _ =>
      decide (N[i]? = some x) && decide (N[j]? = some y) && decide (i ≠ j) && decide (sc.names.lookup x = some .local) && decide (sc.names.lookup y = some .local) && (px.line == py.line) && notStar u && notStar v &&
      !([u, v].all (foldedForSure 8)) && !([u, v].all (constantsAlone 8)) && mE P N sc a u && mE P N sc b v
  | .asg t e, .Assign [tg] v _ => isTupT tg && notTup v && notComp v && mG N true sc t tg && mE P N sc e v
  | .seti o i e, .Assign [.Subscript l r _] v _ => notSlice r && mE P N sc o l && mE P N sc i r && mE P N sc e v
  | .expr e, .Expr v _ => notDoc v && notComp v && mE P N sc e v
  | .ret e, .Return (some v) _ => mE P N sc e v
  | .ifs c a b, .If t x y _ => mT P N sc c t && mSs sc a x && mSs sc b y
  | .for_ t it body, .For tg iter b [] _ => notSet iter && mG N true sc t tg && mI P N sc it iter && mSs sc body b
  | .pass, .Pass _ => true
  | _, _ => false
def mSs (sc : Scope) : List CS → List Stmt → Bool
  | [], [] => true
  | c :: cs, s :: ss => mS sc c s && mSs sc cs ss
  | _, _ => false
end
end

def StEnd (G : Tb) (D : Ends) (fl : Fl) (w : Wd) (H : Hp) : Prop := match fl with
  | .nx ρ => ∀ σ, EvR G w H σ ρ → D.nx σ H
  | .rt d => ∀ v, Rep G w H v d → D.rt v H
  | .bk ρ => ∀ σ, EvR G w H σ ρ → D.bk σ H
  | .ct ρ => ∀ σ, EvR G w H σ ρ → D.ct σ H
def tS (G : Tb) (W : XK) (m : Ev → Sto → Rs Fl) : TS := fun D σ H => ∃ ρ w, EvR G w H σ ρ ∧ Lies G w H ∧ Po G (m ρ w.S) w H (StEnd G D) W

section
variable {G : Tb} {P : Pg} {C : Cal} {n : Nat} {N : List Str} {sc : Scope} {W : XK} {X : Cx}
theorem sw_not {v : Expr} {t : Option Expr} {l : Nat} {env : Env} (h : notComp v = true) : swapsWith v t l env = pure false := by
  unfold swapsWith
  cases v <;> first
    | rfl
    | exact nf h
theorem sw_tgt {v t : Expr} {l : Nat} {env : Env} (h : ∀ x p, t ≠ .Name x p) : swapsWith v (some t) l env = pure false := by
  unfold swapsWith
  cases v <;> first
    | rfl
    | (cases t <;> first
        | rfl
        | exact absurd rfl (h _ _))
theorem swapped_not {t v : Expr} {env : Env} (h : notTup v = true) : swappedStores [t] v env = pure none := by
  unfold swappedStores
  cases v with
  | Tuple _ _ _ => exact nf h
  | _ => cases t <;> rfl
theorem tS_set {m : Ev → Sto → Rs Dt} {i : Nat} {D : Ends} {σ : L2.St} {H : Hp} (h : tS G W (fun ρ s => (m ρ s).bind fun d s1 => setN i d ρ s1) D σ H) : tAsg (tE G W m) (gName i) D σ H := by
  obtain ⟨ρ, w, he, L, h⟩ := h
  refine ⟨ρ, w, he, L, (Po.bind h).imp fun d w1 H1 x1 L1 h1 v rv => ?_⟩
  unfold setN at h1
  split at h1
  · exact Po.ok h1 rfl L1 _ ((he.ext x1).set i rv)
  · exact (show False from h1).elim
theorem loopF_ok {t : Tg} {mi : Ev → Sto → Rs (List Dt)} {body : Ev → Sto → Rs Fl} {D : Ends} {σ : L2.St} {H : Hp} (h : tS G W (fun ρ s => (mi ρ s).bind fun ds s1 => loopF body t ds ρ s1) D σ H) :
    tFor (tI G W mi) (gT G t) (tS G W body) D σ H := by
  obtain ⟨ρ, w, he, L, h⟩ := h
  refine ⟨ρ, w, he, L, (Po.bind h).imp fun ds w1 H1 x1 L1 h1 J hJ => ?_⟩
  have he1 := he.ext x1
  refine ⟨fun i m σ2 H2 => m = ds.length - i ∧ i ≤ ds.length ∧ ∃ w2 ρ2, Ext w1 H1 w2 H2 ∧ Lies G w2 H2 ∧ EvR G w2 H2 σ2 ρ2 ∧ Po G (loopF body t (ds.drop i) ρ2 w2.S) w2 H2 (StEnd G D) W,
    ⟨ds.length, rfl, Nat.zero_le _, w1, ρ, Ext.refl _ _, L1, he1, h1⟩, ?_⟩
  rintro i m σ2 H2 ⟨rfl, hi, w2, ρ2, x2, L2', he2, hrun⟩
  by_cases hlt : i < ds.length
  · right
    obtain ⟨d, hd⟩ : ∃ d, ds[i]? = some d := ⟨ds[i], List.getElem?_eq_getElem hlt⟩
    obtain ⟨go, yld⟩ := hJ.go i d hd w2 H2 x2 L2'
    refine ⟨go, fun σ3 H3 => ∃ w3 ρ3, Ext w1 H1 w3 H3 ∧ Lies G w3 H3 ∧ EvR G w3 H3 σ3 ρ3 ∧ Po G (loopF body t (ds.drop (i + 1)) ρ3 w3.S) w3 H3 (StEnd G D) W,
      fun σ3 H3 ⟨w3, ρ3, r⟩ => ⟨ds.length - (i + 1), by omega, rfl, hlt, w3, ρ3, r⟩, fun x H3 hy => ?_⟩
    obtain ⟨e3, rx⟩ := yld x H3 hy
    subst e3
    have edrop : ds.drop i = d :: ds.drop (i + 1) := by
      rw [List.drop_eq_getElem_cons hlt]
      congr 1
      exact Option.some.inj ((List.getElem?_eq_getElem hlt).symm.trans hd)
    rw [edrop] at hrun
    unfold loopF at hrun
    cases eb : bindT t d ρ2 with
    | none => rw [eb] at hrun; exact (show False from hrun).elim
    | some ρ' =>
      rw [eb] at hrun
      refine ⟨ρ2, w2, d, he2, L2', rx, ρ', eb, fun σ3 he3 _ => ⟨ρ', w2, he3, L2', (Po.bind hrun).imp fun fl w3 H4 x3 L3 h3 => ?_⟩⟩
      cases fl with
      | nx ρ4 => exact fun σ4 he4 => ⟨w3, ρ4, x2.trans x3, L3, he4, h3⟩
      | ct ρ4 => exact fun σ4 he4 => ⟨w3, ρ4, x2.trans x3, L3, he4, h3⟩
      | bk ρ4 => exact fun σ4 he4 => Po.ok h3 rfl L3 σ4 he4
      | rt d => exact fun v rv => Po.ok h3 rfl L3 v rv
  · left
    have hi' : i = ds.length := by omega
    subst hi'
    refine ⟨hJ.stop w2 H2 x2 L2', ?_⟩
    rw [List.drop_length] at hrun
    exact Po.ok (show Po G (.ok (.nx ρ2) w2.S) w2 H2 (StEnd G D) W from hrun) rfl L2' σ2 he2
theorem set_cell {o i e : Dt} {w : Wd} {H : Hp} {x y z : V} {Q : Hp → Prop} {K : Unit → Wd → Hp → Prop} (L : Lies G w H) (r1 : Rep G w H x o) (r2 : Rep G w H y i) (r3 : Rep G w H z e) (h : Po G (setC o i e w.S) w H K W)
    (k : ∀ w' H', Ext w H w' H' → Lies G w' H' → K () w' H' → Q H') : rSetL x y z H Q := by
  unfold setC at h
  split at h
  · rename_i n k'
    split at h
    · rename_i xs e1
      split at h
      · rename_i j e2
        cases r2
        obtain ⟨a, vs, rfl, hb, ha, rs⟩ := lies_lst L r1 e1
        refine ⟨a, vs, _, j, rfl, rfl, ha, by rw [rs.length]; exact e2, ?_⟩
        have hj : j < xs.length := (ixN_seq e2).2.1
        have hn : n < w.S.length := (List.getElem?_eq_some_iff.mp e1).1
        have mua : w.mu a := .inr ⟨n, _, hb, e1, rfl⟩
        let w' : Wd := ⟨w.S.set n (.lst (xs.set j e)), w.B, w.hid⟩
        have muw : ∀ b, w'.mu b → w.mu b := fun b hb' => by
          rcases hb' with q | ⟨m, ob, q1, q2, lv⟩
          · exact .inl q
          · by_cases hm : n = m
            · subst hm
              exact .inr ⟨n, _, q1, e1, rfl⟩
            · have q2' : (w.S.set n (.lst (xs.set j e)))[m]? = some ob := q2
              rw [List.getElem?_set_ne hm] at q2'
              exact .inr ⟨m, ob, q1, q2', lv⟩
        have x0 : Ext0 w H w' (upd H a (.lst (vs.set j z))) := ⟨List.prefix_refl _, fun b u m q => by
          have ne : b ≠ a := fun q => m (by rw [q]; exact mua)
          refine ⟨u, by rw [upd_ne ne]; exact q, fun z r => ?_, fun _ _ _ _ => rfl, fun _ _ => rfl⟩
          rcases r with r | ⟨ob, r⟩
          · exact .inl (by rw [upd_ne ne]; exact r)
          · exact .inr ⟨ob, by rw [upd_ne ne]; exact r⟩, fun b q => .inl (muw b q)⟩
        have stay : ∀ b, H b ≠ none → upd H a (.lst (vs.set j z)) b ≠ none := fun b q => by
          unfold upd
          split
          · exact fun z => nomatch z
          · exact q
        have nh : a ∉ w.hid := fun q => (L.hthere a q).2 (List.mem_of_getElem? hb)
        have x1 : Ext w H w' (upd H a (.lst (vs.set j z))) := ⟨x0, stay, fun b q => .inl q, fun b q => q, fun b q => upd_ne (fun q2 => nh (by rw [← q2]; exact q))⟩
        have L1 : Lies G w' (upd H a (.lst (vs.set j z))) := {
          len := by show w.B.length = (w.S.set n _).length; rw [List.length_set]; exact L.len
          nd := L.nd
          at_ := fun m b ob q1 q2 => by
            have q2' : (w.S.set n (.lst (xs.set j e)))[m]? = some ob := q2
            by_cases hm : n = m
            · subst hm
              have q1' : w.B[n]? = some b := q1
              rw [hb] at q1'
              cases q1'
              rw [List.getElem?_set_self hn] at q2'
              cases q2'
              exact ⟨vs.set j z, upd_same, Reps.set (r3.ext0 x0) j (rs.ext0 x0)⟩
            · rw [List.getElem?_set_ne hm] at q2'
              have ne : b ≠ a := fun q => by
                subst q
                obtain ⟨l1, g1⟩ := List.getElem?_eq_some_iff.mp hb
                obtain ⟨l2, g2⟩ := List.getElem?_eq_some_iff.mp (show w.B[m]? = some b from q1)
                exact hm ((List.getElem_inj L.nd).mp (g1.trans g2.symm))
              exact ObAt.keep0 x0 (L.at_ m b ob q1 q2') (upd_ne ne)
          there := fun b q => stay b (L.there b q)
          hthere := fun b q => ⟨stay b (L.hthere b q).1, (L.hthere b q).2⟩ }
        exact k w' _ x1 L1 (Po.ok' h rfl x1 L1)
      · exact (show False from h).elim
    · exact (show False from h).elim
  · exact (show False from h).elim
end
end TK

/-! Tk14: statements, all together; defs. -/
namespace TK
open PySem PySem.Spec L2

section
variable {G : Tb} {P : Pg} {C : Cal} {n : Nat} {N : List Str}
theorem store_of {top : Bool} {sc : Scope} {W : XK} {X : Cx} (g : XG G P C n N sc W top X) {x : Str} (h : isStore top sc x = true) : Loc X.env.scope x ∧ (X.fn x = true ∨ X.env.scope.names.lookup x = some .local) := by
  rw [g.eS]
  unfold isStore at h
  split at h
  · exact ⟨.inl (by assumption), .inr (by assumption)⟩
  · exact ⟨.inr (by assumption), .inl (g.top h x)⟩
  · cases h
theorem swapped_two {x y : Str} {px py pt pv : Pos} {kt kv : Nat} {u v : Expr} {env : Env} (hk : env.scope.kind = .function) (hx : env.scope.names.lookup x = some .local) (hy : env.scope.names.lookup y = some .local) (hxy : x ≠ y) (hl : (px.line == py.line) = true)
    (h1 : notStar u = true) (h2 : notStar v = true) (h3 : ([u, v].all (foldedForSure 8)) = false) (h4 : ([u, v].all (constantsAlone 8)) = false) :
    swappedStores [.Tuple [.Name x px, .Name y py] kt pt] (.Tuple [u, v] kv pv) env = pure (some [x, y]) := by
  have hb : env.blockKind = .function := by unfold Env.blockKind; rw [hk]; rfl
  have kx : env.kindOf x = some .local := hx
  have ky : env.kindOf y = some .local := hy
  have e1 : (py.line == px.line) = true := by rw [beq_iff_eq] at hl ⊢; exact hl.symm
  have ns : ([u, v].any fun | .Starred .. => true | _ => false) = false := by
    rw [List.any_eq_false]
    intro e he
    have hs : notStar e = true := by
      rcases List.mem_cons.mp he with q | q
      · rw [q]; exact h1
      · rw [List.mem_singleton.mp q]; exact h2
    cases e <;> first
      | exact Bool.false_ne_true
      | exact nf hs
  have ed : [x, y].eraseDups = [x, y] := by
    have hyx : (y == x) = false := beq_eq_false_iff_ne.mpr (Ne.symm hxy)
    simp [List.eraseDups_cons, hyx]
  have fm : ([Expr.Name x px, Expr.Name y py].filterMap fun
    | .Name id pos => if env.kindOf id == some .local && pos.line == (([Expr.Name x px, Expr.Name y py].head?.map (·.pos.line)).getD 0) then some id else none
    | _ => none) = [x, y] := by
    have a1 : (env.kindOf x == some .local && px.line == (([Expr.Name x px, Expr.Name y py].head?.map (·.pos.line)).getD 0)) = true := by
      rw [kx]
      show (true && px.line == px.line) = true
      simp
    have a2 : (env.kindOf y == some .local && py.line == (([Expr.Name x px, Expr.Name y py].head?.map (·.pos.line)).getD 0)) = true := by
      rw [ky]
      exact e1
    rw [List.filterMap_cons]
    simp only [a1, if_true]
    rw [List.filterMap_cons]
    simp only [a2, if_true]
    rfl
  have c3 : ∀ l : List Str, l = [x, y] → (l.length != 2 || l.eraseDups.length != l.length) = false := by
    intro l e
    subst e
    rw [ed]; rfl
  unfold swappedStores
  simp only [hb, h3, h4]
  refine Eq.trans (if_neg (fun q => Bool.false_ne_true q)) ?_
  refine Eq.trans (if_neg (fun q => Bool.false_ne_true (ns.symm.trans q))) ?_
  refine Eq.trans (if_neg (fun q => Bool.false_ne_true ((c3 _ fm).symm.trans q))) ?_
  refine Eq.trans (if_neg Bool.false_ne_true) ?_
  refine Eq.trans (if_neg Bool.false_ne_true) ?_
  exact congrArg (fun l => (pure (some l) : Sem (Option (List Str)))) fm
theorem asg_sub {o i : Expr} {p : Pos} {env : Env} (h : notSlice i = true) (v : Value) : assign (.Subscript o i p) env v = (do
      let ov ← holding [v] (eval o env)
      let iv ← holding [v, ov] (eval i env)
      standAt p
      holding [v, ov, iv] (setItem ov iv v)
      release [v, ov, iv] []) := by
  cases i <;> first
    | rfl
    | exact nf h

/-- what holds of a def's body beside -/
structure XF (G : Tb) (P : Pg) (C : Cal) (n : Nat) (N : List Str) (sc : Scope) (W : XK) (X : Cx) : Prop extends XG G P C n N sc W true X where
  own : PassesOwn (model X.prog X.w) X.A X.env X.xe
  kind : sc.kind = .function
mutual
theorem exOk {sc : Scope} {W : XK} {X : Cx} (g : XF G P C n N sc W X) : ∀ {c : CS} {s : Stmt}, mS P N sc c s = true → PS X s (tS G W (ex P C c))
  | .set i e, s, h => by
    cases s <;> first
      | exact nf h
      | skip
    rename_i ts v p
    match ts, h with
    | [.Name x q], h =>
      obtain ⟨h, h4⟩ := and2 (show (decide (N[i]? = some x) && isStore true sc x && notComp v && mE P N sc e v) = true from h)
      obtain ⟨h, h3⟩ := and2 h
      obtain ⟨h1, h2⟩ := and2 h
      have st := store_of g.toXG h2
      exact PS.imp (ps_set (i := i) (by rw [g.eN]; exact g.nd) (by rw [g.eN]; exact of_decide_eq_true h1) st.1 (evOk g.toXG h4) (sw_not h3) st.2) fun D σ H q => tS_set q
  | .setc i e, s, h => by
    cases e <;> first
      | (exfalso; cases s <;> exact nf h)
      | skip
    rename_i c t own it cond e
    cases s <;> first
      | exact nf h
      | skip
    rename_i ts v p
    match ts, v, h with
    | [.Name x py], .ListComp elt [⟨tg, iter, ifs, 0⟩] scope pos, h =>
      obtain ⟨h, h5⟩ := and2 (show (decide (N[i]? = some x) && decide (sc.names.lookup x = some .local) && (py.line == pos.line) && !(scope.names.any fun (n, k) => n == x && (k == .local || k == .cell)) &&
        mE P N sc (.comp c t own it cond e) (.ListComp elt [⟨tg, iter, ifs, 0⟩] scope pos)) = true from h)
      obtain ⟨h, h4⟩ := and2 h
      obtain ⟨h, h3⟩ := and2 h
      obtain ⟨h1, h2⟩ := and2 h
      obtain ⟨k, k7⟩ := and2 (show (notSet iter && blkC N sc scope (ownOf N own) && (slotsT t).all own.contains && mI P N sc it iter && mG N false (relS scope sc) t tg && mC P N (relS scope sc) cond ifs && mE P N (relS scope sc) e elt) = true from h5)
      obtain ⟨k, k6⟩ := and2 k
      obtain ⟨k, k5⟩ := and2 k
      obtain ⟨k, k4⟩ := and2 k
      obtain ⟨k, k3⟩ := and2 k
      obtain ⟨k1, k2⟩ := and2 k
      have ok : BlkOk X.N X.env.scope scope (ownOf N own) := by
        rw [g.eN, g.eS]
        exact blkOk_by k2
      have eo : (ownOf N own).map (·.2) = own := by
        unfold ownOf
        rw [List.map_map]
        exact List.map_id own
      have hx : X.env.scope.names.lookup x = some .local := by rw [g.eS]; exact of_decide_eq_true h2
      have pe := ps_setLc (i := i) (pos := pos) (spos := p) (py := py) g.calm (by rw [g.eN]; exact g.nd) (by rw [g.eN]; exact of_decide_eq_true h1) hx
        (sw_true (by rw [g.eS]; exact g.kind) hx h3 ((Bool.not_eq_true' _).mp h4)) (evIOk g.toXG k4) ok
        (fun s H c cl fp => gOk (top := false) (g.toXG.blk s H scope c cl fp).eK g.eN g.nd (g.toXG.blk s H scope c cl fp).eS g.calm (fun z => nomatch z) k5)
        (fun s H c cl fp => evCOk (g.toXG.blk s H scope c cl fp) k6)
        (fun s H c cl fp => evOk (g.toXG.blk s H scope c cl fp) k7) (set_free k1 X.env)
      rw [eo] at pe
      refine PS.imp pe fun D σ H q => ?_
      have q2 : tAsg (tE G W (ev P C (.comp c t own it cond e))) (gName i) D σ H := tS_set q
      exact comp_ok (fun i hi => by simpa using List.all_eq_true.mp k3 i hi) q2
  | .par i j a b, s, h => by
    cases s <;> first
      | exact nf h
      | skip
    rename_i ts v p
    match ts, v, h with
    | [.Tuple [.Name x px, .Name y py] kt pt], .Tuple [u, v] kv pv, h =>
      obtain ⟨h, h12⟩ := and2 (show (decide (N[i]? = some x) && decide (N[j]? = some y) && decide (i ≠ j) && decide (sc.names.lookup x = some .local) && decide (sc.names.lookup y = some .local) && (px.line == py.line) && notStar u && notStar v &&
        !([u, v].all (foldedForSure 8)) && !([u, v].all (constantsAlone 8)) && mE P N sc a u && mE P N sc b v) = true from h)
      obtain ⟨h, h11⟩ := and2 h
      obtain ⟨h, h10⟩ := and2 h
      obtain ⟨h, h9⟩ := and2 h
      obtain ⟨h, h8⟩ := and2 h
      obtain ⟨h, h7⟩ := and2 h
      obtain ⟨h, h6⟩ := and2 h
      obtain ⟨h, h5⟩ := and2 h
      obtain ⟨h, h4⟩ := and2 h
      obtain ⟨h, h3⟩ := and2 h
      obtain ⟨h1, h2⟩ := and2 h
      have h1 := of_decide_eq_true h1
      have h2 := of_decide_eq_true h2
      have h3 := of_decide_eq_true h3
      have hx : X.env.scope.names.lookup x = some .local := by rw [g.eS]; exact of_decide_eq_true h4
      have hy : X.env.scope.names.lookup y = some .local := by rw [g.eS]; exact of_decide_eq_true h5
      have hxy : x ≠ y := fun q => h3 (nodup_ix g.nd h1 (q ▸ h2))
      refine PS.imp (ps_par g.calm (by rw [g.eN]; exact g.nd) (by rw [g.eN]; exact h1) (by rw [g.eN]; exact h2) h3 hx hy (pa_cons (evOk g.toXG h11) (pa_cons (evOk g.toXG h12) pa_nil (notStar_each h8 _ _)) (notStar_each h7 _ _))
        (swapped_two (by rw [g.eS]; exact g.kind) hx hy hxy h6 h7 h8 ((Bool.not_eq_true' _).mp h9) ((Bool.not_eq_true' _).mp h10))) ?_
      rintro D σ H ⟨ρ, w, he, L, h⟩
      refine ⟨ρ, w, he, L, (Po.bind (show Po G ((ev P C a ρ w.S).bind fun x s1 => (ev P C b ρ s1).bind fun y s2 => if i < ρ.length ∧ j < ρ.length then .ok (.nx ((ρ.set i (some x)).set j (some y))) s2 else .bad) w H (StEnd G D) W from h)).imp fun d w1 H1 x1 L1 h1 v rv =>
        ⟨ρ, w1, he.ext x1, L1, (Po.bind h1).imp fun d2 w2 H2 x2 L2 h2 v2 rv2 => ⟨v, v2, rfl, ?_⟩⟩⟩
      split at h2
      · exact Po.ok h2 rfl L2 _ ((((he.ext x1).ext x2).set i (rv.ext x2)).set j rv2)
      · exact (show False from h2).elim
  | .asg t e, s, h => by
    cases s <;> first
      | exact nf h
      | skip
    rename_i ts v p
    match ts, h with
    | [tg], h =>
      obtain ⟨h, h5⟩ := and2 (show (isTupT tg && notTup v && notComp v && mG N true sc t tg && mE P N sc e v) = true from h)
      obtain ⟨h, h4⟩ := and2 h
      obtain ⟨h, h3⟩ := and2 h
      obtain ⟨h1, h2⟩ := and2 h
      have e1 : (assignEach [tg] X.env).map (·.2) = [assign tg X.env] := by
        cases tg <;> first
          | rfl
          | exact nf h1
      refine PS.imp (ps_asg (evOk g.toXG h5) (gOk g.eK g.eN g.nd g.eS g.calm g.top h4) (show swapsWith v (some tg) p.line X.env = pure false from sw_not h3) (swapped_not h2) e1) ?_
      rintro D σ H ⟨ρ, w, he, L, h⟩
      refine ⟨ρ, w, he, L, (Po.bind (show Po G ((ev P C e ρ w.S).bind fun d s1 => match bindT t d ρ with
        | some ρ' => .ok (.nx ρ') s1
        | none => .bad) w H (StEnd G D) W from h)).imp fun d w1 H1 x1 L1 h1 v rv => ?_⟩
      split at h1
      · rename_i ρ' eb
        exact ⟨ρ, w1, d, he.ext x1, L1, rv, ρ', eb, fun σ' he' _ => Po.ok h1 rfl L1 σ' he'⟩
      · exact (show False from h1).elim
  | .seti o i e, s, h => by
    cases s <;> first
      | exact nf h
      | skip
    rename_i ts v p
    match ts, h with
    | [.Subscript l r q], h =>
      obtain ⟨h, h4⟩ := and2 (show (notSlice r && mE P N sc o l && mE P N sc i r && mE P N sc e v) = true from h)
      obtain ⟨h, h3⟩ := and2 h
      obtain ⟨h1, h2⟩ := and2 h
      refine PS.imp (ps_asg (evOk g.toXG h4) (pg_sub (evOk g.toXG h2) (evOk g.toXG h3) set_list (asg_sub h1)) (show swapsWith v (some (.Subscript l r q)) p.line X.env = pure false from sw_tgt fun _ _ z => nomatch z) (by unfold swappedStores; cases v <;> rfl) rfl) ?_
      rintro D σ H ⟨ρ, w, he, L, h⟩
      refine ⟨ρ, w, he, L, (Po.bind (show Po G ((ev P C e ρ w.S).bind fun v s1 => (ev P C o ρ s1).bind fun x s2 => (ev P C i ρ s2).bind fun k s3 => (setC x k v s3).bind fun _ s4 => .ok (.nx ρ) s4) w H (StEnd G D) W from h)).imp fun d w1 H1 x1 L1 h1 v rv =>
        ⟨ρ, w1, he.ext x1, L1, (Po.bind h1).imp fun d2 w2 H2 x2 L2 h2 v2 rv2 => ⟨ρ, w2, (he.ext x1).ext x2, L2, (Po.bind h2).imp fun d3 w3 H3 x3 L3 h3 v3 rv3 => ?_⟩⟩⟩
      refine set_cell L3 (rv2.ext x3) rv3 ((rv.ext x2).ext x3) (Po.bind h3) fun w4 H4 x4 L4 h4 => ?_
      exact Po.ok h4 rfl L4 σ ((((he.ext x1).ext x2).ext x3).ext x4)
  | .expr e, s, h => by
    cases s <;> first
      | exact nf h
      | skip
    rename_i v p
    obtain ⟨h, h3⟩ := and2 (show (notDoc v && notComp v && mE P N sc e v) = true from h)
    refine PS.imp (ps_expr (evOk g.toXG h3) (sw_not (and2 h).2)) ?_
    rintro D σ H ⟨ρ, w, he, L, h⟩
    exact ⟨ρ, w, he, L, (Po.bind (show Po G ((ev P C e ρ w.S).bind fun _ s1 => .ok (.nx ρ) s1) w H (StEnd G D) W from h)).imp fun d w1 H1 x1 L1 h1 v rv => Po.ok h1 rfl L1 σ (he.ext x1)⟩
  | .ret e, s, h => by
    cases s <;> first
      | exact nf h
      | skip
    rename_i v p
    match v, h with
    | some v, h =>
      refine PS.imp (ps_ret (evOk g.toXG (show mE P N sc e v = true from h))) ?_
      rintro D σ H ⟨ρ, w, he, L, h⟩
      exact ⟨ρ, w, he, L, (Po.bind (show Po G ((ev P C e ρ w.S).bind fun d s1 => .ok (.rt d) s1) w H (StEnd G D) W from h)).imp fun d w1 H1 x1 L1 h1 v rv => Po.ok h1 rfl L1 v rv⟩
  | .ifs c a b, s, h => by
    cases s <;> first
      | exact nf h
      | skip
    rename_i t x y p
    obtain ⟨h, h3⟩ := and2 (show (mT P N sc c t && mSs P N sc a x && mSs P N sc b y) = true from h)
    obtain ⟨h1, h2⟩ := and2 h
    refine PS.imp (ps_if (evTOk g.toXG h1) (exsOk g h2) (exsOk g h3)) ?_
    rintro D σ H ⟨ρ, w, he, L, h⟩
    refine ⟨ρ, w, he, L, (Po.bind (show Po G ((evT P C c ρ w.S).bind fun t s1 => if t then exs P C a ρ s1 else exs P C b ρ s1) w H (StEnd G D) W from h)).imp fun d w1 H1 x1 L1 h1 => ?_⟩
    cases d with
    | true => exact ⟨ρ, w1, he.ext x1, L1, h1⟩
    | false => exact ⟨ρ, w1, he.ext x1, L1, h1⟩
  | .for_ t it body, s, h => by
    cases s <;> first
      | exact nf h
      | skip
    rename_i tg iter b oe p
    match oe, h with
    | [], h =>
      obtain ⟨h, h4⟩ := and2 (show (notSet iter && mG N true sc t tg && mI P N sc it iter && mSs P N sc body b) = true from h)
      obtain ⟨h, h3⟩ := and2 h
      obtain ⟨h1, h2⟩ := and2 h
      exact PS.imp (ps_for g.own g.calm (evIOk g.toXG h3) (gOk g.eK g.eN g.nd g.eS g.calm g.top h2) (exsOk g h4) (set_free h1 X.env)) fun D σ H q => loopF_ok q
  | .pass, s, h => by
    cases s <;> first
      | exact nf h
      | skip
    refine PS.imp ps_pass ?_
    rintro D σ H ⟨ρ, w, he, L, h⟩
    exact Po.ok (show Po G (.ok (.nx ρ) w.S) w H (StEnd G D) W from h) rfl L σ he
theorem exsOk {sc : Scope} {W : XK} {X : Cx} (g : XF G P C n N sc W X) : ∀ {c : List CS} {s : List Stmt}, mSs P N sc c s = true → PSs X s (tS G W (exs P C c))
  | [], [], h => by
    refine PSs.imp pss_nil ?_
    rintro D σ H ⟨ρ, w, he, L, h⟩
    exact Po.ok (show Po G (.ok (.nx ρ) w.S) w H (StEnd G D) W from h) rfl L σ he
  | c :: cs, s :: ss, h => by
    obtain ⟨h1, h2⟩ := and2 (show (mS P N sc c s && mSs P N sc cs ss) = true from h)
    refine PSs.imp (pss_cons (exOk g h1) (exsOk g h2)) ?_
    rintro D σ H ⟨ρ, w, he, L, h⟩
    refine ⟨ρ, w, he, L, (Po.bind (show Po G ((ex P C c ρ w.S).bind fun f s1 => match f with
      | .nx ρ2 => exs P C cs ρ2 s1
      | f => .ok f s1) w H (StEnd G D) W from h)).imp fun fl w1 H1 x1 L1 h1 => ?_⟩
    cases fl with
    | nx ρ2 => exact fun σ' he' => ⟨ρ2, w1, he', L1, h1⟩
    | rt d => exact Po.ok (W := W) h1 rfl L1
    | bk ρ => exact Po.ok (W := W) h1 rfl L1
    | ct ρ => exact Po.ok (W := W) h1 rfl L1
  | [], _ :: _, h => nf h
  | _ :: _, [], h => nf h
end
end
end TK

/-! Tk15: all defs keep what the interpreter says; the law's end. -/
namespace TK
open PySem PySem.Spec L2

/-- what is known of the f-th def -/
structure FiOk (G : Tb) (P : Pg) (f : Nat) (fi : Fi) (fd : FuncData) : Prop where
  ex : ∃ (x qual : Str) (params : Arguments) (body : List Stmt) (scope : Scope) (dvs : List V) (kws : List (Str × V)),
    FunD G.K x qual params body scope dvs kws (G.fn f) fd ∧ FnScope fi.N (fi.N.take fi.np) scope ∧ mSs P fi.N scope fi.body body = true
  names : ∀ x ∈ fi.N, okName x = true
  np : fi.np ≤ fi.N.length
  sh : ∃ dvs, (∀ w H, Reps G w H dvs fi.dfl) ∧ ∀ q ∈ fi.shs, ShOk G.K fd (fi.N.take fi.np) q.n q.ks dvs q.o
/-- what is known of the text -/
structure PrOk (G : Tb) (P : Pg) (mg : Str → Option Value) : Prop where
  gl : ∀ (k : Nat) (x : Str), P.gn[k]? = some x → okName x = true ∧ ∃ d v u, P.gv[k]? = some d ∧ mg x = some u ∧ RelV v u ∧ ∀ w H, Rep G w H v d
  bn : ∀ x ∈ P.bn, mg x = none
  fn : ∀ (f : Nat) (x : Str), P.fn[f]? = some x → okName x = true ∧ mg x = some (.ref (G.fn f)) ∧ PySem.W.keepIn G.K (.ref (G.fn f)) = true
  fs : ∀ (f : Nat) (fi : Fi), P.fs[f]? = some fi → ∃ fd, FiOk G P f fi fd

theorem calls_len {P : Pg} {k f : Nat} {fi : Fi} (h : P.fs[f]? = some fi) (ds : List Dt) (s : Sto) : calls P k f ds s = .bad ∨ ds.length = fi.np := by
  cases k with
  | zero => exact .inl rfl
  | succ k =>
    by_cases e : ds.length = fi.np
    · exact .inr e
    · left
      unfold calls
      rw [h]
      simp only
      rw [if_neg e]
section
variable {G : Tb} {P : Pg} {mg : Str → Option Value}
theorem start_ev {w : Wd} {H : Hp} {vs : List V} {ds : List Dt} {N : List Str} (r : Reps G w H vs ds) : EvR G w H (L2.start N vs) (start0 N.length ds) := by
  have hl := r.length
  unfold L2.start start0
  rw [hl]
  refine ⟨by simp [hl], fun i d e => ?_⟩
  by_cases hi : i < ds.length
  · rw [List.getElem?_append_left (by simpa using hi), List.getElem?_map] at e
    cases q : ds[i]? with
    | none => rw [q] at e; cases e
    | some d' =>
      rw [q] at e
      cases e
      obtain ⟨v, e1, rv⟩ := r.get q
      exact ⟨v, by rw [List.getElem?_append_left (by simpa [hl] using hi), List.getElem?_map, e1]; rfl, rv⟩
  · rw [List.getElem?_append_right (by simpa using hi)] at e
    rw [List.getElem?_replicate] at e
    split at e <;> cases e
theorem keep_step {prog : Program} {w : World} {base : Heap} {k f : Nat} {fi : Fi} {fd : FuncData} (hf : P.fs[f]? = some fi) (F : FiOk G P f fi fd) (ih : PgOk G P (calls P k) k prog w mg base) :
    Keeps prog w G.K mg base (k + 1) (G.fn f) fd (fi.N.take fi.np) (spC G (calls P (k + 1) f) fi.np) := by
  obtain ⟨x, qual, params, body, scope, dvs, kws, FD, S, hm⟩ := F.ex
  refine keeps_of FD S (fun vs H Q E h => by rw [h.1, List.length_take, Nat.min_eq_left F.np]) fun cdv A outer s H vs Q E room wish => ?_
  have g : XF G P (calls P k) k fi.N scope E (cxOf (CX prog w) prog w G.K mg base fi.N qual scope (G.fn f) cdv A outer s H E) := {
    eK := rfl
    eN := rfl
    nd := S.nd
    eS := rfl
    names := F.names
    calm := rfl
    room := room
    pg := ih
    pass := fun E' hE => passes_call (takes_of rfl rfl rfl rfl) fun cls d σ H h => hE cls d H h
    top := fun _ _ => rfl
    own := passes_of rfl
    kind := S.kind }
  refine ⟨_, exsOk g hm, ?_⟩
  obtain ⟨lv, w', ds, L, rv, h⟩ := wish
  refine ⟨start0 fi.N.length ds, w', start_ev rv, L, ?_⟩
  have hl : ds.length = fi.np := by rw [← rv.length]; exact lv
  unfold calls at h
  rw [hf] at h
  simp only at h
  rw [if_pos hl] at h
  refine (Po.bind h).imp fun fl w1 H1 x1 L1 h1 => ?_
  cases fl with
  | nx ρ => exact fun σ _ => Po.ok1 h1 rfl L1 .non
  | rt d => exact fun v rv => Po.ok1 h1 rfl L1 rv
  | bk ρ => exact (show False from h1).elim
  | ct ρ => exact (show False from h1).elim
theorem all_keep (ok : PrOk G P mg) {prog : Program} {w : World} {base : Heap} : ∀ k : Nat, PgOk G P (calls P k) k prog w mg base := by
  intro k
  induction k with
  | zero =>
    refine ⟨ok.gl, ok.bn, ok.fn, fun f fi hf => ?_⟩
    obtain ⟨fd, F⟩ := ok.fs f fi hf
    refine ⟨fd, ⟨fun vs H Q E h => ?_, fun A outer s H args us vs Q E _ _ _ _ h => ?_⟩, calls_len hf, F.sh⟩
    · rw [h.1, List.length_take, Nat.min_eq_left F.np]
    · obtain ⟨_, w', ds, _, _, q⟩ := h
      exact (show False from q).elim
  | succ k ih =>
    refine ⟨ok.gl, ok.bn, ok.fn, fun f fi hf => ?_⟩
    obtain ⟨fd, F⟩ := ok.fs f fi hf
    exact ⟨fd, keep_step hf F ih, calls_len hf, F.sh⟩
end

/-- from the law's promise to the row's end: the model's run from the heap behind the top -/
theorem law_run {P : Program} {w : World} {K : PySem.W.Frag} {mg mb : Str → Option Value} {k : Nat} {fa a : Addr} {fd : FuncData} {x : Str} {sp : Sp} {s₁ : Shared} {vs : List Value} {ns : List Int}
    (kin : K.In s₁.heap) (nsG : s₁.heap.Ns mainGlobals mg) (nsB : s₁.heap.Ns builtinsNs mb) (same : ∀ x : Str, x ≠ "__name__" → mb x = bootBuiltins x) (lim : s₁.heap.NoLimit) (gens : s₁.gens = #[])
    (obj : s₁.heap.get? a = some { cls := .type "list", data := .seq vs.toArray }) (nums : PyProof.Rows.IntsAre vs ns) (short : ns.length ≤ sizeLine) (room : RoomG k callerA)
    (F : ∀ base : Heap, K.In base → base.Ns mainGlobals mg → Keeps P w K mg base k fa fd [x] sp) (bnd : ∀ (s : Shared) (u : Value), BindsTo s fd ⟨[u], []⟩ [(x, u)])
    (wish : ∀ H : Hp, Only H → SqL K H a (ns.map V.int) → sp [.ref a] H (fun v _ => v = .bl true) fun _ _ _ => False) :
    codeAny (model P w) callerA (.call (.ref fa) ⟨[.ref a], []⟩) (fun r s' => r = .ok (.ret (.bool true)) ∧ OldK s₁.heap s'.heap ∧ s'.os = s₁.os ∧ PyProof.Rows.AllBare s'.gens) s₁ := by
  have rel := vals_ints nums
  have size := nums.length
  -- over any abstract heap that tracks at most the script
  have main : ∀ H : Hp, Only H → SqL K H a (ns.map V.int) → HOk P w H s₁.heap → (∀ b, H b ≠ none → b = a) → (H a ≠ none → K.lookup a = none) →
      codeAny (model P w) callerA (.call (.ref fa) ⟨[.ref a], []⟩) (fun r s' => r = .ok (.ret (.bool true)) ∧ OldK s₁.heap s'.heap ∧ s'.os = s₁.os ∧ PyProof.Rows.AllBare s'.gens) s₁ := by
    intro H only seq hok onlyA freeK
    have isA : ∀ {b : Addr} {u : HO}, H b = some u → b = a := fun {b u} q => onlyA b (by rw [q]; exact fun z => nomatch z)
    have noDict : ∀ {b : Addr} {o : Obj} {es : Array DictEntry} {ep : Nat}, s₁.heap.get? b = some o → o.data = .dict es ep → H b = none := by
      intro b o es ep e d
      cases q : H b with
      | none => rfl
      | some u =>
        obtain rfl := isA q
        rw [obj] at e
        cases e
        cases (show Data.seq vs.toArray _ = Data.dict es ep from d)
    have nsH : ∀ {b : Addr} {m : Str → Option Value}, s₁.heap.Ns b m → (hidT s₁.heap H).Ns b m := by
      rintro b m ⟨o, es, ep, e, d, r⟩
      exact ⟨o, es, ep, hidT_get e (noDict e d), d, r⟩
    have kinH : K.In (hidT s₁.heap H) := by
      intro b o e
      refine hidT_get (kin b o e) ?_
      cases q : H b with
      | none => rfl
      | some u =>
        obtain rfl := isA q
        rw [freeK (by rw [q]; exact fun z => nomatch z)] at e
        cases e
    have limH : (hidT s₁.heap H).NoLimit := by
      obtain ⟨mc, l1, l2⟩ := lim
      exact ⟨mc, nsH l1, l2⟩
    have e0 : Env0 P w K mg (hidT s₁.heap H) callerA [] s₁ H :=
      ⟨rfl, ⟨kinH, nsH nsG, ⟨mb, nsH nsB, same⟩, limH⟩, fun b o e => of_hidT e, Nat.le_of_eq (hidT_size _ _), trivial, (fun b hb => nomatch (show b ∈ ([] : List Addr) from hb)), hok, PyProof.Rows.AllBare.of_eq gens⟩
    refine codeAny_mono ((F _ kinH (nsH nsG)).go callerA [] s₁ H ⟨[.ref a], []⟩ [.ref a] [.ref a] _ _ room e0 (bnd s₁ (.ref a)) (.cons rfl .nil) (wish H only seq)) ?_
    intro res s' got
    rcases res with e | fl
    · obtain ⟨_, _, _, _, _, _, _, _, _, _, _, _, z⟩ := got
      exact z.elim
    · cases fl with
      | next | brk | cont => exact False.elim got
      | ret u =>
        obtain ⟨v, H', os, bare, un, hok', rv, q⟩ := got
        obtain rfl : v = .bl true := q
        obtain rfl : u = Value.bool true := rv
        refine ⟨rfl, OldK.of_keep fun b o e => ?_, os, bare⟩
        cases q : H b with
        | none => exact un.keep b o e q (fun z => nomatch (show b ∈ ([] : List Addr) from z)) (fun z => nomatch z)
        | some u =>
          rcases only b with z | ⟨ob, xs, z⟩
          · rw [q] at z; cases z
          · obtain ⟨e1, _⟩ := hok b _ z
            obtain ⟨e2, _⟩ := hok' b _ (un.frzs b ob _ z)
            rw [e] at e1
            cases e1
            exact e2
  cases hk : K.lookup a with
  | some o =>
    have e := kin a o hk
    rw [obj] at e
    cases e
    refine main (fun _ => none) (fun _ => .inl rfl) (.inr ⟨_, vs.toArray, _, hk, rfl, rfl, rfl, ?_, by simpa using rel⟩) (fun b u z => nomatch (show (none : Option HO) = some u from z)) (fun b z => absurd rfl z) fun z => absurd rfl z
    rw [List.size_toArray, size]
    exact short
  | none =>
    let Hs : Hp := fun b => if b = a then some (.frz { cls := .type "list", data := .seq vs.toArray } (.lst (ns.map V.int))) else none
    have at_ : Hs a = some (.frz { cls := .type "list", data := .seq vs.toArray } (.lst (ns.map V.int))) := if_pos rfl
    have off : ∀ {b : Addr}, b ≠ a → Hs b = none := fun h => if_neg h
    refine main Hs (fun b => ?_) (.inl (.inr ⟨_, at_⟩)) (fun b u z => ?_) (fun b z => ?_) fun _ => hk
    · by_cases hb : b = a
      · exact .inr ⟨_, _, hb ▸ at_⟩
      · exact .inl (off hb)
    · by_cases hb : b = a
      · subst hb
        rw [at_] at z
        cases z
        exact ⟨obj, by rw [List.length_map]; exact short, vs, _, rel, obj⟩
      · rw [off hb] at z; cases z
    · by_cases hb : b = a
      · exact hb
      · exact absurd (off hb) z
/-- the goal that a head leaves -/
theorem law_walk {l : PySem.W.OpenLaw} {n k : Nat} {q : Program} {loose : List Str} {XP : (Str → Option Value) → Heap → Prop} {YP : World → Heap → Prop} {d : DefRec} {x : Str}
    (most : l.most = some n) (small : n ≤ sizeLine) (plain : d.params.defaults = []) (room : RoomG k callerA)
    (F : ∀ (w : World) (mg : Str → Option Value) (fa : Addr) (h : Heap), YP w h → h.Ns mainGlobals mg → mg d.name = some (.ref fa) →
      ∃ (K : PySem.W.Frag) (fd : FuncData) (sp : Sp), K.In h ∧ (∀ (s : Shared) (u : Value), BindsTo s fd ⟨[u], []⟩ [(x, u)]) ∧
        (∀ (H : Hp) (a : Addr) (ns : List Int), ns.length ≤ n → Only H → SqL K H a (ns.map V.int) → sp [.ref a] H (fun v _ => v = .bl true) fun _ _ _ => False) ∧
        ∀ base : Heap, K.In base → base.Ns mainGlobals mg → Keeps l.prog w K mg base k fa fd [x] sp) :
    PySem.W.WalkO q loose XP YP l.row.toRowW d [] (fun f vs => PySem.call f vs) := by
  refine Att.attach_call most plain ?_
  intro w s₀ s₁ mg mb fa o pm cd doc a vs ns G Y ho hd hcd hmg hobj hints hlen hg
  obtain ⟨K, fd, sp, kin, bnd, wish, keeps⟩ := F w mg fa _ Y G.T.g hmg
  exact law_run kin G.T.g G.T.b G.T.builtins G.T.nolimit hg hobj hints (Nat.le_trans hlen small) room keeps bnd fun H only seq => wish H a ns hlen only seq
end TK

/-! Tk16: the head's facts for the layer. -/
namespace TK
open PySem PySem.Spec L2

/-- the facts read off the heap behind the top, and one Bool more -/
def hookK (n : Nat) (fa : List He.Fa) (fn : List He.DefD) (ex : PySem.W.Frag → Bool) : PySem.W.Hook where
  α := He.AlD × Bool
  obs := fun s => (He.obsDG n fa fn s.heap.get?, ex (He.frG s.heap.get? (He.asD s.heap.get? n)))
  val := fun _ => (He.valD fn, true)
  says := fun _ h => ∃ K : PySem.W.Frag, K.In h ∧ He.SaysD fa fn K ∧ ex K = true
  of := fun _ _ e => ⟨_, He.frG_in, congrArg (fun z : He.AlD × Bool => z.1) e, congrArg (fun z : He.AlD × Bool => z.2) e⟩
  keeps := fun _ _ _ ⟨K, hK, c⟩ k => ⟨K, PySem.W.Frag.In.keeps hK k, c⟩
def obK (n : Nat) (fa : List He.Fa) (fn : List He.DefD) (ex : PySem.W.Frag → Bool) (s : PySem.W.SharedT) : He.AlD × Bool :=
  let g := HandSHeadRun.getT s
  let K := He.frG g (He.asD g n)
  (He.obsD fa fn K, ex K)
theorem obK_eq (n : Nat) (fa : List He.Fa) (fn : List He.DefD) (ex : PySem.W.Frag → Bool) (s : PySem.W.SharedT) : obK n fa fn ex s = (hookK n fa fn ex).obs s.abs := by
  have e : HandSHeadRun.getT s = s.abs.heap.get? := funext (HandSHeadRun.getT_eq s)
  unfold obK
  rw [e] <;> rfl

def AllFi (G : Tb) (P : Pg) : Nat → List Fi → Prop
  | _, [] => True
  | i, fi :: r => (∃ fd, FiOk G P i fi fd) ∧ AllFi G P (i + 1) r
theorem AllFi.get {G : Tb} {P : Pg} : ∀ {l : List Fi} {i f : Nat} {fi : Fi}, AllFi G P i l → l[f]? = some fi → ∃ fd, FiOk G P (i + f) fi fd
  | [], _, _, _, _, h => by cases h
  | x :: r, i, 0, fi, a, h => by
    simp at h
    subst h
    exact a.1
  | x :: r, i, f + 1, fi, a, h => by
    obtain ⟨fd, q⟩ := AllFi.get (i := i + 1) (f := f) a.2 (by simpa using h)
    exact ⟨fd, by rw [show i + (f + 1) = i + 1 + f by omega]; exact q⟩
def GlOk (G : Tb) (mg : Str → Option Value) (x : Str) (d : Dt) : Prop := okName x = true ∧ ∃ v u, mg x = some u ∧ RelV v u ∧ ∀ w H, Rep G w H v d
def AllGl (G : Tb) (mg : Str → Option Value) : List Str → List Dt → Prop
  | [], _ => True
  | x :: r, d :: ds => GlOk G mg x d ∧ AllGl G mg r ds
  | _ :: _, [] => False
theorem AllGl.get {G : Tb} {mg : Str → Option Value} : ∀ {l : List Str} {ds : List Dt} {k : Nat} {x : Str}, AllGl G mg l ds → l[k]? = some x → ∃ d, ds[k]? = some d ∧ GlOk G mg x d
  | [], _, _, _, _, h => by cases h
  | y :: r, d :: ds, 0, x, a, h => by
    simp at h
    subst h
    exact ⟨d, rfl, a.1⟩
  | y :: r, d :: ds, k + 1, x, a, h => by
    obtain ⟨d', e, q⟩ := AllGl.get (k := k) a.2 (by simpa using h)
    exact ⟨d', by simpa using e, q⟩
  | _ :: _, [], _, _, a, _ => a.elim
section
variable {K : PySem.W.Frag} {h : Heap} {mg : Str → Option Value} {fa : List He.Fa} {fn : List He.DefD} {G : Tb}
theorem gl_int (X : K.In h) (N : h.Ns mainGlobals mg) (c : He.SaysD fa fn K) (x : Str) (i : Int) (m : He.Fa.int x i ∈ fa) (ok : okName x = true) : GlOk G mg x (.int i) := by
  obtain ⟨t, e⟩ := He.int_ok X N (He.SaysD.facts c m)
  exact ⟨ok, .int i, _, e, ⟨t, rfl⟩, fun _ _ => .int i⟩
theorem gl_str (X : K.In h) (N : h.Ns mainGlobals mg) (c : He.SaysD fa fn K) (x z : Str) (m : He.Fa.str x z ∈ fa) (ok : okName x = true) : GlOk G mg x (.str z) := by
  obtain ⟨t, e⟩ := He.str_ok X N (He.SaysD.facts c m)
  exact ⟨ok, .str z, _, e, ⟨t, rfl⟩, fun _ _ => .str z⟩
/-- plain data -/
def flatB : Dt → Value → Bool
  | .non, .none => true
  | .bl b, .bool c => b == c
  | .int i, .int j _ => decide (i = j)
  | .str x, .str y _ => decide (x = y)
  | _, _ => false
def flatV' : Dt → V
  | .bl b => .bl b
  | .int i => .int i
  | .str x => .str x
  | _ => .non
theorem flatB_ok {w : Wd} {H : Hp} {d : Dt} {u : Value} (e : flatB d u = true) : RelV (flatV' d) u ∧ Rep G w H (flatV' d) d := by
  unfold flatB at e
  split at e
  · exact ⟨rfl, .non⟩
  · rename_i b c
    obtain rfl := eq_of_beq e
    exact ⟨rfl, .bl _⟩
  · rename_i i j t
    obtain rfl := of_decide_eq_true e
    exact ⟨⟨t, rfl⟩, .int _⟩
  · rename_i x y t
    obtain rfl := of_decide_eq_true e
    exact ⟨⟨t, rfl⟩, .str _⟩
  · cases e
def flatBs : List Dt → List Value → Bool
  | [], [] => true
  | d :: ds, u :: us => flatB d u && flatBs ds us
  | _, _ => false
theorem flatBs_ok {w : Wd} {H : Hp} : ∀ {ds : List Dt} {us : List Value}, flatBs ds us = true → Vals (ds.map flatV') us ∧ Reps G w H (ds.map flatV') ds
  | [], [], _ => ⟨.nil, .nil⟩
  | d :: ds, u :: us, e => by
    obtain ⟨e1, e2⟩ := Bool.and_eq_true_iff.mp (show (flatB d u && flatBs ds us) = true from e)
    obtain ⟨r1, r2⟩ := flatB_ok (G := G) (w := w) (H := H) e1
    obtain ⟨q1, q2⟩ := flatBs_ok (w := w) (H := H) e2
    exact ⟨.cons r1 q1, .cons r2 q2⟩
  | [], _ :: _, e => by cases e
  | _ :: _, [], e => by cases e
/-- the module's name x is a tuple of plain data -/
def tupK (K : PySem.W.Frag) (a : Addr) (ds : List Dt) : Bool := match K.lookup a with
  | some ⟨.type c, _, .seq its _, _⟩ => decide (c = "tuple") && (decide (its.size ≤ sizeLine) && flatBs ds its.toList)
  | _ => false
theorem tupK_ok {w : Wd} {H : Hp} {a : Addr} {ds : List Dt} (hG : G.K = K) (e : tupK K a ds = true) : Rep G w H (.ref a) (.tup ds) := by
  unfold tupK at e
  cases q : K.lookup a with
  | none => rw [q] at e; cases e
  | some o =>
    obtain ⟨oc, od, dt, osl⟩ := o
    rw [q] at e
    cases oc with
    | type c =>
      cases dt with
      | seq its n =>
        obtain ⟨e1, e2⟩ := Bool.and_eq_true_iff.mp (show (decide (c = "tuple") && (decide (its.size ≤ sizeLine) && flatBs ds its.toList)) = true from e)
        obtain ⟨e2, e3⟩ := Bool.and_eq_true_iff.mp e2
        obtain ⟨r1, r2⟩ := flatBs_ok (G := G) (w := w) (H := H) e3
        exact .tup (.inr ⟨_, its, n, by rw [hG]; exact q, congrArg Value.type (of_decide_eq_true e1), rfl, of_decide_eq_true e2, r1⟩) r2
      | _ => cases e
    | _ => cases dt <;> cases e
theorem gl_tup (X : K.In h) (N : h.Ns mainGlobals mg) (c : He.SaysD fa fn K) (hG : G.K = K) (x : Str) (ds : List Dt) (m : He.Fa.glo x ∈ fa) (e : tupK K (He.ga K x) ds = true) (ok : okName x = true) : GlOk G mg x (.tup ds) :=
  ⟨ok, .ref (He.ga K x), _, He.glo_ok X N (He.SaysD.facts c m), rfl, fun _ _ => tupK_ok hG e⟩
/-- a def's defaults by data -/
def dvB : He.Dv → Dt → Bool
  | .non, .non => true
  | .bl b, .bl c => b == c
  | .int i, .int j => decide (i = j)
  | .str x, .str y => decide (x = y)
  | _, _ => false
def dvBs : List He.Dv → List Dt → Bool
  | [], [] => true
  | d :: ds, u :: us => dvB d u && dvBs ds us
  | _, _ => false
theorem dvBs_ok : ∀ {ds : List He.Dv} {us : List Dt}, dvBs ds us = true → ∀ (w : Wd) (H : Hp), Reps G w H (ds.map (He.Dv.v K)) us
  | [], [], _, w, H => .nil
  | d :: ds, u :: us, e, w, H => by
    obtain ⟨e1, e2⟩ := Bool.and_eq_true_iff.mp (show (dvB d u && dvBs ds us) = true from e)
    refine .cons ?_ (dvBs_ok e2 w H)
    unfold dvB at e1
    split at e1
    · exact .non
    · obtain rfl := eq_of_beq e1; exact .bl _
    · obtain rfl := of_decide_eq_true e1; exact .int _
    · obtain rfl := of_decide_eq_true e1; exact .str _
    · cases e1
  | [], _ :: _, e, _, _ => by cases e
  | _ :: _, [], e, _, _ => by cases e
/-- the facts asked: the functions' names, the built-ins', more -/
def faOf (fs bn : List Str) (more : List He.Fa) : List He.Fa := fs.map He.Fa.glo ++ (fs.map He.Fa.keep ++ (bn.map He.Fa.free ++ more))
/-- where the functions stand -/
def atOf (fs : List Str) (ms : List (Str × Option Str)) (i : Nat) : Str × Option Str := (fs.map (fun x => (x, none)) ++ ms).getD i ("", none)
/-- the text's facts out of the head's -/
theorem prOk_of (X : K.In h) (N : h.Ns mainGlobals mg) {P : Pg} {more : List He.Fa} {ms : List (Str × Option Str)} (c : He.SaysD (faOf P.fn P.bn more) fn K) (hK : G.K = K) (hF : G.fn = fun i => He.fAd K (atOf P.fn ms i))
    (names : P.fn.all okName = true) (gls : AllGl G mg P.gn P.gv) (fis : AllFi G P 0 P.fs) : PrOk G P mg where
  gl := fun k x e => by
    obtain ⟨d, e1, ok, v, u, e2, r, q⟩ := gls.get e
    exact ⟨ok, d, v, u, e1, e2, r, q⟩
  bn := fun x hx => He.free_ok X N (He.SaysD.facts c (List.mem_append_right _ (List.mem_append_right _ (List.mem_append_left _ (List.mem_map_of_mem hx)))))
  fn := fun f x e => by
    have hx := List.mem_of_getElem? e
    have ef : G.fn f = He.ga K x := by
      rw [hF]
      show He.fAd K ((P.fn.map (fun x => (x, none)) ++ ms).getD f ("", none)) = _
      rw [List.getD_eq_getElem?_getD, List.getElem?_append_left (by rw [List.length_map]; exact (List.getElem?_eq_some_iff.mp e).1), List.getElem?_map, e]
      rfl
    refine ⟨List.all_eq_true.mp names x hx, by rw [ef]; exact He.glo_ok X N (He.SaysD.facts c (List.mem_append_left _ (List.mem_map_of_mem hx))), ?_⟩
    rw [hK, ef]
    exact He.SaysD.facts (f := He.Fa.keep x) c (List.mem_append_right _ (List.mem_append_left _ (List.mem_map_of_mem hx)))
  fs := fun f fi e => by
    obtain ⟨fd, q⟩ := fis.get e
    rw [Nat.zero_add] at q
    exact ⟨fd, q⟩
theorem mem_more {fs bn : List Str} {more : List He.Fa} {x : He.Fa} (h : x ∈ more) : x ∈ faOf fs bn more := List.mem_append_right _ (List.mem_append_right _ (List.mem_append_right _ h))
theorem mem_glo {fs bn : List Str} {more : List He.Fa} {x : Str} (h : x ∈ fs) : He.Fa.glo x ∈ faOf fs bn more := List.mem_append_left _ (List.mem_map_of_mem h)
def ShAll (p : Sh → Prop) : List Sh → Prop
  | [] => True
  | q :: r => p q ∧ ShAll p r
theorem shAll {p : Sh → Prop} : ∀ {l : List Sh}, ShAll p l → ∀ q ∈ l, p q
  | [], _, q, h => by cases h
  | x :: r, a, q, h => by
    rcases List.mem_cons.mp h with e | e
    · rw [e]; exact a.1
    · exact shAll a.2 q e
/-- one def -/
theorem fi_of {P : Pg} {K : PySem.W.Frag} {d : He.DefD} {f : Nat} {fi : Fi} {fd : FuncData} (F : FunD K d.name d.qual d.params d.body d.scope (d.dvs K) [] (He.fAd K d.at_) fd) (hK : G.K = K) (hF : G.fn f = He.fAd K d.at_)
    (sc : FnScope fi.N (fi.N.take fi.np) d.scope) (m : mSs P fi.N d.scope fi.body d.body = true) (names : fi.N.all okName = true) (np : fi.np ≤ fi.N.length) (dv : dvBs d.dfl fi.dfl = true)
    (sh : ShAll (fun q => ShOk K fd (fi.N.take fi.np) q.n q.ks (d.dvs K) q.o) fi.shs) : FiOk G P f fi fd := by
  refine ⟨⟨d.name, d.qual, d.params, d.body, d.scope, d.dvs K, [], by rw [hK, hF]; exact F, sc, m⟩, fun x hx => List.all_eq_true.mp names x hx, np, d.dvs K, fun w H => dvBs_ok dv w H, ?_⟩
  rw [hK]
  exact shAll sh
theorem def_of {K : PySem.W.Frag} {fa : List He.Fa} {fn : List He.DefD} (c : He.SaysD fa fn K) (f : Nat) {d : He.DefD} (hd : fn[f]? = some d) (kw : d.kwd = []) : ∃ fd, FunD K d.name d.qual d.params d.body d.scope (d.dvs K) [] (He.fAd K d.at_) fd := by
  obtain ⟨fd, F⟩ := c.def_ f (d := d) hd
  have ek : d.kws K = [] := by unfold He.DefD.kws; rw [kw]; rfl
  rw [ek] at F
  exact ⟨fd, F⟩
/-- the law's end -/
theorem law_end {P : Pg} {ol : PySem.W.OpenLaw} {w : World} {f k : Nat} {fi : Fi} {fd : FuncData} {x : Str} (ok : PrOk G P mg) (X : K.In h) (hK : G.K = K) (hf : P.fs[f]? = some fi) (F : FiOk G P f fi fd) (px : fi.N.take fi.np = [x])
    (bnd : ∀ (s : Shared) (u : Value), BindsTo s fd ⟨[u], []⟩ [(x, u)]) (main : ∀ ns : List Int, ns.length ≤ 63 → ∃ S, calls P (k + 1) f [.scr (ns.map Dt.int)] [] = .ok (.bl true) S) :
    ∃ (K : PySem.W.Frag) (fd : FuncData) (sp : Sp), K.In h ∧ (∀ (s : Shared) (u : Value), BindsTo s fd ⟨[u], []⟩ [(x, u)]) ∧
        (∀ (H : Hp) (a : Addr) (ns : List Int), ns.length ≤ 63 → Only H → SqL K H a (ns.map V.int) → sp [.ref a] H (fun v _ => v = .bl true) fun _ _ _ => False) ∧
        ∀ base : Heap, K.In base → base.Ns mainGlobals mg → Keeps ol.prog w K mg base (k + 1) (G.fn f) fd [x] sp := by
  subst hK
  refine ⟨G.K, fd, spC G (calls P (k + 1) f) fi.np, X, bnd, fun H a ns hl only seq => ?_, fun base _ _ => ?_⟩
  · obtain ⟨S, e⟩ := main ns hl
    have en : fi.np = 1 := by
      have l1 : (fi.N.take fi.np).length = fi.np := by rw [List.length_take, Nat.min_eq_left F.np]
      rw [px] at l1
      exact l1.symm
    have numsR : ∀ (w : Wd) (ns : List Int), Reps G w H (ns.map V.int) (ns.map Dt.int) := fun w ns => by
      induction ns with
      | nil => exact .nil
      | cons n r ih => exact .cons (.int n) ih
    refine ⟨by rw [en]; rfl, ⟨[], [], []⟩, [.scr (ns.map Dt.int)], ⟨rfl, .nil, (fun n a o h => by simp at h), (fun a h => nomatch h), (fun a h => nomatch h)⟩, .cons ?_ .nil, ?_⟩
    · refine .scr ?_ (numsR _ ns)
      rcases seq with r | r
      · refine .inl ⟨r, ?_⟩
        rintro (z | ⟨n, o, z, _⟩)
        · cases z
        · simp at z
      · exact .inr r
    · rw [e]
      intro w' H' _ _ _ v r
      cases r
      rfl
  · have ks := keep_step (prog := ol.prog) (w := w) (base := base) hf F (all_keep ok k)
    rw [px] at ks
    exact ks
theorem room_law {k : Nat} (hk : k ≤ 60) : RoomG (k + 1) callerA := by
  have h1 : 1 + claimMargin + 3 * 61 + 5 < recursionLimit := by decide +kernel
  have h2 : 4 + 16 * 61 + 200 < cLine := by decide +kernel
  refine ⟨⟨rfl, ?_, ?_⟩, rfl⟩
  · show 1 + claimMargin + 3 * (k + 1) + 5 < recursionLimit
    omega
  · show 4 + 16 * (k + 1) + 200 < cLine
    omega
end
end TK

/-! Tk17: what a run of the small interpreter gives, said from behind. -/
namespace TK
open PySem PySem.Spec L2

def Wp {α : Type} (r : Rs α) (Q : α → Sto → Prop) : Prop := match r with
  | .ok a s => Q a s
  | .exc _ _ => False
  | .bad => False
section
variable {α β : Type} {Q : α → Sto → Prop} {s : Sto}
theorem wp_ok (a : α) : Wp (.ok a s) Q = Q a s := rfl
theorem wp_bind (r : Rs α) (f : α → Sto → Rs β) (R : β → Sto → Prop) : Wp (r.bind f) R = Wp r (fun a s => Wp (f a s) R) := by cases r <;> rfl
theorem wp_exc (e : Ex) : Wp (.exc e s : Rs α) Q = False := rfl
theorem wp_bad : Wp (.bad : Rs α) Q = False := rfl
theorem wp_some (a : α) : Wp (ofO s (some a)) Q = Q a s := rfl
theorem wp_if {c : Prop} [Decidable c] (r : Rs α) : Wp (if c then r else .bad) Q = (c ∧ Wp r Q) := by
  by_cases h : c
  · rw [if_pos h]; exact propext ⟨fun x => ⟨h, x⟩, fun x => x.2⟩
  · rw [if_neg h]; exact propext ⟨fun x => x.elim, fun x => h x.1⟩
theorem wp_ite {c : Prop} [Decidable c] (r q : Rs α) : Wp (if c then r else q) Q = if c then Wp r Q else Wp q Q := by
  by_cases h : c
  · rw [if_pos h, if_pos h]
  · rw [if_neg h, if_neg h]
theorem Wp.mono {r : Rs α} {R : α → Sto → Prop} (h : Wp r Q) (g : ∀ a s, Q a s → R a s) : Wp r R := by
  cases r with
  | ok a s => exact g a s h
  | exc e s => exact h
  | bad => exact h
theorem Wp.get {r : Rs α} (h : Wp r Q) : ∃ a s, r = .ok a s ∧ Q a s := by
  cases r with
  | ok a s => exact ⟨a, s, rfl, h⟩
  | exc e s => exact h.elim
  | bad => exact h.elim
theorem Wp.of_eq {r : Rs α} {a : α} (h : r = .ok a s) (q : Q a s) : Wp r Q := by rw [h]; exact q
end
def retv : Fl → Sto → Rs Dt
  | .nx _, s => .ok .non s
  | .rt v, s => .ok v s
  | _, _ => .bad
theorem wp_call {P : Pg} {k f : Nat} {ds : List Dt} {s : Sto} {d : Fi} {Q : Dt → Sto → Prop} (h : P.fs[f]? = some d) (hl : ds.length = d.np)
    (w : Wp (exs P (calls P k) d.body (start0 d.N.length ds) s) fun fl s1 => Wp (retv fl s1) Q) : Wp (calls P (k + 1) f ds s) Q := by
  show Wp (match P.fs[f]? with
    | none => .bad
    | some d => if ds.length = d.np then
        (exs P (calls P k) d.body (start0 d.N.length ds) s).bind fun fl s1 => match fl with
          | .nx _ => .ok .non s1
          | .rt v => .ok v s1
          | _ => .bad
      else .bad) Q
  rw [h]
  show Wp (if ds.length = d.np then _ else _) Q
  rw [if_pos hl, wp_bind]
  refine w.mono fun fl s1 x => ?_
  cases fl <;> exact x
/-- turns of a loop -/
theorem wp_loop {body : Ev → Sto → Rs Fl} {t : Tg} {Q : Fl → Sto → Prop} (I : Ev → Sto → Prop) :
    ∀ (ds : List Dt) {ρ : Ev} {s : Sto}, I ρ s →
      (∀ d ∈ ds, ∀ ρ s, I ρ s → ∃ ρ', bindT t d ρ = some ρ' ∧ Wp (body ρ' s) fun f s1 => match f with
        | .nx ρ2 => I ρ2 s1
        | .ct ρ2 => I ρ2 s1
        | .bk ρ2 => Q (.nx ρ2) s1
        | .rt d => Q (.rt d) s1) →
      (∀ ρ s, I ρ s → Q (.nx ρ) s) → Wp (loopF body t ds ρ s) Q
  | [], ρ, s, i, _, e => e ρ s i
  | d :: ds, ρ, s, i, b, e => by
    obtain ⟨ρ', hb, w⟩ := b d List.mem_cons_self ρ s i
    show Wp (match bindT t d ρ with
      | none => .bad
      | some ρ' => (body ρ' s).bind fun f s1 => match f with
        | .nx ρ2 => loopF body t ds ρ2 s1
        | .ct ρ2 => loopF body t ds ρ2 s1
        | .bk ρ2 => .ok (.nx ρ2) s1
        | .rt d => .ok (.rt d) s1) Q
    rw [hb]
    show Wp (Rs.bind _ _) Q
    rw [wp_bind]
    refine w.mono fun f s1 x => ?_
    cases f with
    | nx ρ2 => exact wp_loop I ds x (fun d hd => b d (List.mem_cons_of_mem _ hd)) e
    | ct ρ2 => exact wp_loop I ds x (fun d hd => b d (List.mem_cons_of_mem _ hd)) e
    | bk ρ2 => exact x
    | rt d => exact x
/-- turns of a comprehension with all its results alike -/
theorem wp_comp {t : Tg} {ρ : Ev} {c : Ev → Sto → Rs Bool} {e : Ev → Sto → Rs Dt} (I : Sto → Prop) (V : Dt → Prop) {Q : List Dt → Sto → Prop} :
    ∀ (ds : List Dt) {acc : List Dt} {s : Sto}, I s → (∀ y ∈ acc, V y) → acc.length + ds.length ≤ sizeLine →
      (∀ d ∈ ds, ∀ s, I s → ∃ ρ', bindT t d ρ = some ρ' ∧ Wp (c ρ' s) fun b s1 => if b then Wp (e ρ' s1) fun y s2 => I s2 ∧ V y else I s1) →
      (∀ ys s, I s → (∀ y ∈ ys, V y) → ys.length ≤ acc.length + ds.length → Q ys s) → Wp (compL t ρ c e ds acc s) Q
  | [], acc, s, i, ha, _, _, q => q acc s i ha (by simp)
  | d :: ds, acc, s, i, ha, hn, b, q => by
    obtain ⟨ρ', hb, w⟩ := b d List.mem_cons_self s i
    show Wp (match bindT t d ρ with
      | none => .bad
      | some ρ' => (c ρ' s).bind fun b s1 => if b then (e ρ' s1).bind fun y s2 => if acc.length < sizeLine then compL t ρ c e ds (acc ++ [y]) s2 else .bad else compL t ρ c e ds acc s1) Q
    rw [hb]
    show Wp (Rs.bind _ _) Q
    rw [wp_bind]
    have hlen : (d :: ds).length = ds.length + 1 := rfl
    refine w.mono fun b1 s1 x => ?_
    cases b1 with
    | false =>
      refine wp_comp I V ds x ha (by omega) (fun d hd => b d (List.mem_cons_of_mem _ hd)) fun ys s i h l => q ys s i h (by omega)
    | true =>
      show Wp (Rs.bind _ _) Q
      rw [wp_bind]
      refine Wp.mono x fun y s2 x2 => ?_
      show Wp (if _ then _ else _) Q
      rw [if_pos (by omega)]
      have hl2 : (acc ++ [y]).length = acc.length + 1 := by simp
      refine wp_comp I V ds x2.1 (fun z hz => ?_) (by omega) (fun d hd => b d (List.mem_cons_of_mem _ hd)) fun ys s i h l => q ys s i h (by omega)
      rcases List.mem_append.mp hz with h | h
      · exact ha z h
      · rw [List.mem_singleton.mp h]; exact x2.2
/-- a comprehension that is a map -/
theorem comp_map {t : Tg} {ρ : Ev} {c : Ev → Sto → Rs Bool} {e : Ev → Sto → Rs Dt} {s : Sto} (g : Dt → Dt) :
    ∀ (ds : List Dt) {acc : List Dt}, acc.length + ds.length ≤ sizeLine →
      (∀ d ∈ ds, ∃ ρ', bindT t d ρ = some ρ' ∧ c ρ' s = .ok true s ∧ e ρ' s = .ok (g d) s) → compL t ρ c e ds acc s = .ok (acc ++ ds.map g) s
  | [], acc, _, _ => by simp [compL]
  | d :: ds, acc, hn, b => by
    obtain ⟨ρ', hb, hc, he⟩ := b d List.mem_cons_self
    have hlen : (d :: ds).length = ds.length + 1 := rfl
    have hl2 : (acc ++ [g d]).length = acc.length + 1 := by simp
    show (match bindT t d ρ with
      | none => Rs.bad
      | some ρ' => (c ρ' s).bind fun b s1 => if b then (e ρ' s1).bind fun y s2 => if acc.length < sizeLine then compL t ρ c e ds (acc ++ [y]) s2 else .bad else compL t ρ c e ds acc s1) = _
    rw [hb]
    show (c ρ' s).bind _ = _
    rw [hc]
    show (e ρ' s).bind _ = _
    rw [he]
    show (if acc.length < sizeLine then _ else _) = _
    rw [if_pos (by omega), comp_map g ds (by omega) (fun d hd => b d (List.mem_cons_of_mem _ hd))]
    simp
/-- a drawing source lies first in the store -/
def Srced (r s : Sto) : Prop := ∃ (xs : List Int) (p t sd l : Int), 0 ≤ p ∧ s = .lst [.lst (xs.map Dt.int), .int p, .int t, .int sd, .int l] :: r
theorem atI_map (xs : List Int) {p : Int} (h0 : 0 ≤ p) (h1 : p < xs.length) : ∃ v : Int, atI (xs.map Dt.int) p = some (.int v) := by
  unfold atI ixN
  rw [if_pos h0, if_pos (by rw [List.length_map]; exact h1)]
  show ∃ v, (xs.map Dt.int)[p.toNat]? = _
  have : p.toNat < xs.length := by omega
  exact ⟨xs[p.toNat], by rw [List.getElem?_map, List.getElem?_eq_getElem this]; rfl⟩
theorem atI_mem {α : Type} (xs : List α) {j : Int} (h0 : 0 ≤ j) (h1 : j < xs.length) : ∃ d ∈ xs, atI xs j = some d := by
  unfold atI ixN
  rw [if_pos h0, if_pos h1]
  have : j.toNat < xs.length := by omega
  exact ⟨xs[j.toNat], List.getElem_mem _, List.getElem?_eq_getElem this⟩
theorem range_mem {a b : Int} {d : Dt} (h : d ∈ ranged a b) : ∃ i : Int, a ≤ i ∧ i < b ∧ d = .int i := by
  unfold ranged at h
  obtain ⟨k, hk, rfl⟩ := List.mem_map.mp h
  have := List.mem_range.mp hk
  exact ⟨a + (k : Nat), by omega, by omega, rfl⟩
theorem range_len (a b : Int) : (ranged a b).length = (b - a).toNat := by simp [ranged]
end TK
namespace TK
open PySem PySem.Spec L2
section
variable {α : Type} (a b c d e : α) (xs : List α)
theorem at0 : atI (a :: xs) 0 = some a := by
  unfold atI ixN; rw [if_pos (by decide), if_pos (by simp only [List.length_cons]; omega)]; rfl
theorem at1 : atI (a :: b :: xs) 1 = some b := by
  unfold atI ixN; rw [if_pos (by decide), if_pos (by simp only [List.length_cons]; omega)]; rfl
theorem at2 : atI (a :: b :: c :: xs) 2 = some c := by
  unfold atI ixN; rw [if_pos (by decide), if_pos (by simp only [List.length_cons]; omega)]; rfl
theorem at3 : atI (a :: b :: c :: d :: xs) 3 = some d := by
  unfold atI ixN; rw [if_pos (by decide), if_pos (by simp only [List.length_cons]; omega)]; rfl
theorem at4 : atI (a :: b :: c :: d :: e :: xs) 4 = some e := by
  unfold atI ixN; rw [if_pos (by decide), if_pos (by simp only [List.length_cons]; omega)]; rfl
end
theorem lsv_cell {n : Nat} {s : Sto} {xs : List Dt} (h : s[n]? = some (.lst xs)) : lsv s (.cell n) = some xs := by
  show (match s[n]? with
    | some (.lst xs) => some xs
    | _ => none) = _
  rw [h]
theorem lsv_c0 (xs : List Dt) (r : Sto) : lsv (.lst xs :: r) (.cell 0) = some xs := rfl
theorem seqv_c0 (xs : List Dt) (r : Sto) : seqv (.lst xs :: r) (.cell 0) = some xs := rfl
theorem lsv_lst (xs : List Dt) (s : Sto) : lsv s (.lst xs) = some xs := rfl
theorem seqv_lst (xs : List Dt) (s : Sto) : seqv s (.lst xs) = some xs := rfl
theorem seqv_tup (xs : List Dt) (s : Sto) : seqv s (.tup xs) = some xs := rfl
theorem ixd_lst (xs : List Dt) (k : Int) (s : Sto) : ixd (.lst xs) (.int k) s = ofO s (atI xs k) := rfl
theorem ixd_tup (xs : List Dt) (k : Int) (s : Sto) : ixd (.tup xs) (.int k) s = ofO s (atI xs k) := rfl
theorem ixd_c0 (xs : List Dt) (k : Int) (r : Sto) : ixd (.cell 0) (.int k) (.lst xs :: r) = ofO (.lst xs :: r) (atI xs k) := rfl
theorem setC_c0 (xs : List Dt) (k : Int) (v : Dt) (r : Sto) : setC (.cell 0) (.int k) v (.lst xs :: r) = match ixN xs.length k with
      | some j => .ok () (.lst (xs.set j v) :: r)
      | none => .bad := rfl
theorem ixn5 (a b c d e : Dt) : ixN [a, b, c, d, e].length 0 = some 0 ∧ ixN [a, b, c, d, e].length 1 = some 1 ∧ ixN [a, b, c, d, e].length 2 = some 2 ∧ ixN [a, b, c, d, e].length 3 = some 3 ∧ ixN [a, b, c, d, e].length 4 = some 4 := ⟨rfl, rfl, rfl, rfl, rfl⟩
theorem len_lst (xs : List Dt) (s : Sto) : bfd .len [.lst xs] s = .ok (.int xs.length) s := rfl
theorem len_tup (xs : List Dt) (s : Sto) : bfd .len [.tup xs] s = .ok (.int xs.length) s := rfl
theorem len_str (x : Str) (s : Sto) : bfd .len [.str x] s = if x.length ≤ sizeLine then .ok (.int x.length) s else .bad := rfl
theorem int_int (i : Int) (s : Sto) : bfd .int [.int i] s = .ok (.int i) s := rfl
theorem min_int (i j : Int) (s : Sto) : bfd .min2 [.int i, .int j] s = .ok (.int (if j < i then j else i)) s := rfl
theorem max_int (i j : Int) (s : Sto) : bfd .max2 [.int i, .int j] s = .ok (.int (if j > i then j else i)) s := rfl
theorem add_int (i j : Int) (s : Sto) : binop .Add (.int i) (.int j) s = .ok (.int (i + j)) s := rfl
theorem sub_int (i j : Int) (s : Sto) : binop .Sub (.int i) (.int j) s = .ok (.int (i - j)) s := rfl
theorem ifc {α : Type} {a b : Prop} [Decidable a] [Decidable b] (h : a ↔ b) (x y : α) : (if a then x else y) = if b then x else y := by
  by_cases c : b
  · rw [if_pos c, if_pos (h.mpr c)]
  · rw [if_neg c, if_neg (fun d => c (h.mp d))]
theorem mul_int (i j : Int) (s : Sto) : binop .Mult (.int i) (.int j) s = if (-18446744073709551616 < i ∧ i < 18446744073709551616) ∨ (-18446744073709551616 < j ∧ j < 18446744073709551616) then .ok (.int (i * j)) s else .bad := ifc (by omega) _ _
theorem div_int (i j : Int) (s : Sto) : binop .FloorDiv (.int i) (.int j) s = if 0 < j ∧ j < 1606938044258990275541962092341162602522202993782792835301376 then .ok (.int (i / j)) s else .bad := ifc (by omega) _ _
theorem mod_int (i j : Int) (s : Sto) : binop .Mod (.int i) (.int j) s = if 0 < j then .ok (.int (i % j)) s else .bad := rfl
theorem pow_int (i j : Int) (s : Sto) : binop .Pow (.int i) (.int j) s = if 0 ≤ j ∧ j ≤ 1000 ∧ -18446744073709551616 < i ∧ i < 18446744073709551616 then .ok (.int (i ^ j.toNat)) s else .bad := ifc (by omega) _ _
section
variable {Q : Dt → Sto → Prop} {s : Sto}
theorem wp_mul (i j : Int) : Wp (binop .Mult (.int i) (.int j) s) Q = (((-18446744073709551616 < i ∧ i < 18446744073709551616) ∨ (-18446744073709551616 < j ∧ j < 18446744073709551616)) ∧ Q (.int (i * j)) s) := by rw [mul_int, wp_if]; rfl
theorem wp_div (i j : Int) : Wp (binop .FloorDiv (.int i) (.int j) s) Q = ((0 < j ∧ j < 1606938044258990275541962092341162602522202993782792835301376) ∧ Q (.int (i / j)) s) := by rw [div_int, wp_if]; rfl
theorem wp_mod (i j : Int) : Wp (binop .Mod (.int i) (.int j) s) Q = (0 < j ∧ Q (.int (i % j)) s) := by rw [mod_int, wp_if]; rfl
theorem wp_pow (i j : Int) : Wp (binop .Pow (.int i) (.int j) s) Q = ((0 ≤ j ∧ j ≤ 1000 ∧ -18446744073709551616 < i ∧ i < 18446744073709551616) ∧ Q (.int (i ^ j.toNat)) s) := by rw [pow_int, wp_if]; rfl
theorem wp_mklF (ds : List Dt) : Wp (mkl false ds s) Q = (ds.length ≤ 16777216 ∧ Q (.lst ds) s) := by rw [← wp_ok (Q := Q), ← wp_if]; rfl
theorem wp_mklT (ds : List Dt) : Wp (mkl true ds s) Q = (ds.length ≤ 16777216 ∧ Q (.cell s.length) (s ++ [.lst ds])) := by rw [← wp_ok (Q := Q), ← wp_if]; rfl
theorem wp_lenS (x : Str) : Wp (bfd .len [.str x] s) Q = (x.length ≤ 16777216 ∧ Q (.int x.length) s) := by rw [← wp_ok (Q := Q), ← wp_if]; rfl
theorem wp_tup (ds : List Dt) : Wp (if ds.length ≤ sizeLine then .ok (.tup ds) s else .bad) Q = (ds.length ≤ 16777216 ∧ Q (.tup ds) s) := by rw [← wp_ok (Q := Q), ← wp_if]; rfl
theorem wp_set {R : Fl → Sto → Prop} (i : Nat) (d : Dt) (ρ : Ev) : Wp (setN i d ρ s) R = (i < ρ.length ∧ R (.nx (ρ.set i (some d))) s) := by rw [← wp_ok (Q := R), ← wp_if]; rfl
theorem wp_addL (xs ys : List Dt) : Wp (binop .Add (.lst xs) (.lst ys) s) Q = (xs.length + ys.length ≤ 16777216 ∧ Q (.lst (xs ++ ys)) s) := by rw [← wp_ok (Q := Q), ← wp_if]; rfl
theorem wp_addT (xs ys : List Dt) : Wp (binop .Add (.tup xs) (.tup ys) s) Q = (xs.length + ys.length ≤ 16777216 ∧ Q (.tup (xs ++ ys)) s) := by rw [← wp_ok (Q := Q), ← wp_if]; rfl
theorem wp_addS (x y : Str) : Wp (binop .Add (.str x) (.str y) s) Q = (x.length + y.length ≤ 16777216 ∧ Q (.str (x ++ y)) s) := by rw [← wp_ok (Q := Q), ← wp_if]; rfl
end
theorem lt_int (i j : Int) (s : Sto) : cmpop .Lt (.int i) (.int j) s = .ok (.bl (decide (i < j))) s := rfl
theorem le_int (i j : Int) (s : Sto) : cmpop .LtE (.int i) (.int j) s = .ok (.bl (decide (i ≤ j))) s := rfl
theorem gt_int (i j : Int) (s : Sto) : cmpop .Gt (.int i) (.int j) s = .ok (.bl (decide (j < i))) s := rfl
theorem ge_int (i j : Int) (s : Sto) : cmpop .GtE (.int i) (.int j) s = .ok (.bl (decide (j ≤ i))) s := rfl
theorem eqv_iff (i j : Int) : PyData.eqv (.int i) (.int j) = decide (i = j) := by
  show (i == j) = _
  exact Bool.eq_iff_iff.mpr (by simp)
theorem eqv_str (x y : Str) : PyData.eqv (.str x) (.str y) = (x == y) := rfl
theorem eq_int (i j : Int) (s : Sto) : cmpop .Eq (.int i) (.int j) s = .ok (.bl (decide (i = j))) s := by
  show ofO s (((some (PyData.eqv (.int i) (.int j))) : Option Bool).map Dt.bl) = _
  rw [eqv_iff]; rfl
theorem ne_int (i j : Int) (s : Sto) : cmpop .NotEq (.int i) (.int j) s = .ok (.bl (!decide (i = j))) s := by
  show ofO s (((some (PyData.eqv (.int i) (.int j))) : Option Bool).map fun b => Dt.bl (!b)) = _
  rw [eqv_iff]; rfl
theorem shp_str {x : Str} (h : PyData.strOk x = true) : SeqAt.shaped (.str x) = true := by
  unfold SeqAt.shaped PyData.canLay0 PyData.depth
  rw [h]; rfl
theorem eq_str (x y : Str) (s : Sto) : cmpop .Eq (.str x) (.str y) s = .ok (.bl (x == y)) s := rfl
theorem ne_str (x y : Str) (s : Sto) : cmpop .NotEq (.str x) (.str y) s = .ok (.bl (!(x == y))) s := rfl
theorem is_non (x : Dt) (s : Sto) : cmpop .Is x .non s = .ok (.bl (isNon x)) s := rfl
theorem isnot_non (x : Dt) (s : Sto) : cmpop .IsNot x .non s = .ok (.bl (!isNon x)) s := rfl
theorem asB_bl (b : Bool) (s : Sto) : asB (.bl b) s = .ok b s := rfl
theorem tr_bl (b : Bool) (s : Sto) : truth s (.bl b) = some b := rfl
theorem tr_int (i : Int) (s : Sto) : truth s (.int i) = some (i != 0) := rfl
theorem mklF (ds : List Dt) (s : Sto) : mkl false ds s = if ds.length ≤ sizeLine then .ok (.lst ds) s else .bad := rfl
theorem mklT (ds : List Dt) (s : Sto) : mkl true ds s = if ds.length ≤ sizeLine then .ok (.cell s.length) (s ++ [.lst ds]) else .bad := rfl
theorem retv_rt (v : Dt) (s : Sto) : retv (.rt v) s = .ok v s := rfl
theorem retv_nx (ρ : Ev) (s : Sto) : retv (.nx ρ) s = .ok .non s := rfl
theorem setN_ok (i : Nat) (d : Dt) (ρ : Ev) (s : Sto) : setN i d ρ s = if i < ρ.length then .ok (.nx (ρ.set i (some d))) s else .bad := rfl
end TK
namespace TK
open PySem PySem.Spec L2
theorem ixN5 : ixN 5 0 = some 0 ∧ ixN 5 1 = some 1 ∧ ixN 5 2 = some 2 ∧ ixN 5 3 = some 3 ∧ ixN 5 4 = some 4 := ⟨rfl, rfl, rfl, rfl, rfl⟩
theorem srced_mk (xs : List Int) {p : Int} (h : 0 ≤ p) (t sd l : Int) (r : Sto) : Srced r (.lst [.lst (xs.map Dt.int), .int p, .int t, .int sd, .int l] :: r) := ⟨xs, p, t, sd, l, h, rfl⟩
end TK
namespace TK
open PySem PySem.Spec L2
theorem isi {d : Dt} {t n : String} {b : Bool} {s : Sto} (h : tyOf s d = some t) (h2 : isT t n = some b) : bfd .isinst [d, .ty n] s = .ok (.bl b) s := by
  show (match tyOf s d with
    | some t => ofO s ((isT t n).map Dt.bl)
    | none => .bad) = _
  rw [h]
  show ofO s ((isT t n).map Dt.bl) = _
  rw [h2]; rfl
theorem isi_non_int  (s : Sto) : bfd .isinst [Dt.non, .ty "int"] s = .ok (.bl false) s := isi rfl (by decide +kernel)
theorem isi_non_bool  (s : Sto) : bfd .isinst [Dt.non, .ty "bool"] s = .ok (.bl false) s := isi rfl (by decide +kernel)
theorem isi_non_str  (s : Sto) : bfd .isinst [Dt.non, .ty "str"] s = .ok (.bl false) s := isi rfl (by decide +kernel)
theorem isi_non_tuple  (s : Sto) : bfd .isinst [Dt.non, .ty "tuple"] s = .ok (.bl false) s := isi rfl (by decide +kernel)
theorem isi_non_list  (s : Sto) : bfd .isinst [Dt.non, .ty "list"] s = .ok (.bl false) s := isi rfl (by decide +kernel)
theorem isi_non_dict  (s : Sto) : bfd .isinst [Dt.non, .ty "dict"] s = .ok (.bl false) s := isi rfl (by decide +kernel)
theorem isi_bl_int (b : Bool) (s : Sto) : bfd .isinst [(.bl b), .ty "int"] s = .ok (.bl true) s := isi rfl (by decide +kernel)
theorem isi_bl_bool (b : Bool) (s : Sto) : bfd .isinst [(.bl b), .ty "bool"] s = .ok (.bl true) s := isi rfl (by decide +kernel)
theorem isi_bl_str (b : Bool) (s : Sto) : bfd .isinst [(.bl b), .ty "str"] s = .ok (.bl false) s := isi rfl (by decide +kernel)
theorem isi_bl_tuple (b : Bool) (s : Sto) : bfd .isinst [(.bl b), .ty "tuple"] s = .ok (.bl false) s := isi rfl (by decide +kernel)
theorem isi_bl_list (b : Bool) (s : Sto) : bfd .isinst [(.bl b), .ty "list"] s = .ok (.bl false) s := isi rfl (by decide +kernel)
theorem isi_bl_dict (b : Bool) (s : Sto) : bfd .isinst [(.bl b), .ty "dict"] s = .ok (.bl false) s := isi rfl (by decide +kernel)
theorem isi_int_int (i : Int) (s : Sto) : bfd .isinst [(.int i), .ty "int"] s = .ok (.bl true) s := isi rfl (by decide +kernel)
theorem isi_int_bool (i : Int) (s : Sto) : bfd .isinst [(.int i), .ty "bool"] s = .ok (.bl false) s := isi rfl (by decide +kernel)
theorem isi_int_str (i : Int) (s : Sto) : bfd .isinst [(.int i), .ty "str"] s = .ok (.bl false) s := isi rfl (by decide +kernel)
theorem isi_int_tuple (i : Int) (s : Sto) : bfd .isinst [(.int i), .ty "tuple"] s = .ok (.bl false) s := isi rfl (by decide +kernel)
theorem isi_int_list (i : Int) (s : Sto) : bfd .isinst [(.int i), .ty "list"] s = .ok (.bl false) s := isi rfl (by decide +kernel)
theorem isi_int_dict (i : Int) (s : Sto) : bfd .isinst [(.int i), .ty "dict"] s = .ok (.bl false) s := isi rfl (by decide +kernel)
theorem isi_str_int (x : Str) (s : Sto) : bfd .isinst [(.str x), .ty "int"] s = .ok (.bl false) s := isi rfl (by decide +kernel)
theorem isi_str_bool (x : Str) (s : Sto) : bfd .isinst [(.str x), .ty "bool"] s = .ok (.bl false) s := isi rfl (by decide +kernel)
theorem isi_str_str (x : Str) (s : Sto) : bfd .isinst [(.str x), .ty "str"] s = .ok (.bl true) s := isi rfl (by decide +kernel)
theorem isi_str_tuple (x : Str) (s : Sto) : bfd .isinst [(.str x), .ty "tuple"] s = .ok (.bl false) s := isi rfl (by decide +kernel)
theorem isi_str_list (x : Str) (s : Sto) : bfd .isinst [(.str x), .ty "list"] s = .ok (.bl false) s := isi rfl (by decide +kernel)
theorem isi_str_dict (x : Str) (s : Sto) : bfd .isinst [(.str x), .ty "dict"] s = .ok (.bl false) s := isi rfl (by decide +kernel)
theorem isi_lst_int (xs : List Dt) (s : Sto) : bfd .isinst [(.lst xs), .ty "int"] s = .ok (.bl false) s := isi rfl (by decide +kernel)
theorem isi_lst_bool (xs : List Dt) (s : Sto) : bfd .isinst [(.lst xs), .ty "bool"] s = .ok (.bl false) s := isi rfl (by decide +kernel)
theorem isi_lst_str (xs : List Dt) (s : Sto) : bfd .isinst [(.lst xs), .ty "str"] s = .ok (.bl false) s := isi rfl (by decide +kernel)
theorem isi_lst_tuple (xs : List Dt) (s : Sto) : bfd .isinst [(.lst xs), .ty "tuple"] s = .ok (.bl false) s := isi rfl (by decide +kernel)
theorem isi_lst_list (xs : List Dt) (s : Sto) : bfd .isinst [(.lst xs), .ty "list"] s = .ok (.bl true) s := isi rfl (by decide +kernel)
theorem isi_lst_dict (xs : List Dt) (s : Sto) : bfd .isinst [(.lst xs), .ty "dict"] s = .ok (.bl false) s := isi rfl (by decide +kernel)
theorem isi_tup_int (xs : List Dt) (s : Sto) : bfd .isinst [(.tup xs), .ty "int"] s = .ok (.bl false) s := isi rfl (by decide +kernel)
theorem isi_tup_bool (xs : List Dt) (s : Sto) : bfd .isinst [(.tup xs), .ty "bool"] s = .ok (.bl false) s := isi rfl (by decide +kernel)
theorem isi_tup_str (xs : List Dt) (s : Sto) : bfd .isinst [(.tup xs), .ty "str"] s = .ok (.bl false) s := isi rfl (by decide +kernel)
theorem isi_tup_tuple (xs : List Dt) (s : Sto) : bfd .isinst [(.tup xs), .ty "tuple"] s = .ok (.bl true) s := isi rfl (by decide +kernel)
theorem isi_tup_list (xs : List Dt) (s : Sto) : bfd .isinst [(.tup xs), .ty "list"] s = .ok (.bl false) s := isi rfl (by decide +kernel)
theorem isi_tup_dict (xs : List Dt) (s : Sto) : bfd .isinst [(.tup xs), .ty "dict"] s = .ok (.bl false) s := isi rfl (by decide +kernel)
theorem eq_of_wp {r : Rs Dt} {d : Dt} {s : Sto} (h : Wp r fun a s' => a = d ∧ s' = s) : r = .ok d s := by
  obtain ⟨a, s', e, rfl, rfl⟩ := h.get
  exact e
theorem wp_eq {α : Type} {r : Rs α} {a : α} {s : Sto} (h : r = .ok a s) (Q : α → Sto → Prop) : Wp r Q = Q a s := by rw [h]; rfl
/-- plain data that stands by itself -/
def Pl (v : Dt) : Prop := ∃ p, py0 v = some p ∧ SeqAt.shaped p = true
theorem eqD_pl {x y : Dt} {p q : PyData} {s : Sto} (hx : pyv s x = some p) (hp : SeqAt.shaped p = true) (hy : pyv s y = some q) (hq : SeqAt.shaped q = true) : eqD s x y = some (PyData.eqv p q) := by
  unfold eqD
  split
  · cases hx; cases hy; rfl
  · rw [hx, hy]
    show (if SeqAt.shaped p = true ∧ SeqAt.shaped q = true then _ else _) = _
    rw [if_pos ⟨hp, hq⟩]
theorem pyv_py0 {d : Dt} {p : PyData} (h : py0 d = some p) (s : Sto) : pyv s d = some p := by
  cases d <;> first | exact h | cases h
theorem inD_lst {x : Dt} {ys : List Dt} {p : PyData} {qs : List PyData} {s : Sto} (hx : py0 x = some p) (hp : SeqAt.shaped p = true) (hy : py0s ys = some qs) (hq : SeqAt.shaped (.list qs) = true) :
    inD s x (.lst ys) = some (qs.any fun z => PyData.eqv z p) := by
  have e : pyv s (.lst ys) = some (.list qs) := by
    show (py0s ys).map PyData.list = _
    rw [hy]; rfl
  unfold inD
  rw [pyv_py0 hx, e]
  show (if SeqAt.shaped p = true ∧ SeqAt.shaped (.list qs) = true then _ else _) = _
  rw [if_pos ⟨hp, hq⟩]
theorem cut_ints (ns : List Int) (lo hi : Option Int) : ∃ ys : List Int, cutD (ns.map Dt.int) lo hi = ys.map Dt.int := ⟨_, by
  unfold cutD
  rw [← List.map_drop, ← List.map_take]⟩
end TK

/-! Tk18: plain data, texts. -/
namespace TK
open PySem PySem.Spec L2
theorem nz0 : ((0 : Nat) : Int) = 0 := rfl
theorem wp_noexc {α : Type} {r : Rs α} {Q : α → Sto → Prop} : Wp (noexc r) Q = Wp r Q := by cases r <;> rfl
theorem ofO_some {α : Type} (a : α) (s : Sto) : ofO s (some a) = .ok a s := rfl
theorem sz : sizeLine = 16777216 := rfl
theorem ifF {c a : Prop} [Decidable c] : (if c then a else False) = (c ∧ a) := by
  by_cases h : c <;> simp [h]
abbrev So (x : Str) : Prop := PyData.strOk x = true
theorem So.app {a b : Str} (ha : So a) (hb : So b) : So (a ++ b) := by
  show ((a.cps ++ b.cps).all (· < 0x110000)) = true
  rw [Array.all_append, Bool.and_eq_true]
  exact ⟨ha, hb⟩
theorem So.one {c : Nat} (h : c < 0x110000) : So ⟨#[c]⟩ := by
  show ((#[c] : Array Nat).all (· < 0x110000)) = true
  simp [h]
theorem So.nil : So "" := by decide +kernel
theorem so_join {y : Str} (hy : So y) : ∀ (xs : List Str), (∀ x ∈ xs, So x) → So (Str.join y xs)
  | [], _ => (by decide +kernel : So (Str.join "" []))
  | [x], h => h x List.mem_cons_self
  | x :: z :: r, h => by
    show So (x ++ y ++ Str.join y (z :: r))
    exact ((h x List.mem_cons_self).app hy).app (so_join hy _ fun w hw => h w (List.mem_cons_of_mem _ hw))
theorem so_tjoin {y : Str} (hy : So y) (xs : List Str) (h : ∀ x ∈ xs, So x) : So (Txt.join y xs) := by
  rw [show ∀ y parts, Txt.join y parts = Str.join y parts from StrLaws.glued_eq_join]; exact so_join hy xs h
theorem len_tjoin (y : Str) (xs : List Str) : (Txt.join y xs).length ≤ (xs.map Str.length).sum + xs.length * y.length := by
  rw [show ∀ y parts, Txt.join y parts = Str.join y parts from StrLaws.glued_eq_join]; exact StrLaws.join_length_le y xs
/-- data that stands by itself, its depth bounded -/
def Pd (n : Nat) (v : Dt) : Prop := ∃ p, py0 v = some p ∧ p.canLay0 = true ∧ p.depth ≤ n
theorem Pd.up {n m : Nat} {v : Dt} (h : Pd n v) (l : n ≤ m) : Pd m v := by
  obtain ⟨p, a, b, c⟩ := h
  exact ⟨p, a, b, Nat.le_trans c l⟩
theorem Pd.pl {n : Nat} {v : Dt} (h : Pd n v) (l : n ≤ 64 := by decide) : Pl v := by
  obtain ⟨p, a, b, c⟩ := h
  exact ⟨p, a, by unfold SeqAt.shaped; rw [b]; exact decide_eq_true (Nat.le_trans c l)⟩
theorem Pl.pd {v : Dt} (h : Pl v) : Pd 64 v := by
  obtain ⟨p, a, b⟩ := h
  unfold SeqAt.shaped at b
  rw [Bool.and_eq_true] at b
  exact ⟨p, a, b.1, of_decide_eq_true b.2⟩
theorem pd_non {n : Nat} : Pd n .non := ⟨_, rfl, rfl, Nat.zero_le _⟩
theorem pd_bl {n : Nat} (b : Bool) : Pd n (.bl b) := ⟨_, rfl, rfl, Nat.zero_le _⟩
theorem pd_int {n : Nat} (i : Int) : Pd n (.int i) := ⟨_, rfl, rfl, Nat.zero_le _⟩
theorem pd_str {n : Nat} {x : Str} (h : So x) : Pd n (.str x) := ⟨_, rfl, by unfold PyData.canLay0; exact h, Nat.zero_le _⟩
theorem py0s_of {n : Nat} : ∀ {xs : List Dt}, (∀ x ∈ xs, Pd n x) → ∃ ps, py0s xs = some ps ∧ PyData.canLayAll0 ps = true ∧ PyData.depthAll ps ≤ n ∧ ps.length = xs.length
  | [], _ => ⟨[], rfl, rfl, Nat.zero_le _, rfl⟩
  | x :: xs, h => by
    obtain ⟨p, a, b, c⟩ := h x List.mem_cons_self
    obtain ⟨ps, a', b', c', d'⟩ := py0s_of (xs := xs) fun y hy => h y (List.mem_cons_of_mem _ hy)
    refine ⟨p :: ps, ?_, ?_, ?_, by simp only [List.length_cons, d']⟩
    · unfold py0s; rw [a, a']
    · unfold PyData.canLayAll0; rw [b, b']; rfl
    · unfold PyData.depthAll; omega
theorem pd_tup {n : Nat} {xs : List Dt} (h : ∀ x ∈ xs, Pd n x) : Pd (n + 1) (.tup xs) := by
  obtain ⟨ps, a, b, c, _⟩ := py0s_of h
  refine ⟨.tuple ps, ?_, ?_, ?_⟩
  · unfold py0; rw [a]; rfl
  · unfold PyData.canLay0; exact b
  · unfold PyData.depth; omega
theorem pd_lst {n : Nat} {xs : List Dt} (h : ∀ x ∈ xs, Pd n x) : Pd (n + 1) (.lst xs) := by
  obtain ⟨ps, a, b, c, _⟩ := py0s_of h
  refine ⟨.list ps, ?_, ?_, ?_⟩
  · unfold py0; rw [a]; rfl
  · unfold PyData.canLay0; exact b
  · unfold PyData.depth; omega
theorem pd_of_all {n : Nat} : ∀ {xs : List Dt} {ps : List PyData}, py0s xs = some ps → PyData.canLayAll0 ps = true → PyData.depthAll ps ≤ n → ∀ x ∈ xs, Pd n x
  | [], _, _, _, _ => by simp
  | x :: xs, ps, h, hc, hd => by
    unfold py0s at h
    cases e1 : py0 x with
    | none => rw [e1] at h; cases h
    | some p =>
      cases e2 : py0s xs with
      | none => rw [e1, e2] at h; cases h
      | some qs =>
        rw [e1, e2] at h
        cases h
        unfold PyData.canLayAll0 at hc
        rw [Bool.and_eq_true] at hc
        unfold PyData.depthAll at hd
        intro y hy
        rcases List.mem_cons.mp hy with rfl | hy
        · exact ⟨p, e1, hc.1, by omega⟩
        · exact pd_of_all e2 hc.2 (by omega) y hy
theorem Pl.tup {xs : List Dt} (h : Pl (.tup xs)) : ∀ x ∈ xs, Pl x := by
  obtain ⟨p, a, b, c⟩ := h.pd
  unfold py0 at a
  cases e : py0s xs with
  | none => rw [e] at a; cases a
  | some ps =>
    rw [e] at a; cases a
    unfold PyData.canLay0 at b
    unfold PyData.depth at c
    exact fun x hx => (pd_of_all (n := 64) e b (by omega) x hx).pl (by decide)
theorem all_cons {α : Type} {p : α → Prop} {x : α} {xs : List α} (h : p x) (hs : ∀ y ∈ xs, p y) : ∀ y ∈ x :: xs, p y := fun y hy => by
  rcases List.mem_cons.mp hy with rfl | hy
  · exact h
  · exact hs y hy
theorem all_nil {α : Type} {p : α → Prop} : ∀ y ∈ ([] : List α), p y := by simp
theorem all_app {α : Type} {p : α → Prop} {xs ys : List α} (h : ∀ y ∈ xs, p y) (hs : ∀ y ∈ ys, p y) : ∀ y ∈ xs ++ ys, p y := fun y hy => by
  rcases List.mem_append.mp hy with hy | hy
  · exact h y hy
  · exact hs y hy
/-! ### tests against texts -/
def isS (y : Str) : Dt → Bool
  | .str x => x == y
  | _ => false
theorem eqv_isS {v : Dt} {p : PyData} (hp : py0 v = some p) (y : Str) : PyData.eqv p (.str y) = isS y v := by
  cases v with
  | lst xs =>
    unfold py0 at hp
    cases e2 : py0s xs with
    | none => rw [e2] at hp; cases hp
    | some ps => rw [e2] at hp; cases hp; rfl
  | tup xs =>
    unfold py0 at hp
    cases e2 : py0s xs with
    | none => rw [e2] at hp; cases hp
    | some ps => rw [e2] at hp; cases hp; rfl
  | non => cases hp; rfl
  | bl b => cases hp; rfl
  | int i => cases hp; rfl
  | str x => cases hp; rfl
  | _ => cases hp
theorem eqS {v : Dt} (h : Pl v) (s : Sto) {y : Str} (hy : So y) : cmpop .Eq v (.str y) s = .ok (.bl (isS y v)) s := by
  obtain ⟨p, hp, hs⟩ := h
  have e := eqD_pl (s := s) (pyv_py0 hp s) hs (y := .str y) rfl (shp_str hy)
  show ofO s ((eqD s v (.str y)).map Dt.bl) = _
  rw [e, eqv_isS hp]
  rfl
def memS (ws : List Str) : Dt → Bool
  | .str x => ws.any (· == x)
  | _ => false
theorem py0s_str : ∀ (ws : List Str), py0s (ws.map Dt.str) = some (ws.map PyData.str)
  | [] => rfl
  | w :: ws => by
    show (match some (PyData.str w), py0s (ws.map Dt.str) with
      | some p, some ps => some (p :: ps)
      | _, _ => none) = _
    rw [py0s_str ws]; rfl
theorem eqv_str_l {v : Dt} {p : PyData} (hp : py0 v = some p) (y : Str) : PyData.eqv (.str y) p = match v with
    | .str x => y == x
    | _ => false := by
  cases v with
  | lst xs =>
    unfold py0 at hp
    cases e2 : py0s xs with
    | none => rw [e2] at hp; cases hp
    | some ps => rw [e2] at hp; cases hp; rfl
  | tup xs =>
    unfold py0 at hp
    cases e2 : py0s xs with
    | none => rw [e2] at hp; cases hp
    | some ps => rw [e2] at hp; cases hp; rfl
  | non => cases hp; rfl
  | bl b => cases hp; rfl
  | int i => cases hp; rfl
  | str x => cases hp; rfl
  | _ => cases hp
theorem any_memS {v : Dt} {p : PyData} (hp : py0 v = some p) : ∀ (ws : List Str), (ws.map PyData.str).any (fun z => PyData.eqv z p) = memS ws v
  | [] => by cases v <;> rfl
  | w :: ws => by
    show (PyData.eqv (.str w) p || (ws.map PyData.str).any (fun z => PyData.eqv z p)) = _
    rw [any_memS hp ws, eqv_str_l hp]
    cases v <;> rfl
theorem inL {v : Dt} (h : Pl v) (s : Sto) (ws : List Str) (hw : ∀ w ∈ ws, So w) : cmpop .In v (.lst (ws.map Dt.str)) s = .ok (.bl (memS ws v)) s := by
  obtain ⟨p, hp, hs⟩ := h
  have hq : SeqAt.shaped (.list (ws.map PyData.str)) = true := by
    obtain ⟨q, a, b⟩ := (pd_lst (n := 0) (xs := ws.map Dt.str) fun x hx => by
      obtain ⟨w, hw', rfl⟩ := List.mem_map.mp hx
      exact pd_str (hw w hw')).pl
    unfold py0 at a
    rw [py0s_str] at a
    cases a
    exact b
  show ofO s ((inD s v (.lst (ws.map Dt.str))).map Dt.bl) = _
  rw [inD_lst hp hs (py0s_str ws) hq, any_memS hp]
  rfl
theorem inT (x : Str) (s : Sto) (ws : List Str) : cmpop .In (.str x) (.tup (ws.map Dt.str)) s = .ok (.bl (memS ws (.str x))) s := by
  have e : pyv s (.tup (ws.map Dt.str)) = some (.tuple (ws.map PyData.str)) := by
    show (py0s (ws.map Dt.str)).map PyData.tuple = _
    rw [py0s_str]; rfl
  have a : (ws.map PyData.str).all (fun q => match q with | .str _ => true | _ => false) = true := by
    rw [List.all_map]
    exact List.all_eq_true.mpr fun _ _ => rfl
  show ofO s ((inD s (.str x) (.tup (ws.map Dt.str))).map Dt.bl) = _
  unfold inD
  rw [e]
  show ofO s ((match Dt.str x, (ws.map PyData.str).all (fun q => match q with | .str _ => true | _ => false) with
    | .str a, true => some ((ws.map PyData.str).any fun z => PyData.eqv z (.str a))
    | _, _ => none).map Dt.bl) = _
  rw [a]
  show ofO s (some (Dt.bl ((ws.map PyData.str).any fun z => PyData.eqv z (.str x)))) = _
  rw [any_memS (v := .str x) rfl]
  rfl
/-- one sign in a text -/
def inSt (y : Str) : Dt → Bool
  | .str a => decide (a.cps.toList.getD 0 0 ∈ y.cps.toList)
  | _ => false
theorem inS (c : Nat) (y : Str) (s : Sto) : cmpop .In (.str ⟨#[c]⟩) (.str y) s = .ok (.bl (inSt y (.str ⟨#[c]⟩))) s := rfl
def itemsS (x : Str) : List Dt := x.cps.toList.map fun c => .str ⟨#[c]⟩
theorem len_itemsS (x : Str) : (itemsS x).length = x.length := by
  show (List.map _ x.cps.toList).length = x.cps.size
  rw [List.length_map, Array.length_toList]
theorem bools_map (f : Dt → Bool) : ∀ ds : List Dt, bools (ds.map fun d => Dt.bl (f d)) = some (ds.map f)
  | [] => rfl
  | d :: ds => by
    show (bools (ds.map fun d => Dt.bl (f d))).map (f d :: ·) = _
    rw [bools_map f ds]; rfl
theorem all_lst (f : Dt → Bool) (ds : List Dt) (s : Sto) : bfd .all [.lst (ds.map fun d => Dt.bl (f d))] s = .ok (.bl ((ds.map f).all id)) s := by
  show (match (some (ds.map fun d => Dt.bl (f d))).bind bools with
    | some bs => Rs.ok (Dt.bl (bs.all id)) s
    | none => .bad) = _
  show (match bools (ds.map fun d => Dt.bl (f d)) with
    | some bs => Rs.ok (Dt.bl (bs.all id)) s
    | none => .bad) = _
  rw [bools_map]
theorem ixd_str (z : Str) (k : Int) (s : Sto) (Q : Dt → Sto → Prop) : Wp (ixd (.str z) (.int k) s) Q = (z.length ≤ 16777216 ∧ Wp (ofO s ((atI z.cps.toList k).map fun c => Dt.str ⟨#[c]⟩)) Q) := by rw [← wp_if]; rfl
theorem strsD_of : ∀ {ys : List Dt}, (∀ y ∈ ys, ∃ c, y = .str ⟨#[c]⟩ ∧ c < 0x110000) → ∃ zs : List Str, strsD ys = some zs ∧ zs.length = ys.length ∧ (zs.map Str.length).sum = ys.length ∧ ∀ z ∈ zs, So z
  | [], _ => ⟨[], rfl, rfl, rfl, all_nil⟩
  | y :: ys, h => by
    obtain ⟨c, rfl, hc⟩ := h y List.mem_cons_self
    obtain ⟨zs, a, b, d, e⟩ := strsD_of (ys := ys) fun z hz => h z (List.mem_cons_of_mem _ hz)
    refine ⟨⟨#[c]⟩ :: zs, ?_, by simp only [List.length_cons, b], ?_, all_cons (.one hc) e⟩
    · show (strsD ys).map (_ :: ·) = _
      rw [a]; rfl
    · simp only [List.map_cons, List.sum_cons, d, List.length_cons]
      show 1 + ys.length = _
      omega
theorem word_of {ys : List Dt} {s : Sto} (h : ∀ y ∈ ys, ∃ c, y = .str ⟨#[c]⟩ ∧ c < 0x110000) (hl : ys.length ≤ 1000) : ∃ w : Str, mef .join (.str "") [.lst ys] s = .ok (.str w) s ∧ So w ∧ w.length ≤ ys.length := by
  obtain ⟨zs, a, b, d, e⟩ := strsD_of h
  have l0 : ("" : Str).length = 0 := by decide +kernel
  refine ⟨Txt.join "" zs, ?_, so_tjoin .nil zs e, ?_⟩
  · show (match (some ys).bind strsD with
      | some ys => if (ys.map Str.length).sum + ys.length * ("" : Str).length ≤ 16777216 then Rs.ok (Dt.str (Txt.join "" ys)) s else .bad
      | none => .bad) = _
    show (match strsD ys with
      | some ys => if (ys.map Str.length).sum + ys.length * ("" : Str).length ≤ 16777216 then Rs.ok (Dt.str (Txt.join "" ys)) s else .bad
      | none => .bad) = _
    rw [a]
    show (if (zs.map Str.length).sum + zs.length * ("" : Str).length ≤ 16777216 then _ else _) = _
    rw [if_pos (by rw [d, l0]; omega)]
  · refine Nat.le_trans (len_tjoin "" zs) ?_
    rw [d, l0]; omega
/-- equal things look alike -/
theorem repr_eq {d : Dt} {p : PyData} {s : Sto} (h : pyv s d = some p) (g : p.showable = true ∧ p.hasDict = false ∧ p.shown.length ≤ sizeLine ∧ p.depth ≤ 64) : bfd .repr [d] s = .ok (.str p.shown) s := by
  show (match pyv s d with
    | some p => if p.showable = true ∧ p.hasDict = false ∧ p.shown.length ≤ sizeLine ∧ p.depth ≤ 64 then Rs.ok (Dt.str p.shown) s else .bad
    | none => .bad) = _
  rw [h]
  show (if p.showable = true ∧ p.hasDict = false ∧ p.shown.length ≤ sizeLine ∧ p.depth ≤ 64 then _ else _) = _
  rw [if_pos g]
end TK

namespace K02
open PySem PySem.Spec L2 TK
def top (i : Nat) : Stmt := PySem.Challenge.pw_touchkept_k02_acts_on_lives.main.body.getD i (.Pass ⟨0, 0, 0, 0⟩)
abbrev sActed_on_lasting : Stmt := top 3
abbrev sActed : Stmt := top 4
abbrev sLsource : Stmt := top 6
abbrev sLdraw : Stmt := top 7
abbrev sLof : Stmt := top 8
abbrev sLsame : Stmt := top 9
abbrev sLnumber : Stmt := top 10
abbrev sLcrest : Stmt := top 11
abbrev sLact : Stmt := top 12
abbrev sLlife : Stmt := top 13
abbrev sLacted : Stmt := top 14
abbrev sLaw : Stmt := top 15
def gn : List Str := [("LASTING" : Str)]
def gv : List Dt := [(.str "lasting")]
def bn : List Str := [("int" : Str), ("len" : Str), ("list" : Str), ("max" : Str), ("min" : Str), ("range" : Str), ("repr" : Str)]
def fns : List Str := [("acted_on_lasting" : Str), ("acted" : Str), ("_law_source" : Str), ("_law_draw" : Str), ("_law_of" : Str), ("_law_same" : Str), ("_law_number" : Str), ("_law_crest" : Str), ("_law_act" : Str), ("_law_life" : Str), ("_law_acted" : Str), ("law" : Str)]
def b0 : List CS := [.ifs (.cmp .Eq (.ix (.var 0) (.int 0)) (.str "drop")) [.ret .non] [], .ret (.ite (.cmp .In (.ix (.var 0) (.int 0)) (.tup [(.str "set"), (.str "most")])) (.ix (.var 0) (.int 1)) (.glb 0))]
def b1 : List CS := [.ifs (.cmp .Is (.var 0) .non) [.ret .non] [], .ifs (.cmp .Eq (.var 0) (.glb 0)) [.ret (.fn 0 0 [(.var 1)] [])] [], .set 3 (.ix (.var 1) (.int 0)), .ifs (.cmp .Eq (.var 3) (.str "drop")) [.ret .non] [], .ifs (.cmp .Eq (.var 3) (.str "lasting")) [.ret (.glb 0)] [], .ifs (.cmp .Eq (.var 3) (.str "set")) [.ret (.ix (.var 1) (.int 1))] [], .ifs (.cmp .Eq (.var 3) (.str "least")) [.ret (.bfn .max2 [(.var 0), (.ix (.var 1) (.int 1))])] [], .ifs (.cmp .Eq (.var 3) (.str "most")) [.ret (.bfn .min2 [(.var 0), (.ix (.var 1) (.int 1))])] [], .ret (.ite (.cmp .Eq (.var 3) (.str "more")) (.bfn .min2 [(.bin .Add (.var 0) (.ix (.var 1) (.int 1))), (.var 2)]) (.var 0))]
def b2 : List CS := [.set 1 (.int 5782), .for_ (.name 2) (.plain (.slc (.var 0) none (some (.int 63)))) [.set 1 (.bin .Mod (.bfn .int [(.bin .Add (.bin .Add (.bin .Mult (.var 1) (.int 40127)) (.bin .Mod (.bfn .int [(.var 2)]) (.int 2147483543))) (.int 17))]) (.int 2147483587))], .ret (.lst true [(.bfn .list [(.slc (.var 0) none (some (.int 63)))]), (.int 0), (.int 0), (.var 1), (.int 0)])]
def b3 : List CS := [.ifs (.and [(.cmp .Lt (.ix (.var 0) (.int 2)) (.var 1)), (.cmp .Lt (.ix (.var 0) (.int 1)) (.bfn .len [(.ix (.var 0) (.int 0))]))]) [.set 4 (.ix (.ix (.var 0) (.int 0)) (.ix (.var 0) (.int 1))), .seti (.var 0) (.int 1) (.bin .Add (.ix (.var 0) (.int 1)) (.int 1)), .seti (.var 0) (.int 3) (.bin .Mod (.bfn .int [(.bin .Add (.bin .Add (.bin .Mult (.ix (.var 0) (.int 3)) (.int 52361)) (.bin .Mod (.bfn .int [(.var 4)]) (.int 2147483579))) (.int 23))]) (.int 2147483629)), .seti (.var 0) (.int 2) (.ite (.cmp .GtE (.var 4) (.bin .Pow (.int 10) (.int 18))) (.var 4) (.int 0))] [], .ifs (.cmp .GtE (.ix (.var 0) (.int 2)) (.var 1)) [.set 5 (.bin .Mod (.bfn .int [(.ix (.var 0) (.int 2))]) (.var 1)), .seti (.var 0) (.int 2) (.bin .FloorDiv (.ix (.var 0) (.int 2)) (.var 1)), .ret (.var 5)] [], .seti (.var 0) (.int 4) (.bin .Add (.ix (.var 0) (.int 4)) (.int 1)), .set 2 (.bin .Mod (.bfn .int [(.bin .Add (.ix (.var 0) (.int 3)) (.bin .Mult (.ix (.var 0) (.int 4)) (.int 6997)))]) (.int 2147483587)), .set 3 (.bin .Mult (.bin .Mod (.bfn .int [(.bin .Mult (.var 2) (.var 2))]) (.int 2147483563)) (.bin .Add (.bin .Mod (.bfn .int [(.var 2)]) (.int 39989)) (.int 5))), .seti (.var 0) (.int 3) (.bin .Mod (.bfn .int [(.bin .Add (.bin .Add (.var 3) (.bin .Mult (.int 27011) (.var 2))) (.int 881))]) (.int 2147483629)), .ret (.bin .Mod (.bfn .int [(.bin .Add (.bin .FloorDiv (.ix (.var 0) (.int 3)) (.int 67)) (.bin .Mult (.bin .Mod (.bfn .int [(.ix (.var 0) (.int 3))]) (.int 8009)) (.int 43)))]) (.var 1))]
def b4 : List CS := [.ret (.ix (.var 1) (.fn 3 0 [(.var 0), (.bfn .len [(.var 1)])] []))]
def b5 : List CS := [.ret (.cmp .Eq (.bfn .repr [(.var 0)]) (.bfn .repr [(.var 1)]))]
def b6 : List CS := [.set 2 (.fn 3 0 [(.var 0), (.int 3)] []), .ifs (.cmp .Eq (.var 2) (.int 0)) [.ret (.bin .Add (.int 1) (.fn 3 0 [(.var 0), (.bfn .min2 [(.var 1), (.int 4)])] []))] [], .ret (.ite (.cmp .Eq (.var 2) (.int 1)) (.bin .Sub (.var 1) (.fn 3 0 [(.var 0), (.bfn .min2 [(.var 1), (.int 3)])] [])) (.bin .Add (.int 1) (.fn 3 0 [(.var 0), (.var 1)] [])))]
def b7 : List CS := [.ret (.fn 4 0 [(.var 0), (.lst false [(.int 1), (.int 2), (.int 5), (.int 9), (.bin .Add (.int 1) (.fn 3 0 [(.var 0), (.int 100)] [])), (.bin .Add (.bin .Pow (.int 10) (.int 29)) (.fn 3 0 [(.var 0), (.int 1000)] [])), (.bin .Pow (.int 10) (.int 30))])] [])]
def b8 : List CS := [.set 2 (.lst false [(.str "keep"), (.str "lasting"), (.str "drop"), (.str "set"), (.str "least"), (.str "most"), (.str "more"), (.str "set"), (.str "least"), (.str "more")]), .set 3 (.fn 4 0 [(.var 0), (.var 2)] []), .ifs (.cmp .In (.var 3) (.lst false [(.str "keep"), (.str "lasting"), (.str "drop")])) [.ret (.tup [(.var 3)])] [], .ret (.tup [(.var 3), (.fn 6 0 [(.var 0), (.var 1)] [])])]
def b9 : List CS := [.setc 2 (.comp false (.name 3) [3] (.range1 (.int 3)) none (.fn 6 0 [(.var 0), (.var 1)] [])), .ret (.fn 4 0 [(.var 0), (.bin .Add (.lst false [.non, (.str "lasting")]) (.var 2))] [])]
def b10 : List CS := [.ifs (.or [(.cmp .Is (.var 0) .non), (.cmp .Eq (.ix (.var 1) (.int 0)) (.str "drop"))]) [.ret .non] [], .ifs (.cmp .Eq (.ix (.var 1) (.int 0)) (.str "lasting")) [.ret (.str "lasting")] [], .ifs (.cmp .Eq (.var 0) (.str "lasting")) [.ret (.ite (.cmp .In (.ix (.var 1) (.int 0)) (.lst false [(.str "set"), (.str "most")])) (.ix (.var 1) (.int 1)) (.str "lasting"))] [], .ifs (.cmp .Eq (.ix (.var 1) (.int 0)) (.str "set")) [.ret (.ix (.var 1) (.int 1))] [], .ifs (.cmp .Eq (.ix (.var 1) (.int 0)) (.str "least")) [.ret (.ite (.cmp .Gt (.ix (.var 1) (.int 1)) (.var 0)) (.ix (.var 1) (.int 1)) (.var 0))] [], .ifs (.cmp .Eq (.ix (.var 1) (.int 0)) (.str "most")) [.ret (.ite (.cmp .Lt (.ix (.var 1) (.int 1)) (.var 0)) (.ix (.var 1) (.int 1)) (.var 0))] [], .ifs (.cmp .Eq (.ix (.var 1) (.int 0)) (.str "more")) [.ret (.ite (.cmp .Lt (.bin .Add (.var 0) (.ix (.var 1) (.int 1))) (.var 2)) (.bin .Add (.var 0) (.ix (.var 1) (.int 1))) (.var 2))] [], .ret (.var 0)]
def b11 : List CS := [.set 1 (.fn 2 0 [(.var 0)] []), .for_ (.name 2) (.range1 (.int 12)) [.set 3 (.fn 7 0 [(.var 1)] []), .par 6 7 (.fn 9 0 [(.var 1), (.var 3)] []) (.fn 8 0 [(.var 1), (.var 3)] []), .set 4 (.fn 10 0 [(.var 6), (.var 7), (.var 3)] []), .set 5 (.lst false [(.fn 1 0 [(.var 6), (.var 7), (.var 3)] []), (.fn 1 0 [(.fn 1 0 [(.var 6), (.var 7), (.var 3)] []), (.var 7), (.var 3)] []), (.fn 1 1 [(.var 6), (.var 7)] [])]), .ifs (.not (.val (.fn 5 0 [(.var 5), (.lst false [(.var 4), (.fn 10 0 [(.var 4), (.var 7), (.var 3)] []), (.fn 10 0 [(.var 6), (.var 7), (.bin .Pow (.int 10) (.int 30))] [])])] []))) [.ret (.bl false)] []], .ret (.bl true)]
def h0 : Sh := ⟨1, [], [.arg 0]⟩
def h1 : Sh := ⟨2, [], [.arg 0, .arg 1]⟩
def h2 : Sh := ⟨2, [], [.arg 0, .arg 1]⟩
def h3 : Sh := ⟨2, [], [.arg 0, .arg 1]⟩
def h4 : Sh := ⟨1, [], [.arg 0]⟩
def h5 : Sh := ⟨1, [], [.arg 0]⟩
def h6 : Sh := ⟨2, [], [.arg 0, .arg 1]⟩
def h7 : Sh := ⟨2, [], [.arg 0, .arg 1]⟩
def h8 : Sh := ⟨3, [], [.arg 0, .arg 1, .arg 2]⟩
def h9 : Sh := ⟨3, [], [.arg 0, .arg 1, .arg 2]⟩
def h10 : Sh := ⟨2, [], [.arg 0, .arg 1, .dfl 0]⟩
def h11 : Sh := ⟨2, [], [.arg 0, .arg 1]⟩
def f0 : Fi := ⟨[("act" : Str)], 1, b0, [], [h0]⟩
def f1 : Fi := ⟨[("life" : Str), ("act" : Str), ("top" : Str), ("word" : Str)], 3, b1, [(.int 1000000000000000000000000000000)], [h9, h10]⟩
def f2 : Fi := ⟨[("_law_script" : Str), ("_law_seed" : Str), ("_law_cell" : Str)], 1, b2, [], [h4]⟩
def f3 : Fi := ⟨[("_law_src" : Str), ("_law_many" : Str), ("_law_base7" : Str), ("_law_late7" : Str), ("_law_cell" : Str), ("_law_digit" : Str)], 2, b3, [], [h1]⟩
def f4 : Fi := ⟨[("_law_src" : Str), ("_law_some" : Str)], 2, b4, [], [h2]⟩
def f5 : Fi := ⟨[("_law_found" : Str), ("_law_due" : Str)], 2, b5, [], [h11]⟩
def f6 : Fi := ⟨[("_law_src" : Str), ("_law_crest_here" : Str), ("_law_way" : Str)], 2, b6, [], [h3]⟩
def f7 : Fi := ⟨[("_law_src" : Str)], 1, b7, [], [h5]⟩
def f8 : Fi := ⟨[("_law_src" : Str), ("_law_crest_here" : Str), ("_law_words" : Str), ("_law_word" : Str)], 2, b8, [], [h7]⟩
def f9 : Fi := ⟨[("_law_src" : Str), ("_law_crest_here" : Str), ("_law_numbers" : Str), ("_law_k" : Str)], 2, b9, [], [h6]⟩
def f10 : Fi := ⟨[("_law_left7" : Str), ("_law_act_here" : Str), ("_law_crest_here" : Str)], 3, b10, [], [h8]⟩
def f11 : Fi := ⟨[("_law_script" : Str), ("_law_src" : Str), ("_law_turn" : Str), ("_law_crest_here" : Str), ("_law_due" : Str), ("_law_found" : Str), ("_law_left7" : Str), ("_law_act_here" : Str)], 1, b11, [], []⟩
def P : Pg := ⟨gn, gv, bn, fns, [f0, f1, f2, f3, f4, f5, f6, f7, f8, f9, f10, f11]⟩
def d0 : He.DefD := ⟨("acted_on_lasting", none), "acted_on_lasting", "acted_on_lasting", defArgs sActed_on_lasting, defBody sActed_on_lasting, defScope sActed_on_lasting, [], []⟩
def d1 : He.DefD := ⟨("acted", none), "acted", "acted", defArgs sActed, defBody sActed, defScope sActed, [.int 1000000000000000000000000000000], []⟩
def d2 : He.DefD := ⟨("_law_source", none), "_law_source", "_law_source", defArgs sLsource, defBody sLsource, defScope sLsource, [], []⟩
def d3 : He.DefD := ⟨("_law_draw", none), "_law_draw", "_law_draw", defArgs sLdraw, defBody sLdraw, defScope sLdraw, [], []⟩
def d4 : He.DefD := ⟨("_law_of", none), "_law_of", "_law_of", defArgs sLof, defBody sLof, defScope sLof, [], []⟩
def d5 : He.DefD := ⟨("_law_same", none), "_law_same", "_law_same", defArgs sLsame, defBody sLsame, defScope sLsame, [], []⟩
def d6 : He.DefD := ⟨("_law_number", none), "_law_number", "_law_number", defArgs sLnumber, defBody sLnumber, defScope sLnumber, [], []⟩
def d7 : He.DefD := ⟨("_law_crest", none), "_law_crest", "_law_crest", defArgs sLcrest, defBody sLcrest, defScope sLcrest, [], []⟩
def d8 : He.DefD := ⟨("_law_act", none), "_law_act", "_law_act", defArgs sLact, defBody sLact, defScope sLact, [], []⟩
def d9 : He.DefD := ⟨("_law_life", none), "_law_life", "_law_life", defArgs sLlife, defBody sLlife, defScope sLlife, [], []⟩
def d10 : He.DefD := ⟨("_law_acted", none), "_law_acted", "_law_acted", defArgs sLacted, defBody sLacted, defScope sLacted, [], []⟩
def d11 : He.DefD := ⟨("law", none), "law", "law", defArgs sLaw, defBody sLaw, defScope sLaw, [], []⟩
def fn : List He.DefD := [d0, d1, d2, d3, d4, d5, d6, d7, d8, d9, d10, d11]
def more : List He.Fa := [.str "LASTING" "lasting"]
def exB (K : PySem.W.Frag) : Bool := true
abbrev R : PySem.W.OpenRow := PySem.W.OpenLaw.row PySem.Challenge.rw_touchkept_k02_acts_on_lives
def loose0 : List Str := [("acted_on_lasting" : Str), ("acted" : Str), ("_law_source" : Str), ("_law_draw" : Str), ("_law_of" : Str), ("_law_same" : Str), ("_law_number" : Str), ("_law_crest" : Str), ("_law_act" : Str), ("_law_life" : Str), ("_law_acted" : Str), ("LASTING" : Str), ("MOST_TOP" : Str)]
def loose : List Str := loose0
abbrev fa : List He.Fa := faOf fns bn more
abbrev hk : PySem.W.Hook := hookK 4 fa fn exB
theorem run (w : World) : HandSHeadRun.RunEq R (PySem.W.view R.prog [15]) hk (obK 4 fa fn exB) 1000 loose w := by
  intro os
  kernel_rfl
section
variable {K : PySem.W.Frag} {h : Heap} {mg : Str → Option Value}
def G (K : PySem.W.Frag) : Tb := ⟨K, fun _ => 0, fun i => He.fAd K (atOf fns [] i), fun _ => ""⟩
theorem sc0 : FnScope f0.N (f0.N.take f0.np) d0.scope := ⟨rfl, rfl, rfl, by decide +kernel, rfl, by decide +kernel, by decide +kernel⟩
theorem m0 : mSs P f0.N d0.scope f0.body d0.body = true := by decide +kernel
theorem hs0 {fd : FuncData} (F : FunD K d0.name d0.qual d0.params d0.body d0.scope (d0.dvs K) [] (He.fAd K d0.at_) fd) : ShOk K fd (f0.N.take f0.np) h0.n h0.ks (d0.dvs K) h0.o :=
  sh_nn F _ _ _ fun _ _ _ _ _ _ us ws hu hw => match us, hu, ws, hw with | [_], _, [], _ => rfl
theorem fi0 {fd : FuncData} (F : FunD K d0.name d0.qual d0.params d0.body d0.scope (d0.dvs K) [] (He.fAd K d0.at_) fd) : FiOk (G K) P 0 f0 fd :=
  fi_of (d := d0) F rfl rfl sc0 m0 (by decide +kernel) (by decide) (by decide +kernel) ⟨hs0 F, trivial⟩
theorem sc1 : FnScope f1.N (f1.N.take f1.np) d1.scope := ⟨rfl, rfl, rfl, by decide +kernel, rfl, by decide +kernel, by decide +kernel⟩
theorem m1 : mSs P f1.N d1.scope f1.body d1.body = true := by decide +kernel
theorem hs9 {fd : FuncData} (F : FunD K d1.name d1.qual d1.params d1.body d1.scope (d1.dvs K) [] (He.fAd K d1.at_) fd) : ShOk K fd (f1.N.take f1.np) h9.n h9.ks (d1.dvs K) h9.o :=
  sh_dn F _ _ _ (by intro z; cases z) fun _ _ _ _ _ _ _ us ws its hu hw hi => match us, hu, ws, hw, its, hi with | [_, _, _], _, [], _, [_], _ => ⟨_, rfl, rfl⟩
theorem hs10 {fd : FuncData} (F : FunD K d1.name d1.qual d1.params d1.body d1.scope (d1.dvs K) [] (He.fAd K d1.at_) fd) : ShOk K fd (f1.N.take f1.np) h10.n h10.ks (d1.dvs K) h10.o :=
  sh_dn F _ _ _ (by intro z; cases z) fun _ _ _ _ _ _ _ us ws its hu hw hi => match us, hu, ws, hw, its, hi with | [_, _], _, [], _, [_], _ => ⟨_, rfl, rfl⟩
theorem fi1 {fd : FuncData} (F : FunD K d1.name d1.qual d1.params d1.body d1.scope (d1.dvs K) [] (He.fAd K d1.at_) fd) : FiOk (G K) P 1 f1 fd :=
  fi_of (d := d1) F rfl rfl sc1 m1 (by decide +kernel) (by decide) (by decide +kernel) ⟨hs9 F, hs10 F, trivial⟩
theorem sc2 : FnScope f2.N (f2.N.take f2.np) d2.scope := ⟨rfl, rfl, rfl, by decide +kernel, rfl, by decide +kernel, by decide +kernel⟩
theorem m2 : mSs P f2.N d2.scope f2.body d2.body = true := by decide +kernel
theorem hs4 {fd : FuncData} (F : FunD K d2.name d2.qual d2.params d2.body d2.scope (d2.dvs K) [] (He.fAd K d2.at_) fd) : ShOk K fd (f2.N.take f2.np) h4.n h4.ks (d2.dvs K) h4.o :=
  sh_nn F _ _ _ fun _ _ _ _ _ _ us ws hu hw => match us, hu, ws, hw with | [_], _, [], _ => rfl
theorem fi2 {fd : FuncData} (F : FunD K d2.name d2.qual d2.params d2.body d2.scope (d2.dvs K) [] (He.fAd K d2.at_) fd) : FiOk (G K) P 2 f2 fd :=
  fi_of (d := d2) F rfl rfl sc2 m2 (by decide +kernel) (by decide) (by decide +kernel) ⟨hs4 F, trivial⟩
theorem sc3 : FnScope f3.N (f3.N.take f3.np) d3.scope := ⟨rfl, rfl, rfl, by decide +kernel, rfl, by decide +kernel, by decide +kernel⟩
theorem m3 : mSs P f3.N d3.scope f3.body d3.body = true := by decide +kernel
theorem hs1 {fd : FuncData} (F : FunD K d3.name d3.qual d3.params d3.body d3.scope (d3.dvs K) [] (He.fAd K d3.at_) fd) : ShOk K fd (f3.N.take f3.np) h1.n h1.ks (d3.dvs K) h1.o :=
  sh_nn F _ _ _ fun _ _ _ _ _ _ us ws hu hw => match us, hu, ws, hw with | [_, _], _, [], _ => rfl
theorem fi3 {fd : FuncData} (F : FunD K d3.name d3.qual d3.params d3.body d3.scope (d3.dvs K) [] (He.fAd K d3.at_) fd) : FiOk (G K) P 3 f3 fd :=
  fi_of (d := d3) F rfl rfl sc3 m3 (by decide +kernel) (by decide) (by decide +kernel) ⟨hs1 F, trivial⟩
theorem sc4 : FnScope f4.N (f4.N.take f4.np) d4.scope := ⟨rfl, rfl, rfl, by decide +kernel, rfl, by decide +kernel, by decide +kernel⟩
theorem m4 : mSs P f4.N d4.scope f4.body d4.body = true := by decide +kernel
theorem hs2 {fd : FuncData} (F : FunD K d4.name d4.qual d4.params d4.body d4.scope (d4.dvs K) [] (He.fAd K d4.at_) fd) : ShOk K fd (f4.N.take f4.np) h2.n h2.ks (d4.dvs K) h2.o :=
  sh_nn F _ _ _ fun _ _ _ _ _ _ us ws hu hw => match us, hu, ws, hw with | [_, _], _, [], _ => rfl
theorem fi4 {fd : FuncData} (F : FunD K d4.name d4.qual d4.params d4.body d4.scope (d4.dvs K) [] (He.fAd K d4.at_) fd) : FiOk (G K) P 4 f4 fd :=
  fi_of (d := d4) F rfl rfl sc4 m4 (by decide +kernel) (by decide) (by decide +kernel) ⟨hs2 F, trivial⟩
theorem sc5 : FnScope f5.N (f5.N.take f5.np) d5.scope := ⟨rfl, rfl, rfl, by decide +kernel, rfl, by decide +kernel, by decide +kernel⟩
theorem m5 : mSs P f5.N d5.scope f5.body d5.body = true := by decide +kernel
theorem hs11 {fd : FuncData} (F : FunD K d5.name d5.qual d5.params d5.body d5.scope (d5.dvs K) [] (He.fAd K d5.at_) fd) : ShOk K fd (f5.N.take f5.np) h11.n h11.ks (d5.dvs K) h11.o :=
  sh_nn F _ _ _ fun _ _ _ _ _ _ us ws hu hw => match us, hu, ws, hw with | [_, _], _, [], _ => rfl
theorem fi5 {fd : FuncData} (F : FunD K d5.name d5.qual d5.params d5.body d5.scope (d5.dvs K) [] (He.fAd K d5.at_) fd) : FiOk (G K) P 5 f5 fd :=
  fi_of (d := d5) F rfl rfl sc5 m5 (by decide +kernel) (by decide) (by decide +kernel) ⟨hs11 F, trivial⟩
theorem sc6 : FnScope f6.N (f6.N.take f6.np) d6.scope := ⟨rfl, rfl, rfl, by decide +kernel, rfl, by decide +kernel, by decide +kernel⟩
theorem m6 : mSs P f6.N d6.scope f6.body d6.body = true := by decide +kernel
theorem hs3 {fd : FuncData} (F : FunD K d6.name d6.qual d6.params d6.body d6.scope (d6.dvs K) [] (He.fAd K d6.at_) fd) : ShOk K fd (f6.N.take f6.np) h3.n h3.ks (d6.dvs K) h3.o :=
  sh_nn F _ _ _ fun _ _ _ _ _ _ us ws hu hw => match us, hu, ws, hw with | [_, _], _, [], _ => rfl
theorem fi6 {fd : FuncData} (F : FunD K d6.name d6.qual d6.params d6.body d6.scope (d6.dvs K) [] (He.fAd K d6.at_) fd) : FiOk (G K) P 6 f6 fd :=
  fi_of (d := d6) F rfl rfl sc6 m6 (by decide +kernel) (by decide) (by decide +kernel) ⟨hs3 F, trivial⟩
theorem sc7 : FnScope f7.N (f7.N.take f7.np) d7.scope := ⟨rfl, rfl, rfl, by decide +kernel, rfl, by decide +kernel, by decide +kernel⟩
theorem m7 : mSs P f7.N d7.scope f7.body d7.body = true := by decide +kernel
theorem hs5 {fd : FuncData} (F : FunD K d7.name d7.qual d7.params d7.body d7.scope (d7.dvs K) [] (He.fAd K d7.at_) fd) : ShOk K fd (f7.N.take f7.np) h5.n h5.ks (d7.dvs K) h5.o :=
  sh_nn F _ _ _ fun _ _ _ _ _ _ us ws hu hw => match us, hu, ws, hw with | [_], _, [], _ => rfl
theorem fi7 {fd : FuncData} (F : FunD K d7.name d7.qual d7.params d7.body d7.scope (d7.dvs K) [] (He.fAd K d7.at_) fd) : FiOk (G K) P 7 f7 fd :=
  fi_of (d := d7) F rfl rfl sc7 m7 (by decide +kernel) (by decide) (by decide +kernel) ⟨hs5 F, trivial⟩
theorem sc8 : FnScope f8.N (f8.N.take f8.np) d8.scope := ⟨rfl, rfl, rfl, by decide +kernel, rfl, by decide +kernel, by decide +kernel⟩
theorem m8 : mSs P f8.N d8.scope f8.body d8.body = true := by decide +kernel
theorem hs7 {fd : FuncData} (F : FunD K d8.name d8.qual d8.params d8.body d8.scope (d8.dvs K) [] (He.fAd K d8.at_) fd) : ShOk K fd (f8.N.take f8.np) h7.n h7.ks (d8.dvs K) h7.o :=
  sh_nn F _ _ _ fun _ _ _ _ _ _ us ws hu hw => match us, hu, ws, hw with | [_, _], _, [], _ => rfl
theorem fi8 {fd : FuncData} (F : FunD K d8.name d8.qual d8.params d8.body d8.scope (d8.dvs K) [] (He.fAd K d8.at_) fd) : FiOk (G K) P 8 f8 fd :=
  fi_of (d := d8) F rfl rfl sc8 m8 (by decide +kernel) (by decide) (by decide +kernel) ⟨hs7 F, trivial⟩
theorem sc9 : FnScope f9.N (f9.N.take f9.np) d9.scope := ⟨rfl, rfl, rfl, by decide +kernel, rfl, by decide +kernel, by decide +kernel⟩
theorem m9 : mSs P f9.N d9.scope f9.body d9.body = true := by decide +kernel
theorem hs6 {fd : FuncData} (F : FunD K d9.name d9.qual d9.params d9.body d9.scope (d9.dvs K) [] (He.fAd K d9.at_) fd) : ShOk K fd (f9.N.take f9.np) h6.n h6.ks (d9.dvs K) h6.o :=
  sh_nn F _ _ _ fun _ _ _ _ _ _ us ws hu hw => match us, hu, ws, hw with | [_, _], _, [], _ => rfl
theorem fi9 {fd : FuncData} (F : FunD K d9.name d9.qual d9.params d9.body d9.scope (d9.dvs K) [] (He.fAd K d9.at_) fd) : FiOk (G K) P 9 f9 fd :=
  fi_of (d := d9) F rfl rfl sc9 m9 (by decide +kernel) (by decide) (by decide +kernel) ⟨hs6 F, trivial⟩
theorem sc10 : FnScope f10.N (f10.N.take f10.np) d10.scope := ⟨rfl, rfl, rfl, by decide +kernel, rfl, by decide +kernel, by decide +kernel⟩
theorem m10 : mSs P f10.N d10.scope f10.body d10.body = true := by decide +kernel
theorem hs8 {fd : FuncData} (F : FunD K d10.name d10.qual d10.params d10.body d10.scope (d10.dvs K) [] (He.fAd K d10.at_) fd) : ShOk K fd (f10.N.take f10.np) h8.n h8.ks (d10.dvs K) h8.o :=
  sh_nn F _ _ _ fun _ _ _ _ _ _ us ws hu hw => match us, hu, ws, hw with | [_, _, _], _, [], _ => rfl
theorem fi10 {fd : FuncData} (F : FunD K d10.name d10.qual d10.params d10.body d10.scope (d10.dvs K) [] (He.fAd K d10.at_) fd) : FiOk (G K) P 10 f10 fd :=
  fi_of (d := d10) F rfl rfl sc10 m10 (by decide +kernel) (by decide) (by decide +kernel) ⟨hs8 F, trivial⟩
theorem sc11 : FnScope f11.N (f11.N.take f11.np) d11.scope := ⟨rfl, rfl, rfl, by decide +kernel, rfl, by decide +kernel, by decide +kernel⟩
theorem m11 : mSs P f11.N d11.scope f11.body d11.body = true := by decide +kernel
theorem fi11 {fd : FuncData} (F : FunD K d11.name d11.qual d11.params d11.body d11.scope (d11.dvs K) [] (He.fAd K d11.at_) fd) : FiOk (G K) P 11 f11 fd :=
  fi_of (d := d11) F rfl rfl sc11 m11 (by decide +kernel) (by decide) (by decide +kernel) trivial
theorem fis (c : He.SaysD fa fn K) : AllFi (G K) P 0 P.fs := ⟨(let ⟨fd, F⟩ := def_of c 0 (d := d0) rfl rfl; ⟨fd, fi0 F⟩), (let ⟨fd, F⟩ := def_of c 1 (d := d1) rfl rfl; ⟨fd, fi1 F⟩), (let ⟨fd, F⟩ := def_of c 2 (d := d2) rfl rfl; ⟨fd, fi2 F⟩), (let ⟨fd, F⟩ := def_of c 3 (d := d3) rfl rfl; ⟨fd, fi3 F⟩), (let ⟨fd, F⟩ := def_of c 4 (d := d4) rfl rfl; ⟨fd, fi4 F⟩), (let ⟨fd, F⟩ := def_of c 5 (d := d5) rfl rfl; ⟨fd, fi5 F⟩), (let ⟨fd, F⟩ := def_of c 6 (d := d6) rfl rfl; ⟨fd, fi6 F⟩), (let ⟨fd, F⟩ := def_of c 7 (d := d7) rfl rfl; ⟨fd, fi7 F⟩), (let ⟨fd, F⟩ := def_of c 8 (d := d8) rfl rfl; ⟨fd, fi8 F⟩), (let ⟨fd, F⟩ := def_of c 9 (d := d9) rfl rfl; ⟨fd, fi9 F⟩), (let ⟨fd, F⟩ := def_of c 10 (d := d10) rfl rfl; ⟨fd, fi10 F⟩), (let ⟨fd, F⟩ := def_of c 11 (d := d11) rfl rfl; ⟨fd, fi11 F⟩), trivial⟩
theorem gls (X : K.In h) (N : h.Ns mainGlobals mg) (c : He.SaysD fa fn K) (ex : exB K = true) : AllGl (G K) mg P.gn P.gv := ⟨gl_str X N c "LASTING" "lasting" (mem_more (by simp [more])) (by decide +kernel), trivial⟩
theorem pr (X : K.In h) (N : h.Ns mainGlobals mg) (c : He.SaysD fa fn K) (ex : exB K = true) : PrOk (G K) P mg := prOk_of (ms := []) X N c rfl rfl (by decide +kernel) (gls X N c ex) (fis c)
end
theorem gl0 : P.gv[0]? = some (.str "lasting") := rfl
theorem fs0 : P.fs[0]? = some f0 := rfl
theorem fs1 : P.fs[1]? = some f1 := rfl
theorem fs2 : P.fs[2]? = some f2 := rfl
theorem fs3 : P.fs[3]? = some f3 := rfl
theorem fs4 : P.fs[4]? = some f4 := rfl
theorem fs5 : P.fs[5]? = some f5 := rfl
theorem fs6 : P.fs[6]? = some f6 := rfl
theorem fs7 : P.fs[7]? = some f7 := rfl
theorem fs8 : P.fs[8]? = some f8 := rfl
theorem fs9 : P.fs[9]? = some f9 := rfl
theorem fs10 : P.fs[10]? = some f10 := rfl
theorem fs11 : P.fs[11]? = some f11 := rfl
/-- the row, from what the interpreter says of the law -/
theorem row_of (k : Nat) (hk60 : k ≤ 60) (main : ∀ ns : List Int, ns.length ≤ 63 → ∃ S, calls P (k + 1) 11 [.scr (ns.map Dt.int)] [] = .ok (.bl true) S) : PySem.Challenge.rw_touchkept_k02_acts_on_lives.Holds := by
  w_on; o_law
  refine HandSHeadRun.head_any (r := PySem.W.OpenLaw.row PySem.Challenge.rw_touchkept_k02_acts_on_lives) (q := PySem.W.view (PySem.W.OpenLaw.row PySem.Challenge.rw_touchkept_k02_acts_on_lives).prog [15]) (H := hk) (ob := obK 4 fa fn exB) (M := 1000) (loose := loose) (d := HandSHeadRun.topDef (PySem.W.OpenLaw.row PySem.Challenge.rw_touchkept_k02_acts_on_lives).prog 15) (kwd := []) (obK_eq 4 fa fn exB)
    (by kernel_rfl) (fun s => by kernel_rfl) run (by kernel_rfl) (by kernel_rfl) (by kernel_rfl) (by rfl) (by first | assumption | decide +kernel) (by decide +kernel) ⟨rfl, rfl, rfl, rfl, rfl, by decide +kernel⟩ ?hw ?hc
  case hw => w_witness2
  case hc =>
    refine law_walk (l := PySem.Challenge.rw_touchkept_k02_acts_on_lives) (n := 63) (k := k + 1) (x := "_law_script") rfl (by decide) (by kernel_rfl) (room_law hk60) ?F
    intro w mg fa h Y N hmg0
    obtain ⟨K, KX, c, ex⟩ := Y
    have hmg : mg ("law" : Str) = some (.ref fa) := by
      have e : (HandSHeadRun.topDef (PySem.W.OpenLaw.row PySem.Challenge.rw_touchkept_k02_acts_on_lives).prog 15).name = ("law" : Str) := by kernel_rfl
      rw [← e]
      exact hmg0
    have ok := pr KX N c ex
    obtain ⟨_, hmg2, _⟩ := ok.fn 11 "law" rfl
    obtain rfl : fa = (G K).fn 11 := by
      rw [hmg] at hmg2
      cases hmg2
      rfl
    obtain ⟨fd0, F0⟩ := def_of c 11 (d := d11) rfl rfl
    have b := FunD.bindsA (ps := ["_law_script"]) F0 fun _ _ _ _ _ _ us hl => match us, hl with | [_], _ => rfl
    exact law_end ok KX rfl (fi := f11) rfl (fi11 F0) rfl (fun s v => b s [v] rfl) main
end K02

namespace K02
open PySem PySem.Spec L2 TK
theorem w_draw {k : Nat} {r s : Sto} (h : Srced r s) {m : Int} (h0 : 0 < m) (h1 : m < 2 ^ 200) :
    Wp (calls P (k + 1) 3 [.cell 0, .int m] s) fun d s' => Srced r s' ∧ ∃ j, 0 ≤ j ∧ j < m ∧ d = .int j := by
  obtain ⟨xs, p, t, sd, l, hp, rfl⟩ := h
  refine wp_call rfl rfl ?_
  have hm : m < 1606938044258990275541962092341162602522202993782792835301376 := h1
  have K : ∀ (a : Int) q t' sd' l', 0 ≤ q → Srced r (.lst [.lst (xs.map Dt.int), .int q, .int t', .int sd', .int l'] :: r) ∧ ∃ j, 0 ≤ j ∧ j < m ∧ Dt.int (a % m) = .int j := fun a q t' sd' l' hq => ⟨srced_mk xs hq _ _ _ _, _, Int.emod_nonneg _ (by omega), Int.emod_lt_of_pos _ h0, rfl⟩
  have B : ∀ (a : Int), -18446744073709551616 < a % 2147483587 ∧ a % 2147483587 < 18446744073709551616 := fun a => by omega
  have B2 : ∀ (a : Int), -18446744073709551616 < a % 2147483563 ∧ a % 2147483563 < 18446744073709551616 := fun a => by omega
  have hp1 : 0 ≤ p + 1 := by omega
  have h0' : ¬ m ≤ 0 := by omega
  by_cases c1 : t < m
  · have c1' : ¬ m ≤ t := by omega
    by_cases c2 : p < ((xs.map Dt.int).length : Int)
    · obtain ⟨v, hv⟩ := atI_map xs hp (by simpa using c2)
      by_cases c3 : 1000000000000000000 ≤ v
      · by_cases c4 : m ≤ v
        · simp -implicitDefEqProofs only [K02.fs0, K02.fs1, K02.fs2, K02.fs3, K02.fs4, K02.fs5, K02.fs6, K02.fs7, K02.fs8, K02.fs9, K02.fs10, K02.fs11, K02.f0, K02.f1, K02.f2, K02.f3, K02.f4, K02.f5, K02.f6, K02.f7, K02.f8, K02.f9, K02.f10, K02.f11, K02.h0, K02.h1, K02.h2, K02.h3, K02.h4, K02.h5, K02.h6, K02.h7, K02.h8, K02.h9, K02.h10, K02.h11, K02.gl0, b3, c1, c2, c3, c4, hv, h0, hm, B, B2, start0, List.map_cons, List.map_nil, List.length_cons, List.length_nil, List.replicate, List.cons_append, List.nil_append, List.append_nil, List.getElem?_cons_zero, List.getElem?_cons_succ, exs, ex, ev, evs, evT, evTA, evTO, evO, evI, evAnd, evOr, evC, wp_bind, wp_ok, wp_exc, wp_bad, wp_some, Rs.bind_ok, ixd_c0, ixd_lst, ixd_tup, at0, at1, at2, at3, at4, asB_bl, lt_int, le_int, gt_int, ge_int, eq_int, ne_int, len_lst, len_tup, int_int, min_int, max_int, add_int, sub_int, wp_mul, wp_mod, wp_div, wp_pow, wp_ite, wp_set, wp_mklF, wp_mklT, wp_lenS, wp_tup, wp_addL, wp_addT, wp_addS, setC_c0, ixN5, List.set_cons_zero, List.set_cons_succ, List.length_set, decide_eq_true_eq, retv_rt, retv_nx, tr_bl, tr_int, is_non, isnot_non, ↓reduceIte, Nat.reduceAdd, Nat.reduceLT, Nat.reduceLeDiff, Int.reduceLT, Int.reduceLE, Int.reduceNeg, Int.reduceAdd, Nat.reducePow, Int.reduceToNat, Int.reducePow, true_and, and_true, true_or, or_true, and_self, or_self, if_true, if_false, Bool.false_eq_true, order, pick, Bool.not_true, Bool.not_false, Option.map_some, wp_noexc, Int.reduceEq, nz0, ofO_some, sz, ifF]
          exact K _ _ _ _ _ hp1
        · simp -implicitDefEqProofs only [K02.fs0, K02.fs1, K02.fs2, K02.fs3, K02.fs4, K02.fs5, K02.fs6, K02.fs7, K02.fs8, K02.fs9, K02.fs10, K02.fs11, K02.f0, K02.f1, K02.f2, K02.f3, K02.f4, K02.f5, K02.f6, K02.f7, K02.f8, K02.f9, K02.f10, K02.f11, K02.h0, K02.h1, K02.h2, K02.h3, K02.h4, K02.h5, K02.h6, K02.h7, K02.h8, K02.h9, K02.h10, K02.h11, K02.gl0, b3, c1, c2, c3, c4, hv, h0, hm, B, B2, start0, List.map_cons, List.map_nil, List.length_cons, List.length_nil, List.replicate, List.cons_append, List.nil_append, List.append_nil, List.getElem?_cons_zero, List.getElem?_cons_succ, exs, ex, ev, evs, evT, evTA, evTO, evO, evI, evAnd, evOr, evC, wp_bind, wp_ok, wp_exc, wp_bad, wp_some, Rs.bind_ok, ixd_c0, ixd_lst, ixd_tup, at0, at1, at2, at3, at4, asB_bl, lt_int, le_int, gt_int, ge_int, eq_int, ne_int, len_lst, len_tup, int_int, min_int, max_int, add_int, sub_int, wp_mul, wp_mod, wp_div, wp_pow, wp_ite, wp_set, wp_mklF, wp_mklT, wp_lenS, wp_tup, wp_addL, wp_addT, wp_addS, setC_c0, ixN5, List.set_cons_zero, List.set_cons_succ, List.length_set, decide_eq_true_eq, retv_rt, retv_nx, tr_bl, tr_int, is_non, isnot_non, ↓reduceIte, Nat.reduceAdd, Nat.reduceLT, Nat.reduceLeDiff, Int.reduceLT, Int.reduceLE, Int.reduceNeg, Int.reduceAdd, Nat.reducePow, Int.reduceToNat, Int.reducePow, true_and, and_true, true_or, or_true, and_self, or_self, if_true, if_false, Bool.false_eq_true, order, pick, Bool.not_true, Bool.not_false, Option.map_some, wp_noexc, Int.reduceEq, nz0, ofO_some, sz, ifF]
          exact K _ _ _ _ _ hp1
      · simp -implicitDefEqProofs only [K02.fs0, K02.fs1, K02.fs2, K02.fs3, K02.fs4, K02.fs5, K02.fs6, K02.fs7, K02.fs8, K02.fs9, K02.fs10, K02.fs11, K02.f0, K02.f1, K02.f2, K02.f3, K02.f4, K02.f5, K02.f6, K02.f7, K02.f8, K02.f9, K02.f10, K02.f11, K02.h0, K02.h1, K02.h2, K02.h3, K02.h4, K02.h5, K02.h6, K02.h7, K02.h8, K02.h9, K02.h10, K02.h11, K02.gl0, b3, c1, c2, c3, h0', hv, h0, hm, B, B2, start0, List.map_cons, List.map_nil, List.length_cons, List.length_nil, List.replicate, List.cons_append, List.nil_append, List.append_nil, List.getElem?_cons_zero, List.getElem?_cons_succ, exs, ex, ev, evs, evT, evTA, evTO, evO, evI, evAnd, evOr, evC, wp_bind, wp_ok, wp_exc, wp_bad, wp_some, Rs.bind_ok, ixd_c0, ixd_lst, ixd_tup, at0, at1, at2, at3, at4, asB_bl, lt_int, le_int, gt_int, ge_int, eq_int, ne_int, len_lst, len_tup, int_int, min_int, max_int, add_int, sub_int, wp_mul, wp_mod, wp_div, wp_pow, wp_ite, wp_set, wp_mklF, wp_mklT, wp_lenS, wp_tup, wp_addL, wp_addT, wp_addS, setC_c0, ixN5, List.set_cons_zero, List.set_cons_succ, List.length_set, decide_eq_true_eq, retv_rt, retv_nx, tr_bl, tr_int, is_non, isnot_non, ↓reduceIte, Nat.reduceAdd, Nat.reduceLT, Nat.reduceLeDiff, Int.reduceLT, Int.reduceLE, Int.reduceNeg, Int.reduceAdd, Nat.reducePow, Int.reduceToNat, Int.reducePow, true_and, and_true, true_or, or_true, and_self, or_self, if_true, if_false, Bool.false_eq_true, order, pick, Bool.not_true, Bool.not_false, Option.map_some, wp_noexc, Int.reduceEq, nz0, ofO_some, sz, ifF]
        exact K _ _ _ _ _ hp1
    · simp -implicitDefEqProofs only [K02.fs0, K02.fs1, K02.fs2, K02.fs3, K02.fs4, K02.fs5, K02.fs6, K02.fs7, K02.fs8, K02.fs9, K02.fs10, K02.fs11, K02.f0, K02.f1, K02.f2, K02.f3, K02.f4, K02.f5, K02.f6, K02.f7, K02.f8, K02.f9, K02.f10, K02.f11, K02.h0, K02.h1, K02.h2, K02.h3, K02.h4, K02.h5, K02.h6, K02.h7, K02.h8, K02.h9, K02.h10, K02.h11, K02.gl0, b3, c1, c1', c2, h0, hm, B, B2, start0, List.map_cons, List.map_nil, List.length_cons, List.length_nil, List.replicate, List.cons_append, List.nil_append, List.append_nil, List.getElem?_cons_zero, List.getElem?_cons_succ, exs, ex, ev, evs, evT, evTA, evTO, evO, evI, evAnd, evOr, evC, wp_bind, wp_ok, wp_exc, wp_bad, wp_some, Rs.bind_ok, ixd_c0, ixd_lst, ixd_tup, at0, at1, at2, at3, at4, asB_bl, lt_int, le_int, gt_int, ge_int, eq_int, ne_int, len_lst, len_tup, int_int, min_int, max_int, add_int, sub_int, wp_mul, wp_mod, wp_div, wp_pow, wp_ite, wp_set, wp_mklF, wp_mklT, wp_lenS, wp_tup, wp_addL, wp_addT, wp_addS, setC_c0, ixN5, List.set_cons_zero, List.set_cons_succ, List.length_set, decide_eq_true_eq, retv_rt, retv_nx, tr_bl, tr_int, is_non, isnot_non, ↓reduceIte, Nat.reduceAdd, Nat.reduceLT, Nat.reduceLeDiff, Int.reduceLT, Int.reduceLE, Int.reduceNeg, Int.reduceAdd, Nat.reducePow, Int.reduceToNat, Int.reducePow, true_and, and_true, true_or, or_true, and_self, or_self, if_true, if_false, Bool.false_eq_true, order, pick, Bool.not_true, Bool.not_false, Option.map_some, wp_noexc, Int.reduceEq, nz0, ofO_some, sz, ifF]
      exact K _ _ _ _ _ hp
  · have c1' : m ≤ t := by omega
    simp -implicitDefEqProofs only [K02.fs0, K02.fs1, K02.fs2, K02.fs3, K02.fs4, K02.fs5, K02.fs6, K02.fs7, K02.fs8, K02.fs9, K02.fs10, K02.fs11, K02.f0, K02.f1, K02.f2, K02.f3, K02.f4, K02.f5, K02.f6, K02.f7, K02.f8, K02.f9, K02.f10, K02.f11, K02.h0, K02.h1, K02.h2, K02.h3, K02.h4, K02.h5, K02.h6, K02.h7, K02.h8, K02.h9, K02.h10, K02.h11, K02.gl0, b3, c1, c1', h0, hm, B, B2, start0, List.map_cons, List.map_nil, List.length_cons, List.length_nil, List.replicate, List.cons_append, List.nil_append, List.append_nil, List.getElem?_cons_zero, List.getElem?_cons_succ, exs, ex, ev, evs, evT, evTA, evTO, evO, evI, evAnd, evOr, evC, wp_bind, wp_ok, wp_exc, wp_bad, wp_some, Rs.bind_ok, ixd_c0, ixd_lst, ixd_tup, at0, at1, at2, at3, at4, asB_bl, lt_int, le_int, gt_int, ge_int, eq_int, ne_int, len_lst, len_tup, int_int, min_int, max_int, add_int, sub_int, wp_mul, wp_mod, wp_div, wp_pow, wp_ite, wp_set, wp_mklF, wp_mklT, wp_lenS, wp_tup, wp_addL, wp_addT, wp_addS, setC_c0, ixN5, List.set_cons_zero, List.set_cons_succ, List.length_set, decide_eq_true_eq, retv_rt, retv_nx, tr_bl, tr_int, is_non, isnot_non, ↓reduceIte, Nat.reduceAdd, Nat.reduceLT, Nat.reduceLeDiff, Int.reduceLT, Int.reduceLE, Int.reduceNeg, Int.reduceAdd, Nat.reducePow, Int.reduceToNat, Int.reducePow, true_and, and_true, true_or, or_true, and_self, or_self, if_true, if_false, Bool.false_eq_true, order, pick, Bool.not_true, Bool.not_false, Option.map_some, wp_noexc, Int.reduceEq, nz0, ofO_some, sz, ifF]
    exact K _ _ _ _ _ hp
theorem w_source {k : Nat} (ns : List Int) : Wp (calls P (k + 1) 2 [.scr (ns.map Dt.int)] []) fun d s' => d = .cell 0 ∧ Srced [] s' := by
  refine wp_call rfl rfl ?_
  obtain ⟨ys, hy⟩ := cut_ints ns none (some 63)
  simp -implicitDefEqProofs only [K02.fs0, K02.fs1, K02.fs2, K02.fs3, K02.fs4, K02.fs5, K02.fs6, K02.fs7, K02.fs8, K02.fs9, K02.fs10, K02.fs11, K02.f0, K02.f1, K02.f2, K02.f3, K02.f4, K02.f5, K02.f6, K02.f7, K02.f8, K02.f9, K02.f10, K02.f11, K02.h0, K02.h1, K02.h2, K02.h3, K02.h4, K02.h5, K02.h6, K02.h7, K02.h8, K02.h9, K02.h10, K02.h11, K02.gl0, b2, slcd, itemsD, hy, start0, List.map_cons, List.map_nil, List.length_cons, List.length_nil, List.replicate, List.cons_append, List.nil_append, List.append_nil, List.getElem?_cons_zero, List.getElem?_cons_succ, exs, ex, ev, evs, evT, evTA, evTO, evO, evI, evAnd, evOr, evC, wp_bind, wp_ok, wp_exc, wp_bad, wp_some, Rs.bind_ok, ixd_c0, ixd_lst, ixd_tup, at0, at1, at2, at3, at4, asB_bl, lt_int, le_int, gt_int, ge_int, eq_int, ne_int, len_lst, len_tup, int_int, min_int, max_int, add_int, sub_int, wp_mul, wp_mod, wp_div, wp_pow, wp_ite, wp_set, wp_mklF, wp_mklT, wp_lenS, wp_tup, wp_addL, wp_addT, wp_addS, setC_c0, ixN5, List.set_cons_zero, List.set_cons_succ, List.length_set, decide_eq_true_eq, retv_rt, retv_nx, tr_bl, tr_int, is_non, isnot_non, ↓reduceIte, Nat.reduceAdd, Nat.reduceLT, Nat.reduceLeDiff, Int.reduceLT, Int.reduceLE, Int.reduceNeg, Int.reduceAdd, Nat.reducePow, Int.reduceToNat, Int.reducePow, true_and, and_true, true_or, or_true, and_self, or_self, if_true, if_false, Bool.false_eq_true, order, pick, Bool.not_true, Bool.not_false, Option.map_some, wp_noexc, Int.reduceEq, nz0, ofO_some, sz, ifF]
  refine wp_loop (fun ρ s => s = [] ∧ ∃ sd c, ρ = [some (.scr (ns.map Dt.int)), some (.int sd), c]) _ ⟨rfl, _, _, rfl⟩ ?_ ?_
  · rintro d hd ρ s ⟨rfl, sd, c, rfl⟩
    obtain ⟨v, _, rfl⟩ := List.mem_map.mp hd
    refine ⟨_, rfl, ?_⟩
    (try simp -implicitDefEqProofs only [K02.fs0, K02.fs1, K02.fs2, K02.fs3, K02.fs4, K02.fs5, K02.fs6, K02.fs7, K02.fs8, K02.fs9, K02.fs10, K02.fs11, K02.f0, K02.f1, K02.f2, K02.f3, K02.f4, K02.f5, K02.f6, K02.f7, K02.f8, K02.f9, K02.f10, K02.f11, K02.h0, K02.h1, K02.h2, K02.h3, K02.h4, K02.h5, K02.h6, K02.h7, K02.h8, K02.h9, K02.h10, K02.h11, K02.gl0, start0, List.map_cons, List.map_nil, List.length_cons, List.length_nil, List.replicate, List.cons_append, List.nil_append, List.append_nil, List.getElem?_cons_zero, List.getElem?_cons_succ, exs, ex, ev, evs, evT, evTA, evTO, evO, evI, evAnd, evOr, evC, wp_bind, wp_ok, wp_exc, wp_bad, wp_some, Rs.bind_ok, ixd_c0, ixd_lst, ixd_tup, at0, at1, at2, at3, at4, asB_bl, lt_int, le_int, gt_int, ge_int, eq_int, ne_int, len_lst, len_tup, int_int, min_int, max_int, add_int, sub_int, wp_mul, wp_mod, wp_div, wp_pow, wp_ite, wp_set, wp_mklF, wp_mklT, wp_lenS, wp_tup, wp_addL, wp_addT, wp_addS, setC_c0, ixN5, List.set_cons_zero, List.set_cons_succ, List.length_set, decide_eq_true_eq, retv_rt, retv_nx, tr_bl, tr_int, is_non, isnot_non, ↓reduceIte, Nat.reduceAdd, Nat.reduceLT, Nat.reduceLeDiff, Int.reduceLT, Int.reduceLE, Int.reduceNeg, Int.reduceAdd, Nat.reducePow, Int.reduceToNat, Int.reducePow, true_and, and_true, true_or, or_true, and_self, or_self, if_true, if_false, Bool.false_eq_true, order, pick, Bool.not_true, Bool.not_false, Option.map_some, wp_noexc, Int.reduceEq, nz0, ofO_some, sz, ifF])
    exact ⟨_, _, rfl⟩
  · rintro ρ s ⟨rfl, sd, c, rfl⟩
    simp -implicitDefEqProofs only [K02.fs0, K02.fs1, K02.fs2, K02.fs3, K02.fs4, K02.fs5, K02.fs6, K02.fs7, K02.fs8, K02.fs9, K02.fs10, K02.fs11, K02.f0, K02.f1, K02.f2, K02.f3, K02.f4, K02.f5, K02.f6, K02.f7, K02.f8, K02.f9, K02.f10, K02.f11, K02.h0, K02.h1, K02.h2, K02.h3, K02.h4, K02.h5, K02.h6, K02.h7, K02.h8, K02.h9, K02.h10, K02.h11, K02.gl0, slcd, hy, bfd, seqv_lst, start0, List.map_cons, List.map_nil, List.length_cons, List.length_nil, List.replicate, List.cons_append, List.nil_append, List.append_nil, List.getElem?_cons_zero, List.getElem?_cons_succ, exs, ex, ev, evs, evT, evTA, evTO, evO, evI, evAnd, evOr, evC, wp_bind, wp_ok, wp_exc, wp_bad, wp_some, Rs.bind_ok, ixd_c0, ixd_lst, ixd_tup, at0, at1, at2, at3, at4, asB_bl, lt_int, le_int, gt_int, ge_int, eq_int, ne_int, len_lst, len_tup, int_int, min_int, max_int, add_int, sub_int, wp_mul, wp_mod, wp_div, wp_pow, wp_ite, wp_set, wp_mklF, wp_mklT, wp_lenS, wp_tup, wp_addL, wp_addT, wp_addS, setC_c0, ixN5, List.set_cons_zero, List.set_cons_succ, List.length_set, decide_eq_true_eq, retv_rt, retv_nx, tr_bl, tr_int, is_non, isnot_non, ↓reduceIte, Nat.reduceAdd, Nat.reduceLT, Nat.reduceLeDiff, Int.reduceLT, Int.reduceLE, Int.reduceNeg, Int.reduceAdd, Nat.reducePow, Int.reduceToNat, Int.reducePow, true_and, and_true, true_or, or_true, and_self, or_self, if_true, if_false, Bool.false_eq_true, order, pick, Bool.not_true, Bool.not_false, Option.map_some, wp_noexc, Int.reduceEq, nz0, ofO_some, sz, ifF]
    exact srced_mk ys (Int.le_refl 0) _ _ _ _
theorem w_of {k : Nat} {r s : Sto} (h : Srced r s) {xs : List Dt} (h0 : xs ≠ []) (h1 : xs.length < 2 ^ 24) :
    Wp (calls P (k + 2) 4 [.cell 0, .lst xs] s) fun d s' => Srced r s' ∧ d ∈ xs := by
  refine wp_call rfl rfl ?_
  have hp : 0 < xs.length := List.length_pos_iff.mpr h0
  simp -implicitDefEqProofs only [K02.fs0, K02.fs1, K02.fs2, K02.fs3, K02.fs4, K02.fs5, K02.fs6, K02.fs7, K02.fs8, K02.fs9, K02.fs10, K02.fs11, K02.f0, K02.f1, K02.f2, K02.f3, K02.f4, K02.f5, K02.f6, K02.f7, K02.f8, K02.f9, K02.f10, K02.f11, K02.h0, K02.h1, K02.h2, K02.h3, K02.h4, K02.h5, K02.h6, K02.h7, K02.h8, K02.h9, K02.h10, K02.h11, K02.gl0, b4, start0, List.map_cons, List.map_nil, List.length_cons, List.length_nil, List.replicate, List.cons_append, List.nil_append, List.append_nil, List.getElem?_cons_zero, List.getElem?_cons_succ, exs, ex, ev, evs, evT, evTA, evTO, evO, evI, evAnd, evOr, evC, wp_bind, wp_ok, wp_exc, wp_bad, wp_some, Rs.bind_ok, ixd_c0, ixd_lst, ixd_tup, at0, at1, at2, at3, at4, asB_bl, lt_int, le_int, gt_int, ge_int, eq_int, ne_int, len_lst, len_tup, int_int, min_int, max_int, add_int, sub_int, wp_mul, wp_mod, wp_div, wp_pow, wp_ite, wp_set, wp_mklF, wp_mklT, wp_lenS, wp_tup, wp_addL, wp_addT, wp_addS, setC_c0, ixN5, List.set_cons_zero, List.set_cons_succ, List.length_set, decide_eq_true_eq, retv_rt, retv_nx, tr_bl, tr_int, is_non, isnot_non, ↓reduceIte, Nat.reduceAdd, Nat.reduceLT, Nat.reduceLeDiff, Int.reduceLT, Int.reduceLE, Int.reduceNeg, Int.reduceAdd, Nat.reducePow, Int.reduceToNat, Int.reducePow, true_and, and_true, true_or, or_true, and_self, or_self, if_true, if_false, Bool.false_eq_true, order, pick, Bool.not_true, Bool.not_false, Option.map_some, wp_noexc, Int.reduceEq, nz0, ofO_some, sz, ifF]
  refine (w_draw h (by omega) (by omega)).mono ?_
  rintro d s' ⟨hs, j, j0, j1, rfl⟩
  obtain ⟨d, hd, e⟩ := atI_mem xs j0 j1
  simp -implicitDefEqProofs only [K02.fs0, K02.fs1, K02.fs2, K02.fs3, K02.fs4, K02.fs5, K02.fs6, K02.fs7, K02.fs8, K02.fs9, K02.fs10, K02.fs11, K02.f0, K02.f1, K02.f2, K02.f3, K02.f4, K02.f5, K02.f6, K02.f7, K02.f8, K02.f9, K02.f10, K02.f11, K02.h0, K02.h1, K02.h2, K02.h3, K02.h4, K02.h5, K02.h6, K02.h7, K02.h8, K02.h9, K02.h10, K02.h11, K02.gl0, e, start0, List.map_cons, List.map_nil, List.length_cons, List.length_nil, List.replicate, List.cons_append, List.nil_append, List.append_nil, List.getElem?_cons_zero, List.getElem?_cons_succ, exs, ex, ev, evs, evT, evTA, evTO, evO, evI, evAnd, evOr, evC, wp_bind, wp_ok, wp_exc, wp_bad, wp_some, Rs.bind_ok, ixd_c0, ixd_lst, ixd_tup, at0, at1, at2, at3, at4, asB_bl, lt_int, le_int, gt_int, ge_int, eq_int, ne_int, len_lst, len_tup, int_int, min_int, max_int, add_int, sub_int, wp_mul, wp_mod, wp_div, wp_pow, wp_ite, wp_set, wp_mklF, wp_mklT, wp_lenS, wp_tup, wp_addL, wp_addT, wp_addS, setC_c0, ixN5, List.set_cons_zero, List.set_cons_succ, List.length_set, decide_eq_true_eq, retv_rt, retv_nx, tr_bl, tr_int, is_non, isnot_non, ↓reduceIte, Nat.reduceAdd, Nat.reduceLT, Nat.reduceLeDiff, Int.reduceLT, Int.reduceLE, Int.reduceNeg, Int.reduceAdd, Nat.reducePow, Int.reduceToNat, Int.reducePow, true_and, and_true, true_or, or_true, and_self, or_self, if_true, if_false, Bool.false_eq_true, order, pick, Bool.not_true, Bool.not_false, Option.map_some, wp_noexc, Int.reduceEq, nz0, ofO_some, sz, ifF]
  exact ⟨hs, hd⟩
theorem c_same {k : Nat} {d : Dt} {p : PyData} {s : Sto} (h : pyv s d = some p) (g : p.showable = true ∧ p.hasDict = false ∧ p.shown.length ≤ sizeLine ∧ p.depth ≤ 64) : calls P (k + 1) 5 [d, d] s = .ok (.bl true) s := by
  refine eq_of_wp (wp_call rfl rfl ?_)
  have e := repr_eq h g
  have e2 := eq_str p.shown p.shown s
  simp -implicitDefEqProofs only [K02.fs0, K02.fs1, K02.fs2, K02.fs3, K02.fs4, K02.fs5, K02.fs6, K02.fs7, K02.fs8, K02.fs9, K02.fs10, K02.fs11, K02.f0, K02.f1, K02.f2, K02.f3, K02.f4, K02.f5, K02.f6, K02.f7, K02.f8, K02.f9, K02.f10, K02.f11, K02.h0, K02.h1, K02.h2, K02.h3, K02.h4, K02.h5, K02.h6, K02.h7, K02.h8, K02.h9, K02.h10, K02.h11, K02.gl0, b5, wp_eq e, wp_eq e2, beq_self_eq_true, start0, List.map_cons, List.map_nil, List.length_cons, List.length_nil, List.replicate, List.cons_append, List.nil_append, List.append_nil, List.getElem?_cons_zero, List.getElem?_cons_succ, exs, ex, ev, evs, evT, evTA, evTO, evO, evI, evAnd, evOr, evC, wp_bind, wp_ok, wp_exc, wp_bad, wp_some, Rs.bind_ok, ixd_c0, ixd_lst, ixd_tup, at0, at1, at2, at3, at4, asB_bl, lt_int, le_int, gt_int, ge_int, eq_int, ne_int, len_lst, len_tup, int_int, min_int, max_int, add_int, sub_int, wp_mul, wp_mod, wp_div, wp_pow, wp_ite, wp_set, wp_mklF, wp_mklT, wp_lenS, wp_tup, wp_addL, wp_addT, wp_addS, setC_c0, ixN5, List.set_cons_zero, List.set_cons_succ, List.length_set, decide_eq_true_eq, retv_rt, retv_nx, tr_bl, tr_int, is_non, isnot_non, ↓reduceIte, Nat.reduceAdd, Nat.reduceLT, Nat.reduceLeDiff, Int.reduceLT, Int.reduceLE, Int.reduceNeg, Int.reduceAdd, Nat.reducePow, Int.reduceToNat, Int.reducePow, true_and, and_true, true_or, or_true, and_self, or_self, if_true, if_false, Bool.false_eq_true, order, pick, Bool.not_true, Bool.not_false, Option.map_some, wp_noexc, Int.reduceEq, nz0, ofO_some, sz, ifF]
theorem eqq_0_0 (s : Sto) : cmpop .Eq (.str "keep") (.str "drop") s = .ok (.bl false) s := (eq_str "keep" "drop" s).trans (congrArg (fun b => Rs.ok (Dt.bl b) s) (by decide +kernel))
theorem eqq_0_1 (s : Sto) : cmpop .Eq (.str "keep") (.str "lasting") s = .ok (.bl false) s := (eq_str "keep" "lasting" s).trans (congrArg (fun b => Rs.ok (Dt.bl b) s) (by decide +kernel))
theorem eqq_0_2 (s : Sto) : cmpop .Eq (.str "keep") (.str "set") s = .ok (.bl false) s := (eq_str "keep" "set" s).trans (congrArg (fun b => Rs.ok (Dt.bl b) s) (by decide +kernel))
theorem eqq_0_3 (s : Sto) : cmpop .Eq (.str "keep") (.str "least") s = .ok (.bl false) s := (eq_str "keep" "least" s).trans (congrArg (fun b => Rs.ok (Dt.bl b) s) (by decide +kernel))
theorem eqq_0_4 (s : Sto) : cmpop .Eq (.str "keep") (.str "most") s = .ok (.bl false) s := (eq_str "keep" "most" s).trans (congrArg (fun b => Rs.ok (Dt.bl b) s) (by decide +kernel))
theorem eqq_0_5 (s : Sto) : cmpop .Eq (.str "keep") (.str "more") s = .ok (.bl false) s := (eq_str "keep" "more" s).trans (congrArg (fun b => Rs.ok (Dt.bl b) s) (by decide +kernel))
theorem eqq_1_0 (s : Sto) : cmpop .Eq (.str "lasting") (.str "drop") s = .ok (.bl false) s := (eq_str "lasting" "drop" s).trans (congrArg (fun b => Rs.ok (Dt.bl b) s) (by decide +kernel))
theorem eqq_1_1 (s : Sto) : cmpop .Eq (.str "lasting") (.str "lasting") s = .ok (.bl true) s := (eq_str "lasting" "lasting" s).trans (congrArg (fun b => Rs.ok (Dt.bl b) s) (by decide +kernel))
theorem eqq_1_2 (s : Sto) : cmpop .Eq (.str "lasting") (.str "set") s = .ok (.bl false) s := (eq_str "lasting" "set" s).trans (congrArg (fun b => Rs.ok (Dt.bl b) s) (by decide +kernel))
theorem eqq_1_3 (s : Sto) : cmpop .Eq (.str "lasting") (.str "least") s = .ok (.bl false) s := (eq_str "lasting" "least" s).trans (congrArg (fun b => Rs.ok (Dt.bl b) s) (by decide +kernel))
theorem eqq_1_4 (s : Sto) : cmpop .Eq (.str "lasting") (.str "most") s = .ok (.bl false) s := (eq_str "lasting" "most" s).trans (congrArg (fun b => Rs.ok (Dt.bl b) s) (by decide +kernel))
theorem eqq_1_5 (s : Sto) : cmpop .Eq (.str "lasting") (.str "more") s = .ok (.bl false) s := (eq_str "lasting" "more" s).trans (congrArg (fun b => Rs.ok (Dt.bl b) s) (by decide +kernel))
theorem eqq_2_0 (s : Sto) : cmpop .Eq (.str "drop") (.str "drop") s = .ok (.bl true) s := (eq_str "drop" "drop" s).trans (congrArg (fun b => Rs.ok (Dt.bl b) s) (by decide +kernel))
theorem eqq_2_1 (s : Sto) : cmpop .Eq (.str "drop") (.str "lasting") s = .ok (.bl false) s := (eq_str "drop" "lasting" s).trans (congrArg (fun b => Rs.ok (Dt.bl b) s) (by decide +kernel))
theorem eqq_2_2 (s : Sto) : cmpop .Eq (.str "drop") (.str "set") s = .ok (.bl false) s := (eq_str "drop" "set" s).trans (congrArg (fun b => Rs.ok (Dt.bl b) s) (by decide +kernel))
theorem eqq_2_3 (s : Sto) : cmpop .Eq (.str "drop") (.str "least") s = .ok (.bl false) s := (eq_str "drop" "least" s).trans (congrArg (fun b => Rs.ok (Dt.bl b) s) (by decide +kernel))
theorem eqq_2_4 (s : Sto) : cmpop .Eq (.str "drop") (.str "most") s = .ok (.bl false) s := (eq_str "drop" "most" s).trans (congrArg (fun b => Rs.ok (Dt.bl b) s) (by decide +kernel))
theorem eqq_2_5 (s : Sto) : cmpop .Eq (.str "drop") (.str "more") s = .ok (.bl false) s := (eq_str "drop" "more" s).trans (congrArg (fun b => Rs.ok (Dt.bl b) s) (by decide +kernel))
theorem eqq_3_0 (s : Sto) : cmpop .Eq (.str "set") (.str "drop") s = .ok (.bl false) s := (eq_str "set" "drop" s).trans (congrArg (fun b => Rs.ok (Dt.bl b) s) (by decide +kernel))
theorem eqq_3_1 (s : Sto) : cmpop .Eq (.str "set") (.str "lasting") s = .ok (.bl false) s := (eq_str "set" "lasting" s).trans (congrArg (fun b => Rs.ok (Dt.bl b) s) (by decide +kernel))
theorem eqq_3_2 (s : Sto) : cmpop .Eq (.str "set") (.str "set") s = .ok (.bl true) s := (eq_str "set" "set" s).trans (congrArg (fun b => Rs.ok (Dt.bl b) s) (by decide +kernel))
theorem eqq_3_3 (s : Sto) : cmpop .Eq (.str "set") (.str "least") s = .ok (.bl false) s := (eq_str "set" "least" s).trans (congrArg (fun b => Rs.ok (Dt.bl b) s) (by decide +kernel))
theorem eqq_3_4 (s : Sto) : cmpop .Eq (.str "set") (.str "most") s = .ok (.bl false) s := (eq_str "set" "most" s).trans (congrArg (fun b => Rs.ok (Dt.bl b) s) (by decide +kernel))
theorem eqq_3_5 (s : Sto) : cmpop .Eq (.str "set") (.str "more") s = .ok (.bl false) s := (eq_str "set" "more" s).trans (congrArg (fun b => Rs.ok (Dt.bl b) s) (by decide +kernel))
theorem eqq_4_0 (s : Sto) : cmpop .Eq (.str "least") (.str "drop") s = .ok (.bl false) s := (eq_str "least" "drop" s).trans (congrArg (fun b => Rs.ok (Dt.bl b) s) (by decide +kernel))
theorem eqq_4_1 (s : Sto) : cmpop .Eq (.str "least") (.str "lasting") s = .ok (.bl false) s := (eq_str "least" "lasting" s).trans (congrArg (fun b => Rs.ok (Dt.bl b) s) (by decide +kernel))
theorem eqq_4_2 (s : Sto) : cmpop .Eq (.str "least") (.str "set") s = .ok (.bl false) s := (eq_str "least" "set" s).trans (congrArg (fun b => Rs.ok (Dt.bl b) s) (by decide +kernel))
theorem eqq_4_3 (s : Sto) : cmpop .Eq (.str "least") (.str "least") s = .ok (.bl true) s := (eq_str "least" "least" s).trans (congrArg (fun b => Rs.ok (Dt.bl b) s) (by decide +kernel))
theorem eqq_4_4 (s : Sto) : cmpop .Eq (.str "least") (.str "most") s = .ok (.bl false) s := (eq_str "least" "most" s).trans (congrArg (fun b => Rs.ok (Dt.bl b) s) (by decide +kernel))
theorem eqq_4_5 (s : Sto) : cmpop .Eq (.str "least") (.str "more") s = .ok (.bl false) s := (eq_str "least" "more" s).trans (congrArg (fun b => Rs.ok (Dt.bl b) s) (by decide +kernel))
theorem eqq_5_0 (s : Sto) : cmpop .Eq (.str "most") (.str "drop") s = .ok (.bl false) s := (eq_str "most" "drop" s).trans (congrArg (fun b => Rs.ok (Dt.bl b) s) (by decide +kernel))
theorem eqq_5_1 (s : Sto) : cmpop .Eq (.str "most") (.str "lasting") s = .ok (.bl false) s := (eq_str "most" "lasting" s).trans (congrArg (fun b => Rs.ok (Dt.bl b) s) (by decide +kernel))
theorem eqq_5_2 (s : Sto) : cmpop .Eq (.str "most") (.str "set") s = .ok (.bl false) s := (eq_str "most" "set" s).trans (congrArg (fun b => Rs.ok (Dt.bl b) s) (by decide +kernel))
theorem eqq_5_3 (s : Sto) : cmpop .Eq (.str "most") (.str "least") s = .ok (.bl false) s := (eq_str "most" "least" s).trans (congrArg (fun b => Rs.ok (Dt.bl b) s) (by decide +kernel))
theorem eqq_5_4 (s : Sto) : cmpop .Eq (.str "most") (.str "most") s = .ok (.bl true) s := (eq_str "most" "most" s).trans (congrArg (fun b => Rs.ok (Dt.bl b) s) (by decide +kernel))
theorem eqq_5_5 (s : Sto) : cmpop .Eq (.str "most") (.str "more") s = .ok (.bl false) s := (eq_str "most" "more" s).trans (congrArg (fun b => Rs.ok (Dt.bl b) s) (by decide +kernel))
theorem eqq_6_0 (s : Sto) : cmpop .Eq (.str "more") (.str "drop") s = .ok (.bl false) s := (eq_str "more" "drop" s).trans (congrArg (fun b => Rs.ok (Dt.bl b) s) (by decide +kernel))
theorem eqq_6_1 (s : Sto) : cmpop .Eq (.str "more") (.str "lasting") s = .ok (.bl false) s := (eq_str "more" "lasting" s).trans (congrArg (fun b => Rs.ok (Dt.bl b) s) (by decide +kernel))
theorem eqq_6_2 (s : Sto) : cmpop .Eq (.str "more") (.str "set") s = .ok (.bl false) s := (eq_str "more" "set" s).trans (congrArg (fun b => Rs.ok (Dt.bl b) s) (by decide +kernel))
theorem eqq_6_3 (s : Sto) : cmpop .Eq (.str "more") (.str "least") s = .ok (.bl false) s := (eq_str "more" "least" s).trans (congrArg (fun b => Rs.ok (Dt.bl b) s) (by decide +kernel))
theorem eqq_6_4 (s : Sto) : cmpop .Eq (.str "more") (.str "most") s = .ok (.bl false) s := (eq_str "more" "most" s).trans (congrArg (fun b => Rs.ok (Dt.bl b) s) (by decide +kernel))
theorem eqq_6_5 (s : Sto) : cmpop .Eq (.str "more") (.str "more") s = .ok (.bl true) s := (eq_str "more" "more" s).trans (congrArg (fun b => Rs.ok (Dt.bl b) s) (by decide +kernel))
theorem in_sm_0 (s : Sto) : cmpop .In (.str "keep") (.tup [.str "set", .str "most"]) s = .ok (.bl false) s := (inT "keep" s ["set", "most"]).trans (congrArg (fun b => Rs.ok (Dt.bl b) s) (by decide +kernel))
theorem in_sm_1 (s : Sto) : cmpop .In (.str "lasting") (.tup [.str "set", .str "most"]) s = .ok (.bl false) s := (inT "lasting" s ["set", "most"]).trans (congrArg (fun b => Rs.ok (Dt.bl b) s) (by decide +kernel))
theorem in_sm_2 (s : Sto) : cmpop .In (.str "drop") (.tup [.str "set", .str "most"]) s = .ok (.bl false) s := (inT "drop" s ["set", "most"]).trans (congrArg (fun b => Rs.ok (Dt.bl b) s) (by decide +kernel))
theorem in_sm_3 (s : Sto) : cmpop .In (.str "set") (.tup [.str "set", .str "most"]) s = .ok (.bl true) s := (inT "set" s ["set", "most"]).trans (congrArg (fun b => Rs.ok (Dt.bl b) s) (by decide +kernel))
theorem in_sm_4 (s : Sto) : cmpop .In (.str "least") (.tup [.str "set", .str "most"]) s = .ok (.bl false) s := (inT "least" s ["set", "most"]).trans (congrArg (fun b => Rs.ok (Dt.bl b) s) (by decide +kernel))
theorem in_sm_5 (s : Sto) : cmpop .In (.str "most") (.tup [.str "set", .str "most"]) s = .ok (.bl true) s := (inT "most" s ["set", "most"]).trans (congrArg (fun b => Rs.ok (Dt.bl b) s) (by decide +kernel))
theorem in_sm_6 (s : Sto) : cmpop .In (.str "more") (.tup [.str "set", .str "most"]) s = .ok (.bl false) s := (inT "more" s ["set", "most"]).trans (congrArg (fun b => Rs.ok (Dt.bl b) s) (by decide +kernel))
theorem in_sml_0 (s : Sto) : cmpop .In (.str "keep") (.lst [.str "set", .str "most"]) s = .ok (.bl false) s := (inL (pd_str (n := 0) (by decide +kernel)).pl s ["set", "most"] (by decide +kernel)).trans (congrArg (fun b => Rs.ok (Dt.bl b) s) (by decide +kernel))
theorem in_sml_1 (s : Sto) : cmpop .In (.str "lasting") (.lst [.str "set", .str "most"]) s = .ok (.bl false) s := (inL (pd_str (n := 0) (by decide +kernel)).pl s ["set", "most"] (by decide +kernel)).trans (congrArg (fun b => Rs.ok (Dt.bl b) s) (by decide +kernel))
theorem in_sml_2 (s : Sto) : cmpop .In (.str "drop") (.lst [.str "set", .str "most"]) s = .ok (.bl false) s := (inL (pd_str (n := 0) (by decide +kernel)).pl s ["set", "most"] (by decide +kernel)).trans (congrArg (fun b => Rs.ok (Dt.bl b) s) (by decide +kernel))
theorem in_sml_3 (s : Sto) : cmpop .In (.str "set") (.lst [.str "set", .str "most"]) s = .ok (.bl true) s := (inL (pd_str (n := 0) (by decide +kernel)).pl s ["set", "most"] (by decide +kernel)).trans (congrArg (fun b => Rs.ok (Dt.bl b) s) (by decide +kernel))
theorem in_sml_4 (s : Sto) : cmpop .In (.str "least") (.lst [.str "set", .str "most"]) s = .ok (.bl false) s := (inL (pd_str (n := 0) (by decide +kernel)).pl s ["set", "most"] (by decide +kernel)).trans (congrArg (fun b => Rs.ok (Dt.bl b) s) (by decide +kernel))
theorem in_sml_5 (s : Sto) : cmpop .In (.str "most") (.lst [.str "set", .str "most"]) s = .ok (.bl true) s := (inL (pd_str (n := 0) (by decide +kernel)).pl s ["set", "most"] (by decide +kernel)).trans (congrArg (fun b => Rs.ok (Dt.bl b) s) (by decide +kernel))
theorem in_sml_6 (s : Sto) : cmpop .In (.str "more") (.lst [.str "set", .str "most"]) s = .ok (.bl false) s := (inL (pd_str (n := 0) (by decide +kernel)).pl s ["set", "most"] (by decide +kernel)).trans (congrArg (fun b => Rs.ok (Dt.bl b) s) (by decide +kernel))
theorem in_kld_0 (s : Sto) : cmpop .In (.str "keep") (.lst [.str "keep", .str "lasting", .str "drop"]) s = .ok (.bl true) s := (inL (pd_str (n := 0) (by decide +kernel)).pl s ["keep", "lasting", "drop"] (by decide +kernel)).trans (congrArg (fun b => Rs.ok (Dt.bl b) s) (by decide +kernel))
theorem in_kld_1 (s : Sto) : cmpop .In (.str "lasting") (.lst [.str "keep", .str "lasting", .str "drop"]) s = .ok (.bl true) s := (inL (pd_str (n := 0) (by decide +kernel)).pl s ["keep", "lasting", "drop"] (by decide +kernel)).trans (congrArg (fun b => Rs.ok (Dt.bl b) s) (by decide +kernel))
theorem in_kld_2 (s : Sto) : cmpop .In (.str "drop") (.lst [.str "keep", .str "lasting", .str "drop"]) s = .ok (.bl true) s := (inL (pd_str (n := 0) (by decide +kernel)).pl s ["keep", "lasting", "drop"] (by decide +kernel)).trans (congrArg (fun b => Rs.ok (Dt.bl b) s) (by decide +kernel))
theorem in_kld_3 (s : Sto) : cmpop .In (.str "set") (.lst [.str "keep", .str "lasting", .str "drop"]) s = .ok (.bl false) s := (inL (pd_str (n := 0) (by decide +kernel)).pl s ["keep", "lasting", "drop"] (by decide +kernel)).trans (congrArg (fun b => Rs.ok (Dt.bl b) s) (by decide +kernel))
theorem in_kld_4 (s : Sto) : cmpop .In (.str "least") (.lst [.str "keep", .str "lasting", .str "drop"]) s = .ok (.bl false) s := (inL (pd_str (n := 0) (by decide +kernel)).pl s ["keep", "lasting", "drop"] (by decide +kernel)).trans (congrArg (fun b => Rs.ok (Dt.bl b) s) (by decide +kernel))
theorem in_kld_5 (s : Sto) : cmpop .In (.str "most") (.lst [.str "keep", .str "lasting", .str "drop"]) s = .ok (.bl false) s := (inL (pd_str (n := 0) (by decide +kernel)).pl s ["keep", "lasting", "drop"] (by decide +kernel)).trans (congrArg (fun b => Rs.ok (Dt.bl b) s) (by decide +kernel))
theorem in_kld_6 (s : Sto) : cmpop .In (.str "more") (.lst [.str "keep", .str "lasting", .str "drop"]) s = .ok (.bl false) s := (inL (pd_str (n := 0) (by decide +kernel)).pl s ["keep", "lasting", "drop"] (by decide +kernel)).trans (congrArg (fun b => Rs.ok (Dt.bl b) s) (by decide +kernel))
theorem w_number {k : Nat} {r s : Sto} (h : Srced r s) {c : Int} (h0 : 1 ≤ c) (h1 : c < 2 ^ 200) :
    Wp (calls P (k + 2) 6 [.cell 0, .int c] s) fun d s' => Srced r s' ∧ ∃ n, 1 ≤ n ∧ n ≤ c ∧ d = .int n := by
  refine wp_call rfl rfl ?_
  simp -implicitDefEqProofs only [K02.fs0, K02.fs1, K02.fs2, K02.fs3, K02.fs4, K02.fs5, K02.fs6, K02.fs7, K02.fs8, K02.fs9, K02.fs10, K02.fs11, K02.f0, K02.f1, K02.f2, K02.f3, K02.f4, K02.f5, K02.f6, K02.f7, K02.f8, K02.f9, K02.f10, K02.f11, K02.h0, K02.h1, K02.h2, K02.h3, K02.h4, K02.h5, K02.h6, K02.h7, K02.h8, K02.h9, K02.h10, K02.h11, K02.gl0, b6, start0, List.map_cons, List.map_nil, List.length_cons, List.length_nil, List.replicate, List.cons_append, List.nil_append, List.append_nil, List.getElem?_cons_zero, List.getElem?_cons_succ, exs, ex, ev, evs, evT, evTA, evTO, evO, evI, evAnd, evOr, evC, wp_bind, wp_ok, wp_exc, wp_bad, wp_some, Rs.bind_ok, ixd_c0, ixd_lst, ixd_tup, at0, at1, at2, at3, at4, asB_bl, lt_int, le_int, gt_int, ge_int, eq_int, ne_int, len_lst, len_tup, int_int, min_int, max_int, add_int, sub_int, wp_mul, wp_mod, wp_div, wp_pow, wp_ite, wp_set, wp_mklF, wp_mklT, wp_lenS, wp_tup, wp_addL, wp_addT, wp_addS, setC_c0, ixN5, List.set_cons_zero, List.set_cons_succ, List.length_set, decide_eq_true_eq, retv_rt, retv_nx, tr_bl, tr_int, is_non, isnot_non, ↓reduceIte, Nat.reduceAdd, Nat.reduceLT, Nat.reduceLeDiff, Int.reduceLT, Int.reduceLE, Int.reduceNeg, Int.reduceAdd, Nat.reducePow, Int.reduceToNat, Int.reducePow, true_and, and_true, true_or, or_true, and_self, or_self, if_true, if_false, Bool.false_eq_true, order, pick, Bool.not_true, Bool.not_false, Option.map_some, wp_noexc, Int.reduceEq, nz0, ofO_some, sz, ifF]
  refine (w_draw h (by decide) (by decide)).mono ?_
  rintro d s1 ⟨h, j, j0, j1, rfl⟩
  (try simp -implicitDefEqProofs only [K02.fs0, K02.fs1, K02.fs2, K02.fs3, K02.fs4, K02.fs5, K02.fs6, K02.fs7, K02.fs8, K02.fs9, K02.fs10, K02.fs11, K02.f0, K02.f1, K02.f2, K02.f3, K02.f4, K02.f5, K02.f6, K02.f7, K02.f8, K02.f9, K02.f10, K02.f11, K02.h0, K02.h1, K02.h2, K02.h3, K02.h4, K02.h5, K02.h6, K02.h7, K02.h8, K02.h9, K02.h10, K02.h11, K02.gl0, start0, List.map_cons, List.map_nil, List.length_cons, List.length_nil, List.replicate, List.cons_append, List.nil_append, List.append_nil, List.getElem?_cons_zero, List.getElem?_cons_succ, exs, ex, ev, evs, evT, evTA, evTO, evO, evI, evAnd, evOr, evC, wp_bind, wp_ok, wp_exc, wp_bad, wp_some, Rs.bind_ok, ixd_c0, ixd_lst, ixd_tup, at0, at1, at2, at3, at4, asB_bl, lt_int, le_int, gt_int, ge_int, eq_int, ne_int, len_lst, len_tup, int_int, min_int, max_int, add_int, sub_int, wp_mul, wp_mod, wp_div, wp_pow, wp_ite, wp_set, wp_mklF, wp_mklT, wp_lenS, wp_tup, wp_addL, wp_addT, wp_addS, setC_c0, ixN5, List.set_cons_zero, List.set_cons_succ, List.length_set, decide_eq_true_eq, retv_rt, retv_nx, tr_bl, tr_int, is_non, isnot_non, ↓reduceIte, Nat.reduceAdd, Nat.reduceLT, Nat.reduceLeDiff, Int.reduceLT, Int.reduceLE, Int.reduceNeg, Int.reduceAdd, Nat.reducePow, Int.reduceToNat, Int.reducePow, true_and, and_true, true_or, or_true, and_self, or_self, if_true, if_false, Bool.false_eq_true, order, pick, Bool.not_true, Bool.not_false, Option.map_some, wp_noexc, Int.reduceEq, nz0, ofO_some, sz, ifF])
  by_cases c0 : j = 0
  · simp -implicitDefEqProofs only [K02.fs0, K02.fs1, K02.fs2, K02.fs3, K02.fs4, K02.fs5, K02.fs6, K02.fs7, K02.fs8, K02.fs9, K02.fs10, K02.fs11, K02.f0, K02.f1, K02.f2, K02.f3, K02.f4, K02.f5, K02.f6, K02.f7, K02.f8, K02.f9, K02.f10, K02.f11, K02.h0, K02.h1, K02.h2, K02.h3, K02.h4, K02.h5, K02.h6, K02.h7, K02.h8, K02.h9, K02.h10, K02.h11, K02.gl0, c0, start0, List.map_cons, List.map_nil, List.length_cons, List.length_nil, List.replicate, List.cons_append, List.nil_append, List.append_nil, List.getElem?_cons_zero, List.getElem?_cons_succ, exs, ex, ev, evs, evT, evTA, evTO, evO, evI, evAnd, evOr, evC, wp_bind, wp_ok, wp_exc, wp_bad, wp_some, Rs.bind_ok, ixd_c0, ixd_lst, ixd_tup, at0, at1, at2, at3, at4, asB_bl, lt_int, le_int, gt_int, ge_int, eq_int, ne_int, len_lst, len_tup, int_int, min_int, max_int, add_int, sub_int, wp_mul, wp_mod, wp_div, wp_pow, wp_ite, wp_set, wp_mklF, wp_mklT, wp_lenS, wp_tup, wp_addL, wp_addT, wp_addS, setC_c0, ixN5, List.set_cons_zero, List.set_cons_succ, List.length_set, decide_eq_true_eq, retv_rt, retv_nx, tr_bl, tr_int, is_non, isnot_non, ↓reduceIte, Nat.reduceAdd, Nat.reduceLT, Nat.reduceLeDiff, Int.reduceLT, Int.reduceLE, Int.reduceNeg, Int.reduceAdd, Nat.reducePow, Int.reduceToNat, Int.reducePow, true_and, and_true, true_or, or_true, and_self, or_self, if_true, if_false, Bool.false_eq_true, order, pick, Bool.not_true, Bool.not_false, Option.map_some, wp_noexc, Int.reduceEq, nz0, ofO_some, sz, ifF]
    refine (w_draw h (by split <;> omega) (by split <;> omega)).mono ?_
    rintro d s1 ⟨h, j, j0, j1, rfl⟩
    (try simp -implicitDefEqProofs only [K02.fs0, K02.fs1, K02.fs2, K02.fs3, K02.fs4, K02.fs5, K02.fs6, K02.fs7, K02.fs8, K02.fs9, K02.fs10, K02.fs11, K02.f0, K02.f1, K02.f2, K02.f3, K02.f4, K02.f5, K02.f6, K02.f7, K02.f8, K02.f9, K02.f10, K02.f11, K02.h0, K02.h1, K02.h2, K02.h3, K02.h4, K02.h5, K02.h6, K02.h7, K02.h8, K02.h9, K02.h10, K02.h11, K02.gl0, start0, List.map_cons, List.map_nil, List.length_cons, List.length_nil, List.replicate, List.cons_append, List.nil_append, List.append_nil, List.getElem?_cons_zero, List.getElem?_cons_succ, exs, ex, ev, evs, evT, evTA, evTO, evO, evI, evAnd, evOr, evC, wp_bind, wp_ok, wp_exc, wp_bad, wp_some, Rs.bind_ok, ixd_c0, ixd_lst, ixd_tup, at0, at1, at2, at3, at4, asB_bl, lt_int, le_int, gt_int, ge_int, eq_int, ne_int, len_lst, len_tup, int_int, min_int, max_int, add_int, sub_int, wp_mul, wp_mod, wp_div, wp_pow, wp_ite, wp_set, wp_mklF, wp_mklT, wp_lenS, wp_tup, wp_addL, wp_addT, wp_addS, setC_c0, ixN5, List.set_cons_zero, List.set_cons_succ, List.length_set, decide_eq_true_eq, retv_rt, retv_nx, tr_bl, tr_int, is_non, isnot_non, ↓reduceIte, Nat.reduceAdd, Nat.reduceLT, Nat.reduceLeDiff, Int.reduceLT, Int.reduceLE, Int.reduceNeg, Int.reduceAdd, Nat.reducePow, Int.reduceToNat, Int.reducePow, true_and, and_true, true_or, or_true, and_self, or_self, if_true, if_false, Bool.false_eq_true, order, pick, Bool.not_true, Bool.not_false, Option.map_some, wp_noexc, Int.reduceEq, nz0, ofO_some, sz, ifF])
    exact ⟨h, _, by omega, by (split at j1 <;> omega), rfl⟩
  · by_cases c1 : j = 1
    · simp -implicitDefEqProofs only [K02.fs0, K02.fs1, K02.fs2, K02.fs3, K02.fs4, K02.fs5, K02.fs6, K02.fs7, K02.fs8, K02.fs9, K02.fs10, K02.fs11, K02.f0, K02.f1, K02.f2, K02.f3, K02.f4, K02.f5, K02.f6, K02.f7, K02.f8, K02.f9, K02.f10, K02.f11, K02.h0, K02.h1, K02.h2, K02.h3, K02.h4, K02.h5, K02.h6, K02.h7, K02.h8, K02.h9, K02.h10, K02.h11, K02.gl0, c0, c1, start0, List.map_cons, List.map_nil, List.length_cons, List.length_nil, List.replicate, List.cons_append, List.nil_append, List.append_nil, List.getElem?_cons_zero, List.getElem?_cons_succ, exs, ex, ev, evs, evT, evTA, evTO, evO, evI, evAnd, evOr, evC, wp_bind, wp_ok, wp_exc, wp_bad, wp_some, Rs.bind_ok, ixd_c0, ixd_lst, ixd_tup, at0, at1, at2, at3, at4, asB_bl, lt_int, le_int, gt_int, ge_int, eq_int, ne_int, len_lst, len_tup, int_int, min_int, max_int, add_int, sub_int, wp_mul, wp_mod, wp_div, wp_pow, wp_ite, wp_set, wp_mklF, wp_mklT, wp_lenS, wp_tup, wp_addL, wp_addT, wp_addS, setC_c0, ixN5, List.set_cons_zero, List.set_cons_succ, List.length_set, decide_eq_true_eq, retv_rt, retv_nx, tr_bl, tr_int, is_non, isnot_non, ↓reduceIte, Nat.reduceAdd, Nat.reduceLT, Nat.reduceLeDiff, Int.reduceLT, Int.reduceLE, Int.reduceNeg, Int.reduceAdd, Nat.reducePow, Int.reduceToNat, Int.reducePow, true_and, and_true, true_or, or_true, and_self, or_self, if_true, if_false, Bool.false_eq_true, order, pick, Bool.not_true, Bool.not_false, Option.map_some, wp_noexc, Int.reduceEq, nz0, ofO_some, sz, ifF]
      refine (w_draw h (by split <;> omega) (by split <;> omega)).mono ?_
      rintro d s1 ⟨h, j, j0, j1, rfl⟩
      (try simp -implicitDefEqProofs only [K02.fs0, K02.fs1, K02.fs2, K02.fs3, K02.fs4, K02.fs5, K02.fs6, K02.fs7, K02.fs8, K02.fs9, K02.fs10, K02.fs11, K02.f0, K02.f1, K02.f2, K02.f3, K02.f4, K02.f5, K02.f6, K02.f7, K02.f8, K02.f9, K02.f10, K02.f11, K02.h0, K02.h1, K02.h2, K02.h3, K02.h4, K02.h5, K02.h6, K02.h7, K02.h8, K02.h9, K02.h10, K02.h11, K02.gl0, start0, List.map_cons, List.map_nil, List.length_cons, List.length_nil, List.replicate, List.cons_append, List.nil_append, List.append_nil, List.getElem?_cons_zero, List.getElem?_cons_succ, exs, ex, ev, evs, evT, evTA, evTO, evO, evI, evAnd, evOr, evC, wp_bind, wp_ok, wp_exc, wp_bad, wp_some, Rs.bind_ok, ixd_c0, ixd_lst, ixd_tup, at0, at1, at2, at3, at4, asB_bl, lt_int, le_int, gt_int, ge_int, eq_int, ne_int, len_lst, len_tup, int_int, min_int, max_int, add_int, sub_int, wp_mul, wp_mod, wp_div, wp_pow, wp_ite, wp_set, wp_mklF, wp_mklT, wp_lenS, wp_tup, wp_addL, wp_addT, wp_addS, setC_c0, ixN5, List.set_cons_zero, List.set_cons_succ, List.length_set, decide_eq_true_eq, retv_rt, retv_nx, tr_bl, tr_int, is_non, isnot_non, ↓reduceIte, Nat.reduceAdd, Nat.reduceLT, Nat.reduceLeDiff, Int.reduceLT, Int.reduceLE, Int.reduceNeg, Int.reduceAdd, Nat.reducePow, Int.reduceToNat, Int.reducePow, true_and, and_true, true_or, or_true, and_self, or_self, if_true, if_false, Bool.false_eq_true, order, pick, Bool.not_true, Bool.not_false, Option.map_some, wp_noexc, Int.reduceEq, nz0, ofO_some, sz, ifF])
      exact ⟨h, _, by (split at j1 <;> omega), by omega, rfl⟩
    · simp -implicitDefEqProofs only [K02.fs0, K02.fs1, K02.fs2, K02.fs3, K02.fs4, K02.fs5, K02.fs6, K02.fs7, K02.fs8, K02.fs9, K02.fs10, K02.fs11, K02.f0, K02.f1, K02.f2, K02.f3, K02.f4, K02.f5, K02.f6, K02.f7, K02.f8, K02.f9, K02.f10, K02.f11, K02.h0, K02.h1, K02.h2, K02.h3, K02.h4, K02.h5, K02.h6, K02.h7, K02.h8, K02.h9, K02.h10, K02.h11, K02.gl0, c0, c1, start0, List.map_cons, List.map_nil, List.length_cons, List.length_nil, List.replicate, List.cons_append, List.nil_append, List.append_nil, List.getElem?_cons_zero, List.getElem?_cons_succ, exs, ex, ev, evs, evT, evTA, evTO, evO, evI, evAnd, evOr, evC, wp_bind, wp_ok, wp_exc, wp_bad, wp_some, Rs.bind_ok, ixd_c0, ixd_lst, ixd_tup, at0, at1, at2, at3, at4, asB_bl, lt_int, le_int, gt_int, ge_int, eq_int, ne_int, len_lst, len_tup, int_int, min_int, max_int, add_int, sub_int, wp_mul, wp_mod, wp_div, wp_pow, wp_ite, wp_set, wp_mklF, wp_mklT, wp_lenS, wp_tup, wp_addL, wp_addT, wp_addS, setC_c0, ixN5, List.set_cons_zero, List.set_cons_succ, List.length_set, decide_eq_true_eq, retv_rt, retv_nx, tr_bl, tr_int, is_non, isnot_non, ↓reduceIte, Nat.reduceAdd, Nat.reduceLT, Nat.reduceLeDiff, Int.reduceLT, Int.reduceLE, Int.reduceNeg, Int.reduceAdd, Nat.reducePow, Int.reduceToNat, Int.reducePow, true_and, and_true, true_or, or_true, and_self, or_self, if_true, if_false, Bool.false_eq_true, order, pick, Bool.not_true, Bool.not_false, Option.map_some, wp_noexc, Int.reduceEq, nz0, ofO_some, sz, ifF]
      refine (w_draw h (by omega) (by omega)).mono ?_
      rintro d s1 ⟨h, j, j0, j1, rfl⟩
      (try simp -implicitDefEqProofs only [K02.fs0, K02.fs1, K02.fs2, K02.fs3, K02.fs4, K02.fs5, K02.fs6, K02.fs7, K02.fs8, K02.fs9, K02.fs10, K02.fs11, K02.f0, K02.f1, K02.f2, K02.f3, K02.f4, K02.f5, K02.f6, K02.f7, K02.f8, K02.f9, K02.f10, K02.f11, K02.h0, K02.h1, K02.h2, K02.h3, K02.h4, K02.h5, K02.h6, K02.h7, K02.h8, K02.h9, K02.h10, K02.h11, K02.gl0, start0, List.map_cons, List.map_nil, List.length_cons, List.length_nil, List.replicate, List.cons_append, List.nil_append, List.append_nil, List.getElem?_cons_zero, List.getElem?_cons_succ, exs, ex, ev, evs, evT, evTA, evTO, evO, evI, evAnd, evOr, evC, wp_bind, wp_ok, wp_exc, wp_bad, wp_some, Rs.bind_ok, ixd_c0, ixd_lst, ixd_tup, at0, at1, at2, at3, at4, asB_bl, lt_int, le_int, gt_int, ge_int, eq_int, ne_int, len_lst, len_tup, int_int, min_int, max_int, add_int, sub_int, wp_mul, wp_mod, wp_div, wp_pow, wp_ite, wp_set, wp_mklF, wp_mklT, wp_lenS, wp_tup, wp_addL, wp_addT, wp_addS, setC_c0, ixN5, List.set_cons_zero, List.set_cons_succ, List.length_set, decide_eq_true_eq, retv_rt, retv_nx, tr_bl, tr_int, is_non, isnot_non, ↓reduceIte, Nat.reduceAdd, Nat.reduceLT, Nat.reduceLeDiff, Int.reduceLT, Int.reduceLE, Int.reduceNeg, Int.reduceAdd, Nat.reducePow, Int.reduceToNat, Int.reducePow, true_and, and_true, true_or, or_true, and_self, or_self, if_true, if_false, Bool.false_eq_true, order, pick, Bool.not_true, Bool.not_false, Option.map_some, wp_noexc, Int.reduceEq, nz0, ofO_some, sz, ifF])
      exact ⟨h, _, by omega, by omega, rfl⟩
theorem w_crest {k : Nat} {r s : Sto} (h : Srced r s) :
    Wp (calls P (k + 3) 7 [.cell 0] s) fun d s' => Srced r s' ∧ ∃ n, 1 ≤ n ∧ n < 2 ^ 150 ∧ d = .int n := by
  refine wp_call rfl rfl ?_
  simp -implicitDefEqProofs only [K02.fs0, K02.fs1, K02.fs2, K02.fs3, K02.fs4, K02.fs5, K02.fs6, K02.fs7, K02.fs8, K02.fs9, K02.fs10, K02.fs11, K02.f0, K02.f1, K02.f2, K02.f3, K02.f4, K02.f5, K02.f6, K02.f7, K02.f8, K02.f9, K02.f10, K02.f11, K02.h0, K02.h1, K02.h2, K02.h3, K02.h4, K02.h5, K02.h6, K02.h7, K02.h8, K02.h9, K02.h10, K02.h11, K02.gl0, b7, start0, List.map_cons, List.map_nil, List.length_cons, List.length_nil, List.replicate, List.cons_append, List.nil_append, List.append_nil, List.getElem?_cons_zero, List.getElem?_cons_succ, exs, ex, ev, evs, evT, evTA, evTO, evO, evI, evAnd, evOr, evC, wp_bind, wp_ok, wp_exc, wp_bad, wp_some, Rs.bind_ok, ixd_c0, ixd_lst, ixd_tup, at0, at1, at2, at3, at4, asB_bl, lt_int, le_int, gt_int, ge_int, eq_int, ne_int, len_lst, len_tup, int_int, min_int, max_int, add_int, sub_int, wp_mul, wp_mod, wp_div, wp_pow, wp_ite, wp_set, wp_mklF, wp_mklT, wp_lenS, wp_tup, wp_addL, wp_addT, wp_addS, setC_c0, ixN5, List.set_cons_zero, List.set_cons_succ, List.length_set, decide_eq_true_eq, retv_rt, retv_nx, tr_bl, tr_int, is_non, isnot_non, ↓reduceIte, Nat.reduceAdd, Nat.reduceLT, Nat.reduceLeDiff, Int.reduceLT, Int.reduceLE, Int.reduceNeg, Int.reduceAdd, Nat.reducePow, Int.reduceToNat, Int.reducePow, true_and, and_true, true_or, or_true, and_self, or_self, if_true, if_false, Bool.false_eq_true, order, pick, Bool.not_true, Bool.not_false, Option.map_some, wp_noexc, Int.reduceEq, nz0, ofO_some, sz, ifF]
  refine (w_draw h (by decide) (by decide)).mono ?_
  rintro d s1 ⟨h, i, i0, i1, rfl⟩
  (try simp -implicitDefEqProofs only [K02.fs0, K02.fs1, K02.fs2, K02.fs3, K02.fs4, K02.fs5, K02.fs6, K02.fs7, K02.fs8, K02.fs9, K02.fs10, K02.fs11, K02.f0, K02.f1, K02.f2, K02.f3, K02.f4, K02.f5, K02.f6, K02.f7, K02.f8, K02.f9, K02.f10, K02.f11, K02.h0, K02.h1, K02.h2, K02.h3, K02.h4, K02.h5, K02.h6, K02.h7, K02.h8, K02.h9, K02.h10, K02.h11, K02.gl0, start0, List.map_cons, List.map_nil, List.length_cons, List.length_nil, List.replicate, List.cons_append, List.nil_append, List.append_nil, List.getElem?_cons_zero, List.getElem?_cons_succ, exs, ex, ev, evs, evT, evTA, evTO, evO, evI, evAnd, evOr, evC, wp_bind, wp_ok, wp_exc, wp_bad, wp_some, Rs.bind_ok, ixd_c0, ixd_lst, ixd_tup, at0, at1, at2, at3, at4, asB_bl, lt_int, le_int, gt_int, ge_int, eq_int, ne_int, len_lst, len_tup, int_int, min_int, max_int, add_int, sub_int, wp_mul, wp_mod, wp_div, wp_pow, wp_ite, wp_set, wp_mklF, wp_mklT, wp_lenS, wp_tup, wp_addL, wp_addT, wp_addS, setC_c0, ixN5, List.set_cons_zero, List.set_cons_succ, List.length_set, decide_eq_true_eq, retv_rt, retv_nx, tr_bl, tr_int, is_non, isnot_non, ↓reduceIte, Nat.reduceAdd, Nat.reduceLT, Nat.reduceLeDiff, Int.reduceLT, Int.reduceLE, Int.reduceNeg, Int.reduceAdd, Nat.reducePow, Int.reduceToNat, Int.reducePow, true_and, and_true, true_or, or_true, and_self, or_self, if_true, if_false, Bool.false_eq_true, order, pick, Bool.not_true, Bool.not_false, Option.map_some, wp_noexc, Int.reduceEq, nz0, ofO_some, sz, ifF])
  refine (w_draw h (by decide) (by decide)).mono ?_
  rintro d s1 ⟨h, j, j0, j1, rfl⟩
  (try simp -implicitDefEqProofs only [K02.fs0, K02.fs1, K02.fs2, K02.fs3, K02.fs4, K02.fs5, K02.fs6, K02.fs7, K02.fs8, K02.fs9, K02.fs10, K02.fs11, K02.f0, K02.f1, K02.f2, K02.f3, K02.f4, K02.f5, K02.f6, K02.f7, K02.f8, K02.f9, K02.f10, K02.f11, K02.h0, K02.h1, K02.h2, K02.h3, K02.h4, K02.h5, K02.h6, K02.h7, K02.h8, K02.h9, K02.h10, K02.h11, K02.gl0, start0, List.map_cons, List.map_nil, List.length_cons, List.length_nil, List.replicate, List.cons_append, List.nil_append, List.append_nil, List.getElem?_cons_zero, List.getElem?_cons_succ, exs, ex, ev, evs, evT, evTA, evTO, evO, evI, evAnd, evOr, evC, wp_bind, wp_ok, wp_exc, wp_bad, wp_some, Rs.bind_ok, ixd_c0, ixd_lst, ixd_tup, at0, at1, at2, at3, at4, asB_bl, lt_int, le_int, gt_int, ge_int, eq_int, ne_int, len_lst, len_tup, int_int, min_int, max_int, add_int, sub_int, wp_mul, wp_mod, wp_div, wp_pow, wp_ite, wp_set, wp_mklF, wp_mklT, wp_lenS, wp_tup, wp_addL, wp_addT, wp_addS, setC_c0, ixN5, List.set_cons_zero, List.set_cons_succ, List.length_set, decide_eq_true_eq, retv_rt, retv_nx, tr_bl, tr_int, is_non, isnot_non, ↓reduceIte, Nat.reduceAdd, Nat.reduceLT, Nat.reduceLeDiff, Int.reduceLT, Int.reduceLE, Int.reduceNeg, Int.reduceAdd, Nat.reducePow, Int.reduceToNat, Int.reducePow, true_and, and_true, true_or, or_true, and_self, or_self, if_true, if_false, Bool.false_eq_true, order, pick, Bool.not_true, Bool.not_false, Option.map_some, wp_noexc, Int.reduceEq, nz0, ofO_some, sz, ifF])
  refine (w_of h (by simp) (by simp)).mono ?_
  rintro d s1 ⟨h, hd⟩
  (try simp -implicitDefEqProofs only [K02.fs0, K02.fs1, K02.fs2, K02.fs3, K02.fs4, K02.fs5, K02.fs6, K02.fs7, K02.fs8, K02.fs9, K02.fs10, K02.fs11, K02.f0, K02.f1, K02.f2, K02.f3, K02.f4, K02.f5, K02.f6, K02.f7, K02.f8, K02.f9, K02.f10, K02.f11, K02.h0, K02.h1, K02.h2, K02.h3, K02.h4, K02.h5, K02.h6, K02.h7, K02.h8, K02.h9, K02.h10, K02.h11, K02.gl0, start0, List.map_cons, List.map_nil, List.length_cons, List.length_nil, List.replicate, List.cons_append, List.nil_append, List.append_nil, List.getElem?_cons_zero, List.getElem?_cons_succ, exs, ex, ev, evs, evT, evTA, evTO, evO, evI, evAnd, evOr, evC, wp_bind, wp_ok, wp_exc, wp_bad, wp_some, Rs.bind_ok, ixd_c0, ixd_lst, ixd_tup, at0, at1, at2, at3, at4, asB_bl, lt_int, le_int, gt_int, ge_int, eq_int, ne_int, len_lst, len_tup, int_int, min_int, max_int, add_int, sub_int, wp_mul, wp_mod, wp_div, wp_pow, wp_ite, wp_set, wp_mklF, wp_mklT, wp_lenS, wp_tup, wp_addL, wp_addT, wp_addS, setC_c0, ixN5, List.set_cons_zero, List.set_cons_succ, List.length_set, decide_eq_true_eq, retv_rt, retv_nx, tr_bl, tr_int, is_non, isnot_non, ↓reduceIte, Nat.reduceAdd, Nat.reduceLT, Nat.reduceLeDiff, Int.reduceLT, Int.reduceLE, Int.reduceNeg, Int.reduceAdd, Nat.reducePow, Int.reduceToNat, Int.reducePow, true_and, and_true, true_or, or_true, and_self, or_self, if_true, if_false, Bool.false_eq_true, order, pick, Bool.not_true, Bool.not_false, Option.map_some, wp_noexc, Int.reduceEq, nz0, ofO_some, sz, ifF])
  refine ⟨h, ?_⟩
  simp only [List.mem_cons, List.not_mem_nil, or_false] at hd
  rcases hd with rfl | rfl | rfl | rfl | rfl | rfl | rfl <;> exact ⟨_, by omega, by omega, rfl⟩
/-- an act -/
def ActR (M : Int) (d : Dt) : Prop := d = .tup [.str "keep"] ∨ d = .tup [.str "lasting"] ∨ d = .tup [.str "drop"] ∨ ∃ n, 1 ≤ n ∧ n ≤ M ∧ (d = .tup [.str "set", .int n] ∨ d = .tup [.str "least", .int n] ∨ d = .tup [.str "most", .int n] ∨ d = .tup [.str "more", .int n])
/-- a life -/
def LifeR (M : Int) (d : Dt) : Prop := d = .non ∨ d = .str "lasting" ∨ ∃ n, 1 ≤ n ∧ n ≤ M ∧ d = .int n
theorem w_act {k : Nat} {r s : Sto} (h : Srced r s) {c : Int} (h0 : 1 ≤ c) (h1 : c < 2 ^ 200) :
    Wp (calls P (k + 3) 8 [.cell 0, .int c] s) fun d s' => Srced r s' ∧ ActR c d := by
  refine wp_call rfl rfl ?_
  simp -implicitDefEqProofs only [K02.fs0, K02.fs1, K02.fs2, K02.fs3, K02.fs4, K02.fs5, K02.fs6, K02.fs7, K02.fs8, K02.fs9, K02.fs10, K02.fs11, K02.f0, K02.f1, K02.f2, K02.f3, K02.f4, K02.f5, K02.f6, K02.f7, K02.f8, K02.f9, K02.f10, K02.f11, K02.h0, K02.h1, K02.h2, K02.h3, K02.h4, K02.h5, K02.h6, K02.h7, K02.h8, K02.h9, K02.h10, K02.h11, K02.gl0, b8, start0, List.map_cons, List.map_nil, List.length_cons, List.length_nil, List.replicate, List.cons_append, List.nil_append, List.append_nil, List.getElem?_cons_zero, List.getElem?_cons_succ, exs, ex, ev, evs, evT, evTA, evTO, evO, evI, evAnd, evOr, evC, wp_bind, wp_ok, wp_exc, wp_bad, wp_some, Rs.bind_ok, ixd_c0, ixd_lst, ixd_tup, at0, at1, at2, at3, at4, asB_bl, lt_int, le_int, gt_int, ge_int, eq_int, ne_int, len_lst, len_tup, int_int, min_int, max_int, add_int, sub_int, wp_mul, wp_mod, wp_div, wp_pow, wp_ite, wp_set, wp_mklF, wp_mklT, wp_lenS, wp_tup, wp_addL, wp_addT, wp_addS, setC_c0, ixN5, List.set_cons_zero, List.set_cons_succ, List.length_set, decide_eq_true_eq, retv_rt, retv_nx, tr_bl, tr_int, is_non, isnot_non, ↓reduceIte, Nat.reduceAdd, Nat.reduceLT, Nat.reduceLeDiff, Int.reduceLT, Int.reduceLE, Int.reduceNeg, Int.reduceAdd, Nat.reducePow, Int.reduceToNat, Int.reducePow, true_and, and_true, true_or, or_true, and_self, or_self, if_true, if_false, Bool.false_eq_true, order, pick, Bool.not_true, Bool.not_false, Option.map_some, wp_noexc, Int.reduceEq, nz0, ofO_some, sz, ifF]
  refine (w_of h (by simp) (by simp)).mono ?_
  rintro d s1 ⟨h, hd⟩
  simp only [List.mem_cons, List.not_mem_nil, or_false] at hd
  have n1 : ∀ (w : Str) (g : ∀ n, 1 ≤ n → n ≤ c → ActR c (.tup [.str w, .int n])), Wp (calls P (k + 2) 6 [.cell 0, .int c] s1) fun d s' => Srced r s' ∧ ActR c (.tup [.str w, d]) := by
    intro w g
    refine (w_number h h0 h1).mono ?_
    rintro d s1 ⟨h, n, a, b, rfl⟩
    exact ⟨h, g n a b⟩
  rcases hd with rfl | rfl | rfl | rfl | rfl | rfl | rfl | rfl | rfl | rfl
  · simp -implicitDefEqProofs only [K02.fs0, K02.fs1, K02.fs2, K02.fs3, K02.fs4, K02.fs5, K02.fs6, K02.fs7, K02.fs8, K02.fs9, K02.fs10, K02.fs11, K02.f0, K02.f1, K02.f2, K02.f3, K02.f4, K02.f5, K02.f6, K02.f7, K02.f8, K02.f9, K02.f10, K02.f11, K02.h0, K02.h1, K02.h2, K02.h3, K02.h4, K02.h5, K02.h6, K02.h7, K02.h8, K02.h9, K02.h10, K02.h11, K02.gl0, eqq_0_0, eqq_0_1, eqq_0_2, eqq_0_3, eqq_0_4, eqq_0_5, eqq_1_0, eqq_1_1, eqq_1_2, eqq_1_3, eqq_1_4, eqq_1_5, eqq_2_0, eqq_2_1, eqq_2_2, eqq_2_3, eqq_2_4, eqq_2_5, eqq_3_0, eqq_3_1, eqq_3_2, eqq_3_3, eqq_3_4, eqq_3_5, eqq_4_0, eqq_4_1, eqq_4_2, eqq_4_3, eqq_4_4, eqq_4_5, eqq_5_0, eqq_5_1, eqq_5_2, eqq_5_3, eqq_5_4, eqq_5_5, eqq_6_0, eqq_6_1, eqq_6_2, eqq_6_3, eqq_6_4, eqq_6_5, in_sm_0, in_sm_1, in_sm_2, in_sm_3, in_sm_4, in_sm_5, in_sm_6, in_sml_0, in_sml_1, in_sml_2, in_sml_3, in_sml_4, in_sml_5, in_sml_6, in_kld_0, in_kld_1, in_kld_2, in_kld_3, in_kld_4, in_kld_5, in_kld_6, start0, List.map_cons, List.map_nil, List.length_cons, List.length_nil, List.replicate, List.cons_append, List.nil_append, List.append_nil, List.getElem?_cons_zero, List.getElem?_cons_succ, exs, ex, ev, evs, evT, evTA, evTO, evO, evI, evAnd, evOr, evC, wp_bind, wp_ok, wp_exc, wp_bad, wp_some, Rs.bind_ok, ixd_c0, ixd_lst, ixd_tup, at0, at1, at2, at3, at4, asB_bl, lt_int, le_int, gt_int, ge_int, eq_int, ne_int, len_lst, len_tup, int_int, min_int, max_int, add_int, sub_int, wp_mul, wp_mod, wp_div, wp_pow, wp_ite, wp_set, wp_mklF, wp_mklT, wp_lenS, wp_tup, wp_addL, wp_addT, wp_addS, setC_c0, ixN5, List.set_cons_zero, List.set_cons_succ, List.length_set, decide_eq_true_eq, retv_rt, retv_nx, tr_bl, tr_int, is_non, isnot_non, ↓reduceIte, Nat.reduceAdd, Nat.reduceLT, Nat.reduceLeDiff, Int.reduceLT, Int.reduceLE, Int.reduceNeg, Int.reduceAdd, Nat.reducePow, Int.reduceToNat, Int.reducePow, true_and, and_true, true_or, or_true, and_self, or_self, if_true, if_false, Bool.false_eq_true, order, pick, Bool.not_true, Bool.not_false, Option.map_some, wp_noexc, Int.reduceEq, nz0, ofO_some, sz, ifF]; exact ⟨h, .inl rfl⟩
  · simp -implicitDefEqProofs only [K02.fs0, K02.fs1, K02.fs2, K02.fs3, K02.fs4, K02.fs5, K02.fs6, K02.fs7, K02.fs8, K02.fs9, K02.fs10, K02.fs11, K02.f0, K02.f1, K02.f2, K02.f3, K02.f4, K02.f5, K02.f6, K02.f7, K02.f8, K02.f9, K02.f10, K02.f11, K02.h0, K02.h1, K02.h2, K02.h3, K02.h4, K02.h5, K02.h6, K02.h7, K02.h8, K02.h9, K02.h10, K02.h11, K02.gl0, eqq_0_0, eqq_0_1, eqq_0_2, eqq_0_3, eqq_0_4, eqq_0_5, eqq_1_0, eqq_1_1, eqq_1_2, eqq_1_3, eqq_1_4, eqq_1_5, eqq_2_0, eqq_2_1, eqq_2_2, eqq_2_3, eqq_2_4, eqq_2_5, eqq_3_0, eqq_3_1, eqq_3_2, eqq_3_3, eqq_3_4, eqq_3_5, eqq_4_0, eqq_4_1, eqq_4_2, eqq_4_3, eqq_4_4, eqq_4_5, eqq_5_0, eqq_5_1, eqq_5_2, eqq_5_3, eqq_5_4, eqq_5_5, eqq_6_0, eqq_6_1, eqq_6_2, eqq_6_3, eqq_6_4, eqq_6_5, in_sm_0, in_sm_1, in_sm_2, in_sm_3, in_sm_4, in_sm_5, in_sm_6, in_sml_0, in_sml_1, in_sml_2, in_sml_3, in_sml_4, in_sml_5, in_sml_6, in_kld_0, in_kld_1, in_kld_2, in_kld_3, in_kld_4, in_kld_5, in_kld_6, start0, List.map_cons, List.map_nil, List.length_cons, List.length_nil, List.replicate, List.cons_append, List.nil_append, List.append_nil, List.getElem?_cons_zero, List.getElem?_cons_succ, exs, ex, ev, evs, evT, evTA, evTO, evO, evI, evAnd, evOr, evC, wp_bind, wp_ok, wp_exc, wp_bad, wp_some, Rs.bind_ok, ixd_c0, ixd_lst, ixd_tup, at0, at1, at2, at3, at4, asB_bl, lt_int, le_int, gt_int, ge_int, eq_int, ne_int, len_lst, len_tup, int_int, min_int, max_int, add_int, sub_int, wp_mul, wp_mod, wp_div, wp_pow, wp_ite, wp_set, wp_mklF, wp_mklT, wp_lenS, wp_tup, wp_addL, wp_addT, wp_addS, setC_c0, ixN5, List.set_cons_zero, List.set_cons_succ, List.length_set, decide_eq_true_eq, retv_rt, retv_nx, tr_bl, tr_int, is_non, isnot_non, ↓reduceIte, Nat.reduceAdd, Nat.reduceLT, Nat.reduceLeDiff, Int.reduceLT, Int.reduceLE, Int.reduceNeg, Int.reduceAdd, Nat.reducePow, Int.reduceToNat, Int.reducePow, true_and, and_true, true_or, or_true, and_self, or_self, if_true, if_false, Bool.false_eq_true, order, pick, Bool.not_true, Bool.not_false, Option.map_some, wp_noexc, Int.reduceEq, nz0, ofO_some, sz, ifF]; exact ⟨h, .inr (.inl rfl)⟩
  · simp -implicitDefEqProofs only [K02.fs0, K02.fs1, K02.fs2, K02.fs3, K02.fs4, K02.fs5, K02.fs6, K02.fs7, K02.fs8, K02.fs9, K02.fs10, K02.fs11, K02.f0, K02.f1, K02.f2, K02.f3, K02.f4, K02.f5, K02.f6, K02.f7, K02.f8, K02.f9, K02.f10, K02.f11, K02.h0, K02.h1, K02.h2, K02.h3, K02.h4, K02.h5, K02.h6, K02.h7, K02.h8, K02.h9, K02.h10, K02.h11, K02.gl0, eqq_0_0, eqq_0_1, eqq_0_2, eqq_0_3, eqq_0_4, eqq_0_5, eqq_1_0, eqq_1_1, eqq_1_2, eqq_1_3, eqq_1_4, eqq_1_5, eqq_2_0, eqq_2_1, eqq_2_2, eqq_2_3, eqq_2_4, eqq_2_5, eqq_3_0, eqq_3_1, eqq_3_2, eqq_3_3, eqq_3_4, eqq_3_5, eqq_4_0, eqq_4_1, eqq_4_2, eqq_4_3, eqq_4_4, eqq_4_5, eqq_5_0, eqq_5_1, eqq_5_2, eqq_5_3, eqq_5_4, eqq_5_5, eqq_6_0, eqq_6_1, eqq_6_2, eqq_6_3, eqq_6_4, eqq_6_5, in_sm_0, in_sm_1, in_sm_2, in_sm_3, in_sm_4, in_sm_5, in_sm_6, in_sml_0, in_sml_1, in_sml_2, in_sml_3, in_sml_4, in_sml_5, in_sml_6, in_kld_0, in_kld_1, in_kld_2, in_kld_3, in_kld_4, in_kld_5, in_kld_6, start0, List.map_cons, List.map_nil, List.length_cons, List.length_nil, List.replicate, List.cons_append, List.nil_append, List.append_nil, List.getElem?_cons_zero, List.getElem?_cons_succ, exs, ex, ev, evs, evT, evTA, evTO, evO, evI, evAnd, evOr, evC, wp_bind, wp_ok, wp_exc, wp_bad, wp_some, Rs.bind_ok, ixd_c0, ixd_lst, ixd_tup, at0, at1, at2, at3, at4, asB_bl, lt_int, le_int, gt_int, ge_int, eq_int, ne_int, len_lst, len_tup, int_int, min_int, max_int, add_int, sub_int, wp_mul, wp_mod, wp_div, wp_pow, wp_ite, wp_set, wp_mklF, wp_mklT, wp_lenS, wp_tup, wp_addL, wp_addT, wp_addS, setC_c0, ixN5, List.set_cons_zero, List.set_cons_succ, List.length_set, decide_eq_true_eq, retv_rt, retv_nx, tr_bl, tr_int, is_non, isnot_non, ↓reduceIte, Nat.reduceAdd, Nat.reduceLT, Nat.reduceLeDiff, Int.reduceLT, Int.reduceLE, Int.reduceNeg, Int.reduceAdd, Nat.reducePow, Int.reduceToNat, Int.reducePow, true_and, and_true, true_or, or_true, and_self, or_self, if_true, if_false, Bool.false_eq_true, order, pick, Bool.not_true, Bool.not_false, Option.map_some, wp_noexc, Int.reduceEq, nz0, ofO_some, sz, ifF]; exact ⟨h, .inr (.inr (.inl rfl))⟩
  · simp -implicitDefEqProofs only [K02.fs0, K02.fs1, K02.fs2, K02.fs3, K02.fs4, K02.fs5, K02.fs6, K02.fs7, K02.fs8, K02.fs9, K02.fs10, K02.fs11, K02.f0, K02.f1, K02.f2, K02.f3, K02.f4, K02.f5, K02.f6, K02.f7, K02.f8, K02.f9, K02.f10, K02.f11, K02.h0, K02.h1, K02.h2, K02.h3, K02.h4, K02.h5, K02.h6, K02.h7, K02.h8, K02.h9, K02.h10, K02.h11, K02.gl0, eqq_0_0, eqq_0_1, eqq_0_2, eqq_0_3, eqq_0_4, eqq_0_5, eqq_1_0, eqq_1_1, eqq_1_2, eqq_1_3, eqq_1_4, eqq_1_5, eqq_2_0, eqq_2_1, eqq_2_2, eqq_2_3, eqq_2_4, eqq_2_5, eqq_3_0, eqq_3_1, eqq_3_2, eqq_3_3, eqq_3_4, eqq_3_5, eqq_4_0, eqq_4_1, eqq_4_2, eqq_4_3, eqq_4_4, eqq_4_5, eqq_5_0, eqq_5_1, eqq_5_2, eqq_5_3, eqq_5_4, eqq_5_5, eqq_6_0, eqq_6_1, eqq_6_2, eqq_6_3, eqq_6_4, eqq_6_5, in_sm_0, in_sm_1, in_sm_2, in_sm_3, in_sm_4, in_sm_5, in_sm_6, in_sml_0, in_sml_1, in_sml_2, in_sml_3, in_sml_4, in_sml_5, in_sml_6, in_kld_0, in_kld_1, in_kld_2, in_kld_3, in_kld_4, in_kld_5, in_kld_6, start0, List.map_cons, List.map_nil, List.length_cons, List.length_nil, List.replicate, List.cons_append, List.nil_append, List.append_nil, List.getElem?_cons_zero, List.getElem?_cons_succ, exs, ex, ev, evs, evT, evTA, evTO, evO, evI, evAnd, evOr, evC, wp_bind, wp_ok, wp_exc, wp_bad, wp_some, Rs.bind_ok, ixd_c0, ixd_lst, ixd_tup, at0, at1, at2, at3, at4, asB_bl, lt_int, le_int, gt_int, ge_int, eq_int, ne_int, len_lst, len_tup, int_int, min_int, max_int, add_int, sub_int, wp_mul, wp_mod, wp_div, wp_pow, wp_ite, wp_set, wp_mklF, wp_mklT, wp_lenS, wp_tup, wp_addL, wp_addT, wp_addS, setC_c0, ixN5, List.set_cons_zero, List.set_cons_succ, List.length_set, decide_eq_true_eq, retv_rt, retv_nx, tr_bl, tr_int, is_non, isnot_non, ↓reduceIte, Nat.reduceAdd, Nat.reduceLT, Nat.reduceLeDiff, Int.reduceLT, Int.reduceLE, Int.reduceNeg, Int.reduceAdd, Nat.reducePow, Int.reduceToNat, Int.reducePow, true_and, and_true, true_or, or_true, and_self, or_self, if_true, if_false, Bool.false_eq_true, order, pick, Bool.not_true, Bool.not_false, Option.map_some, wp_noexc, Int.reduceEq, nz0, ofO_some, sz, ifF]; exact n1 _ fun n a b => .inr (.inr (.inr ⟨n, a, b, .inl rfl⟩))
  · simp -implicitDefEqProofs only [K02.fs0, K02.fs1, K02.fs2, K02.fs3, K02.fs4, K02.fs5, K02.fs6, K02.fs7, K02.fs8, K02.fs9, K02.fs10, K02.fs11, K02.f0, K02.f1, K02.f2, K02.f3, K02.f4, K02.f5, K02.f6, K02.f7, K02.f8, K02.f9, K02.f10, K02.f11, K02.h0, K02.h1, K02.h2, K02.h3, K02.h4, K02.h5, K02.h6, K02.h7, K02.h8, K02.h9, K02.h10, K02.h11, K02.gl0, eqq_0_0, eqq_0_1, eqq_0_2, eqq_0_3, eqq_0_4, eqq_0_5, eqq_1_0, eqq_1_1, eqq_1_2, eqq_1_3, eqq_1_4, eqq_1_5, eqq_2_0, eqq_2_1, eqq_2_2, eqq_2_3, eqq_2_4, eqq_2_5, eqq_3_0, eqq_3_1, eqq_3_2, eqq_3_3, eqq_3_4, eqq_3_5, eqq_4_0, eqq_4_1, eqq_4_2, eqq_4_3, eqq_4_4, eqq_4_5, eqq_5_0, eqq_5_1, eqq_5_2, eqq_5_3, eqq_5_4, eqq_5_5, eqq_6_0, eqq_6_1, eqq_6_2, eqq_6_3, eqq_6_4, eqq_6_5, in_sm_0, in_sm_1, in_sm_2, in_sm_3, in_sm_4, in_sm_5, in_sm_6, in_sml_0, in_sml_1, in_sml_2, in_sml_3, in_sml_4, in_sml_5, in_sml_6, in_kld_0, in_kld_1, in_kld_2, in_kld_3, in_kld_4, in_kld_5, in_kld_6, start0, List.map_cons, List.map_nil, List.length_cons, List.length_nil, List.replicate, List.cons_append, List.nil_append, List.append_nil, List.getElem?_cons_zero, List.getElem?_cons_succ, exs, ex, ev, evs, evT, evTA, evTO, evO, evI, evAnd, evOr, evC, wp_bind, wp_ok, wp_exc, wp_bad, wp_some, Rs.bind_ok, ixd_c0, ixd_lst, ixd_tup, at0, at1, at2, at3, at4, asB_bl, lt_int, le_int, gt_int, ge_int, eq_int, ne_int, len_lst, len_tup, int_int, min_int, max_int, add_int, sub_int, wp_mul, wp_mod, wp_div, wp_pow, wp_ite, wp_set, wp_mklF, wp_mklT, wp_lenS, wp_tup, wp_addL, wp_addT, wp_addS, setC_c0, ixN5, List.set_cons_zero, List.set_cons_succ, List.length_set, decide_eq_true_eq, retv_rt, retv_nx, tr_bl, tr_int, is_non, isnot_non, ↓reduceIte, Nat.reduceAdd, Nat.reduceLT, Nat.reduceLeDiff, Int.reduceLT, Int.reduceLE, Int.reduceNeg, Int.reduceAdd, Nat.reducePow, Int.reduceToNat, Int.reducePow, true_and, and_true, true_or, or_true, and_self, or_self, if_true, if_false, Bool.false_eq_true, order, pick, Bool.not_true, Bool.not_false, Option.map_some, wp_noexc, Int.reduceEq, nz0, ofO_some, sz, ifF]; exact n1 _ fun n a b => .inr (.inr (.inr ⟨n, a, b, .inr (.inl rfl)⟩))
  · simp -implicitDefEqProofs only [K02.fs0, K02.fs1, K02.fs2, K02.fs3, K02.fs4, K02.fs5, K02.fs6, K02.fs7, K02.fs8, K02.fs9, K02.fs10, K02.fs11, K02.f0, K02.f1, K02.f2, K02.f3, K02.f4, K02.f5, K02.f6, K02.f7, K02.f8, K02.f9, K02.f10, K02.f11, K02.h0, K02.h1, K02.h2, K02.h3, K02.h4, K02.h5, K02.h6, K02.h7, K02.h8, K02.h9, K02.h10, K02.h11, K02.gl0, eqq_0_0, eqq_0_1, eqq_0_2, eqq_0_3, eqq_0_4, eqq_0_5, eqq_1_0, eqq_1_1, eqq_1_2, eqq_1_3, eqq_1_4, eqq_1_5, eqq_2_0, eqq_2_1, eqq_2_2, eqq_2_3, eqq_2_4, eqq_2_5, eqq_3_0, eqq_3_1, eqq_3_2, eqq_3_3, eqq_3_4, eqq_3_5, eqq_4_0, eqq_4_1, eqq_4_2, eqq_4_3, eqq_4_4, eqq_4_5, eqq_5_0, eqq_5_1, eqq_5_2, eqq_5_3, eqq_5_4, eqq_5_5, eqq_6_0, eqq_6_1, eqq_6_2, eqq_6_3, eqq_6_4, eqq_6_5, in_sm_0, in_sm_1, in_sm_2, in_sm_3, in_sm_4, in_sm_5, in_sm_6, in_sml_0, in_sml_1, in_sml_2, in_sml_3, in_sml_4, in_sml_5, in_sml_6, in_kld_0, in_kld_1, in_kld_2, in_kld_3, in_kld_4, in_kld_5, in_kld_6, start0, List.map_cons, List.map_nil, List.length_cons, List.length_nil, List.replicate, List.cons_append, List.nil_append, List.append_nil, List.getElem?_cons_zero, List.getElem?_cons_succ, exs, ex, ev, evs, evT, evTA, evTO, evO, evI, evAnd, evOr, evC, wp_bind, wp_ok, wp_exc, wp_bad, wp_some, Rs.bind_ok, ixd_c0, ixd_lst, ixd_tup, at0, at1, at2, at3, at4, asB_bl, lt_int, le_int, gt_int, ge_int, eq_int, ne_int, len_lst, len_tup, int_int, min_int, max_int, add_int, sub_int, wp_mul, wp_mod, wp_div, wp_pow, wp_ite, wp_set, wp_mklF, wp_mklT, wp_lenS, wp_tup, wp_addL, wp_addT, wp_addS, setC_c0, ixN5, List.set_cons_zero, List.set_cons_succ, List.length_set, decide_eq_true_eq, retv_rt, retv_nx, tr_bl, tr_int, is_non, isnot_non, ↓reduceIte, Nat.reduceAdd, Nat.reduceLT, Nat.reduceLeDiff, Int.reduceLT, Int.reduceLE, Int.reduceNeg, Int.reduceAdd, Nat.reducePow, Int.reduceToNat, Int.reducePow, true_and, and_true, true_or, or_true, and_self, or_self, if_true, if_false, Bool.false_eq_true, order, pick, Bool.not_true, Bool.not_false, Option.map_some, wp_noexc, Int.reduceEq, nz0, ofO_some, sz, ifF]; exact n1 _ fun n a b => .inr (.inr (.inr ⟨n, a, b, .inr (.inr (.inl rfl))⟩))
  · simp -implicitDefEqProofs only [K02.fs0, K02.fs1, K02.fs2, K02.fs3, K02.fs4, K02.fs5, K02.fs6, K02.fs7, K02.fs8, K02.fs9, K02.fs10, K02.fs11, K02.f0, K02.f1, K02.f2, K02.f3, K02.f4, K02.f5, K02.f6, K02.f7, K02.f8, K02.f9, K02.f10, K02.f11, K02.h0, K02.h1, K02.h2, K02.h3, K02.h4, K02.h5, K02.h6, K02.h7, K02.h8, K02.h9, K02.h10, K02.h11, K02.gl0, eqq_0_0, eqq_0_1, eqq_0_2, eqq_0_3, eqq_0_4, eqq_0_5, eqq_1_0, eqq_1_1, eqq_1_2, eqq_1_3, eqq_1_4, eqq_1_5, eqq_2_0, eqq_2_1, eqq_2_2, eqq_2_3, eqq_2_4, eqq_2_5, eqq_3_0, eqq_3_1, eqq_3_2, eqq_3_3, eqq_3_4, eqq_3_5, eqq_4_0, eqq_4_1, eqq_4_2, eqq_4_3, eqq_4_4, eqq_4_5, eqq_5_0, eqq_5_1, eqq_5_2, eqq_5_3, eqq_5_4, eqq_5_5, eqq_6_0, eqq_6_1, eqq_6_2, eqq_6_3, eqq_6_4, eqq_6_5, in_sm_0, in_sm_1, in_sm_2, in_sm_3, in_sm_4, in_sm_5, in_sm_6, in_sml_0, in_sml_1, in_sml_2, in_sml_3, in_sml_4, in_sml_5, in_sml_6, in_kld_0, in_kld_1, in_kld_2, in_kld_3, in_kld_4, in_kld_5, in_kld_6, start0, List.map_cons, List.map_nil, List.length_cons, List.length_nil, List.replicate, List.cons_append, List.nil_append, List.append_nil, List.getElem?_cons_zero, List.getElem?_cons_succ, exs, ex, ev, evs, evT, evTA, evTO, evO, evI, evAnd, evOr, evC, wp_bind, wp_ok, wp_exc, wp_bad, wp_some, Rs.bind_ok, ixd_c0, ixd_lst, ixd_tup, at0, at1, at2, at3, at4, asB_bl, lt_int, le_int, gt_int, ge_int, eq_int, ne_int, len_lst, len_tup, int_int, min_int, max_int, add_int, sub_int, wp_mul, wp_mod, wp_div, wp_pow, wp_ite, wp_set, wp_mklF, wp_mklT, wp_lenS, wp_tup, wp_addL, wp_addT, wp_addS, setC_c0, ixN5, List.set_cons_zero, List.set_cons_succ, List.length_set, decide_eq_true_eq, retv_rt, retv_nx, tr_bl, tr_int, is_non, isnot_non, ↓reduceIte, Nat.reduceAdd, Nat.reduceLT, Nat.reduceLeDiff, Int.reduceLT, Int.reduceLE, Int.reduceNeg, Int.reduceAdd, Nat.reducePow, Int.reduceToNat, Int.reducePow, true_and, and_true, true_or, or_true, and_self, or_self, if_true, if_false, Bool.false_eq_true, order, pick, Bool.not_true, Bool.not_false, Option.map_some, wp_noexc, Int.reduceEq, nz0, ofO_some, sz, ifF]; exact n1 _ fun n a b => .inr (.inr (.inr ⟨n, a, b, .inr (.inr (.inr rfl))⟩))
  · simp -implicitDefEqProofs only [K02.fs0, K02.fs1, K02.fs2, K02.fs3, K02.fs4, K02.fs5, K02.fs6, K02.fs7, K02.fs8, K02.fs9, K02.fs10, K02.fs11, K02.f0, K02.f1, K02.f2, K02.f3, K02.f4, K02.f5, K02.f6, K02.f7, K02.f8, K02.f9, K02.f10, K02.f11, K02.h0, K02.h1, K02.h2, K02.h3, K02.h4, K02.h5, K02.h6, K02.h7, K02.h8, K02.h9, K02.h10, K02.h11, K02.gl0, eqq_0_0, eqq_0_1, eqq_0_2, eqq_0_3, eqq_0_4, eqq_0_5, eqq_1_0, eqq_1_1, eqq_1_2, eqq_1_3, eqq_1_4, eqq_1_5, eqq_2_0, eqq_2_1, eqq_2_2, eqq_2_3, eqq_2_4, eqq_2_5, eqq_3_0, eqq_3_1, eqq_3_2, eqq_3_3, eqq_3_4, eqq_3_5, eqq_4_0, eqq_4_1, eqq_4_2, eqq_4_3, eqq_4_4, eqq_4_5, eqq_5_0, eqq_5_1, eqq_5_2, eqq_5_3, eqq_5_4, eqq_5_5, eqq_6_0, eqq_6_1, eqq_6_2, eqq_6_3, eqq_6_4, eqq_6_5, in_sm_0, in_sm_1, in_sm_2, in_sm_3, in_sm_4, in_sm_5, in_sm_6, in_sml_0, in_sml_1, in_sml_2, in_sml_3, in_sml_4, in_sml_5, in_sml_6, in_kld_0, in_kld_1, in_kld_2, in_kld_3, in_kld_4, in_kld_5, in_kld_6, start0, List.map_cons, List.map_nil, List.length_cons, List.length_nil, List.replicate, List.cons_append, List.nil_append, List.append_nil, List.getElem?_cons_zero, List.getElem?_cons_succ, exs, ex, ev, evs, evT, evTA, evTO, evO, evI, evAnd, evOr, evC, wp_bind, wp_ok, wp_exc, wp_bad, wp_some, Rs.bind_ok, ixd_c0, ixd_lst, ixd_tup, at0, at1, at2, at3, at4, asB_bl, lt_int, le_int, gt_int, ge_int, eq_int, ne_int, len_lst, len_tup, int_int, min_int, max_int, add_int, sub_int, wp_mul, wp_mod, wp_div, wp_pow, wp_ite, wp_set, wp_mklF, wp_mklT, wp_lenS, wp_tup, wp_addL, wp_addT, wp_addS, setC_c0, ixN5, List.set_cons_zero, List.set_cons_succ, List.length_set, decide_eq_true_eq, retv_rt, retv_nx, tr_bl, tr_int, is_non, isnot_non, ↓reduceIte, Nat.reduceAdd, Nat.reduceLT, Nat.reduceLeDiff, Int.reduceLT, Int.reduceLE, Int.reduceNeg, Int.reduceAdd, Nat.reducePow, Int.reduceToNat, Int.reducePow, true_and, and_true, true_or, or_true, and_self, or_self, if_true, if_false, Bool.false_eq_true, order, pick, Bool.not_true, Bool.not_false, Option.map_some, wp_noexc, Int.reduceEq, nz0, ofO_some, sz, ifF]; exact n1 _ fun n a b => .inr (.inr (.inr ⟨n, a, b, .inl rfl⟩))
  · simp -implicitDefEqProofs only [K02.fs0, K02.fs1, K02.fs2, K02.fs3, K02.fs4, K02.fs5, K02.fs6, K02.fs7, K02.fs8, K02.fs9, K02.fs10, K02.fs11, K02.f0, K02.f1, K02.f2, K02.f3, K02.f4, K02.f5, K02.f6, K02.f7, K02.f8, K02.f9, K02.f10, K02.f11, K02.h0, K02.h1, K02.h2, K02.h3, K02.h4, K02.h5, K02.h6, K02.h7, K02.h8, K02.h9, K02.h10, K02.h11, K02.gl0, eqq_0_0, eqq_0_1, eqq_0_2, eqq_0_3, eqq_0_4, eqq_0_5, eqq_1_0, eqq_1_1, eqq_1_2, eqq_1_3, eqq_1_4, eqq_1_5, eqq_2_0, eqq_2_1, eqq_2_2, eqq_2_3, eqq_2_4, eqq_2_5, eqq_3_0, eqq_3_1, eqq_3_2, eqq_3_3, eqq_3_4, eqq_3_5, eqq_4_0, eqq_4_1, eqq_4_2, eqq_4_3, eqq_4_4, eqq_4_5, eqq_5_0, eqq_5_1, eqq_5_2, eqq_5_3, eqq_5_4, eqq_5_5, eqq_6_0, eqq_6_1, eqq_6_2, eqq_6_3, eqq_6_4, eqq_6_5, in_sm_0, in_sm_1, in_sm_2, in_sm_3, in_sm_4, in_sm_5, in_sm_6, in_sml_0, in_sml_1, in_sml_2, in_sml_3, in_sml_4, in_sml_5, in_sml_6, in_kld_0, in_kld_1, in_kld_2, in_kld_3, in_kld_4, in_kld_5, in_kld_6, start0, List.map_cons, List.map_nil, List.length_cons, List.length_nil, List.replicate, List.cons_append, List.nil_append, List.append_nil, List.getElem?_cons_zero, List.getElem?_cons_succ, exs, ex, ev, evs, evT, evTA, evTO, evO, evI, evAnd, evOr, evC, wp_bind, wp_ok, wp_exc, wp_bad, wp_some, Rs.bind_ok, ixd_c0, ixd_lst, ixd_tup, at0, at1, at2, at3, at4, asB_bl, lt_int, le_int, gt_int, ge_int, eq_int, ne_int, len_lst, len_tup, int_int, min_int, max_int, add_int, sub_int, wp_mul, wp_mod, wp_div, wp_pow, wp_ite, wp_set, wp_mklF, wp_mklT, wp_lenS, wp_tup, wp_addL, wp_addT, wp_addS, setC_c0, ixN5, List.set_cons_zero, List.set_cons_succ, List.length_set, decide_eq_true_eq, retv_rt, retv_nx, tr_bl, tr_int, is_non, isnot_non, ↓reduceIte, Nat.reduceAdd, Nat.reduceLT, Nat.reduceLeDiff, Int.reduceLT, Int.reduceLE, Int.reduceNeg, Int.reduceAdd, Nat.reducePow, Int.reduceToNat, Int.reducePow, true_and, and_true, true_or, or_true, and_self, or_self, if_true, if_false, Bool.false_eq_true, order, pick, Bool.not_true, Bool.not_false, Option.map_some, wp_noexc, Int.reduceEq, nz0, ofO_some, sz, ifF]; exact n1 _ fun n a b => .inr (.inr (.inr ⟨n, a, b, .inr (.inl rfl)⟩))
  · simp -implicitDefEqProofs only [K02.fs0, K02.fs1, K02.fs2, K02.fs3, K02.fs4, K02.fs5, K02.fs6, K02.fs7, K02.fs8, K02.fs9, K02.fs10, K02.fs11, K02.f0, K02.f1, K02.f2, K02.f3, K02.f4, K02.f5, K02.f6, K02.f7, K02.f8, K02.f9, K02.f10, K02.f11, K02.h0, K02.h1, K02.h2, K02.h3, K02.h4, K02.h5, K02.h6, K02.h7, K02.h8, K02.h9, K02.h10, K02.h11, K02.gl0, eqq_0_0, eqq_0_1, eqq_0_2, eqq_0_3, eqq_0_4, eqq_0_5, eqq_1_0, eqq_1_1, eqq_1_2, eqq_1_3, eqq_1_4, eqq_1_5, eqq_2_0, eqq_2_1, eqq_2_2, eqq_2_3, eqq_2_4, eqq_2_5, eqq_3_0, eqq_3_1, eqq_3_2, eqq_3_3, eqq_3_4, eqq_3_5, eqq_4_0, eqq_4_1, eqq_4_2, eqq_4_3, eqq_4_4, eqq_4_5, eqq_5_0, eqq_5_1, eqq_5_2, eqq_5_3, eqq_5_4, eqq_5_5, eqq_6_0, eqq_6_1, eqq_6_2, eqq_6_3, eqq_6_4, eqq_6_5, in_sm_0, in_sm_1, in_sm_2, in_sm_3, in_sm_4, in_sm_5, in_sm_6, in_sml_0, in_sml_1, in_sml_2, in_sml_3, in_sml_4, in_sml_5, in_sml_6, in_kld_0, in_kld_1, in_kld_2, in_kld_3, in_kld_4, in_kld_5, in_kld_6, start0, List.map_cons, List.map_nil, List.length_cons, List.length_nil, List.replicate, List.cons_append, List.nil_append, List.append_nil, List.getElem?_cons_zero, List.getElem?_cons_succ, exs, ex, ev, evs, evT, evTA, evTO, evO, evI, evAnd, evOr, evC, wp_bind, wp_ok, wp_exc, wp_bad, wp_some, Rs.bind_ok, ixd_c0, ixd_lst, ixd_tup, at0, at1, at2, at3, at4, asB_bl, lt_int, le_int, gt_int, ge_int, eq_int, ne_int, len_lst, len_tup, int_int, min_int, max_int, add_int, sub_int, wp_mul, wp_mod, wp_div, wp_pow, wp_ite, wp_set, wp_mklF, wp_mklT, wp_lenS, wp_tup, wp_addL, wp_addT, wp_addS, setC_c0, ixN5, List.set_cons_zero, List.set_cons_succ, List.length_set, decide_eq_true_eq, retv_rt, retv_nx, tr_bl, tr_int, is_non, isnot_non, ↓reduceIte, Nat.reduceAdd, Nat.reduceLT, Nat.reduceLeDiff, Int.reduceLT, Int.reduceLE, Int.reduceNeg, Int.reduceAdd, Nat.reducePow, Int.reduceToNat, Int.reducePow, true_and, and_true, true_or, or_true, and_self, or_self, if_true, if_false, Bool.false_eq_true, order, pick, Bool.not_true, Bool.not_false, Option.map_some, wp_noexc, Int.reduceEq, nz0, ofO_some, sz, ifF]; exact n1 _ fun n a b => .inr (.inr (.inr ⟨n, a, b, .inr (.inr (.inr rfl))⟩))
theorem w_life {k : Nat} {r s : Sto} (h : Srced r s) {c : Int} (h0 : 1 ≤ c) (h1 : c < 2 ^ 200) :
    Wp (calls P (k + 3) 9 [.cell 0, .int c] s) fun d s' => Srced r s' ∧ LifeR c d := by
  refine wp_call rfl rfl ?_
  simp -implicitDefEqProofs only [K02.fs0, K02.fs1, K02.fs2, K02.fs3, K02.fs4, K02.fs5, K02.fs6, K02.fs7, K02.fs8, K02.fs9, K02.fs10, K02.fs11, K02.f0, K02.f1, K02.f2, K02.f3, K02.f4, K02.f5, K02.f6, K02.f7, K02.f8, K02.f9, K02.f10, K02.f11, K02.h0, K02.h1, K02.h2, K02.h3, K02.h4, K02.h5, K02.h6, K02.h7, K02.h8, K02.h9, K02.h10, K02.h11, K02.gl0, b9, Int.reduceSub, smallI, start0, List.map_cons, List.map_nil, List.length_cons, List.length_nil, List.replicate, List.cons_append, List.nil_append, List.append_nil, List.getElem?_cons_zero, List.getElem?_cons_succ, exs, ex, ev, evs, evT, evTA, evTO, evO, evI, evAnd, evOr, evC, wp_bind, wp_ok, wp_exc, wp_bad, wp_some, Rs.bind_ok, ixd_c0, ixd_lst, ixd_tup, at0, at1, at2, at3, at4, asB_bl, lt_int, le_int, gt_int, ge_int, eq_int, ne_int, len_lst, len_tup, int_int, min_int, max_int, add_int, sub_int, wp_mul, wp_mod, wp_div, wp_pow, wp_ite, wp_set, wp_mklF, wp_mklT, wp_lenS, wp_tup, wp_addL, wp_addT, wp_addS, setC_c0, ixN5, List.set_cons_zero, List.set_cons_succ, List.length_set, decide_eq_true_eq, retv_rt, retv_nx, tr_bl, tr_int, is_non, isnot_non, ↓reduceIte, Nat.reduceAdd, Nat.reduceLT, Nat.reduceLeDiff, Int.reduceLT, Int.reduceLE, Int.reduceNeg, Int.reduceAdd, Nat.reducePow, Int.reduceToNat, Int.reducePow, true_and, and_true, true_or, or_true, and_self, or_self, if_true, if_false, Bool.false_eq_true, order, pick, Bool.not_true, Bool.not_false, Option.map_some, wp_noexc, Int.reduceEq, nz0, ofO_some, sz, ifF]
  refine wp_comp (Srced r) (LifeR c) (ranged 0 3) h all_nil (by decide) ?_ ?_
  · intro d hd s h
    obtain ⟨i, _, _, rfl⟩ := range_mem hd
    refine ⟨_, rfl, ?_⟩
    simp -implicitDefEqProofs only [K02.fs0, K02.fs1, K02.fs2, K02.fs3, K02.fs4, K02.fs5, K02.fs6, K02.fs7, K02.fs8, K02.fs9, K02.fs10, K02.fs11, K02.f0, K02.f1, K02.f2, K02.f3, K02.f4, K02.f5, K02.f6, K02.f7, K02.f8, K02.f9, K02.f10, K02.f11, K02.h0, K02.h1, K02.h2, K02.h3, K02.h4, K02.h5, K02.h6, K02.h7, K02.h8, K02.h9, K02.h10, K02.h11, K02.gl0, wipeE, start0, List.map_cons, List.map_nil, List.length_cons, List.length_nil, List.replicate, List.cons_append, List.nil_append, List.append_nil, List.getElem?_cons_zero, List.getElem?_cons_succ, exs, ex, ev, evs, evT, evTA, evTO, evO, evI, evAnd, evOr, evC, wp_bind, wp_ok, wp_exc, wp_bad, wp_some, Rs.bind_ok, ixd_c0, ixd_lst, ixd_tup, at0, at1, at2, at3, at4, asB_bl, lt_int, le_int, gt_int, ge_int, eq_int, ne_int, len_lst, len_tup, int_int, min_int, max_int, add_int, sub_int, wp_mul, wp_mod, wp_div, wp_pow, wp_ite, wp_set, wp_mklF, wp_mklT, wp_lenS, wp_tup, wp_addL, wp_addT, wp_addS, setC_c0, ixN5, List.set_cons_zero, List.set_cons_succ, List.length_set, decide_eq_true_eq, retv_rt, retv_nx, tr_bl, tr_int, is_non, isnot_non, ↓reduceIte, Nat.reduceAdd, Nat.reduceLT, Nat.reduceLeDiff, Int.reduceLT, Int.reduceLE, Int.reduceNeg, Int.reduceAdd, Nat.reducePow, Int.reduceToNat, Int.reducePow, true_and, and_true, true_or, or_true, and_self, or_self, if_true, if_false, Bool.false_eq_true, order, pick, Bool.not_true, Bool.not_false, Option.map_some, wp_noexc, Int.reduceEq, nz0, ofO_some, sz, ifF]
    refine (w_number h h0 h1).mono ?_
    rintro d s1 ⟨h, n, a, b, rfl⟩
    exact ⟨h, .inr (.inr ⟨n, a, b, rfl⟩)⟩
  · intro ys s h hy hl
    have hl' : ys.length ≤ 3 := hl
    (try simp -implicitDefEqProofs only [K02.fs0, K02.fs1, K02.fs2, K02.fs3, K02.fs4, K02.fs5, K02.fs6, K02.fs7, K02.fs8, K02.fs9, K02.fs10, K02.fs11, K02.f0, K02.f1, K02.f2, K02.f3, K02.f4, K02.f5, K02.f6, K02.f7, K02.f8, K02.f9, K02.f10, K02.f11, K02.h0, K02.h1, K02.h2, K02.h3, K02.h4, K02.h5, K02.h6, K02.h7, K02.h8, K02.h9, K02.h10, K02.h11, K02.gl0, start0, List.map_cons, List.map_nil, List.length_cons, List.length_nil, List.replicate, List.cons_append, List.nil_append, List.append_nil, List.getElem?_cons_zero, List.getElem?_cons_succ, exs, ex, ev, evs, evT, evTA, evTO, evO, evI, evAnd, evOr, evC, wp_bind, wp_ok, wp_exc, wp_bad, wp_some, Rs.bind_ok, ixd_c0, ixd_lst, ixd_tup, at0, at1, at2, at3, at4, asB_bl, lt_int, le_int, gt_int, ge_int, eq_int, ne_int, len_lst, len_tup, int_int, min_int, max_int, add_int, sub_int, wp_mul, wp_mod, wp_div, wp_pow, wp_ite, wp_set, wp_mklF, wp_mklT, wp_lenS, wp_tup, wp_addL, wp_addT, wp_addS, setC_c0, ixN5, List.set_cons_zero, List.set_cons_succ, List.length_set, decide_eq_true_eq, retv_rt, retv_nx, tr_bl, tr_int, is_non, isnot_non, ↓reduceIte, Nat.reduceAdd, Nat.reduceLT, Nat.reduceLeDiff, Int.reduceLT, Int.reduceLE, Int.reduceNeg, Int.reduceAdd, Nat.reducePow, Int.reduceToNat, Int.reducePow, true_and, and_true, true_or, or_true, and_self, or_self, if_true, if_false, Bool.false_eq_true, order, pick, Bool.not_true, Bool.not_false, Option.map_some, wp_noexc, Int.reduceEq, nz0, ofO_some, sz, ifF])
    refine ⟨by omega, by omega, ?_⟩
    refine (w_of h (by simp) (by simp; omega)).mono ?_
    rintro d s1 ⟨h, hd⟩
    (try simp -implicitDefEqProofs only [K02.fs0, K02.fs1, K02.fs2, K02.fs3, K02.fs4, K02.fs5, K02.fs6, K02.fs7, K02.fs8, K02.fs9, K02.fs10, K02.fs11, K02.f0, K02.f1, K02.f2, K02.f3, K02.f4, K02.f5, K02.f6, K02.f7, K02.f8, K02.f9, K02.f10, K02.f11, K02.h0, K02.h1, K02.h2, K02.h3, K02.h4, K02.h5, K02.h6, K02.h7, K02.h8, K02.h9, K02.h10, K02.h11, K02.gl0, start0, List.map_cons, List.map_nil, List.length_cons, List.length_nil, List.replicate, List.cons_append, List.nil_append, List.append_nil, List.getElem?_cons_zero, List.getElem?_cons_succ, exs, ex, ev, evs, evT, evTA, evTO, evO, evI, evAnd, evOr, evC, wp_bind, wp_ok, wp_exc, wp_bad, wp_some, Rs.bind_ok, ixd_c0, ixd_lst, ixd_tup, at0, at1, at2, at3, at4, asB_bl, lt_int, le_int, gt_int, ge_int, eq_int, ne_int, len_lst, len_tup, int_int, min_int, max_int, add_int, sub_int, wp_mul, wp_mod, wp_div, wp_pow, wp_ite, wp_set, wp_mklF, wp_mklT, wp_lenS, wp_tup, wp_addL, wp_addT, wp_addS, setC_c0, ixN5, List.set_cons_zero, List.set_cons_succ, List.length_set, decide_eq_true_eq, retv_rt, retv_nx, tr_bl, tr_int, is_non, isnot_non, ↓reduceIte, Nat.reduceAdd, Nat.reduceLT, Nat.reduceLeDiff, Int.reduceLT, Int.reduceLE, Int.reduceNeg, Int.reduceAdd, Nat.reducePow, Int.reduceToNat, Int.reducePow, true_and, and_true, true_or, or_true, and_self, or_self, if_true, if_false, Bool.false_eq_true, order, pick, Bool.not_true, Bool.not_false, Option.map_some, wp_noexc, Int.reduceEq, nz0, ofO_some, sz, ifF])
    refine ⟨h, ?_⟩
    simp only [List.mem_cons, List.not_mem_nil, or_false] at hd
    rcases hd with rfl | rfl | hd
    · exact .inl rfl
    · exact .inr (.inl rfl)
    · exact hy d hd
theorem c_lasting {k : Nat} {M : Int} {a : Dt} (ha : ActR M a) (s : Sto) : ∃ d, LifeR M d ∧ (∀ k, calls P (k + 1) 0 [a] s = .ok d s) ∧ (∀ k c, calls P (k + 1) 10 [.str "lasting", a, .int c] s = .ok d s) := by
  rcases ha with rfl | rfl | rfl | ⟨n, n1, n2, rfl | rfl | rfl | rfl⟩
  · refine ⟨.str "lasting", .inr (.inl rfl), fun k => eq_of_wp (wp_call rfl rfl ?_), fun k c => eq_of_wp (wp_call rfl rfl ?_)⟩
    · simp -implicitDefEqProofs only [K02.fs0, K02.fs1, K02.fs2, K02.fs3, K02.fs4, K02.fs5, K02.fs6, K02.fs7, K02.fs8, K02.fs9, K02.fs10, K02.fs11, K02.f0, K02.f1, K02.f2, K02.f3, K02.f4, K02.f5, K02.f6, K02.f7, K02.f8, K02.f9, K02.f10, K02.f11, K02.h0, K02.h1, K02.h2, K02.h3, K02.h4, K02.h5, K02.h6, K02.h7, K02.h8, K02.h9, K02.h10, K02.h11, K02.gl0, b0, eqq_0_0, eqq_0_1, eqq_0_2, eqq_0_3, eqq_0_4, eqq_0_5, eqq_1_0, eqq_1_1, eqq_1_2, eqq_1_3, eqq_1_4, eqq_1_5, eqq_2_0, eqq_2_1, eqq_2_2, eqq_2_3, eqq_2_4, eqq_2_5, eqq_3_0, eqq_3_1, eqq_3_2, eqq_3_3, eqq_3_4, eqq_3_5, eqq_4_0, eqq_4_1, eqq_4_2, eqq_4_3, eqq_4_4, eqq_4_5, eqq_5_0, eqq_5_1, eqq_5_2, eqq_5_3, eqq_5_4, eqq_5_5, eqq_6_0, eqq_6_1, eqq_6_2, eqq_6_3, eqq_6_4, eqq_6_5, in_sm_0, in_sm_1, in_sm_2, in_sm_3, in_sm_4, in_sm_5, in_sm_6, in_sml_0, in_sml_1, in_sml_2, in_sml_3, in_sml_4, in_sml_5, in_sml_6, in_kld_0, in_kld_1, in_kld_2, in_kld_3, in_kld_4, in_kld_5, in_kld_6, start0, List.map_cons, List.map_nil, List.length_cons, List.length_nil, List.replicate, List.cons_append, List.nil_append, List.append_nil, List.getElem?_cons_zero, List.getElem?_cons_succ, exs, ex, ev, evs, evT, evTA, evTO, evO, evI, evAnd, evOr, evC, wp_bind, wp_ok, wp_exc, wp_bad, wp_some, Rs.bind_ok, ixd_c0, ixd_lst, ixd_tup, at0, at1, at2, at3, at4, asB_bl, lt_int, le_int, gt_int, ge_int, eq_int, ne_int, len_lst, len_tup, int_int, min_int, max_int, add_int, sub_int, wp_mul, wp_mod, wp_div, wp_pow, wp_ite, wp_set, wp_mklF, wp_mklT, wp_lenS, wp_tup, wp_addL, wp_addT, wp_addS, setC_c0, ixN5, List.set_cons_zero, List.set_cons_succ, List.length_set, decide_eq_true_eq, retv_rt, retv_nx, tr_bl, tr_int, is_non, isnot_non, ↓reduceIte, Nat.reduceAdd, Nat.reduceLT, Nat.reduceLeDiff, Int.reduceLT, Int.reduceLE, Int.reduceNeg, Int.reduceAdd, Nat.reducePow, Int.reduceToNat, Int.reducePow, true_and, and_true, true_or, or_true, and_self, or_self, if_true, if_false, Bool.false_eq_true, order, pick, Bool.not_true, Bool.not_false, Option.map_some, wp_noexc, Int.reduceEq, nz0, ofO_some, sz, ifF]
    · simp -implicitDefEqProofs only [K02.fs0, K02.fs1, K02.fs2, K02.fs3, K02.fs4, K02.fs5, K02.fs6, K02.fs7, K02.fs8, K02.fs9, K02.fs10, K02.fs11, K02.f0, K02.f1, K02.f2, K02.f3, K02.f4, K02.f5, K02.f6, K02.f7, K02.f8, K02.f9, K02.f10, K02.f11, K02.h0, K02.h1, K02.h2, K02.h3, K02.h4, K02.h5, K02.h6, K02.h7, K02.h8, K02.h9, K02.h10, K02.h11, K02.gl0, b10, eqq_0_0, eqq_0_1, eqq_0_2, eqq_0_3, eqq_0_4, eqq_0_5, eqq_1_0, eqq_1_1, eqq_1_2, eqq_1_3, eqq_1_4, eqq_1_5, eqq_2_0, eqq_2_1, eqq_2_2, eqq_2_3, eqq_2_4, eqq_2_5, eqq_3_0, eqq_3_1, eqq_3_2, eqq_3_3, eqq_3_4, eqq_3_5, eqq_4_0, eqq_4_1, eqq_4_2, eqq_4_3, eqq_4_4, eqq_4_5, eqq_5_0, eqq_5_1, eqq_5_2, eqq_5_3, eqq_5_4, eqq_5_5, eqq_6_0, eqq_6_1, eqq_6_2, eqq_6_3, eqq_6_4, eqq_6_5, in_sm_0, in_sm_1, in_sm_2, in_sm_3, in_sm_4, in_sm_5, in_sm_6, in_sml_0, in_sml_1, in_sml_2, in_sml_3, in_sml_4, in_sml_5, in_sml_6, in_kld_0, in_kld_1, in_kld_2, in_kld_3, in_kld_4, in_kld_5, in_kld_6, TK.isNon, start0, List.map_cons, List.map_nil, List.length_cons, List.length_nil, List.replicate, List.cons_append, List.nil_append, List.append_nil, List.getElem?_cons_zero, List.getElem?_cons_succ, exs, ex, ev, evs, evT, evTA, evTO, evO, evI, evAnd, evOr, evC, wp_bind, wp_ok, wp_exc, wp_bad, wp_some, Rs.bind_ok, ixd_c0, ixd_lst, ixd_tup, at0, at1, at2, at3, at4, asB_bl, lt_int, le_int, gt_int, ge_int, eq_int, ne_int, len_lst, len_tup, int_int, min_int, max_int, add_int, sub_int, wp_mul, wp_mod, wp_div, wp_pow, wp_ite, wp_set, wp_mklF, wp_mklT, wp_lenS, wp_tup, wp_addL, wp_addT, wp_addS, setC_c0, ixN5, List.set_cons_zero, List.set_cons_succ, List.length_set, decide_eq_true_eq, retv_rt, retv_nx, tr_bl, tr_int, is_non, isnot_non, ↓reduceIte, Nat.reduceAdd, Nat.reduceLT, Nat.reduceLeDiff, Int.reduceLT, Int.reduceLE, Int.reduceNeg, Int.reduceAdd, Nat.reducePow, Int.reduceToNat, Int.reducePow, true_and, and_true, true_or, or_true, and_self, or_self, if_true, if_false, Bool.false_eq_true, order, pick, Bool.not_true, Bool.not_false, Option.map_some, wp_noexc, Int.reduceEq, nz0, ofO_some, sz, ifF]
  · refine ⟨.str "lasting", .inr (.inl rfl), fun k => eq_of_wp (wp_call rfl rfl ?_), fun k c => eq_of_wp (wp_call rfl rfl ?_)⟩
    · simp -implicitDefEqProofs only [K02.fs0, K02.fs1, K02.fs2, K02.fs3, K02.fs4, K02.fs5, K02.fs6, K02.fs7, K02.fs8, K02.fs9, K02.fs10, K02.fs11, K02.f0, K02.f1, K02.f2, K02.f3, K02.f4, K02.f5, K02.f6, K02.f7, K02.f8, K02.f9, K02.f10, K02.f11, K02.h0, K02.h1, K02.h2, K02.h3, K02.h4, K02.h5, K02.h6, K02.h7, K02.h8, K02.h9, K02.h10, K02.h11, K02.gl0, b0, eqq_0_0, eqq_0_1, eqq_0_2, eqq_0_3, eqq_0_4, eqq_0_5, eqq_1_0, eqq_1_1, eqq_1_2, eqq_1_3, eqq_1_4, eqq_1_5, eqq_2_0, eqq_2_1, eqq_2_2, eqq_2_3, eqq_2_4, eqq_2_5, eqq_3_0, eqq_3_1, eqq_3_2, eqq_3_3, eqq_3_4, eqq_3_5, eqq_4_0, eqq_4_1, eqq_4_2, eqq_4_3, eqq_4_4, eqq_4_5, eqq_5_0, eqq_5_1, eqq_5_2, eqq_5_3, eqq_5_4, eqq_5_5, eqq_6_0, eqq_6_1, eqq_6_2, eqq_6_3, eqq_6_4, eqq_6_5, in_sm_0, in_sm_1, in_sm_2, in_sm_3, in_sm_4, in_sm_5, in_sm_6, in_sml_0, in_sml_1, in_sml_2, in_sml_3, in_sml_4, in_sml_5, in_sml_6, in_kld_0, in_kld_1, in_kld_2, in_kld_3, in_kld_4, in_kld_5, in_kld_6, start0, List.map_cons, List.map_nil, List.length_cons, List.length_nil, List.replicate, List.cons_append, List.nil_append, List.append_nil, List.getElem?_cons_zero, List.getElem?_cons_succ, exs, ex, ev, evs, evT, evTA, evTO, evO, evI, evAnd, evOr, evC, wp_bind, wp_ok, wp_exc, wp_bad, wp_some, Rs.bind_ok, ixd_c0, ixd_lst, ixd_tup, at0, at1, at2, at3, at4, asB_bl, lt_int, le_int, gt_int, ge_int, eq_int, ne_int, len_lst, len_tup, int_int, min_int, max_int, add_int, sub_int, wp_mul, wp_mod, wp_div, wp_pow, wp_ite, wp_set, wp_mklF, wp_mklT, wp_lenS, wp_tup, wp_addL, wp_addT, wp_addS, setC_c0, ixN5, List.set_cons_zero, List.set_cons_succ, List.length_set, decide_eq_true_eq, retv_rt, retv_nx, tr_bl, tr_int, is_non, isnot_non, ↓reduceIte, Nat.reduceAdd, Nat.reduceLT, Nat.reduceLeDiff, Int.reduceLT, Int.reduceLE, Int.reduceNeg, Int.reduceAdd, Nat.reducePow, Int.reduceToNat, Int.reducePow, true_and, and_true, true_or, or_true, and_self, or_self, if_true, if_false, Bool.false_eq_true, order, pick, Bool.not_true, Bool.not_false, Option.map_some, wp_noexc, Int.reduceEq, nz0, ofO_some, sz, ifF]
    · simp -implicitDefEqProofs only [K02.fs0, K02.fs1, K02.fs2, K02.fs3, K02.fs4, K02.fs5, K02.fs6, K02.fs7, K02.fs8, K02.fs9, K02.fs10, K02.fs11, K02.f0, K02.f1, K02.f2, K02.f3, K02.f4, K02.f5, K02.f6, K02.f7, K02.f8, K02.f9, K02.f10, K02.f11, K02.h0, K02.h1, K02.h2, K02.h3, K02.h4, K02.h5, K02.h6, K02.h7, K02.h8, K02.h9, K02.h10, K02.h11, K02.gl0, b10, eqq_0_0, eqq_0_1, eqq_0_2, eqq_0_3, eqq_0_4, eqq_0_5, eqq_1_0, eqq_1_1, eqq_1_2, eqq_1_3, eqq_1_4, eqq_1_5, eqq_2_0, eqq_2_1, eqq_2_2, eqq_2_3, eqq_2_4, eqq_2_5, eqq_3_0, eqq_3_1, eqq_3_2, eqq_3_3, eqq_3_4, eqq_3_5, eqq_4_0, eqq_4_1, eqq_4_2, eqq_4_3, eqq_4_4, eqq_4_5, eqq_5_0, eqq_5_1, eqq_5_2, eqq_5_3, eqq_5_4, eqq_5_5, eqq_6_0, eqq_6_1, eqq_6_2, eqq_6_3, eqq_6_4, eqq_6_5, in_sm_0, in_sm_1, in_sm_2, in_sm_3, in_sm_4, in_sm_5, in_sm_6, in_sml_0, in_sml_1, in_sml_2, in_sml_3, in_sml_4, in_sml_5, in_sml_6, in_kld_0, in_kld_1, in_kld_2, in_kld_3, in_kld_4, in_kld_5, in_kld_6, TK.isNon, start0, List.map_cons, List.map_nil, List.length_cons, List.length_nil, List.replicate, List.cons_append, List.nil_append, List.append_nil, List.getElem?_cons_zero, List.getElem?_cons_succ, exs, ex, ev, evs, evT, evTA, evTO, evO, evI, evAnd, evOr, evC, wp_bind, wp_ok, wp_exc, wp_bad, wp_some, Rs.bind_ok, ixd_c0, ixd_lst, ixd_tup, at0, at1, at2, at3, at4, asB_bl, lt_int, le_int, gt_int, ge_int, eq_int, ne_int, len_lst, len_tup, int_int, min_int, max_int, add_int, sub_int, wp_mul, wp_mod, wp_div, wp_pow, wp_ite, wp_set, wp_mklF, wp_mklT, wp_lenS, wp_tup, wp_addL, wp_addT, wp_addS, setC_c0, ixN5, List.set_cons_zero, List.set_cons_succ, List.length_set, decide_eq_true_eq, retv_rt, retv_nx, tr_bl, tr_int, is_non, isnot_non, ↓reduceIte, Nat.reduceAdd, Nat.reduceLT, Nat.reduceLeDiff, Int.reduceLT, Int.reduceLE, Int.reduceNeg, Int.reduceAdd, Nat.reducePow, Int.reduceToNat, Int.reducePow, true_and, and_true, true_or, or_true, and_self, or_self, if_true, if_false, Bool.false_eq_true, order, pick, Bool.not_true, Bool.not_false, Option.map_some, wp_noexc, Int.reduceEq, nz0, ofO_some, sz, ifF]
  · refine ⟨.non, .inl rfl, fun k => eq_of_wp (wp_call rfl rfl ?_), fun k c => eq_of_wp (wp_call rfl rfl ?_)⟩
    · simp -implicitDefEqProofs only [K02.fs0, K02.fs1, K02.fs2, K02.fs3, K02.fs4, K02.fs5, K02.fs6, K02.fs7, K02.fs8, K02.fs9, K02.fs10, K02.fs11, K02.f0, K02.f1, K02.f2, K02.f3, K02.f4, K02.f5, K02.f6, K02.f7, K02.f8, K02.f9, K02.f10, K02.f11, K02.h0, K02.h1, K02.h2, K02.h3, K02.h4, K02.h5, K02.h6, K02.h7, K02.h8, K02.h9, K02.h10, K02.h11, K02.gl0, b0, eqq_0_0, eqq_0_1, eqq_0_2, eqq_0_3, eqq_0_4, eqq_0_5, eqq_1_0, eqq_1_1, eqq_1_2, eqq_1_3, eqq_1_4, eqq_1_5, eqq_2_0, eqq_2_1, eqq_2_2, eqq_2_3, eqq_2_4, eqq_2_5, eqq_3_0, eqq_3_1, eqq_3_2, eqq_3_3, eqq_3_4, eqq_3_5, eqq_4_0, eqq_4_1, eqq_4_2, eqq_4_3, eqq_4_4, eqq_4_5, eqq_5_0, eqq_5_1, eqq_5_2, eqq_5_3, eqq_5_4, eqq_5_5, eqq_6_0, eqq_6_1, eqq_6_2, eqq_6_3, eqq_6_4, eqq_6_5, in_sm_0, in_sm_1, in_sm_2, in_sm_3, in_sm_4, in_sm_5, in_sm_6, in_sml_0, in_sml_1, in_sml_2, in_sml_3, in_sml_4, in_sml_5, in_sml_6, in_kld_0, in_kld_1, in_kld_2, in_kld_3, in_kld_4, in_kld_5, in_kld_6, start0, List.map_cons, List.map_nil, List.length_cons, List.length_nil, List.replicate, List.cons_append, List.nil_append, List.append_nil, List.getElem?_cons_zero, List.getElem?_cons_succ, exs, ex, ev, evs, evT, evTA, evTO, evO, evI, evAnd, evOr, evC, wp_bind, wp_ok, wp_exc, wp_bad, wp_some, Rs.bind_ok, ixd_c0, ixd_lst, ixd_tup, at0, at1, at2, at3, at4, asB_bl, lt_int, le_int, gt_int, ge_int, eq_int, ne_int, len_lst, len_tup, int_int, min_int, max_int, add_int, sub_int, wp_mul, wp_mod, wp_div, wp_pow, wp_ite, wp_set, wp_mklF, wp_mklT, wp_lenS, wp_tup, wp_addL, wp_addT, wp_addS, setC_c0, ixN5, List.set_cons_zero, List.set_cons_succ, List.length_set, decide_eq_true_eq, retv_rt, retv_nx, tr_bl, tr_int, is_non, isnot_non, ↓reduceIte, Nat.reduceAdd, Nat.reduceLT, Nat.reduceLeDiff, Int.reduceLT, Int.reduceLE, Int.reduceNeg, Int.reduceAdd, Nat.reducePow, Int.reduceToNat, Int.reducePow, true_and, and_true, true_or, or_true, and_self, or_self, if_true, if_false, Bool.false_eq_true, order, pick, Bool.not_true, Bool.not_false, Option.map_some, wp_noexc, Int.reduceEq, nz0, ofO_some, sz, ifF]
    · simp -implicitDefEqProofs only [K02.fs0, K02.fs1, K02.fs2, K02.fs3, K02.fs4, K02.fs5, K02.fs6, K02.fs7, K02.fs8, K02.fs9, K02.fs10, K02.fs11, K02.f0, K02.f1, K02.f2, K02.f3, K02.f4, K02.f5, K02.f6, K02.f7, K02.f8, K02.f9, K02.f10, K02.f11, K02.h0, K02.h1, K02.h2, K02.h3, K02.h4, K02.h5, K02.h6, K02.h7, K02.h8, K02.h9, K02.h10, K02.h11, K02.gl0, b10, eqq_0_0, eqq_0_1, eqq_0_2, eqq_0_3, eqq_0_4, eqq_0_5, eqq_1_0, eqq_1_1, eqq_1_2, eqq_1_3, eqq_1_4, eqq_1_5, eqq_2_0, eqq_2_1, eqq_2_2, eqq_2_3, eqq_2_4, eqq_2_5, eqq_3_0, eqq_3_1, eqq_3_2, eqq_3_3, eqq_3_4, eqq_3_5, eqq_4_0, eqq_4_1, eqq_4_2, eqq_4_3, eqq_4_4, eqq_4_5, eqq_5_0, eqq_5_1, eqq_5_2, eqq_5_3, eqq_5_4, eqq_5_5, eqq_6_0, eqq_6_1, eqq_6_2, eqq_6_3, eqq_6_4, eqq_6_5, in_sm_0, in_sm_1, in_sm_2, in_sm_3, in_sm_4, in_sm_5, in_sm_6, in_sml_0, in_sml_1, in_sml_2, in_sml_3, in_sml_4, in_sml_5, in_sml_6, in_kld_0, in_kld_1, in_kld_2, in_kld_3, in_kld_4, in_kld_5, in_kld_6, TK.isNon, start0, List.map_cons, List.map_nil, List.length_cons, List.length_nil, List.replicate, List.cons_append, List.nil_append, List.append_nil, List.getElem?_cons_zero, List.getElem?_cons_succ, exs, ex, ev, evs, evT, evTA, evTO, evO, evI, evAnd, evOr, evC, wp_bind, wp_ok, wp_exc, wp_bad, wp_some, Rs.bind_ok, ixd_c0, ixd_lst, ixd_tup, at0, at1, at2, at3, at4, asB_bl, lt_int, le_int, gt_int, ge_int, eq_int, ne_int, len_lst, len_tup, int_int, min_int, max_int, add_int, sub_int, wp_mul, wp_mod, wp_div, wp_pow, wp_ite, wp_set, wp_mklF, wp_mklT, wp_lenS, wp_tup, wp_addL, wp_addT, wp_addS, setC_c0, ixN5, List.set_cons_zero, List.set_cons_succ, List.length_set, decide_eq_true_eq, retv_rt, retv_nx, tr_bl, tr_int, is_non, isnot_non, ↓reduceIte, Nat.reduceAdd, Nat.reduceLT, Nat.reduceLeDiff, Int.reduceLT, Int.reduceLE, Int.reduceNeg, Int.reduceAdd, Nat.reducePow, Int.reduceToNat, Int.reducePow, true_and, and_true, true_or, or_true, and_self, or_self, if_true, if_false, Bool.false_eq_true, order, pick, Bool.not_true, Bool.not_false, Option.map_some, wp_noexc, Int.reduceEq, nz0, ofO_some, sz, ifF]
  · refine ⟨.int n, .inr (.inr ⟨n, n1, n2, rfl⟩), fun k => eq_of_wp (wp_call rfl rfl ?_), fun k c => eq_of_wp (wp_call rfl rfl ?_)⟩
    · simp -implicitDefEqProofs only [K02.fs0, K02.fs1, K02.fs2, K02.fs3, K02.fs4, K02.fs5, K02.fs6, K02.fs7, K02.fs8, K02.fs9, K02.fs10, K02.fs11, K02.f0, K02.f1, K02.f2, K02.f3, K02.f4, K02.f5, K02.f6, K02.f7, K02.f8, K02.f9, K02.f10, K02.f11, K02.h0, K02.h1, K02.h2, K02.h3, K02.h4, K02.h5, K02.h6, K02.h7, K02.h8, K02.h9, K02.h10, K02.h11, K02.gl0, b0, eqq_0_0, eqq_0_1, eqq_0_2, eqq_0_3, eqq_0_4, eqq_0_5, eqq_1_0, eqq_1_1, eqq_1_2, eqq_1_3, eqq_1_4, eqq_1_5, eqq_2_0, eqq_2_1, eqq_2_2, eqq_2_3, eqq_2_4, eqq_2_5, eqq_3_0, eqq_3_1, eqq_3_2, eqq_3_3, eqq_3_4, eqq_3_5, eqq_4_0, eqq_4_1, eqq_4_2, eqq_4_3, eqq_4_4, eqq_4_5, eqq_5_0, eqq_5_1, eqq_5_2, eqq_5_3, eqq_5_4, eqq_5_5, eqq_6_0, eqq_6_1, eqq_6_2, eqq_6_3, eqq_6_4, eqq_6_5, in_sm_0, in_sm_1, in_sm_2, in_sm_3, in_sm_4, in_sm_5, in_sm_6, in_sml_0, in_sml_1, in_sml_2, in_sml_3, in_sml_4, in_sml_5, in_sml_6, in_kld_0, in_kld_1, in_kld_2, in_kld_3, in_kld_4, in_kld_5, in_kld_6, start0, List.map_cons, List.map_nil, List.length_cons, List.length_nil, List.replicate, List.cons_append, List.nil_append, List.append_nil, List.getElem?_cons_zero, List.getElem?_cons_succ, exs, ex, ev, evs, evT, evTA, evTO, evO, evI, evAnd, evOr, evC, wp_bind, wp_ok, wp_exc, wp_bad, wp_some, Rs.bind_ok, ixd_c0, ixd_lst, ixd_tup, at0, at1, at2, at3, at4, asB_bl, lt_int, le_int, gt_int, ge_int, eq_int, ne_int, len_lst, len_tup, int_int, min_int, max_int, add_int, sub_int, wp_mul, wp_mod, wp_div, wp_pow, wp_ite, wp_set, wp_mklF, wp_mklT, wp_lenS, wp_tup, wp_addL, wp_addT, wp_addS, setC_c0, ixN5, List.set_cons_zero, List.set_cons_succ, List.length_set, decide_eq_true_eq, retv_rt, retv_nx, tr_bl, tr_int, is_non, isnot_non, ↓reduceIte, Nat.reduceAdd, Nat.reduceLT, Nat.reduceLeDiff, Int.reduceLT, Int.reduceLE, Int.reduceNeg, Int.reduceAdd, Nat.reducePow, Int.reduceToNat, Int.reducePow, true_and, and_true, true_or, or_true, and_self, or_self, if_true, if_false, Bool.false_eq_true, order, pick, Bool.not_true, Bool.not_false, Option.map_some, wp_noexc, Int.reduceEq, nz0, ofO_some, sz, ifF]
    · simp -implicitDefEqProofs only [K02.fs0, K02.fs1, K02.fs2, K02.fs3, K02.fs4, K02.fs5, K02.fs6, K02.fs7, K02.fs8, K02.fs9, K02.fs10, K02.fs11, K02.f0, K02.f1, K02.f2, K02.f3, K02.f4, K02.f5, K02.f6, K02.f7, K02.f8, K02.f9, K02.f10, K02.f11, K02.h0, K02.h1, K02.h2, K02.h3, K02.h4, K02.h5, K02.h6, K02.h7, K02.h8, K02.h9, K02.h10, K02.h11, K02.gl0, b10, eqq_0_0, eqq_0_1, eqq_0_2, eqq_0_3, eqq_0_4, eqq_0_5, eqq_1_0, eqq_1_1, eqq_1_2, eqq_1_3, eqq_1_4, eqq_1_5, eqq_2_0, eqq_2_1, eqq_2_2, eqq_2_3, eqq_2_4, eqq_2_5, eqq_3_0, eqq_3_1, eqq_3_2, eqq_3_3, eqq_3_4, eqq_3_5, eqq_4_0, eqq_4_1, eqq_4_2, eqq_4_3, eqq_4_4, eqq_4_5, eqq_5_0, eqq_5_1, eqq_5_2, eqq_5_3, eqq_5_4, eqq_5_5, eqq_6_0, eqq_6_1, eqq_6_2, eqq_6_3, eqq_6_4, eqq_6_5, in_sm_0, in_sm_1, in_sm_2, in_sm_3, in_sm_4, in_sm_5, in_sm_6, in_sml_0, in_sml_1, in_sml_2, in_sml_3, in_sml_4, in_sml_5, in_sml_6, in_kld_0, in_kld_1, in_kld_2, in_kld_3, in_kld_4, in_kld_5, in_kld_6, TK.isNon, start0, List.map_cons, List.map_nil, List.length_cons, List.length_nil, List.replicate, List.cons_append, List.nil_append, List.append_nil, List.getElem?_cons_zero, List.getElem?_cons_succ, exs, ex, ev, evs, evT, evTA, evTO, evO, evI, evAnd, evOr, evC, wp_bind, wp_ok, wp_exc, wp_bad, wp_some, Rs.bind_ok, ixd_c0, ixd_lst, ixd_tup, at0, at1, at2, at3, at4, asB_bl, lt_int, le_int, gt_int, ge_int, eq_int, ne_int, len_lst, len_tup, int_int, min_int, max_int, add_int, sub_int, wp_mul, wp_mod, wp_div, wp_pow, wp_ite, wp_set, wp_mklF, wp_mklT, wp_lenS, wp_tup, wp_addL, wp_addT, wp_addS, setC_c0, ixN5, List.set_cons_zero, List.set_cons_succ, List.length_set, decide_eq_true_eq, retv_rt, retv_nx, tr_bl, tr_int, is_non, isnot_non, ↓reduceIte, Nat.reduceAdd, Nat.reduceLT, Nat.reduceLeDiff, Int.reduceLT, Int.reduceLE, Int.reduceNeg, Int.reduceAdd, Nat.reducePow, Int.reduceToNat, Int.reducePow, true_and, and_true, true_or, or_true, and_self, or_self, if_true, if_false, Bool.false_eq_true, order, pick, Bool.not_true, Bool.not_false, Option.map_some, wp_noexc, Int.reduceEq, nz0, ofO_some, sz, ifF]
  · refine ⟨.str "lasting", .inr (.inl rfl), fun k => eq_of_wp (wp_call rfl rfl ?_), fun k c => eq_of_wp (wp_call rfl rfl ?_)⟩
    · simp -implicitDefEqProofs only [K02.fs0, K02.fs1, K02.fs2, K02.fs3, K02.fs4, K02.fs5, K02.fs6, K02.fs7, K02.fs8, K02.fs9, K02.fs10, K02.fs11, K02.f0, K02.f1, K02.f2, K02.f3, K02.f4, K02.f5, K02.f6, K02.f7, K02.f8, K02.f9, K02.f10, K02.f11, K02.h0, K02.h1, K02.h2, K02.h3, K02.h4, K02.h5, K02.h6, K02.h7, K02.h8, K02.h9, K02.h10, K02.h11, K02.gl0, b0, eqq_0_0, eqq_0_1, eqq_0_2, eqq_0_3, eqq_0_4, eqq_0_5, eqq_1_0, eqq_1_1, eqq_1_2, eqq_1_3, eqq_1_4, eqq_1_5, eqq_2_0, eqq_2_1, eqq_2_2, eqq_2_3, eqq_2_4, eqq_2_5, eqq_3_0, eqq_3_1, eqq_3_2, eqq_3_3, eqq_3_4, eqq_3_5, eqq_4_0, eqq_4_1, eqq_4_2, eqq_4_3, eqq_4_4, eqq_4_5, eqq_5_0, eqq_5_1, eqq_5_2, eqq_5_3, eqq_5_4, eqq_5_5, eqq_6_0, eqq_6_1, eqq_6_2, eqq_6_3, eqq_6_4, eqq_6_5, in_sm_0, in_sm_1, in_sm_2, in_sm_3, in_sm_4, in_sm_5, in_sm_6, in_sml_0, in_sml_1, in_sml_2, in_sml_3, in_sml_4, in_sml_5, in_sml_6, in_kld_0, in_kld_1, in_kld_2, in_kld_3, in_kld_4, in_kld_5, in_kld_6, start0, List.map_cons, List.map_nil, List.length_cons, List.length_nil, List.replicate, List.cons_append, List.nil_append, List.append_nil, List.getElem?_cons_zero, List.getElem?_cons_succ, exs, ex, ev, evs, evT, evTA, evTO, evO, evI, evAnd, evOr, evC, wp_bind, wp_ok, wp_exc, wp_bad, wp_some, Rs.bind_ok, ixd_c0, ixd_lst, ixd_tup, at0, at1, at2, at3, at4, asB_bl, lt_int, le_int, gt_int, ge_int, eq_int, ne_int, len_lst, len_tup, int_int, min_int, max_int, add_int, sub_int, wp_mul, wp_mod, wp_div, wp_pow, wp_ite, wp_set, wp_mklF, wp_mklT, wp_lenS, wp_tup, wp_addL, wp_addT, wp_addS, setC_c0, ixN5, List.set_cons_zero, List.set_cons_succ, List.length_set, decide_eq_true_eq, retv_rt, retv_nx, tr_bl, tr_int, is_non, isnot_non, ↓reduceIte, Nat.reduceAdd, Nat.reduceLT, Nat.reduceLeDiff, Int.reduceLT, Int.reduceLE, Int.reduceNeg, Int.reduceAdd, Nat.reducePow, Int.reduceToNat, Int.reducePow, true_and, and_true, true_or, or_true, and_self, or_self, if_true, if_false, Bool.false_eq_true, order, pick, Bool.not_true, Bool.not_false, Option.map_some, wp_noexc, Int.reduceEq, nz0, ofO_some, sz, ifF]
    · simp -implicitDefEqProofs only [K02.fs0, K02.fs1, K02.fs2, K02.fs3, K02.fs4, K02.fs5, K02.fs6, K02.fs7, K02.fs8, K02.fs9, K02.fs10, K02.fs11, K02.f0, K02.f1, K02.f2, K02.f3, K02.f4, K02.f5, K02.f6, K02.f7, K02.f8, K02.f9, K02.f10, K02.f11, K02.h0, K02.h1, K02.h2, K02.h3, K02.h4, K02.h5, K02.h6, K02.h7, K02.h8, K02.h9, K02.h10, K02.h11, K02.gl0, b10, eqq_0_0, eqq_0_1, eqq_0_2, eqq_0_3, eqq_0_4, eqq_0_5, eqq_1_0, eqq_1_1, eqq_1_2, eqq_1_3, eqq_1_4, eqq_1_5, eqq_2_0, eqq_2_1, eqq_2_2, eqq_2_3, eqq_2_4, eqq_2_5, eqq_3_0, eqq_3_1, eqq_3_2, eqq_3_3, eqq_3_4, eqq_3_5, eqq_4_0, eqq_4_1, eqq_4_2, eqq_4_3, eqq_4_4, eqq_4_5, eqq_5_0, eqq_5_1, eqq_5_2, eqq_5_3, eqq_5_4, eqq_5_5, eqq_6_0, eqq_6_1, eqq_6_2, eqq_6_3, eqq_6_4, eqq_6_5, in_sm_0, in_sm_1, in_sm_2, in_sm_3, in_sm_4, in_sm_5, in_sm_6, in_sml_0, in_sml_1, in_sml_2, in_sml_3, in_sml_4, in_sml_5, in_sml_6, in_kld_0, in_kld_1, in_kld_2, in_kld_3, in_kld_4, in_kld_5, in_kld_6, TK.isNon, start0, List.map_cons, List.map_nil, List.length_cons, List.length_nil, List.replicate, List.cons_append, List.nil_append, List.append_nil, List.getElem?_cons_zero, List.getElem?_cons_succ, exs, ex, ev, evs, evT, evTA, evTO, evO, evI, evAnd, evOr, evC, wp_bind, wp_ok, wp_exc, wp_bad, wp_some, Rs.bind_ok, ixd_c0, ixd_lst, ixd_tup, at0, at1, at2, at3, at4, asB_bl, lt_int, le_int, gt_int, ge_int, eq_int, ne_int, len_lst, len_tup, int_int, min_int, max_int, add_int, sub_int, wp_mul, wp_mod, wp_div, wp_pow, wp_ite, wp_set, wp_mklF, wp_mklT, wp_lenS, wp_tup, wp_addL, wp_addT, wp_addS, setC_c0, ixN5, List.set_cons_zero, List.set_cons_succ, List.length_set, decide_eq_true_eq, retv_rt, retv_nx, tr_bl, tr_int, is_non, isnot_non, ↓reduceIte, Nat.reduceAdd, Nat.reduceLT, Nat.reduceLeDiff, Int.reduceLT, Int.reduceLE, Int.reduceNeg, Int.reduceAdd, Nat.reducePow, Int.reduceToNat, Int.reducePow, true_and, and_true, true_or, or_true, and_self, or_self, if_true, if_false, Bool.false_eq_true, order, pick, Bool.not_true, Bool.not_false, Option.map_some, wp_noexc, Int.reduceEq, nz0, ofO_some, sz, ifF]
  · refine ⟨.int n, .inr (.inr ⟨n, n1, n2, rfl⟩), fun k => eq_of_wp (wp_call rfl rfl ?_), fun k c => eq_of_wp (wp_call rfl rfl ?_)⟩
    · simp -implicitDefEqProofs only [K02.fs0, K02.fs1, K02.fs2, K02.fs3, K02.fs4, K02.fs5, K02.fs6, K02.fs7, K02.fs8, K02.fs9, K02.fs10, K02.fs11, K02.f0, K02.f1, K02.f2, K02.f3, K02.f4, K02.f5, K02.f6, K02.f7, K02.f8, K02.f9, K02.f10, K02.f11, K02.h0, K02.h1, K02.h2, K02.h3, K02.h4, K02.h5, K02.h6, K02.h7, K02.h8, K02.h9, K02.h10, K02.h11, K02.gl0, b0, eqq_0_0, eqq_0_1, eqq_0_2, eqq_0_3, eqq_0_4, eqq_0_5, eqq_1_0, eqq_1_1, eqq_1_2, eqq_1_3, eqq_1_4, eqq_1_5, eqq_2_0, eqq_2_1, eqq_2_2, eqq_2_3, eqq_2_4, eqq_2_5, eqq_3_0, eqq_3_1, eqq_3_2, eqq_3_3, eqq_3_4, eqq_3_5, eqq_4_0, eqq_4_1, eqq_4_2, eqq_4_3, eqq_4_4, eqq_4_5, eqq_5_0, eqq_5_1, eqq_5_2, eqq_5_3, eqq_5_4, eqq_5_5, eqq_6_0, eqq_6_1, eqq_6_2, eqq_6_3, eqq_6_4, eqq_6_5, in_sm_0, in_sm_1, in_sm_2, in_sm_3, in_sm_4, in_sm_5, in_sm_6, in_sml_0, in_sml_1, in_sml_2, in_sml_3, in_sml_4, in_sml_5, in_sml_6, in_kld_0, in_kld_1, in_kld_2, in_kld_3, in_kld_4, in_kld_5, in_kld_6, start0, List.map_cons, List.map_nil, List.length_cons, List.length_nil, List.replicate, List.cons_append, List.nil_append, List.append_nil, List.getElem?_cons_zero, List.getElem?_cons_succ, exs, ex, ev, evs, evT, evTA, evTO, evO, evI, evAnd, evOr, evC, wp_bind, wp_ok, wp_exc, wp_bad, wp_some, Rs.bind_ok, ixd_c0, ixd_lst, ixd_tup, at0, at1, at2, at3, at4, asB_bl, lt_int, le_int, gt_int, ge_int, eq_int, ne_int, len_lst, len_tup, int_int, min_int, max_int, add_int, sub_int, wp_mul, wp_mod, wp_div, wp_pow, wp_ite, wp_set, wp_mklF, wp_mklT, wp_lenS, wp_tup, wp_addL, wp_addT, wp_addS, setC_c0, ixN5, List.set_cons_zero, List.set_cons_succ, List.length_set, decide_eq_true_eq, retv_rt, retv_nx, tr_bl, tr_int, is_non, isnot_non, ↓reduceIte, Nat.reduceAdd, Nat.reduceLT, Nat.reduceLeDiff, Int.reduceLT, Int.reduceLE, Int.reduceNeg, Int.reduceAdd, Nat.reducePow, Int.reduceToNat, Int.reducePow, true_and, and_true, true_or, or_true, and_self, or_self, if_true, if_false, Bool.false_eq_true, order, pick, Bool.not_true, Bool.not_false, Option.map_some, wp_noexc, Int.reduceEq, nz0, ofO_some, sz, ifF]
    · simp -implicitDefEqProofs only [K02.fs0, K02.fs1, K02.fs2, K02.fs3, K02.fs4, K02.fs5, K02.fs6, K02.fs7, K02.fs8, K02.fs9, K02.fs10, K02.fs11, K02.f0, K02.f1, K02.f2, K02.f3, K02.f4, K02.f5, K02.f6, K02.f7, K02.f8, K02.f9, K02.f10, K02.f11, K02.h0, K02.h1, K02.h2, K02.h3, K02.h4, K02.h5, K02.h6, K02.h7, K02.h8, K02.h9, K02.h10, K02.h11, K02.gl0, b10, eqq_0_0, eqq_0_1, eqq_0_2, eqq_0_3, eqq_0_4, eqq_0_5, eqq_1_0, eqq_1_1, eqq_1_2, eqq_1_3, eqq_1_4, eqq_1_5, eqq_2_0, eqq_2_1, eqq_2_2, eqq_2_3, eqq_2_4, eqq_2_5, eqq_3_0, eqq_3_1, eqq_3_2, eqq_3_3, eqq_3_4, eqq_3_5, eqq_4_0, eqq_4_1, eqq_4_2, eqq_4_3, eqq_4_4, eqq_4_5, eqq_5_0, eqq_5_1, eqq_5_2, eqq_5_3, eqq_5_4, eqq_5_5, eqq_6_0, eqq_6_1, eqq_6_2, eqq_6_3, eqq_6_4, eqq_6_5, in_sm_0, in_sm_1, in_sm_2, in_sm_3, in_sm_4, in_sm_5, in_sm_6, in_sml_0, in_sml_1, in_sml_2, in_sml_3, in_sml_4, in_sml_5, in_sml_6, in_kld_0, in_kld_1, in_kld_2, in_kld_3, in_kld_4, in_kld_5, in_kld_6, TK.isNon, start0, List.map_cons, List.map_nil, List.length_cons, List.length_nil, List.replicate, List.cons_append, List.nil_append, List.append_nil, List.getElem?_cons_zero, List.getElem?_cons_succ, exs, ex, ev, evs, evT, evTA, evTO, evO, evI, evAnd, evOr, evC, wp_bind, wp_ok, wp_exc, wp_bad, wp_some, Rs.bind_ok, ixd_c0, ixd_lst, ixd_tup, at0, at1, at2, at3, at4, asB_bl, lt_int, le_int, gt_int, ge_int, eq_int, ne_int, len_lst, len_tup, int_int, min_int, max_int, add_int, sub_int, wp_mul, wp_mod, wp_div, wp_pow, wp_ite, wp_set, wp_mklF, wp_mklT, wp_lenS, wp_tup, wp_addL, wp_addT, wp_addS, setC_c0, ixN5, List.set_cons_zero, List.set_cons_succ, List.length_set, decide_eq_true_eq, retv_rt, retv_nx, tr_bl, tr_int, is_non, isnot_non, ↓reduceIte, Nat.reduceAdd, Nat.reduceLT, Nat.reduceLeDiff, Int.reduceLT, Int.reduceLE, Int.reduceNeg, Int.reduceAdd, Nat.reducePow, Int.reduceToNat, Int.reducePow, true_and, and_true, true_or, or_true, and_self, or_self, if_true, if_false, Bool.false_eq_true, order, pick, Bool.not_true, Bool.not_false, Option.map_some, wp_noexc, Int.reduceEq, nz0, ofO_some, sz, ifF]
  · refine ⟨.str "lasting", .inr (.inl rfl), fun k => eq_of_wp (wp_call rfl rfl ?_), fun k c => eq_of_wp (wp_call rfl rfl ?_)⟩
    · simp -implicitDefEqProofs only [K02.fs0, K02.fs1, K02.fs2, K02.fs3, K02.fs4, K02.fs5, K02.fs6, K02.fs7, K02.fs8, K02.fs9, K02.fs10, K02.fs11, K02.f0, K02.f1, K02.f2, K02.f3, K02.f4, K02.f5, K02.f6, K02.f7, K02.f8, K02.f9, K02.f10, K02.f11, K02.h0, K02.h1, K02.h2, K02.h3, K02.h4, K02.h5, K02.h6, K02.h7, K02.h8, K02.h9, K02.h10, K02.h11, K02.gl0, b0, eqq_0_0, eqq_0_1, eqq_0_2, eqq_0_3, eqq_0_4, eqq_0_5, eqq_1_0, eqq_1_1, eqq_1_2, eqq_1_3, eqq_1_4, eqq_1_5, eqq_2_0, eqq_2_1, eqq_2_2, eqq_2_3, eqq_2_4, eqq_2_5, eqq_3_0, eqq_3_1, eqq_3_2, eqq_3_3, eqq_3_4, eqq_3_5, eqq_4_0, eqq_4_1, eqq_4_2, eqq_4_3, eqq_4_4, eqq_4_5, eqq_5_0, eqq_5_1, eqq_5_2, eqq_5_3, eqq_5_4, eqq_5_5, eqq_6_0, eqq_6_1, eqq_6_2, eqq_6_3, eqq_6_4, eqq_6_5, in_sm_0, in_sm_1, in_sm_2, in_sm_3, in_sm_4, in_sm_5, in_sm_6, in_sml_0, in_sml_1, in_sml_2, in_sml_3, in_sml_4, in_sml_5, in_sml_6, in_kld_0, in_kld_1, in_kld_2, in_kld_3, in_kld_4, in_kld_5, in_kld_6, start0, List.map_cons, List.map_nil, List.length_cons, List.length_nil, List.replicate, List.cons_append, List.nil_append, List.append_nil, List.getElem?_cons_zero, List.getElem?_cons_succ, exs, ex, ev, evs, evT, evTA, evTO, evO, evI, evAnd, evOr, evC, wp_bind, wp_ok, wp_exc, wp_bad, wp_some, Rs.bind_ok, ixd_c0, ixd_lst, ixd_tup, at0, at1, at2, at3, at4, asB_bl, lt_int, le_int, gt_int, ge_int, eq_int, ne_int, len_lst, len_tup, int_int, min_int, max_int, add_int, sub_int, wp_mul, wp_mod, wp_div, wp_pow, wp_ite, wp_set, wp_mklF, wp_mklT, wp_lenS, wp_tup, wp_addL, wp_addT, wp_addS, setC_c0, ixN5, List.set_cons_zero, List.set_cons_succ, List.length_set, decide_eq_true_eq, retv_rt, retv_nx, tr_bl, tr_int, is_non, isnot_non, ↓reduceIte, Nat.reduceAdd, Nat.reduceLT, Nat.reduceLeDiff, Int.reduceLT, Int.reduceLE, Int.reduceNeg, Int.reduceAdd, Nat.reducePow, Int.reduceToNat, Int.reducePow, true_and, and_true, true_or, or_true, and_self, or_self, if_true, if_false, Bool.false_eq_true, order, pick, Bool.not_true, Bool.not_false, Option.map_some, wp_noexc, Int.reduceEq, nz0, ofO_some, sz, ifF]
    · simp -implicitDefEqProofs only [K02.fs0, K02.fs1, K02.fs2, K02.fs3, K02.fs4, K02.fs5, K02.fs6, K02.fs7, K02.fs8, K02.fs9, K02.fs10, K02.fs11, K02.f0, K02.f1, K02.f2, K02.f3, K02.f4, K02.f5, K02.f6, K02.f7, K02.f8, K02.f9, K02.f10, K02.f11, K02.h0, K02.h1, K02.h2, K02.h3, K02.h4, K02.h5, K02.h6, K02.h7, K02.h8, K02.h9, K02.h10, K02.h11, K02.gl0, b10, eqq_0_0, eqq_0_1, eqq_0_2, eqq_0_3, eqq_0_4, eqq_0_5, eqq_1_0, eqq_1_1, eqq_1_2, eqq_1_3, eqq_1_4, eqq_1_5, eqq_2_0, eqq_2_1, eqq_2_2, eqq_2_3, eqq_2_4, eqq_2_5, eqq_3_0, eqq_3_1, eqq_3_2, eqq_3_3, eqq_3_4, eqq_3_5, eqq_4_0, eqq_4_1, eqq_4_2, eqq_4_3, eqq_4_4, eqq_4_5, eqq_5_0, eqq_5_1, eqq_5_2, eqq_5_3, eqq_5_4, eqq_5_5, eqq_6_0, eqq_6_1, eqq_6_2, eqq_6_3, eqq_6_4, eqq_6_5, in_sm_0, in_sm_1, in_sm_2, in_sm_3, in_sm_4, in_sm_5, in_sm_6, in_sml_0, in_sml_1, in_sml_2, in_sml_3, in_sml_4, in_sml_5, in_sml_6, in_kld_0, in_kld_1, in_kld_2, in_kld_3, in_kld_4, in_kld_5, in_kld_6, TK.isNon, start0, List.map_cons, List.map_nil, List.length_cons, List.length_nil, List.replicate, List.cons_append, List.nil_append, List.append_nil, List.getElem?_cons_zero, List.getElem?_cons_succ, exs, ex, ev, evs, evT, evTA, evTO, evO, evI, evAnd, evOr, evC, wp_bind, wp_ok, wp_exc, wp_bad, wp_some, Rs.bind_ok, ixd_c0, ixd_lst, ixd_tup, at0, at1, at2, at3, at4, asB_bl, lt_int, le_int, gt_int, ge_int, eq_int, ne_int, len_lst, len_tup, int_int, min_int, max_int, add_int, sub_int, wp_mul, wp_mod, wp_div, wp_pow, wp_ite, wp_set, wp_mklF, wp_mklT, wp_lenS, wp_tup, wp_addL, wp_addT, wp_addS, setC_c0, ixN5, List.set_cons_zero, List.set_cons_succ, List.length_set, decide_eq_true_eq, retv_rt, retv_nx, tr_bl, tr_int, is_non, isnot_non, ↓reduceIte, Nat.reduceAdd, Nat.reduceLT, Nat.reduceLeDiff, Int.reduceLT, Int.reduceLE, Int.reduceNeg, Int.reduceAdd, Nat.reducePow, Int.reduceToNat, Int.reducePow, true_and, and_true, true_or, or_true, and_self, or_self, if_true, if_false, Bool.false_eq_true, order, pick, Bool.not_true, Bool.not_false, Option.map_some, wp_noexc, Int.reduceEq, nz0, ofO_some, sz, ifF]
theorem c_acted {M c : Int} (hc : 1 ≤ c) (hM : c ≤ M) {l a : Dt} (hl : LifeR M l) (ha : ActR M a) (s : Sto) :
    ∃ d, LifeR M d ∧ (∀ k, calls P (k + 2) 1 [l, a, .int c] s = .ok d s) ∧ (∀ k, calls P (k + 1) 10 [l, a, .int c] s = .ok d s) := by
  rcases hl with rfl | rfl | ⟨m, m1, m2, rfl⟩
  · refine ⟨.non, .inl rfl, fun k => eq_of_wp (wp_call rfl rfl ?_), fun k => eq_of_wp (wp_call rfl rfl ?_)⟩
    · simp -implicitDefEqProofs only [K02.fs0, K02.fs1, K02.fs2, K02.fs3, K02.fs4, K02.fs5, K02.fs6, K02.fs7, K02.fs8, K02.fs9, K02.fs10, K02.fs11, K02.f0, K02.f1, K02.f2, K02.f3, K02.f4, K02.f5, K02.f6, K02.f7, K02.f8, K02.f9, K02.f10, K02.f11, K02.h0, K02.h1, K02.h2, K02.h3, K02.h4, K02.h5, K02.h6, K02.h7, K02.h8, K02.h9, K02.h10, K02.h11, K02.gl0, b1, eqq_0_0, eqq_0_1, eqq_0_2, eqq_0_3, eqq_0_4, eqq_0_5, eqq_1_0, eqq_1_1, eqq_1_2, eqq_1_3, eqq_1_4, eqq_1_5, eqq_2_0, eqq_2_1, eqq_2_2, eqq_2_3, eqq_2_4, eqq_2_5, eqq_3_0, eqq_3_1, eqq_3_2, eqq_3_3, eqq_3_4, eqq_3_5, eqq_4_0, eqq_4_1, eqq_4_2, eqq_4_3, eqq_4_4, eqq_4_5, eqq_5_0, eqq_5_1, eqq_5_2, eqq_5_3, eqq_5_4, eqq_5_5, eqq_6_0, eqq_6_1, eqq_6_2, eqq_6_3, eqq_6_4, eqq_6_5, in_sm_0, in_sm_1, in_sm_2, in_sm_3, in_sm_4, in_sm_5, in_sm_6, in_sml_0, in_sml_1, in_sml_2, in_sml_3, in_sml_4, in_sml_5, in_sml_6, in_kld_0, in_kld_1, in_kld_2, in_kld_3, in_kld_4, in_kld_5, in_kld_6, TK.isNon, start0, List.map_cons, List.map_nil, List.length_cons, List.length_nil, List.replicate, List.cons_append, List.nil_append, List.append_nil, List.getElem?_cons_zero, List.getElem?_cons_succ, exs, ex, ev, evs, evT, evTA, evTO, evO, evI, evAnd, evOr, evC, wp_bind, wp_ok, wp_exc, wp_bad, wp_some, Rs.bind_ok, ixd_c0, ixd_lst, ixd_tup, at0, at1, at2, at3, at4, asB_bl, lt_int, le_int, gt_int, ge_int, eq_int, ne_int, len_lst, len_tup, int_int, min_int, max_int, add_int, sub_int, wp_mul, wp_mod, wp_div, wp_pow, wp_ite, wp_set, wp_mklF, wp_mklT, wp_lenS, wp_tup, wp_addL, wp_addT, wp_addS, setC_c0, ixN5, List.set_cons_zero, List.set_cons_succ, List.length_set, decide_eq_true_eq, retv_rt, retv_nx, tr_bl, tr_int, is_non, isnot_non, ↓reduceIte, Nat.reduceAdd, Nat.reduceLT, Nat.reduceLeDiff, Int.reduceLT, Int.reduceLE, Int.reduceNeg, Int.reduceAdd, Nat.reducePow, Int.reduceToNat, Int.reducePow, true_and, and_true, true_or, or_true, and_self, or_self, if_true, if_false, Bool.false_eq_true, order, pick, Bool.not_true, Bool.not_false, Option.map_some, wp_noexc, Int.reduceEq, nz0, ofO_some, sz, ifF]
    · simp -implicitDefEqProofs only [K02.fs0, K02.fs1, K02.fs2, K02.fs3, K02.fs4, K02.fs5, K02.fs6, K02.fs7, K02.fs8, K02.fs9, K02.fs10, K02.fs11, K02.f0, K02.f1, K02.f2, K02.f3, K02.f4, K02.f5, K02.f6, K02.f7, K02.f8, K02.f9, K02.f10, K02.f11, K02.h0, K02.h1, K02.h2, K02.h3, K02.h4, K02.h5, K02.h6, K02.h7, K02.h8, K02.h9, K02.h10, K02.h11, K02.gl0, b10, eqq_0_0, eqq_0_1, eqq_0_2, eqq_0_3, eqq_0_4, eqq_0_5, eqq_1_0, eqq_1_1, eqq_1_2, eqq_1_3, eqq_1_4, eqq_1_5, eqq_2_0, eqq_2_1, eqq_2_2, eqq_2_3, eqq_2_4, eqq_2_5, eqq_3_0, eqq_3_1, eqq_3_2, eqq_3_3, eqq_3_4, eqq_3_5, eqq_4_0, eqq_4_1, eqq_4_2, eqq_4_3, eqq_4_4, eqq_4_5, eqq_5_0, eqq_5_1, eqq_5_2, eqq_5_3, eqq_5_4, eqq_5_5, eqq_6_0, eqq_6_1, eqq_6_2, eqq_6_3, eqq_6_4, eqq_6_5, in_sm_0, in_sm_1, in_sm_2, in_sm_3, in_sm_4, in_sm_5, in_sm_6, in_sml_0, in_sml_1, in_sml_2, in_sml_3, in_sml_4, in_sml_5, in_sml_6, in_kld_0, in_kld_1, in_kld_2, in_kld_3, in_kld_4, in_kld_5, in_kld_6, TK.isNon, start0, List.map_cons, List.map_nil, List.length_cons, List.length_nil, List.replicate, List.cons_append, List.nil_append, List.append_nil, List.getElem?_cons_zero, List.getElem?_cons_succ, exs, ex, ev, evs, evT, evTA, evTO, evO, evI, evAnd, evOr, evC, wp_bind, wp_ok, wp_exc, wp_bad, wp_some, Rs.bind_ok, ixd_c0, ixd_lst, ixd_tup, at0, at1, at2, at3, at4, asB_bl, lt_int, le_int, gt_int, ge_int, eq_int, ne_int, len_lst, len_tup, int_int, min_int, max_int, add_int, sub_int, wp_mul, wp_mod, wp_div, wp_pow, wp_ite, wp_set, wp_mklF, wp_mklT, wp_lenS, wp_tup, wp_addL, wp_addT, wp_addS, setC_c0, ixN5, List.set_cons_zero, List.set_cons_succ, List.length_set, decide_eq_true_eq, retv_rt, retv_nx, tr_bl, tr_int, is_non, isnot_non, ↓reduceIte, Nat.reduceAdd, Nat.reduceLT, Nat.reduceLeDiff, Int.reduceLT, Int.reduceLE, Int.reduceNeg, Int.reduceAdd, Nat.reducePow, Int.reduceToNat, Int.reducePow, true_and, and_true, true_or, or_true, and_self, or_self, if_true, if_false, Bool.false_eq_true, order, pick, Bool.not_true, Bool.not_false, Option.map_some, wp_noexc, Int.reduceEq, nz0, ofO_some, sz, ifF]
  · obtain ⟨d, hd, e1, e3⟩ := c_lasting (k := 0) ha s
    refine ⟨d, hd, fun k => eq_of_wp (wp_call rfl rfl ?_), fun k => e3 k c⟩
    simp -implicitDefEqProofs only [K02.fs0, K02.fs1, K02.fs2, K02.fs3, K02.fs4, K02.fs5, K02.fs6, K02.fs7, K02.fs8, K02.fs9, K02.fs10, K02.fs11, K02.f0, K02.f1, K02.f2, K02.f3, K02.f4, K02.f5, K02.f6, K02.f7, K02.f8, K02.f9, K02.f10, K02.f11, K02.h0, K02.h1, K02.h2, K02.h3, K02.h4, K02.h5, K02.h6, K02.h7, K02.h8, K02.h9, K02.h10, K02.h11, K02.gl0, b1, eqq_0_0, eqq_0_1, eqq_0_2, eqq_0_3, eqq_0_4, eqq_0_5, eqq_1_0, eqq_1_1, eqq_1_2, eqq_1_3, eqq_1_4, eqq_1_5, eqq_2_0, eqq_2_1, eqq_2_2, eqq_2_3, eqq_2_4, eqq_2_5, eqq_3_0, eqq_3_1, eqq_3_2, eqq_3_3, eqq_3_4, eqq_3_5, eqq_4_0, eqq_4_1, eqq_4_2, eqq_4_3, eqq_4_4, eqq_4_5, eqq_5_0, eqq_5_1, eqq_5_2, eqq_5_3, eqq_5_4, eqq_5_5, eqq_6_0, eqq_6_1, eqq_6_2, eqq_6_3, eqq_6_4, eqq_6_5, in_sm_0, in_sm_1, in_sm_2, in_sm_3, in_sm_4, in_sm_5, in_sm_6, in_sml_0, in_sml_1, in_sml_2, in_sml_3, in_sml_4, in_sml_5, in_sml_6, in_kld_0, in_kld_1, in_kld_2, in_kld_3, in_kld_4, in_kld_5, in_kld_6, TK.isNon, e1, start0, List.map_cons, List.map_nil, List.length_cons, List.length_nil, List.replicate, List.cons_append, List.nil_append, List.append_nil, List.getElem?_cons_zero, List.getElem?_cons_succ, exs, ex, ev, evs, evT, evTA, evTO, evO, evI, evAnd, evOr, evC, wp_bind, wp_ok, wp_exc, wp_bad, wp_some, Rs.bind_ok, ixd_c0, ixd_lst, ixd_tup, at0, at1, at2, at3, at4, asB_bl, lt_int, le_int, gt_int, ge_int, eq_int, ne_int, len_lst, len_tup, int_int, min_int, max_int, add_int, sub_int, wp_mul, wp_mod, wp_div, wp_pow, wp_ite, wp_set, wp_mklF, wp_mklT, wp_lenS, wp_tup, wp_addL, wp_addT, wp_addS, setC_c0, ixN5, List.set_cons_zero, List.set_cons_succ, List.length_set, decide_eq_true_eq, retv_rt, retv_nx, tr_bl, tr_int, is_non, isnot_non, ↓reduceIte, Nat.reduceAdd, Nat.reduceLT, Nat.reduceLeDiff, Int.reduceLT, Int.reduceLE, Int.reduceNeg, Int.reduceAdd, Nat.reducePow, Int.reduceToNat, Int.reducePow, true_and, and_true, true_or, or_true, and_self, or_self, if_true, if_false, Bool.false_eq_true, order, pick, Bool.not_true, Bool.not_false, Option.map_some, wp_noexc, Int.reduceEq, nz0, ofO_some, sz, ifF]
  · have el := eqS (pd_int (n := 0) m).pl s (y := "lasting") (by decide +kernel)
    rcases ha with rfl | rfl | rfl | ⟨n, n1, n2, rfl | rfl | rfl | rfl⟩
    · refine ⟨.int m, .inr (.inr ⟨m, m1, m2, rfl⟩), fun k => eq_of_wp (wp_call rfl rfl ?_), fun k => eq_of_wp (wp_call rfl rfl ?_)⟩
      · simp -implicitDefEqProofs only [K02.fs0, K02.fs1, K02.fs2, K02.fs3, K02.fs4, K02.fs5, K02.fs6, K02.fs7, K02.fs8, K02.fs9, K02.fs10, K02.fs11, K02.f0, K02.f1, K02.f2, K02.f3, K02.f4, K02.f5, K02.f6, K02.f7, K02.f8, K02.f9, K02.f10, K02.f11, K02.h0, K02.h1, K02.h2, K02.h3, K02.h4, K02.h5, K02.h6, K02.h7, K02.h8, K02.h9, K02.h10, K02.h11, K02.gl0, b1, eqq_0_0, eqq_0_1, eqq_0_2, eqq_0_3, eqq_0_4, eqq_0_5, eqq_1_0, eqq_1_1, eqq_1_2, eqq_1_3, eqq_1_4, eqq_1_5, eqq_2_0, eqq_2_1, eqq_2_2, eqq_2_3, eqq_2_4, eqq_2_5, eqq_3_0, eqq_3_1, eqq_3_2, eqq_3_3, eqq_3_4, eqq_3_5, eqq_4_0, eqq_4_1, eqq_4_2, eqq_4_3, eqq_4_4, eqq_4_5, eqq_5_0, eqq_5_1, eqq_5_2, eqq_5_3, eqq_5_4, eqq_5_5, eqq_6_0, eqq_6_1, eqq_6_2, eqq_6_3, eqq_6_4, eqq_6_5, in_sm_0, in_sm_1, in_sm_2, in_sm_3, in_sm_4, in_sm_5, in_sm_6, in_sml_0, in_sml_1, in_sml_2, in_sml_3, in_sml_4, in_sml_5, in_sml_6, in_kld_0, in_kld_1, in_kld_2, in_kld_3, in_kld_4, in_kld_5, in_kld_6, TK.isNon, el, isS, wp_eq el, start0, List.map_cons, List.map_nil, List.length_cons, List.length_nil, List.replicate, List.cons_append, List.nil_append, List.append_nil, List.getElem?_cons_zero, List.getElem?_cons_succ, exs, ex, ev, evs, evT, evTA, evTO, evO, evI, evAnd, evOr, evC, wp_bind, wp_ok, wp_exc, wp_bad, wp_some, Rs.bind_ok, ixd_c0, ixd_lst, ixd_tup, at0, at1, at2, at3, at4, asB_bl, lt_int, le_int, gt_int, ge_int, eq_int, ne_int, len_lst, len_tup, int_int, min_int, max_int, add_int, sub_int, wp_mul, wp_mod, wp_div, wp_pow, wp_ite, wp_set, wp_mklF, wp_mklT, wp_lenS, wp_tup, wp_addL, wp_addT, wp_addS, setC_c0, ixN5, List.set_cons_zero, List.set_cons_succ, List.length_set, decide_eq_true_eq, retv_rt, retv_nx, tr_bl, tr_int, is_non, isnot_non, ↓reduceIte, Nat.reduceAdd, Nat.reduceLT, Nat.reduceLeDiff, Int.reduceLT, Int.reduceLE, Int.reduceNeg, Int.reduceAdd, Nat.reducePow, Int.reduceToNat, Int.reducePow, true_and, and_true, true_or, or_true, and_self, or_self, if_true, if_false, Bool.false_eq_true, order, pick, Bool.not_true, Bool.not_false, Option.map_some, wp_noexc, Int.reduceEq, nz0, ofO_some, sz, ifF]
      · simp -implicitDefEqProofs only [K02.fs0, K02.fs1, K02.fs2, K02.fs3, K02.fs4, K02.fs5, K02.fs6, K02.fs7, K02.fs8, K02.fs9, K02.fs10, K02.fs11, K02.f0, K02.f1, K02.f2, K02.f3, K02.f4, K02.f5, K02.f6, K02.f7, K02.f8, K02.f9, K02.f10, K02.f11, K02.h0, K02.h1, K02.h2, K02.h3, K02.h4, K02.h5, K02.h6, K02.h7, K02.h8, K02.h9, K02.h10, K02.h11, K02.gl0, b10, eqq_0_0, eqq_0_1, eqq_0_2, eqq_0_3, eqq_0_4, eqq_0_5, eqq_1_0, eqq_1_1, eqq_1_2, eqq_1_3, eqq_1_4, eqq_1_5, eqq_2_0, eqq_2_1, eqq_2_2, eqq_2_3, eqq_2_4, eqq_2_5, eqq_3_0, eqq_3_1, eqq_3_2, eqq_3_3, eqq_3_4, eqq_3_5, eqq_4_0, eqq_4_1, eqq_4_2, eqq_4_3, eqq_4_4, eqq_4_5, eqq_5_0, eqq_5_1, eqq_5_2, eqq_5_3, eqq_5_4, eqq_5_5, eqq_6_0, eqq_6_1, eqq_6_2, eqq_6_3, eqq_6_4, eqq_6_5, in_sm_0, in_sm_1, in_sm_2, in_sm_3, in_sm_4, in_sm_5, in_sm_6, in_sml_0, in_sml_1, in_sml_2, in_sml_3, in_sml_4, in_sml_5, in_sml_6, in_kld_0, in_kld_1, in_kld_2, in_kld_3, in_kld_4, in_kld_5, in_kld_6, TK.isNon, el, isS, wp_eq el, start0, List.map_cons, List.map_nil, List.length_cons, List.length_nil, List.replicate, List.cons_append, List.nil_append, List.append_nil, List.getElem?_cons_zero, List.getElem?_cons_succ, exs, ex, ev, evs, evT, evTA, evTO, evO, evI, evAnd, evOr, evC, wp_bind, wp_ok, wp_exc, wp_bad, wp_some, Rs.bind_ok, ixd_c0, ixd_lst, ixd_tup, at0, at1, at2, at3, at4, asB_bl, lt_int, le_int, gt_int, ge_int, eq_int, ne_int, len_lst, len_tup, int_int, min_int, max_int, add_int, sub_int, wp_mul, wp_mod, wp_div, wp_pow, wp_ite, wp_set, wp_mklF, wp_mklT, wp_lenS, wp_tup, wp_addL, wp_addT, wp_addS, setC_c0, ixN5, List.set_cons_zero, List.set_cons_succ, List.length_set, decide_eq_true_eq, retv_rt, retv_nx, tr_bl, tr_int, is_non, isnot_non, ↓reduceIte, Nat.reduceAdd, Nat.reduceLT, Nat.reduceLeDiff, Int.reduceLT, Int.reduceLE, Int.reduceNeg, Int.reduceAdd, Nat.reducePow, Int.reduceToNat, Int.reducePow, true_and, and_true, true_or, or_true, and_self, or_self, if_true, if_false, Bool.false_eq_true, order, pick, Bool.not_true, Bool.not_false, Option.map_some, wp_noexc, Int.reduceEq, nz0, ofO_some, sz, ifF]
    · refine ⟨.str "lasting", .inr (.inl rfl), fun k => eq_of_wp (wp_call rfl rfl ?_), fun k => eq_of_wp (wp_call rfl rfl ?_)⟩
      · simp -implicitDefEqProofs only [K02.fs0, K02.fs1, K02.fs2, K02.fs3, K02.fs4, K02.fs5, K02.fs6, K02.fs7, K02.fs8, K02.fs9, K02.fs10, K02.fs11, K02.f0, K02.f1, K02.f2, K02.f3, K02.f4, K02.f5, K02.f6, K02.f7, K02.f8, K02.f9, K02.f10, K02.f11, K02.h0, K02.h1, K02.h2, K02.h3, K02.h4, K02.h5, K02.h6, K02.h7, K02.h8, K02.h9, K02.h10, K02.h11, K02.gl0, b1, eqq_0_0, eqq_0_1, eqq_0_2, eqq_0_3, eqq_0_4, eqq_0_5, eqq_1_0, eqq_1_1, eqq_1_2, eqq_1_3, eqq_1_4, eqq_1_5, eqq_2_0, eqq_2_1, eqq_2_2, eqq_2_3, eqq_2_4, eqq_2_5, eqq_3_0, eqq_3_1, eqq_3_2, eqq_3_3, eqq_3_4, eqq_3_5, eqq_4_0, eqq_4_1, eqq_4_2, eqq_4_3, eqq_4_4, eqq_4_5, eqq_5_0, eqq_5_1, eqq_5_2, eqq_5_3, eqq_5_4, eqq_5_5, eqq_6_0, eqq_6_1, eqq_6_2, eqq_6_3, eqq_6_4, eqq_6_5, in_sm_0, in_sm_1, in_sm_2, in_sm_3, in_sm_4, in_sm_5, in_sm_6, in_sml_0, in_sml_1, in_sml_2, in_sml_3, in_sml_4, in_sml_5, in_sml_6, in_kld_0, in_kld_1, in_kld_2, in_kld_3, in_kld_4, in_kld_5, in_kld_6, TK.isNon, el, isS, wp_eq el, start0, List.map_cons, List.map_nil, List.length_cons, List.length_nil, List.replicate, List.cons_append, List.nil_append, List.append_nil, List.getElem?_cons_zero, List.getElem?_cons_succ, exs, ex, ev, evs, evT, evTA, evTO, evO, evI, evAnd, evOr, evC, wp_bind, wp_ok, wp_exc, wp_bad, wp_some, Rs.bind_ok, ixd_c0, ixd_lst, ixd_tup, at0, at1, at2, at3, at4, asB_bl, lt_int, le_int, gt_int, ge_int, eq_int, ne_int, len_lst, len_tup, int_int, min_int, max_int, add_int, sub_int, wp_mul, wp_mod, wp_div, wp_pow, wp_ite, wp_set, wp_mklF, wp_mklT, wp_lenS, wp_tup, wp_addL, wp_addT, wp_addS, setC_c0, ixN5, List.set_cons_zero, List.set_cons_succ, List.length_set, decide_eq_true_eq, retv_rt, retv_nx, tr_bl, tr_int, is_non, isnot_non, ↓reduceIte, Nat.reduceAdd, Nat.reduceLT, Nat.reduceLeDiff, Int.reduceLT, Int.reduceLE, Int.reduceNeg, Int.reduceAdd, Nat.reducePow, Int.reduceToNat, Int.reducePow, true_and, and_true, true_or, or_true, and_self, or_self, if_true, if_false, Bool.false_eq_true, order, pick, Bool.not_true, Bool.not_false, Option.map_some, wp_noexc, Int.reduceEq, nz0, ofO_some, sz, ifF]
      · simp -implicitDefEqProofs only [K02.fs0, K02.fs1, K02.fs2, K02.fs3, K02.fs4, K02.fs5, K02.fs6, K02.fs7, K02.fs8, K02.fs9, K02.fs10, K02.fs11, K02.f0, K02.f1, K02.f2, K02.f3, K02.f4, K02.f5, K02.f6, K02.f7, K02.f8, K02.f9, K02.f10, K02.f11, K02.h0, K02.h1, K02.h2, K02.h3, K02.h4, K02.h5, K02.h6, K02.h7, K02.h8, K02.h9, K02.h10, K02.h11, K02.gl0, b10, eqq_0_0, eqq_0_1, eqq_0_2, eqq_0_3, eqq_0_4, eqq_0_5, eqq_1_0, eqq_1_1, eqq_1_2, eqq_1_3, eqq_1_4, eqq_1_5, eqq_2_0, eqq_2_1, eqq_2_2, eqq_2_3, eqq_2_4, eqq_2_5, eqq_3_0, eqq_3_1, eqq_3_2, eqq_3_3, eqq_3_4, eqq_3_5, eqq_4_0, eqq_4_1, eqq_4_2, eqq_4_3, eqq_4_4, eqq_4_5, eqq_5_0, eqq_5_1, eqq_5_2, eqq_5_3, eqq_5_4, eqq_5_5, eqq_6_0, eqq_6_1, eqq_6_2, eqq_6_3, eqq_6_4, eqq_6_5, in_sm_0, in_sm_1, in_sm_2, in_sm_3, in_sm_4, in_sm_5, in_sm_6, in_sml_0, in_sml_1, in_sml_2, in_sml_3, in_sml_4, in_sml_5, in_sml_6, in_kld_0, in_kld_1, in_kld_2, in_kld_3, in_kld_4, in_kld_5, in_kld_6, TK.isNon, el, isS, wp_eq el, start0, List.map_cons, List.map_nil, List.length_cons, List.length_nil, List.replicate, List.cons_append, List.nil_append, List.append_nil, List.getElem?_cons_zero, List.getElem?_cons_succ, exs, ex, ev, evs, evT, evTA, evTO, evO, evI, evAnd, evOr, evC, wp_bind, wp_ok, wp_exc, wp_bad, wp_some, Rs.bind_ok, ixd_c0, ixd_lst, ixd_tup, at0, at1, at2, at3, at4, asB_bl, lt_int, le_int, gt_int, ge_int, eq_int, ne_int, len_lst, len_tup, int_int, min_int, max_int, add_int, sub_int, wp_mul, wp_mod, wp_div, wp_pow, wp_ite, wp_set, wp_mklF, wp_mklT, wp_lenS, wp_tup, wp_addL, wp_addT, wp_addS, setC_c0, ixN5, List.set_cons_zero, List.set_cons_succ, List.length_set, decide_eq_true_eq, retv_rt, retv_nx, tr_bl, tr_int, is_non, isnot_non, ↓reduceIte, Nat.reduceAdd, Nat.reduceLT, Nat.reduceLeDiff, Int.reduceLT, Int.reduceLE, Int.reduceNeg, Int.reduceAdd, Nat.reducePow, Int.reduceToNat, Int.reducePow, true_and, and_true, true_or, or_true, and_self, or_self, if_true, if_false, Bool.false_eq_true, order, pick, Bool.not_true, Bool.not_false, Option.map_some, wp_noexc, Int.reduceEq, nz0, ofO_some, sz, ifF]
    · refine ⟨.non, .inl rfl, fun k => eq_of_wp (wp_call rfl rfl ?_), fun k => eq_of_wp (wp_call rfl rfl ?_)⟩
      · simp -implicitDefEqProofs only [K02.fs0, K02.fs1, K02.fs2, K02.fs3, K02.fs4, K02.fs5, K02.fs6, K02.fs7, K02.fs8, K02.fs9, K02.fs10, K02.fs11, K02.f0, K02.f1, K02.f2, K02.f3, K02.f4, K02.f5, K02.f6, K02.f7, K02.f8, K02.f9, K02.f10, K02.f11, K02.h0, K02.h1, K02.h2, K02.h3, K02.h4, K02.h5, K02.h6, K02.h7, K02.h8, K02.h9, K02.h10, K02.h11, K02.gl0, b1, eqq_0_0, eqq_0_1, eqq_0_2, eqq_0_3, eqq_0_4, eqq_0_5, eqq_1_0, eqq_1_1, eqq_1_2, eqq_1_3, eqq_1_4, eqq_1_5, eqq_2_0, eqq_2_1, eqq_2_2, eqq_2_3, eqq_2_4, eqq_2_5, eqq_3_0, eqq_3_1, eqq_3_2, eqq_3_3, eqq_3_4, eqq_3_5, eqq_4_0, eqq_4_1, eqq_4_2, eqq_4_3, eqq_4_4, eqq_4_5, eqq_5_0, eqq_5_1, eqq_5_2, eqq_5_3, eqq_5_4, eqq_5_5, eqq_6_0, eqq_6_1, eqq_6_2, eqq_6_3, eqq_6_4, eqq_6_5, in_sm_0, in_sm_1, in_sm_2, in_sm_3, in_sm_4, in_sm_5, in_sm_6, in_sml_0, in_sml_1, in_sml_2, in_sml_3, in_sml_4, in_sml_5, in_sml_6, in_kld_0, in_kld_1, in_kld_2, in_kld_3, in_kld_4, in_kld_5, in_kld_6, TK.isNon, el, isS, wp_eq el, start0, List.map_cons, List.map_nil, List.length_cons, List.length_nil, List.replicate, List.cons_append, List.nil_append, List.append_nil, List.getElem?_cons_zero, List.getElem?_cons_succ, exs, ex, ev, evs, evT, evTA, evTO, evO, evI, evAnd, evOr, evC, wp_bind, wp_ok, wp_exc, wp_bad, wp_some, Rs.bind_ok, ixd_c0, ixd_lst, ixd_tup, at0, at1, at2, at3, at4, asB_bl, lt_int, le_int, gt_int, ge_int, eq_int, ne_int, len_lst, len_tup, int_int, min_int, max_int, add_int, sub_int, wp_mul, wp_mod, wp_div, wp_pow, wp_ite, wp_set, wp_mklF, wp_mklT, wp_lenS, wp_tup, wp_addL, wp_addT, wp_addS, setC_c0, ixN5, List.set_cons_zero, List.set_cons_succ, List.length_set, decide_eq_true_eq, retv_rt, retv_nx, tr_bl, tr_int, is_non, isnot_non, ↓reduceIte, Nat.reduceAdd, Nat.reduceLT, Nat.reduceLeDiff, Int.reduceLT, Int.reduceLE, Int.reduceNeg, Int.reduceAdd, Nat.reducePow, Int.reduceToNat, Int.reducePow, true_and, and_true, true_or, or_true, and_self, or_self, if_true, if_false, Bool.false_eq_true, order, pick, Bool.not_true, Bool.not_false, Option.map_some, wp_noexc, Int.reduceEq, nz0, ofO_some, sz, ifF]
      · simp -implicitDefEqProofs only [K02.fs0, K02.fs1, K02.fs2, K02.fs3, K02.fs4, K02.fs5, K02.fs6, K02.fs7, K02.fs8, K02.fs9, K02.fs10, K02.fs11, K02.f0, K02.f1, K02.f2, K02.f3, K02.f4, K02.f5, K02.f6, K02.f7, K02.f8, K02.f9, K02.f10, K02.f11, K02.h0, K02.h1, K02.h2, K02.h3, K02.h4, K02.h5, K02.h6, K02.h7, K02.h8, K02.h9, K02.h10, K02.h11, K02.gl0, b10, eqq_0_0, eqq_0_1, eqq_0_2, eqq_0_3, eqq_0_4, eqq_0_5, eqq_1_0, eqq_1_1, eqq_1_2, eqq_1_3, eqq_1_4, eqq_1_5, eqq_2_0, eqq_2_1, eqq_2_2, eqq_2_3, eqq_2_4, eqq_2_5, eqq_3_0, eqq_3_1, eqq_3_2, eqq_3_3, eqq_3_4, eqq_3_5, eqq_4_0, eqq_4_1, eqq_4_2, eqq_4_3, eqq_4_4, eqq_4_5, eqq_5_0, eqq_5_1, eqq_5_2, eqq_5_3, eqq_5_4, eqq_5_5, eqq_6_0, eqq_6_1, eqq_6_2, eqq_6_3, eqq_6_4, eqq_6_5, in_sm_0, in_sm_1, in_sm_2, in_sm_3, in_sm_4, in_sm_5, in_sm_6, in_sml_0, in_sml_1, in_sml_2, in_sml_3, in_sml_4, in_sml_5, in_sml_6, in_kld_0, in_kld_1, in_kld_2, in_kld_3, in_kld_4, in_kld_5, in_kld_6, TK.isNon, el, isS, wp_eq el, start0, List.map_cons, List.map_nil, List.length_cons, List.length_nil, List.replicate, List.cons_append, List.nil_append, List.append_nil, List.getElem?_cons_zero, List.getElem?_cons_succ, exs, ex, ev, evs, evT, evTA, evTO, evO, evI, evAnd, evOr, evC, wp_bind, wp_ok, wp_exc, wp_bad, wp_some, Rs.bind_ok, ixd_c0, ixd_lst, ixd_tup, at0, at1, at2, at3, at4, asB_bl, lt_int, le_int, gt_int, ge_int, eq_int, ne_int, len_lst, len_tup, int_int, min_int, max_int, add_int, sub_int, wp_mul, wp_mod, wp_div, wp_pow, wp_ite, wp_set, wp_mklF, wp_mklT, wp_lenS, wp_tup, wp_addL, wp_addT, wp_addS, setC_c0, ixN5, List.set_cons_zero, List.set_cons_succ, List.length_set, decide_eq_true_eq, retv_rt, retv_nx, tr_bl, tr_int, is_non, isnot_non, ↓reduceIte, Nat.reduceAdd, Nat.reduceLT, Nat.reduceLeDiff, Int.reduceLT, Int.reduceLE, Int.reduceNeg, Int.reduceAdd, Nat.reducePow, Int.reduceToNat, Int.reducePow, true_and, and_true, true_or, or_true, and_self, or_self, if_true, if_false, Bool.false_eq_true, order, pick, Bool.not_true, Bool.not_false, Option.map_some, wp_noexc, Int.reduceEq, nz0, ofO_some, sz, ifF]
    · refine ⟨.int n, .inr (.inr ⟨n, n1, n2, rfl⟩), fun k => eq_of_wp (wp_call rfl rfl ?_), fun k => eq_of_wp (wp_call rfl rfl ?_)⟩
      · simp -implicitDefEqProofs only [K02.fs0, K02.fs1, K02.fs2, K02.fs3, K02.fs4, K02.fs5, K02.fs6, K02.fs7, K02.fs8, K02.fs9, K02.fs10, K02.fs11, K02.f0, K02.f1, K02.f2, K02.f3, K02.f4, K02.f5, K02.f6, K02.f7, K02.f8, K02.f9, K02.f10, K02.f11, K02.h0, K02.h1, K02.h2, K02.h3, K02.h4, K02.h5, K02.h6, K02.h7, K02.h8, K02.h9, K02.h10, K02.h11, K02.gl0, b1, eqq_0_0, eqq_0_1, eqq_0_2, eqq_0_3, eqq_0_4, eqq_0_5, eqq_1_0, eqq_1_1, eqq_1_2, eqq_1_3, eqq_1_4, eqq_1_5, eqq_2_0, eqq_2_1, eqq_2_2, eqq_2_3, eqq_2_4, eqq_2_5, eqq_3_0, eqq_3_1, eqq_3_2, eqq_3_3, eqq_3_4, eqq_3_5, eqq_4_0, eqq_4_1, eqq_4_2, eqq_4_3, eqq_4_4, eqq_4_5, eqq_5_0, eqq_5_1, eqq_5_2, eqq_5_3, eqq_5_4, eqq_5_5, eqq_6_0, eqq_6_1, eqq_6_2, eqq_6_3, eqq_6_4, eqq_6_5, in_sm_0, in_sm_1, in_sm_2, in_sm_3, in_sm_4, in_sm_5, in_sm_6, in_sml_0, in_sml_1, in_sml_2, in_sml_3, in_sml_4, in_sml_5, in_sml_6, in_kld_0, in_kld_1, in_kld_2, in_kld_3, in_kld_4, in_kld_5, in_kld_6, TK.isNon, el, isS, wp_eq el, start0, List.map_cons, List.map_nil, List.length_cons, List.length_nil, List.replicate, List.cons_append, List.nil_append, List.append_nil, List.getElem?_cons_zero, List.getElem?_cons_succ, exs, ex, ev, evs, evT, evTA, evTO, evO, evI, evAnd, evOr, evC, wp_bind, wp_ok, wp_exc, wp_bad, wp_some, Rs.bind_ok, ixd_c0, ixd_lst, ixd_tup, at0, at1, at2, at3, at4, asB_bl, lt_int, le_int, gt_int, ge_int, eq_int, ne_int, len_lst, len_tup, int_int, min_int, max_int, add_int, sub_int, wp_mul, wp_mod, wp_div, wp_pow, wp_ite, wp_set, wp_mklF, wp_mklT, wp_lenS, wp_tup, wp_addL, wp_addT, wp_addS, setC_c0, ixN5, List.set_cons_zero, List.set_cons_succ, List.length_set, decide_eq_true_eq, retv_rt, retv_nx, tr_bl, tr_int, is_non, isnot_non, ↓reduceIte, Nat.reduceAdd, Nat.reduceLT, Nat.reduceLeDiff, Int.reduceLT, Int.reduceLE, Int.reduceNeg, Int.reduceAdd, Nat.reducePow, Int.reduceToNat, Int.reducePow, true_and, and_true, true_or, or_true, and_self, or_self, if_true, if_false, Bool.false_eq_true, order, pick, Bool.not_true, Bool.not_false, Option.map_some, wp_noexc, Int.reduceEq, nz0, ofO_some, sz, ifF]
      · simp -implicitDefEqProofs only [K02.fs0, K02.fs1, K02.fs2, K02.fs3, K02.fs4, K02.fs5, K02.fs6, K02.fs7, K02.fs8, K02.fs9, K02.fs10, K02.fs11, K02.f0, K02.f1, K02.f2, K02.f3, K02.f4, K02.f5, K02.f6, K02.f7, K02.f8, K02.f9, K02.f10, K02.f11, K02.h0, K02.h1, K02.h2, K02.h3, K02.h4, K02.h5, K02.h6, K02.h7, K02.h8, K02.h9, K02.h10, K02.h11, K02.gl0, b10, eqq_0_0, eqq_0_1, eqq_0_2, eqq_0_3, eqq_0_4, eqq_0_5, eqq_1_0, eqq_1_1, eqq_1_2, eqq_1_3, eqq_1_4, eqq_1_5, eqq_2_0, eqq_2_1, eqq_2_2, eqq_2_3, eqq_2_4, eqq_2_5, eqq_3_0, eqq_3_1, eqq_3_2, eqq_3_3, eqq_3_4, eqq_3_5, eqq_4_0, eqq_4_1, eqq_4_2, eqq_4_3, eqq_4_4, eqq_4_5, eqq_5_0, eqq_5_1, eqq_5_2, eqq_5_3, eqq_5_4, eqq_5_5, eqq_6_0, eqq_6_1, eqq_6_2, eqq_6_3, eqq_6_4, eqq_6_5, in_sm_0, in_sm_1, in_sm_2, in_sm_3, in_sm_4, in_sm_5, in_sm_6, in_sml_0, in_sml_1, in_sml_2, in_sml_3, in_sml_4, in_sml_5, in_sml_6, in_kld_0, in_kld_1, in_kld_2, in_kld_3, in_kld_4, in_kld_5, in_kld_6, TK.isNon, el, isS, wp_eq el, start0, List.map_cons, List.map_nil, List.length_cons, List.length_nil, List.replicate, List.cons_append, List.nil_append, List.append_nil, List.getElem?_cons_zero, List.getElem?_cons_succ, exs, ex, ev, evs, evT, evTA, evTO, evO, evI, evAnd, evOr, evC, wp_bind, wp_ok, wp_exc, wp_bad, wp_some, Rs.bind_ok, ixd_c0, ixd_lst, ixd_tup, at0, at1, at2, at3, at4, asB_bl, lt_int, le_int, gt_int, ge_int, eq_int, ne_int, len_lst, len_tup, int_int, min_int, max_int, add_int, sub_int, wp_mul, wp_mod, wp_div, wp_pow, wp_ite, wp_set, wp_mklF, wp_mklT, wp_lenS, wp_tup, wp_addL, wp_addT, wp_addS, setC_c0, ixN5, List.set_cons_zero, List.set_cons_succ, List.length_set, decide_eq_true_eq, retv_rt, retv_nx, tr_bl, tr_int, is_non, isnot_non, ↓reduceIte, Nat.reduceAdd, Nat.reduceLT, Nat.reduceLeDiff, Int.reduceLT, Int.reduceLE, Int.reduceNeg, Int.reduceAdd, Nat.reducePow, Int.reduceToNat, Int.reducePow, true_and, and_true, true_or, or_true, and_self, or_self, if_true, if_false, Bool.false_eq_true, order, pick, Bool.not_true, Bool.not_false, Option.map_some, wp_noexc, Int.reduceEq, nz0, ofO_some, sz, ifF]
    · by_cases q : m < n
      · have q' : n > m := q
        refine ⟨.int n, .inr (.inr ⟨n, n1, n2, rfl⟩), fun k => eq_of_wp (wp_call rfl rfl ?_), fun k => eq_of_wp (wp_call rfl rfl ?_)⟩
        · simp -implicitDefEqProofs only [K02.fs0, K02.fs1, K02.fs2, K02.fs3, K02.fs4, K02.fs5, K02.fs6, K02.fs7, K02.fs8, K02.fs9, K02.fs10, K02.fs11, K02.f0, K02.f1, K02.f2, K02.f3, K02.f4, K02.f5, K02.f6, K02.f7, K02.f8, K02.f9, K02.f10, K02.f11, K02.h0, K02.h1, K02.h2, K02.h3, K02.h4, K02.h5, K02.h6, K02.h7, K02.h8, K02.h9, K02.h10, K02.h11, K02.gl0, b1, eqq_0_0, eqq_0_1, eqq_0_2, eqq_0_3, eqq_0_4, eqq_0_5, eqq_1_0, eqq_1_1, eqq_1_2, eqq_1_3, eqq_1_4, eqq_1_5, eqq_2_0, eqq_2_1, eqq_2_2, eqq_2_3, eqq_2_4, eqq_2_5, eqq_3_0, eqq_3_1, eqq_3_2, eqq_3_3, eqq_3_4, eqq_3_5, eqq_4_0, eqq_4_1, eqq_4_2, eqq_4_3, eqq_4_4, eqq_4_5, eqq_5_0, eqq_5_1, eqq_5_2, eqq_5_3, eqq_5_4, eqq_5_5, eqq_6_0, eqq_6_1, eqq_6_2, eqq_6_3, eqq_6_4, eqq_6_5, in_sm_0, in_sm_1, in_sm_2, in_sm_3, in_sm_4, in_sm_5, in_sm_6, in_sml_0, in_sml_1, in_sml_2, in_sml_3, in_sml_4, in_sml_5, in_sml_6, in_kld_0, in_kld_1, in_kld_2, in_kld_3, in_kld_4, in_kld_5, in_kld_6, TK.isNon, el, isS, wp_eq el, q, q', start0, List.map_cons, List.map_nil, List.length_cons, List.length_nil, List.replicate, List.cons_append, List.nil_append, List.append_nil, List.getElem?_cons_zero, List.getElem?_cons_succ, exs, ex, ev, evs, evT, evTA, evTO, evO, evI, evAnd, evOr, evC, wp_bind, wp_ok, wp_exc, wp_bad, wp_some, Rs.bind_ok, ixd_c0, ixd_lst, ixd_tup, at0, at1, at2, at3, at4, asB_bl, lt_int, le_int, gt_int, ge_int, eq_int, ne_int, len_lst, len_tup, int_int, min_int, max_int, add_int, sub_int, wp_mul, wp_mod, wp_div, wp_pow, wp_ite, wp_set, wp_mklF, wp_mklT, wp_lenS, wp_tup, wp_addL, wp_addT, wp_addS, setC_c0, ixN5, List.set_cons_zero, List.set_cons_succ, List.length_set, decide_eq_true_eq, retv_rt, retv_nx, tr_bl, tr_int, is_non, isnot_non, ↓reduceIte, Nat.reduceAdd, Nat.reduceLT, Nat.reduceLeDiff, Int.reduceLT, Int.reduceLE, Int.reduceNeg, Int.reduceAdd, Nat.reducePow, Int.reduceToNat, Int.reducePow, true_and, and_true, true_or, or_true, and_self, or_self, if_true, if_false, Bool.false_eq_true, order, pick, Bool.not_true, Bool.not_false, Option.map_some, wp_noexc, Int.reduceEq, nz0, ofO_some, sz, ifF]
        · simp -implicitDefEqProofs only [K02.fs0, K02.fs1, K02.fs2, K02.fs3, K02.fs4, K02.fs5, K02.fs6, K02.fs7, K02.fs8, K02.fs9, K02.fs10, K02.fs11, K02.f0, K02.f1, K02.f2, K02.f3, K02.f4, K02.f5, K02.f6, K02.f7, K02.f8, K02.f9, K02.f10, K02.f11, K02.h0, K02.h1, K02.h2, K02.h3, K02.h4, K02.h5, K02.h6, K02.h7, K02.h8, K02.h9, K02.h10, K02.h11, K02.gl0, b10, eqq_0_0, eqq_0_1, eqq_0_2, eqq_0_3, eqq_0_4, eqq_0_5, eqq_1_0, eqq_1_1, eqq_1_2, eqq_1_3, eqq_1_4, eqq_1_5, eqq_2_0, eqq_2_1, eqq_2_2, eqq_2_3, eqq_2_4, eqq_2_5, eqq_3_0, eqq_3_1, eqq_3_2, eqq_3_3, eqq_3_4, eqq_3_5, eqq_4_0, eqq_4_1, eqq_4_2, eqq_4_3, eqq_4_4, eqq_4_5, eqq_5_0, eqq_5_1, eqq_5_2, eqq_5_3, eqq_5_4, eqq_5_5, eqq_6_0, eqq_6_1, eqq_6_2, eqq_6_3, eqq_6_4, eqq_6_5, in_sm_0, in_sm_1, in_sm_2, in_sm_3, in_sm_4, in_sm_5, in_sm_6, in_sml_0, in_sml_1, in_sml_2, in_sml_3, in_sml_4, in_sml_5, in_sml_6, in_kld_0, in_kld_1, in_kld_2, in_kld_3, in_kld_4, in_kld_5, in_kld_6, TK.isNon, el, isS, wp_eq el, q, q', start0, List.map_cons, List.map_nil, List.length_cons, List.length_nil, List.replicate, List.cons_append, List.nil_append, List.append_nil, List.getElem?_cons_zero, List.getElem?_cons_succ, exs, ex, ev, evs, evT, evTA, evTO, evO, evI, evAnd, evOr, evC, wp_bind, wp_ok, wp_exc, wp_bad, wp_some, Rs.bind_ok, ixd_c0, ixd_lst, ixd_tup, at0, at1, at2, at3, at4, asB_bl, lt_int, le_int, gt_int, ge_int, eq_int, ne_int, len_lst, len_tup, int_int, min_int, max_int, add_int, sub_int, wp_mul, wp_mod, wp_div, wp_pow, wp_ite, wp_set, wp_mklF, wp_mklT, wp_lenS, wp_tup, wp_addL, wp_addT, wp_addS, setC_c0, ixN5, List.set_cons_zero, List.set_cons_succ, List.length_set, decide_eq_true_eq, retv_rt, retv_nx, tr_bl, tr_int, is_non, isnot_non, ↓reduceIte, Nat.reduceAdd, Nat.reduceLT, Nat.reduceLeDiff, Int.reduceLT, Int.reduceLE, Int.reduceNeg, Int.reduceAdd, Nat.reducePow, Int.reduceToNat, Int.reducePow, true_and, and_true, true_or, or_true, and_self, or_self, if_true, if_false, Bool.false_eq_true, order, pick, Bool.not_true, Bool.not_false, Option.map_some, wp_noexc, Int.reduceEq, nz0, ofO_some, sz, ifF]
      · have q' : ¬ n > m := q
        refine ⟨.int m, .inr (.inr ⟨m, m1, m2, rfl⟩), fun k => eq_of_wp (wp_call rfl rfl ?_), fun k => eq_of_wp (wp_call rfl rfl ?_)⟩
        · simp -implicitDefEqProofs only [K02.fs0, K02.fs1, K02.fs2, K02.fs3, K02.fs4, K02.fs5, K02.fs6, K02.fs7, K02.fs8, K02.fs9, K02.fs10, K02.fs11, K02.f0, K02.f1, K02.f2, K02.f3, K02.f4, K02.f5, K02.f6, K02.f7, K02.f8, K02.f9, K02.f10, K02.f11, K02.h0, K02.h1, K02.h2, K02.h3, K02.h4, K02.h5, K02.h6, K02.h7, K02.h8, K02.h9, K02.h10, K02.h11, K02.gl0, b1, eqq_0_0, eqq_0_1, eqq_0_2, eqq_0_3, eqq_0_4, eqq_0_5, eqq_1_0, eqq_1_1, eqq_1_2, eqq_1_3, eqq_1_4, eqq_1_5, eqq_2_0, eqq_2_1, eqq_2_2, eqq_2_3, eqq_2_4, eqq_2_5, eqq_3_0, eqq_3_1, eqq_3_2, eqq_3_3, eqq_3_4, eqq_3_5, eqq_4_0, eqq_4_1, eqq_4_2, eqq_4_3, eqq_4_4, eqq_4_5, eqq_5_0, eqq_5_1, eqq_5_2, eqq_5_3, eqq_5_4, eqq_5_5, eqq_6_0, eqq_6_1, eqq_6_2, eqq_6_3, eqq_6_4, eqq_6_5, in_sm_0, in_sm_1, in_sm_2, in_sm_3, in_sm_4, in_sm_5, in_sm_6, in_sml_0, in_sml_1, in_sml_2, in_sml_3, in_sml_4, in_sml_5, in_sml_6, in_kld_0, in_kld_1, in_kld_2, in_kld_3, in_kld_4, in_kld_5, in_kld_6, TK.isNon, el, isS, wp_eq el, q, q', start0, List.map_cons, List.map_nil, List.length_cons, List.length_nil, List.replicate, List.cons_append, List.nil_append, List.append_nil, List.getElem?_cons_zero, List.getElem?_cons_succ, exs, ex, ev, evs, evT, evTA, evTO, evO, evI, evAnd, evOr, evC, wp_bind, wp_ok, wp_exc, wp_bad, wp_some, Rs.bind_ok, ixd_c0, ixd_lst, ixd_tup, at0, at1, at2, at3, at4, asB_bl, lt_int, le_int, gt_int, ge_int, eq_int, ne_int, len_lst, len_tup, int_int, min_int, max_int, add_int, sub_int, wp_mul, wp_mod, wp_div, wp_pow, wp_ite, wp_set, wp_mklF, wp_mklT, wp_lenS, wp_tup, wp_addL, wp_addT, wp_addS, setC_c0, ixN5, List.set_cons_zero, List.set_cons_succ, List.length_set, decide_eq_true_eq, retv_rt, retv_nx, tr_bl, tr_int, is_non, isnot_non, ↓reduceIte, Nat.reduceAdd, Nat.reduceLT, Nat.reduceLeDiff, Int.reduceLT, Int.reduceLE, Int.reduceNeg, Int.reduceAdd, Nat.reducePow, Int.reduceToNat, Int.reducePow, true_and, and_true, true_or, or_true, and_self, or_self, if_true, if_false, Bool.false_eq_true, order, pick, Bool.not_true, Bool.not_false, Option.map_some, wp_noexc, Int.reduceEq, nz0, ofO_some, sz, ifF]
        · simp -implicitDefEqProofs only [K02.fs0, K02.fs1, K02.fs2, K02.fs3, K02.fs4, K02.fs5, K02.fs6, K02.fs7, K02.fs8, K02.fs9, K02.fs10, K02.fs11, K02.f0, K02.f1, K02.f2, K02.f3, K02.f4, K02.f5, K02.f6, K02.f7, K02.f8, K02.f9, K02.f10, K02.f11, K02.h0, K02.h1, K02.h2, K02.h3, K02.h4, K02.h5, K02.h6, K02.h7, K02.h8, K02.h9, K02.h10, K02.h11, K02.gl0, b10, eqq_0_0, eqq_0_1, eqq_0_2, eqq_0_3, eqq_0_4, eqq_0_5, eqq_1_0, eqq_1_1, eqq_1_2, eqq_1_3, eqq_1_4, eqq_1_5, eqq_2_0, eqq_2_1, eqq_2_2, eqq_2_3, eqq_2_4, eqq_2_5, eqq_3_0, eqq_3_1, eqq_3_2, eqq_3_3, eqq_3_4, eqq_3_5, eqq_4_0, eqq_4_1, eqq_4_2, eqq_4_3, eqq_4_4, eqq_4_5, eqq_5_0, eqq_5_1, eqq_5_2, eqq_5_3, eqq_5_4, eqq_5_5, eqq_6_0, eqq_6_1, eqq_6_2, eqq_6_3, eqq_6_4, eqq_6_5, in_sm_0, in_sm_1, in_sm_2, in_sm_3, in_sm_4, in_sm_5, in_sm_6, in_sml_0, in_sml_1, in_sml_2, in_sml_3, in_sml_4, in_sml_5, in_sml_6, in_kld_0, in_kld_1, in_kld_2, in_kld_3, in_kld_4, in_kld_5, in_kld_6, TK.isNon, el, isS, wp_eq el, q, q', start0, List.map_cons, List.map_nil, List.length_cons, List.length_nil, List.replicate, List.cons_append, List.nil_append, List.append_nil, List.getElem?_cons_zero, List.getElem?_cons_succ, exs, ex, ev, evs, evT, evTA, evTO, evO, evI, evAnd, evOr, evC, wp_bind, wp_ok, wp_exc, wp_bad, wp_some, Rs.bind_ok, ixd_c0, ixd_lst, ixd_tup, at0, at1, at2, at3, at4, asB_bl, lt_int, le_int, gt_int, ge_int, eq_int, ne_int, len_lst, len_tup, int_int, min_int, max_int, add_int, sub_int, wp_mul, wp_mod, wp_div, wp_pow, wp_ite, wp_set, wp_mklF, wp_mklT, wp_lenS, wp_tup, wp_addL, wp_addT, wp_addS, setC_c0, ixN5, List.set_cons_zero, List.set_cons_succ, List.length_set, decide_eq_true_eq, retv_rt, retv_nx, tr_bl, tr_int, is_non, isnot_non, ↓reduceIte, Nat.reduceAdd, Nat.reduceLT, Nat.reduceLeDiff, Int.reduceLT, Int.reduceLE, Int.reduceNeg, Int.reduceAdd, Nat.reducePow, Int.reduceToNat, Int.reducePow, true_and, and_true, true_or, or_true, and_self, or_self, if_true, if_false, Bool.false_eq_true, order, pick, Bool.not_true, Bool.not_false, Option.map_some, wp_noexc, Int.reduceEq, nz0, ofO_some, sz, ifF]
    · by_cases q : n < m
      · refine ⟨.int n, .inr (.inr ⟨n, n1, n2, rfl⟩), fun k => eq_of_wp (wp_call rfl rfl ?_), fun k => eq_of_wp (wp_call rfl rfl ?_)⟩
        · simp -implicitDefEqProofs only [K02.fs0, K02.fs1, K02.fs2, K02.fs3, K02.fs4, K02.fs5, K02.fs6, K02.fs7, K02.fs8, K02.fs9, K02.fs10, K02.fs11, K02.f0, K02.f1, K02.f2, K02.f3, K02.f4, K02.f5, K02.f6, K02.f7, K02.f8, K02.f9, K02.f10, K02.f11, K02.h0, K02.h1, K02.h2, K02.h3, K02.h4, K02.h5, K02.h6, K02.h7, K02.h8, K02.h9, K02.h10, K02.h11, K02.gl0, b1, eqq_0_0, eqq_0_1, eqq_0_2, eqq_0_3, eqq_0_4, eqq_0_5, eqq_1_0, eqq_1_1, eqq_1_2, eqq_1_3, eqq_1_4, eqq_1_5, eqq_2_0, eqq_2_1, eqq_2_2, eqq_2_3, eqq_2_4, eqq_2_5, eqq_3_0, eqq_3_1, eqq_3_2, eqq_3_3, eqq_3_4, eqq_3_5, eqq_4_0, eqq_4_1, eqq_4_2, eqq_4_3, eqq_4_4, eqq_4_5, eqq_5_0, eqq_5_1, eqq_5_2, eqq_5_3, eqq_5_4, eqq_5_5, eqq_6_0, eqq_6_1, eqq_6_2, eqq_6_3, eqq_6_4, eqq_6_5, in_sm_0, in_sm_1, in_sm_2, in_sm_3, in_sm_4, in_sm_5, in_sm_6, in_sml_0, in_sml_1, in_sml_2, in_sml_3, in_sml_4, in_sml_5, in_sml_6, in_kld_0, in_kld_1, in_kld_2, in_kld_3, in_kld_4, in_kld_5, in_kld_6, TK.isNon, el, isS, wp_eq el, q, start0, List.map_cons, List.map_nil, List.length_cons, List.length_nil, List.replicate, List.cons_append, List.nil_append, List.append_nil, List.getElem?_cons_zero, List.getElem?_cons_succ, exs, ex, ev, evs, evT, evTA, evTO, evO, evI, evAnd, evOr, evC, wp_bind, wp_ok, wp_exc, wp_bad, wp_some, Rs.bind_ok, ixd_c0, ixd_lst, ixd_tup, at0, at1, at2, at3, at4, asB_bl, lt_int, le_int, gt_int, ge_int, eq_int, ne_int, len_lst, len_tup, int_int, min_int, max_int, add_int, sub_int, wp_mul, wp_mod, wp_div, wp_pow, wp_ite, wp_set, wp_mklF, wp_mklT, wp_lenS, wp_tup, wp_addL, wp_addT, wp_addS, setC_c0, ixN5, List.set_cons_zero, List.set_cons_succ, List.length_set, decide_eq_true_eq, retv_rt, retv_nx, tr_bl, tr_int, is_non, isnot_non, ↓reduceIte, Nat.reduceAdd, Nat.reduceLT, Nat.reduceLeDiff, Int.reduceLT, Int.reduceLE, Int.reduceNeg, Int.reduceAdd, Nat.reducePow, Int.reduceToNat, Int.reducePow, true_and, and_true, true_or, or_true, and_self, or_self, if_true, if_false, Bool.false_eq_true, order, pick, Bool.not_true, Bool.not_false, Option.map_some, wp_noexc, Int.reduceEq, nz0, ofO_some, sz, ifF]
        · simp -implicitDefEqProofs only [K02.fs0, K02.fs1, K02.fs2, K02.fs3, K02.fs4, K02.fs5, K02.fs6, K02.fs7, K02.fs8, K02.fs9, K02.fs10, K02.fs11, K02.f0, K02.f1, K02.f2, K02.f3, K02.f4, K02.f5, K02.f6, K02.f7, K02.f8, K02.f9, K02.f10, K02.f11, K02.h0, K02.h1, K02.h2, K02.h3, K02.h4, K02.h5, K02.h6, K02.h7, K02.h8, K02.h9, K02.h10, K02.h11, K02.gl0, b10, eqq_0_0, eqq_0_1, eqq_0_2, eqq_0_3, eqq_0_4, eqq_0_5, eqq_1_0, eqq_1_1, eqq_1_2, eqq_1_3, eqq_1_4, eqq_1_5, eqq_2_0, eqq_2_1, eqq_2_2, eqq_2_3, eqq_2_4, eqq_2_5, eqq_3_0, eqq_3_1, eqq_3_2, eqq_3_3, eqq_3_4, eqq_3_5, eqq_4_0, eqq_4_1, eqq_4_2, eqq_4_3, eqq_4_4, eqq_4_5, eqq_5_0, eqq_5_1, eqq_5_2, eqq_5_3, eqq_5_4, eqq_5_5, eqq_6_0, eqq_6_1, eqq_6_2, eqq_6_3, eqq_6_4, eqq_6_5, in_sm_0, in_sm_1, in_sm_2, in_sm_3, in_sm_4, in_sm_5, in_sm_6, in_sml_0, in_sml_1, in_sml_2, in_sml_3, in_sml_4, in_sml_5, in_sml_6, in_kld_0, in_kld_1, in_kld_2, in_kld_3, in_kld_4, in_kld_5, in_kld_6, TK.isNon, el, isS, wp_eq el, q, start0, List.map_cons, List.map_nil, List.length_cons, List.length_nil, List.replicate, List.cons_append, List.nil_append, List.append_nil, List.getElem?_cons_zero, List.getElem?_cons_succ, exs, ex, ev, evs, evT, evTA, evTO, evO, evI, evAnd, evOr, evC, wp_bind, wp_ok, wp_exc, wp_bad, wp_some, Rs.bind_ok, ixd_c0, ixd_lst, ixd_tup, at0, at1, at2, at3, at4, asB_bl, lt_int, le_int, gt_int, ge_int, eq_int, ne_int, len_lst, len_tup, int_int, min_int, max_int, add_int, sub_int, wp_mul, wp_mod, wp_div, wp_pow, wp_ite, wp_set, wp_mklF, wp_mklT, wp_lenS, wp_tup, wp_addL, wp_addT, wp_addS, setC_c0, ixN5, List.set_cons_zero, List.set_cons_succ, List.length_set, decide_eq_true_eq, retv_rt, retv_nx, tr_bl, tr_int, is_non, isnot_non, ↓reduceIte, Nat.reduceAdd, Nat.reduceLT, Nat.reduceLeDiff, Int.reduceLT, Int.reduceLE, Int.reduceNeg, Int.reduceAdd, Nat.reducePow, Int.reduceToNat, Int.reducePow, true_and, and_true, true_or, or_true, and_self, or_self, if_true, if_false, Bool.false_eq_true, order, pick, Bool.not_true, Bool.not_false, Option.map_some, wp_noexc, Int.reduceEq, nz0, ofO_some, sz, ifF]
      · refine ⟨.int m, .inr (.inr ⟨m, m1, m2, rfl⟩), fun k => eq_of_wp (wp_call rfl rfl ?_), fun k => eq_of_wp (wp_call rfl rfl ?_)⟩
        · simp -implicitDefEqProofs only [K02.fs0, K02.fs1, K02.fs2, K02.fs3, K02.fs4, K02.fs5, K02.fs6, K02.fs7, K02.fs8, K02.fs9, K02.fs10, K02.fs11, K02.f0, K02.f1, K02.f2, K02.f3, K02.f4, K02.f5, K02.f6, K02.f7, K02.f8, K02.f9, K02.f10, K02.f11, K02.h0, K02.h1, K02.h2, K02.h3, K02.h4, K02.h5, K02.h6, K02.h7, K02.h8, K02.h9, K02.h10, K02.h11, K02.gl0, b1, eqq_0_0, eqq_0_1, eqq_0_2, eqq_0_3, eqq_0_4, eqq_0_5, eqq_1_0, eqq_1_1, eqq_1_2, eqq_1_3, eqq_1_4, eqq_1_5, eqq_2_0, eqq_2_1, eqq_2_2, eqq_2_3, eqq_2_4, eqq_2_5, eqq_3_0, eqq_3_1, eqq_3_2, eqq_3_3, eqq_3_4, eqq_3_5, eqq_4_0, eqq_4_1, eqq_4_2, eqq_4_3, eqq_4_4, eqq_4_5, eqq_5_0, eqq_5_1, eqq_5_2, eqq_5_3, eqq_5_4, eqq_5_5, eqq_6_0, eqq_6_1, eqq_6_2, eqq_6_3, eqq_6_4, eqq_6_5, in_sm_0, in_sm_1, in_sm_2, in_sm_3, in_sm_4, in_sm_5, in_sm_6, in_sml_0, in_sml_1, in_sml_2, in_sml_3, in_sml_4, in_sml_5, in_sml_6, in_kld_0, in_kld_1, in_kld_2, in_kld_3, in_kld_4, in_kld_5, in_kld_6, TK.isNon, el, isS, wp_eq el, q, start0, List.map_cons, List.map_nil, List.length_cons, List.length_nil, List.replicate, List.cons_append, List.nil_append, List.append_nil, List.getElem?_cons_zero, List.getElem?_cons_succ, exs, ex, ev, evs, evT, evTA, evTO, evO, evI, evAnd, evOr, evC, wp_bind, wp_ok, wp_exc, wp_bad, wp_some, Rs.bind_ok, ixd_c0, ixd_lst, ixd_tup, at0, at1, at2, at3, at4, asB_bl, lt_int, le_int, gt_int, ge_int, eq_int, ne_int, len_lst, len_tup, int_int, min_int, max_int, add_int, sub_int, wp_mul, wp_mod, wp_div, wp_pow, wp_ite, wp_set, wp_mklF, wp_mklT, wp_lenS, wp_tup, wp_addL, wp_addT, wp_addS, setC_c0, ixN5, List.set_cons_zero, List.set_cons_succ, List.length_set, decide_eq_true_eq, retv_rt, retv_nx, tr_bl, tr_int, is_non, isnot_non, ↓reduceIte, Nat.reduceAdd, Nat.reduceLT, Nat.reduceLeDiff, Int.reduceLT, Int.reduceLE, Int.reduceNeg, Int.reduceAdd, Nat.reducePow, Int.reduceToNat, Int.reducePow, true_and, and_true, true_or, or_true, and_self, or_self, if_true, if_false, Bool.false_eq_true, order, pick, Bool.not_true, Bool.not_false, Option.map_some, wp_noexc, Int.reduceEq, nz0, ofO_some, sz, ifF]
        · simp -implicitDefEqProofs only [K02.fs0, K02.fs1, K02.fs2, K02.fs3, K02.fs4, K02.fs5, K02.fs6, K02.fs7, K02.fs8, K02.fs9, K02.fs10, K02.fs11, K02.f0, K02.f1, K02.f2, K02.f3, K02.f4, K02.f5, K02.f6, K02.f7, K02.f8, K02.f9, K02.f10, K02.f11, K02.h0, K02.h1, K02.h2, K02.h3, K02.h4, K02.h5, K02.h6, K02.h7, K02.h8, K02.h9, K02.h10, K02.h11, K02.gl0, b10, eqq_0_0, eqq_0_1, eqq_0_2, eqq_0_3, eqq_0_4, eqq_0_5, eqq_1_0, eqq_1_1, eqq_1_2, eqq_1_3, eqq_1_4, eqq_1_5, eqq_2_0, eqq_2_1, eqq_2_2, eqq_2_3, eqq_2_4, eqq_2_5, eqq_3_0, eqq_3_1, eqq_3_2, eqq_3_3, eqq_3_4, eqq_3_5, eqq_4_0, eqq_4_1, eqq_4_2, eqq_4_3, eqq_4_4, eqq_4_5, eqq_5_0, eqq_5_1, eqq_5_2, eqq_5_3, eqq_5_4, eqq_5_5, eqq_6_0, eqq_6_1, eqq_6_2, eqq_6_3, eqq_6_4, eqq_6_5, in_sm_0, in_sm_1, in_sm_2, in_sm_3, in_sm_4, in_sm_5, in_sm_6, in_sml_0, in_sml_1, in_sml_2, in_sml_3, in_sml_4, in_sml_5, in_sml_6, in_kld_0, in_kld_1, in_kld_2, in_kld_3, in_kld_4, in_kld_5, in_kld_6, TK.isNon, el, isS, wp_eq el, q, start0, List.map_cons, List.map_nil, List.length_cons, List.length_nil, List.replicate, List.cons_append, List.nil_append, List.append_nil, List.getElem?_cons_zero, List.getElem?_cons_succ, exs, ex, ev, evs, evT, evTA, evTO, evO, evI, evAnd, evOr, evC, wp_bind, wp_ok, wp_exc, wp_bad, wp_some, Rs.bind_ok, ixd_c0, ixd_lst, ixd_tup, at0, at1, at2, at3, at4, asB_bl, lt_int, le_int, gt_int, ge_int, eq_int, ne_int, len_lst, len_tup, int_int, min_int, max_int, add_int, sub_int, wp_mul, wp_mod, wp_div, wp_pow, wp_ite, wp_set, wp_mklF, wp_mklT, wp_lenS, wp_tup, wp_addL, wp_addT, wp_addS, setC_c0, ixN5, List.set_cons_zero, List.set_cons_succ, List.length_set, decide_eq_true_eq, retv_rt, retv_nx, tr_bl, tr_int, is_non, isnot_non, ↓reduceIte, Nat.reduceAdd, Nat.reduceLT, Nat.reduceLeDiff, Int.reduceLT, Int.reduceLE, Int.reduceNeg, Int.reduceAdd, Nat.reducePow, Int.reduceToNat, Int.reducePow, true_and, and_true, true_or, or_true, and_self, or_self, if_true, if_false, Bool.false_eq_true, order, pick, Bool.not_true, Bool.not_false, Option.map_some, wp_noexc, Int.reduceEq, nz0, ofO_some, sz, ifF]
    · by_cases q : c < m + n
      · have q2 : ¬ m + n < c := by omega
        refine ⟨.int c, .inr (.inr ⟨c, hc, hM, rfl⟩), fun k => eq_of_wp (wp_call rfl rfl ?_), fun k => eq_of_wp (wp_call rfl rfl ?_)⟩
        · simp -implicitDefEqProofs only [K02.fs0, K02.fs1, K02.fs2, K02.fs3, K02.fs4, K02.fs5, K02.fs6, K02.fs7, K02.fs8, K02.fs9, K02.fs10, K02.fs11, K02.f0, K02.f1, K02.f2, K02.f3, K02.f4, K02.f5, K02.f6, K02.f7, K02.f8, K02.f9, K02.f10, K02.f11, K02.h0, K02.h1, K02.h2, K02.h3, K02.h4, K02.h5, K02.h6, K02.h7, K02.h8, K02.h9, K02.h10, K02.h11, K02.gl0, b1, eqq_0_0, eqq_0_1, eqq_0_2, eqq_0_3, eqq_0_4, eqq_0_5, eqq_1_0, eqq_1_1, eqq_1_2, eqq_1_3, eqq_1_4, eqq_1_5, eqq_2_0, eqq_2_1, eqq_2_2, eqq_2_3, eqq_2_4, eqq_2_5, eqq_3_0, eqq_3_1, eqq_3_2, eqq_3_3, eqq_3_4, eqq_3_5, eqq_4_0, eqq_4_1, eqq_4_2, eqq_4_3, eqq_4_4, eqq_4_5, eqq_5_0, eqq_5_1, eqq_5_2, eqq_5_3, eqq_5_4, eqq_5_5, eqq_6_0, eqq_6_1, eqq_6_2, eqq_6_3, eqq_6_4, eqq_6_5, in_sm_0, in_sm_1, in_sm_2, in_sm_3, in_sm_4, in_sm_5, in_sm_6, in_sml_0, in_sml_1, in_sml_2, in_sml_3, in_sml_4, in_sml_5, in_sml_6, in_kld_0, in_kld_1, in_kld_2, in_kld_3, in_kld_4, in_kld_5, in_kld_6, TK.isNon, el, isS, wp_eq el, q, q2, start0, List.map_cons, List.map_nil, List.length_cons, List.length_nil, List.replicate, List.cons_append, List.nil_append, List.append_nil, List.getElem?_cons_zero, List.getElem?_cons_succ, exs, ex, ev, evs, evT, evTA, evTO, evO, evI, evAnd, evOr, evC, wp_bind, wp_ok, wp_exc, wp_bad, wp_some, Rs.bind_ok, ixd_c0, ixd_lst, ixd_tup, at0, at1, at2, at3, at4, asB_bl, lt_int, le_int, gt_int, ge_int, eq_int, ne_int, len_lst, len_tup, int_int, min_int, max_int, add_int, sub_int, wp_mul, wp_mod, wp_div, wp_pow, wp_ite, wp_set, wp_mklF, wp_mklT, wp_lenS, wp_tup, wp_addL, wp_addT, wp_addS, setC_c0, ixN5, List.set_cons_zero, List.set_cons_succ, List.length_set, decide_eq_true_eq, retv_rt, retv_nx, tr_bl, tr_int, is_non, isnot_non, ↓reduceIte, Nat.reduceAdd, Nat.reduceLT, Nat.reduceLeDiff, Int.reduceLT, Int.reduceLE, Int.reduceNeg, Int.reduceAdd, Nat.reducePow, Int.reduceToNat, Int.reducePow, true_and, and_true, true_or, or_true, and_self, or_self, if_true, if_false, Bool.false_eq_true, order, pick, Bool.not_true, Bool.not_false, Option.map_some, wp_noexc, Int.reduceEq, nz0, ofO_some, sz, ifF]
        · simp -implicitDefEqProofs only [K02.fs0, K02.fs1, K02.fs2, K02.fs3, K02.fs4, K02.fs5, K02.fs6, K02.fs7, K02.fs8, K02.fs9, K02.fs10, K02.fs11, K02.f0, K02.f1, K02.f2, K02.f3, K02.f4, K02.f5, K02.f6, K02.f7, K02.f8, K02.f9, K02.f10, K02.f11, K02.h0, K02.h1, K02.h2, K02.h3, K02.h4, K02.h5, K02.h6, K02.h7, K02.h8, K02.h9, K02.h10, K02.h11, K02.gl0, b10, eqq_0_0, eqq_0_1, eqq_0_2, eqq_0_3, eqq_0_4, eqq_0_5, eqq_1_0, eqq_1_1, eqq_1_2, eqq_1_3, eqq_1_4, eqq_1_5, eqq_2_0, eqq_2_1, eqq_2_2, eqq_2_3, eqq_2_4, eqq_2_5, eqq_3_0, eqq_3_1, eqq_3_2, eqq_3_3, eqq_3_4, eqq_3_5, eqq_4_0, eqq_4_1, eqq_4_2, eqq_4_3, eqq_4_4, eqq_4_5, eqq_5_0, eqq_5_1, eqq_5_2, eqq_5_3, eqq_5_4, eqq_5_5, eqq_6_0, eqq_6_1, eqq_6_2, eqq_6_3, eqq_6_4, eqq_6_5, in_sm_0, in_sm_1, in_sm_2, in_sm_3, in_sm_4, in_sm_5, in_sm_6, in_sml_0, in_sml_1, in_sml_2, in_sml_3, in_sml_4, in_sml_5, in_sml_6, in_kld_0, in_kld_1, in_kld_2, in_kld_3, in_kld_4, in_kld_5, in_kld_6, TK.isNon, el, isS, wp_eq el, q, q2, start0, List.map_cons, List.map_nil, List.length_cons, List.length_nil, List.replicate, List.cons_append, List.nil_append, List.append_nil, List.getElem?_cons_zero, List.getElem?_cons_succ, exs, ex, ev, evs, evT, evTA, evTO, evO, evI, evAnd, evOr, evC, wp_bind, wp_ok, wp_exc, wp_bad, wp_some, Rs.bind_ok, ixd_c0, ixd_lst, ixd_tup, at0, at1, at2, at3, at4, asB_bl, lt_int, le_int, gt_int, ge_int, eq_int, ne_int, len_lst, len_tup, int_int, min_int, max_int, add_int, sub_int, wp_mul, wp_mod, wp_div, wp_pow, wp_ite, wp_set, wp_mklF, wp_mklT, wp_lenS, wp_tup, wp_addL, wp_addT, wp_addS, setC_c0, ixN5, List.set_cons_zero, List.set_cons_succ, List.length_set, decide_eq_true_eq, retv_rt, retv_nx, tr_bl, tr_int, is_non, isnot_non, ↓reduceIte, Nat.reduceAdd, Nat.reduceLT, Nat.reduceLeDiff, Int.reduceLT, Int.reduceLE, Int.reduceNeg, Int.reduceAdd, Nat.reducePow, Int.reduceToNat, Int.reducePow, true_and, and_true, true_or, or_true, and_self, or_self, if_true, if_false, Bool.false_eq_true, order, pick, Bool.not_true, Bool.not_false, Option.map_some, wp_noexc, Int.reduceEq, nz0, ofO_some, sz, ifF]
      · by_cases q2 : m + n < c
        · refine ⟨.int (m + n), .inr (.inr ⟨m + n, by omega, by omega, rfl⟩), fun k => eq_of_wp (wp_call rfl rfl ?_), fun k => eq_of_wp (wp_call rfl rfl ?_)⟩
          · simp -implicitDefEqProofs only [K02.fs0, K02.fs1, K02.fs2, K02.fs3, K02.fs4, K02.fs5, K02.fs6, K02.fs7, K02.fs8, K02.fs9, K02.fs10, K02.fs11, K02.f0, K02.f1, K02.f2, K02.f3, K02.f4, K02.f5, K02.f6, K02.f7, K02.f8, K02.f9, K02.f10, K02.f11, K02.h0, K02.h1, K02.h2, K02.h3, K02.h4, K02.h5, K02.h6, K02.h7, K02.h8, K02.h9, K02.h10, K02.h11, K02.gl0, b1, eqq_0_0, eqq_0_1, eqq_0_2, eqq_0_3, eqq_0_4, eqq_0_5, eqq_1_0, eqq_1_1, eqq_1_2, eqq_1_3, eqq_1_4, eqq_1_5, eqq_2_0, eqq_2_1, eqq_2_2, eqq_2_3, eqq_2_4, eqq_2_5, eqq_3_0, eqq_3_1, eqq_3_2, eqq_3_3, eqq_3_4, eqq_3_5, eqq_4_0, eqq_4_1, eqq_4_2, eqq_4_3, eqq_4_4, eqq_4_5, eqq_5_0, eqq_5_1, eqq_5_2, eqq_5_3, eqq_5_4, eqq_5_5, eqq_6_0, eqq_6_1, eqq_6_2, eqq_6_3, eqq_6_4, eqq_6_5, in_sm_0, in_sm_1, in_sm_2, in_sm_3, in_sm_4, in_sm_5, in_sm_6, in_sml_0, in_sml_1, in_sml_2, in_sml_3, in_sml_4, in_sml_5, in_sml_6, in_kld_0, in_kld_1, in_kld_2, in_kld_3, in_kld_4, in_kld_5, in_kld_6, TK.isNon, el, isS, wp_eq el, q, q2, start0, List.map_cons, List.map_nil, List.length_cons, List.length_nil, List.replicate, List.cons_append, List.nil_append, List.append_nil, List.getElem?_cons_zero, List.getElem?_cons_succ, exs, ex, ev, evs, evT, evTA, evTO, evO, evI, evAnd, evOr, evC, wp_bind, wp_ok, wp_exc, wp_bad, wp_some, Rs.bind_ok, ixd_c0, ixd_lst, ixd_tup, at0, at1, at2, at3, at4, asB_bl, lt_int, le_int, gt_int, ge_int, eq_int, ne_int, len_lst, len_tup, int_int, min_int, max_int, add_int, sub_int, wp_mul, wp_mod, wp_div, wp_pow, wp_ite, wp_set, wp_mklF, wp_mklT, wp_lenS, wp_tup, wp_addL, wp_addT, wp_addS, setC_c0, ixN5, List.set_cons_zero, List.set_cons_succ, List.length_set, decide_eq_true_eq, retv_rt, retv_nx, tr_bl, tr_int, is_non, isnot_non, ↓reduceIte, Nat.reduceAdd, Nat.reduceLT, Nat.reduceLeDiff, Int.reduceLT, Int.reduceLE, Int.reduceNeg, Int.reduceAdd, Nat.reducePow, Int.reduceToNat, Int.reducePow, true_and, and_true, true_or, or_true, and_self, or_self, if_true, if_false, Bool.false_eq_true, order, pick, Bool.not_true, Bool.not_false, Option.map_some, wp_noexc, Int.reduceEq, nz0, ofO_some, sz, ifF]
          · simp -implicitDefEqProofs only [K02.fs0, K02.fs1, K02.fs2, K02.fs3, K02.fs4, K02.fs5, K02.fs6, K02.fs7, K02.fs8, K02.fs9, K02.fs10, K02.fs11, K02.f0, K02.f1, K02.f2, K02.f3, K02.f4, K02.f5, K02.f6, K02.f7, K02.f8, K02.f9, K02.f10, K02.f11, K02.h0, K02.h1, K02.h2, K02.h3, K02.h4, K02.h5, K02.h6, K02.h7, K02.h8, K02.h9, K02.h10, K02.h11, K02.gl0, b10, eqq_0_0, eqq_0_1, eqq_0_2, eqq_0_3, eqq_0_4, eqq_0_5, eqq_1_0, eqq_1_1, eqq_1_2, eqq_1_3, eqq_1_4, eqq_1_5, eqq_2_0, eqq_2_1, eqq_2_2, eqq_2_3, eqq_2_4, eqq_2_5, eqq_3_0, eqq_3_1, eqq_3_2, eqq_3_3, eqq_3_4, eqq_3_5, eqq_4_0, eqq_4_1, eqq_4_2, eqq_4_3, eqq_4_4, eqq_4_5, eqq_5_0, eqq_5_1, eqq_5_2, eqq_5_3, eqq_5_4, eqq_5_5, eqq_6_0, eqq_6_1, eqq_6_2, eqq_6_3, eqq_6_4, eqq_6_5, in_sm_0, in_sm_1, in_sm_2, in_sm_3, in_sm_4, in_sm_5, in_sm_6, in_sml_0, in_sml_1, in_sml_2, in_sml_3, in_sml_4, in_sml_5, in_sml_6, in_kld_0, in_kld_1, in_kld_2, in_kld_3, in_kld_4, in_kld_5, in_kld_6, TK.isNon, el, isS, wp_eq el, q, q2, start0, List.map_cons, List.map_nil, List.length_cons, List.length_nil, List.replicate, List.cons_append, List.nil_append, List.append_nil, List.getElem?_cons_zero, List.getElem?_cons_succ, exs, ex, ev, evs, evT, evTA, evTO, evO, evI, evAnd, evOr, evC, wp_bind, wp_ok, wp_exc, wp_bad, wp_some, Rs.bind_ok, ixd_c0, ixd_lst, ixd_tup, at0, at1, at2, at3, at4, asB_bl, lt_int, le_int, gt_int, ge_int, eq_int, ne_int, len_lst, len_tup, int_int, min_int, max_int, add_int, sub_int, wp_mul, wp_mod, wp_div, wp_pow, wp_ite, wp_set, wp_mklF, wp_mklT, wp_lenS, wp_tup, wp_addL, wp_addT, wp_addS, setC_c0, ixN5, List.set_cons_zero, List.set_cons_succ, List.length_set, decide_eq_true_eq, retv_rt, retv_nx, tr_bl, tr_int, is_non, isnot_non, ↓reduceIte, Nat.reduceAdd, Nat.reduceLT, Nat.reduceLeDiff, Int.reduceLT, Int.reduceLE, Int.reduceNeg, Int.reduceAdd, Nat.reducePow, Int.reduceToNat, Int.reducePow, true_and, and_true, true_or, or_true, and_self, or_self, if_true, if_false, Bool.false_eq_true, order, pick, Bool.not_true, Bool.not_false, Option.map_some, wp_noexc, Int.reduceEq, nz0, ofO_some, sz, ifF]
        · have q3 : m + n = c := by omega
          refine ⟨.int c, .inr (.inr ⟨c, hc, hM, rfl⟩), fun k => eq_of_wp (wp_call rfl rfl ?_), fun k => eq_of_wp (wp_call rfl rfl ?_)⟩
          · simp -implicitDefEqProofs only [K02.fs0, K02.fs1, K02.fs2, K02.fs3, K02.fs4, K02.fs5, K02.fs6, K02.fs7, K02.fs8, K02.fs9, K02.fs10, K02.fs11, K02.f0, K02.f1, K02.f2, K02.f3, K02.f4, K02.f5, K02.f6, K02.f7, K02.f8, K02.f9, K02.f10, K02.f11, K02.h0, K02.h1, K02.h2, K02.h3, K02.h4, K02.h5, K02.h6, K02.h7, K02.h8, K02.h9, K02.h10, K02.h11, K02.gl0, b1, eqq_0_0, eqq_0_1, eqq_0_2, eqq_0_3, eqq_0_4, eqq_0_5, eqq_1_0, eqq_1_1, eqq_1_2, eqq_1_3, eqq_1_4, eqq_1_5, eqq_2_0, eqq_2_1, eqq_2_2, eqq_2_3, eqq_2_4, eqq_2_5, eqq_3_0, eqq_3_1, eqq_3_2, eqq_3_3, eqq_3_4, eqq_3_5, eqq_4_0, eqq_4_1, eqq_4_2, eqq_4_3, eqq_4_4, eqq_4_5, eqq_5_0, eqq_5_1, eqq_5_2, eqq_5_3, eqq_5_4, eqq_5_5, eqq_6_0, eqq_6_1, eqq_6_2, eqq_6_3, eqq_6_4, eqq_6_5, in_sm_0, in_sm_1, in_sm_2, in_sm_3, in_sm_4, in_sm_5, in_sm_6, in_sml_0, in_sml_1, in_sml_2, in_sml_3, in_sml_4, in_sml_5, in_sml_6, in_kld_0, in_kld_1, in_kld_2, in_kld_3, in_kld_4, in_kld_5, in_kld_6, TK.isNon, el, isS, wp_eq el, q, q2, q3, Int.lt_irrefl, start0, List.map_cons, List.map_nil, List.length_cons, List.length_nil, List.replicate, List.cons_append, List.nil_append, List.append_nil, List.getElem?_cons_zero, List.getElem?_cons_succ, exs, ex, ev, evs, evT, evTA, evTO, evO, evI, evAnd, evOr, evC, wp_bind, wp_ok, wp_exc, wp_bad, wp_some, Rs.bind_ok, ixd_c0, ixd_lst, ixd_tup, at0, at1, at2, at3, at4, asB_bl, lt_int, le_int, gt_int, ge_int, eq_int, ne_int, len_lst, len_tup, int_int, min_int, max_int, add_int, sub_int, wp_mul, wp_mod, wp_div, wp_pow, wp_ite, wp_set, wp_mklF, wp_mklT, wp_lenS, wp_tup, wp_addL, wp_addT, wp_addS, setC_c0, ixN5, List.set_cons_zero, List.set_cons_succ, List.length_set, decide_eq_true_eq, retv_rt, retv_nx, tr_bl, tr_int, is_non, isnot_non, ↓reduceIte, Nat.reduceAdd, Nat.reduceLT, Nat.reduceLeDiff, Int.reduceLT, Int.reduceLE, Int.reduceNeg, Int.reduceAdd, Nat.reducePow, Int.reduceToNat, Int.reducePow, true_and, and_true, true_or, or_true, and_self, or_self, if_true, if_false, Bool.false_eq_true, order, pick, Bool.not_true, Bool.not_false, Option.map_some, wp_noexc, Int.reduceEq, nz0, ofO_some, sz, ifF]
          · simp -implicitDefEqProofs only [K02.fs0, K02.fs1, K02.fs2, K02.fs3, K02.fs4, K02.fs5, K02.fs6, K02.fs7, K02.fs8, K02.fs9, K02.fs10, K02.fs11, K02.f0, K02.f1, K02.f2, K02.f3, K02.f4, K02.f5, K02.f6, K02.f7, K02.f8, K02.f9, K02.f10, K02.f11, K02.h0, K02.h1, K02.h2, K02.h3, K02.h4, K02.h5, K02.h6, K02.h7, K02.h8, K02.h9, K02.h10, K02.h11, K02.gl0, b10, eqq_0_0, eqq_0_1, eqq_0_2, eqq_0_3, eqq_0_4, eqq_0_5, eqq_1_0, eqq_1_1, eqq_1_2, eqq_1_3, eqq_1_4, eqq_1_5, eqq_2_0, eqq_2_1, eqq_2_2, eqq_2_3, eqq_2_4, eqq_2_5, eqq_3_0, eqq_3_1, eqq_3_2, eqq_3_3, eqq_3_4, eqq_3_5, eqq_4_0, eqq_4_1, eqq_4_2, eqq_4_3, eqq_4_4, eqq_4_5, eqq_5_0, eqq_5_1, eqq_5_2, eqq_5_3, eqq_5_4, eqq_5_5, eqq_6_0, eqq_6_1, eqq_6_2, eqq_6_3, eqq_6_4, eqq_6_5, in_sm_0, in_sm_1, in_sm_2, in_sm_3, in_sm_4, in_sm_5, in_sm_6, in_sml_0, in_sml_1, in_sml_2, in_sml_3, in_sml_4, in_sml_5, in_sml_6, in_kld_0, in_kld_1, in_kld_2, in_kld_3, in_kld_4, in_kld_5, in_kld_6, TK.isNon, el, isS, wp_eq el, q, q2, q3, Int.lt_irrefl, start0, List.map_cons, List.map_nil, List.length_cons, List.length_nil, List.replicate, List.cons_append, List.nil_append, List.append_nil, List.getElem?_cons_zero, List.getElem?_cons_succ, exs, ex, ev, evs, evT, evTA, evTO, evO, evI, evAnd, evOr, evC, wp_bind, wp_ok, wp_exc, wp_bad, wp_some, Rs.bind_ok, ixd_c0, ixd_lst, ixd_tup, at0, at1, at2, at3, at4, asB_bl, lt_int, le_int, gt_int, ge_int, eq_int, ne_int, len_lst, len_tup, int_int, min_int, max_int, add_int, sub_int, wp_mul, wp_mod, wp_div, wp_pow, wp_ite, wp_set, wp_mklF, wp_mklT, wp_lenS, wp_tup, wp_addL, wp_addT, wp_addS, setC_c0, ixN5, List.set_cons_zero, List.set_cons_succ, List.length_set, decide_eq_true_eq, retv_rt, retv_nx, tr_bl, tr_int, is_non, isnot_non, ↓reduceIte, Nat.reduceAdd, Nat.reduceLT, Nat.reduceLeDiff, Int.reduceLT, Int.reduceLE, Int.reduceNeg, Int.reduceAdd, Nat.reducePow, Int.reduceToNat, Int.reducePow, true_and, and_true, true_or, or_true, and_self, or_self, if_true, if_false, Bool.false_eq_true, order, pick, Bool.not_true, Bool.not_false, Option.map_some, wp_noexc, Int.reduceEq, nz0, ofO_some, sz, ifF]
/-- a life's data -/
def lifeP : Dt → PyData
  | .str x => .str x
  | .int n => .int n
  | _ => .none
theorem life_py {M : Int} {d : Dt} (h : LifeR M d) : py0 d = some (lifeP d) := by
  rcases h with rfl | rfl | ⟨n, _, _, rfl⟩ <;> rfl
theorem life_sh {d : Dt} (h : LifeR (2 ^ 150) d) : (lifeP d).showable = true ∧ (lifeP d).hasDict = false ∧ (lifeP d).depth = 0 ∧ (lifeP d).leavesShort 46 = true ∧ (lifeP d).weight ≤ 1000 := by
  rcases h with rfl | rfl | ⟨n, n1, n2, rfl⟩
  · decide +kernel
  · decide +kernel
  · have l : n.natAbs.log2 < 200 := by
      have : n.natAbs < 2 ^ 200 := by omega
      exact (Nat.log2_lt (by omega)).mpr this
    refine ⟨?_, rfl, rfl, ?_, ?_⟩
    · exact decide_eq_true (by omega)
    · exact decide_eq_true (PyProof.Rows.toString_length_le (v := n) (by omega) (by decide) (by omega))
    · show (if n == 0 then 0 else n.natAbs.log2 + 1) ≤ 1000
      split <;> omega
theorem same3 {k : Nat} {a b c : Dt} (ha : LifeR (2 ^ 150) a) (hb : LifeR (2 ^ 150) b) (hc : LifeR (2 ^ 150) c) (s : Sto) : calls P (k + 1) 5 [.lst [a, b, c], .lst [a, b, c]] s = .ok (.bl true) s := by
  have e : pyv s (.lst [a, b, c]) = some (.list [lifeP a, lifeP b, lifeP c]) := by
    show (py0s [a, b, c]).map PyData.list = _
    unfold py0s py0s py0s py0s
    rw [life_py ha, life_py hb, life_py hc]
    rfl
  obtain ⟨a1, a2, a3, a4, a5⟩ := life_sh ha
  obtain ⟨b1, b2, b3, b4, b5⟩ := life_sh hb
  obtain ⟨c1, c2, c3, c4, c5⟩ := life_sh hc
  refine c_same e ⟨?_, ?_, ?_, ?_⟩
  · unfold PyData.showable PyData.showableAll PyData.showableAll PyData.showableAll PyData.showableAll
    rw [a1, b1, c1]; rfl
  · unfold PyData.hasDict PyData.hasDictAll PyData.hasDictAll PyData.hasDictAll PyData.hasDictAll
    rw [a2, b2, c2]; rfl
  · refine Nat.le_trans (PyData.shown_le 46 (by decide) _ ?_) ?_
    · unfold PyData.leavesShort PyData.leavesShortAll PyData.leavesShortAll PyData.leavesShortAll PyData.leavesShortAll
      rw [a4, b4, c4]; rfl
    · unfold PyData.weight PyData.weightAll PyData.weightAll PyData.weightAll PyData.weightAll
      show _ ≤ 16777216
      omega
  · unfold PyData.depth PyData.depthAll PyData.depthAll PyData.depthAll PyData.depthAll
    rw [a3, b3, c3]; decide
theorem main (ns : List Int) : ∃ S, calls P (20 + 1) 11 [.scr (ns.map Dt.int)] [] = .ok (.bl true) S := by
  suffices h : Wp (calls P (20 + 1) 11 [.scr (ns.map Dt.int)] []) fun d _ => d = .bl true by
    obtain ⟨a, s, e, rfl⟩ := h.get
    exact ⟨s, e⟩
  refine wp_call rfl rfl ?_
  simp -implicitDefEqProofs only [K02.fs0, K02.fs1, K02.fs2, K02.fs3, K02.fs4, K02.fs5, K02.fs6, K02.fs7, K02.fs8, K02.fs9, K02.fs10, K02.fs11, K02.f0, K02.f1, K02.f2, K02.f3, K02.f4, K02.f5, K02.f6, K02.f7, K02.f8, K02.f9, K02.f10, K02.f11, K02.h0, K02.h1, K02.h2, K02.h3, K02.h4, K02.h5, K02.h6, K02.h7, K02.h8, K02.h9, K02.h10, K02.h11, K02.gl0, b11, smallI, Int.reduceSub, decide_true, Bool.and_self, start0, List.map_cons, List.map_nil, List.length_cons, List.length_nil, List.replicate, List.cons_append, List.nil_append, List.append_nil, List.getElem?_cons_zero, List.getElem?_cons_succ, exs, ex, ev, evs, evT, evTA, evTO, evO, evI, evAnd, evOr, evC, wp_bind, wp_ok, wp_exc, wp_bad, wp_some, Rs.bind_ok, ixd_c0, ixd_lst, ixd_tup, at0, at1, at2, at3, at4, asB_bl, lt_int, le_int, gt_int, ge_int, eq_int, ne_int, len_lst, len_tup, int_int, min_int, max_int, add_int, sub_int, wp_mul, wp_mod, wp_div, wp_pow, wp_ite, wp_set, wp_mklF, wp_mklT, wp_lenS, wp_tup, wp_addL, wp_addT, wp_addS, setC_c0, ixN5, List.set_cons_zero, List.set_cons_succ, List.length_set, decide_eq_true_eq, retv_rt, retv_nx, tr_bl, tr_int, is_non, isnot_non, ↓reduceIte, Nat.reduceAdd, Nat.reduceLT, Nat.reduceLeDiff, Int.reduceLT, Int.reduceLE, Int.reduceNeg, Int.reduceAdd, Nat.reducePow, Int.reduceToNat, Int.reducePow, true_and, and_true, true_or, or_true, and_self, or_self, if_true, if_false, Bool.false_eq_true, order, pick, Bool.not_true, Bool.not_false, Option.map_some, wp_noexc, Int.reduceEq, nz0, ofO_some, sz, ifF]
  refine (w_source ns).mono ?_
  rintro d s ⟨rfl, h⟩
  (try simp -implicitDefEqProofs only [K02.fs0, K02.fs1, K02.fs2, K02.fs3, K02.fs4, K02.fs5, K02.fs6, K02.fs7, K02.fs8, K02.fs9, K02.fs10, K02.fs11, K02.f0, K02.f1, K02.f2, K02.f3, K02.f4, K02.f5, K02.f6, K02.f7, K02.f8, K02.f9, K02.f10, K02.f11, K02.h0, K02.h1, K02.h2, K02.h3, K02.h4, K02.h5, K02.h6, K02.h7, K02.h8, K02.h9, K02.h10, K02.h11, K02.gl0, start0, List.map_cons, List.map_nil, List.length_cons, List.length_nil, List.replicate, List.cons_append, List.nil_append, List.append_nil, List.getElem?_cons_zero, List.getElem?_cons_succ, exs, ex, ev, evs, evT, evTA, evTO, evO, evI, evAnd, evOr, evC, wp_bind, wp_ok, wp_exc, wp_bad, wp_some, Rs.bind_ok, ixd_c0, ixd_lst, ixd_tup, at0, at1, at2, at3, at4, asB_bl, lt_int, le_int, gt_int, ge_int, eq_int, ne_int, len_lst, len_tup, int_int, min_int, max_int, add_int, sub_int, wp_mul, wp_mod, wp_div, wp_pow, wp_ite, wp_set, wp_mklF, wp_mklT, wp_lenS, wp_tup, wp_addL, wp_addT, wp_addS, setC_c0, ixN5, List.set_cons_zero, List.set_cons_succ, List.length_set, decide_eq_true_eq, retv_rt, retv_nx, tr_bl, tr_int, is_non, isnot_non, ↓reduceIte, Nat.reduceAdd, Nat.reduceLT, Nat.reduceLeDiff, Int.reduceLT, Int.reduceLE, Int.reduceNeg, Int.reduceAdd, Nat.reducePow, Int.reduceToNat, Int.reducePow, true_and, and_true, true_or, or_true, and_self, or_self, if_true, if_false, Bool.false_eq_true, order, pick, Bool.not_true, Bool.not_false, Option.map_some, wp_noexc, Int.reduceEq, nz0, ofO_some, sz, ifF])
  refine wp_loop (fun ρ s => Srced [] s ∧ ∃ a0 a2 a3 a4 a5 a6 a7, ρ = [a0, some (.cell 0), a2, a3, a4, a5, a6, a7]) _ ⟨h, _, _, _, _, _, _, _, rfl⟩ ?_ ?_
  · rintro d hd ρ s ⟨h, a0, a2, a3, a4, a5, a6, a7, rfl⟩
    refine ⟨_, rfl, ?_⟩
    simp -implicitDefEqProofs only [K02.fs0, K02.fs1, K02.fs2, K02.fs3, K02.fs4, K02.fs5, K02.fs6, K02.fs7, K02.fs8, K02.fs9, K02.fs10, K02.fs11, K02.f0, K02.f1, K02.f2, K02.f3, K02.f4, K02.f5, K02.f6, K02.f7, K02.f8, K02.f9, K02.f10, K02.f11, K02.h0, K02.h1, K02.h2, K02.h3, K02.h4, K02.h5, K02.h6, K02.h7, K02.h8, K02.h9, K02.h10, K02.h11, K02.gl0, start0, List.map_cons, List.map_nil, List.length_cons, List.length_nil, List.replicate, List.cons_append, List.nil_append, List.append_nil, List.getElem?_cons_zero, List.getElem?_cons_succ, exs, ex, ev, evs, evT, evTA, evTO, evO, evI, evAnd, evOr, evC, wp_bind, wp_ok, wp_exc, wp_bad, wp_some, Rs.bind_ok, ixd_c0, ixd_lst, ixd_tup, at0, at1, at2, at3, at4, asB_bl, lt_int, le_int, gt_int, ge_int, eq_int, ne_int, len_lst, len_tup, int_int, min_int, max_int, add_int, sub_int, wp_mul, wp_mod, wp_div, wp_pow, wp_ite, wp_set, wp_mklF, wp_mklT, wp_lenS, wp_tup, wp_addL, wp_addT, wp_addS, setC_c0, ixN5, List.set_cons_zero, List.set_cons_succ, List.length_set, decide_eq_true_eq, retv_rt, retv_nx, tr_bl, tr_int, is_non, isnot_non, ↓reduceIte, Nat.reduceAdd, Nat.reduceLT, Nat.reduceLeDiff, Int.reduceLT, Int.reduceLE, Int.reduceNeg, Int.reduceAdd, Nat.reducePow, Int.reduceToNat, Int.reducePow, true_and, and_true, true_or, or_true, and_self, or_self, if_true, if_false, Bool.false_eq_true, order, pick, Bool.not_true, Bool.not_false, Option.map_some, wp_noexc, Int.reduceEq, nz0, ofO_some, sz, ifF]
    refine (w_crest h).mono ?_
    rintro d s1 ⟨h, c, c0, c1, rfl⟩
    (try simp -implicitDefEqProofs only [K02.fs0, K02.fs1, K02.fs2, K02.fs3, K02.fs4, K02.fs5, K02.fs6, K02.fs7, K02.fs8, K02.fs9, K02.fs10, K02.fs11, K02.f0, K02.f1, K02.f2, K02.f3, K02.f4, K02.f5, K02.f6, K02.f7, K02.f8, K02.f9, K02.f10, K02.f11, K02.h0, K02.h1, K02.h2, K02.h3, K02.h4, K02.h5, K02.h6, K02.h7, K02.h8, K02.h9, K02.h10, K02.h11, K02.gl0, start0, List.map_cons, List.map_nil, List.length_cons, List.length_nil, List.replicate, List.cons_append, List.nil_append, List.append_nil, List.getElem?_cons_zero, List.getElem?_cons_succ, exs, ex, ev, evs, evT, evTA, evTO, evO, evI, evAnd, evOr, evC, wp_bind, wp_ok, wp_exc, wp_bad, wp_some, Rs.bind_ok, ixd_c0, ixd_lst, ixd_tup, at0, at1, at2, at3, at4, asB_bl, lt_int, le_int, gt_int, ge_int, eq_int, ne_int, len_lst, len_tup, int_int, min_int, max_int, add_int, sub_int, wp_mul, wp_mod, wp_div, wp_pow, wp_ite, wp_set, wp_mklF, wp_mklT, wp_lenS, wp_tup, wp_addL, wp_addT, wp_addS, setC_c0, ixN5, List.set_cons_zero, List.set_cons_succ, List.length_set, decide_eq_true_eq, retv_rt, retv_nx, tr_bl, tr_int, is_non, isnot_non, ↓reduceIte, Nat.reduceAdd, Nat.reduceLT, Nat.reduceLeDiff, Int.reduceLT, Int.reduceLE, Int.reduceNeg, Int.reduceAdd, Nat.reducePow, Int.reduceToNat, Int.reducePow, true_and, and_true, true_or, or_true, and_self, or_self, if_true, if_false, Bool.false_eq_true, order, pick, Bool.not_true, Bool.not_false, Option.map_some, wp_noexc, Int.reduceEq, nz0, ofO_some, sz, ifF])
    refine (w_life h c0 (by omega)).mono ?_
    rintro l s1 ⟨h, hl⟩
    (try simp -implicitDefEqProofs only [K02.fs0, K02.fs1, K02.fs2, K02.fs3, K02.fs4, K02.fs5, K02.fs6, K02.fs7, K02.fs8, K02.fs9, K02.fs10, K02.fs11, K02.f0, K02.f1, K02.f2, K02.f3, K02.f4, K02.f5, K02.f6, K02.f7, K02.f8, K02.f9, K02.f10, K02.f11, K02.h0, K02.h1, K02.h2, K02.h3, K02.h4, K02.h5, K02.h6, K02.h7, K02.h8, K02.h9, K02.h10, K02.h11, K02.gl0, start0, List.map_cons, List.map_nil, List.length_cons, List.length_nil, List.replicate, List.cons_append, List.nil_append, List.append_nil, List.getElem?_cons_zero, List.getElem?_cons_succ, exs, ex, ev, evs, evT, evTA, evTO, evO, evI, evAnd, evOr, evC, wp_bind, wp_ok, wp_exc, wp_bad, wp_some, Rs.bind_ok, ixd_c0, ixd_lst, ixd_tup, at0, at1, at2, at3, at4, asB_bl, lt_int, le_int, gt_int, ge_int, eq_int, ne_int, len_lst, len_tup, int_int, min_int, max_int, add_int, sub_int, wp_mul, wp_mod, wp_div, wp_pow, wp_ite, wp_set, wp_mklF, wp_mklT, wp_lenS, wp_tup, wp_addL, wp_addT, wp_addS, setC_c0, ixN5, List.set_cons_zero, List.set_cons_succ, List.length_set, decide_eq_true_eq, retv_rt, retv_nx, tr_bl, tr_int, is_non, isnot_non, ↓reduceIte, Nat.reduceAdd, Nat.reduceLT, Nat.reduceLeDiff, Int.reduceLT, Int.reduceLE, Int.reduceNeg, Int.reduceAdd, Nat.reducePow, Int.reduceToNat, Int.reducePow, true_and, and_true, true_or, or_true, and_self, or_self, if_true, if_false, Bool.false_eq_true, order, pick, Bool.not_true, Bool.not_false, Option.map_some, wp_noexc, Int.reduceEq, nz0, ofO_some, sz, ifF])
    refine (w_act h c0 (by omega)).mono ?_
    rintro a s1 ⟨h, ha⟩
    have hl' : LifeR (2 ^ 150) l := by
      rcases hl with h | h | ⟨n, h1, h2, h3⟩
      · exact .inl h
      · exact .inr (.inl h)
      · exact .inr (.inr ⟨n, h1, by omega, h3⟩)
    have ha' : ActR (2 ^ 150) a := by
      rcases ha with h | h | h | ⟨n, h1, h2, h3⟩
      · exact .inl h
      · exact .inr (.inl h)
      · exact .inr (.inr (.inl h))
      · exact .inr (.inr (.inr ⟨n, h1, by omega, h3⟩))
    obtain ⟨x, hx, x1, x2⟩ := c_acted c0 (by omega) hl' ha' s1
    obtain ⟨y, hy, y1, y2⟩ := c_acted c0 (by omega) hx ha' s1
    obtain ⟨z, hz, z1, z2⟩ := c_acted (c := 1000000000000000000000000000000) (by decide) (by decide) hl' ha' s1
    have x1 : calls P 20 1 _ s1 = _ := x1 18
    have y1 : calls P 20 1 _ s1 = _ := y1 18
    have z1 : calls P 20 1 _ s1 = _ := z1 18
    have x2 : calls P 20 10 _ s1 = _ := x2 19
    have y2 : calls P 20 10 _ s1 = _ := y2 19
    have z2 : calls P 20 10 _ s1 = _ := z2 19
    have q : calls P 20 5 _ s1 = _ := same3 (k := 19) hx hy hz s1
    simp -implicitDefEqProofs only [K02.fs0, K02.fs1, K02.fs2, K02.fs3, K02.fs4, K02.fs5, K02.fs6, K02.fs7, K02.fs8, K02.fs9, K02.fs10, K02.fs11, K02.f0, K02.f1, K02.f2, K02.f3, K02.f4, K02.f5, K02.f6, K02.f7, K02.f8, K02.f9, K02.f10, K02.f11, K02.h0, K02.h1, K02.h2, K02.h3, K02.h4, K02.h5, K02.h6, K02.h7, K02.h8, K02.h9, K02.h10, K02.h11, K02.gl0, x1, y1, z1, x2, y2, z2, q, start0, List.map_cons, List.map_nil, List.length_cons, List.length_nil, List.replicate, List.cons_append, List.nil_append, List.append_nil, List.getElem?_cons_zero, List.getElem?_cons_succ, exs, ex, ev, evs, evT, evTA, evTO, evO, evI, evAnd, evOr, evC, wp_bind, wp_ok, wp_exc, wp_bad, wp_some, Rs.bind_ok, ixd_c0, ixd_lst, ixd_tup, at0, at1, at2, at3, at4, asB_bl, lt_int, le_int, gt_int, ge_int, eq_int, ne_int, len_lst, len_tup, int_int, min_int, max_int, add_int, sub_int, wp_mul, wp_mod, wp_div, wp_pow, wp_ite, wp_set, wp_mklF, wp_mklT, wp_lenS, wp_tup, wp_addL, wp_addT, wp_addS, setC_c0, ixN5, List.set_cons_zero, List.set_cons_succ, List.length_set, decide_eq_true_eq, retv_rt, retv_nx, tr_bl, tr_int, is_non, isnot_non, ↓reduceIte, Nat.reduceAdd, Nat.reduceLT, Nat.reduceLeDiff, Int.reduceLT, Int.reduceLE, Int.reduceNeg, Int.reduceAdd, Nat.reducePow, Int.reduceToNat, Int.reducePow, true_and, and_true, true_or, or_true, and_self, or_self, if_true, if_false, Bool.false_eq_true, order, pick, Bool.not_true, Bool.not_false, Option.map_some, wp_noexc, Int.reduceEq, nz0, ofO_some, sz, ifF]
    exact ⟨h, _, _, _, _, _, _, _, rfl⟩
  · rintro ρ s ⟨h, a0, a2, a3, a4, a5, a6, a7, rfl⟩
    (try simp -implicitDefEqProofs only [K02.fs0, K02.fs1, K02.fs2, K02.fs3, K02.fs4, K02.fs5, K02.fs6, K02.fs7, K02.fs8, K02.fs9, K02.fs10, K02.fs11, K02.f0, K02.f1, K02.f2, K02.f3, K02.f4, K02.f5, K02.f6, K02.f7, K02.f8, K02.f9, K02.f10, K02.f11, K02.h0, K02.h1, K02.h2, K02.h3, K02.h4, K02.h5, K02.h6, K02.h7, K02.h8, K02.h9, K02.h10, K02.h11, K02.gl0, start0, List.map_cons, List.map_nil, List.length_cons, List.length_nil, List.replicate, List.cons_append, List.nil_append, List.append_nil, List.getElem?_cons_zero, List.getElem?_cons_succ, exs, ex, ev, evs, evT, evTA, evTO, evO, evI, evAnd, evOr, evC, wp_bind, wp_ok, wp_exc, wp_bad, wp_some, Rs.bind_ok, ixd_c0, ixd_lst, ixd_tup, at0, at1, at2, at3, at4, asB_bl, lt_int, le_int, gt_int, ge_int, eq_int, ne_int, len_lst, len_tup, int_int, min_int, max_int, add_int, sub_int, wp_mul, wp_mod, wp_div, wp_pow, wp_ite, wp_set, wp_mklF, wp_mklT, wp_lenS, wp_tup, wp_addL, wp_addT, wp_addS, setC_c0, ixN5, List.set_cons_zero, List.set_cons_succ, List.length_set, decide_eq_true_eq, retv_rt, retv_nx, tr_bl, tr_int, is_non, isnot_non, ↓reduceIte, Nat.reduceAdd, Nat.reduceLT, Nat.reduceLeDiff, Int.reduceLT, Int.reduceLE, Int.reduceNeg, Int.reduceAdd, Nat.reducePow, Int.reduceToNat, Int.reducePow, true_and, and_true, true_or, or_true, and_self, or_self, if_true, if_false, Bool.false_eq_true, order, pick, Bool.not_true, Bool.not_false, Option.map_some, wp_noexc, Int.reduceEq, nz0, ofO_some, sz, ifF])
end K02
theorem PySem.Challenge.cw_touchkept_k02_acts_on_lives_holds : PySem.Challenge.rw_touchkept_k02_acts_on_lives.Holds := by
  exact K02.row_of 20 (by decide) fun ns _ => K02.main ns
