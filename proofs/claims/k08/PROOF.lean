import PyProof.Rows.All
import Wide.All
import OpenK.AllK
import Wide.FinOn
import HandS.ForMost
import HandS.TupAny
import HandS.TupMul
import HandS.IsInst
import HandS.Conv
import HandS.SortInts
import HandS.Walk
import HandS.Zip
import HandS.Rev
import HandS.Wide
import HandS.Flow
import PyProof.NeKinds
import HandS.SetFor
import HandS.Strs
import PyProof.ReprRoads
import KE.DataMinMax
import HandS.NoneIn
import HandS.Style
import HandS.Exc
import HandS.Words
import HandS.WordsExc
import KE.KDictPairs
import HandS.Deep
import KE.GoesEnum
import PyProof.ReprLen
import PySem.Challenge.RW_blindpush_k08_lengths_of_goals
set_option Elab.async false
set_option linter.all false
section
set_option maxRecDepth 100000
set_option maxHeartbeats 1000000
/-! DL0: data values over the hand layer. D: a Python value as plain data, or a place in a store; the store holds what may change. -/
namespace DL
open PySem PySem.Spec PyProof.Rows L2

/-- a value: data that never changes, or a mutable thing by its place in the store -/
inductive D where
  | py (d : PyData)
  | loc (n : Nat)
  | scr (ns : List Int)
instance : Inhabited D := ⟨.py .none⟩
abbrev dN : D := .py .none
abbrev dI (i : Int) : D := .py (.int i)
abbrev dB (b : Bool) : D := .py (.bool b)
abbrev dS (x : Str) : D := .py (.str x)
abbrev dT (xs : List PyData) : D := .py (.tuple xs)
abbrev dL (xs : List PyData) : D := .py (.list xs)

/-- what the store holds -/
inductive SO where
  | lst (xs : List D)
  | dK (kvs : List (Key × D))
  | dT (kvs : List (List Key × D))
  | ins (c : Nat) (fs : List (Str × D))
abbrev Sto := List SO
abbrev Envr := List (Option D)

/-- an exception: its class by number, its fields -/
structure Xc where
  cls : Nat
  fs : List (Str × D)

inductive Res (α : Type) where
  | ok (a : α) (S : Sto)
  | exc (x : Xc) (S : Sto)
  | bad
def Res.bind {α β : Type} (r : Res α) (f : α → Sto → Res β) : Res β :=
  match r with
  | .ok a S => f a S
  | .exc x S => .exc x S
  | .bad => .bad
@[simp] theorem bind_ok {α β : Type} (a : α) (S : Sto) (f : α → Sto → Res β) : (Res.ok a S).bind f = f a S := rfl
@[simp] theorem bind_exc {α β : Type} (x : Xc) (S : Sto) (f : α → Sto → Res β) : (Res.exc x S : Res α).bind f = .exc x S := rfl
@[simp] theorem bind_bad {α β : Type} (f : α → Sto → Res β) : (Res.bad : Res α).bind f = .bad := rfl

inductive Fl where
  | nx (env : Envr)
  | rt (d : D)
  | bk (env : Envr)
  | ct (env : Envr)
  | xc (x : Xc) (env : Envr)
/-- an expression within a statement: what is raised takes the slots along -/
def Res.bindX {α : Type} (env : Envr) (r : Res α) (f : α → Sto → Res Fl) : Res Fl :=
  match r with
  | .ok a S => f a S
  | .exc x S => .ok (.xc x env) S
  | .bad => .bad
@[simp] theorem bindX_ok {α : Type} (env : Envr) (a : α) (S : Sto) (f : α → Sto → Res Fl) : (Res.ok a S).bindX env f = f a S := rfl
@[simp] theorem bindX_exc {α : Type} (env : Envr) (x : Xc) (S : Sto) (f : α → Sto → Res Fl) : (Res.exc x S : Res α).bindX env f = .ok (.xc x env) S := rfl
@[simp] theorem bindX_bad {α : Type} (env : Envr) (f : α → Sto → Res Fl) : (Res.bad : Res α).bindX env f = .bad := rfl

abbrev EX := Envr → Sto → Res D
abbrev TX := Envr → Sto → Res Bool
abbrev AX := Envr → Sto → Res (List D)
abbrev SX := Envr → Sto → Res Fl
abbrev FX := List D → Sto → Res D

/-- what stands around: the written part, the classes' addresses -/
structure G where
  K : PySem.W.Frag
  cl : Nat → Addr

/-- the mutable addresses: those of the store by place, and hidden ones (lists that a comprehension is making) -/
structure RR where
  l : List Addr
  m : List Addr
def RR.has (R : RR) (a : Addr) : Prop := a ∈ R.l ∨ a ∈ R.m
instance : Membership Addr RR := ⟨fun R a => R.has a⟩
theorem RR.mem_iff {R : RR} {a : Addr} : a ∈ R ↔ a ∈ R.l ∨ a ∈ R.m := Iff.rfl
abbrev R0 : RR := ⟨[], []⟩
theorem notin0 {a : Addr} : a ∉ R0 := fun h => by
  rcases h with h | h <;> cases h
def keyPy : Key → PyData
  | .inl i => .int i
  | .inr x => .str x

/-- a pair of numbers -/
def isPr : PyData → Bool
  | .tuple [.int _, .int _] => true
  | _ => false
/-- some pairs of numbers: such a tuple is told by its object, which has no dict -/
def prsB (ds : List PyData) : Bool := !ds.isEmpty && ds.all isPr
/-- how a new tuple stands: as a tuple, or as its object -/
def Fz (b : Bool) (xs : List V) (u : HO) : Prop := if b = true then ∃ o : Obj, o.dict = none ∧ u = .frz o (.tup xs) else u = .tup xs
def TupR (H : Hp) (a : Addr) (xs : List V) (ds : List PyData) : Prop := ∃ u, H a = some u ∧ Fz (prsB ds) xs u
theorem Fz.rd {H : Hp} {a : Addr} {b : Bool} {xs : List V} {u : HO} (h : Fz b xs u) (e : H a = some u) : Rd H a (.tup xs) := by
  unfold Fz at h
  split at h
  · obtain ⟨o, _, rfl⟩ := h
    exact .inr ⟨o, e⟩
  · subst h
    exact .inl e
theorem TupR.rd {H : Hp} {a : Addr} {xs : List V} {ds : List PyData} (h : TupR H a xs ds) : Rd H a (.tup xs) := let ⟨_, e, f⟩ := h; f.rd e
theorem TupR.sq {K : PySem.W.Frag} {H : Hp} {a : Addr} {xs : List V} {ds : List PyData} (h : TupR H a xs ds) : SqT K H a xs := .inl h.rd
theorem TupR.of {H : Hp} {a : Addr} {xs : List V} {ds : List PyData} (h : H a = some (.tup xs)) (n : prsB ds = false) : TupR H a xs ds := ⟨_, h, by unfold Fz; rw [n]; rfl⟩
theorem TupR.flat {H : Hp} {a : Addr} {xs : List V} {ds : List PyData} (h : TupR H a xs ds) (n : prsB ds = false) : H a = some (.tup xs) := by
  obtain ⟨u, e, f⟩ := h
  unfold Fz at f
  rw [n] at f
  have f : u = .tup xs := f
  rw [e, f]
theorem TupR.frz {H : Hp} {a : Addr} {xs : List V} {ds : List PyData} (h : TupR H a xs ds) (n : prsB ds = true) : ∃ o : Obj, o.dict = none ∧ H a = some (.frz o (.tup xs)) := by
  obtain ⟨u, e, f⟩ := h
  unfold Fz at f
  rw [n] at f
  obtain ⟨o, d, rfl⟩ := f
  exact ⟨o, d, e⟩
theorem TupR.keep {H H' : Hp} {a : Addr} {xs : List V} {ds : List PyData} (h : TupR H a xs ds) (k : ∀ u, H a = some u → H' a = some u) : TupR H' a xs ds := let ⟨u, e, f⟩ := h; ⟨u, k u e, f⟩
theorem prsB_ints (ns : List Int) : prsB (ns.map PyData.int) = false := by cases ns <;> rfl
theorem prsB_fst {d : PyData} {ds : List PyData} (h : isPr d = false) : prsB (d :: ds) = false := by unfold prsB; rw [List.all_cons, h]; simp
mutual
inductive Rp (K : PySem.W.Frag) (R : RR) (H : Hp) : V → PyData → Prop
  | non : Rp K R H .non .none
  | bl (b : Bool) : Rp K R H (.bl b) (.bool b)
  | int (i : Int) : Rp K R H (.int i) (.int i)
  | str (x : Str) : Rp K R H (.str x) (.str x)
  | lst {a : Addr} {xs : List V} {ds : List PyData} : H a = some (.lst xs) → a ∉ R → RpAll K R H xs ds → Rp K R H (.ref a) (.list ds)
  | tup {a : Addr} {xs : List V} {ds : List PyData} : TupR H a xs ds → a ∉ R → RpAll K R H xs ds → Rp K R H (.ref a) (.tuple ds)
  | dic {a : Addr} {kvs : List (Key × V)} {es : List (PyData × PyData)} : H a = some (.dK kvs) → a ∉ R → RpKv K R H kvs es → Rp K R H (.ref a) (.dict es)
inductive RpAll (K : PySem.W.Frag) (R : RR) (H : Hp) : List V → List PyData → Prop
  | nil : RpAll K R H [] []
  | cons {v : V} {vs : List V} {d : PyData} {ds : List PyData} : Rp K R H v d → RpAll K R H vs ds → RpAll K R H (v :: vs) (d :: ds)
inductive RpKv (K : PySem.W.Frag) (R : RR) (H : Hp) : List (Key × V) → List (PyData × PyData) → Prop
  | nil : RpKv K R H [] []
  | cons {k : Key} {v : V} {kvs : List (Key × V)} {d : PyData} {es : List (PyData × PyData)} : Rp K R H v d → RpKv K R H kvs es → RpKv K R H ((k, v) :: kvs) ((keyPy k, d) :: es)
end

/-- a step of the heap: what is not mutable stays, what is new was free -/
structure Stp (R : RR) (H : Hp) (R' : RR) (H' : Hp) : Prop where
  pre : R.l <+: R'.l
  new : ∀ a, a ∈ R' → a ∉ R → H a = none
  keep : ∀ a o, a ∉ R → H a = some o → H' a = some o
  hid : ∀ a, a ∈ R.m → a ∈ R'.m ∧ H' a = H a

theorem Stp.refl {R : RR} {H : Hp} : Stp R H R H := ⟨List.prefix_refl _, fun _ h n => absurd h n, fun _ _ _ e => e, fun _ h => ⟨h, rfl⟩⟩
theorem Stp.notin {R R' : RR} {H H' : Hp} (s : Stp R H R' H') {a : Addr} {o : HO} (h : a ∉ R) (e : H a = some o) : a ∉ R' := fun m => by
  have := s.new a m h
  rw [e] at this; cases this
theorem Stp.trans {R R1 R2 : RR} {H H1 H2 : Hp} (s : Stp R H R1 H1) (t : Stp R1 H1 R2 H2) : Stp R H R2 H2 where
  pre := s.pre.trans t.pre
  new := fun a m n => by
    by_cases h : a ∈ R1
    · exact s.new a h n
    · have e := t.new a m h
      cases q : H a with
      | none => rfl
      | some o =>
        rw [s.keep a o n q] at e
        cases e
  keep := fun a o n e => t.keep a o (s.notin n e) (s.keep a o n e)
  hid := fun a h => ⟨(t.hid a (s.hid a h).1).1, ((t.hid a (s.hid a h).1).2).trans (s.hid a h).2⟩
theorem Stp.rd {R R' : RR} {H H' : Hp} (s : Stp R H R' H') {a : Addr} {u : HO} (n : a ∉ R) (r : Rd H a u) : Rd H' a u ∧ a ∉ R' := by
  rcases r with e | ⟨o, e⟩
  · exact ⟨.inl (s.keep a _ n e), s.notin n e⟩
  · exact ⟨.inr ⟨o, s.keep a _ n e⟩, s.notin n e⟩

section
variable {K : PySem.W.Frag} {R R' : RR} {H H' : Hp}
mutual
theorem Rp.step (s : Stp R H R' H') : ∀ {v : V} {d : PyData}, Rp K R H v d → Rp K R' H' v d
  | _, _, .non => .non
  | _, _, .bl b => .bl b
  | _, _, .int i => .int i
  | _, _, .str x => .str x
  | _, _, .lst r n h => .lst (s.keep _ _ n r) (s.notin n r) (RpAll.step s h)
  | _, _, .tup r n h => .tup (r.keep fun _ e => s.keep _ _ n e) (let ⟨_, e, _⟩ := r; s.notin n e) (RpAll.step s h)
  | _, _, .dic r n h => .dic (s.keep _ _ n r) (s.notin n r) (RpKv.step s h)
theorem RpAll.step (s : Stp R H R' H') : ∀ {vs : List V} {ds : List PyData}, RpAll K R H vs ds → RpAll K R' H' vs ds
  | _, _, .nil => .nil
  | _, _, .cons h t => .cons (Rp.step s h) (RpAll.step s t)
theorem RpKv.step (s : Stp R H R' H') : ∀ {vs : List (Key × V)} {ds : List (PyData × PyData)}, RpKv K R H vs ds → RpKv K R' H' vs ds
  | _, _, .nil => .nil
  | _, _, .cons h t => .cons (Rp.step s h) (RpKv.step s t)
end
theorem RpAll.length : ∀ {vs : List V} {ds : List PyData}, RpAll K R H vs ds → vs.length = ds.length
  | _, _, .nil => rfl
  | _, _, .cons _ t => by simp [RpAll.length t]
theorem RpKv.length : ∀ {vs : List (Key × V)} {ds : List (PyData × PyData)}, RpKv K R H vs ds → vs.length = ds.length
  | _, _, .nil => rfl
  | _, _, .cons _ t => by simp [RpKv.length t]
theorem RpAll.get : ∀ {vs : List V} {ds : List PyData} {i : Nat} {d : PyData}, RpAll K R H vs ds → ds[i]? = some d → ∃ v, vs[i]? = some v ∧ Rp K R H v d
  | _, _, _, _, .nil, e => by simp at e
  | _, _, 0, _, .cons h _, e => by simp at e; subst e; exact ⟨_, rfl, h⟩
  | _, _, i + 1, d, .cons _ t, e => by
    obtain ⟨v, h1, h2⟩ := RpAll.get (i := i) (d := d) t (by simpa using e)
    exact ⟨v, by simpa using h1, h2⟩
theorem RpAll.get' : ∀ {vs : List V} {ds : List PyData} {i : Nat} {v : V}, RpAll K R H vs ds → vs[i]? = some v → ∃ d, ds[i]? = some d ∧ Rp K R H v d
  | _, _, _, _, .nil, e => by simp at e
  | _, _, 0, _, .cons h _, e => by simp at e; subst e; exact ⟨_, rfl, h⟩
  | _, _, i + 1, d, .cons _ t, e => by
    obtain ⟨v, h1, h2⟩ := RpAll.get' (i := i) (v := d) t (by simpa using e)
    exact ⟨v, by simpa using h1, h2⟩
theorem RpAll.append : ∀ {vs vs' : List V} {ds ds' : List PyData}, RpAll K R H vs ds → RpAll K R H vs' ds' → RpAll K R H (vs ++ vs') (ds ++ ds')
  | _, _, _, _, .nil, h => h
  | _, _, _, _, .cons h t, h' => .cons h (RpAll.append t h')
theorem RpAll.take : ∀ {vs : List V} {ds : List PyData} (n : Nat), RpAll K R H vs ds → RpAll K R H (vs.take n) (ds.take n)
  | _, _, 0, _ => .nil
  | _, _, _ + 1, .nil => .nil
  | _, _, n + 1, .cons h t => .cons h (RpAll.take n t)
theorem RpAll.drop : ∀ {vs : List V} {ds : List PyData} (n : Nat), RpAll K R H vs ds → RpAll K R H (vs.drop n) (ds.drop n)
  | _, _, 0, h => h
  | _, _, _ + 1, .nil => .nil
  | _, _, n + 1, .cons h t => RpAll.drop n t
theorem RpAll.reverse : ∀ {vs : List V} {ds : List PyData}, RpAll K R H vs ds → RpAll K R H vs.reverse ds.reverse
  | _, _, .nil => .nil
  | _, _, .cons h t => by
    rw [List.reverse_cons, List.reverse_cons]
    exact RpAll.append (RpAll.reverse t) (.cons h .nil)
theorem RpAll.rep {v : V} {d : PyData} (h : Rp K R H v d) : ∀ n, RpAll K R H (List.replicate n v) (List.replicate n d)
  | 0 => .nil
  | n + 1 => .cons h (RpAll.rep h n)
/-- ints -/
theorem RpAll.ints : ∀ (ns : List Int), RpAll K R H (ns.map V.int) (ns.map PyData.int)
  | [] => .nil
  | n :: ns => .cons (.int n) (RpAll.ints ns)
theorem RpAll.of_ints : ∀ {vs : List V} {ns : List Int}, RpAll K R H vs (ns.map PyData.int) → vs = ns.map V.int
  | _, [], .nil => rfl
  | _, n :: ns, .cons (.int _) t => by rw [RpAll.of_ints t]; rfl
theorem RpAll.of_bools : ∀ {vs : List V} {ns : List Bool}, RpAll K R H vs (ns.map PyData.bool) → vs = ns.map V.bl
  | _, [], .nil => rfl
  | _, n :: ns, .cons (.bl _) t => by rw [RpAll.of_bools t]; rfl
theorem RpAll.of_strs : ∀ {vs : List V} {ns : List Str}, RpAll K R H vs (ns.map PyData.str) → vs = ns.map V.str
  | _, [], .nil => rfl
  | _, n :: ns, .cons (.str _) t => by rw [RpAll.of_strs t]; rfl
end

/-! ### values, the store, the environment -/
def RD (K : PySem.W.Frag) (R : RR) (H : Hp) (v : V) : D → Prop
  | .py d => Rp K R H v d
  | .loc n => ∃ a, v = .ref a ∧ R.l[n]? = some a
  | .scr ns => ∃ a, v = .ref a ∧ ((Rd H a (.lst (ns.map V.int)) ∧ a ∉ R) ∨ ∀ H' : Hp, SqL K H' a (ns.map V.int))
abbrev RDs (K : PySem.W.Frag) (R : RR) (H : Hp) : List V → List D → Prop := Paired (RD K R H)
theorem pre_get {α : Type} {r r' : List α} (h : r <+: r') {n : Nat} {a : α} (e : r[n]? = some a) : r'[n]? = some a := by
  obtain ⟨t, rfl⟩ := h
  rw [List.getElem?_append_left (List.getElem?_eq_some_iff.mp e).1]
  exact e
theorem RD.step {K : PySem.W.Frag} {R R' : RR} {H H' : Hp} (s : Stp R H R' H') {v : V} : ∀ {d : D}, RD K R H v d → RD K R' H' v d
  | .py _, h => Rp.step s h
  | .loc _, ⟨a, e, h⟩ => ⟨a, e, pre_get s.pre h⟩
  | .scr _, ⟨a, e, .inl ⟨h, n⟩⟩ => ⟨a, e, .inl (s.rd n h)⟩
  | .scr _, ⟨a, e, .inr h⟩ => ⟨a, e, .inr h⟩
theorem RD.scr {K : PySem.W.Frag} {R : RR} {H : Hp} {v : V} {ns : List Int} (h : RD K R H v (.scr ns)) : ∃ a, v = .ref a ∧ SqL K H a (ns.map V.int) := by
  obtain ⟨a, e, h | h⟩ := h
  · exact ⟨a, e, .inl h.1⟩
  · exact ⟨a, e, h H⟩
theorem RDs.step {K : PySem.W.Frag} {R R' : RR} {H H' : Hp} (s : Stp R H R' H') : ∀ {vs : List V} {ds : List D}, RDs K R H vs ds → RDs K R' H' vs ds
  | _, _, .nil => .nil
  | _, _, .cons h t => .cons (RD.step s h) (RDs.step s t)
theorem RDs.len {K : PySem.W.Frag} {R : RR} {H : Hp} {vs : List V} {ds : List D} (h : RDs K R H vs ds) : vs.length = ds.length := Paired.length h
theorem RDs.append {K : PySem.W.Frag} {R : RR} {H : Hp} : ∀ {vs vs' : List V} {ds ds' : List D}, RDs K R H vs ds → RDs K R H vs' ds' → RDs K R H (vs ++ vs') (ds ++ ds')
  | _, _, _, _, .nil, h => h
  | _, _, _, _, .cons h t, h' => .cons h (RDs.append t h')
theorem RDs.get {K : PySem.W.Frag} {R : RR} {H : Hp} : ∀ {vs : List V} {ds : List D} {i : Nat} {d : D}, RDs K R H vs ds → ds[i]? = some d → ∃ v, vs[i]? = some v ∧ RD K R H v d
  | _, _, _, _, .nil, e => by simp at e
  | _, _, 0, _, .cons h _, e => by simp at e; subst e; exact ⟨_, rfl, h⟩
  | _, _, i + 1, d, .cons _ t, e => by
    obtain ⟨v, h1, h2⟩ := RDs.get (i := i) (d := d) t (by simpa using e)
    exact ⟨v, by simpa using h1, h2⟩
theorem RDs.set {K : PySem.W.Frag} {R : RR} {H : Hp} {v : V} {d : D} (h : RD K R H v d) : ∀ {vs : List V} {ds : List D} (i : Nat), RDs K R H vs ds → RDs K R H (vs.set i v) (ds.set i d)
  | _, _, _, .nil => .nil
  | _, _, 0, .cons _ t => .cons h t
  | _, _, i + 1, .cons q t => .cons q (RDs.set h i t)
theorem RDs.erase {K : PySem.W.Frag} {R : RR} {H : Hp} : ∀ {vs : List V} {ds : List D} (i : Nat), RDs K R H vs ds → RDs K R H (vs.eraseIdx i) (ds.eraseIdx i)
  | _, _, _, .nil => .nil
  | _, _, 0, .cons _ t => t
  | _, _, i + 1, .cons q t => .cons q (RDs.erase i t)

/-- all data: the items of a tuple or of a list by value -/
def pys : List D → Option (List PyData)
  | [] => some []
  | .py d :: r => (pys r).map (d :: ·)
  | .loc _ :: _ => none
  | .scr _ :: _ => none
theorem RDs.pys {K : PySem.W.Frag} {R : RR} {H : Hp} : ∀ {vs : List V} {ds : List D} {es : List PyData}, RDs K R H vs ds → DL.pys ds = some es → RpAll K R H vs es
  | _, _, _, .nil, e => by cases e; exact .nil
  | _, .py d :: ds, es, .cons h t, e => by
    unfold DL.pys at e
    cases q : DL.pys ds with
    | none => rw [q] at e; cases e
    | some r =>
      rw [q] at e; cases e
      exact .cons h (RDs.pys t q)
  | _, .loc _ :: _, _, .cons _ _, e => by cases e
  | _, .scr _ :: _, _, .cons _ _, e => by cases e
@[simp] theorem pys_nil : pys [] = some [] := rfl
@[simp] theorem pys_cons (d : PyData) (r : List D) : pys (.py d :: r) = (pys r).map (d :: ·) := rfl
@[simp] theorem pys_map : ∀ xs : List PyData, pys (xs.map D.py) = some xs
  | [] => rfl
  | x :: xs => by simp [pys_map xs]
theorem RpAll.rds {K : PySem.W.Frag} {R : RR} {H : Hp} : ∀ {vs : List V} {ds : List PyData}, RpAll K R H vs ds → RDs K R H vs (ds.map D.py)
  | _, _, .nil => .nil
  | _, _, .cons h t => .cons h (RpAll.rds t)

def RKv (K : PySem.W.Frag) (R : RR) (H : Hp) {κ : Type} : List (κ × V) → List (κ × D) → Prop := Paired fun p q => p.1 = q.1 ∧ RD K R H p.2 q.2
theorem RKv.step {K : PySem.W.Frag} {R R' : RR} {H H' : Hp} {κ : Type} (s : Stp R H R' H') : ∀ {vs : List (κ × V)} {ds : List (κ × D)}, RKv K R H vs ds → RKv K R' H' vs ds
  | _, _, .nil => .nil
  | _, _, .cons h t => .cons ⟨h.1, RD.step s h.2⟩ (RKv.step s t)

/-- an object of the store at its address -/
def RO (g : G) (R : RR) (H : Hp) (a : Addr) : SO → Prop
  | .lst ds => ∃ vs, H a = some (.lst vs) ∧ vs.length ≤ sizeLine ∧ RDs g.K R H vs ds
  | .dK kvs => ∃ vs, H a = some (.dK vs) ∧ RKv g.K R H vs kvs
  | .dT kvs => ∃ vs, H a = some (.dT vs) ∧ RKv g.K R H vs kvs
  | .ins c fs => ∃ dx vs, H a = some (.ins (g.cl c) dx vs) ∧ H dx = some (.own a) ∧ dx ∉ R ∧ RKv g.K R H vs fs
structure RS (g : G) (R : RR) (S : Sto) (H : Hp) : Prop where
  len : R.l.length = S.length
  nd : R.l.Nodup
  hid : ∀ a, a ∈ R.m → a ∉ R.l ∧ ∃ u, H a = some u
  obj : ∀ (n : Nat) (a : Addr) (o : SO), R.l[n]? = some a → S[n]? = some o → RO g R H a o
/-- slots: a slot that is not told may hold anything -/
def ROp (K : PySem.W.Frag) (R : RR) (H : Hp) (v : Option V) : Option D → Prop
  | some d => ∃ x, v = some x ∧ RD K R H x d
  | none => True
abbrev RE (K : PySem.W.Frag) (R : RR) (H : Hp) : L2.St → Envr → Prop := Paired (ROp K R H)
theorem RE.step {K : PySem.W.Frag} {R R' : RR} {H H' : Hp} (s : Stp R H R' H') : ∀ {σ : L2.St} {env : Envr}, RE K R H σ env → RE K R' H' σ env
  | _, _, .nil => .nil
  | _, none :: _, .cons _ t => .cons trivial (RE.step s t)
  | _, some _ :: _, .cons ⟨x, e, h⟩ t => .cons ⟨x, e, RD.step s h⟩ (RE.step s t)
theorem RE.get {K : PySem.W.Frag} {R : RR} {H : Hp} : ∀ {σ : L2.St} {env : Envr} {i : Nat} {d : D}, RE K R H σ env → env[i]? = some (some d) → ∃ v, σ[i]? = some (some v) ∧ RD K R H v d
  | _, _, _, _, .nil, e => by simp at e
  | _, _, 0, _, .cons h _, e => by
    simp at e; subst e
    obtain ⟨x, rfl, h⟩ := h
    exact ⟨_, rfl, h⟩
  | _, _, i + 1, d, .cons _ t, e => by
    obtain ⟨v, h1, h2⟩ := RE.get (i := i) (d := d) t (by simpa using e)
    exact ⟨v, by simpa using h1, h2⟩
theorem RE.set {K : PySem.W.Frag} {R : RR} {H : Hp} {v : V} {d : D} (h : RD K R H v d) : ∀ {σ : L2.St} {env : Envr} (i : Nat), RE K R H σ env → RE K R H (σ.set i (some v)) (env.set i (some d))
  | _, _, _, .nil => .nil
  | _, _, 0, .cons _ t => .cons ⟨_, rfl, h⟩ t
  | _, _, i + 1, .cons q t => .cons q (RE.set h i t)
theorem RE.forget {K : PySem.W.Frag} {R : RR} {H : Hp} {v : Option V} : ∀ {σ : L2.St} {env : Envr} (i : Nat), RE K R H σ env → RE K R H (σ.set i v) (env.set i none)
  | _, _, _, .nil => .nil
  | _, _, 0, .cons _ t => .cons trivial t
  | _, _, i + 1, .cons q t => .cons q (RE.forget i t)

/-! ### the ends -/
/-- what is wanted of an exception: its class, its dict, the slots, the heap -/
abbrev WY := Value → Option Addr → L2.St → Hp → Prop
abbrev wAt (W : WY) (σ : L2.St) : XK := fun c o H => W c o σ H
def XR (g : G) (R : RR) (H : Hp) (x : Xc) (cls : Value) (ox : Option Addr) : Prop :=
  cls = .ref (g.cl x.cls) ∧ (x.fs = [] ∨ ∃ dx vs, ox = some dx ∧ H dx = some (.xd vs) ∧ RKv g.K R H vs x.fs)
/-- what a result must bring about, from R and H -/
def Post (g : G) (W : XK) (R : RR) (H : Hp) {α β : Type} (P : RR → Hp → β → α → Prop) (r : Res α) (Q : β → Hp → Prop) : Prop :=
  match r with
  | .ok d S' => ∀ v H' R', Stp R H R' H' → RS g R' S' H' → P R' H' v d → Q v H'
  | .exc x S' => ∀ cls ox H' R', Stp R H R' H' → RS g R' S' H' → XR g R' H' x cls ox → W cls ox H'
  | .bad => False
theorem Post.step {g : G} {W : XK} {R R1 : RR} {H H1 : Hp} {α β : Type} {P : RR → Hp → β → α → Prop} {r : Res α} {Q : β → Hp → Prop} (s : Stp R H R1 H1) (h : Post g W R H P r Q) : Post g W R1 H1 P r Q := by
  cases r with
  | ok d S' => exact fun v H' R' t => h v H' R' (s.trans t)
  | exc x S' => exact fun c o H' R' t => h c o H' R' (s.trans t)
  | bad => exact h
theorem Post.mono {g : G} {W : XK} {R : RR} {H : Hp} {α β : Type} {P : RR → Hp → β → α → Prop} {r : Res α} {Q Q' : β → Hp → Prop} (h : Post g W R H P r Q) (k : ∀ v H', Q v H' → Q' v H') : Post g W R H P r Q' := by
  cases r with
  | ok d S' => exact fun v H' R' a b c => k _ _ (h v H' R' a b c)
  | exc x S' => exact h
  | bad => exact h
/-- the move: a result is bound; the rest from each end of the first -/
theorem Post.bind {g : G} {W : XK} {R : RR} {H : Hp} {α β γ δ : Type} {P : RR → Hp → β → α → Prop} {P' : RR → Hp → δ → γ → Prop} {r : Res α} {f : α → Sto → Res γ} {Q : δ → Hp → Prop} {Q' : β → Hp → Prop}
    (h : Post g W R H P' (r.bind f) Q)
    (k : ∀ d S' v H' R', r = .ok d S' → Stp R H R' H' → RS g R' S' H' → P R' H' v d → Post g W R' H' P' (f d S') Q → Q' v H') : Post g W R H P r Q' := by
  cases r with
  | ok d S' => exact fun v H' R' s rs p => k d S' v H' R' rfl s rs p (Post.step s h)
  | exc x S' => exact h
  | bad => exact h

def PV (g : G) : RR → Hp → V → D → Prop := fun R H v d => RD g.K R H v d
def PBo : RR → Hp → Bool → Bool → Prop := fun _ _ v d => v = d
def PVs (g : G) : RR → Hp → List V → List D → Prop := fun R H v d => RDs g.K R H v d
/-- a statement's end against what is wanted of the ends -/
def PostS (g : G) (W : WY) (R : RR) (H : Hp) (r : Res Fl) (D : Ends) : Prop :=
  match r with
  | .ok (.nx env) S' => ∀ σ' H' R', Stp R H R' H' → RS g R' S' H' → RE g.K R' H' σ' env → D.nx σ' H'
  | .ok (.bk env) S' => ∀ σ' H' R', Stp R H R' H' → RS g R' S' H' → RE g.K R' H' σ' env → D.bk σ' H'
  | .ok (.ct env) S' => ∀ σ' H' R', Stp R H R' H' → RS g R' S' H' → RE g.K R' H' σ' env → D.ct σ' H'
  | .ok (.rt d) S' => ∀ v H' R', Stp R H R' H' → RS g R' S' H' → RD g.K R' H' v d → D.rt v H'
  | .ok (.xc x env) S' => ∀ cls ox σ' H' R', Stp R H R' H' → RS g R' S' H' → RE g.K R' H' σ' env → XR g R' H' x cls ox → W cls ox σ' H'
  | .exc _ _ => False
  | .bad => False
theorem PostS.step {g : G} {W : WY} {R R1 : RR} {H H1 : Hp} {r : Res Fl} {D : Ends} (s : Stp R H R1 H1) (h : PostS g W R H r D) : PostS g W R1 H1 r D := by
  cases r with
  | ok f S' => cases f with
    | nx env => exact fun v H' R' t => h v H' R' (s.trans t)
    | bk env => exact fun v H' R' t => h v H' R' (s.trans t)
    | ct env => exact fun v H' R' t => h v H' R' (s.trans t)
    | rt env => exact fun v H' R' t => h v H' R' (s.trans t)
    | xc x env => exact fun c o v H' R' t => h c o v H' R' (s.trans t)
  | exc x S' => exact h
  | bad => exact h
theorem PostS.bind {g : G} {W : WY} {R : RR} {H : Hp} {σ : L2.St} {env : Envr} {α β : Type} {P : RR → Hp → β → α → Prop} {r : Res α} {f : α → Sto → Res Fl} {D : Ends} {Q' : β → Hp → Prop}
    (re : RE g.K R H σ env) (h : PostS g W R H (r.bindX env f) D)
    (k : ∀ d S' v H' R', r = .ok d S' → Stp R H R' H' → RS g R' S' H' → P R' H' v d → PostS g W R' H' (f d S') D → Q' v H') : Post g (wAt W σ) R H P r Q' := by
  cases r with
  | ok d S' => exact fun v H' R' s rs p => k d S' v H' R' rfl s rs p (PostS.step s h)
  | exc x S' => exact fun c o H' R' s rs x => h c o σ H' R' s rs (re.step s) x
  | bad => exact h

/-! ### the readings -/
def tD (g : G) (W : WY) (f : EX) : TE := fun σ H Q => ∃ R env S, RS g R S H ∧ RE g.K R H σ env ∧ Post g (wAt W σ) R H (PV g) (f env S) Q
def tDT (g : G) (W : WY) (f : TX) : TT := fun σ H Q => ∃ R env S, RS g R S H ∧ RE g.K R H σ env ∧ Post g (wAt W σ) R H PBo (f env S) Q
def tDA (g : G) (W : WY) (f : AX) : TA := fun σ H Q => ∃ R env S, RS g R S H ∧ RE g.K R H σ env ∧ Post g (wAt W σ) R H (PVs g) (f env S) Q
def tDS (g : G) (W : WY) (f : SX) : TS := fun D σ H => ∃ R env S, RS g R S H ∧ RE g.K R H σ env ∧ PostS g W R H (f env S) D

/-- the context g is the context's own -/
structure DE (X : Cx) (g : G) (W : WY) (e : Expr) (f : EX) : Prop where
  pe : g.K = X.K → PE X e (tD g W f)
structure DT (X : Cx) (g : G) (W : WY) (e : Expr) (f : TX) : Prop where
  pt : g.K = X.K → PT X e (tDT g W f)
structure DW (X : Cx) (g : G) (W : WY) (e : Expr) (f : TX) : Prop where
  pw : g.K = X.K → PW X e (tDT g W f)
structure DA (X : Cx) (g : G) (W : WY) (e : List Expr) (f : AX) : Prop where
  pa : g.K = X.K → PA X e (tDA g W f)
structure DSt (X : Cx) (g : G) (W : WY) (e : Stmt) (f : SX) : Prop where
  ps : g.K = X.K → PS X e (tDS g W f)
structure DSs (X : Cx) (g : G) (W : WY) (e : List Stmt) (f : SX) : Prop where
  pss : g.K = X.K → PSs X e (tDS g W f)

theorem _root_.L2.PE.imp {X : Cx} {e : Expr} {t t' : TE} (h : PE X e t) (k : ∀ σ H Q, t' σ H Q → t σ H Q) : PE X e t' := ⟨fun pins s σ H Q I q => h.run pins s σ H Q I (k _ _ _ q)⟩
theorem _root_.L2.PT.imp {X : Cx} {e : Expr} {t t' : TT} (h : PT X e t) (k : ∀ σ H Q, t' σ H Q → t σ H Q) : PT X e t' := ⟨fun pins s σ H Q I q => h.run pins s σ H Q I (k _ _ _ q)⟩
theorem _root_.L2.PW.imp {X : Cx} {e : Expr} {t t' : TT} (h : PW X e t) (k : ∀ σ H Q, t' σ H Q → t σ H Q) : PW X e t' := ⟨fun whole pins s σ H Q I q => h.run whole pins s σ H Q I (k _ _ _ q)⟩
theorem _root_.L2.PA.imp {X : Cx} {e : List Expr} {t t' : TA} (h : PA X e t) (k : ∀ σ H Q, t' σ H Q → t σ H Q) : PA X e t' := ⟨fun pos pins s σ H Q I q => h.run pos pins s σ H Q I (k _ _ _ q)⟩
theorem _root_.L2.PS.imp {X : Cx} {e : Stmt} {t t' : TS} (h : PS X e t) (k : ∀ D σ H, t' D σ H → t D σ H) : PS X e t' := ⟨fun pins s σ H D I q => h.run pins s σ H D I (k _ _ _ q)⟩
theorem _root_.L2.PSs.imp {X : Cx} {e : List Stmt} {t t' : TS} (h : PSs X e t) (k : ∀ D σ H, t' D σ H → t D σ H) : PSs X e t' := ⟨fun pins s σ H D I q => h.run pins s σ H D I (k _ _ _ q)⟩

/-- an expression's reading within another's -/
theorem tD_bind {g : G} {W : WY} {f : EX} {R : RR} {env : Envr} {S : Sto} {σ : L2.St} {H : Hp} {γ δ : Type} {P' : RR → Hp → δ → γ → Prop} {k : D → Sto → Res γ} {Q : δ → Hp → Prop} {Q' : V → Hp → Prop}
    (rs : RS g R S H) (re : RE g.K R H σ env) (h : Post g (wAt W σ) R H P' ((f env S).bind k) Q)
    (n : ∀ d S' v H' R', Stp R H R' H' → RS g R' S' H' → RE g.K R' H' σ env → RD g.K R' H' v d → Post g (wAt W σ) R' H' P' (k d S') Q → Q' v H') : tD g W f σ H Q' :=
  ⟨R, env, S, rs, re, h.bind fun d S' v H' R' _ s rs' p q => n d S' v H' R' s rs' (RE.step s re) p q⟩
theorem tD_bindE {g : G} {W : WY} {f : EX} {R : RR} {env : Envr} {S : Sto} {σ : L2.St} {H : Hp} {γ δ : Type} {P' : RR → Hp → δ → γ → Prop} {k : D → Sto → Res γ} {Q : δ → Hp → Prop} {Q' : V → Hp → Prop}
    (rs : RS g R S H) (re : RE g.K R H σ env) (h : Post g (wAt W σ) R H P' ((f env S).bind k) Q)
    (n : ∀ d S' v H' R', f env S = .ok d S' → Stp R H R' H' → RS g R' S' H' → RE g.K R' H' σ env → RD g.K R' H' v d → Post g (wAt W σ) R' H' P' (k d S') Q → Q' v H') : tD g W f σ H Q' :=
  ⟨R, env, S, rs, re, h.bind fun d S' v H' R' e s rs' p q => n d S' v H' R' e s rs' (RE.step s re) p q⟩
theorem tD_bindS {g : G} {W : WY} {f : EX} {R : RR} {env : Envr} {S : Sto} {σ : L2.St} {H : Hp} {k : D → Sto → Res Fl} {D : Ends} {Q' : V → Hp → Prop}
    (rs : RS g R S H) (re : RE g.K R H σ env) (h : PostS g W R H ((f env S).bindX env k) D)
    (n : ∀ d S' v H' R', Stp R H R' H' → RS g R' S' H' → RE g.K R' H' σ env → RD g.K R' H' v d → PostS g W R' H' (k d S') D → Q' v H') : tD g W f σ H Q' :=
  ⟨R, env, S, rs, re, PostS.bind re h fun d S' v H' R' _ s rs' p q => n d S' v H' R' s rs' (RE.step s re) p q⟩
theorem tDT_bind {g : G} {W : WY} {f : TX} {R : RR} {env : Envr} {S : Sto} {σ : L2.St} {H : Hp} {γ δ : Type} {P' : RR → Hp → δ → γ → Prop} {k : Bool → Sto → Res γ} {Q : δ → Hp → Prop} {Q' : Bool → Hp → Prop}
    (rs : RS g R S H) (re : RE g.K R H σ env) (h : Post g (wAt W σ) R H P' ((f env S).bind k) Q)
    (n : ∀ d S' H' R', Stp R H R' H' → RS g R' S' H' → RE g.K R' H' σ env → Post g (wAt W σ) R' H' P' (k d S') Q → Q' d H') : tDT g W f σ H Q' :=
  ⟨R, env, S, rs, re, h.bind fun d S' v H' R' _ s rs' p q => by
    have p : v = d := p
    subst p
    exact n v S' H' R' s rs' (RE.step s re) q⟩
theorem tDT_bindS {g : G} {W : WY} {f : TX} {R : RR} {env : Envr} {S : Sto} {σ : L2.St} {H : Hp} {k : Bool → Sto → Res Fl} {D : Ends} {Q' : Bool → Hp → Prop}
    (rs : RS g R S H) (re : RE g.K R H σ env) (h : PostS g W R H ((f env S).bindX env k) D)
    (n : ∀ d S' H' R', Stp R H R' H' → RS g R' S' H' → RE g.K R' H' σ env → PostS g W R' H' (k d S') D → Q' d H') : tDT g W f σ H Q' :=
  ⟨R, env, S, rs, re, PostS.bind re h fun d S' v H' R' _ s rs' p q => by
    have p : v = d := p
    subst p
    exact n v S' H' R' s rs' (RE.step s re) q⟩
theorem tDA_bind {g : G} {W : WY} {f : AX} {R : RR} {env : Envr} {S : Sto} {σ : L2.St} {H : Hp} {γ δ : Type} {P' : RR → Hp → δ → γ → Prop} {k : List D → Sto → Res γ} {Q : δ → Hp → Prop} {Q' : List V → Hp → Prop}
    (rs : RS g R S H) (re : RE g.K R H σ env) (h : Post g (wAt W σ) R H P' ((f env S).bind k) Q)
    (n : ∀ d S' v H' R', Stp R H R' H' → RS g R' S' H' → RE g.K R' H' σ env → RDs g.K R' H' v d → Post g (wAt W σ) R' H' P' (k d S') Q → Q' v H') : tDA g W f σ H Q' :=
  ⟨R, env, S, rs, re, h.bind fun d S' v H' R' _ s rs' p q => n d S' v H' R' s rs' (RE.step s re) p q⟩
end DL
end
section
set_option maxRecDepth 100000
set_option maxHeartbeats 1000000
/-! DL1: expressions. -/
namespace DL
open PySem PySem.Spec PyProof.Rows L2

/-! ### reading what a value is as data -/
section
variable {K : PySem.W.Frag} {R : RR} {H : Hp}
mutual
theorem Rp.bare : ∀ {v : V} {d : PyData}, Rp K R H v d → Rp K R0 H v d
  | _, _, .non => .non
  | _, _, .bl b => .bl b
  | _, _, .int i => .int i
  | _, _, .str x => .str x
  | _, _, .lst r n h => .lst r notin0 (RpAll.bare h)
  | _, _, .tup r n h => .tup r notin0 (RpAll.bare h)
  | _, _, .dic r n h => .dic r notin0 (RpKv.bare h)
theorem RpAll.bare : ∀ {vs : List V} {ds : List PyData}, RpAll K R H vs ds → RpAll K R0 H vs ds
  | _, _, .nil => .nil
  | _, _, .cons h t => .cons (Rp.bare h) (RpAll.bare t)
theorem RpKv.bare : ∀ {vs : List (Key × V)} {ds : List (PyData × PyData)}, RpKv K R H vs ds → RpKv K R0 H vs ds
  | _, _, .nil => .nil
  | _, _, .cons h t => .cons (Rp.bare h) (RpKv.bare t)
end
end

/-- a value as data: a mutable list of data is read as it stands -/
def toPy (S : Sto) : D → Option PyData
  | .py d => some d
  | .loc n => match S[n]? with
    | some (.lst xs) => (pys xs).map .list
    | _ => none
  | .scr _ => none
/-- the items of a list or a tuple; true: a tuple -/
def seqOf (S : Sto) : D → Option (Bool × List D)
  | .py (.list ds) => some (false, ds.map .py)
  | .py (.tuple ds) => some (true, ds.map .py)
  | .py _ => none
  | .loc n => match S[n]? with
    | some (.lst xs) => some (false, xs)
    | _ => none
  | .scr ns => some (false, ns.map fun i => .py (.int i))
theorem rs_get {g : G} {R : RR} {S : Sto} {H : Hp} (rs : RS g R S H) {n : Nat} {o : SO} (e : S[n]? = some o) : ∃ a, R.l[n]? = some a ∧ RO g R H a o := by
  have hn : n < R.l.length := by rw [rs.len]; exact (List.getElem?_eq_some_iff.mp e).1
  exact ⟨R.l[n], by simp [hn], rs.obj n _ o (by simp [hn]) e⟩
theorem ints_rds {K : PySem.W.Frag} {R : RR} {H : Hp} : ∀ ns : List Int, RDs K R H (ns.map V.int) (ns.map fun i => D.py (.int i))
  | [] => .nil
  | n :: ns => .cons (.int n) (ints_rds ns)
theorem seq_ok {g : G} {R : RR} {S : Sto} {H : Hp} (rs : RS g R S H) {v : V} {d : D} (r : RD g.K R H v d) {t : Bool} {xs : List D} (e : seqOf S d = some (t, xs)) :
    ∃ a vs, v = .ref a ∧ RDs g.K R H vs xs ∧ (if t = true then SqT g.K H a vs else SqL g.K H a vs) := by
  cases d with
  | py d =>
    cases r with
    | lst h n k => cases e; exact ⟨_, _, rfl, k.rds, SqL.of h⟩
    | tup h n k => cases e; exact ⟨_, _, rfl, k.rds, h.sq⟩
    | _ => cases e
  | loc n =>
    obtain ⟨a, rfl, ha⟩ := r
    have e : (match S[n]? with | some (.lst xs) => some (false, xs) | _ => none) = some (t, xs) := e
    split at e
    · rename_i xs' q
      cases e
      obtain ⟨b, hb, ro⟩ := rs_get rs q
      rw [ha] at hb; cases hb
      obtain ⟨vs, h1, h2, h3⟩ := ro
      exact ⟨a, vs, rfl, h3, .inl (.inl h1)⟩
    · cases e
  | scr ns =>
    cases e
    obtain ⟨a, rfl, h⟩ := RD.scr r
    exact ⟨a, _, rfl, ints_rds ns, h⟩
theorem toPy_ok {g : G} {R : RR} {S : Sto} {H : Hp} (rs : RS g R S H) {v : V} {d : D} (r : RD g.K R H v d) {e : PyData} (h : toPy S d = some e) : Rp g.K R0 H v e := by
  cases d with
  | py d => cases h; exact Rp.bare r
  | loc n =>
    obtain ⟨a, rfl, ha⟩ := r
    have h : (match S[n]? with | some (.lst xs) => (pys xs).map PyData.list | _ => none) = some e := h
    split at h
    · rename_i xs q
      obtain ⟨b, hb, ro⟩ := rs_get rs q
      rw [ha] at hb; cases hb
      obtain ⟨vs, h1, h2, h3⟩ := ro
      cases p : pys xs with
      | none => rw [p] at h; cases h
      | some es =>
        rw [p] at h; cases h
        exact .lst h1 notin0 (h3.pys p).bare
    · cases h
  | scr ns => cases h

mutual
theorem Rp.dp {K : PySem.W.Frag} {R : RR} {H : Hp} : ∀ {d : PyData} {v : V}, Rp K R H v d → d.canLay0 = true → Dp K H v d
  | .none, _, .non, _ => .non
  | .bool _, _, .bl b, _ => .bl b
  | .int _, _, .int i, _ => .int i
  | .str _, _, .str x, _ => .str x
  | .list ds, _, .lst r n h, e => .lst (SqL.of r) (RpAll.dp h (by simpa [PyData.canLay0] using e))
  | .tuple ds, _, .tup r n h, e => .tup r.sq (RpAll.dp h (by simpa [PyData.canLay0] using e))
  | .dict _, _, .dic r n h, e => by simp [PyData.canLay0] at e
theorem RpAll.dp {K : PySem.W.Frag} {R : RR} {H : Hp} : ∀ {ds : List PyData} {vs : List V}, RpAll K R H vs ds → PyData.canLayAll0 ds = true → DpAll K H vs ds
  | [], _, .nil, _ => .nil
  | d :: ds, _, .cons h t, e => by
    have e' : d.canLay0 = true ∧ PyData.canLayAll0 ds = true := by simpa [PyData.canLayAll0] using e
    exact .cons (Rp.dp h e'.1) (RpAll.dp t e'.2)
end

theorem RD.int {K : PySem.W.Frag} {R : RR} {H : Hp} (i : Int) : RD K R H (.int i) (dI i) := Rp.int i
theorem RD.bl {K : PySem.W.Frag} {R : RR} {H : Hp} (i : Bool) : RD K R H (.bl i) (dB i) := Rp.bl i
theorem RD.str {K : PySem.W.Frag} {R : RR} {H : Hp} (i : Str) : RD K R H (.str i) (dS i) := Rp.str i
theorem RD.non {K : PySem.W.Frag} {R : RR} {H : Hp} : RD K R H .non dN := Rp.non
/-! ### results -/
abbrev ok1 (d : D) (S : Sto) : Res D := .ok d S
/-- a result at once: the heap stays -/
theorem post_now {g : G} {W : XK} {R : RR} {S : Sto} {H : Hp} {v : V} {d : D} {Q : VK} (rs : RS g R S H) (r : RD g.K R H v d) (h : Post g W R H (PV g) (.ok d S) Q) : Q v H := h v H R .refl rs r
theorem Stp.laid {g : G} {R : RR} {S : Sto} {H : Hp} {p : Addr} {o : HO} (rs : RS g R S H) (hp : H p = none) : Stp R H R (upd H p o) :=
  ⟨List.prefix_refl _, fun _ h n => absurd h n, fun a _ _ e => by rw [upd_ne (ne_of_none e hp)]; exact e, fun a h => by
    obtain ⟨_, u, e⟩ := rs.hid a h
    exact ⟨h, upd_ne (ne_of_none e hp)⟩⟩
/-- an object of the store stays by a step that keeps its address -/
theorem RO.keep {g : G} {R R' : RR} {H H' : Hp} {a : Addr} (s : Stp R H R' H') (k : H' a = H a) : ∀ {o : SO}, RO g R H a o → RO g R' H' a o
  | .lst ds, ⟨vs, h1, h2, h3⟩ => ⟨vs, k.trans h1, h2, h3.step s⟩
  | .dK kvs, ⟨vs, h1, h2⟩ => ⟨vs, k.trans h1, h2.step s⟩
  | .dT kvs, ⟨vs, h1, h2⟩ => ⟨vs, k.trans h1, h2.step s⟩
  | .ins c fs, ⟨dx, vs, h1, h2, h3, h4⟩ => ⟨dx, vs, k.trans h1, s.keep _ _ h3 h2, s.notin h3 h2, h4.step s⟩
theorem RO.some {g : G} {R : RR} {H : Hp} {a : Addr} : ∀ {o : SO}, RO g R H a o → ∃ u, H a = some u
  | .lst _, ⟨_, h, _⟩ => ⟨_, h⟩
  | .dK _, ⟨_, h, _⟩ => ⟨_, h⟩
  | .dT _, ⟨_, h, _⟩ => ⟨_, h⟩
  | .ins _ _, ⟨_, _, h, _⟩ => ⟨_, h⟩
theorem RS.hasL {g : G} {R : RR} {S : Sto} {H : Hp} (rs : RS g R S H) {a : Addr} (h : a ∈ R.l) : ∃ u, H a = some u := by
  obtain ⟨n, hn, e⟩ := List.getElem_of_mem h
  have : n < S.length := by rw [← rs.len]; exact hn
  exact (rs.obj n a S[n] (by simp [hn, e]) (by simp [this])).some
theorem RS.has {g : G} {R : RR} {S : Sto} {H : Hp} (rs : RS g R S H) {a : Addr} (h : a ∈ R) : ∃ u, H a = some u := by
  rcases h with h | h
  · exact rs.hasL h
  · exact (rs.hid a h).2
theorem RS.fresh {g : G} {R : RR} {S : Sto} {H : Hp} {p : Addr} (rs : RS g R S H) (hp : H p = none) : p ∉ R := fun m => by
  obtain ⟨u, e⟩ := rs.has m
  rw [hp] at e; cases e
/-- a new object that is not mutable -/
theorem RS.laid {g : G} {R : RR} {S : Sto} {H : Hp} {p : Addr} {o : HO} (rs : RS g R S H) (hp : H p = none) : RS g R S (upd H p o) :=
  ⟨rs.len, rs.nd, fun a h => by
    obtain ⟨n, u, e⟩ := rs.hid a h
    exact ⟨n, u, (upd_ne (ne_of_none e hp)).trans e⟩, fun n a u ha hu => (rs.obj n a u ha hu).keep (Stp.laid rs hp) (by
    obtain ⟨w, e⟩ := rs.hasL (List.mem_of_getElem? ha)
    exact upd_ne (ne_of_none e hp))⟩
/-- a new mutable object -/
def RR.push (R : RR) (p : Addr) : RR := ⟨R.l ++ [p], R.m⟩
theorem Stp.grown {g : G} {R : RR} {S : Sto} {H : Hp} {p : Addr} {o : HO} (rs : RS g R S H) (hp : H p = none) : Stp R H (R.push p) (upd H p o) :=
  ⟨List.prefix_append _ _, fun a h n => by
    rcases h with h | h
    · rcases List.mem_append.mp h with h | h
      · exact absurd (Or.inl h) n
      · obtain rfl := List.mem_singleton.mp h; exact hp
    · exact absurd (Or.inr h) n, fun a _ _ e => by rw [upd_ne (ne_of_none e hp)]; exact e, fun a h => by
    obtain ⟨_, u, e⟩ := rs.hid a h
    exact ⟨h, upd_ne (ne_of_none e hp)⟩⟩
theorem RS.grown {g : G} {R : RR} {S : Sto} {H : Hp} {p : Addr} {o : HO} {u : SO} (rs : RS g R S H) (hp : H p = none) (ro : RO g (R.push p) (upd H p o) p u) : RS g (R.push p) (S ++ [u]) (upd H p o) := by
  refine ⟨by simp [RR.push, rs.len], ?_, fun a h => ?_, fun n a w ha hw => ?_⟩
  · show (R.l ++ [p]).Nodup
    rw [List.nodup_append]
    refine ⟨rs.nd, by simp, fun a ha b hb e => ?_⟩
    obtain rfl := List.mem_singleton.mp hb
    subst e
    exact rs.fresh hp (Or.inl ha)
  · obtain ⟨n, w, e⟩ := rs.hid a h
    refine ⟨fun z => ?_, w, (upd_ne (ne_of_none e hp)).trans e⟩
    rcases List.mem_append.mp z with z | z
    · exact n z
    · obtain rfl := List.mem_singleton.mp z
      rw [hp] at e; cases e
  · have ha : (R.l ++ [p])[n]? = some a := ha
    by_cases hn : n < R.l.length
    · rw [List.getElem?_append_left hn] at ha
      rw [List.getElem?_append_left (by rw [← rs.len]; exact hn)] at hw
      refine (rs.obj n a w ha hw).keep (Stp.grown rs hp) ?_
      obtain ⟨w, e⟩ := rs.hasL (List.mem_of_getElem? ha)
      exact upd_ne (ne_of_none e hp)
    · have hn' : R.l.length ≤ n := by omega
      rw [List.getElem?_append_right hn'] at ha
      rw [List.getElem?_append_right (by rw [← rs.len]; exact hn')] at hw
      rw [← rs.len] at hw
      obtain ⟨k, hk⟩ : ∃ k, n - R.l.length = k := ⟨_, rfl⟩
      rw [hk] at ha hw
      cases k with
      | zero => simp at ha hw; subst ha hw; exact ro
      | succ k => simp at ha

theorem tup_new {g : G} {W : XK} {R : RR} {S : Sto} {H : Hp} {vs : List V} {ds : List PyData} {Q : VK} (rs : RS g R S H) (r : RpAll g.K R H vs ds) (h : Post g W R H (PV g) (.ok (dT ds) S) Q) : ∃ b, ∀ p u, H p = none → Fz b vs u → Q (.ref p) (upd H p u) :=
  ⟨prsB ds, fun p u hp f => h _ _ R (Stp.laid rs hp) (rs.laid hp) (.tup ⟨u, upd_same, f⟩ (rs.fresh hp) (r.step (Stp.laid rs hp)))⟩
theorem tup_newF {g : G} {W : XK} {R : RR} {S : Sto} {H : Hp} {vs : List V} {ds : List PyData} {Q : VK} (rs : RS g R S H) (r : RpAll g.K R H vs ds) (hn : prsB ds = false) (h : Post g W R H (PV g) (.ok (dT ds) S) Q) : ∀ p, H p = none → Q (.ref p) (upd H p (.tup vs)) :=
  fun p hp => h _ _ R (Stp.laid rs hp) (rs.laid hp) (.tup (.of upd_same hn) (rs.fresh hp) (r.step (Stp.laid rs hp)))
theorem lst_new {g : G} {W : XK} {R : RR} {S : Sto} {H : Hp} {vs : List V} {ds : List PyData} {Q : VK} (rs : RS g R S H) (r : RpAll g.K R H vs ds) (h : Post g W R H (PV g) (.ok (dL ds) S) Q) : ∀ p, H p = none → Q (.ref p) (upd H p (.lst vs)) :=
  fun p hp => h _ _ R (Stp.laid rs hp) (rs.laid hp) (.lst upd_same (rs.fresh hp) (r.step (Stp.laid rs hp)))
theorem loc_new {g : G} {W : XK} {R : RR} {S : Sto} {H : Hp} {vs : List V} {ds : List D} {Q : VK} (rs : RS g R S H) (r : RDs g.K R H vs ds) (hz : ds.length ≤ sizeLine) (h : Post g W R H (PV g) (.ok (.loc S.length) (S ++ [.lst ds])) Q) : ∀ p, H p = none → Q (.ref p) (upd H p (.lst vs)) :=
  fun p hp => h _ _ (R.push p) (Stp.grown rs hp) (rs.grown hp ⟨vs, upd_same, by rw [r.len]; exact hz, r.step (Stp.grown rs hp)⟩) ⟨p, rfl, by show (R.l ++ [p])[S.length]? = some p; rw [← rs.len]; simp⟩

/-! ### names and constants -/
def xC (d : PyData) : EX := fun _ S => .ok (.py d) S
def xV (i : Nat) : EX := fun env S => match env[i]? with
  | some (some d) => .ok d S
  | _ => .bad
section
variable {X : Cx} {g : G} {W : WY} {a b c e : Expr} {fa fb fc : EX} {pos : Pos}
theorem de_int {i j} : DE X g W (.Constant (.int i) j pos) (xC (.int i)) := ⟨fun _ => pe_int.imp fun _ _ _ ⟨_, _, _, rs, _, h⟩ => post_now rs (RD.int i) h⟩
theorem de_bl {i j} : DE X g W (.Constant (.bool i) j pos) (xC (.bool i)) := ⟨fun _ => pe_bl.imp fun _ _ _ ⟨_, _, _, rs, _, h⟩ => post_now rs (RD.bl i) h⟩
theorem de_non {j} : DE X g W (.Constant .none j pos) (xC .none) := ⟨fun _ => pe_non.imp fun _ _ _ ⟨_, _, _, rs, _, h⟩ => post_now rs RD.non h⟩
theorem de_str {i j} : DE X g W (.Constant (.str i) j pos) (xC (.str i)) := ⟨fun _ => pe_str.imp fun _ _ _ ⟨_, _, _, rs, _, h⟩ => post_now rs (RD.str i) h⟩
theorem de_var {i : Nat} {x : Str} (hN : X.N[i]? = some x) (hv : Vis X.env.scope x) (hd : (x == ("__debug__" : Str)) = false := by decide) (hcd : (x == ("__classdict__" : Str)) = false := by decide) : DE X g W (.Name x pos) (xV i) :=
  ⟨fun _ => (pe_var hN hv hd hcd).imp fun σ H Q ⟨R, env, S, rs, re, h⟩ => by
    unfold xV at h
    split at h
    · rename_i d q
      obtain ⟨v, e1, e2⟩ := re.get q
      exact ⟨v, e1, post_now rs e2 h⟩
    · exact h.elim⟩
theorem de_gi {x : Str} {i : Int} {t : Tok} (hg : Gl X x) (hm : X.mg x = some (.int i t)) (hd : (x == ("__debug__" : Str)) = false := by decide) : DE X g W (.Name x pos) (xC (.int i)) :=
  ⟨fun _ => (pe_glob (v := .int i) hg hm ⟨t, rfl⟩ hd).imp fun _ _ _ ⟨_, _, _, rs, _, h⟩ => post_now rs (RD.int i) h⟩
theorem de_gs {x : Str} {i : Str} {t : Tok} (hg : Gl X x) (hm : X.mg x = some (.str i t)) (hd : (x == ("__debug__" : Str)) = false := by decide) : DE X g W (.Name x pos) (xC (.str i)) :=
  ⟨fun _ => (pe_glob (v := .str i) hg hm ⟨t, rfl⟩ hd).imp fun _ _ _ ⟨_, _, _, rs, _, h⟩ => post_now rs (RD.str i) h⟩

/-! ### two-place operations -/
abbrev Op2 := D → D → Sto → Res D
def xBin (o : Op2) (fa fb : EX) : EX := fun env S => (fa env S).bind fun x S1 => (fb env S1).bind fun y S2 => o x y S2
/-- o is carried out by the rule r -/
structure Op (X : Cx) (g : G) (f : Value → Value → Sem Value) (o : Op2) : Prop where
  run : g.K = X.K → ∃ r : R2, OpR X f r ∧ ∀ (W : XK) R S H x y d e Q, RS g R S H → RD g.K R H x d → RD g.K R H y e → Post g W R H (PV g) (o d e S) Q → r x y H Q
theorem tbin {o : Op2} {r : R2} (k : ∀ (W : XK) R S H x y d e Q, RS g R S H → RD g.K R H x d → RD g.K R H y e → Post g W R H (PV g) (o d e S) Q → r x y H Q) (σ : L2.St) (H : Hp) (Q : VK) (h : tD g W (xBin o fa fb) σ H Q) : tOp r (tD g W fa) (tD g W fb) σ H Q := by
  obtain ⟨R, env, S, rs, re, h⟩ := h
  refine tD_bind rs re h fun d S1 x H1 R1 s1 rs1 re1 rx h1 => ?_
  refine tD_bind rs1 re1 h1 fun e S2 y H2 R2 s2 rs2 re2 ry h2 => ?_
  exact k _ R2 S2 H2 x y d e Q rs2 (rx.step s2) ry h2
theorem de_op {op : Operator} {o : Op2} (ho : Op X g (binaryOp op) o) (ha : DE X g W a fa) (hb : DE X g W b fb) : DE X g W (.BinOp a op b pos) (xBin o fa fb) :=
  ⟨fun hK => by
    obtain ⟨r, hr, k⟩ := ho.run hK
    exact (pe_op hr (ha.pe hK) (hb.pe hK)).imp fun σ H Q h => tbin k σ H Q h⟩
theorem de_cmp {op : CmpOp} {o : Op2} (ho : Op X g (compareOp op) o) (ha : DE X g W a fa) (hb : DE X g W b fb) (hm : behindInMarks op b = false) : DE X g W (.Compare a [op] [b] pos) (xBin o fa fb) :=
  ⟨fun hK => by
    obtain ⟨r, hr, k⟩ := ho.run hK
    exact (pe_cmpR hr (ha.pe hK) (hb.pe hK) hm).imp fun σ H Q h => tbin k σ H Q h⟩
/-- a value that is a bool, as a test -/
def asB (d : D) (S : Sto) : Res Bool := match d with
  | .py (.bool b) => .ok b S
  | _ => .bad
def xT (f : EX) : TX := fun env S => (f env S).bind asB
theorem asB_ok {W : XK} {R : RR} {H : Hp} {v : V} {d : D} {S : Sto} {Q : Bool → Hp → Prop} {δ γ : Type} {P' : RR → Hp → δ → γ → Prop} (rs : RS g R S H) (r : RD g.K R H v d) (h : Post g W R H PBo (asB d S) Q) : ∃ k, v = .bl k ∧ Q k H := by
  unfold asB at h
  split at h
  · rename_i b
    cases r
    exact ⟨b, rfl, h b H R .refl rs rfl⟩
  · exact h.elim
theorem dt_cmp {op : CmpOp} {o : Op2} (ho : Op X g (compareOp op) o) (ha : DE X g W a fa) (hb : DE X g W b fb) (hm : behindInMarks op b = false) : DT X g W (.Compare a [op] [b] pos) (xT (xBin o fa fb)) :=
  ⟨fun hK => by
    obtain ⟨r, hr, k⟩ := ho.run hK
    refine (pt_cmpR hr (ha.pe hK) (hb.pe hK) hm).imp fun σ H Q h => ?_
    obtain ⟨R, env, S, rs, re, h⟩ := h
    have h' : tD g W (xBin o fa fb) σ H (fun x H' => ∃ k, x = .bl k ∧ Q k H') := tD_bind rs re h fun d S1 x H1 R1 s1 rs1 re1 rx h1 => asB_ok (P' := PBo) rs1 rx h1
    exact tbin k σ H _ h'⟩
theorem asB_cases {W : XK} {R : RR} {H : Hp} {v : V} {d : D} {S : Sto} {γ δ : Type} {P' : RR → Hp → δ → γ → Prop} {k : Bool → Sto → Res γ} {Q : δ → Hp → Prop} (r : RD g.K R H v d) (h : Post g W R H P' ((asB d S).bind k) Q) : ∃ c, v = .bl c ∧ Post g W R H P' (k c S) Q := by
  unfold asB at h
  split at h
  · cases r
    exact ⟨_, rfl, h⟩
  · exact h.elim
/-- a op1 b op2 c -/
def xChain (o o' : Op2) (fa fb fc : EX) : EX := fun env S => (fa env S).bind fun x S1 => (fb env S1).bind fun y S2 => (o x y S2).bind fun z S3 => (asB z S3).bind fun k S4 =>
  if k = true then (fc env S4).bind fun w S5 => o' y w S5 else .ok (dB false) S4
theorem tchain {o o' : Op2} {r r' : R2} (k : ∀ (W : XK) R S H x y d e Q, RS g R S H → RD g.K R H x d → RD g.K R H y e → Post g W R H (PV g) (o d e S) Q → r x y H Q)
    (k' : ∀ (W : XK) R S H x y d e Q, RS g R S H → RD g.K R H x d → RD g.K R H y e → Post g W R H (PV g) (o' d e S) Q → r' x y H Q)
    (σ : L2.St) (H : Hp) (Q : VK) (h : tD g W (xChain o o' fa fb fc) σ H Q) : tChain r r' (tD g W fa) (tD g W fb) (tD g W fc) σ H Q := by
  obtain ⟨R, env, S, rs, re, h⟩ := h
  refine tD_bind rs re h fun d S1 x H1 R1 s1 rs1 re1 rx h1 => ?_
  refine tD_bind rs1 re1 h1 fun e S2 y H2 R2 s2 rs2 re2 ry h2 => ?_
  refine k _ R2 S2 H2 x y d e _ rs2 (rx.step s2) ry (Post.bind h2 fun z S3 v H3 R3 _ s3 rs3 rz h3 => ?_)
  have re3 := re2.step s3
  obtain ⟨c, rfl, h3⟩ := asB_cases rz h3
  refine ⟨c, rfl, ?_⟩
  cases c with
  | false => exact post_now rs3 (RD.bl false) h3
  | true => exact tD_bind rs3 re3 h3 fun u S4 w H4 R4 s4 rs4 re4 rw4 h4 => k' _ R4 S4 H4 y w e u Q rs4 ((ry.step s3).step s4) rw4 h4
theorem de_chain {op op' : CmpOp} {o o' : Op2} (ho : Op X g (compareOp op) o) (ho' : Op X g (compareOp op') o') (ha : DE X g W a fa) (hb : DE X g W b fb) (hc : DE X g W c fc)
    (hm : lastMarks [op, op'] [b, c] = false := by with_unfolding_all rfl) : DE X g W (.Compare a [op, op'] [b, c] pos) (xChain o o' fa fb fc) :=
  ⟨fun hK => by
    obtain ⟨r, hr, k⟩ := ho.run hK
    obtain ⟨r', hr', k'⟩ := ho'.run hK
    exact (pe_chain hr hr' (ha.pe hK) (hb.pe hK) (hc.pe hK) hm).imp fun σ H Q h => tchain k k' σ H Q h⟩
theorem dt_chain {op op' : CmpOp} {o o' : Op2} (ho : Op X g (compareOp op) o) (ho' : Op X g (compareOp op') o') (ha : DE X g W a fa) (hb : DE X g W b fb) (hc : DE X g W c fc)
    (hm : lastMarks [op, op'] [b, c] = false := by with_unfolding_all rfl) : DT X g W (.Compare a [op, op'] [b, c] pos) (xT (xChain o o' fa fb fc)) :=
  ⟨fun hK => by
    obtain ⟨r, hr, k⟩ := ho.run hK
    obtain ⟨r', hr', k'⟩ := ho'.run hK
    refine (pt_chain hr hr' (ha.pe hK) (hb.pe hK) (hc.pe hK) hm).imp fun σ H Q h => ?_
    obtain ⟨R, env, S, rs, re, h⟩ := h
    have h' : tD g W (xChain o o' fa fb fc) σ H (fun x H' => ∃ k, x = .bl k ∧ Q k H') := tD_bind rs re h fun d S1 x H1 R1 s1 rs1 re1 rx h1 => asB_ok (P' := PBo) rs1 rx h1
    exact tchain k k' σ H _ h'⟩

/-! ### tests -/
theorem dt_val (h : DE X g W e fa) (he : ∀ whole, isTrue e X.env whole = (do let v ← whole; standAt e.pos; holding [v] (truthy v)) := by intro _; rfl) : DT X g W e (xT fa) :=
  ⟨fun hK => (pt_val (h.pe hK) he).imp fun σ H Q ⟨R, env, S, rs, re, h⟩ => tD_bind rs re h fun d S1 x H1 R1 s1 rs1 re1 rx h1 => asB_ok (P' := PBo) rs1 rx h1⟩
/-- truth of any value -/
def truD (d : D) (S : Sto) : Res Bool := match d with
  | .py .none => .ok false S
  | .py (.bool b) => .ok b S
  | .py (.int i) => .ok (i != 0) S
  | .py (.str x) => if x.length ≤ 1000000 then .ok ((x.length : Int) != 0) S else .bad
  | .py (.list xs) => .ok (!xs.isEmpty) S
  | .py (.tuple xs) => .ok (!xs.isEmpty) S
  | .py (.dict xs) => .bad
  | .loc n => match S[n]? with
    | some (.lst xs) => .ok (!xs.isEmpty) S
    | _ => .bad
  | .scr ns => .ok (!ns.isEmpty) S
theorem line_ok : (1000000 : Nat) ≤ sizeLine := by rw [sizeLine_eq]; decide
theorem paired_empty {α β : Type} {F : α → β → Prop} {xs : List α} {ys : List β} (h : Paired F xs ys) : xs.isEmpty = ys.isEmpty := by cases h <;> rfl
theorem rpall_empty {K : PySem.W.Frag} {R : RR} {H : Hp} {xs : List V} {ys : List PyData} (h : RpAll K R H xs ys) : xs.isEmpty = ys.isEmpty := by cases h <;> rfl
theorem tru_of {W : XK} {R : RR} {H : Hp} {v : V} {d : D} {S : Sto} {Q : Bool → Hp → Prop} (rs : RS g R S H) (r : RD g.K R H v d) (h : Post g W R H PBo (truD d S) Q) : ∃ k, TruV g.K v H k ∧ Q k H := by
  have fin : ∀ {k : Bool}, Post g W R H PBo (.ok k S) Q → Q k H := fun {k} h => h k H R .refl rs rfl
  cases d with
  | py d =>
    cases r with
    | non => exact ⟨_, rfl, fin h⟩
    | bl b => exact ⟨_, rfl, fin h⟩
    | int i => exact ⟨_, rfl, fin h⟩
    | str x =>
      unfold truD at h
      simp only at h
      split at h
      · exact ⟨_, ⟨Nat.le_trans (by assumption) line_ok, rfl⟩, fin h⟩
      · exact h.elim
    | lst q n k => exact ⟨_, .inl ⟨_, SqL.of q, by rw [rpall_empty k]⟩, fin h⟩
    | tup q n k => exact ⟨_, .inr (.inl ⟨_, q.sq, by rw [rpall_empty k]⟩), fin h⟩
    | dic q n k => exact h.elim
  | loc n =>
    obtain ⟨a, rfl, ha⟩ := r
    unfold truD at h
    simp only at h
    split at h
    · rename_i xs q
      obtain ⟨b, hb, ro⟩ := rs_get rs q
      rw [ha] at hb; cases hb
      obtain ⟨vs, h1, h2, h3⟩ := ro
      exact ⟨_, .inl ⟨_, .inl (.inl h1), by rw [paired_empty h3]⟩, fin h⟩
    · exact h.elim
  | scr ns =>
    obtain ⟨a, rfl, q⟩ := RD.scr r
    exact ⟨_, .inl ⟨_, q, by cases ns <;> rfl⟩, fin h⟩
def xTr (f : EX) : TX := fun env S => (f env S).bind truD
theorem dt_truth (h : DE X g W e fa) (he : ∀ whole, isTrue e X.env whole = (do let v ← whole; standAt e.pos; holding [v] (truthy v)) := by intro _; rfl) : DT X g W e (xTr fa) :=
  ⟨fun hK => (pt_truth (h.pe hK) he).imp fun σ H Q ⟨R, env, S, rs, re, h⟩ => tD_bind rs re h fun d S1 x H1 R1 s1 rs1 re1 rx h1 => by
    rw [← hK]
    exact tru_of rs1 rx h1⟩
def xAndT (f k : TX) : TX := fun env S => (f env S).bind fun c S1 => if c = true then k env S1 else .ok false S1
def xOrT (f k : TX) : TX := fun env S => (f env S).bind fun c S1 => if c = true then .ok true S1 else k env S1
def xNotT (f : TX) : TX := fun env S => (f env S).bind fun c S1 => .ok (!c) S1
variable {ft fu : TX} {rest : List Expr}
theorem dw_and1 (ha : DT X g W a ft) : DW X g W (.BoolOp .And [a] pos) ft := ⟨fun hK => pw_and1 (ha.pt hK)⟩
theorem dw_or1 (ha : DT X g W a ft) : DW X g W (.BoolOp .Or [a] pos) ft := ⟨fun hK => pw_or1 (ha.pt hK)⟩
theorem dw_and (ha : DT X g W a ft) (hb : DW X g W (.BoolOp .And (b :: rest) pos) fu) : DW X g W (.BoolOp .And (a :: b :: rest) pos) (xAndT ft fu) :=
  ⟨fun hK => (pw_and (ha.pt hK) (hb.pw hK)).imp fun σ H Q ⟨R, env, S, rs, re, h⟩ => tDT_bind rs re h fun c S1 H1 R1 s1 rs1 re1 h1 => by
    cases c with
    | false => exact h1 false H1 R1 .refl rs1 rfl
    | true => exact ⟨R1, env, S1, rs1, re1, h1⟩⟩
theorem dw_or (ha : DT X g W a ft) (hb : DW X g W (.BoolOp .Or (b :: rest) pos) fu) : DW X g W (.BoolOp .Or (a :: b :: rest) pos) (xOrT ft fu) :=
  ⟨fun hK => (pw_or (ha.pt hK) (hb.pw hK)).imp fun σ H Q ⟨R, env, S, rs, re, h⟩ => tDT_bind rs re h fun c S1 H1 R1 s1 rs1 re1 h1 => by
    cases c with
    | true => exact h1 true H1 R1 .refl rs1 rfl
    | false => exact ⟨R1, env, S1, rs1, re1, h1⟩⟩
theorem dt_w (h : DW X g W e ft) : DT X g W e ft := ⟨fun hK => (h.pw hK).pt⟩
theorem dt_not (ha : DT X g W a ft) : DT X g W (.UnaryOp .Not a pos) (xNotT ft) :=
  ⟨fun hK => (pt_not (ha.pt hK)).imp fun σ H Q ⟨R, env, S, rs, re, h⟩ => tDT_bind rs re h fun c S1 H1 R1 s1 rs1 re1 h1 => h1 (!c) H1 R1 .refl rs1 rfl⟩
def xIf (f : TX) (fa fb : EX) : EX := fun env S => (f env S).bind fun c S1 => if c = true then fa env S1 else fb env S1
theorem de_if (hc : DT X g W c ft) (ha : DE X g W a fa) (hb : DE X g W b fb) : DE X g W (.IfExp c a b pos) (xIf ft fa fb) :=
  ⟨fun hK => (pe_ifExp (hc.pt hK) (ha.pe hK) (hb.pe hK)).imp fun σ H Q ⟨R, env, S, rs, re, h⟩ => tDT_bind rs re h fun c S1 H1 R1 s1 rs1 re1 h1 => by
    cases c with
    | true => exact ⟨R1, env, S1, rs1, re1, h1⟩
    | false => exact ⟨R1, env, S1, rs1, re1, h1⟩⟩
/-- and, or as values: all but the last are bools -/
def xAnd (f k : EX) : EX := fun env S => (f env S).bind fun d S1 => (asB d S1).bind fun c S2 => if c = true then k env S2 else .ok (dB false) S2
def xOr (f k : EX) : EX := fun env S => (f env S).bind fun d S1 => (asB d S1).bind fun c S2 => if c = true then .ok (dB true) S2 else k env S2
def xNot (f : EX) : EX := fun env S => (f env S).bind fun d S1 => (asB d S1).bind fun c S2 => .ok (dB (!c)) S2
theorem de_one {op} (h : DE X g W a fa) : DE X g W (.BoolOp op [a] pos) fa := ⟨fun hK => pe_one (h.pe hK)⟩
theorem de_and (ha : DE X g W a fa) (hb : DE X g W (.BoolOp .And (b :: rest) pos) fb) : DE X g W (.BoolOp .And (a :: b :: rest) pos) (xAnd fa fb) :=
  ⟨fun hK => (pe_and (ha.pe hK) (hb.pe hK)).imp fun σ H Q ⟨R, env, S, rs, re, h⟩ => tD_bind rs re h fun d S1 x H1 R1 s1 rs1 re1 rx h1 => by
    obtain ⟨c, rfl, h1⟩ := asB_cases rx h1
    refine ⟨c, rfl, ?_⟩
    cases c with
    | true => exact ⟨R1, env, S1, rs1, re1, h1⟩
    | false => exact post_now rs1 (RD.bl false) h1⟩
theorem de_or (ha : DE X g W a fa) (hb : DE X g W (.BoolOp .Or (b :: rest) pos) fb) : DE X g W (.BoolOp .Or (a :: b :: rest) pos) (xOr fa fb) :=
  ⟨fun hK => (pe_or (ha.pe hK) (hb.pe hK)).imp fun σ H Q ⟨R, env, S, rs, re, h⟩ => tD_bind rs re h fun d S1 x H1 R1 s1 rs1 re1 rx h1 => by
    obtain ⟨c, rfl, h1⟩ := asB_cases rx h1
    refine ⟨c, rfl, ?_⟩
    cases c with
    | false => exact ⟨R1, env, S1, rs1, re1, h1⟩
    | true => exact post_now rs1 (RD.bl true) h1⟩
theorem de_not (ha : DE X g W a fa) : DE X g W (.UnaryOp .Not a pos) (xNot fa) :=
  ⟨fun hK => (pe_not (ha.pe hK)).imp fun σ H Q ⟨R, env, S, rs, re, h⟩ => tD_bind rs re h fun d S1 x H1 R1 s1 rs1 re1 rx h1 => by
    obtain ⟨c, rfl, h1⟩ := asB_cases rx h1
    exact ⟨c, rfl, post_now rs1 (RD.bl (!c)) h1⟩⟩

/-! ### arguments and displays -/
def xNil : AX := fun _ S => .ok [] S
def xCons (f : EX) (k : AX) : AX := fun env S => (f env S).bind fun d S1 => (k env S1).bind fun ds S2 => .ok (d :: ds) S2
theorem da_nil : DA X g W [] xNil := ⟨fun hK => pa_nil.imp fun σ H Q ⟨R, env, S, rs, re, h⟩ => h [] H R .refl rs .nil⟩
theorem da_cons {es : List Expr} {k : AX} (ha : DE X g W e fa) (hr : DA X g W es k) (hs : starEach (e :: es) X.env = (false, eval e X.env) :: starEach es X.env := by rfl) : DA X g W (e :: es) (xCons fa k) :=
  ⟨fun hK => (pa_cons (ha.pe hK) (hr.pa hK) hs).imp fun σ H Q ⟨R, env, S, rs, re, h⟩ => tD_bind rs re h fun d S1 x H1 R1 s1 rs1 re1 rx h1 =>
    tDA_bind rs1 re1 h1 fun ds S2 xs H2 R2 s2 rs2 re2 rxs h2 => h2 (x :: xs) H2 R2 .refl rs2 (.cons (rx.step s2) rxs)⟩
/-- a tuple, a list by value, a mutable list -/
def xTup (k : AX) : EX := fun env S => (k env S).bind fun ds S1 => match pys ds with
  | some es => if es.length ≤ 1000000 then .ok (dT es) S1 else .bad
  | none => .bad
def xLst (k : AX) : EX := fun env S => (k env S).bind fun ds S1 => match pys ds with
  | some es => if es.length ≤ 1000000 then .ok (dL es) S1 else .bad
  | none => .bad
def xMut (k : AX) : EX := fun env S => (k env S).bind fun ds S1 => if ds.length ≤ 1000000 then .ok (.loc S1.length) (S1 ++ [.lst ds]) else .bad
variable {es : List Expr} {k : AX}
/-- a new tuple, told as it is wanted -/
theorem laidT {X : Cx} {pins : List (Addr × Obj)} {σ : L2.St} {H : Hp} {s : Shared} (I : Inv X pins σ H s) {xs : List V} {us : List Value} (b : Bool) (r : Vals xs us) (hz : xs.length ≤ sizeLine) {Q : VK} (q : ∀ p u, H p = none → Fz b xs u → Q (.ref p) (upd H p u)) (t : Tok) :
    EP X pins σ Q (.ref s.heap.objs.size) { s with heap := s.heap.push { cls := .type "tuple", data := .seq us.toArray }, toks := t } := by
  have hf : H s.heap.objs.size = none := I.hok.fresh (Nat.le_refl _)
  have kp : ∀ (c : Addr) (ob : Obj), s.heap.get? c = some ob → (s.heap.push { cls := .type "tuple", data := .seq us.toArray }).get? c = some ob := fun c ob e => Heap.get?_push_of_some _ e
  cases b with
  | false => exact ⟨.ref s.heap.objs.size, _, I.laid (t' := t) (o := .tup xs) kp (Nat.le_refl _) ⟨hz, us, r, IsTup.new _ _⟩, rfl, q _ _ hf rfl⟩
  | true => exact ⟨.ref s.heap.objs.size, _, I.laid (t' := t) (o := .frz { cls := .type "tuple", data := .seq us.toArray } (.tup xs)) kp (Nat.le_refl _) ⟨Heap.get?_push_size _ rfl, hz, us, r, IsTup.new _ _⟩, rfl, q _ _ hf ⟨_, rfl, rfl⟩⟩
def tTupF (t : TA) : TE := fun σ H Q => t σ H fun xs H1 => xs.length ≤ sizeLine ∧ ∃ b, ∀ p u, H1 p = none → Fz b xs u → Q (.ref p) (upd H1 p u)
theorem pe_tupF {X : Cx} {es : List Expr} {t : TA} {pos : Pos} {x1} (h : PA X es t) : PE X (.Tuple es x1 pos) (tTupF t) :=
  ⟨fun pins s σ H Q I hq => wpAny_Tuple_spliced (thn (h.run pos pins s σ H _ I hq) fun _ s1 ⟨_, _, I1, r, z, b, q⟩ => ⟨(by rw [← r.length]; exact z), laidT I1 b r z q s1.toks⟩)⟩
theorem de_tup {x1} (h : DA X g W es k) : DE X g W (.Tuple es x1 pos) (xTup k) :=
  ⟨fun hK => (pe_tupF (h.pa hK)).imp fun σ H Q ⟨R, env, S, rs, re, h⟩ => tDA_bind rs re h fun ds S1 xs H1 R1 s1 rs1 re1 rxs h1 => by
    split at h1
    · rename_i es q
      split at h1
      · have r := rxs.pys q
        exact ⟨by rw [r.length]; exact Nat.le_trans (by assumption) line_ok, tup_new rs1 r h1⟩
      · exact h1.elim
    · exact h1.elim⟩
theorem de_lst (h : DA X g W es k) : DE X g W (.List es pos) (xLst k) :=
  ⟨fun hK => (pe_lst (h.pa hK)).imp fun σ H Q ⟨R, env, S, rs, re, h⟩ => tDA_bind rs re h fun ds S1 xs H1 R1 s1 rs1 re1 rxs h1 => by
    split at h1
    · rename_i es q
      split at h1
      · have r := rxs.pys q
        exact ⟨by rw [r.length]; exact Nat.le_trans (by assumption) line_ok, lst_new rs1 r h1⟩
      · exact h1.elim
    · exact h1.elim⟩
theorem de_mut (h : DA X g W es k) : DE X g W (.List es pos) (xMut k) :=
  ⟨fun hK => (pe_lst (h.pa hK)).imp fun σ H Q ⟨R, env, S, rs, re, h⟩ => tDA_bind rs re h fun ds S1 xs H1 R1 s1 rs1 re1 rxs h1 => by
    split at h1
    · exact ⟨by rw [rxs.len]; exact Nat.le_trans (by assumption) line_ok, loc_new rs1 rxs (Nat.le_trans (by assumption) line_ok) h1⟩
    · exact h1.elim⟩
end
end DL
end
section
set_option maxRecDepth 100000
set_option maxHeartbeats 1000000
/-! DL2: operators, items, slices. -/
namespace DL
open PySem PySem.Spec PyProof.Rows L2

section
variable {X : Cx}
/-- t + u -/
def rCatF (K : PySem.W.Frag) : R2 := fun x y H Q => ∃ l m xs zs, x = .ref l ∧ y = .ref m ∧ SqT K H l xs ∧ SqT K H m zs ∧ xs.length + zs.length ≤ sizeLine ∧
  (xs = [] → Q (.ref m) H) ∧ (zs = [] → Q (.ref l) H) ∧ ∃ c, ∀ p u, H p = none → Fz c (xs ++ zs) u → Q (.ref p) (upd H p u)
theorem op_catF : OpR X (binaryOp .Add) (rCatF X.K) := by
  rintro pins s σ H x y v u Q I rx ry ⟨l, m, xs, zs, rfl, rfl, tl, tm, len, q1, q2, c, q3⟩
  by_cases ne : xs = []
  · exact op_catA pins s σ H _ _ v u Q I rx ry ⟨l, m, xs, zs, rfl, rfl, tl, tm, len, q1, fun z => absurd ne z, fun z => absurd ne z⟩
  · cases rx
    cases ry
    obtain ⟨us, r1, w1, _⟩ := I.tuple tl
    obtain ⟨ws, r2, w2, _⟩ := I.tuple tm
    have lenT : us.length + ws.length ≤ sizeLine := by rw [← r1.length, ← r2.length]; exact len
    exact HT.cat_tup w1 w2 (fun z => ne (r1.nil_iff.mp z)) (fun z => ⟨.ref l, H, I, rfl, q2 (r2.nil_iff.mp z)⟩) (fun _ => laidT I c (r1.append r2) (by rw [List.length_append]; exact len) q3 s.toks) lenT
/-- t * k -/
def rRepF (K : PySem.W.Frag) : R2 := fun x y H Q => ∃ l k xs, x = .ref l ∧ y = .int k ∧ SqT K H l xs ∧ xs ≠ [] ∧ 2 ≤ k ∧ k ≤ 1000 ∧ xs.length ≤ 1000 ∧ ∃ c, ∀ p u, H p = none → Fz c (List.replicate k.toNat xs).flatten u → Q (.ref p) (upd H p u)
theorem op_repF : OpR X (binaryOp .Mult) (rRepF X.K) := by
  rintro pins s σ H x y v u Q I rx ry ⟨l, k, xs, rfl, rfl, tl, ne, k2, k1000, xl, c, q⟩
  cases rx
  obtain ⟨tk, rfl⟩ := ry
  obtain ⟨us, r, ⟨⟨cl, di, da, so⟩, og, oc, m, od⟩, _⟩ := I.tuple tl
  simp only at oc od
  subst oc od
  have ul : us.length = xs.length := r.length.symm
  have une : us.toArray.isEmpty = false := by
    cases us with
    | nil => exact absurd (List.eq_nil_of_length_eq_zero ul.symm) ne
    | cons _ _ => rfl
  have usz : us.toArray.size = xs.length := by rw [List.size_toArray, ul]
  have prod : ((us.toArray.size : Nat) : Int) * k ≤ 1000000 := by
    rw [usz]
    have := Int.mul_le_mul_of_nonneg_right (show ((xs.length : Nat) : Int) ≤ 1000 by omega) (show 0 ≤ k by omega)
    omega
  have klen : k.toNat * xs.length ≤ sizeLine := by
    have := Nat.mul_le_mul (show k.toNat ≤ 1000 by omega) xl
    rw [sizeLine_eq]
    omega
  have flat : (List.replicate k.toNat us).flatten.length ≤ sizeLine := by
    rw [PyProof.Rows.lm_len_rep_flat, ul]
    exact klen
  have a0 : (decide (k < -(2 ^ 63)) || decide (k ≥ 2 ^ 63)) = false := by simp; omega
  have a1 : (us.toArray.isEmpty || k == 1) = false := by rw [une]; simp; omega
  have a2 : (decide (k ≤ 0) || us.toArray.isEmpty) = false := by rw [une]; simp; omega
  have a4 : Builtin.Tuple.tupleTooMany (((us.toArray.size : Nat) : Int) * k) = false := decide_eq_false (by rw [sizeLine_eq]; omega)
  have whole := size_rep us k.toNat
  refine wpAny_binaryOp_repeat_ref (T := "tuple") (U := "int") (by decide) ⟨_, og, rfl⟩ (fun t => typeIs_int t k tk) noFill_tuple_mul F.fills_int_mul F.slot_int_rmul repeat_tuple F.slot_int_index.lookup ?_
  refine call_meets F.slot_int_rmul (typeIs_int s k tk) F.entry_int_rmul (F.args_int_rmul_2 _ _) (int_rmul_tuple k tk l us.toArray m di so) ⟨og, rfl, ⟨_, og, rfl⟩, ?_⟩
  refine call_meets F.slot_tuple_mul ⟨_, og, rfl⟩ F.entry_tuple_mul (F.args_tuple_mul_2 _ _) (tuple_mulW l us.toArray m di so k tk a0 a1 a2 (by omega) a4 (by rw [whole, List.size_toArray]; exact flat)) ⟨og, ?_⟩
  rw [whole]
  exact laidT I c (r.rep k.toNat) (by rw [PyProof.Rows.lm_len_rep_flat]; exact klen) q s.toks
end
/-- items of a list or a tuple that is no script -/
def seqR (S : Sto) : D → Option (Bool × List D)
  | .scr _ => none
  | d => seqOf S d
theorem seqR_ok {g : G} {R : RR} {S : Sto} {H : Hp} (rs : RS g R S H) {v : V} {d : D} (r : RD g.K R H v d) {t : Bool} {xs : List D} (e : seqR S d = some (t, xs)) :
    ∃ a vs, v = .ref a ∧ RDs g.K R H vs xs ∧ (if t = true then Rd H a (.tup vs) else H a = some (.lst vs)) := by
  cases d with
  | py d =>
    cases r with
    | lst h n k => cases e; exact ⟨_, _, rfl, k.rds, h⟩
    | tup h n k => cases e; exact ⟨_, _, rfl, k.rds, h.rd⟩
    | _ => cases e
  | loc n =>
    obtain ⟨a, rfl, ha⟩ := r
    have e : (match S[n]? with | some (.lst xs) => some (false, xs) | _ => none) = some (t, xs) := e
    split at e
    · rename_i xs' q
      cases e
      obtain ⟨b, hb, ro⟩ := rs_get rs q
      rw [ha] at hb; cases hb
      obtain ⟨vs, h1, h2, h3⟩ := ro
      exact ⟨a, vs, rfl, h3, h1⟩
    · cases e
  | scr ns => cases e

/-! ### + - * // % ** -/
def dAdd : Op2 := fun x y S => match x, y with
  | .py (.int i), .py (.int j) => .ok (dI (i + j)) S
  | .py (.str i), .py (.str j) => if i.length + j.length ≤ 1000000 then .ok (dS (i ++ j)) S else .bad
  | _, _ => match seqR S x, seqR S y with
    | some (false, xs), some (false, ys) => match pys xs, pys ys with
      | some es, some fs => if es.length + fs.length ≤ 1000000 then .ok (dL (es ++ fs)) S else .bad
      | _, _ => .bad
    | some (true, xs), some (true, ys) => match pys xs, pys ys with
      | some es, some fs => if es.length + fs.length ≤ 1000000 then .ok (dT (es ++ fs)) S else .bad
      | _, _ => .bad
    | _, _ => .bad
def dSub : Op2 := fun x y S => match x, y with
  | .py (.int i), .py (.int j) => .ok (dI (i - j)) S
  | _, _ => .bad
def dMul : Op2 := fun x y S => match x, y with
  | .py (.int i), .py (.int j) => if (-(2 ^ 64) < i ∧ i < 2 ^ 64) ∨ (-(2 ^ 64) < j ∧ j < 2 ^ 64) then .ok (dI (i * j)) S else .bad
  | .py (.list xs), .py (.int k) => if 0 ≤ k ∧ k ≤ 1000 ∧ xs.length ≤ 1000 then .ok (dL (List.replicate k.toNat xs).flatten) S else .bad
  | .py (.tuple xs), .py (.int k) => if xs ≠ [] ∧ 2 ≤ k ∧ k ≤ 1000 ∧ xs.length ≤ 1000 then .ok (dT (List.replicate k.toNat xs).flatten) S else .bad
  | _, _ => .bad
def dDiv : Op2 := fun x y S => match x, y with
  | .py (.int i), .py (.int j) => if 0 < j ∧ j < 1073741824 then .ok (dI (i / j)) S else .bad
  | _, _ => .bad
def dMod : Op2 := fun x y S => match x, y with
  | .py (.int i), .py (.int j) => if 0 < j then .ok (dI (i % j)) S else .bad
  | _, _ => .bad
def dPow : Op2 := fun x y S => match x, y with
  | .py (.int i), .py (.int j) => if 0 ≤ j ∧ j ≤ 1000000 ∧ i.natAbs < 2 ^ 64 then .ok (dI (i ^ j.toNat)) S else .bad
  | _, _ => .bad
section
variable {X : Cx} {g : G} {W : WY}
theorem op_i2 {f : Value → Value → Sem Value} {C : Int → Int → Prop} {k : Int → Int → Int} {o : Op2} (hr : OpR X f (rI C fun i j => .int (k i j)))
    (h : ∀ x y S (P : Res D → Prop), P (o x y S) → P .bad ∨ ∃ i j, x = dI i ∧ y = dI j ∧ C i j ∧ P (.ok (dI (k i j)) S)) : Op X g f o :=
  ⟨fun _ => ⟨_, hr, fun W R S H x y d e Q rs rx ry h1 => by
    rcases h d e S (fun r => Post g W R H (PV g) r Q) h1 with hb | ⟨i, j, rfl, rfl, c, h2⟩
    · exact hb.elim
    · cases rx
      cases ry
      exact ⟨i, j, rfl, rfl, c, post_now rs (RD.int _) h2⟩⟩⟩
theorem opSub : Op X g (binaryOp .Sub) dSub := ⟨fun _ => ⟨_, op_sub, fun W R S H x y d e Q rs rx ry h => by
  unfold dSub at h
  split at h
  · cases rx
    cases ry
    exact ⟨_, _, rfl, rfl, post_now rs (RD.int _) h⟩
  · exact h.elim⟩⟩
theorem opMod : Op X g (binaryOp .Mod) dMod := ⟨fun _ => ⟨_, op_mod, fun W R S H x y d e Q rs rx ry h => by
  unfold dMod at h
  split at h
  · split at h
    · cases rx
      cases ry
      exact ⟨_, _, rfl, rfl, by assumption, post_now rs (RD.int _) h⟩
    · exact h.elim
  · exact h.elim⟩⟩
theorem opDiv : Op X g (binaryOp .FloorDiv) dDiv := ⟨fun _ => ⟨_, op_fdiv, fun W R S H x y d e Q rs rx ry h => by
  unfold dDiv at h
  split at h
  · split at h
    · cases rx
      cases ry
      exact ⟨_, _, rfl, rfl, by assumption, post_now rs (RD.int _) h⟩
    · exact h.elim
  · exact h.elim⟩⟩
theorem opPow : Op X g (binaryOp .Pow) dPow := ⟨fun _ => ⟨_, op_pow, fun W R S H x y d e Q rs rx ry h => by
  unfold dPow at h
  split at h
  · split at h
    · cases rx
      cases ry
      exact ⟨_, _, rfl, rfl, by assumption, post_now rs (RD.int _) h⟩
    · exact h.elim
  · exact h.elim⟩⟩
theorem RpAll.reps {K : PySem.W.Frag} {R : RR} {H : Hp} {vs : List V} {ds : List PyData} (h : RpAll K R H vs ds) : ∀ n, RpAll K R H (List.replicate n vs).flatten (List.replicate n ds).flatten
  | 0 => .nil
  | n + 1 => by
    rw [List.replicate_succ, List.replicate_succ, List.flatten_cons, List.flatten_cons]
    exact h.append (RpAll.reps h n)
theorem opAdd : Op X g (binaryOp .Add) dAdd := ⟨fun hK => ⟨_, (op_add.or op_add_str).or (op_cat.or op_catF), fun W R S H x y d e Q rs rx ry h => by
  unfold dAdd at h
  split at h
  · cases rx
    cases ry
    exact .inl (.inl ⟨_, _, rfl, rfl, post_now rs (RD.int _) h⟩)
  · split at h
    · cases rx
      cases ry
      exact .inl (.inr ⟨_, _, rfl, rfl, Nat.le_trans (by assumption) line_ok, post_now rs (RD.str _) h⟩)
    · exact h.elim
  · split at h
    · rename_i xs ys ex ey
      split at h
      · rename_i es fs pe pf
        split at h
        · obtain ⟨a, vs, rfl, ra, ha⟩ := seqR_ok rs rx ex
          obtain ⟨b, ws, rfl, rb, hb⟩ := seqR_ok rs ry ey
          have ka := ra.pys pe
          have kb := rb.pys pf
          refine .inr (.inl ⟨a, b, vs, ws, rfl, rfl, ha, hb, by rw [ka.length, kb.length]; exact Nat.le_trans (by assumption) line_ok, lst_new rs (ka.append kb) h⟩)
        · exact h.elim
      · exact h.elim
    · rename_i xs ys ex ey
      split at h
      · rename_i es fs pe pf
        split at h
        · cases d with
          | py d =>
            cases e with
            | py e =>
              cases rx with
              | tup h1 n1 k1 =>
                cases ry with
                | tup h2 n2 k2 =>
                  cases ex
                  cases ey
                  simp only [pys_map, Option.some.injEq] at pe pf
                  subst pe pf
                  refine .inr (.inr ⟨_, _, _, _, rfl, rfl, h1.sq, h2.sq, by rw [k1.length, k2.length]; exact Nat.le_trans (by assumption) line_ok, fun z => ?_, fun z2 => ?_, tup_new rs (k1.append k2) h⟩)
                  · subst z
                    cases k1
                    exact post_now rs (d := dT _) (Rp.tup h2 n2 k2) h
                  · subst z2
                    cases k2
                    rw [List.append_nil] at h
                    exact post_now rs (d := dT _) (Rp.tup h1 n1 k1) h
                | _ => cases ey
              | _ => cases ex
            | loc n =>
              have ey : (match S[n]? with | some (.lst xs) => some (false, xs) | _ => none) = some (true, ys) := ey
              split at ey <;> cases ey
            | scr ns => cases ey
          | loc n =>
            have ex : (match S[n]? with | some (.lst xs) => some (false, xs) | _ => none) = some (true, xs) := ex
            split at ex <;> cases ex
          | scr ns => cases ex
        · exact h.elim
      · exact h.elim
    · exact h.elim⟩⟩
theorem opMul : Op X g (binaryOp .Mult) dMul := ⟨fun hK => ⟨_, op_mul.or (op_rep.or op_repF), fun W R S H x y d e Q rs rx ry h => by
  unfold dMul at h
  split at h
  · split at h
    · cases rx
      cases ry
      exact .inl ⟨_, _, rfl, rfl, by assumption, post_now rs (RD.int _) h⟩
    · exact h.elim
  · split at h
    · rename_i hb
      cases rx with
      | lst h1 n1 k1 =>
        cases ry
        refine .inr (.inl ⟨_, _, _, rfl, rfl, h1, by omega, by omega, ?_, lst_new rs (k1.reps _) h⟩)
        have hl := k1.length
        refine Nat.le_trans (Nat.mul_le_mul (show _ ≤ 1000 by omega) (show _ ≤ 1000 by omega)) line_ok
    · exact h.elim
  · split at h
    · rename_i hb
      cases rx with
      | tup h1 n1 k1 =>
        cases ry
        have hl := k1.length
        exact .inr (.inr ⟨_, _, _, rfl, rfl, h1.sq, fun z => by
          subst z
          cases k1
          exact hb.1 rfl, by omega, by omega, by omega, tup_new rs (k1.reps _) h⟩)
    · exact h.elim
  · exact h.elim⟩⟩
def xNeg (f : EX) : EX := fun env S => (f env S).bind fun d S1 => match d with
  | .py (.int i) => .ok (dI (-i)) S1
  | _ => .bad
theorem de_neg {e : Expr} {f : EX} {pos : Pos} (h : DE X g W e f) : DE X g W (.UnaryOp .USub e pos) (xNeg f) :=
  ⟨fun hK => (pe_un un_neg (h.pe hK)).imp fun σ H Q ⟨R, env, S, rs, re, h⟩ => tD_bind rs re h fun d S1 x H1 R1 s1 rs1 re1 rx h1 => by
    split at h1
    · cases rx
      exact ⟨_, rfl, post_now rs1 (RD.int _) h1⟩
    · exact h1.elim⟩

/-! ### comparisons -/
def dCmp (p : Int → Int → Bool) : Op2 := fun x y S => match x, y with
  | .py (.int i), .py (.int j) => .ok (dB (p i j)) S
  | _, _ => .bad
abbrev dLt : Op2 := dCmp fun i j => decide (i < j)
abbrev dLe : Op2 := dCmp fun i j => decide (i ≤ j)
abbrev dGt : Op2 := dCmp fun i j => decide (j < i)
abbrev dGe : Op2 := dCmp fun i j => decide (j ≤ i)
theorem op_c {f : Value → Value → Sem Value} {p : Int → Int → Bool} (hr : OpR X f (rI0 fun i j => .bl (p i j))) : Op X g f (dCmp p) := ⟨fun _ => ⟨_, hr, fun W R S H x y d e Q rs rx ry h => by
  unfold dCmp at h
  split at h
  · cases rx
    cases ry
    exact ⟨_, _, rfl, rfl, post_now rs (RD.bl _) h⟩
  · exact h.elim⟩⟩
theorem opLt : Op X g (compareOp .Lt) dLt := op_c op_lt
theorem opLe : Op X g (compareOp .LtE) dLe := op_c op_le
theorem opGt : Op X g (compareOp .Gt) dGt := op_c op_gt
theorem opGe : Op X g (compareOp .GtE) dGe := op_c op_ge
/-- against an empty list, an empty tuple -/
def eqE (neg : Bool) (d e : PyData) (S : Sto) : Res D := match e with
  | .list [] => (match d with
    | .list xs => .ok (dB (neg != xs.isEmpty)) S
    | _ => .bad)
  | .tuple [] => (match d with
    | .tuple xs => .ok (dB (neg != xs.isEmpty)) S
    | _ => .bad)
  | _ => .bad
def rEqE (K : PySem.W.Frag) (neg : Bool) : R2 := fun x y H Q => ∃ a b xs, x = .ref a ∧ y = .ref b ∧ ((SqL K H a xs ∧ SqL K H b []) ∨ (SqT K H a xs ∧ SqT K H b [])) ∧ Q (.bl (neg != xs.isEmpty)) H
theorem op_eqE (hu : X.A.units + 64 < cLine) : OpR X (compareOp .Eq) (rEqE X.K false) := by
  intro pins s σ H x y v u Q I rx ry h
  obtain ⟨a, b, xs, rfl, rfl, h, q⟩ := h
  cases rx
  cases ry
  rcases h with ⟨h1, h2⟩ | ⟨h1, h2⟩
  · obtain ⟨its, r1, p1, _⟩ := I.list h1
    obtain ⟨its2, r2, p2, _⟩ := I.list h2
    cases r2
    cases its with
    | nil =>
      cases r1
      exact SeqAt.eq_listAt (e := fun _ => true) p1.isList p2.isList rfl (by omega) (fun j h => by simp at h) ⟨.bl true, H, I, rfl, q⟩
    | cons z zs =>
      cases r1
      exact SeqAt.eq_list_lengthsAt p1.isList p2.isList (by simp) (by omega) ⟨.bl false, H, I, rfl, q⟩
  · obtain ⟨its, r1, p1, _⟩ := I.tuple h1
    obtain ⟨its2, r2, p2, _⟩ := I.tuple h2
    cases r2
    refine SeqAt.eq_tupleAt (e := fun _ => true) p1 p2 (by omega) (fun j _ h => by simp at h) ?_
    cases its with
    | nil =>
      cases r1
      exact ⟨.bl true, H, I, rfl, q⟩
    | cons z zs =>
      cases r1
      exact ⟨.bl false, H, I, by simp; rfl, q⟩
theorem op_neE (hu : X.A.units + 64 < cLine) : OpR X (compareOp .NotEq) (rEqE X.K true) := by
  intro pins s σ H x y v u Q I rx ry h
  obtain ⟨a, b, xs, rfl, rfl, h, q⟩ := h
  cases rx
  cases ry
  rcases h with ⟨h1, h2⟩ | ⟨h1, h2⟩
  · obtain ⟨its, r1, p1, _⟩ := I.list h1
    obtain ⟨its2, r2, p2, _⟩ := I.list h2
    cases r2
    cases its with
    | nil =>
      cases r1
      exact SeqAt.RcNeAt.lists (e := fun _ => true) p1.isList p2.isList rfl (by omega) (fun j h => by simp at h) _ _ _ _ ⟨.bl false, H, I, rfl, q⟩
    | cons z zs =>
      cases r1
      exact SeqAt.RcNeAt.lists_lengths p1.isList p2.isList (by simp) (by omega) _ _ _ _ ⟨.bl true, H, I, rfl, q⟩
  · obtain ⟨its, r1, p1, _⟩ := I.tuple h1
    obtain ⟨its2, r2, p2, _⟩ := I.tuple h2
    cases r2
    refine SeqAt.RcNeAt.tuples (e := fun _ => true) p1 p2 (by omega) (fun j _ h => by simp at h) _ _ _ _ ?_
    cases its with
    | nil =>
      cases r1
      exact ⟨.bl false, H, I, rfl, q⟩
    | cons z zs =>
      cases r1
      exact ⟨.bl true, H, I, by simp; rfl, q⟩
def dEq : Op2 := fun x y S => match x, y with
  | .py (.str a), .py (.str b) => .ok (dB (a == b)) S
  | _, _ => match toPy S x, toPy S y with
  | some d, some e => if SeqAt.shaped d = true ∧ SeqAt.shaped e = true then .ok (dB (PyData.eqv d e)) S else eqE false d e S
  | _, _ => .bad
def dNe : Op2 := fun x y S => match x, y with
  | .py (.str a), .py (.str b) => .ok (dB (!(a == b))) S
  | _, _ => match toPy S x, toPy S y with
  | some d, some e => if SeqAt.shaped d = true ∧ SeqAt.shaped e = true then .ok (dB (!PyData.eqv d e)) S else eqE true d e S
  | _, _ => .bad
theorem shaped_lay {d : PyData} (h : SeqAt.shaped d = true) : d.canLay0 = true := by
  unfold SeqAt.shaped at h
  simp only [Bool.and_eq_true] at h
  exact h.1
theorem eqE_ok {W : XK} {R : RR} {S : Sto} {H : Hp} {v w : V} {x y : D} {d e : PyData} {neg : Bool} {Q : VK} (rs : RS g R S H) (rx : RD g.K R H v x) (ry : RD g.K R H w y) (ex : toPy S x = some d) (ey : toPy S y = some e) (h : Post g W R H (PV g) (eqE neg d e S) Q) : rEqE g.K neg v w H Q := by
  have px := toPy_ok rs rx ex
  have py := toPy_ok rs ry ey
  unfold eqE at h
  split at h
  · split at h
    · cases px with
      | lst h1 n1 k1 =>
        cases py with
        | lst h2 n2 k2 =>
          cases k2
          rename_i a1 xs1 a2 xs2 ds1
          have e1 : xs1.isEmpty = xs2.isEmpty := by cases k1 <;> rfl
          exact ⟨_, _, _, rfl, rfl, .inl ⟨SqL.of h1, SqL.of h2⟩, by first | rw [e1]; exact post_now rs (RD.bl _) h | rw [← e1]; exact post_now rs (RD.bl _) h⟩
    · exact h.elim
  · split at h
    · cases px with
      | tup h1 n1 k1 =>
        cases py with
        | tup h2 n2 k2 =>
          cases k2
          exact ⟨_, _, _, rfl, rfl, .inr ⟨h1.sq, h2.sq⟩, by cases k1 <;> exact post_now rs (RD.bl _) h⟩
    · exact h.elim
  · exact h.elim
theorem opEq (hu : X.A.units + 64 < cLine) : Op X g (compareOp .Eq) dEq := ⟨fun hK => ⟨_, op_eq.or ((op_eqD hu).or (op_eqE hu)), fun W R S H x y d e Q rs rx ry h => by
  unfold dEq at h
  split at h
  · rename_i a b
    cases rx
    cases ry
    refine .inl ⟨rfl, ?_⟩
    have e : decide (V.str a = V.str b) = (a == b) := by
      rw [Bool.eq_iff_iff]; simp
    rw [e]
    exact post_now rs (RD.bl _) h
  split at h
  · rename_i ex ey
    split at h
    · rename_i hs
      rw [← hK]
      exact .inr (.inl ⟨_, _, (toPy_ok rs rx ex).dp (shaped_lay hs.1), (toPy_ok rs ry ey).dp (shaped_lay hs.2), hs.1, hs.2, post_now rs (RD.bl _) h⟩)
    · rw [← hK]
      exact .inr (.inr (eqE_ok rs rx ry ex ey h))
  · exact h.elim⟩⟩
theorem opNe (hu : X.A.units + 64 < cLine) : Op X g (compareOp .NotEq) dNe := ⟨fun hK => ⟨_, op_ne.or ((op_neD hu).or (op_neE hu)), fun W R S H x y d e Q rs rx ry h => by
  unfold dNe at h
  split at h
  · rename_i a b
    cases rx
    cases ry
    refine .inl ⟨rfl, ?_⟩
    have e : decide (V.str a = V.str b) = (a == b) := by
      rw [Bool.eq_iff_iff]; simp
    rw [e]
    exact post_now rs (RD.bl _) h
  split at h
  · rename_i ex ey
    split at h
    · rename_i hs
      rw [← hK]
      exact .inr (.inl ⟨_, _, (toPy_ok rs rx ex).dp (shaped_lay hs.1), (toPy_ok rs ry ey).dp (shaped_lay hs.2), hs.1, hs.2, post_now rs (RD.bl _) h⟩)
    · rw [← hK]
      exact .inr (.inr (eqE_ok rs rx ry ex ey h))
  · exact h.elim⟩⟩
/-- is None, is not None (the right side None) -/
def isN : D → Bool
  | .py .none => true
  | _ => false
def dIs : Op2 := fun x y S => match y with
  | .py .none => .ok (dB (isN x)) S
  | _ => .bad
def dIsNot : Op2 := fun x y S => match y with
  | .py .none => .ok (dB (!isN x)) S
  | _ => .bad
theorem isN_ok {K : PySem.W.Frag} {R : RR} {H : Hp} {v : V} {d : D} (r : RD K R H v d) : decide (v = .non) = isN d := by
  cases d with
  | py d => cases r <;> simp [isN]
  | loc n => obtain ⟨a, rfl, _⟩ := r; simp [isN]
  | scr ns => obtain ⟨a, rfl, _⟩ := r; simp [isN]
theorem opIs : Op X g (compareOp .Is) dIs := ⟨fun hK => ⟨_, op_isN, fun W R S H x y d e Q rs rx ry h => by
  unfold dIs at h
  split at h
  · cases ry
    refine ⟨rfl, ?_⟩
    rw [isN_ok rx]
    exact post_now rs (RD.bl _) h
  · exact h.elim⟩⟩
theorem opIsNot : Op X g (compareOp .IsNot) dIsNot := ⟨fun hK => ⟨_, op_notN, fun W R S H x y d e Q rs rx ry h => by
  unfold dIsNot at h
  split at h
  · cases ry
    refine ⟨rfl, ?_⟩
    rw [isN_ok rx]
    exact post_now rs (RD.bl _) h
  · exact h.elim⟩⟩

/-! ### items -/
def dIx : Op2 := fun x y S => match y with
  | .py (.int i) => match x with
    | .py (.str z) => if z.length ≤ 1000000 then (match atI z.cps.toList i with | some c => .ok (dS ⟨#[c]⟩) S | none => .bad) else .bad
    | _ => match seqOf S x with
      | some (_, xs) => (match atI xs i with | some d => .ok d S | none => .bad)
      | none => .bad
  | _ => .bad
theorem atI_get {α : Type} {xs : List α} {i : Int} {d : α} (h : atI xs i = some d) : ∃ j, ixN xs.length i = some j ∧ xs[j]? = some d := by
  unfold atI at h
  cases q : ixN xs.length i with
  | none => rw [q] at h; cases h
  | some j => rw [q] at h; exact ⟨j, rfl, h⟩
theorem rds_at {K : PySem.W.Frag} {R : RR} {H : Hp} {vs : List V} {ds : List D} (r : RDs K R H vs ds) {i : Int} {d : D} (h : atI ds i = some d) : ∃ v, atI vs i = some v ∧ RD K R H v d := by
  obtain ⟨j, h1, h2⟩ := atI_get h
  obtain ⟨v, h3, h4⟩ := r.get h2
  refine ⟨v, ?_, h4⟩
  unfold atI
  rw [r.len, h1]
  exact h3
theorem de_ix {a b : Expr} {fa fb : EX} {pos : Pos} (ha : DE X g W a fa) (hb : DE X g W b fb) (hs : PlainIx b) : DE X g W (.Subscript a b pos) (xBin dIx fa fb) :=
  ⟨fun hK => (pe_ix ix_seq (ha.pe hK) (hb.pe hK) hs).imp fun σ H Q h => tbin (fun W R S H x y d e Q rs rx ry h => by
    unfold dIx at h
    split at h
    · cases ry
      split at h
      · split at h
        · split at h
          · rename_i c hc
            cases rx
            exact .inr (.inr ⟨_, _, c, rfl, rfl, Nat.le_trans (by assumption) line_ok, hc, post_now rs (RD.str _) h⟩)
          · exact h.elim
        · exact h.elim
      · split at h
        · rename_i t xs hx
          split at h
          · rename_i z hz
            obtain ⟨p, vs, rfl, r, k⟩ := seq_ok rs rx hx
            obtain ⟨v, hv, rv⟩ := rds_at r hz
            rw [hK] at k
            cases t with
            | true => exact .inr (.inl ⟨p, vs, _, v, rfl, rfl, k, hv, post_now rs rv h⟩)
            | false => exact .inl ⟨p, vs, _, v, rfl, rfl, k, hv, post_now rs rv h⟩
          · exact h.elim
        · exact h.elim
    · exact h.elim) σ H Q h⟩

/-! ### slices -/
abbrev OX := Envr → Sto → Res (Option Int)
def xNoPart : OX := fun _ S => .ok none S
def xPart (f : EX) : OX := fun env S => (f env S).bind fun d S1 => match d with
  | .py (.int i) => .ok (some i) S1
  | _ => .bad
def POp : RR → Hp → Option Int → Option Int → Prop := fun _ _ v d => v = d
def tDO (g : G) (W : WY) (f : OX) : TO := fun σ H Q => ∃ R env S, RS g R S H ∧ RE g.K R H σ env ∧ Post g (wAt W σ) R H POp (f env S) Q
structure DO (X : Cx) (g : G) (W : WY) (e : Option Expr) (f : OX) : Prop where
  po : g.K = X.K → PO X e (tDO g W f)
theorem do_none : DO X g W none xNoPart := ⟨fun hK => ⟨fun pins s σ H Q I ⟨R, env, S, rs, re, h⟩ => po_none.run pins s σ H Q I (h none H R .refl rs rfl)⟩⟩
theorem do_some {e : Expr} {f : EX} (h : DE X g W e f) : DO X g W (some e) (xPart f) := ⟨fun hK => ⟨fun pins s σ H Q I ⟨R, env, S, rs, re, q⟩ => (po_some (h.pe hK)).run pins s σ H Q I (tD_bind rs re q fun d S1 x H1 R1 s1 rs1 re1 rx h1 => by
    split at h1
    · cases rx
      exact ⟨_, rfl, h1 _ H1 R1 .refl rs1 rfl⟩
    · exact h1.elim)⟩⟩
def cutD {α : Type} (xs : List α) (lo hi : Option Int) : List α := (xs.drop (HT.sIx xs.length 0 lo)).take (HT.sIx xs.length xs.length hi - HT.sIx xs.length 0 lo)
def dSl (x : D) (lo hi : Option Int) (S : Sto) : Res D := match x with
  | .py (.tuple ds) => .ok (dT (cutD ds lo hi)) S
  | .py (.str z) => if z.length ≤ 1000000 then .ok (dS (cutS z lo hi)) S else .bad
  | _ => match seqOf S x with
    | some (false, xs) => match pys xs with
      | some ds => .ok (dL (cutD ds lo hi)) S
      | none => .bad
    | _ => .bad
def xSl (f : EX) (l h : OX) : EX := fun env S => (f env S).bind fun d S1 => (l env S1).bind fun lo S2 => (h env S2).bind fun hi S3 => dSl d lo hi S3
theorem RpAll.cut {K : PySem.W.Frag} {R : RR} {H : Hp} {vs : List V} {ds : List PyData} (h : RpAll K R H vs ds) (lo hi : Option Int) : RpAll K R H (cutV vs lo hi) (cutD ds lo hi) := by
  unfold cutV cutD
  rw [h.length]
  exact (h.drop _).take _
theorem cut_whole {vs : List V} {lo hi : Option Int} (h : HT.sIx vs.length 0 lo = 0 ∧ HT.sIx vs.length vs.length hi = vs.length) : cutV vs lo hi = vs := by
  unfold cutV
  rw [h.1, h.2]
  simp
theorem cut_wholeD {α : Type} (xs : List α) {lo hi : Option Int} (h : HT.sIx xs.length 0 lo = 0 ∧ HT.sIx xs.length xs.length hi = xs.length) : cutD xs lo hi = xs := by
  unfold cutD
  rw [h.1, h.2]
  simp
/-- t[a:b] -/
def rSlF (K : PySem.W.Frag) : V → Option Int → Option Int → Hp → VK → Prop := fun x lo hi H Q => ∃ a xs, x = .ref a ∧ SqT K H a xs ∧
  ((HT.sIx xs.length 0 lo = 0 ∧ HT.sIx xs.length xs.length hi = xs.length) → Q (.ref a) H) ∧ ∃ c, ∀ p u, H p = none → Fz c (cutV xs lo hi) u → Q (.ref p) (upd H p u)
theorem sl_tupF {X : Cx} : SlR X (rSlF X.K) := by
  rintro pins s σ H x v vl vu lo hi sl Q I rx hs pl pu ⟨a, xs, rfl, ta, q1, c, q2⟩
  by_cases w : HT.sIx xs.length 0 lo = 0 ∧ HT.sIx xs.length xs.length hi = xs.length
  · exact sl_tupA pins s σ H _ v vl vu lo hi sl Q I rx hs pl pu ⟨a, xs, rfl, ta, q1, fun z => absurd w z⟩
  · cases rx
    obtain ⟨us, r, tl, len⟩ := I.tuple ta
    have usl : us.toArray.size = xs.length := by rw [List.size_toArray, r.length]
    refine ⟨"tuple", _, PyProof.Rows.slot_tuple_getitem.lookup, tl.typeIs, HT.getItem_tuple_cut tl hs pl pu (by rw [usl]; exact w) ?_ (by rw [usl]; exact len)⟩
    rw [usl]
    exact laidT I c (xs := cutV xs lo hi) ((r.drop _).take _) (Nat.le_trans (cutV_length xs lo hi) len) q2 s.toks
theorem de_sl {e : Expr} {lo hi : Option Expr} {f : EX} {l h : OX} {p2 pos : Pos} (he : DE X g W e f) (hl : DO X g W lo l) (hh : DO X g W hi h) : DE X g W (.Subscript e (.Slice lo hi none p2) pos) (xSl f l h) :=
  ⟨fun hK => (pe_slice (sl_list.or (sl_tupF.or sl_str)) (he.pe hK) (hl.po hK) (hh.po hK)).imp fun σ H Q ⟨R, env, S, rs, re, h⟩ => tD_bind rs re h fun d S1 x H1 R1 s1 rs1 re1 rx h1 =>
    ⟨R1, env, S1, rs1, re1, h1.bind fun lo S2 lo' H2 R2 _ s2 rs2 p2 h2 => ⟨R2, env, S2, rs2, re1.step s2, h2.bind fun hi S3 hi' H3 R3 _ s3 rs3 p3 h3 => by
      have e2 : lo' = lo := p2
      have e3 : hi' = hi := p3
      subst e2 e3
      have rx := (rx.step s2).step s3
      unfold dSl at h3
      split at h3
      · cases rx with
        | tup h1 n1 k1 =>
          refine .inr (.inl ⟨_, _, rfl, h1.sq, fun z => ?_, tup_new rs3 (k1.cut _ _) h3⟩)
          rw [k1.length] at z
          rw [cut_wholeD _ z] at h3
          exact post_now rs3 (d := dT _) (Rp.tup h1 n1 k1) h3
      · split at h3
        · cases rx
          exact .inr (.inr ⟨_, rfl, Nat.le_trans (by assumption) line_ok, post_now rs3 (RD.str _) h3⟩)
        · exact h3.elim
      · split at h3
        · rename_i xs hx
          split at h3
          · rename_i ds hp
            obtain ⟨p, vs, rfl, r, k⟩ := seq_ok rs3 rx hx
            rw [hK] at k
            exact .inl ⟨p, vs, rfl, k, lst_new rs3 ((r.pys hp).cut _ _) h3⟩
          · exact h3.elim
        · exact h3.elim⟩⟩⟩
end
end DL
end
section
set_option maxRecDepth 100000
/-! set(xs) of a list of ints, any of them repeated. -/
namespace DL
open PySem PySem.Spec PyProof.Rows L2
/-- the empty set object -/
abbrev oSet (w : World) : Obj := { cls := .type "set", dict := none, data := .set #[] 0 (.fresh 0 0 (!w.params.followText "set-order")) }
section
variable {P : Program} {w : World} {A : Around} {E : Value → Shared → Prop} {s : Shared}
set_option maxHeartbeats 3200000 in
theorem set_of_list {l : Addr} {its : Array Value} (ns : List Int) {Q : Value → Shared → Prop} (hd : A.handled = none) (il : s.heap.IsList l its) (ia : IntsAre its.toList ns) (few : ns.length + 1 < scanBound)
    (fin : ∀ (g : Heap) (tk c : Nat), SetR w g s.heap.objs.size (fun j => decide (j ∈ ns)) c → c ≤ ns.length → (∀ b o, s.heap.get? b = some o → g.get? b = some o) → Q (.ref s.heap.objs.size) { s with heap := g, toks := tk }) :
    wpAny (model P w) A (call (.type "set") [.ref l]) Q E s := by
  have zsz : its.size = ns.length := by have q := IntsAre.length ia; rw [Array.length_toList] at q; exact q
  obtain ⟨c0, tl0, m0⟩ := F.called_set.mro
  have m1 := F.called_set.made
  have m2 := F.called_set.sub
  refine wpAny_call (codeAny_of_tree ?_)
  show wpAny _ _ (callAny (.type "set") _) _ _ _
  refine wpAny_pure ⟨Code.quiet_builtin _ (by decide +kernel), codeAny_builtin F.entry_type_call ?_⟩
  rw [Around.under_plain (weight_type_call_type "set" [.ref l] []) rfl]
  have m3 := F.called_set.notType
  have m4 := F.called_set.canCreate
  have m5 := F.typeCall_set_1 (.ref l)
  repeat (any_goals (first | assumption | wp_step))
  refine codeAny_mono (code_set_led1 (.ref l) (E := E) (Q₁ := fun ob t1 => ob = .ref s.heap.objs.size ∧ t1 = { s with heap := s.heap.push (oSet w) }) ⟨rfl, rfl⟩) fun r t1 hr => ?_
  cases r with
  | error e => exact hr
  | ok fl =>
    cases fl with
    | ret ob =>
      obtain ⟨rfl, rfl⟩ := hr
      have pS : (s.heap.push (oSet w)).get? s.heap.objs.size = some (oSet w) := Heap.get?_push_size _ rfl
      have pT : Shared.TypeIs { s with heap := s.heap.push (oSet w) } (.ref s.heap.objs.size) "set" := ⟨_, pS, rfl⟩
      have n1 := F.called_set.init.lookup
      have n2 := F.called_set.init.bind (.ref s.heap.objs.size)
      repeat (any_goals (first | assumption | wp_step))
      refine codeAny_mono (codeAny_call_builtin (R := wants (fun r t2 => r = .none ∧ ∃ g tk c, t2 = { s with heap := g, toks := tk } ∧ SetR w g s.heap.objs.size (fun j => decide (j ∈ ns)) c ∧ c ≤ ns.length ∧ (∀ b o, s.heap.get? b = some o → g.get? b = some o)) E)
        F.called_set.init.plain F.entry_set_init (check_set_init_1 pT ?_)) fun r2 t2 hr2 => ?_
      · obtain ⟨⟨oc, od, oda, osl⟩, hol, hc, nl, hda⟩ := il
        simp only at hc hda
        subst hc hda
        have ol2 : (s.heap.push (oSet w)).get? l = some { cls := .type "list", dict := od, data := .seq its nl, slots := osl } := Heap.get?_push_of_some _ hol
        have k1 := F.sub_list_set
        have k2 := F.sub_list_frozenset
        have k3 : (Value.type "list" == Value.type "dict") = false := by decide
        have il2 : (s.heap.push (oSet w)).IsList l its := ⟨_, ol2, rfl, nl, rfl⟩
        unfold Builtin.«set.__init__» noKeywords Builtin.Frozenset.updateFrom
        generalize hPI : pyIter = PI
        wp_walk
        subst hPI
        refine wpAny_pyIter_list il2 (wpAny_bind (wpAny_runValue ?_))
        have lS : l < s.heap.objs.size := Heap.lt_size hol
        have hd3 : A.in1.in1.in1.handled = none := by simp [hd]
        have neI : l ≠ (s.heap.push (oSet w)).objs.size := by rw [Heap.size_push]; exact Nat.ne_of_lt (Nat.lt_succ_of_lt lS)
        have ninS : s.heap.objs.size ∉ [(s.heap.push (oSet w)).objs.size, l] := by
          rw [Heap.size_push]
          simp only [List.mem_cons, List.mem_singleton, List.not_mem_nil, or_false, not_or]
          exact ⟨Nat.ne_of_lt (Nat.lt_succ_self _), Nat.ne_of_gt lS⟩
        have vals : ∀ (i : Nat) (v : Value), its[i]? = some v → ∃ k t, ns[i]? = some k ∧ v = .int k t := fun i v hv => by
          have li : i < ns.length := by rw [← zsz]; exact (Array.getElem?_eq_some_iff.mp hv).1
          obtain ⟨t, e⟩ := PyProof.Rows.IntsAre.int_at ia i v (by rw [Array.getElem?_toList]; exact hv)
          refine ⟨ns[i], t, List.getElem?_eq_getElem li, ?_⟩
          rw [e, List.getD_eq_getElem?_getD, List.getElem?_eq_getElem li] <;> rfl
        refine set_update_ints ((Walks.list hd3 _ l neI its).toS) s.heap.objs.size ninS ns zsz few vals (its.size - 0) 0 _ (by omega) (Nat.zero_le _) ⟨⟨_, Heap.get?_push_size _ rfl, rfl, rfl⟩, (il2.push _)⟩ ?hS0 ?hR
        case hS0 => exact ⟨0, Nat.le_refl 0, setR_new_at (Heap.get?_push_of_some _ pS)⟩
        case hR =>
          intro s' c' hm hc' hS'
          obtain ⟨g, g2, d', tk', os'⟩ := s'
          have eg : g2 = s.gens := hm.gens
          have ed : d' = s.drawn := hm.drawn
          have eo : os' = s.os := hm.os
          subst eg ed eo
          show wpAny _ _ _ _ _ _
          refine wpAny_pure ?_
          show wpAny _ _ (ret Value.none) _ _ _
          rw [zsz] at hc'
          refine wpAny_pure ⟨rfl, g, tk', c', rfl, hS', hc', fun b o e => ?_⟩
          have b0 : b < s.heap.objs.size := Heap.lt_size e
          refine hm.heap b o ?_ (Heap.get?_push_of_some _ (Heap.get?_push_of_some _ e))
          simp only [List.mem_cons, List.mem_singleton, List.not_mem_nil, or_false, not_or]
          exact ⟨Nat.ne_of_lt b0, by rw [Heap.size_push]; exact Nat.ne_of_lt (Nat.lt_succ_of_lt b0)⟩
      · cases r2 with
        | error e => exact hr2
        | ok f2 =>
          cases f2 with
          | ret r =>
            obtain ⟨rfl, g, tk, c, rfl, h1, h2, h3⟩ := hr2
            repeat (any_goals (first | assumption | wp_step))
            exact fin _ _ _ h1 h2 h3
          | _ => exact hr2.elim
    | _ => exact hr.elim
end
theorem ints_vals : ∀ {ns : List Int} {us : List Value}, Vals (ns.map V.int) us → IntsAre us ns
  | [], _, .nil => .nil
  | n :: ns, _, .cons ⟨t, e⟩ r => by
    subst e
    exact .cons n t (ints_vals r)
section
variable {X : Cx}
/-- set(xs), a list of fewer than 64 ints -/
def rSetL (K : PySem.W.Frag) (w : World) : List V → Hp → VK → Prop := fun vs H Q => ∃ (l : Addr) (ns : List Int), vs = [.ref l] ∧ SqL K H l (ns.map V.int) ∧ ns.length ≤ 1000 ∧
  ∀ (p : Addr) (n : Nat), H p = none → n ≤ ns.length → Q (.ref p) (upd H p (SetO w p (fun j => decide (j ∈ ns)) n))
theorem cr_setL (hc : X.calm = true) : CallR X (.type "set") (rSetL X.K X.w) := by
  intro pins s σ H vs us Q I r h
  obtain ⟨l, ns, rfl, hq, few, q⟩ := h
  obtain ⟨u, rfl, rx⟩ := vals1 r
  cases rx
  obtain ⟨its, r', pl, hz⟩ := I.list hq
  refine set_of_list ns (I.ok.hd hc) pl.isList (by simpa using ints_vals r') (by unfold scanBound; omega) fun g tk c hS hc' hk => ?_
  exact ⟨.ref s.heap.objs.size, upd H s.heap.objs.size (SetO X.w s.heap.objs.size (fun j => decide (j ∈ ns)) c), I.laid (t' := tk) hk (Nat.le_refl _) (setO_new hS), rfl, q _ c I.fresh hc'⟩
end
end DL
end
section
set_option maxRecDepth 100000
set_option maxHeartbeats 4000000
/-! DZ4: sorted and set of a tuple of ints. -/
namespace DL
open PySem PySem.Spec PyProof.Rows L2
section
variable {prog : Program} {w : World} {A : Around} {E : Value → Shared → Prop} {s : Shared}
theorem collectT {l : Addr} {vs : List Value} {Q : List Value → Shared → Prop} (tl : s.heap.IsTuple l vs.toArray) (few : vs.length ≤ sizeLine)
    (fin : Q vs { s with heap := (s.heap.push (seqObj "list" #[] 0)).update s.heap.objs.size (Obj.mapSeq (· ++ vs.toArray)) }) : wpAny (model prog w) A (collect (.ref l)) Q E s := by
  obtain ⟨o, ho, hc, n, hd⟩ := id tl
  unfold collect
  refine wpAny_bind (wpAny_runValue (codeAny_builtin entry_proto_collect' ?_))
  show wpAny _ _ (do again (.builtin "list.__iadd__" ⟨[← newList [], .ref l], []⟩)) _ _ s
  refine wpAny_bind (wpAny_newList (wpAny_pure ⟨Code.quiet_builtin _ (by decide +kernel), codeAny_builtin entry_list_iadd' ?_⟩))
  show wpAny _ _ (Builtin.List.listExtendWith (.ref s.heap.objs.size) (.ref l) (.ref s.heap.objs.size)) _ _ { s with heap := s.heap.push (seqObj "list" #[] 0) }
  unfold Builtin.List.listExtendWith
  have o2 : (s.heap.push (seqObj "list" #[] 0)).get? l = some o := Heap.get?_push_of_some _ ho
  refine wpAny_bind (wpAny_typeOf (T := "tuple") ⟨o, o2, hc⟩ ?_)
  have tt : (Value.type "tuple" == Value.type "tuple") = true := rfl
  rw [if_pos (by simp [tt])]
  refine wpAny_bind (listItems_at o2 hd ?_)
  refine wpAny_bind (listItems_at (xs := #[]) (n := 0) (Heap.get?_push_size _ rfl) rfl ?_)
  rw [if_neg (by simp)]
  refine wpAny_bind (listUpdate_at (xs := #[]) (n := 0) (Heap.get?_push_size _ rfl) rfl ?_ (Nat.zero_le _) (by show (#[] ++ vs.toArray).size ≤ sizeLine + 1; simp only [Array.size_append, List.size_toArray, List.length_nil]; omega))
  refine wpAny_pure ?_
  show wpAny (model prog w) A (do
      let o ← load s.heap.objs.size
      match o.data with
      | .seq xs _ => pure xs.toList
      | _ => unsupported "internal:collect") Q E { s with heap := (s.heap.push (seqObj "list" #[] 0)).update s.heap.objs.size (Obj.mapSeq (· ++ vs.toArray)) }
  refine wpAny_bind (wpAny_load (get?_update_seq (Heap.get?_push_size _ rfl) _) ?_)
  show wpAny _ _ (pure ((#[] : Array Value) ++ vs.toArray).toList) Q E _
  have e : ((#[] : Array Value) ++ vs.toArray).toList = vs := by simp
  rw [e]
  exact wpAny_pure fin
theorem sortedT {l : Addr} {vs : List Value} {lt : Value → Value → Bool} {Q : Value → Shared → Prop} (O : SrtO.Swo lt) (tl : s.heap.IsTuple l vs.toArray) (few : vs.length ≤ sizeLine)
    (can : 2 ≤ vs.length → ∀ (g : Heap) (a : Addr), g.get? a = some (seqObj "list" vs.toArray 0) → SrtO.SortableO prog w A.in1.in1 { s with heap := g } a vs lt)
    (fin : ∀ out : List Value, SrtO.Srtd lt out → SrtO.Stb lt out vs → Q (.ref (s.heap.objs.size + 1)) { s with heap := sortedAll s.heap vs out.toArray }) : wpAny (model prog w) A (call (.builtin "sorted") [.ref l]) Q E s := by
  refine Calls.call_function_entry kind_sorted plain_sorted entry_sorted (args_sorted1 _) ?_
  unfold Builtin.«sorted»
  refine wpAny_bind (m := checkCount "sorted" 1 1 _) (wpAny_pure ?_)
  refine wpAny_bind (collectT tl few ?_)
  refine wpAny_bind (wpAny_newList ?_ few)
  have sz : ((s.heap.push (seqObj "list" #[] 0)).update s.heap.objs.size (Obj.mapSeq (· ++ vs.toArray))).objs.size = s.heap.objs.size + 1 := by rw [Heap.size_update, size_push']
  have ol : (((s.heap.push (seqObj "list" #[] 0)).update s.heap.objs.size (Obj.mapSeq (· ++ vs.toArray))).push (seqObj "list" vs.toArray 0)).get? (s.heap.objs.size + 1) = some (seqObj "list" vs.toArray 0) := by
    rw [← sz]
    exact Heap.get?_push_size _ rfl
  show wpAny _ _ _ _ _ { s with heap := ((s.heap.push (seqObj "list" #[] 0)).update s.heap.objs.size (Obj.mapSeq (· ++ vs.toArray))).push (seqObj "list" vs.toArray 0) }
  rw [sz]
  exact wpAny_bind (wpAny_holding (wpAny_call_entry slot_list_sort ⟨_, ol, rfl⟩ entry_list_sort (SrtO.list_sort_ord O ol few (fun h2 => can h2 _ _ ol) fun out a b => ⟨_, rfl, wpAny_pure ⟨_, rfl, fin out a b⟩⟩) (args_list_sort _)))
end
section
variable {X : Cx}
/-- sorted(t), a tuple of ints -/
def rSortedIT (K : PySem.W.Frag) : List V → Hp → VK → Prop := fun vs H Q => ∃ (a : Addr) (ns : List Int), vs = [V.ref a] ∧ SqT K H a (ns.map V.int) ∧ ns.length ≤ 1000000 ∧
  ∀ (ns' : List Int) (p : Addr), ns'.Perm ns → ns'.Pairwise (· ≤ ·) → H p = none → Q (.ref p) (upd H p (.lst (ns'.map V.int)))
theorem cr_sortedIT : CallR X (.builtin "sorted") (rSortedIT X.K) := by
  intro pins s σ H vs us Q I r h
  obtain ⟨a, ns, rfl, hs, hl, q⟩ := h
  obtain ⟨its, rv, tl, _⟩ := I.tuple hs
  rw [Vals.ref1 r]
  have hi := rv.ints
  have hz : its.length ≤ sizeLine := by rw [← rv.length, List.length_map]; have := sizeLine_eq; omega
  refine sortedT SrtO.swo_int tl hz (fun h2 g a' _ => SrtO.ints_sortable hi h2) fun out h1 h2 => ?_
  obtain ⟨k1, k2, k3⟩ := SrtO.ints_out hi h1 h2
  obtain ⟨ep, he⟩ := PyProof.Rows.sortedAll_at s.heap its out.toArray
  have hlen : ((out.map SrtO.iv).map V.int).length ≤ sizeLine := by rw [List.length_map, k2.length_eq]; have := sizeLine_eq; omega
  exact ⟨.ref _, upd H (s.heap.objs.size + 1) (.lst ((out.map SrtO.iv).map V.int)), I.laid (t' := s.toks) (fun _ _ => PyProof.Rows.sortedAll_old) (Nat.le_succ _) ⟨hlen, out, ep, vals_of_ints k1, he⟩, rfl, q _ _ k2 k3 (I.hok.fresh (Nat.le_succ _))⟩
/-- set(t), a tuple of ints -/
def rSetT (K : PySem.W.Frag) (w : World) : List V → Hp → VK → Prop := fun vs H Q => ∃ (l : Addr) (ns : List Int), vs = [.ref l] ∧ SqT K H l (ns.map V.int) ∧ ns.length ≤ 1000 ∧
  ∀ (p : Addr) (n : Nat), H p = none → n ≤ ns.length → Q (.ref p) (upd H p (SetO w p (fun j => decide (j ∈ ns)) n))
theorem cr_setT (hc : X.calm = true) : CallR X (.type "set") (rSetT X.K X.w) := by
  intro pins s σ H vs us Q I r h
  obtain ⟨l, ns, rfl, hq, few, q⟩ := h
  obtain ⟨u, rfl, rx⟩ := vals1 r
  cases rx
  obtain ⟨its, r', tl, _⟩ := I.tuple hq
  refine call_set_tupI ns (I.ok.hd hc) tl (by simpa using ints_vals r') (by unfold scanBound; omega) fun g tk c hS hc' hk => ?_
  exact ⟨.ref s.heap.objs.size, upd H s.heap.objs.size (SetO X.w s.heap.objs.size (fun j => decide (j ∈ ns)) c), I.laid (t' := tk) hk (Nat.le_refl _) (setO_new hS), rfl, q _ c I.fresh hc'⟩
end
end DL
end
section
set_option maxRecDepth 100000
set_option maxHeartbeats 1000000
/-! DL3: built-in functions. -/
namespace DL
open PySem PySem.Spec PyProof.Rows L2

/-- all ints -/
def intsD : List D → Option (List Int)
  | [] => some []
  | .py (.int i) :: r => (intsD r).map (i :: ·)
  | _ :: _ => none
@[simp] theorem intsD_nil : intsD [] = some [] := rfl
@[simp] theorem intsD_cons (i : Int) (r : List D) : intsD (.py (.int i) :: r) = (intsD r).map (i :: ·) := rfl
@[simp] theorem intsD_map : ∀ ns : List Int, intsD (ns.map fun i => D.py (.int i)) = some ns
  | [] => rfl
  | n :: ns => by simp [intsD_map ns]
@[simp] theorem intsD_map2 : ∀ ns : List Int, intsD ((ns.map PyData.int).map D.py) = some ns
  | [] => rfl
  | n :: ns => by
    show intsD (.py (.int n) :: (ns.map PyData.int).map D.py) = _
    rw [intsD_cons, intsD_map2 ns]; rfl
theorem intsD_ok {K : PySem.W.Frag} {R : RR} {H : Hp} : ∀ {vs : List V} {ds : List D} {ns : List Int}, RDs K R H vs ds → intsD ds = some ns → vs = ns.map V.int
  | _, _, _, .nil, e => by cases e; rfl
  | _, .py (.int i) :: ds, ns, .cons h t, e => by
    rw [intsD_cons] at e
    cases q : intsD ds with
    | none => rw [q] at e; cases e
    | some r =>
      rw [q] at e; cases e
      cases h
      rw [intsD_ok t q]; rfl
  | _, .py .none :: _, _, .cons _ _, e => by cases e
  | _, .py (.bool _) :: _, _, .cons _ _, e => by cases e
  | _, .py (.str _) :: _, _, .cons _ _, e => by cases e
  | _, .py (.list _) :: _, _, .cons _ _, e => by cases e
  | _, .py (.tuple _) :: _, _, .cons _ _, e => by cases e
  | _, .py (.dict _) :: _, _, .cons _ _, e => by cases e
  | _, .loc _ :: _, _, .cons _ _, e => by cases e
  | _, .scr _ :: _, _, .cons _ _, e => by cases e
def boolsD : List D → Option (List Bool)
  | [] => some []
  | .py (.bool i) :: r => (boolsD r).map (i :: ·)
  | _ :: _ => none
@[simp] theorem boolsD_nil : boolsD [] = some [] := rfl
@[simp] theorem boolsD_cons (i : Bool) (r : List D) : boolsD (.py (.bool i) :: r) = (boolsD r).map (i :: ·) := rfl
@[simp] theorem boolsD_map2 : ∀ ns : List Bool, boolsD ((ns.map PyData.bool).map D.py) = some ns
  | [] => rfl
  | n :: ns => by
    show boolsD (.py (.bool n) :: (ns.map PyData.bool).map D.py) = _
    rw [boolsD_cons, boolsD_map2 ns]; rfl
theorem boolsD_ok {K : PySem.W.Frag} {R : RR} {H : Hp} : ∀ {vs : List V} {ds : List D} {ns : List Bool}, RDs K R H vs ds → boolsD ds = some ns → vs = ns.map V.bl
  | _, _, _, .nil, e => by cases e; rfl
  | _, .py (.bool i) :: ds, ns, .cons h t, e => by
    rw [boolsD_cons] at e
    cases q : boolsD ds with
    | none => rw [q] at e; cases e
    | some r =>
      rw [q] at e; cases e
      cases h
      rw [boolsD_ok t q]; rfl
  | _, .py .none :: _, _, .cons _ _, e => by cases e
  | _, .py (.int _) :: _, _, .cons _ _, e => by cases e
  | _, .py (.str _) :: _, _, .cons _ _, e => by cases e
  | _, .py (.list _) :: _, _, .cons _ _, e => by cases e
  | _, .py (.tuple _) :: _, _, .cons _ _, e => by cases e
  | _, .py (.dict _) :: _, _, .cons _ _, e => by cases e
  | _, .loc _ :: _, _, .cons _ _, e => by cases e
  | _, .scr _ :: _, _, .cons _ _, e => by cases e

/-! ### calls of built-ins -/
/-- a built-in, as a function on values -/
structure CB (X : Cx) (g : G) (fv : Value) (o : FX) : Prop where
  run : g.K = X.K → ∃ r : List V → Hp → VK → Prop, CallR X fv r ∧ ∀ (W : XK) R S H vs ds Q, RS g R S H → RDs g.K R H vs ds → Post g W R H (PV g) (o ds S) Q → r vs H Q
def xCB (o : FX) (k : AX) : EX := fun env S => (k env S).bind fun ds S1 => o ds S1
section
variable {X : Cx} {g : G} {W : WY} {o : FX} {k : AX} {x : Str} {e : Expr} {es : List Expr} {p pos : Pos} {bid T : String}
theorem tcb {r : List V → Hp → VK → Prop} (h : ∀ (W : XK) R S H vs ds Q, RS g R S H → RDs g.K R H vs ds → Post g W R H (PV g) (o ds S) Q → r vs H Q) (σ : L2.St) (H : Hp) (Q : VK) (q : tD g W (xCB o k) σ H Q) : tCB r (tDA g W k) σ H Q := by
  obtain ⟨R, env, S, rs, re, q⟩ := q
  exact tDA_bind rs re q fun ds S1 vs H1 R1 s1 rs1 re1 rv q1 => h _ R1 S1 H1 vs ds Q rs1 rv q1
theorem de_callB (hc : CB X g (.builtin bid) o) (hg : Gl X x) (hm : X.mg x = none) (hv : bootBuiltins x = some (.builtin bid)) (ha : DA X g W (e :: es) k) (hn : x ≠ "__name__" := by decide) (hdb : (x == ("__debug__" : Str)) = false := by decide)
    (he : starEach (e :: es) X.env = (false, eval e X.env) :: starEach es X.env := by rfl) (hpl : (backTo pos (starEach es X.env)).any (·.1) = false := by rfl) : DE X g W (.Call (.Name x p) (e :: es) [] pos) (xCB o k) :=
  ⟨fun hK => by
    obtain ⟨r, hr, h⟩ := hc.run hK
    exact (pe_callB hr hg hm hv (ha.pa hK) hn hdb he hpl).imp (tcb h)⟩
theorem de_callTy (hc : CB X g (.type T) o) (hg : Gl X x) (hm : X.mg x = none) (hv : bootBuiltins x = some (.type T)) (ha : DA X g W (e :: es) k) (hn : x ≠ "__name__" := by decide) (hdb : (x == ("__debug__" : Str)) = false := by decide)
    (he : starEach (e :: es) X.env = (false, eval e X.env) :: starEach es X.env := by rfl) (hpl : (backTo pos (starEach es X.env)).any (·.1) = false := by rfl) : DE X g W (.Call (.Name x p) (e :: es) [] pos) (xCB o k) :=
  ⟨fun hK => by
    obtain ⟨r, hr, h⟩ := hc.run hK
    exact (pe_callTy hr hg hm hv (ha.pa hK) hn hdb he hpl).imp (tcb h)⟩
theorem rds1 {K : PySem.W.Frag} {R : RR} {H : Hp} {vs : List V} {d : D} (r : RDs K R H vs [d]) : ∃ v, vs = [v] ∧ RD K R H v d := by
  cases r with
  | cons h t => cases t; exact ⟨_, rfl, h⟩
theorem rds2 {K : PySem.W.Frag} {R : RR} {H : Hp} {vs : List V} {d e : D} (r : RDs K R H vs [d, e]) : ∃ v w, vs = [v, w] ∧ RD K R H v d ∧ RD K R H w e := by
  cases r with
  | cons h t =>
    obtain ⟨w, rfl, h2⟩ := rds1 t
    exact ⟨_, w, rfl, h, h2⟩

def fLen : FX := fun ds S => match ds with
  | [.py (.str z)] => if z.length ≤ 1000000 then .ok (dI z.length) S else .bad
  | [d] => (match seqOf S d with | some (_, xs) => .ok (dI xs.length) S | none => .bad)
  | _ => .bad
theorem cbLen : CB X g (.builtin "len") fLen := ⟨fun hK => ⟨_, fun pins s σ H vs us Q I r h => (h : (∃ p ys, vs = [.ref p] ∧ (SqL X.K H p ys ∨ SqT X.K H p ys) ∧ Q (.int ys.length) H) ∨ (∃ z, vs = [.str z] ∧ z.length ≤ sizeLine ∧ Q (.int z.length) H)).elim
    (fun h => call_len_seq pins s σ H vs us Q I r h) (fun h => call_len_str pins s σ H vs us Q I r h), fun W R S H vs ds Q rs rv h => by
  unfold fLen at h
  split at h
  · split at h
    · obtain ⟨v, rfl, r⟩ := rds1 rv
      cases r
      exact .inr ⟨_, rfl, Nat.le_trans (by assumption) line_ok, post_now rs (RD.int _) h⟩
    · exact h.elim
  · split at h
    · rename_i t xs hx
      obtain ⟨v, rfl, r⟩ := rds1 rv
      obtain ⟨a, ws, rfl, rw', k⟩ := seq_ok rs r hx
      rw [hK] at k
      refine .inl ⟨a, ws, rfl, ?_, ?_⟩
      · cases t with
        | true => exact .inr k
        | false => exact .inl k
      · rw [rw'.len]
        exact post_now rs (RD.int _) h
    · exact h.elim
  · exact h.elim⟩⟩
def fAbs : FX := fun ds S => match ds with
  | [.py (.int i)] => .ok (dI (if i < 0 then -i else i)) S
  | _ => .bad
theorem cbAbs : CB X g (.builtin "abs") fAbs := ⟨fun hK => ⟨_, call_abs, fun W R S H vs ds Q rs rv h => by
  unfold fAbs at h
  split at h
  · obtain ⟨v, rfl, r⟩ := rds1 rv
    cases r
    exact ⟨_, rfl, post_now rs (RD.int _) h⟩
  · exact h.elim⟩⟩
def fMax2 : FX := fun ds S => match ds with
  | [.py (.int i), .py (.int j)] => .ok (dI (if j > i then j else i)) S
  | _ => .bad
def fMin2 : FX := fun ds S => match ds with
  | [.py (.int i), .py (.int j)] => .ok (dI (if j < i then j else i)) S
  | _ => .bad
theorem cbMax2 (hc : X.calm = true) : CB X g (.builtin "max") fMax2 := ⟨fun hK => ⟨_, call_max2 hc, fun W R S H vs ds Q rs rv h => by
  unfold fMax2 at h
  split at h
  · obtain ⟨v, w, rfl, r, r'⟩ := rds2 rv
    cases r
    cases r'
    exact ⟨_, _, rfl, post_now rs (RD.int _) h⟩
  · exact h.elim⟩⟩
theorem cbMin2 (hc : X.calm = true) : CB X g (.builtin "min") fMin2 := ⟨fun hK => ⟨_, call_min2 hc, fun W R S H vs ds Q rs rv h => by
  unfold fMin2 at h
  split at h
  · obtain ⟨v, w, rfl, r, r'⟩ := rds2 rv
    cases r
    cases r'
    exact ⟨_, _, rfl, post_now rs (RD.int _) h⟩
  · exact h.elim⟩⟩
/-- a list of ints as the one argument -/
def intL (S : Sto) : List D → Option (List Int)
  | [d] => (match seqOf S d with | some (false, xs) => intsD xs | _ => none)
  | _ => none
theorem intL_ok {R : RR} {S : Sto} {H : Hp} {vs : List V} {ds : List D} {ns : List Int} (hK : g.K = X.K) (rs : RS g R S H) (rv : RDs g.K R H vs ds) (h : intL S ds = some ns) : ∃ a, vs = [.ref a] ∧ SqL X.K H a (ns.map V.int) := by
  unfold intL at h
  split at h
  · split at h
    · rename_i xs hx
      obtain ⟨v, rfl, r⟩ := rds1 rv
      obtain ⟨a, ws, rfl, rw', k⟩ := seq_ok rs r hx
      rw [hK, intsD_ok rw' h] at k
      exact ⟨a, rfl, k⟩
    · cases h
  · cases h
def fSum : FX := fun ds S => match intL S ds with
  | some ns => .ok (dI ns.sum) S
  | none => .bad
theorem cbSum (hc : X.calm = true) : CB X g (.builtin "sum") fSum := ⟨fun hK => ⟨_, cr_sum hc, fun W R S H vs ds Q rs rv h => by
  unfold fSum at h
  split at h
  · rename_i ns hn
    obtain ⟨a, rfl, k⟩ := intL_ok hK rs rv hn
    exact ⟨a, ns, rfl, k, post_now rs (RD.int _) h⟩
  · exact h.elim⟩⟩
def maxI : List Int → Int
  | [] => 0
  | x :: r => r.foldl (fun a b => if b > a then b else a) x
def minI : List Int → Int
  | [] => 0
  | x :: r => r.foldl (fun a b => if b < a then b else a) x
theorem foldmax : ∀ (r : List Int) (x : Int), (r.foldl (fun a b => if b > a then b else a) x = x ∨ r.foldl (fun a b => if b > a then b else a) x ∈ r) ∧ x ≤ r.foldl (fun a b => if b > a then b else a) x ∧ ∀ y ∈ r, y ≤ r.foldl (fun a b => if b > a then b else a) x
  | [], x => by simp
  | z :: r, x => by
    obtain ⟨h1, h2, h3⟩ := foldmax r (if z > x then z else x)
    rw [List.foldl_cons]
    refine ⟨?_, ?_, ?_⟩
    · rcases h1 with h1 | h1
      · by_cases c : z > x
        · rw [if_pos c] at h1 ⊢; right; rw [h1]; simp
        · rw [if_neg c] at h1 ⊢; left; exact h1
      · right; exact List.mem_cons_of_mem _ h1
    · refine Int.le_trans ?_ h2
      split <;> omega
    · intro y hy
      rcases List.mem_cons.mp hy with rfl | hy
      · refine Int.le_trans ?_ h2
        split <;> omega
      · exact h3 y hy
theorem foldmin : ∀ (r : List Int) (x : Int), (r.foldl (fun a b => if b < a then b else a) x = x ∨ r.foldl (fun a b => if b < a then b else a) x ∈ r) ∧ r.foldl (fun a b => if b < a then b else a) x ≤ x ∧ ∀ y ∈ r, r.foldl (fun a b => if b < a then b else a) x ≤ y
  | [], x => by simp
  | z :: r, x => by
    obtain ⟨h1, h2, h3⟩ := foldmin r (if z < x then z else x)
    rw [List.foldl_cons]
    refine ⟨?_, ?_, ?_⟩
    · rcases h1 with h1 | h1
      · by_cases c : z < x
        · rw [if_pos c] at h1 ⊢; right; rw [h1]; simp
        · rw [if_neg c] at h1 ⊢; left; exact h1
      · right; exact List.mem_cons_of_mem _ h1
    · refine Int.le_trans h2 ?_
      split <;> omega
    · intro y hy
      rcases List.mem_cons.mp hy with rfl | hy
      · refine Int.le_trans h2 ?_
        split <;> omega
      · exact h3 y hy
theorem maxI_spec {ns : List Int} (h : ns ≠ []) : maxI ns ∈ ns ∧ ∀ y ∈ ns, y ≤ maxI ns := by
  cases ns with
  | nil => exact absurd rfl h
  | cons x r =>
    obtain ⟨h1, h2, h3⟩ := foldmax r x
    refine ⟨?_, fun y hy => ?_⟩
    · rcases h1 with h1 | h1
      · exact List.mem_cons.mpr (.inl h1)
      · exact List.mem_cons_of_mem _ h1
    · rcases List.mem_cons.mp hy with rfl | hy
      · exact h2
      · exact h3 y hy
theorem minI_spec {ns : List Int} (h : ns ≠ []) : minI ns ∈ ns ∧ ∀ y ∈ ns, minI ns ≤ y := by
  cases ns with
  | nil => exact absurd rfl h
  | cons x r =>
    obtain ⟨h1, h2, h3⟩ := foldmin r x
    refine ⟨?_, fun y hy => ?_⟩
    · rcases h1 with h1 | h1
      · exact List.mem_cons.mpr (.inl h1)
      · exact List.mem_cons_of_mem _ h1
    · rcases List.mem_cons.mp hy with rfl | hy
      · exact h2
      · exact h3 y hy
def fMaxI : FX := fun ds S => match intL S ds with
  | some ns => if ns ≠ [] then .ok (dI (maxI ns)) S else .bad
  | none => .bad
def fMinI : FX := fun ds S => match intL S ds with
  | some ns => if ns ≠ [] then .ok (dI (minI ns)) S else .bad
  | none => .bad
theorem cbMaxI (hc : X.calm = true) : CB X g (.builtin "max") fMaxI := ⟨fun hK => ⟨_, cr_max hc, fun W R S H vs ds Q rs rv h => by
  unfold fMaxI at h
  split at h
  · rename_i ns hn
    split at h
    · rename_i ne
      obtain ⟨a, rfl, k⟩ := intL_ok hK rs rv hn
      refine ⟨a, ns, rfl, k, List.length_pos_iff.mpr ne, fun m hm hy => ?_⟩
      have q := maxI_spec ne
      have e : m = maxI ns := Int.le_antisymm (q.2 m hm) (hy _ q.1)
      rw [e]
      exact post_now rs (RD.int _) h
    · exact h.elim
  · exact h.elim⟩⟩
theorem cbMinI (hc : X.calm = true) : CB X g (.builtin "min") fMinI := ⟨fun hK => ⟨_, cr_min hc, fun W R S H vs ds Q rs rv h => by
  unfold fMinI at h
  split at h
  · rename_i ns hn
    split at h
    · rename_i ne
      obtain ⟨a, rfl, k⟩ := intL_ok hK rs rv hn
      refine ⟨a, ns, rfl, k, List.length_pos_iff.mpr ne, fun m hm hy => ?_⟩
      have q := minI_spec ne
      have e : m = minI ns := Int.le_antisymm (hy _ q.1) (q.2 m hm)
      rw [e]
      exact post_now rs (RD.int _) h
    · exact h.elim
  · exact h.elim⟩⟩
/-- ascending -/
def sortI (ns : List Int) : List Int := ns.mergeSort fun a b => decide (a ≤ b)
theorem sortI_perm (ns : List Int) : (sortI ns).Perm ns := List.mergeSort_perm _ _
theorem sortI_pw (ns : List Int) : (sortI ns).Pairwise (· ≤ ·) := by
  have h := List.pairwise_mergeSort (le := fun a b : Int => decide (a ≤ b)) (fun a b c h1 h2 => by simp only [decide_eq_true_eq] at *; omega) (fun a b => by simp only [Bool.or_eq_true, decide_eq_true_eq]; omega) ns
  exact h.imp fun h => by simpa using h
theorem sortI_eq {ns ms : List Int} (h1 : ms.Perm ns) (h2 : ms.Pairwise (· ≤ ·)) : ms = sortI ns :=
  (h1.trans (sortI_perm ns).symm).eq_of_pairwise (fun _ _ _ _ h1 h2 => Int.le_antisymm h1 h2) h2 (sortI_pw ns)
/-- a tuple of ints as the one argument -/
def intT (S : Sto) : List D → Option (List Int)
  | [d] => (match seqOf S d with | some (true, xs) => intsD xs | _ => none)
  | _ => none
theorem intT_ok {R : RR} {S : Sto} {H : Hp} {vs : List V} {ds : List D} {ns : List Int} (hK : g.K = X.K) (rs : RS g R S H) (rv : RDs g.K R H vs ds) (h : intT S ds = some ns) : ∃ a, vs = [.ref a] ∧ SqT X.K H a (ns.map V.int) := by
  unfold intT at h
  split at h
  · split at h
    · rename_i xs hx
      obtain ⟨v, rfl, r⟩ := rds1 rv
      obtain ⟨a, ws, rfl, rw', k⟩ := seq_ok rs r hx
      rw [hK, intsD_ok rw' h] at k
      exact ⟨a, rfl, k⟩
    · cases h
  · cases h
def fSort : FX := fun ds S => match intL S ds with
  | some ns => .ok (dL ((sortI ns).map .int)) S
  | none => match intT S ds with
    | some ns => if ns.length ≤ 1000000 then .ok (dL ((sortI ns).map .int)) S else .bad
    | none => .bad
theorem cbSort : CB X g (.builtin "sorted") fSort := ⟨fun hK => ⟨_, cr_sortedI.or cr_sortedIT, fun W R S H vs ds Q rs rv h => by
  unfold fSort at h
  split at h
  · rename_i ns hn
    obtain ⟨a, rfl, k⟩ := intL_ok hK rs rv hn
    refine .inl ⟨a, ns, rfl, k, fun ns' p h1 h2 hp => ?_⟩
    rw [sortI_eq h1 h2]
    exact lst_new rs (RpAll.ints _) h p hp
  · split at h
    · rename_i ns hn
      split at h
      · rename_i few
        obtain ⟨a, rfl, k⟩ := intT_ok hK rs rv hn
        refine .inr ⟨a, ns, rfl, k, few, fun ns' p h1 h2 hp => ?_⟩
        rw [sortI_eq h1 h2]
        exact lst_new rs (RpAll.ints _) h p hp
      · exact h.elim
    · exact h.elim⟩⟩
def fAll : FX := fun ds S => match ds with
  | [d] => (match seqOf S d with
    | some (false, xs) => (match boolsD xs with | some bs => .ok (dB (bs.all id)) S | none => .bad)
    | _ => .bad)
  | _ => .bad
theorem cbAll (hc : X.calm = true) : CB X g (.builtin "all") fAll := ⟨fun hK => ⟨_, cr_all hc, fun W R S H vs ds Q rs rv h => by
  unfold fAll at h
  split at h
  · split at h
    · rename_i xs hx
      split at h
      · rename_i bs hb
        obtain ⟨v, rfl, r⟩ := rds1 rv
        obtain ⟨a, ws, rfl, rw', k⟩ := seq_ok rs r hx
        rw [hK, boolsD_ok rw' hb] at k
        exact ⟨a, bs, rfl, k, post_now rs (RD.bl _) h⟩
      · exact h.elim
    · exact h.elim
  · exact h.elim⟩⟩
def fInt : FX := fun ds S => match ds with
  | [.py (.int i)] => .ok (dI i) S
  | [.py (.bool b)] => .ok (dI (if b = true then 1 else 0)) S
  | _ => .bad
theorem cbInt : CB X g (.type "int") fInt := ⟨fun hK => ⟨_, call_int1, fun W R S H vs ds Q rs rv h => by
  unfold fInt at h
  split at h
  · obtain ⟨v, rfl, r⟩ := rds1 rv
    cases r
    exact .inl ⟨_, rfl, post_now rs (RD.int _) h⟩
  · obtain ⟨v, rfl, r⟩ := rds1 rv
    cases r
    exact .inr ⟨_, rfl, post_now rs (RD.int _) h⟩
  · exact h.elim⟩⟩
def fStr : FX := fun ds S => match ds with
  | [.py (.int i)] => if i.natAbs.log2 < 1920 then .ok (dS (toString i)) S else .bad
  | _ => .bad
theorem cbStr : CB X g (.type "str") fStr := ⟨fun hK => ⟨_, call_str_int, fun W R S H vs ds Q rs rv h => by
  unfold fStr at h
  split at h
  · split at h
    · obtain ⟨v, rfl, r⟩ := rds1 rv
      cases r
      exact ⟨_, rfl, by assumption, post_now rs (RD.str _) h⟩
    · exact h.elim
  · exact h.elim⟩⟩
/-- tuple(x), list(x): by value; list(x) as a mutable one -/
def fTuple : FX := fun ds S => match ds with
  | [.py (.tuple es)] => .ok (dT es) S
  | [d] => (match seqOf S d with
    | some (false, xs) => (match pys xs with | some es => .ok (dT es) S | none => .bad)
    | _ => .bad)
  | _ => .bad
theorem call_tupleF : CallR X (.type "tuple") (fun xs H Q => ∃ l zs, xs = [.ref l] ∧ ((SqL X.K H l zs ∧ ∃ c, ∀ p u, H p = none → Fz c zs u → Q (.ref p) (upd H p u)) ∨ (SqT X.K H l zs ∧ Q (.ref l) H))) := by
  rintro pins s σ H xs us Q I r ⟨l, zs, rfl, h⟩
  obtain ⟨u, rfl, ru⟩ := vals1 r
  cases ru
  rcases h with ⟨sl, c, q⟩ | ⟨st, q⟩
  · obtain ⟨ws, rz, pl, len⟩ := I.list sl
    have zl := rz.length
    refine call_tuple_list pl.isList (fun h' kp => ?_) (by simp only [List.size_toArray] <;> omega)
    have I1 : Inv X pins σ H { s with heap := h' } := I.kept (t' := s.toks) kp
    exact laidT I1 c rz len q s.toks
  · obtain ⟨ws, _, pl, _⟩ := I.tuple st
    exact call_tuple_same pl ⟨.ref l, H, I, rfl, q⟩
theorem cbTuple : CB X g (.type "tuple") fTuple := ⟨fun hK => ⟨_, call_tupleF, fun W R S H vs ds Q rs rv h => by
  unfold fTuple at h
  split at h
  · obtain ⟨v, rfl, r⟩ := rds1 rv
    cases r with
    | tup h1 n1 k1 => exact ⟨_, _, rfl, .inr ⟨h1.sq, post_now rs (d := dT _) (Rp.tup h1 n1 k1) h⟩⟩
  · split at h
    · rename_i xs hx
      split at h
      · rename_i es he
        obtain ⟨v, rfl, r⟩ := rds1 rv
        obtain ⟨a, ws, rfl, rw', k⟩ := seq_ok rs r hx
        rw [hK] at k
        exact ⟨a, ws, rfl, .inl ⟨k, tup_new rs (rw'.pys he) h⟩⟩
      · exact h.elim
    · exact h.elim
  · exact h.elim⟩⟩
def fList : FX := fun ds S => match ds with
  | [d] => (match seqOf S d with
    | some (_, xs) => (match pys xs with | some es => .ok (dL es) S | none => .bad)
    | _ => .bad)
  | _ => .bad
def fListM : FX := fun ds S => match ds with
  | [d] => (match seqOf S d with
    | some (_, xs) => if xs.length ≤ 1000000 then .ok (.loc S.length) (S ++ [.lst xs]) else .bad
    | _ => .bad)
  | _ => .bad
theorem cbList : CB X g (.type "list") fList := ⟨fun hK => ⟨_, call_list_of, fun W R S H vs ds Q rs rv h => by
  unfold fList at h
  split at h
  · split at h
    · rename_i t xs hx
      split at h
      · rename_i es he
        obtain ⟨v, rfl, r⟩ := rds1 rv
        obtain ⟨a, ws, rfl, rw', k⟩ := seq_ok rs r hx
        rw [hK] at k
        refine ⟨a, ws, rfl, ?_, lst_new rs (rw'.pys he) h⟩
        cases t with
        | true => exact .inr k
        | false => exact .inl k
      · exact h.elim
    · exact h.elim
  · exact h.elim⟩⟩
theorem cbListM : CB X g (.type "list") fListM := ⟨fun hK => ⟨_, call_list_of, fun W R S H vs ds Q rs rv h => by
  unfold fListM at h
  split at h
  · split at h
    · rename_i t xs hx
      split at h
      · obtain ⟨v, rfl, r⟩ := rds1 rv
        obtain ⟨a, ws, rfl, rw', k⟩ := seq_ok rs r hx
        rw [hK] at k
        refine ⟨a, ws, rfl, ?_, loc_new rs rw' (Nat.le_trans (by assumption) line_ok) h⟩
        cases t with
        | true => exact .inr k
        | false => exact .inl k
      · exact h.elim
    · exact h.elim
  · exact h.elim⟩⟩

/-! ### sorted(set(xs)) -/
/-- ascending, each once -/
def insU (x : Int) : List Int → List Int
  | [] => [x]
  | y :: r => if x < y then x :: y :: r else if x = y then y :: r else y :: insU x r
def asc (ns : List Int) : List Int := ns.foldr insU []
theorem insU_mem (x z : Int) : ∀ l : List Int, z ∈ insU x l ↔ z = x ∨ z ∈ l
  | [] => by simp [insU]
  | y :: r => by
    unfold insU
    split
    · simp
    · split
      · rename_i e; subst e; simp
      · rw [List.mem_cons, insU_mem x z r, List.mem_cons]
        constructor
        · rintro (h | h | h)
          · exact .inr (.inl h)
          · exact .inl h
          · exact .inr (.inr h)
        · rintro (h | h | h)
          · exact .inr (.inl h)
          · exact .inl h
          · exact .inr (.inr h)
theorem insU_pw (x : Int) : ∀ l : List Int, l.Pairwise (· < ·) → (insU x l).Pairwise (· < ·)
  | [], _ => by simp [insU]
  | y :: r, h => by
    obtain ⟨h1, h2⟩ := List.pairwise_cons.mp h
    unfold insU
    split
    · rename_i c
      refine List.pairwise_cons.mpr ⟨fun z hz => ?_, h⟩
      rcases List.mem_cons.mp hz with rfl | hz
      · exact c
      · exact Int.lt_trans c (h1 z hz)
    · split
      · exact h
      · refine List.pairwise_cons.mpr ⟨fun z hz => ?_, insU_pw x r h2⟩
        rcases (insU_mem x z r).mp hz with rfl | hz
        · omega
        · exact h1 z hz
theorem asc_mem (ns : List Int) (z : Int) : z ∈ asc ns ↔ z ∈ ns := by
  unfold asc
  induction ns with
  | nil => simp
  | cons x r ih => rw [List.foldr_cons, insU_mem, ih, List.mem_cons]
theorem asc_pw (ns : List Int) : (asc ns).Pairwise (· < ·) := by
  unfold asc
  induction ns with
  | nil => exact List.Pairwise.nil
  | cons x r ih => rw [List.foldr_cons]; exact insU_pw x _ ih
theorem pw_ext : ∀ {a b : List Int}, a.Pairwise (· < ·) → b.Pairwise (· < ·) → (∀ z, z ∈ a ↔ z ∈ b) → a = b
  | [], [], _, _, _ => rfl
  | [], y :: b, _, _, h => absurd ((h y).mpr (by simp)) (by simp)
  | x :: a, [], _, _, h => absurd ((h x).mp (by simp)) (by simp)
  | x :: a, y :: b, ha, hb, h => by
    obtain ⟨a1, a2⟩ := List.pairwise_cons.mp ha
    obtain ⟨b1, b2⟩ := List.pairwise_cons.mp hb
    have e : x = y := by
      have p := (h x).mp (by simp)
      have q := (h y).mpr (by simp)
      rcases List.mem_cons.mp p with p | p
      · exact p
      · rcases List.mem_cons.mp q with q | q
        · exact q.symm
        · have := a1 y q; have := b1 x p; omega
    subst e
    rw [pw_ext a2 b2 fun z => ?_]
    constructor
    · intro hz
      rcases List.mem_cons.mp ((h z).mp (List.mem_cons_of_mem _ hz)) with e | e
      · have := a1 z hz; omega
      · exact e
    · intro hz
      rcases List.mem_cons.mp ((h z).mpr (List.mem_cons_of_mem _ hz)) with e | e
      · have := b1 z hz; omega
      · exact e
theorem asc_eq {ns ms : List Int} (h1 : ms.Pairwise (· < ·)) (h2 : ∀ z, z ∈ ms ↔ z ∈ ns) : ms = asc ns := pw_ext h1 (asc_pw ns) fun z => (h2 z).trans (asc_mem ns z).symm
def fSSet : FX := fun ds S => match intL S ds with
  | some ns => if ns.length < 64 then .ok (dL ((asc ns).map .int)) S else .bad
  | none => match intT S ds with
    | some ns => if ns.length < 64 then .ok (dL ((asc ns).map .int)) S else .bad
    | none => .bad
theorem de_sset {p2 q : Pos} (hc : X.calm = true) (hg : Gl X "sorted") (hm : X.mg "sorted" = none) (hg2 : Gl X "set") (hm2 : X.mg "set" = none) (ha : DA X g W [e] k)
    (n2 : starEach [e] X.env = (false, eval e X.env) :: starEach [] X.env := by rfl) (n1 : starEach [Expr.Call (.Name "set" p2) [e] [] q] X.env = (false, eval (Expr.Call (.Name "set" p2) [e] [] q) X.env) :: starEach [] X.env := by rfl) :
    DE X g W (.Call (.Name "sorted" p) [.Call (.Name "set" p2) [e] [] q] [] pos) (xCB fSSet k) :=
  ⟨fun hK => by
    have h1 := pe_callTy (pos := q) (p := p2) ((cr_setL hc).or (cr_setT hc)) hg2 hm2 (by decide +kernel) (ha.pa hK) (he := n2) (hpl := rfl)
    have h2 := pe_callB (pos := pos) (p := p) (cr_sortedSet hc) hg hm (by decide +kernel) (pa_cons h1 pa_nil n1) (he := n1) (hpl := rfl)
    refine h2.imp fun σ H Q ⟨R, env, S, rs, re, h⟩ => ?_
    refine tDA_bind rs re h fun ds S1 vs H1 R1 s1 rs1 re1 rv h1 => ?_
    unfold fSSet at h1
    split at h1
    · rename_i ns hn
      split at h1
      · rename_i few
        obtain ⟨a, rfl, kk⟩ := intL_ok hK rs1 rv hn
        refine .inl ⟨a, ns, rfl, kk, by omega, fun p n hp hle => ?_⟩
        refine ⟨p, _, n, rfl, upd_same, by omega, fun ms q m1 m2 m3 hq => ?_⟩
        have em : ms = asc ns := asc_eq m1 fun z => by rw [m2 z]; exact decide_eq_true_iff
        rw [em]
        have s2 : Stp R1 H1 R1 (upd H1 p (SetO X.w p (fun j => decide (j ∈ ns)) n)) := Stp.laid rs1 hp
        exact lst_new (rs1.laid hp) (RpAll.ints _) (Post.step s2 h1) q hq
      · exact h1.elim
    · split at h1
      · rename_i ns hn
        split at h1
        · rename_i few
          obtain ⟨a, rfl, kk⟩ := intT_ok hK rs1 rv hn
          refine .inr ⟨a, ns, rfl, kk, by omega, fun p n hp hle => ?_⟩
          refine ⟨p, _, n, rfl, upd_same, by omega, fun ms q m1 m2 m3 hq => ?_⟩
          have em : ms = asc ns := asc_eq m1 fun z => by rw [m2 z]; exact decide_eq_true_iff
          rw [em]
          have s2 : Stp R1 H1 R1 (upd H1 p (SetO X.w p (fun j => decide (j ∈ ns)) n)) := Stp.laid rs1 hp
          exact lst_new (rs1.laid hp) (RpAll.ints _) (Post.step s2 h1) q hq
        · exact h1.elim
      · exact h1.elim⟩

/-! ### isinstance(x, T), T a built-in class -/
def tyOf : PyData → String
  | .none => "NoneType"
  | .bool _ => "bool"
  | .int _ => "int"
  | .str _ => "str"
  | .list _ => "list"
  | .tuple _ => "tuple"
  | .dict _ => "dict"
def tyD (S : Sto) : D → Option String
  | .py d => some (tyOf d)
  | .loc n => match S[n]? with
    | some (.lst _) => some "list"
    | some (.dK _) => some "dict"
    | some (.dT _) => some "dict"
    | _ => none
  | .scr _ => none
def isTy (T : String) (t : String) : Bool := t == T || (T == "int" && t == "bool")
def xIsi (T : String) (f : EX) : EX := fun env S => (f env S).bind fun d S1 => match tyD S1 d with
  | some t => .ok (dB (isTy T t)) S1
  | none => .bad
/-- the built-in classes that isinstance is asked about -/
def kitOk (K : PySem.W.Frag) (T : String) : Prop := ∀ t ∈ ["NoneType", "bool", "int", "str", "list", "tuple", "dict"], PySem.W.kitOne K (.type t) (.type T) = some (isTy T t)
theorem kitOk_int {K : PySem.W.Frag} : kitOk K "int" := fun t ht => by
  simp only [List.mem_cons, List.not_mem_nil, or_false] at ht
  rcases ht with rfl | rfl | rfl | rfl | rfl | rfl | rfl <;> exact kit_ty (by decide +kernel)
theorem kitOk_bool {K : PySem.W.Frag} : kitOk K "bool" := fun t ht => by
  simp only [List.mem_cons, List.not_mem_nil, or_false] at ht
  rcases ht with rfl | rfl | rfl | rfl | rfl | rfl | rfl <;> exact kit_ty (by decide +kernel)
theorem kitOk_tuple {K : PySem.W.Frag} : kitOk K "tuple" := fun t ht => by
  simp only [List.mem_cons, List.not_mem_nil, or_false] at ht
  rcases ht with rfl | rfl | rfl | rfl | rfl | rfl | rfl <;> exact kit_ty (by decide +kernel)
theorem kitOk_list {K : PySem.W.Frag} : kitOk K "list" := fun t ht => by
  simp only [List.mem_cons, List.not_mem_nil, or_false] at ht
  rcases ht with rfl | rfl | rfl | rfl | rfl | rfl | rfl <;> exact kit_ty (by decide +kernel)
theorem kitOk_str {K : PySem.W.Frag} : kitOk K "str" := fun t ht => by
  simp only [List.mem_cons, List.not_mem_nil, or_false] at ht
  rcases ht with rfl | rfl | rfl | rfl | rfl | rfl | rfl <;> exact kit_ty (by decide +kernel)
theorem ty_ok {R : RR} {S : Sto} {H : Hp} (rs : RS g R S H) {v : V} {d : D} (r : RD g.K R H v d) {t : String} (h : tyD S d = some t) : TyX g.K H v (.type t) ∧ t ∈ ["NoneType", "bool", "int", "str", "list", "tuple", "dict"] := by
  cases d with
  | py d =>
    cases h
    cases r with
    | non => exact ⟨.base .non, by simp [tyOf]⟩
    | bl b => exact ⟨.base (.bl b), by simp [tyOf]⟩
    | int i => exact ⟨.base (.int i), by simp [tyOf]⟩
    | str x => exact ⟨.base (.str x), by simp [tyOf]⟩
    | lst h _ _ => exact ⟨.base (.lst h), by simp [tyOf]⟩
    | tup h _ _ => exact ⟨h.rd.elim (fun h => .base (.tup h)) (fun ⟨_, h⟩ => .fTuple h), by simp [tyOf]⟩
    | dic h _ _ => exact ⟨.base (.dK h), by simp [tyOf]⟩
  | loc n =>
    obtain ⟨a, rfl, ha⟩ := r
    have h : (match S[n]? with | some (.lst _) => some "list" | some (.dK _) => some "dict" | some (.dT _) => some "dict" | _ => none) = some t := h
    split at h
    · rename_i xs q
      obtain ⟨b, hb, ro⟩ := rs_get rs q
      rw [ha] at hb; cases hb
      obtain ⟨vs, h1, h2, h3⟩ := ro
      cases h
      exact ⟨.base (.lst h1), by simp⟩
    · rename_i xs q
      obtain ⟨b, hb, ro⟩ := rs_get rs q
      rw [ha] at hb; cases hb
      obtain ⟨vs, h1, h2⟩ := ro
      cases h
      exact ⟨.base (.dK h1), by simp⟩
    · rename_i xs q
      obtain ⟨b, hb, ro⟩ := rs_get rs q
      rw [ha] at hb; cases hb
      obtain ⟨vs, h1, h2⟩ := ro
      cases h
      exact ⟨.base (.dT h1), by simp⟩
    · cases h
  | scr ns => cases h
theorem de_isi {f : EX} {y : Str} {py : Pos} (ho : kitOk g.K T) (hg : Gl X "isinstance") (hm : X.mg "isinstance" = none) (hg2 : Gl X y) (hm2 : X.mg y = none) (hv2 : bootBuiltins y = some (.type T)) (ha : DE X g W e f) (hn2 : y ≠ "__name__" := by decide) (hd2 : (y == ("__debug__" : Str)) = false := by decide)
    (he : starEach [e, .Name y py] X.env = (false, eval e X.env) :: starEach [.Name y py] X.env := by rfl) (he2 : starEach [Expr.Name y py] X.env = (false, eval (.Name y py) X.env) :: starEach [] X.env := by rfl)
    (hpl : (backTo pos (starEach [Expr.Name y py] X.env)).any (·.1) = false := by rfl) : DE X g W (.Call (.Name "isinstance" p) [e, .Name y py] [] pos) (xIsi T f) :=
  ⟨fun hK => by
    have hb : PE X (.Name y py) (tC (.ty T)) := pe_bltn hg2 hm2 hv2 rfl hn2 hd2
    refine (pe_callB (pos := pos) (p := p) call_isi hg hm (by decide +kernel) (pa_cons (ha.pe hK) (pa_cons hb pa_nil he2) he) (he := he) (hpl := hpl)).imp fun σ H Q ⟨R, env, S, rs, re, h⟩ => ?_
    refine tD_bind rs re h fun d S1 x H1 R1 s1 rs1 re1 rx h1 => ?_
    split at h1
    · rename_i t ht
      obtain ⟨ty, mem⟩ := ty_ok rs1 rx ht
      rw [hK] at ty
      exact ⟨x, .ty T, .type t, .type T, _, rfl, .ty T, ty, by rw [← hK]; exact ho t mem, post_now rs1 (RD.bl _) h1⟩
    · exact h1.elim⟩

/-! ### range in list(..), tuple(..) -/
def rgI (a b : Int) : List Int := (List.range (b - a).toNat).map fun i => a + (i : Nat)
theorem rgV_eq (a b : Int) : rgV a b = (rgI a b).map V.int := by unfold rgV rgI; rw [List.map_map]; rfl
def fRgL : FX := fun ds S => match ds with
  | [.py (.int n)] => if n ≤ 1000000 ∧ -1000000 ≤ n then .ok (dL ((rgI 0 n).map .int)) S else .bad
  | _ => .bad
def fRgT : FX := fun ds S => match ds with
  | [.py (.int n)] => if n ≤ 1000000 ∧ -1000000 ≤ n then .ok (dT ((rgI 0 n).map .int)) S else .bad
  | _ => .bad
def fRgM : FX := fun ds S => match ds with
  | [.py (.int n)] => if n ≤ 1000000 ∧ -1000000 ≤ n then .ok (.loc S.length) (S ++ [.lst ((rgI 0 n).map fun i => .py (.int i))]) else .bad
  | _ => .bad
theorem rgI_len (a b : Int) : (rgI a b).length = (b - a).toNat := by unfold rgI; rw [List.length_map, List.length_range]
theorem tRg {f : EX} {σ : L2.St} {H : Hp} {Q : VK} {o : FX} (h : tD g W (xCB o (xCons f xNil)) σ H Q) (Q' : Int → Int → Hp → Prop)
    (n : ∀ d S v H' R, RS g R S H' → RD g.K R H' v d → Post g (wAt W σ) R H' (PV g) (o [d] S) Q → ∃ n, v = .int n ∧ Q' 0 n H') : tRg1 (tD g W f) σ H Q' := by
  obtain ⟨R, env, S, rs, re, h⟩ := h
  have e : xCB o (xCons f xNil) env S = (f env S).bind fun d S1 => o [d] S1 := by
    unfold xCB xCons xNil
    cases f env S <;> rfl
  rw [e] at h
  exact tD_bind rs re h fun d S1 x H1 R1 s1 rs1 re1 rx h1 => n d S1 x H1 R1 rs1 rx h1
variable {f : EX} {p2 q : Pos}
theorem de_rgL (hc : X.calm = true) (hg : Gl X "list") (hm : X.mg "list" = none) (hg2 : Gl X "range") (hm2 : X.mg "range" = none) (ha : DE X g W e f)
    (n2 : starEach [e] X.env = (false, eval e X.env) :: starEach [] X.env := by rfl) (n1 : starEach [Expr.Call (.Name "range" p2) [e] [] q] X.env = (false, eval (Expr.Call (.Name "range" p2) [e] [] q) X.env) :: starEach [] X.env := by rfl) :
    DE X g W (.Call (.Name "list" p) [.Call (.Name "range" p2) [e] [] q] [] pos) (xCB fRgL (xCons f xNil)) :=
  ⟨fun hK => (pe_listRg hc hg hm (prg_1 hg2 hm2 (ha.pe hK) n2) n1).imp fun σ H Q h => tRg h _ fun d S v H' R rs r h => by
    unfold fRgL at h
    split at h
    · rename_i n q
      cases q
      split at h
      · cases r
        exact ⟨n, rfl, ⟨by omega, by omega, by omega, by omega, by omega⟩, fun q hq => by
          rw [rgV_eq]
          exact lst_new rs (RpAll.ints _) h q hq⟩
      · exact h.elim
    · exact h.elim⟩
theorem de_rgM (hc : X.calm = true) (hg : Gl X "list") (hm : X.mg "list" = none) (hg2 : Gl X "range") (hm2 : X.mg "range" = none) (ha : DE X g W e f)
    (n2 : starEach [e] X.env = (false, eval e X.env) :: starEach [] X.env := by rfl) (n1 : starEach [Expr.Call (.Name "range" p2) [e] [] q] X.env = (false, eval (Expr.Call (.Name "range" p2) [e] [] q) X.env) :: starEach [] X.env := by rfl) :
    DE X g W (.Call (.Name "list" p) [.Call (.Name "range" p2) [e] [] q] [] pos) (xCB fRgM (xCons f xNil)) :=
  ⟨fun hK => (pe_listRg hc hg hm (prg_1 hg2 hm2 (ha.pe hK) n2) n1).imp fun σ H Q h => tRg h _ fun d S v H' R rs r h => by
    unfold fRgM at h
    split at h
    · rename_i n q
      cases q
      split at h
      · cases r
        exact ⟨n, rfl, ⟨by omega, by omega, by omega, by omega, by omega⟩, fun q hq => by
          rw [rgV_eq]
          exact loc_new rs (ints_rds _) (by rw [List.length_map, rgI_len]; exact Nat.le_trans (by omega) line_ok) h q hq⟩
      · exact h.elim
    · exact h.elim⟩
theorem de_rgT (hc : X.calm = true) (hg : Gl X "tuple") (hm : X.mg "tuple" = none) (hg2 : Gl X "range") (hm2 : X.mg "range" = none) (ha : DE X g W e f)
    (n2 : starEach [e] X.env = (false, eval e X.env) :: starEach [] X.env := by rfl) (n1 : starEach [Expr.Call (.Name "range" p2) [e] [] q] X.env = (false, eval (Expr.Call (.Name "range" p2) [e] [] q) X.env) :: starEach [] X.env := by rfl) :
    DE X g W (.Call (.Name "tuple" p) [.Call (.Name "range" p2) [e] [] q] [] pos) (xCB fRgT (xCons f xNil)) :=
  ⟨fun hK => (pe_tupRg hc hg hm (prg_1 hg2 hm2 (ha.pe hK) n2) n1).imp fun σ H Q h => tRg h _ fun d S v H' R rs r h => by
    unfold fRgT at h
    split at h
    · rename_i n q
      cases q
      split at h
      · cases r
        exact ⟨n, rfl, ⟨by omega, by omega, by omega, by omega, by omega⟩, fun q hq => by
          rw [rgV_eq]
          exact tup_newF rs (RpAll.ints _) (prsB_ints _) h q hq⟩
      · exact h.elim
    · exact h.elim⟩
end
end DL
end
section
set_option maxRecDepth 100000
set_option maxHeartbeats 1000000
/-! DZ3: max and min of a list of tuples of ints. -/
namespace DL
open PySem PySem.Spec PyProof.Rows L2
open PySem.W (alike alikeAll AlikeAll maxD minD)
def isPI : PyData → Bool
  | .int _ => true
  | _ => false
def isIT : PyData → Bool
  | .tuple xs => xs.all isPI
  | _ => false
theorem isPI_inv {x : PyData} (h : isPI x = true) : ∃ i, x = .int i := by
  cases x with
  | int i => exact ⟨i, rfl⟩
  | _ => cases h
theorem isIT_inv {x : PyData} (h : isIT x = true) : ∃ xs, x = .tuple xs ∧ xs.all isPI = true := by
  cases x with
  | tuple xs => exact ⟨xs, rfl, h⟩
  | _ => cases h
theorem alike_pi : ∀ {xs ys : List PyData}, xs.all isPI = true → ys.all isPI = true → alikeAll xs ys = true
  | [], _, _, _ => by simp [alikeAll]
  | _ :: _, [], _, _ => by simp [alikeAll]
  | x :: xs, y :: ys, h, k => by
    rw [List.all_cons, Bool.and_eq_true] at h k
    have := alike_pi h.2 k.2
    obtain ⟨i, rfl⟩ := isPI_inv h.1
    obtain ⟨j, rfl⟩ := isPI_inv k.1
    simp [alikeAll, alike, this]
theorem alike_it {xs : List PyData} (h : xs.all isIT = true) : AlikeAll xs := by
  refine ⟨fun x hx y hy => ?_, fun x hx e => ?_⟩
  · obtain ⟨u, rfl, a⟩ := isIT_inv (List.all_eq_true.mp h x hx)
    obtain ⟨v, rfl, b⟩ := isIT_inv (List.all_eq_true.mp h y hy)
    rw [alike]
    exact alike_pi a b
  · subst e
    exact absurd (List.all_eq_true.mp h _ hx) (by simp [isIT])
theorem depth_pi : ∀ {xs : List PyData}, xs.all isPI = true → PyData.depthAll xs = 0 ∧ PyData.canLayAll0 xs = true
  | [], _ => ⟨by simp [PyData.depthAll], rfl⟩
  | x :: xs, h => by
    rw [List.all_cons, Bool.and_eq_true] at h
    obtain ⟨h1, h2⟩ := depth_pi h.2
    obtain ⟨i, rfl⟩ := isPI_inv h.1
    exact ⟨by simp [PyData.depthAll, PyData.depth, h1], by simp [PyData.canLayAll0, PyData.canLay0, h2]⟩
theorem depth_it : ∀ {xs : List PyData}, xs.all isIT = true → PyData.depthAll xs ≤ 1 ∧ PyData.canLayAll0 xs = true
  | [], _ => ⟨by simp [PyData.depthAll], rfl⟩
  | x :: xs, h => by
    rw [List.all_cons, Bool.and_eq_true] at h
    obtain ⟨h1, h2⟩ := depth_it h.2
    obtain ⟨ys, rfl, hy⟩ := isIT_inv h.1
    obtain ⟨h3, h4⟩ := depth_pi hy
    refine ⟨?_, by simp [PyData.canLayAll0, PyData.canLay0, h2, h4]⟩
    simp only [PyData.depthAll, PyData.depth]
    omega
section
variable {X : Cx} {g : G}
def rBest (K : PySem.W.Frag) (b : PyData → List PyData → PyData) : List V → Hp → VK → Prop := fun vs H Q => ∃ (a : Addr) (ws : List V) (x : PyData) (xs : List PyData), vs = [V.ref a] ∧ SqL K H a ws ∧ DpAll K H ws (x :: xs) ∧ (x :: xs).all isIT = true ∧
  ∀ (i : Nat) (w : V), ws[i]? = some w → (x :: xs)[i]? = some (b x xs) → Q w H
theorem best_end {pins : List (Addr × Obj)} {σ : L2.St} {H : Hp} {s : Shared} {Q : VK} {ws : List V} {its : List Value} {ds : List PyData} {as bs : List Addr} {m : PyData} {i : Nat} {v : Value} {g' : Heap} {tk : Nat} (I : Inv X pins σ H s) (rv : Vals ws its) (h4 : ReadsAll s.heap its ds as) (lay : PyData.canLayAll0 ds = true)
    (hv : its[i]? = some v) (r : Reads g' v m bs) (k : ∀ b o, s.heap.get? b = some o → g'.get? b = some o) (q : ∀ (i : Nat) (w : V), ws[i]? = some w → ds[i]? = some m → Q w H) : EP X pins σ Q v { s with heap := g', toks := tk } := by
  obtain ⟨cs, r2, hlt, hmem, _⟩ := PySem.W.readsAll_at h4 i v hv
  have e1 : ds.getD i .none = ds[i] := by rw [List.getD_eq_getElem?_getD, List.getElem?_eq_getElem hlt]; rfl
  have lay1 : (ds.getD i .none).canLay0 = true := by
    have : ∀ {xs : List PyData}, PyData.canLayAll0 xs = true → ∀ d ∈ xs, d.canLay0 = true := by
      intro xs
      induction xs with
      | nil => intro _ d hd; cases hd
      | cons x r ih =>
        intro h d hd
        have h : x.canLay0 = true ∧ PyData.canLayAll0 r = true := by simpa [PyData.canLayAll0] using h
        rcases List.mem_cons.mp hd with rfl | hd
        · exact h.1
        · exact ih h.2 d hd
    exact this lay _ hmem
  have e2 := SeqAt.Reads.unique _ _ _ _ _ lay1 (PySem.W.reads_keeps k r2) r
  have hlen := rv.length
  have hi : i < its.length := (List.getElem?_eq_some_iff.mp hv).1
  have hw : ws[i]? = some ws[i] := List.getElem?_eq_getElem (by omega)
  obtain ⟨u, hu, ru⟩ := rv.get hw
  rw [hv] at hu
  cases hu
  exact ⟨ws[i], H, I.kept k, ru, q i ws[i] hw (by rw [← e2, e1]; exact List.getElem?_eq_getElem hlt)⟩
theorem cr_maxT (hc : X.calm = true) (hu : X.A.units + 65 < cLine) : CallR X (.builtin "max") (rBest X.K maxD) := by
  intro pins s σ H vs us Q I r h
  obtain ⟨a, ws, x, xs, rfl, hs, hd, hit, q⟩ := h
  obtain ⟨its, rv, hl, _⟩ := I.list hs
  rw [Vals.ref1 r]
  obtain ⟨as, h4⟩ := Dp.readsAll I _ ws its hd rv
  obtain ⟨d1, d2⟩ := depth_it hit
  exact PySem.W.max_list_data (I.ok.hd hc) hl.isList (by simpa using h4) (alike_it hit) (by omega) fun i v g' tk bs hv hr hk => best_end I rv h4 d2 (by simpa using hv) hr hk q
theorem cr_minT (hc : X.calm = true) (hu : X.A.units + 65 < cLine) : CallR X (.builtin "min") (rBest X.K minD) := by
  intro pins s σ H vs us Q I r h
  obtain ⟨a, ws, x, xs, rfl, hs, hd, hit, q⟩ := h
  obtain ⟨its, rv, hl, _⟩ := I.list hs
  rw [Vals.ref1 r]
  obtain ⟨as, h4⟩ := Dp.readsAll I _ ws its hd rv
  obtain ⟨d1, d2⟩ := depth_it hit
  exact PySem.W.min_list_data (I.ok.hd hc) hl.isList (by simpa using h4) (alike_it hit) (by omega) fun i v g' tk bs hv hr hk => best_end I rv h4 d2 (by simpa using hv) hr hk q
/-- the best of a list of tuples of ints -/
def fBest (b : PyData → List PyData → PyData) : FX := fun ds S => match ds with
  | [.py (.list (x :: xs))] => if (x :: xs).all isIT = true then .ok (.py (b x xs)) S else .bad
  | _ => .bad
def fMax : FX := fun ds S => match intL S ds with
  | some _ => fMaxI ds S
  | none => fBest maxD ds S
def fMin : FX := fun ds S => match intL S ds with
  | some _ => fMinI ds S
  | none => fBest minD ds S
theorem best_ok {W : XK} {R : RR} {S : Sto} {H : Hp} {vs : List V} {ds : List D} {Q : VK} {b : PyData → List PyData → PyData} (rs : RS g R S H) (rv : RDs g.K R H vs ds) (hK : g.K = X.K) (h : Post g W R H (PV g) (fBest b ds S) Q) : rBest X.K b vs H Q := by
  unfold fBest at h
  split at h
  · rename_i x xs
    split at h
    · rename_i hit
      obtain ⟨v, rfl, r⟩ := rds1 rv
      cases r with
      | lst h1 n1 k1 =>
        rename_i a ws
        rw [← hK]
        refine ⟨a, ws, x, xs, rfl, SqL.of h1, k1.dp (depth_it hit).2, hit, fun i w hw hd => ?_⟩
        obtain ⟨d, e1, r1⟩ := k1.get' hw
        rw [hd] at e1
        cases e1
        exact post_now rs (d := .py _) r1 h
    · exact h.elim
  · exact h.elim
theorem cbMax (hc : X.calm = true) (hu : X.A.units + 65 < cLine) : CB X g (.builtin "max") fMax := ⟨fun hK => by
  obtain ⟨r, hr, k⟩ := (cbMaxI (X := X) (g := g) hc).run hK
  refine ⟨_, hr.or (cr_maxT hc hu), fun W R S H vs ds Q rs rv h => ?_⟩
  unfold fMax at h
  split at h
  · exact .inl (k W R S H vs ds Q rs rv h)
  · exact .inr (best_ok rs rv hK h)⟩
theorem cbMin (hc : X.calm = true) (hu : X.A.units + 65 < cLine) : CB X g (.builtin "min") fMin := ⟨fun hK => by
  obtain ⟨r, hr, k⟩ := (cbMinI (X := X) (g := g) hc).run hK
  refine ⟨_, hr.or (cr_minT hc hu), fun W R S H vs ds Q rs rv h => ?_⟩
  unfold fMin at h
  split at h
  · exact .inl (k W R S H vs ds Q rs rv h)
  · exact .inr (best_ok rs rv hK h)⟩
end
end DL
end
section
set_option maxRecDepth 100000
set_option maxHeartbeats 1000000
/-! DL4: repr, methods, targets, statements, loops, comprehensions. -/
namespace DL
open PySem PySem.Spec PyProof.Rows L2

/-! ### repr -/
section
variable {X : Cx} {pins : List (Addr × Obj)} {σ : L2.St} {H : Hp} {s : Shared} {R : RR}
theorem key_reads {h : Heap} {k : Key} {u : Value} (e : keyIs k u = true) : Reads h u (keyPy k) [] := by
  rcases keyIs_shape e with ⟨i, t, rfl, rfl⟩ | ⟨x, t, rfl, rfl⟩
  · exact .int i t
  · exact .str x t
mutual
theorem Rp.reads (I : Inv X pins σ H s) : ∀ (d : PyData) (v : V) (u : Value), Rp X.K R H v d → RelV v u → ∃ as, Reads s.heap u d as
  | .none, _, _, .non, r => by cases r; exact ⟨_, .none⟩
  | .bool b, _, _, .bl _, r => by cases r; exact ⟨_, .bool b⟩
  | .int i, _, _, .int _, r => by obtain ⟨t, rfl⟩ := r; exact ⟨_, .int i t⟩
  | .str x, _, _, .str _, r => by obtain ⟨t, rfl⟩ := r; exact ⟨_, .str x t⟩
  | .list ds, _, _, .lst h n k, r => by
    cases r
    obtain ⟨z, its, m, rv, e⟩ := I.hok _ _ h
    obtain ⟨as, q⟩ := RpAll.reads I ds _ its k rv
    exact ⟨_, .list e rfl rfl q⟩
  | .tuple ds, _, _, .tup h n k, r => by
    cases r
    obtain ⟨z, its, rv, o, e, c, m, d⟩ := h.rd.ok I.hok
    obtain ⟨as, q⟩ := RpAll.reads I ds _ its k rv
    exact ⟨_, .tuple e c d q⟩
  | .dict es, _, _, .dic h n k, r => by
    cases r
    obtain ⟨z, nsm, vs, kv, o, en, ep, e, ex, dd, ko, ps, nd⟩ := I.hok _ _ h
    obtain ⟨as, bs, q1, q2⟩ := RpKv.reads I es _ vs en.toList k kv ps
    exact ⟨_, .dict e ex.1 dd q1 q2⟩
theorem RpAll.reads (I : Inv X pins σ H s) : ∀ (ds : List PyData) (vs : List V) (us : List Value), RpAll X.K R H vs ds → Vals vs us → ∃ as, ReadsAll s.heap us ds as
  | [], _, _, .nil, r => by cases r; exact ⟨_, .nil⟩
  | d :: ds, _, _, .cons h t, r => by
    cases r with
    | cons r1 r2 =>
      obtain ⟨as, q1⟩ := Rp.reads I d _ _ h r1
      obtain ⟨bs, q2⟩ := RpAll.reads I ds _ _ t r2
      exact ⟨_, .cons q1 q2⟩
theorem RpKv.reads (I : Inv X pins σ H s) : ∀ (es : List (PyData × PyData)) (kvs : List (Key × V)) (vs : List (Key × Value)) (en : List DictEntry), RpKv X.K R H kvs es → KV kvs vs → Pairs (mixKind X.prog X.w) en vs →
    ∃ as bs, ReadsAll s.heap (en.map (·.key)) (es.map (·.1)) as ∧ ReadsAll s.heap (en.map (·.val)) (es.map (·.2)) bs
  | [], _, _, _, .nil, r, p => by
    cases r
    cases p
    exact ⟨_, _, .nil, .nil⟩
  | (_, d) :: es, _, _, _, .cons h t, r, p => by
    cases r with
    | cons r1 r2 =>
      cases p with
      | cons p1 p2 p3 =>
        obtain ⟨e1, e2⟩ := r1
        obtain ⟨as, q⟩ := Rp.reads I d _ _ h e2
        obtain ⟨bs, cs, q1, q2⟩ := RpKv.reads I es _ _ _ t r2 p3
        have e1 : _ = _ := e1
        refine ⟨[] ++ bs, as ++ cs, .cons (key_reads (by dsimp only at e1; rw [e1]; exact p1)) q1, .cons (by dsimp only; rw [p2]; exact q) q2⟩
end
mutual
def noList : PyData → Bool
  | .list _ => false
  | .tuple xs => noListAll xs
  | .dict kvs => noListKv kvs
  | _ => true
def noListAll : List PyData → Bool
  | [] => true
  | x :: xs => noList x && noListAll xs
def noListKv : List (PyData × PyData) → Bool
  | [] => true
  | (k, v) :: r => noList k && noList v && noListKv r
end
mutual
theorem Rp.sysm (I : Inv X pins σ H s) : ∀ (d : PyData) (v : V) (u : Value), Rp X.K R H v d → RelV v u → noList d = true → ∃ as, Reads s.heap u d as ∧ sysModules ∉ as
  | .none, _, _, .non, r, _ => by cases r; exact ⟨_, .none, by simp⟩
  | .bool b, _, _, .bl _, r, _ => by cases r; exact ⟨_, .bool b, by simp⟩
  | .int i, _, _, .int _, r, _ => by obtain ⟨t, rfl⟩ := r; exact ⟨_, .int i t, by simp⟩
  | .str x, _, _, .str _, r, _ => by obtain ⟨t, rfl⟩ := r; exact ⟨_, .str x t, by simp⟩
  | .list ds, _, _, _, r, c => by simp [noList] at c
  | .tuple ds, _, _, .tup h n k, r, c => by
    cases r
    obtain ⟨z, its, rv, o, e, cc, m, d⟩ := h.rd.ok I.hok
    obtain ⟨as, q, nq⟩ := RpAll.sysm I ds _ its k rv (by simpa [noList] using c)
    exact ⟨_, .tuple e cc d q, nq⟩
  | .dict es, _, _, .dic h n k, r, c => by
    cases r
    obtain ⟨z, nsm, vs, kv, o, en, ep, e, ex, dd, ko, ps, nd⟩ := I.hok _ _ h
    obtain ⟨as, bs, q1, q2, n1, n2⟩ := RpKv.sysm I es _ vs en.toList k kv ps (by simpa [noList] using c)
    refine ⟨_, .dict e ex.1 dd q1 q2, ?_⟩
    simp only [List.cons_append, List.mem_cons, List.mem_append, not_or]
    exact ⟨fun z => by rw [← z] at nsm; simp at nsm, n1, n2⟩
theorem RpAll.sysm (I : Inv X pins σ H s) : ∀ (ds : List PyData) (vs : List V) (us : List Value), RpAll X.K R H vs ds → Vals vs us → noListAll ds = true → ∃ as, ReadsAll s.heap us ds as ∧ sysModules ∉ as
  | [], _, _, .nil, r, _ => by cases r; exact ⟨_, .nil, by simp⟩
  | d :: ds, _, _, .cons h t, r, c => by
    have c' : noList d = true ∧ noListAll ds = true := by simpa [noListAll] using c
    cases r with
    | cons r1 r2 =>
      obtain ⟨as, q1, n1⟩ := Rp.sysm I d _ _ h r1 c'.1
      obtain ⟨bs, q2, n2⟩ := RpAll.sysm I ds _ _ t r2 c'.2
      exact ⟨_, .cons q1 q2, by simp [n1, n2]⟩
theorem RpKv.sysm (I : Inv X pins σ H s) : ∀ (es : List (PyData × PyData)) (kvs : List (Key × V)) (vs : List (Key × Value)) (en : List DictEntry), RpKv X.K R H kvs es → KV kvs vs → Pairs (mixKind X.prog X.w) en vs → noListKv es = true →
    ∃ as bs, ReadsAll s.heap (en.map (·.key)) (es.map (·.1)) as ∧ ReadsAll s.heap (en.map (·.val)) (es.map (·.2)) bs ∧ sysModules ∉ as ∧ sysModules ∉ bs
  | [], _, _, _, .nil, r, p, _ => by
    cases r
    cases p
    exact ⟨_, _, .nil, .nil, by simp, by simp⟩
  | (_, d) :: es, _, _, _, .cons h t, r, p, c => by
    simp only [noListKv, Bool.and_eq_true] at c
    have c' := c
    cases r with
    | cons r1 r2 =>
      cases p with
      | cons p1 p2 p3 =>
        obtain ⟨e1, e2⟩ := r1
        obtain ⟨as, q, n0⟩ := Rp.sysm I d _ _ h e2 c'.1.2
        obtain ⟨bs, cs, q1, q2, n1, n2⟩ := RpKv.sysm I es _ _ _ t r2 p3 c'.2
        have e1 : _ = _ := e1
        refine ⟨[] ++ bs, as ++ cs, .cons (key_reads (by dsimp only at e1; rw [e1]; exact p1)) q1, .cons (by dsimp only; rw [p2]; exact q) q2, by simpa using n1, by simp [n0, n2]⟩
end
/-! no list within a dict -/
mutual
def dOk : PyData → Bool
  | .list xs => dOkAll xs
  | .tuple xs => dOkAll xs
  | .dict kvs => noListKv kvs
  | _ => true
def dOkAll : List PyData → Bool
  | [] => true
  | x :: xs => dOk x && dOkAll xs
end
mutual
theorem Rp.shows (I : Inv X pins σ H s) : ∀ (d : PyData) (v : V) (u : Value), Rp X.K R H v d → RelV v u → dOk d = true → d.showable = true → d.shown.length ≤ sizeLine → ∃ bs, ReadAtMost s.heap d.depth bs ∧ ReprK X.prog X.w bs s.heap d.depth u d.shown
  | .none, _, _, .non, r, _, sh, z => by cases r; exact ReprK.of_reads .none sh (fun h => by cases h) z
  | .bool b, _, _, .bl _, r, _, sh, z => by cases r; exact ReprK.of_reads (.bool b) sh (fun h => by cases h) z
  | .int i, _, _, .int _, r, _, sh, z => by obtain ⟨t, rfl⟩ := r; exact ReprK.of_reads (.int i t) sh (fun h => by cases h) z
  | .str x, _, _, .str _, r, _, sh, z => by obtain ⟨t, rfl⟩ := r; exact ReprK.of_reads (.str x t) sh (fun h => by cases h) z
  | .list ds, v, u, h0, r, c, sh, z => by
    have h0' := h0
    cases h0 with
    | @lst a _ _ h n k =>
      obtain ⟨as, rr⟩ := Rp.reads I (.list ds) _ _ h0' r
      cases r
      obtain ⟨zz, its, m, rv, e⟩ := I.hok _ _ h
      have z2 : (listText (PyData.shownAll ds)).length ≤ sizeLine := by simpa only [PyData.shown] using z
      obtain ⟨bs, hb, hk⟩ := RpAll.shows I ds _ its k rv (by simpa [dOk] using c) (by simpa [PyData.showable] using sh) fun t ht => Nat.le_trans (listText_mem_le ht) z2
      have hna : a ∉ bs := not_mem_of_deeper rr (show PyData.depthAll ds < PyData.depth (.list ds) by simp only [PyData.depth]; omega) hb
      refine ⟨a :: bs, ReadAtMost.cons rr (show PyData.depthAll ds ≤ PyData.depth (.list ds) by simp only [PyData.depth]; omega) hb, ?_⟩
      simp only [PyData.depth, PyData.shown]
      cases its with
      | nil =>
        cases rv
        cases k
        simp only [PyData.shownAll, listText_nil]
        exact ReprK.listEmpty e rfl rfl
      | cons x l => exact ReprK.list e rfl rfl hna (by simpa using hk.length_eq) fun i y q => hk.item i y (by simpa using q)
  | .tuple ds, v, u, h0, r, c, sh, z => by
    have h0' := h0
    cases h0 with
    | @tup a _ _ h n k =>
      obtain ⟨as, rr⟩ := Rp.reads I (.tuple ds) _ _ h0' r
      cases r
      obtain ⟨zz, its, rv, o, e, cc, m, d⟩ := h.rd.ok I.hok
      have z2 : (tupleText (PyData.shownAll ds)).length ≤ sizeLine := by simpa only [PyData.shown] using z
      obtain ⟨bs, hb, hk⟩ := RpAll.shows I ds _ its k rv (by simpa [dOk] using c) (by simpa [PyData.showable] using sh) fun t ht => Nat.le_trans (tupleText_mem_le ht) z2
      have hna : a ∉ bs := not_mem_of_deeper rr (show PyData.depthAll ds < PyData.depth (.tuple ds) by simp only [PyData.depth]; omega) hb
      refine ⟨a :: bs, ReadAtMost.cons rr (show PyData.depthAll ds ≤ PyData.depth (.tuple ds) by simp only [PyData.depth]; omega) hb, ?_⟩
      simp only [PyData.depth, PyData.shown]
      exact ReprK.tuple e cc d hna hk
  | .dict es, v, u, h0, r, c, sh, z => by
    obtain ⟨as, h1, h2⟩ := Rp.sysm I (.dict es) _ _ h0 r (by simpa [dOk, noList] using c)
    exact ReprK.of_reads h1 sh (fun _ => h2) z
theorem RpAll.shows (I : Inv X pins σ H s) : ∀ (ds : List PyData) (vs : List V) (us : List Value), RpAll X.K R H vs ds → Vals vs us → dOkAll ds = true → PyData.showableAll ds = true → (∀ t ∈ PyData.shownAll ds, t.length ≤ sizeLine) →
    ∃ bs, ReadAtMost s.heap (PyData.depthAll ds) bs ∧ ReprAllK X.prog X.w bs s.heap (PyData.depthAll ds) us (PyData.shownAll ds)
  | [], _, _, .nil, r, _, _, _ => by
    cases r
    exact ⟨[], (fun _ h => nomatch h), by simp only [PyData.shownAll]; exact .nil⟩
  | d :: ds, _, _, .cons h t, r, c, sh, z => by
    have c2 : dOk d = true ∧ dOkAll ds = true := by simpa [dOkAll] using c
    have s2 : d.showable = true ∧ PyData.showableAll ds = true := by simpa [PyData.showableAll] using sh
    cases r with
    | cons r1 r2 =>
      obtain ⟨b1, q1, k1⟩ := Rp.shows I d _ _ h r1 c2.1 s2.1 (z _ (by simp only [PyData.shownAll]; exact List.mem_cons_self))
      obtain ⟨b2, q2, k2⟩ := RpAll.shows I ds _ _ t r2 c2.2 s2.2 fun y hy => z y (by simp only [PyData.shownAll]; exact List.mem_cons_of_mem _ hy)
      refine ⟨b1 ++ b2, fun b hm => ?_, ?_⟩
      · simp only [PyData.depthAll]
        rcases List.mem_append.mp hm with hm | hm
        · obtain ⟨d1, as1, r1, l1⟩ := q1 b hm
          exact ⟨d1, as1, r1, by omega⟩
        · obtain ⟨d1, as1, r1, l1⟩ := q2 b hm
          exact ⟨d1, as1, r1, by omega⟩
      · simp only [PyData.depthAll, PyData.shownAll]
        exact .cons ((k1.more fun b q => List.mem_append_left _ q).level_le (by omega)) (k2.more_le (fun b q => List.mem_append_right _ q) (by omega))
end
theorem Rp.showsBy (I : Inv X pins σ H s) {d : PyData} {v : V} {a : Addr} (h : Rp X.K R H v d) (r : RelV v (.ref a)) (c : dOk d = true) (sh : d.showable = true) (z : d.shown.length ≤ sizeLine) : ∃ T idr, ShowsBy X.prog X.w s.heap a d T idr := by
  obtain ⟨as, rr⟩ := Rp.reads I d _ _ h r
  have h' := h
  cases h with
  | non => cases r
  | bl b => cases r
  | int i => obtain ⟨t, e⟩ := r; cases e
  | str i => obtain ⟨t, e⟩ := r; cases e
  | @lst b xs ds hh n k =>
    cases r
    obtain ⟨zz, its, m, rv, e⟩ := I.hok _ _ hh
    have z2 : (listText (PyData.shownAll ds)).length ≤ sizeLine := by simpa only [PyData.shown] using z
    obtain ⟨bs, hb, hk⟩ := RpAll.shows I ds _ its k rv (by simpa [dOk] using c) (by simpa [PyData.showable] using sh) fun t ht => Nat.le_trans (listText_mem_le ht) z2
    have hna : a ∉ bs := not_mem_of_deeper rr (show PyData.depthAll ds < PyData.depth (.list ds) by simp only [PyData.depth]; omega) hb
    refine ⟨"list", "list.__repr__", PySem.F.slot_list_repr.toG, PySem.F.slot_list_str, PySem.F.slot_list_format, fun s2 hk0 => ⟨_, hk0 _ _ e, rfl⟩, fun A E s2 Q hg hu hk0 hQ => ?_⟩
    simp only [PyData.depth] at hu
    simp only [PyData.shown] at hQ
    cases its with
    | nil =>
      cases rv
      cases k
      simp only [PyData.shownAll, listText_nil] at hQ
      exact call_list_repr_empty ⟨_, hk0 _ _ e, rfl⟩ (hk0 _ _ e) rfl (hQ s2.heap _ _ fun _ _ q => q)
    | cons x l => exact call_list_reprK e rfl rfl hna (by simpa using hk.length_eq) (fun i y q => hk.item i y (by simpa using q)) hg (fun b _ => Clear.nil b) hu hk0 hQ z2
  | @tup b xs ds hh n k =>
    cases r
    obtain ⟨zz, its, rv, o, e, cc, m, dd⟩ := hh.rd.ok I.hok
    have z2 : (tupleText (PyData.shownAll ds)).length ≤ sizeLine := by simpa only [PyData.shown] using z
    obtain ⟨bs, hb, hk⟩ := RpAll.shows I ds _ its k rv (by simpa [dOk] using c) (by simpa [PyData.showable] using sh) fun t ht => Nat.le_trans (tupleText_mem_le ht) z2
    have hna : a ∉ bs := not_mem_of_deeper rr (show PyData.depthAll ds < PyData.depth (.tuple ds) by simp only [PyData.depth]; omega) hb
    refine ⟨"tuple", "tuple.__repr__", PySem.F.slot_tuple_repr, PySem.F.slot_tuple_str, PySem.F.slot_tuple_format, fun s2 hk0 => ⟨o, hk0 _ _ e, cc⟩, fun A E s2 Q hg hu hk0 hQ => ?_⟩
    simp only [PyData.depth] at hu
    simp only [PyData.shown] at hQ
    exact call_tuple_reprK e cc dd hna hk hg (fun b _ => Clear.nil b) hu hk0 hQ z2
  | dic hh n k =>
    obtain ⟨as, h1, h2⟩ := Rp.sysm I _ _ _ h' r (by simpa [dOk, noList] using c)
    exact showsBy_of_reads h1 sh (fun _ => h2) z
end
/-- what repr may be asked of -/
def reprOk (d : PyData) : Prop := d.showable = true ∧ dOk d = true ∧ d.depth ≤ 40 ∧ d.shown.length ≤ 1000000
open Classical in
noncomputable def fRepr : FX := fun ds S => match ds with
  | [d] => (match toPy S d with
    | some e => if reprOk e then .ok (dS e.shown) S else .bad
    | none => .bad)
  | _ => .bad
section
variable {X : Cx} {g : G}
def rReprD (K : PySem.W.Frag) : List V → Hp → VK → Prop := fun xs H Q => ∃ x d, xs = [x] ∧ Rp K R0 H x d ∧ reprOk d ∧ Q (.str d.shown) H
theorem call_reprD (hg : X.A.guards = some []) (hu : X.A.units + 64 < cLine) : CallR X (.builtin "repr") (rReprD X.K) := by
  intro pins s σ H xs us Q I r h
  obtain ⟨x, d, rfl, hx, ⟨sh, nl, dp, ln⟩, q⟩ := h
  obtain ⟨u, rfl, rx⟩ := vals1 r
  have lz : d.shown.length ≤ sizeLine := Nat.le_trans ln line_ok
  have fin : ∀ (h' : Heap) (tk : Tok) (t' : Nat), (∀ b o, s.heap.get? b = some o → h'.get? b = some o) → EP X pins σ Q (.str d.shown tk) { s with heap := h', toks := t' } := fun h' tk t' hk =>
    ⟨.str d.shown, H, I.kept (t' := t') hk, ⟨tk, rfl⟩, q⟩
  have two : ∀ a, u = .ref a → wpAny (model X.prog X.w) X.A (call (.builtin "repr") [.ref a]) (EP X pins σ Q) X.xe s := fun a e => by
    subst e
    obtain ⟨T, idr, B⟩ := Rp.showsBy I hx rx nl sh lz
    exact call_repr_slot (by omega) (B.typeIs s fun _ _ e => e) B.slotRepr (B.call X.A.in1 _ s _ hg (by show X.A.units + 1 + d.depth < cLine; omega) (fun _ _ e => e) fun h' u tk hk => ⟨_, _, rfl, fin h' u tk hk⟩)
  cases hx with
  | non => cases rx; exact P.repr_of_none (fin _ _ _ fun _ _ e => e)
  | bl b => cases rx; exact P.repr_of_bool (fin _ _ _ fun _ _ e => e)
  | int i => obtain ⟨t, rfl⟩ := rx; exact P.repr_of_int (by simpa [PyData.showable] using sh) (fin _ _ _ fun _ _ e => e)
  | str i => obtain ⟨t, rfl⟩ := rx; exact P.repr_of_str (fin _ _ _ fun _ _ e => e) lz
  | lst a b c => cases rx; exact two _ rfl
  | tup a b c => cases rx; exact two _ rfl
  | dic a b c => cases rx; exact two _ rfl
theorem cbRepr (hg : X.A.guards = some []) (hu : X.A.units + 64 < cLine) : CB X g (.builtin "repr") fRepr := ⟨fun hK => ⟨_, call_reprD hg hu, fun W R S H vs ds Q rs rv h => by
  unfold fRepr at h
  split at h
  · split at h
    · rename_i e he
      split at h
      · obtain ⟨v, rfl, r⟩ := rds1 rv
        rw [← hK]
        exact ⟨v, e, rfl, toPy_ok rs r he, by assumption, post_now rs (RD.str _) h⟩
      · exact h.elim
    · exact h.elim
  · exact h.elim⟩⟩
end

/-! ### methods of built-in types -/
theorem tyv_ok {g : G} {R : RR} {S : Sto} {H : Hp} (rs : RS g R S H) {v : V} {d : D} (r : RD g.K R H v d) {t : String} (h : tyD S d = some t) (ht : t = "list" ∨ t = "str" ∨ t = "dict" ∨ t = "int") : tyV g.K t v H := by
  cases d with
  | py d =>
    cases h
    cases r with
    | non => exact absurd ht (by decide)
    | bl b => simp [tyOf] at ht
    | int i => exact rfl
    | str x => exact rfl
    | lst h _ _ => exact .inl ⟨rfl, _, SqL.of h⟩
    | tup h _ _ => simp [tyOf] at ht
    | dic h _ _ => exact .inr (.inr (.inl ⟨rfl, .inl ⟨_, h⟩⟩))
  | loc n =>
    obtain ⟨a, rfl, ha⟩ := r
    have h : (match S[n]? with | some (.lst _) => some "list" | some (.dK _) => some "dict" | some (.dT _) => some "dict" | _ => none) = some t := h
    split at h
    · rename_i xs q
      obtain ⟨b, hb, ro⟩ := rs_get rs q
      rw [ha] at hb; cases hb
      obtain ⟨vs, h1, h2, h3⟩ := ro
      cases h
      exact .inl ⟨rfl, _, SqL.of h1⟩
    · rename_i xs q
      obtain ⟨b, hb, ro⟩ := rs_get rs q
      rw [ha] at hb; cases hb
      obtain ⟨vs, h1, h2⟩ := ro
      cases h
      exact .inr (.inr (.inl ⟨rfl, .inl ⟨_, h1⟩⟩))
    · rename_i xs q
      obtain ⟨b, hb, ro⟩ := rs_get rs q
      rw [ha] at hb; cases hb
      obtain ⟨vs, h1, h2⟩ := ro
      cases h
      exact .inr (.inr (.inl ⟨rfl, .inr ⟨_, h1⟩⟩))
    · cases h
  | scr ns => cases h
abbrev MX := D → List D → Sto → Res D
structure MB (X : Cx) (g : G) (mid : String) (o : MX) : Prop where
  run : g.K = X.K → ∃ r : V → List V → Hp → VK → Prop, MtR X mid r ∧ ∀ (W : XK) R S H v d vs ds Q, RS g R S H → RD g.K R H v d → RDs g.K R H vs ds → Post g W R H (PV g) (o d ds S) Q → r v vs H Q
def xBM (T : String) (o : MX) (f : EX) (k : AX) : EX := fun env S => (f env S).bind fun d S1 => if tyD S1 d = some T then (k env S1).bind fun ds S2 => o d ds S2 else .bad
section
variable {X : Cx} {g : G} {W : WY} {o e : Expr} {es : List Expr} {f : EX} {k : AX} {name : Str} {apos cpos : Pos} {T mid : String} {m : MX}
theorem de_bm (pa : PlainAttrs T) (slot : Slot T name mid) (hty : typeOf (.builtin mid) = pure (.type "method_descriptor")) (hT : T = "list" ∨ T = "str" ∨ T = "dict" ∨ T = "int") (hm : MB X g mid m) (ho : DE X g W o f) (ha : DA X g W (e :: es) k)
    (hbase : attributeBase o name X.env (eval o X.env) = eval o X.env := by rfl)
    (hfew : ((backTo cpos (starEach (e :: es) X.env)).all (fun x => !x.1) && (backToKw cpos (keywordEach [] X.env)).all (fun x => x.1.isSome) && decide ((e :: es).length + ([] : List Keyword).length + (if ([] : List Keyword).isEmpty then 0 else 1) < 30)) = true := by rfl)
    (hline : (apos.endLine == cpos.line) = true := by rfl) (hs : starEach (e :: es) X.env = (false, eval e X.env) :: starEach es X.env := by rfl) (hplain : (backTo cpos (starEach es X.env)).any (·.1) = false := by rfl) :
    DE X g W (.Call (.Attribute o name apos) (e :: es) [] cpos) (xBM T m f k) :=
  ⟨fun hK => by
    obtain ⟨r, hr, h⟩ := hm.run hK
    refine (pe_bm pa slot hty hr (ho.pe hK) (ha.pa hK) hbase hfew hline hs hplain).imp fun σ H Q ⟨R, env, S, rs, re, q⟩ => ?_
    refine tD_bind rs re q fun d S1 x H1 R1 s1 rs1 re1 rx q1 => ?_
    split at q1
    · rename_i ht
      refine ⟨by rw [← hK]; exact tyv_ok rs1 rx ht hT, tDA_bind rs1 re1 q1 fun ds S2 vs H2 R2 s2 rs2 re2 rv q2 => ?_⟩
      exact h _ R2 S2 H2 x d vs ds Q rs2 (rx.step s2) rv q2
    · exact q1.elim⟩
theorem de_bm0 (pa : PlainAttrs T) (slot : Slot T name mid) (hty : typeOf (.builtin mid) = pure (.type "method_descriptor")) (hT : T = "list" ∨ T = "str" ∨ T = "dict" ∨ T = "int") (hm : MB X g mid m) (ho : DE X g W o f)
    (hbase : attributeBase o name X.env (eval o X.env) = eval o X.env := by rfl) (hline : (apos.endLine == cpos.line) = true := by rfl) :
    DE X g W (.Call (.Attribute o name apos) [] [] cpos) (xBM T m f xNil) :=
  ⟨fun hK => by
    obtain ⟨r, hr, h⟩ := hm.run hK
    refine (pe_bm0 pa slot hty hr (ho.pe hK) hbase hline).imp fun σ H Q ⟨R, env, S, rs, re, q⟩ => ?_
    refine tD_bind rs re q fun d S1 x H1 R1 s1 rs1 re1 rx q1 => ?_
    split at q1
    · rename_i ht
      exact ⟨by rw [← hK]; exact tyv_ok rs1 rx ht hT, h _ R1 S1 H1 x d [] [] Q rs1 rx .nil q1⟩
    · exact q1.elim⟩
/-- the store's list at n is replaced -/
theorem Stp.write {R : RR} {S : Sto} {H : Hp} {a : Addr} {o : HO} (rs : RS g R S H) (h : a ∈ R.l) : Stp R H R (upd H a o) :=
  ⟨List.prefix_refl _, fun _ m n => absurd m n, fun b u n e => by rw [upd_ne (fun q => n (by rw [q]; exact Or.inl h))]; exact e, fun b hb => ⟨hb, upd_ne fun q => (rs.hid b hb).1 (by rw [q]; exact h)⟩⟩
theorem RS.write {R : RR} {S : Sto} {H : Hp} {n : Nat} {a : Addr} {o : HO} {u : SO} (rs : RS g R S H) (ha : R.l[n]? = some a) (nown : ∀ b x, H b = some (.own x) → b ≠ a) (ro : RO g R (upd H a o) a u) : RS g R (S.set n u) (upd H a o) := by
  have hm := List.mem_of_getElem? ha
  refine ⟨by simp [rs.len], rs.nd, fun b hb => ?_, fun k b w hb hw => ?_⟩
  · obtain ⟨n1, u1, e1⟩ := rs.hid b hb
    exact ⟨n1, u1, (upd_ne fun q => n1 (by rw [q]; exact hm)).trans e1⟩
  by_cases hk : n = k
  · subst hk
    rw [ha] at hb; cases hb
    have hn : n < S.length := by rw [← rs.len]; exact (List.getElem?_eq_some_iff.mp ha).1
    rw [List.getElem?_set_self hn] at hw; cases hw
    exact ro
  · rw [List.getElem?_set_ne hk] at hw
    have hne : b ≠ a := fun e => by
      subst e
      exact hk ((List.getElem?_inj (List.getElem?_eq_some_iff.mp ha).1 rs.nd).mp (ha.trans hb.symm))
    exact (rs.obj k b w hb hw).keep (Stp.write rs hm) (upd_ne hne)
theorem loc_get {R : RR} {S : Sto} {H : Hp} (rs : RS g R S H) {v : V} {n : Nat} {o : SO} (r : RD g.K R H v (.loc n)) (e : S[n]? = some o) : ∃ a, v = .ref a ∧ R.l[n]? = some a ∧ RO g R H a o := by
  obtain ⟨a, rfl, ha⟩ := r
  obtain ⟨b, hb, ro⟩ := rs_get rs e
  rw [ha] at hb; cases hb
  exact ⟨a, rfl, ha, ro⟩
theorem lst_write {W : XK} {R : RR} {S : Sto} {H : Hp} {n : Nat} {a : Addr} {vs : List V} {xs : List D} {xs0 : List V} {v : V} {d : D} {Q : VK} (rs : RS g R S H) (ha : R.l[n]? = some a) (h0 : H a = some (.lst xs0)) (rv : RDs g.K R H vs xs) (hl : xs.length ≤ sizeLine) (rd : RD g.K R H v d)
    (h : Post g W R H (PV g) (.ok d (S.set n (.lst xs))) Q) : Q v (upd H a (.lst vs)) := by
  have hm := List.mem_of_getElem? ha
  exact h v _ R (Stp.write rs hm) (rs.write ha (fun b x e q => by subst q; rw [h0] at e; cases e) ⟨vs, upd_same, by rw [rv.len]; exact hl, rv.step (Stp.write rs hm)⟩) (rd.step (Stp.write rs hm))
def mAppend : MX := fun d ds S => match d, ds with
  | .loc n, [x] => (match S[n]? with
    | some (.lst xs) => if xs.length < 1000000 then .ok dN (S.set n (.lst (xs ++ [x]))) else .bad
    | _ => .bad)
  | _, _ => .bad
theorem mbAppend : MB X g "list.append" mAppend := ⟨fun hK => ⟨_, mt_append, fun W R S H v d vs ds Q rs rd rv h => by
  unfold mAppend at h
  split at h
  · split at h
    · rename_i q
      split at h
      · rename_i hl
        obtain ⟨w, rfl, rw'⟩ := rds1 rv
        obtain ⟨a, rfl, ha, vs, h1, h2, h3⟩ := loc_get rs rd q
        refine ⟨a, vs, w, rfl, rfl, h1, by rw [h3.len]; exact Nat.lt_of_lt_of_le hl line_ok, lst_write rs ha h1 (h3.append (.cons rw' .nil)) ?_ RD.non h⟩
        rw [List.length_append, List.length_singleton]
        exact Nat.le_trans hl line_ok
      · exact h.elim
    · exact h.elim
  · exact h.elim⟩⟩
def mPopAt : MX := fun d ds S => match d, ds with
  | .loc n, [.py (.int i)] => (match S[n]? with
    | some (.lst xs) => if 0 ≤ i ∧ i < xs.length ∧ xs.length ≤ 1000000 then (match xs[i.toNat]? with
      | some y => .ok y (S.set n (.lst (xs.eraseIdx i.toNat)))
      | none => .bad) else .bad
    | _ => .bad)
  | _, _ => .bad
theorem mbPopAt : MB X g "list.pop" mPopAt := ⟨fun hK => ⟨_, mt_popAt, fun W R S H v d vs ds Q rs rd rv h => by
  unfold mPopAt at h
  split at h
  · rename_i n i
    split at h
    · rename_i xs q
      split at h
      · rename_i hl
        split at h
        · rename_i y hy
          obtain ⟨w, rfl, rw'⟩ := rds1 rv
          cases rw'
          obtain ⟨a, rfl, ha, vs, h1, h2, h3⟩ := loc_get rs rd q
          obtain ⟨z, hz, rz⟩ := h3.get hy
          have hlen := h3.len
          refine ⟨a, vs, i, i.toNat, z, rfl, rfl, h1, by omega, by omega, ?_, hz, lst_write rs ha h1 (h3.erase _) ?_ rz h⟩
          · have q3 : ixN vs.length i = some i.toNat := by
              unfold ixN
              rw [if_pos hl.1, if_pos (by rw [hlen]; exact hl.2.1)]
            exact (ixN_seq q3).1
          · have := List.length_eraseIdx_le xs i.toNat
            have := line_ok
            omega
        · exact h.elim
      · exact h.elim
    · exact h.elim
  · exact h.elim⟩⟩
def mPop : MX := fun d ds S => match d, ds with
  | .loc n, [] => (match S[n]? with
    | some (.lst xs) => if xs.length ≤ 1000000 then (match xs[xs.length - 1]? with
      | some y => .ok y (S.set n (.lst xs.dropLast))
      | none => .bad) else .bad
    | _ => .bad)
  | _, _ => .bad
theorem rds_dropLast {K : PySem.W.Frag} {R : RR} {H : Hp} : ∀ {vs : List V} {ds : List D}, RDs K R H vs ds → RDs K R H vs.dropLast ds.dropLast
  | _, _, .nil => .nil
  | _, _, .cons _ .nil => .nil
  | _, _, .cons h (.cons h2 t) => .cons h (rds_dropLast (.cons h2 t))
theorem mbPop : MB X g "list.pop" mPop := ⟨fun hK => ⟨_, mt_pop, fun W R S H v d vs ds Q rs rd rv h => by
  unfold mPop at h
  split at h
  · split at h
    · rename_i xs q
      split at h
      · rename_i hl
        split at h
        · rename_i y hy
          cases rv
          obtain ⟨a, rfl, ha, vs, h1, h2, h3⟩ := loc_get rs rd q
          obtain ⟨z, hz, rz⟩ := h3.get hy
          rw [← h3.len] at hz
          refine ⟨a, vs, z, rfl, rfl, h1, hz, lst_write rs ha h1 (rds_dropLast h3) ?_ rz h⟩
          have := line_ok
          rw [List.length_dropLast]
          omega
        · exact h.elim
      · exact h.elim
    · exact h.elim
  · exact h.elim⟩⟩
end

/-! ### targets -/
inductive Tg where
  | nm (i : Nat)
  | tp (xs : List Tg)
mutual
def bindT (S : Sto) : Tg → D → Envr → Option Envr
  | .nm i, d, env => some (env.set i (some d))
  | .tp ts, d, env => match seqOf S d with
    | some (_, ds) => bindTs S ts ds env
    | none => none
def bindTs (S : Sto) : List Tg → List D → Envr → Option Envr
  | [], [], env => some env
  | t :: ts, d :: ds, env => match bindT S t d env with
    | some env1 => bindTs S ts ds env1
    | none => none
  | _, _, _ => none
end
mutual
def gT (K : PySem.W.Frag) : Tg → TG
  | .nm i => gName i
  | .tp ts => fun v σ H Q => gTup K ts.length (gTs K ts) v σ H Q ∨ gUnl K ts.length (gTs K ts) v σ H Q
def gTs (K : PySem.W.Frag) : List Tg → TGs
  | [] => gNil
  | t :: ts => gCons (gT K t) (gTs K ts)
end
structure DG (X : Cx) (e : Expr) (t : Tg) : Prop where
  pg : PG X e (gT X.K t)
structure DGs (X : Cx) (es : List Expr) (ts : List Tg) : Prop where
  pgs : PGs X es (gTs X.K ts)
section
variable {X : Cx} {g : G} {pos : Pos}
theorem _root_.L2.PG.or {e : Expr} {t u : TG} (h : PG X e t) (k : PG X e u) : PG X e (fun v σ H Q => t v σ H Q ∨ u v σ H Q) :=
  ⟨fun pins s σ H v w Q I r q => q.elim (h.run pins s σ H v w Q I r) (k.run pins s σ H v w Q I r)⟩
theorem dg_nm {i : Nat} {x : Str} (hN : X.N.Nodup) (hi : X.N[i]? = some x) (hx : Loc X.env.scope x) (hf : X.fn x = true ∨ X.env.scope.names.lookup x = some .local := by first | exact .inl rfl | exact .inr rfl | assumption) : DG X (.Name x pos) (.nm i) := ⟨pg_name hN hi hx hf⟩
theorem dgs_nil : DGs X [] [] := ⟨pgs_nil⟩
theorem dgs_cons {e : Expr} {es : List Expr} {t : Tg} {ts : List Tg} (h1 : DG X e t) (h2 : DGs X es ts) (hs : (assignEach (e :: es) X.env).map (·.2) = assign e X.env :: (assignEach es X.env).map (·.2) := by rfl) : DGs X (e :: es) (t :: ts) := ⟨pgs_cons h1.pg h2.pgs hs⟩
theorem dg_tp {es : List Expr} {k : Nat} {ts : List Tg} (hc : X.calm = true) (h : DGs X es ts) (hn : (assignEach es X.env).length = ts.length := by rfl) (hst : (assignEach es X.env).findIdx? (·.1) = none := by rfl) : DG X (.Tuple es k pos) (.tp ts) :=
  ⟨(pg_tup hc h.pgs hn hst).or (pg_unl hc h.pgs hn hst)⟩
mutual
theorem bindT_ok {R : RR} {S : Sto} {H : Hp} {Q : L2.St → Hp → Prop} (rs : RS g R S H) : ∀ (t : Tg) {v : V} {d : D} {σ : L2.St} {env env' : Envr}, RD g.K R H v d → RE g.K R H σ env → bindT S t d env = some env' → (∀ σ', RE g.K R H σ' env' → Q σ' H) → gT g.K t v σ H Q
  | .nm i, v, d, σ, env, env', r, re, e, k => by
    unfold bindT at e
    cases e
    unfold gT
    exact k _ (re.set r i)
  | .tp ts, v, d, σ, env, env', r, re, e, k => by
    unfold bindT at e
    split at e
    · rename_i t ds hs
      obtain ⟨a, vs, rfl, rv, kk⟩ := seq_ok rs r hs
      obtain ⟨hl, q⟩ := bindTs_ok rs ts rv re e k
      unfold gT
      cases t with
      | true => exact .inl ⟨a, vs, rfl, kk, hl, q⟩
      | false => exact .inr ⟨a, vs, rfl, kk, hl, q⟩
    · cases e
theorem bindTs_ok {R : RR} {S : Sto} {H : Hp} {Q : L2.St → Hp → Prop} (rs : RS g R S H) : ∀ (ts : List Tg) {vs : List V} {ds : List D} {σ : L2.St} {env env' : Envr}, RDs g.K R H vs ds → RE g.K R H σ env → bindTs S ts ds env = some env' → (∀ σ', RE g.K R H σ' env' → Q σ' H) →
    vs.length = ts.length ∧ gTs g.K ts vs σ H Q
  | [], _, _, σ, env, env', .nil, re, e, k => by
    unfold bindTs at e
    cases e
    unfold gTs
    exact ⟨rfl, rfl, k σ re⟩
  | [], _, _, σ, env, env', .cons _ _, re, e, k => by
    unfold bindTs at e
    cases e
  | t :: ts, _, _, σ, env, env', .nil, re, e, k => by
    unfold bindTs at e
    cases e
  | t :: ts, v :: vs, d :: ds, σ, env, env', .cons h hr, re, e, k => by
    unfold bindTs at e
    split at e
    · rename_i env1 h1
      have hl : vs.length = ts.length := by
        have := bindTs_len e
        rw [RDs.len hr, this]
      refine ⟨by simp [hl], ?_⟩
      unfold gTs
      refine ⟨v, vs, rfl, bindT_ok rs t h re h1 fun σ1 re1 => (bindTs_ok rs ts hr re1 e k).2⟩
    · cases e
theorem bindTs_len {S : Sto} : ∀ {ts : List Tg} {ds : List D} {env env' : Envr}, bindTs S ts ds env = some env' → ds.length = ts.length
  | [], [], _, _, _ => rfl
  | [], _ :: _, _, _, e => by unfold bindTs at e; cases e
  | _ :: _, [], _, _, e => by unfold bindTs at e; cases e
  | t :: ts, d :: ds, env, env', e => by
    unfold bindTs at e
    split at e
    · simp [bindTs_len e]
    · cases e
end
end

/-! ### statements -/
def xPass : SX := fun env S => .ok (.nx env) S
def xBrk : SX := fun env S => .ok (.bk env) S
def xCnt : SX := fun env S => .ok (.ct env) S
def xSeq (f k : SX) : SX := fun env S => match f env S with
  | .ok (.nx env1) S1 => k env1 S1
  | r => r
def xDrop (f : EX) : SX := fun env S => (f env S).bindX env fun _ S1 => .ok (.nx env) S1
def xRet (f : EX) : SX := fun env S => (f env S).bindX env fun d S1 => .ok (.rt d) S1
def xRetN : SX := fun _ S => .ok (.rt dN) S
def xIfS (c : TX) (f k : SX) : SX := fun env S => (c env S).bindX env fun b S1 => if b = true then f env S1 else k env S1
def xSet (i : Nat) (f : EX) : SX := fun env S => (f env S).bindX env fun d S1 => .ok (.nx (env.set i (some d))) S1
def xAsg (t : Tg) (f : EX) : SX := fun env S => (f env S).bindX env fun d S1 => match bindT S1 t d env with
  | some env1 => .ok (.nx env1) S1
  | none => .bad
def xPar (i j : Nat) (k : AX) : SX := fun env S => (k env S).bindX env fun ds S1 => match ds with
  | [d, e] => .ok (.nx ((env.set i (some d)).set j (some e))) S1
  | _ => .bad
def xPar3 (i j l : Nat) (k : AX) : SX := fun env S => (k env S).bindX env fun ds S1 => match ds with
  | [d, e, f] => .ok (.nx (((env.set i (some d)).set j (some e)).set l (some f))) S1
  | _ => .bad
section
variable {X : Cx} {g : G} {W : WY} {st : Stmt} {rest a b : List Stmt} {e c : Expr} {f : EX} {t : TX} {k l : SX} {pos : Pos}
theorem dss_nil : DSs X g W [] xPass := ⟨fun hK => pss_nil.imp fun D σ H ⟨R, env, S, rs, re, h⟩ => h σ H R .refl rs re⟩
theorem ds_pass : DSt X g W (.Pass pos) xPass := ⟨fun hK => ps_pass.imp fun D σ H ⟨R, env, S, rs, re, h⟩ => h σ H R .refl rs re⟩
theorem ds_break : DSt X g W (.Break pos) xBrk := ⟨fun hK => ps_break.imp fun D σ H ⟨R, env, S, rs, re, h⟩ => h σ H R .refl rs re⟩
theorem ds_continue : DSt X g W (.Continue pos) xCnt := ⟨fun hK => ps_continue.imp fun D σ H ⟨R, env, S, rs, re, h⟩ => h σ H R .refl rs re⟩
theorem postS_mono {R : RR} {H : Hp} {r : Res Fl} {D D' : Ends} (h : PostS g W R H r D) (h1 : ∀ σ H, D.nx σ H → D'.nx σ H) (h2 : ∀ v H, D.rt v H → D'.rt v H) (h3 : ∀ σ H, D.bk σ H → D'.bk σ H) (h4 : ∀ σ H, D.ct σ H → D'.ct σ H) : PostS g W R H r D' := by
  cases r with
  | ok fl S' => cases fl with
    | nx env => exact fun σ' H' R' a b c => h1 _ _ (h σ' H' R' a b c)
    | bk env => exact fun σ' H' R' a b c => h3 _ _ (h σ' H' R' a b c)
    | ct env => exact fun σ' H' R' a b c => h4 _ _ (h σ' H' R' a b c)
    | rt d => exact fun σ' H' R' a b c => h2 _ _ (h σ' H' R' a b c)
    | xc x env => exact h
  | exc _ _ => exact h
  | bad => exact h
theorem dss_cons (h1 : DSt X g W st k) (h2 : DSs X g W rest l) : DSs X g W (st :: rest) (xSeq k l) :=
  ⟨fun hK => (pss_cons (h1.ps hK) (h2.pss hK)).imp fun D σ H ⟨R, env, S, rs, re, h⟩ => by
    refine ⟨R, env, S, rs, re, ?_⟩
    unfold xSeq at h
    cases q : k env S with
    | ok fl S1 =>
      rw [q] at h
      cases fl with
      | nx env1 => exact fun σ' H' R' s' rs' re' => ⟨R', env1, S1, rs', re', PostS.step s' h⟩
      | bk env1 => exact h
      | ct env1 => exact h
      | rt d => exact h
      | xc x env1 => exact h
    | exc x S1 => rw [q] at h; exact h
    | bad => rw [q] at h; exact h⟩
theorem dss_one (h1 : DSt X g W st k) : DSs X g W [st] k := ⟨fun hK => pss_one (h1.ps hK)⟩
theorem ds_expr (he : DE X g W e f) (hs : swapsWith e none pos.line X.env = pure false := by rfl) : DSt X g W (.Expr e pos) (xDrop f) :=
  ⟨fun hK => (ps_expr (he.pe hK) hs).imp fun D σ H ⟨R, env, S, rs, re, h⟩ => tD_bindS rs re h fun d S1 v H1 R1 s1 rs1 re1 rd h1 => h1 σ H1 R1 .refl rs1 re1⟩
theorem ds_ret (he : DE X g W e f) : DSt X g W (.Return (some e) pos) (xRet f) :=
  ⟨fun hK => (ps_ret (he.pe hK)).imp fun D σ H ⟨R, env, S, rs, re, h⟩ => tD_bindS rs re h fun d S1 v H1 R1 s1 rs1 re1 rd h1 => h1 v H1 R1 .refl rs1 rd⟩
theorem ds_retN : DSt X g W (.Return none pos) xRetN := ⟨fun hK => ps_retN.imp fun D σ H ⟨R, env, S, rs, re, h⟩ => h .non H R .refl rs RD.non⟩
theorem ds_if (hc : DT X g W c t) (ha : DSs X g W a k) (hb : DSs X g W b l) : DSt X g W (.If c a b pos) (xIfS t k l) :=
  ⟨fun hK => (ps_if (hc.pt hK) (ha.pss hK) (hb.pss hK)).imp fun D σ H ⟨R, env, S, rs, re, h⟩ => tDT_bindS rs re h fun d S1 H1 R1 s1 rs1 re1 h1 => by
    cases d with
    | true => exact ⟨R1, env, S1, rs1, re1, h1⟩
    | false => exact ⟨R1, env, S1, rs1, re1, h1⟩⟩
theorem ds_set {i : Nat} {x : Str} {pos' : Pos} (hN : X.N.Nodup) (hi : X.N[i]? = some x) (hx : Loc X.env.scope x) (he : DE X g W e f) (hs : swapsWith e (some (.Name x pos')) pos.line X.env = pure false := by rfl) (hf : X.fn x = true ∨ X.env.scope.names.lookup x = some .local := by first | exact .inl rfl | exact .inr rfl | assumption) :
    DSt X g W (.Assign [.Name x pos'] e pos) (xSet i f) :=
  ⟨fun hK => (ps_set hN hi hx (he.pe hK) hs hf).imp fun D σ H ⟨R, env, S, rs, re, h⟩ => tD_bindS rs re h fun d S1 v H1 R1 s1 rs1 re1 rd h1 => h1 _ H1 R1 .refl rs1 (re1.set rd i)⟩
theorem ds_asg {tg : Expr} {t : Tg} (hg : DG X tg t) (he : DE X g W e f) (hs : swapsWithSole [tg] e pos.line X.env = pure false := by rfl) (hw : swappedStores [tg] e X.env = pure none := by rfl) (h1 : (assignEach [tg] X.env).map (·.2) = [assign tg X.env] := by rfl) :
    DSt X g W (.Assign [tg] e pos) (xAsg t f) :=
  ⟨fun hK => (ps_asg (he.pe hK) hg.pg hs hw h1).imp fun D σ H ⟨R, env, S, rs, re, h⟩ => tD_bindS rs re h fun d S1 v H1 R1 s1 rs1 re1 rd h1 => by
    split at h1
    · rename_i env1 q
      rw [← hK]
      exact bindT_ok rs1 t rd re1 q fun σ' re' => h1 σ' H1 R1 .refl rs1 re'
    · exact h1.elim⟩
theorem ds_par {i j : Nat} {x y : Str} {a b : Expr} {ka : AX} {px py pt : Pos} {kt k2 pt2} (hc : X.calm = true) (hN : X.N.Nodup) (hi : X.N[i]? = some x) (hj : X.N[j]? = some y) (hij : i ≠ j) (hx : X.env.scope.names.lookup x = some .local) (hy : X.env.scope.names.lookup y = some .local) (ha : DA X g W [a, b] ka)
    (hw : swappedStores [.Tuple [.Name x px, .Name y py] kt pt] (.Tuple [a, b] k2 pt2) X.env = pure (some [x, y])) (hs : swapsWithSole [.Tuple [.Name x px, .Name y py] kt pt] (.Tuple [a, b] k2 pt2) pos.line X.env = pure false := by rfl) :
    DSt X g W (.Assign [.Tuple [.Name x px, .Name y py] kt pt] (.Tuple [a, b] k2 pt2) pos) (xPar i j ka) :=
  ⟨fun hK => (ps_par hc hN hi hj hij hx hy (ha.pa hK) hw hs).imp fun D σ H ⟨R, env, S, rs, re, h⟩ => ⟨R, env, S, rs, re, PostS.bind re h fun ds S1 vs H1 R1 _ s1 rs1 rv h1 => by
    have rv : RDs g.K R1 H1 vs ds := rv
    split at h1
    · obtain ⟨v, w, rfl, r1, r2⟩ := rds2 rv
      exact ⟨v, w, rfl, h1 _ H1 R1 .refl rs1 (((re.step s1).set r1 i).set r2 j)⟩
    · exact h1.elim⟩⟩
theorem ds_par3 {i j m : Nat} {x y z : Str} {a b c : Expr} {ka : AX} {px py pz pt : Pos} {kt k2 pt2} (hc : X.calm = true) (hN : X.N.Nodup) (hi : X.N[i]? = some x) (hj : X.N[j]? = some y) (hl : X.N[m]? = some z) (hij : i ≠ j) (hil : i ≠ m) (hjl : j ≠ m)
    (hx : X.env.scope.names.lookup x = some .local) (hy : X.env.scope.names.lookup y = some .local) (hz : X.env.scope.names.lookup z = some .local) (ha : DA X g W [a, b, c] ka)
    (hw : swappedStores [.Tuple [.Name x px, .Name y py, .Name z pz] kt pt] (.Tuple [a, b, c] k2 pt2) X.env = pure (some [x, y, z])) (hs : swapsWithSole [.Tuple [.Name x px, .Name y py, .Name z pz] kt pt] (.Tuple [a, b, c] k2 pt2) pos.line X.env = pure false := by rfl) :
    DSt X g W (.Assign [.Tuple [.Name x px, .Name y py, .Name z pz] kt pt] (.Tuple [a, b, c] k2 pt2) pos) (xPar3 i j m ka) :=
  ⟨fun hK => (ps_par3 hc hN hi hj hl hij hil hjl hx hy hz (ha.pa hK) hw hs).imp fun D σ H ⟨R, env, S, rs, re, h⟩ => ⟨R, env, S, rs, re, PostS.bind re h fun ds S1 vs H1 R1 _ s1 rs1 rv h1 => by
    have rv : RDs g.K R1 H1 vs ds := rv
    split at h1
    · cases rv with
      | cons r1 t =>
        obtain ⟨v, w, rfl, r2, r3⟩ := rds2 t
        exact ⟨_, v, w, rfl, h1 _ H1 R1 .refl rs1 ((((re.step s1).set r1 i).set r2 j).set r3 m)⟩
    · exact h1.elim⟩⟩
end
end DL
end
section
set_option maxRecDepth 100000
set_option maxHeartbeats 1000000
/-! DL5: stores into lists, loops, comprehensions, the calls of defs. -/
namespace DL
open PySem PySem.Spec PyProof.Rows L2

/-! ### o[i] = e, o a mutable list -/
def dSetL (o i v : D) (S : Sto) : Option Sto := match o, i with
  | .loc n, .py (.int k) => (match S[n]? with
    | some (.lst xs) => (match ixN xs.length k with
      | some j => if xs.length ≤ 1000000 then some (S.set n (.lst (xs.set j v))) else none
      | none => none)
    | _ => none)
  | _, _ => none
def xStore (fo fi fe : EX) : SX := fun env S => (fe env S).bindX env fun v S1 => (fo env S1).bindX env fun o S2 => (fi env S2).bindX env fun i S3 => match dSetL o i v S3 with
  | some S4 => .ok (.nx env) S4
  | none => .bad
section
variable {X : Cx} {g : G} {W : WY} {o i e : Expr} {fo fi fe : EX} {pos pos' : Pos}
theorem ds_store (ho : DE X g W o fo) (hi : DE X g W i fi) (he : DE X g W e fe)
    (ha : ∀ v, assign (.Subscript o i pos') X.env v = (do
      let ov ← holding [v] (eval o X.env)
      let iv ← holding [v, ov] (eval i X.env)
      standAt pos'
      holding [v, ov, iv] (setItem ov iv v)
      release [v, ov, iv] []) := by intro _; rfl)
    (hs : swapsWithSole [.Subscript o i pos'] e pos.line X.env = pure false := by rfl) (hw : swappedStores [.Subscript o i pos'] e X.env = pure none := by rfl) (h1 : (assignEach [Expr.Subscript o i pos'] X.env).map (·.2) = [assign (.Subscript o i pos') X.env] := by rfl) :
    DSt X g W (.Assign [.Subscript o i pos'] e pos) (xStore fo fi fe) :=
  ⟨fun hK => (ps_asg (he.pe hK) (pg_sub (ho.pe hK) (hi.pe hK) set_list ha) hs hw h1).imp fun D σ H ⟨R, env, S, rs, re, h⟩ => tD_bindS rs re h fun v S1 xv H1 R1 s1 rs1 re1 rv h1 =>
    tD_bindS rs1 re1 h1 fun o S2 xo H2 R2 s2 rs2 re2 ro h2 => tD_bindS rs2 re2 h2 fun i S3 xi H3 R3 s3 rs3 re3 ri h3 => by
      split at h3
      · rename_i S4 q
        unfold dSetL at q
        split at q
        · rename_i n k
          split at q
          · rename_i xs hx
            split at q
            · rename_i j hj
              split at q
              · rename_i hl
                cases q
                cases ri
                obtain ⟨a, rfl, ha, vs, e1, e2, e3⟩ := loc_get rs3 (RD.step s3 ro) hx
                refine ⟨a, vs, k, j, rfl, rfl, e1, by rw [e3.len]; exact hj, ?_⟩
                have hm := List.mem_of_getElem? ha
                have rv3 := (rv.step s2).step s3
                have st : Stp R3 H3 R3 (upd H3 a (.lst (vs.set j xv))) := Stp.write rs3 hm
                have q3 := e3.set rv3 j
                exact h3 σ _ R3 st (rs3.write ha (fun b x e q => by subst q; rw [e1] at e; cases e) ⟨_, upd_same, by rw [q3.len, List.length_set]; exact Nat.le_trans hl line_ok, q3.step st⟩) (re3.step st)
              · cases q
            · cases q
          · cases q
        · cases q
      · exact h3.elim⟩
end

/-! ### what is walked -/
/-- the items, and the mutable list that must stand while they are walked -/
abbrev IX := Envr → Sto → Res (List D × Option (Nat × List D))
def Stays (o : Option (Nat × List D)) (S : Sto) : Prop := match o with
  | none => True
  | some (n, xs) => S[n]? = some (.lst xs)
structure IsIt (g : G) (R : RR) (H : Hp) (J : It) (xs : List D) (o : Option (Nat × List D)) : Prop where
  ex : ∃ (Gd : Hp → Prop) (Y : Nat → Hp → V → Hp → Prop), Walk J xs.length Gd Y ∧ (∀ R' S' H', Stp R H R' H' → RS g R' S' H' → Stays o S' → Gd H') ∧
    ∀ i R1 S1 H1 v H2, i < xs.length → Stp R H R1 H1 → RS g R1 S1 H1 → Stays o S1 → Y i H1 v H2 → ∃ d, xs[i]? = some d ∧ Stp R1 H1 R1 H2 ∧ RS g R1 S1 H2 ∧ RD g.K R1 H2 v d
def PIt (g : G) : RR → Hp → It → (List D × Option (Nat × List D)) → Prop := fun R H J p => IsIt g R H J p.1 p.2
def tDI (g : G) (W : WY) (f : IX) : TI := fun σ H Q => ∃ R env S, RS g R S H ∧ RE g.K R H σ env ∧ Post g (wAt W σ) R H (PIt g) (f env S) (fun J H' => Q J H')
structure DI (X : Cx) (g : G) (W : WY) (tg it : Expr) (f : IX) : Prop where
  pi : g.K = X.K → PI X tg it (tDI g W f)
theorem _root_.L2.PI.imp {X : Cx} {tg e : Expr} {t t' : TI} (h : PI X tg e t) (k : ∀ σ H Q, t' σ H Q → t σ H Q) : PI X tg e t' := ⟨fun pins s σ H Q I q => h.run pins s σ H Q I (k _ _ _ q)⟩
theorem _root_.L2.PI.or {X : Cx} {tg e : Expr} {t t' : TI} (h : PI X tg e t) (k : PI X tg e t') : PI X tg e (fun σ H Q => t σ H Q ∨ t' σ H Q) := ⟨fun pins s σ H Q I q => q.elim (h.run pins s σ H Q I) (k.run pins s σ H Q I)⟩
section
variable {X : Cx} {g : G} {W : WY} {tg e e2 : Expr} {f f2 : EX} {pos p : Pos}
theorem it_list {R : RR} {H : Hp} {a : Addr} {vs : List V} {ds : List PyData} (h : H a = some (.lst vs)) (n : a ∉ R) (k : RpAll g.K R H vs ds) : IsIt g R H (Itl g.K a) (ds.map .py) none :=
  ⟨⟨fun H => SqL g.K H a vs, YAt vs, (by rw [List.length_map, ← k.length]; exact walk_list (K := g.K) (a := a) (xs := vs)), fun R' S' H' s _ _ => SqL.of (s.keep _ _ n h), fun i R1 S1 H1 v H2 _ s rs _ ⟨e, y⟩ => by
    subst e
    obtain ⟨d, h1, h2⟩ := (k.step s).get' y
    exact ⟨.py d, by rw [List.getElem?_map, h1]; rfl, .refl, rs, h2⟩⟩⟩
theorem it_tup {R : RR} {H : Hp} {a : Addr} {vs : List V} {ds : List PyData} (h : TupR H a vs ds) (n : a ∉ R) (k : RpAll g.K R H vs ds) : IsIt g R H (Itt g.K a) (ds.map .py) none :=
  ⟨⟨fun H => SqT g.K H a vs, YAt vs, (by rw [List.length_map, ← k.length]; exact walk_tup (K := g.K) (a := a) (xs := vs)), fun R' S' H' s _ _ => (h.keep fun _ e => s.keep _ _ n e).sq, fun i R1 S1 H1 v H2 _ s rs _ ⟨e, y⟩ => by
    subst e
    obtain ⟨d, h1, h2⟩ := (k.step s).get' y
    exact ⟨.py d, by rw [List.getElem?_map, h1]; rfl, .refl, rs, h2⟩⟩⟩
theorem it_scr {R : RR} {H : Hp} {v : V} {ns : List Int} (r : RD g.K R H v (.scr ns)) : ∃ a, v = .ref a ∧ SqL g.K H a (ns.map V.int) ∧ IsIt g R H (Itl g.K a) (ns.map fun i => .py (.int i)) none := by
  obtain ⟨a, e, h⟩ := id r
  obtain ⟨b, e2, h2⟩ := RD.scr r
  have : b = a := by rw [e] at e2; injection e2 with e2; exact e2.symm
  subst this
  have wl := walk_list (K := g.K) (a := b) (xs := ns.map V.int)
  rw [List.length_map] at wl
  refine ⟨b, e, h2, ⟨fun H => SqL g.K H b (ns.map V.int), YAt (ns.map V.int), (by rw [List.length_map]; exact wl), fun R' S' H' s _ _ => ?_, fun i R1 S1 H1 v H2 _ s rs _ ⟨e, y⟩ => ?_⟩⟩
  · rcases h with h | h
    · exact .inl (s.rd h.2 h.1).1
    · exact h H'
  · subst e
    rw [List.getElem?_map] at y
    cases q : ns[i]? with
    | none => rw [q] at y; cases y
    | some z =>
      rw [q] at y; cases y
      exact ⟨dI z, by rw [List.getElem?_map, q]; rfl, .refl, rs, RD.int z⟩
/-- a mutable list, at its place -/
theorem it_loc {R : RR} {S : Sto} {H : Hp} {n : Nat} {a : Addr} {xs : List D} (rs : RS g R S H) (ha : R.l[n]? = some a) (hx : S[n]? = some (.lst xs)) : IsIt g R H (Itl g.K a) xs (some (n, xs)) := by
  have get : ∀ R' S' H', Stp R H R' H' → RS g R' S' H' → Stays (some (n, xs)) S' → ∃ vs, H' a = some (.lst vs) ∧ RDs g.K R' H' vs xs := fun R' S' H' s rs' st => by
    obtain ⟨vs, h1, _, h3⟩ := rs'.obj n a _ (pre_get s.pre ha) st
    exact ⟨vs, h1, h3⟩
  refine ⟨fun H' => ∃ vs, SqL g.K H' a vs ∧ vs.length = xs.length, fun i H1 v H2 => H2 = H1 ∧ ∀ vs, SqL g.K H1 a vs → vs[i]? = some v, ⟨fun i H' hi ⟨vs, q, l⟩ => ⟨vs, vs[i], q, by simp [l, hi]⟩, fun H' ⟨vs, q, l⟩ => ⟨vs, q, Nat.le_of_eq l⟩, fun i H1 v H2 hi _ y => y⟩, fun R' S' H' s rs' st => ?_, fun i R1 S1 H1 v H2 _ s rs' st ⟨e, y⟩ => ?_⟩
  · obtain ⟨vs, h1, h2⟩ := get R' S' H' s rs' st
    exact ⟨vs, SqL.of h1, h2.len⟩
  · obtain ⟨vs, h1, h2⟩ := get R1 S1 H1 s rs' st
    have hv := y vs (SqL.of h1)
    subst e
    have hi : i < xs.length := by rw [← h2.len]; exact (List.getElem?_eq_some_iff.mp hv).1
    obtain ⟨w, hw, rw'⟩ := h2.get (show xs[i]? = some xs[i] by simp [hi])
    rw [hv] at hw; cases hw
    exact ⟨xs[i], by simp [hi], .refl, rs', rw'⟩
def iSeq (d : D) (S : Sto) : Res (List D × Option (Nat × List D)) := match d with
  | .py (.list ds) => .ok (ds.map .py, none) S
  | .py (.tuple ds) => .ok (ds.map .py, none) S
  | .loc n => (match S[n]? with | some (.lst xs) => .ok (xs, some (n, xs)) S | _ => .bad)
  | .scr ns => .ok (ns.map fun i => .py (.int i), none) S
  | _ => .bad
def xIt (f : EX) : IX := fun env S => (f env S).bind iSeq
theorem di_seq (h : DE X g W e f) : DI X g W tg e (xIt f) :=
  ⟨fun hK => ((pi_list (h.pe hK)).or (pi_tup (h.pe hK))).imp fun σ H Q ⟨R, env, S, rs, re, q⟩ => by
    by_cases c : ∃ ds S1, f env S = .ok (.py (.tuple ds)) S1
    · refine .inr (tD_bindE rs re q fun d S1 v H1 R1 e1 s1 rs1 re1 rd q1 => ?_)
      obtain ⟨ds, S2, e⟩ := c
      rw [e] at e1
      cases e1
      cases rd with
      | tup h1 n1 k1 =>
        rw [← hK]
        exact ⟨_, rfl, ⟨_, h1.sq⟩, q1 _ H1 R1 .refl rs1 (it_tup h1 n1 k1)⟩
    · refine .inl (tD_bindE rs re q fun d S1 v H1 R1 e1 s1 rs1 re1 rd q1 => ?_)
      cases d with
      | py d =>
        cases rd with
        | lst h1 n1 k1 =>
          rw [← hK]
          exact ⟨_, rfl, ⟨_, SqL.of h1⟩, q1 _ H1 R1 .refl rs1 (it_list h1 n1 k1)⟩
        | tup h1 n1 k1 => exact absurd ⟨_, _, e1⟩ c
        | _ => exact q1.elim
      | loc n =>
        have q1 : Post g (wAt W σ) R1 H1 (PIt g) (match S1[n]? with | some (.lst xs) => .ok (xs, some (n, xs)) S1 | _ => .bad) (fun J H' => Q J H') := q1
        split at q1
        · rename_i xs hx
          obtain ⟨a, rfl, ha, vs, h1, h2, h3⟩ := loc_get rs1 rd hx
          rw [← hK]
          exact ⟨a, rfl, ⟨_, SqL.of h1⟩, q1 _ H1 R1 .refl rs1 (it_loc rs1 ha hx)⟩
        · exact q1.elim
      | scr ns =>
        obtain ⟨a, rfl, h1, h2⟩ := it_scr rd
        rw [← hK]
        exact ⟨a, rfl, ⟨_, h1⟩, q1 _ H1 R1 .refl rs1 h2⟩⟩
/-- range(n), range(a, b), range(a, b, c) with c > 0 -/
def iR1 (ds : List D) (S : Sto) : Res (List D × Option (Nat × List D)) := match ds with
  | [.py (.int n)] => if -1000000000 ≤ n ∧ n ≤ 1000000000 then .ok ((rgI 0 n).map fun i => .py (.int i), none) S else .bad
  | _ => .bad
def iR2 (ds : List D) (S : Sto) : Res (List D × Option (Nat × List D)) := match ds with
  | [.py (.int m), .py (.int n)] => if (-1000000000 ≤ m ∧ m ≤ 1000000000) ∧ -1000000000 ≤ n ∧ n ≤ 1000000000 then .ok ((rgI m n).map fun i => .py (.int i), none) S else .bad
  | _ => .bad
def xRg1 (k : AX) : IX := fun env S => (k env S).bind iR1
def xRg2 (k : AX) : IX := fun env S => (k env S).bind iR2
theorem it_range {R : RR} {H : Hp} (a b : Int) : IsIt g R H (Itr a (b - a).toNat) ((rgI a b).map fun i => .py (.int i)) none := by
  refine ⟨fun _ => True, YFn fun i => .int (a + i), (by rw [List.length_map, rgI_len]; exact walk_range), fun _ _ _ _ _ _ => trivial, fun i R1 S1 H1 v H2 hi s rs _ ⟨e, y⟩ => ?_⟩
  subst e y
  rw [List.length_map, rgI_len] at hi
  refine ⟨dI (a + i), ?_, .refl, rs, RD.int _⟩
  rw [List.getElem?_map]
  unfold rgI
  rw [List.getElem?_map, List.getElem?_range hi]
  rfl
variable {k : AX}
theorem di_rg1 (hg : Gl X "range") (hm : X.mg "range" = none) (ha : DA X g W [e] k) (hs : starEach [e] X.env = [(false, eval e X.env)] := by rfl) : DI X g W tg (.Call (.Name "range" p) [e] [] pos) (xRg1 k) :=
  ⟨fun hK => (pi_range1 hg hm (ha.pa hK) hs).imp fun σ H Q ⟨R, env, S, rs, re, q⟩ => tDA_bind rs re q fun ds S1 vs H1 R1 s1 rs1 re1 rv q1 => by
    unfold iR1 at q1
    split at q1
    · split at q1
      · rename_i n hn
        obtain ⟨v, rfl, r⟩ := rds1 rv
        cases r
        exact ⟨n, rfl, by omega, by omega, q1 _ H1 R1 .refl rs1 (by have z := it_range (g := g) (R := R1) (H := H1) 0 n; rw [Int.sub_zero] at z; exact z)⟩
      · exact q1.elim
    · exact q1.elim⟩
theorem di_rg2 (hg : Gl X "range") (hm : X.mg "range" = none) (ha : DA X g W [e, e2] k) (hs : starEach [e, e2] X.env = [(false, eval e X.env), (false, eval e2 X.env)] := by rfl) (hs2 : starEach [e2] X.env = [(false, eval e2 X.env)] := by rfl) : DI X g W tg (.Call (.Name "range" p) [e, e2] [] pos) (xRg2 k) :=
  ⟨fun hK => (pi_range2 hg hm (ha.pa hK) hs hs2).imp fun σ H Q ⟨R, env, S, rs, re, q⟩ => tDA_bind rs re q fun ds S1 vs H1 R1 s1 rs1 re1 rv q1 => by
    unfold iR2 at q1
    split at q1
    · split at q1
      · rename_i m n hn
        obtain ⟨v, w, rfl, r, r'⟩ := rds2 rv
        cases r
        cases r'
        exact ⟨m, n, rfl, by omega, q1 _ H1 R1 .refl rs1 (it_range m n)⟩
      · exact q1.elim
    · exact q1.elim⟩
end

/-! ### for -/
section
open Classical
noncomputable def forL (t : Tg) (fb : SX) (o : Option (Nat × List D)) : List D → Envr → Sto → Res Fl
  | [], env, S => if Stays o S then .ok (.nx env) S else .bad
  | x :: xs, env, S => if Stays o S then (match bindT S t x env with
    | some env1 => (match fb env1 S with
      | .ok (.nx env2) S2 => forL t fb o xs env2 S2
      | .ok (.ct env2) S2 => forL t fb o xs env2 S2
      | .ok (.bk env2) S2 => .ok (.nx env2) S2
      | r => r)
    | none => .bad) else .bad
noncomputable def xFor (ix : IX) (t : Tg) (fb : SX) : SX := fun env S => (ix env S).bindX env fun p S1 => forL t fb p.2 p.1 env S1
end
theorem forL_stays {t : Tg} {fb : SX} {o : Option (Nat × List D)} {xs : List D} {env : Envr} {S : Sto} (h : forL t fb o xs env S ≠ .bad) : Stays o S := by
  cases xs with
  | nil =>
    unfold forL at h
    by_cases c : Stays o S
    · exact c
    · rw [if_neg c] at h; exact absurd rfl h
  | cons x xs =>
    unfold forL at h
    by_cases c : Stays o S
    · exact c
    · rw [if_neg c] at h; exact absurd rfl h
section
variable {X : Cx} {g : G} {W : WY} {tg it : Expr} {ix : IX} {t : Tg} {fb : SX} {body : List Stmt} {pos : Pos}
theorem ds_for (hp : PassesOwn (model X.prog X.w) X.A X.env X.xe) (hc : X.calm = true) (hi : DI X g W tg it ix) (hg : DG X tg t) (hb : DSs X g W body fb) (hs : ∀ x, foldedSetIterable it X.env x = pure x := by intro _; rfl) : DSt X g W (.For tg it body [] pos) (xFor ix t fb) :=
  ⟨fun hK => (ps_for hp hc (hi.pi hK) hg.pg (hb.pss hK) hs).imp fun D σ H ⟨R, env, S, rs, re, h⟩ => by
    refine ⟨R, env, S, rs, re, PostS.bind re h fun p S1 J H1 R1 _ s1 rs1 ⟨Gd, Y, wk, hG, hY⟩ h1 => ?_⟩
    obtain ⟨xs, o⟩ := p
    have h1 : PostS g W R1 H1 (forL t fb o xs env S1) D := h1
    refine for_it wk (fun i σ H => ∃ R S env, Stp R1 H1 R H ∧ RS g R S H ∧ RE g.K R H σ env ∧ PostS g W R H (forL t fb o (xs.drop i) env S) D) ⟨R1, S1, env, .refl, rs1, re.step s1, h1⟩ ?_ ?_ ?_
    · rintro i σ H hi ⟨R, S, env, s, rs, re, h⟩
      exact hG R S H s rs (forL_stays fun z => by rw [z] at h; exact h)
    · rintro i x σ H H' hi ⟨R, S, env, s, rs, re, h⟩ y
      obtain ⟨d, e, s2, rs2, rd⟩ := hY i R S H x H' hi s rs (forL_stays fun z => by rw [z] at h; exact h) y
      have hd : xs.drop i = d :: xs.drop (i + 1) := by
        have e' := List.getElem?_eq_some_iff.mp e
        rw [List.drop_eq_getElem_cons e'.1, e'.2]
      rw [hd] at h
      unfold forL at h
      split at h
      · split at h
        · rename_i env1 hb1
          rw [← hK]
          refine bindT_ok rs2 t rd (re.step s2) hb1 fun σ2 re2 => ?_
          refine ⟨R, env1, S, rs2, re2, ?_⟩
          have h := PostS.step s2 h
          have s3 := s.trans s2
          cases q : fb env1 S with
          | ok fl S2 =>
            rw [q] at h
            cases fl with
            | nx env2 => exact fun σ3 H3 R3 s4 rs4 re4 => ⟨R3, S2, env2, s3.trans s4, rs4, re4, PostS.step s4 h⟩
            | ct env2 => exact fun σ3 H3 R3 s4 rs4 re4 => ⟨R3, S2, env2, s3.trans s4, rs4, re4, PostS.step s4 h⟩
            | bk env2 => exact h
            | rt d => exact h
            | xc x env2 => exact h
          | exc x S2 => rw [q] at h; exact h
          | bad => rw [q] at h; exact h
        · exact h.elim
      · exact h.elim
    · rintro σ H ⟨R, S, env, s, rs, re, h⟩
      rw [List.drop_length] at h
      unfold forL at h
      split at h
      · exact h σ H R .refl rs re
      · exact h.elim⟩
/-- while, by fuel -/
def whileL (ft : TX) (fb : SX) : Nat → Envr → Sto → Res Fl
  | 0, _, _ => .bad
  | n + 1, env, S => (ft env S).bindX env fun c S1 => if c = true then (match fb env S1 with
      | .ok (.nx env2) S2 => whileL ft fb n env2 S2
      | .ok (.ct env2) S2 => whileL ft fb n env2 S2
      | .ok (.bk env2) S2 => .ok (.nx env2) S2
      | r => r) else .ok (.nx env) S1
def xWhile (N : Nat) (ft : TX) (fb : SX) : SX := fun env S => whileL ft fb N env S
theorem ds_while {c : Expr} {ft : TX} (N : Nat) (hp : PassesOwn (model X.prog X.w) X.A X.env X.xe) (hc : DT X g W c ft) (hb : DSs X g W body fb) : DSt X g W (.While c body [] pos) (xWhile N ft fb) :=
  ⟨fun hK => (ps_while hp (hc.pt hK) (hb.pss hK)).imp fun D σ H ⟨R, env, S, rs, re, h⟩ => by
    refine ⟨fun m σ H => ∃ R S env, RS g R S H ∧ RE g.K R H σ env ∧ PostS g W R H (whileL ft fb m env S) D, ⟨N, R, S, env, rs, re, h⟩, ?_⟩
    rintro m σ H ⟨R, S, env, rs, re, h⟩
    cases m with
    | zero => exact h.elim
    | succ m =>
      unfold whileL at h
      refine tDT_bindS rs re h fun c S1 H1 R1 s1 rs1 re1 h1 => ?_
      cases c with
      | false => exact h1 σ H1 R1 .refl rs1 re1
      | true =>
        refine ⟨_, fun σ' H' q => ⟨m, Nat.lt_succ_self m, q⟩, R1, env, S1, rs1, re1, ?_⟩
        have h1 : PostS g W R1 H1 (match fb env S1 with
          | .ok (.nx env2) S2 => whileL ft fb m env2 S2
          | .ok (.ct env2) S2 => whileL ft fb m env2 S2
          | .ok (.bk env2) S2 => .ok (.nx env2) S2
          | r => r) D := h1
        cases q : fb env S1 with
        | ok fl S2 =>
          rw [q] at h1
          cases fl with
          | nx env2 => exact fun σ3 H3 R3 s4 rs4 re4 => ⟨R3, S2, env2, rs4, re4, PostS.step s4 h1⟩
          | ct env2 => exact fun σ3 H3 R3 s4 rs4 re4 => ⟨R3, S2, env2, rs4, re4, PostS.step s4 h1⟩
          | bk env2 => exact h1
          | rt d => exact h1
          | xc x env2 => exact h1
        | exc x S2 => rw [q] at h1; exact h1
        | bad => rw [q] at h1; exact h1⟩
end

/-! ### comprehensions -/
def wipeE (env : Envr) : List Nat → Envr
  | [] => env
  | v :: vs => (wipeE env vs).set v none
theorem RE.wipe {K : PySem.W.Frag} {R : RR} {H : Hp} {σ : L2.St} {env : Envr} (re : RE K R H σ env) : ∀ vs : List Nat, RE K R H (L2.wipe σ vs) (wipeE env vs)
  | [] => re
  | v :: vs => (RE.wipe re vs).forget v
/-- tests of a clause -/
structure DTs (X : Cx) (g : G) (W : WY) (es : List Expr) (f : TX) : Prop where
  pts : g.K = X.K → PTs X es (tDT g W f)
def xYes : TX := fun _ S => .ok true S
section
open Classical
noncomputable def compL (t : Tg) (ft : TX) (fe : EX) (o : Option (Nat × List D)) (env : Envr) : List D → Sto → Res (List PyData)
  | [], S => if Stays o S then .ok [] S else .bad
  | x :: xs, S => if Stays o S then (match bindT S t x env with
    | some env1 => (match ft env1 S with
      | .ok true S1 => (match fe env1 S1 with
        | .ok (.py d) S2 => (compL t ft fe o env xs S2).bind fun ds S3 => .ok (d :: ds) S3
        | _ => .bad)
      | .ok false S1 => compL t ft fe o env xs S1
      | _ => .bad)
    | none => .bad) else .bad
noncomputable def xComp (ix : IX) (t : Tg) (ft : TX) (fe : EX) (vs : List Nat) : EX := fun env S => (ix env S).bind fun p S1 => if p.1.length ≤ 1000000 then (compL t ft fe p.2 (wipeE env vs) p.1 S1).bind fun ds S2 => .ok (dL ds) S2 else .bad
end
end DL
end
section
set_option maxRecDepth 100000
set_option maxHeartbeats 1000000
/-! DL6: list comprehensions. -/
namespace DL
open PySem PySem.Spec PyProof.Rows L2

section
variable {K : PySem.W.Frag} {R R' : RR} {H H' : Hp}
/-- all that is not mutable stays, and stays so -/
abbrev Chg (R : RR) (H : Hp) (R' : RR) (H' : Hp) : Prop := ∀ a o, a ∉ R → H a = some o → H' a = some o ∧ a ∉ R'
mutual
theorem Rp.chg (s : Chg R H R' H') : ∀ {v : V} {d : PyData}, Rp K R H v d → Rp K R' H' v d
  | _, _, .non => .non
  | _, _, .bl b => .bl b
  | _, _, .int i => .int i
  | _, _, .str x => .str x
  | _, _, .lst r n h => .lst (s _ _ n r).1 (s _ _ n r).2 (RpAll.chg s h)
  | _, _, .tup r n h => .tup (r.keep fun _ e => (s _ _ n e).1) (let ⟨_, e, _⟩ := r; (s _ _ n e).2) (RpAll.chg s h)
  | _, _, .dic r n h => .dic (s _ _ n r).1 (s _ _ n r).2 (RpKv.chg s h)
theorem RpAll.chg (s : Chg R H R' H') : ∀ {vs : List V} {ds : List PyData}, RpAll K R H vs ds → RpAll K R' H' vs ds
  | _, _, .nil => .nil
  | _, _, .cons h t => .cons (Rp.chg s h) (RpAll.chg s t)
theorem RpKv.chg (s : Chg R H R' H') : ∀ {vs : List (Key × V)} {ds : List (PyData × PyData)}, RpKv K R H vs ds → RpKv K R' H' vs ds
  | _, _, .nil => .nil
  | _, _, .cons h t => .cons (Rp.chg s h) (RpKv.chg s t)
end
theorem RD.chg (s : Chg R H R' H') (l : R'.l = R.l) {v : V} : ∀ {d : D}, RD K R H v d → RD K R' H' v d
  | .py _, h => Rp.chg s h
  | .loc _, ⟨a, e, h⟩ => ⟨a, e, by rw [l]; exact h⟩
  | .scr _, ⟨a, e, .inl ⟨.inl h, n⟩⟩ => ⟨a, e, .inl ⟨.inl (s _ _ n h).1, (s _ _ n h).2⟩⟩
  | .scr _, ⟨a, e, .inl ⟨.inr ⟨o, h⟩, n⟩⟩ => ⟨a, e, .inl ⟨.inr ⟨o, (s _ _ n h).1⟩, (s _ _ n h).2⟩⟩
  | .scr _, ⟨a, e, .inr h⟩ => ⟨a, e, .inr h⟩
theorem RDs.chg (s : Chg R H R' H') (l : R'.l = R.l) : ∀ {vs : List V} {ds : List D}, RDs K R H vs ds → RDs K R' H' vs ds
  | _, _, .nil => .nil
  | _, _, .cons h t => .cons (RD.chg s l h) (RDs.chg s l t)
theorem RKv.chg {κ : Type} (s : Chg R H R' H') (l : R'.l = R.l) : ∀ {vs : List (κ × V)} {ds : List (κ × D)}, RKv K R H vs ds → RKv K R' H' vs ds
  | _, _, .nil => .nil
  | _, _, .cons h t => .cons ⟨h.1, RD.chg s l h.2⟩ (RKv.chg s l t)
theorem RE.chg (s : Chg R H R' H') (l : R'.l = R.l) : ∀ {σ : L2.St} {env : Envr}, RE K R H σ env → RE K R' H' σ env
  | _, _, .nil => .nil
  | _, none :: _, .cons _ t => .cons trivial (RE.chg s l t)
  | _, some _ :: _, .cons ⟨x, e, h⟩ t => .cons ⟨x, e, RD.chg s l h⟩ (RE.chg s l t)
end
theorem RO.chg {g : G} {R R' : RR} {H H' : Hp} {a : Addr} (s : Chg R H R' H') (l : R'.l = R.l) (k : H' a = H a) : ∀ {o : SO}, RO g R H a o → RO g R' H' a o
  | .lst ds, ⟨vs, h1, h2, h3⟩ => ⟨vs, k.trans h1, h2, h3.chg s l⟩
  | .dK kvs, ⟨vs, h1, h2⟩ => ⟨vs, k.trans h1, h2.chg s l⟩
  | .dT kvs, ⟨vs, h1, h2⟩ => ⟨vs, k.trans h1, h2.chg s l⟩
  | .ins c fs, ⟨dx, vs, h1, h2, h3, h4⟩ => ⟨dx, vs, k.trans h1, (s _ _ h3 h2).1, (s _ _ h3 h2).2, h4.chg s l⟩

theorem RD.chg2 {K : PySem.W.Frag} {R R' : RR} {H H' : Hp} (s : Chg R H R' H') (l : R.l <+: R'.l) {v : V} : ∀ {d : D}, RD K R H v d → RD K R' H' v d
  | .py _, h => Rp.chg s h
  | .loc _, ⟨a, e, h⟩ => ⟨a, e, pre_get l h⟩
  | .scr _, ⟨a, e, .inl ⟨.inl h, n⟩⟩ => ⟨a, e, .inl ⟨.inl (s _ _ n h).1, (s _ _ n h).2⟩⟩
  | .scr _, ⟨a, e, .inl ⟨.inr ⟨o, h⟩, n⟩⟩ => ⟨a, e, .inl ⟨.inr ⟨o, (s _ _ n h).1⟩, (s _ _ n h).2⟩⟩
  | .scr _, ⟨a, e, .inr h⟩ => ⟨a, e, .inr h⟩
theorem RDs.chg2 {K : PySem.W.Frag} {R R' : RR} {H H' : Hp} (s : Chg R H R' H') (l : R.l <+: R'.l) : ∀ {vs : List V} {ds : List D}, RDs K R H vs ds → RDs K R' H' vs ds
  | _, _, .nil => .nil
  | _, _, .cons h t => .cons (RD.chg2 s l h) (RDs.chg2 s l t)
theorem RKv.chg2 {K : PySem.W.Frag} {R R' : RR} {H H' : Hp} {κ : Type} (s : Chg R H R' H') (l : R.l <+: R'.l) : ∀ {vs : List (κ × V)} {ds : List (κ × D)}, RKv K R H vs ds → RKv K R' H' vs ds
  | _, _, .nil => .nil
  | _, _, .cons h t => .cons ⟨h.1, RD.chg2 s l h.2⟩ (RKv.chg2 s l t)
theorem RO.chg2 {g : G} {R R' : RR} {H : Hp} {a : Addr} (s : Chg R H R' H) (l : R.l <+: R'.l) : ∀ {o : SO}, RO g R H a o → RO g R' H a o
  | .lst ds, ⟨vs, h1, h2, h3⟩ => ⟨vs, h1, h2, h3.chg2 s l⟩
  | .dK kvs, ⟨vs, h1, h2⟩ => ⟨vs, h1, h2.chg2 s l⟩
  | .dT kvs, ⟨vs, h1, h2⟩ => ⟨vs, h1, h2.chg2 s l⟩
  | .ins c fs, ⟨dx, vs, h1, h2, h3, h4⟩ => ⟨dx, vs, h1, h2, (s _ _ h3 h2).2, h4.chg2 s l⟩

/-! ### the slots of a target -/
mutual
def Tg.slots : Tg → List Nat
  | .nm i => [i]
  | .tp ts => Tg.slotss ts
def Tg.slotss : List Tg → List Nat
  | [] => []
  | t :: ts => t.slots ++ Tg.slotss ts
end
theorem wipe_set {σ : L2.St} {i : Nat} {x : Option V} : ∀ {vs : List Nat}, i ∈ vs → L2.wipe (σ.set i x) vs = L2.wipe σ vs
  | v :: vs, h => by
    unfold L2.wipe
    by_cases e : i = v
    · subst e
      by_cases hm : i ∈ vs
      · rw [wipe_set hm]
      · clear h
        have gen : ∀ ws : List Nat, (L2.wipe (σ.set i x) ws).set i none = (L2.wipe σ ws).set i none := fun ws => by
          induction ws with
          | nil => simp [L2.wipe]
          | cons w ws ih =>
            unfold L2.wipe
            by_cases q : w = i
            · subst q; simp [ih]
            · rw [List.set_comm _ _ q, ih, List.set_comm _ _ q]
        exact gen vs
    · rcases List.mem_cons.mp h with h | h
      · exact absurd h e
      · rw [wipe_set h]
theorem wipe_wipe {σ : L2.St} : ∀ {vs ws : List Nat}, (∀ i ∈ ws, i ∈ vs) → L2.wipe (L2.wipe σ ws) vs = L2.wipe σ vs
  | vs, [], _ => rfl
  | vs, w :: ws, h => by
    show L2.wipe ((L2.wipe σ ws).set w none) vs = _
    rw [wipe_set (h w (by simp)), wipe_wipe fun i hi => h i (List.mem_cons_of_mem _ hi)]
section
variable {g : G}
mutual
theorem bindT_okW {R : RR} {S : Sto} {H : Hp} {Q : L2.St → Hp → Prop} (rs : RS g R S H) (vs : List Nat) : ∀ (t : Tg) {v : V} {d : D} {σ : L2.St} {env env' : Envr}, (∀ i ∈ t.slots, i ∈ vs) → RD g.K R H v d → RE g.K R H σ env → bindT S t d env = some env' →
    (∀ σ', RE g.K R H σ' env' → L2.wipe σ' vs = L2.wipe σ vs → Q σ' H) → gT g.K t v σ H Q
  | .nm i, v, d, σ, env, env', sl, r, re, e, k => by
    unfold bindT at e
    cases e
    unfold gT
    exact k _ (re.set r i) (wipe_set (sl i (by simp [Tg.slots])))
  | .tp ts, v, d, σ, env, env', sl, r, re, e, k => by
    unfold bindT at e
    split at e
    · rename_i t ds hs
      obtain ⟨a, ws, rfl, rv, kk⟩ := seq_ok rs r hs
      obtain ⟨hl, q⟩ := bindTs_okW rs vs ts (by simpa [Tg.slots] using sl) rv re e k
      unfold gT
      cases t with
      | true => exact .inl ⟨a, ws, rfl, kk, hl, q⟩
      | false => exact .inr ⟨a, ws, rfl, kk, hl, q⟩
    · cases e
theorem bindTs_okW {R : RR} {S : Sto} {H : Hp} {Q : L2.St → Hp → Prop} (rs : RS g R S H) (vs : List Nat) : ∀ (ts : List Tg) {ws : List V} {ds : List D} {σ : L2.St} {env env' : Envr}, (∀ i ∈ Tg.slotss ts, i ∈ vs) → RDs g.K R H ws ds → RE g.K R H σ env → bindTs S ts ds env = some env' →
    (∀ σ', RE g.K R H σ' env' → L2.wipe σ' vs = L2.wipe σ vs → Q σ' H) → ws.length = ts.length ∧ gTs g.K ts ws σ H Q
  | [], _, _, σ, env, env', sl, .nil, re, e, k => by
    unfold bindTs at e
    cases e
    unfold gTs
    exact ⟨rfl, rfl, k σ re rfl⟩
  | [], _, _, σ, env, env', sl, .cons _ _, re, e, k => by
    unfold bindTs at e
    cases e
  | t :: ts, _, _, σ, env, env', sl, .nil, re, e, k => by
    unfold bindTs at e
    cases e
  | t :: ts, v :: ws, d :: ds, σ, env, env', sl, .cons h hr, re, e, k => by
    unfold bindTs at e
    split at e
    · rename_i env1 h1
      have hl : ws.length = ts.length := by
        have := bindTs_len (g := g) e
        rw [RDs.len hr, this]
      refine ⟨by simp [hl], ?_⟩
      unfold gTs
      have s1 : ∀ i ∈ t.slots, i ∈ vs := fun i hi => sl i (by simp [Tg.slotss, hi])
      have s2 : ∀ i ∈ Tg.slotss ts, i ∈ vs := fun i hi => sl i (by simp [Tg.slotss, hi])
      exact ⟨v, ws, rfl, bindT_okW rs vs t s1 h re h1 fun σ1 re1 w1 => (bindTs_okW rs vs ts s2 hr re1 e fun σ2 re2 w2 => k σ2 re2 (w2.trans w1)).2⟩
    · cases e
end
end

/-! ### the comprehension -/
abbrev noW : WY := fun _ _ _ _ => False
theorem compL_ok {t : Tg} {ft : TX} {fe : EX} {o : Option (Nat × List D)} {env : Envr} {xs : List D} {S : Sto} : (∃ ds S', compL t ft fe o env xs S = .ok ds S') ∨ compL t ft fe o env xs S = .bad := by
  induction xs generalizing S with
  | nil =>
    unfold compL
    by_cases c : Stays o S
    · rw [if_pos c]; exact .inl ⟨_, _, rfl⟩
    · rw [if_neg c]; exact .inr rfl
  | cons x xs ih =>
    unfold compL
    by_cases c : Stays o S
    · rw [if_pos c]
      split
      · split
        · split
          · rename_i d S2 _
            rcases ih (S := S2) with ⟨ds, S', e⟩ | e
            · rw [e]; exact .inl ⟨_, _, rfl⟩
            · rw [e]; exact .inr rfl
          · exact .inr rfl
        · exact ih
        · exact .inr rfl
      · exact .inr rfl
    · rw [if_neg c]; exact .inr rfl
theorem compL_stays {t : Tg} {ft : TX} {fe : EX} {o : Option (Nat × List D)} {env : Envr} {xs : List D} {S S' : Sto} {ds : List PyData} (h : compL t ft fe o env xs S = .ok ds S') : Stays o S := by
  by_cases c : Stays o S
  · exact c
  · cases xs <;> (unfold compL at h; rw [if_neg c] at h; cases h)
theorem compL_len {t : Tg} {ft : TX} {fe : EX} {o : Option (Nat × List D)} {env : Envr} {xs : List D} {S S' : Sto} {ds : List PyData} (h : compL t ft fe o env xs S = .ok ds S') : ds.length ≤ xs.length := by
  induction xs generalizing S ds with
  | nil =>
    unfold compL at h
    split at h
    · cases h; exact Nat.le_refl _
    · cases h
  | cons x xs ih =>
    unfold compL at h
    split at h
    · split at h
      · split at h
        · split at h
          · rename_i d S2 _
            cases q : compL t ft fe o env xs S2 with
            | ok ds2 S3 =>
              rw [q] at h
              cases h
              have := ih q
              simp only [List.length_cons]
              omega
            | exc x S3 => rw [q] at h; cases h
            | bad => rw [q] at h; cases h
          · cases h
        · have := ih h
          simp only [List.length_cons]
          omega
        · cases h
      · cases h
    · cases h
def RR.without (R : RR) (a : Addr) : RR := ⟨R.l, R.m.filter fun b => b != a⟩
section
variable {g : G} {W : WY} {ix : IX} {t : Tg} {ft : TX} {fe : EX} {vs : List Nat}
theorem lc_mid (sl : ∀ i ∈ t.slots, i ∈ vs) {σ : L2.St} {env : Envr} {S1 ST : Sto} {H1 : Hp} {R1 : RR} {J : It} {xs : List D} {o : Option (Nat × List D)} {dsT : List PyData} {Q : VK} {Dn : Addr} (rs1 : RS g R1 S1 H1) (re1 : RE g.K R1 H1 σ env) (isit : IsIt g R1 H1 J xs o)
    (hD : H1 Dn = none) (hlen : xs.length ≤ 1000000) (eT : compL t ft fe o (wipeE env vs) xs S1 = .ok dsT ST)
    (fin : ∀ (R : RR) (acc : List V) (H : Hp), Stp R1 H1 R H → Dn ∈ R.m → RS g R ST H → H Dn = some (.lst acc) → RpAll g.K R H acc dsT → Q (.ref Dn) H) :
    ∃ W : Nat → Nat → Hp → Prop, (∃ m, W 0 m (upd H1 Dn (.lst []))) ∧ ∀ i m H, W i m H → (J.stop i H ∧ Q (.ref Dn) H) ∨ (J.go i H ∧ ∃ Nx : Hp → Prop, (∀ H', Nx H' → ∃ m', m' < m ∧ W (i + 1) m' H') ∧ ∀ x H', J.yld i H x H' → gT g.K t x (L2.wipe σ vs) H' fun σ2 H2 => L2.wipe σ2 vs = L2.wipe σ vs ∧ tDT g noW ft σ2 H2 fun b H3 =>
      if b = true then tD g noW fe σ2 H3 fun y H4 => ∃ acc, H4 Dn = some (.lst acc) ∧ acc.length < sizeLine ∧ Nx (upd H4 Dn (.lst (acc ++ [y]))) else Nx H3) := by
  obtain ⟨Gd, Y, wk, hG, hY⟩ := isit
  have fD : Dn ∉ R1 := rs1.fresh hD
  refine lc_it wk (fun i H => ∃ R S acc ds0 ds, Stp R1 H1 R H ∧ Dn ∈ R.m ∧ RS g R S H ∧ H Dn = some (.lst acc) ∧ RpAll g.K R H acc ds0 ∧ acc.length ≤ i ∧ compL t ft fe o (wipeE env vs) (xs.drop i) S = .ok ds ST ∧ dsT = ds0 ++ ds) ?_ ?_ ?_ ?_
  · refine ⟨⟨R1.l, Dn :: R1.m⟩, S1, [], [], dsT, ?_, by simp, ?_, upd_same, .nil, Nat.le_refl _, eT, rfl⟩
    · refine ⟨List.prefix_refl _, fun a m n => ?_, fun a u n e => by rw [upd_ne (ne_of_none e hD)]; exact e, fun a m => ?_⟩
      · rcases m with m | m
        · exact absurd (Or.inl m) n
        · rcases List.mem_cons.mp m with rfl | m
          · exact hD
          · exact absurd (Or.inr m) n
      · obtain ⟨_, u, e⟩ := rs1.hid a m
        exact ⟨List.mem_cons_of_mem _ m, upd_ne (ne_of_none e hD)⟩
    · have st : Chg R1 H1 ⟨R1.l, Dn :: R1.m⟩ (upd H1 Dn (.lst [])) := fun a u n e => by
        refine ⟨(upd_ne (ne_of_none e hD)).trans e, fun m => ?_⟩
        rcases m with m | m
        · exact n (Or.inl m)
        · rcases List.mem_cons.mp m with rfl | m
          · rw [hD] at e; cases e
          · exact n (Or.inr m)
      refine ⟨rs1.len, rs1.nd, fun a m => ?_, fun n a u ha hu => (rs1.obj n a u ha hu).chg st rfl ?_⟩
      · rcases List.mem_cons.mp m with rfl | m
        · exact ⟨fun z => fD (Or.inl z), _, upd_same⟩
        · obtain ⟨q, u, e⟩ := rs1.hid a m
          exact ⟨q, u, (upd_ne (ne_of_none e hD)).trans e⟩
      · obtain ⟨w, e⟩ := rs1.hasL (List.mem_of_getElem? ha)
        exact upd_ne (ne_of_none e hD)
  · rintro i H hi ⟨R, S, acc, ds0, ds, s, _, rs, _, _, _, e, _⟩
    exact hG R S H s rs (compL_stays e)
  · rintro i x H H' hi ⟨R, S, acc, ds0, ds, s, hm, rs, hacc, racc, lacc, e, eD⟩ y
    have st0 : Stays o S := compL_stays e
    obtain ⟨d, ed, s2, rs2, rd⟩ := hY i R S H x H' hi s rs st0 y
    have ed : xs[i]? = some d := ed
    have hd : xs.drop i = d :: xs.drop (i + 1) := by
      have e' := List.getElem?_eq_some_iff.mp ed
      rw [List.drop_eq_getElem_cons e'.1, e'.2]
    rw [hd] at e
    unfold compL at e
    rw [if_pos st0] at e
    split at e
    case h_2 => cases e
    rename_i env1 hb
    have re' : RE g.K R H' (L2.wipe σ vs) (wipeE env vs) := ((re1.step s).step s2).wipe vs
    refine bindT_okW rs2 vs t sl rd re' hb fun σ2 re2 w2 => ⟨w2.trans (wipe_wipe fun i h => h), ?_⟩
    have s3 := s.trans s2
    have more : ∀ {R4 : RR} {S4 : Sto} {H4 : Hp} {yv : V} {dy : PyData}, Stp R H' R4 H4 → RS g R4 S4 H4 → Rp g.K R4 H4 yv dy → compL t ft fe o (wipeE env vs) (xs.drop (i + 1)) S4 = .ok (ds.drop 1) ST → ds = dy :: ds.drop 1 →
        ∃ acc, H4 Dn = some (.lst acc) ∧ acc.length < sizeLine ∧ ∃ R S acc' ds0 ds, Stp R1 H1 R (upd H4 Dn (.lst (acc ++ [yv]))) ∧ Dn ∈ R.m ∧ RS g R S (upd H4 Dn (.lst (acc ++ [yv]))) ∧ upd H4 Dn (.lst (acc ++ [yv])) Dn = some (.lst acc') ∧ RpAll g.K R (upd H4 Dn (.lst (acc ++ [yv]))) acc' ds0 ∧ acc'.length ≤ i + 1 ∧
          compL t ft fe o (wipeE env vs) (xs.drop (i + 1)) S = .ok ds ST ∧ dsT = ds0 ++ ds := by
      intro R4 S4 H4 yv dy s4 rs4 ry ec ed
      obtain ⟨hm4, hk4⟩ := s4.hid Dn hm |>.imp_left id
      have hm4 : Dn ∈ R4.m := (s4.hid Dn ((s2.hid Dn hm).1)).1
      have hD4 : H4 Dn = some (.lst acc) := by rw [(s4.hid Dn ((s2.hid Dn hm).1)).2, (s2.hid Dn hm).2]; exact hacc
      have hlt : acc.length < sizeLine := by
        have := line_ok
        omega
      refine ⟨acc, hD4, hlt, R4, S4, acc ++ [yv], ds0 ++ [dy], ds.drop 1, ?_, hm4, ?_, upd_same, ?_, by simp; omega, ec, ?_⟩
      · have s5 := s3.trans s4
        refine ⟨s5.pre, s5.new, fun a u n e => ?_, fun a m => ?_⟩
        · rw [upd_ne (ne_of_none e hD)]
          exact s5.keep a u n e
        · obtain ⟨_, u, e⟩ := rs1.hid a m
          exact ⟨(s5.hid a m).1, (upd_ne (ne_of_none e hD)).trans (s5.hid a m).2⟩
      · have st : Chg R4 H4 R4 (upd H4 Dn (.lst (acc ++ [yv]))) := fun a u n e => ⟨(upd_ne fun z => n (by rw [z]; exact Or.inr hm4)).trans e, n⟩
        refine ⟨rs4.len, rs4.nd, fun a m => ?_, fun n a u ha hu => (rs4.obj n a u ha hu).chg st rfl (upd_ne fun z => (rs4.hid Dn hm4).1 (by rw [← z]; exact List.mem_of_getElem? ha))⟩
        obtain ⟨q, u, e⟩ := rs4.hid a m
        by_cases z : a = Dn
        · subst z; exact ⟨q, _, upd_same⟩
        · exact ⟨q, u, (upd_ne z).trans e⟩
      · have st : Chg R4 H4 R4 (upd H4 Dn (.lst (acc ++ [yv]))) := fun a u n e => ⟨(upd_ne fun z => n (by rw [z]; exact Or.inr hm4)).trans e, n⟩
        exact (((racc.step s2).step s4).append (.cons ry .nil)).chg st
      · rw [eD]
        conv => lhs; rw [ed]
        simp
    have skip : ∀ {R4 : RR} {S4 : Sto} {H4 : Hp}, Stp R H' R4 H4 → RS g R4 S4 H4 → compL t ft fe o (wipeE env vs) (xs.drop (i + 1)) S4 = .ok ds ST →
        ∃ R S acc ds0 ds, Stp R1 H1 R H4 ∧ Dn ∈ R.m ∧ RS g R S H4 ∧ H4 Dn = some (.lst acc) ∧ RpAll g.K R H4 acc ds0 ∧ acc.length ≤ i + 1 ∧ compL t ft fe o (wipeE env vs) (xs.drop (i + 1)) S = .ok ds ST ∧ dsT = ds0 ++ ds := by
      intro R4 S4 H4 s4 rs4 ec
      refine ⟨R4, S4, acc, ds0, ds, s3.trans s4, (s4.hid Dn ((s2.hid Dn hm).1)).1, rs4, ?_, (racc.step s2).step s4, by omega, ec, eD⟩
      rw [(s4.hid Dn ((s2.hid Dn hm).1)).2, (s2.hid Dn hm).2]; exact hacc
    refine ⟨R, env1, S, rs2, re2, ?_⟩
    split at e
    · rename_i S3 eft
      rw [eft]
      intro b H3 R3 s4 rs4 hb3
      have hb3 : b = true := hb3
      subst hb3
      rw [if_pos rfl]
      refine ⟨R3, env1, S3, rs4, re2.step s4, ?_⟩
      split at e
      · rename_i dd S4 efe
        rw [efe]
        intro yv H4 R4 s5 rs5 ry
        cases ec : compL t ft fe o (wipeE env vs) (xs.drop (i + 1)) S4 with
        | ok ds2 S5 =>
          rw [ec] at e
          cases e
          exact more (s4.trans s5) rs5 ry ec rfl
        | exc x S5 => rw [ec] at e; cases e
        | bad => rw [ec] at e; cases e
      · cases e
    · rename_i S3 eft
      rw [eft]
      intro b H3 R3 s4 rs4 hb3
      have hb3 : b = false := hb3
      subst hb3
      rw [if_neg Bool.false_ne_true]
      exact skip s4 rs4 e
    · cases e
  · rintro H ⟨R, S, acc, ds0, ds, s, hm, rs, hacc, racc, lacc, e, eD⟩
    rw [List.drop_length] at e
    unfold compL at e
    split at e
    case isFalse => cases e
    cases e
    rw [List.append_nil] at eD
    subst eD
    exact fin R acc H s hm rs hacc racc
theorem without_no {R : RR} {a : Addr} (h : a ∉ R.l) : a ∉ R.without a := fun z => by
  rcases z with z | z
  · exact h z
  · have := (List.mem_filter.mp z).2
    simp at this
theorem without_sub {R : RR} {a b : Addr} (h : b ∈ R.without a) : b ∈ R := by
  rcases h with z | z
  · exact Or.inl z
  · exact Or.inr (List.mem_filter.mp z).1
theorem tLc_of (sl : ∀ i ∈ t.slots, i ∈ vs) {σ : L2.St} {H : Hp} {Q : VK} (h : tD g W (xComp ix t ft fe vs) σ H Q) : tLc (tDI g W ix) (gT g.K t) (tDT g noW ft) (tD g noW fe) vs σ H Q := by
  obtain ⟨R, env, S, rs, re, h⟩ := h
  refine ⟨R, env, S, rs, re, Post.bind h fun p S1 J H1 R1 _ s1 rs1 isit h1 => ?_⟩
  obtain ⟨xs, o⟩ := p
  intro Dn hD
  have h1 : Post g (wAt W σ) R1 H1 (PV g) (if xs.length ≤ 1000000 then (compL t ft fe o (wipeE env vs) xs S1).bind fun ds S2 => .ok (dL ds) S2 else .bad) Q := h1
  split at h1
  case isFalse => exact h1.elim
  rename_i hlen
  rcases compL_ok (t := t) (ft := ft) (fe := fe) (o := o) (env := wipeE env vs) (xs := xs) (S := S1) with ⟨dsT, ST, eT⟩ | eT
  case inr => rw [eT] at h1; exact h1.elim
  rw [eT] at h1
  refine lc_mid sl rs1 (re.step s1) isit hD hlen eT fun R acc H s hm rs hacc racc => ?_
  have fD : Dn ∉ R1 := rs1.fresh hD
  have nd : Dn ∉ R.without Dn := without_no (rs.hid Dn hm).1
  have st : Chg R H (R.without Dn) H := fun a u n e => ⟨e, fun z => n (without_sub z)⟩
  refine h1 (.ref Dn) H (R.without Dn) ?_ ?_ ?_
  · refine ⟨s.pre, fun a m n => s.new a (without_sub m) n, s.keep, fun a m => ⟨?_, (s.hid a m).2⟩⟩
    refine List.mem_filter.mpr ⟨(s.hid a m).1, ?_⟩
    have : a ≠ Dn := fun z => fD (by rw [← z]; exact Or.inr m)
    simpa using this
  · exact ⟨rs.len, rs.nd, fun a m => rs.hid a (List.mem_filter.mp m).1, fun n a u ha hu => (rs.obj n a u ha hu).chg st rfl rfl⟩
  · exact Rp.lst hacc nd (racc.chg st)
/-- a comprehension that makes a mutable list -/
noncomputable def xCompM (ix : IX) (t : Tg) (ft : TX) (fe : EX) (vs : List Nat) : EX := fun env S => (ix env S).bind fun p S1 => if p.1.length ≤ 1000000 then (compL t ft fe p.2 (wipeE env vs) p.1 S1).bind fun ds S2 => .ok (.loc S2.length) (S2 ++ [.lst (ds.map .py)]) else .bad
theorem tLcM_of (sl : ∀ i ∈ t.slots, i ∈ vs) {σ : L2.St} {H : Hp} {Q : VK} (h : tD g W (xCompM ix t ft fe vs) σ H Q) : tLc (tDI g W ix) (gT g.K t) (tDT g noW ft) (tD g noW fe) vs σ H Q := by
  obtain ⟨R, env, S, rs, re, h⟩ := h
  refine ⟨R, env, S, rs, re, Post.bind h fun p S1 J H1 R1 _ s1 rs1 isit h1 => ?_⟩
  obtain ⟨xs, o⟩ := p
  intro Dn hD
  have h1 : Post g (wAt W σ) R1 H1 (PV g) (if xs.length ≤ 1000000 then (compL t ft fe o (wipeE env vs) xs S1).bind fun ds S2 => .ok (.loc S2.length) (S2 ++ [.lst (ds.map .py)]) else .bad) Q := h1
  split at h1
  case isFalse => exact h1.elim
  rename_i hlen
  rcases compL_ok (t := t) (ft := ft) (fe := fe) (o := o) (env := wipeE env vs) (xs := xs) (S := S1) with ⟨dsT, ST, eT⟩ | eT
  case inr => rw [eT] at h1; exact h1.elim
  rw [eT] at h1
  refine lc_mid sl rs1 (re.step s1) isit hD hlen eT fun R acc H s hm rs hacc racc => ?_
  have fD : Dn ∉ R1 := rs1.fresh hD
  have fl : Dn ∉ R.l := (rs.hid Dn hm).1
  have sub : ∀ {a}, a ∈ (R.without Dn).push Dn → a ∈ R := fun {a} z => by
    rcases z with z | z
    · rcases List.mem_append.mp z with z | z
      · exact Or.inl z
      · obtain rfl := List.mem_singleton.mp z; exact Or.inr hm
    · exact Or.inr (List.mem_filter.mp z).1
  have st : Chg R H ((R.without Dn).push Dn) H := fun a u n e => ⟨e, fun z => n (sub z)⟩
  have pre : R.l <+: ((R.without Dn).push Dn).l := List.prefix_append _ _
  have hz : acc.length ≤ sizeLine := by
    have h2 : dsT.length ≤ xs.length := compL_len eT
    have := racc.length
    have := line_ok
    omega
  refine h1 (.ref Dn) H ((R.without Dn).push Dn) ?_ ?_ ?_
  · refine ⟨s.pre.trans pre, fun a m n => s.new a (sub m) n, s.keep, fun a m => ⟨?_, (s.hid a m).2⟩⟩
    refine List.mem_filter.mpr ⟨(s.hid a m).1, ?_⟩
    have : a ≠ Dn := fun z => fD (by rw [← z]; exact Or.inr m)
    simpa using this
  · refine ⟨by simp [RR.push, RR.without, rs.len], ?_, fun a m => ?_, fun n a u ha hu => ?_⟩
    · show (R.l ++ [Dn]).Nodup
      rw [List.nodup_append]
      refine ⟨rs.nd, by simp, fun a ha b hb e => ?_⟩
      obtain rfl := List.mem_singleton.mp hb
      exact fl (e ▸ ha)
    · have m' := List.mem_filter.mp m
      obtain ⟨q, u, e⟩ := rs.hid a m'.1
      refine ⟨fun z => ?_, u, e⟩
      rcases List.mem_append.mp z with z | z
      · exact q z
      · obtain rfl := List.mem_singleton.mp z
        simp at m'
    · have ha : (R.l ++ [Dn])[n]? = some a := ha
      by_cases hn : n < R.l.length
      · rw [List.getElem?_append_left hn] at ha
        rw [List.getElem?_append_left (by rw [← rs.len]; exact hn)] at hu
        exact (rs.obj n a u ha hu).chg2 st pre
      · rw [List.getElem?_append_right (by omega)] at ha
        rw [List.getElem?_append_right (by rw [← rs.len]; omega), ← rs.len] at hu
        obtain ⟨k, hk⟩ : ∃ k, n - R.l.length = k := ⟨_, rfl⟩
        rw [hk] at ha hu
        cases k with
        | zero =>
          simp at ha hu
          subst ha hu
          exact ⟨acc, hacc, hz, (racc.chg st).rds⟩
        | succ k => simp at ha
  · exact ⟨Dn, rfl, by show (R.l ++ [Dn])[ST.length]? = some Dn; rw [← rs.len]; simp⟩
variable {X : Cx} {elt tg iter : Expr} {ifs : List Expr} {scope : Scope} {own : List (Str × Nat)} {pos spos py : Pos}
theorem dts_nil : DTs X g W [] xYes := ⟨fun hK => by
  refine ⟨fun pins s σ H Q I ⟨R, env, S, rs, re, h⟩ => pts_nil.run pins s σ H Q I (h true H R .refl rs rfl)⟩⟩
theorem dts_one {c : Expr} {f : TX} (h : DT X g W c f) : DTs X g W [c] f := ⟨fun hK => pts_one (h.pt hK)⟩
theorem de_comp (hc : X.calm = true) (hN : X.N.Nodup) (hi : DI X g W tg iter ix) (ok : BlkOk X.N X.env.scope scope own) (sl : ∀ i ∈ t.slots, i ∈ own.map (·.2))
    (hg : ∀ (s : Shared) (H : Hp) (C : Addr) (cl : List (Str × Addr)) (fp : List Addr), DG (X.blk s H scope (compEnvC scope cl C X.env) fp) tg t) (ht : ∀ (s : Shared) (H : Hp) (C : Addr) (cl : List (Str × Addr)) (fp : List Addr), DTs (X.blk s H scope (compEnvC scope cl C X.env) fp) g noW ifs ft)
    (he : ∀ (s : Shared) (H : Hp) (C : Addr) (cl : List (Str × Addr)) (fp : List Addr), DE (X.blk s H scope (compEnvC scope cl C X.env) fp) g noW elt fe) (hs : ∀ x, foldedSetIterable iter X.env x = pure x := by intro _; rfl) :
    DE X g W (.ListComp elt [⟨tg, iter, ifs, 0⟩] scope pos) (xComp ix t ft fe (own.map (·.2))) :=
  ⟨fun hK => (pe_lc hc hN (hi.pi hK) ok (fun s H C cl fp => (hg s H C cl fp).pg) (fun s H C cl fp => (ht s H C cl fp).pts hK) (fun s H C cl fp => (he s H C cl fp).pe hK) hs).imp fun σ H Q h => by
    have q := tLc_of sl h
    rw [hK] at q
    exact q⟩
theorem ds_setLc {i : Nat} {y : Str} (hc : X.calm = true) (hN : X.N.Nodup) (hy : X.N[i]? = some y) (hyl : X.env.scope.names.lookup y = some .local) (hsw : swapsWith (.ListComp elt [⟨tg, iter, ifs, 0⟩] scope pos) (some (.Name y py)) spos.line X.env = pure true) (hi : DI X g W tg iter ix)
    (ok : BlkOk X.N X.env.scope scope own) (sl : ∀ i ∈ t.slots, i ∈ own.map (·.2))
    (hg : ∀ (s : Shared) (H : Hp) (C : Addr) (cl : List (Str × Addr)) (fp : List Addr), DG (X.blk s H scope (compEnvC scope cl C X.env) fp) tg t) (ht : ∀ (s : Shared) (H : Hp) (C : Addr) (cl : List (Str × Addr)) (fp : List Addr), DTs (X.blk s H scope (compEnvC scope cl C X.env) fp) g noW ifs ft)
    (he : ∀ (s : Shared) (H : Hp) (C : Addr) (cl : List (Str × Addr)) (fp : List Addr), DE (X.blk s H scope (compEnvC scope cl C X.env) fp) g noW elt fe) (hs : ∀ x, foldedSetIterable iter X.env x = pure x := by intro _; rfl) :
    DSt X g W (.Assign [.Name y py] (.ListComp elt [⟨tg, iter, ifs, 0⟩] scope pos) spos) (xSet i (xComp ix t ft fe (own.map (·.2)))) :=
  ⟨fun hK => (ps_setLc hc hN hy hyl hsw (hi.pi hK) ok (fun s H C cl fp => (hg s H C cl fp).pg) (fun s H C cl fp => (ht s H C cl fp).pts hK) (fun s H C cl fp => (he s H C cl fp).pe hK) hs).imp fun D σ H ⟨R, env, S, rs, re, h⟩ => by
    have q : tD g W (xComp ix t ft fe (own.map (·.2))) σ H (fun x H1 => gName i x σ H1 D.nx) := tD_bindS rs re h fun d S1 v H1 R1 s1 rs1 re1 rd h1 => h1 _ H1 R1 .refl rs1 (re1.set rd i)
    have q := tLc_of sl q
    rw [hK] at q
    exact q⟩
theorem de_compM (hc : X.calm = true) (hN : X.N.Nodup) (hi : DI X g W tg iter ix) (ok : BlkOk X.N X.env.scope scope own) (sl : ∀ i ∈ t.slots, i ∈ own.map (·.2))
    (hg : ∀ (s : Shared) (H : Hp) (C : Addr) (cl : List (Str × Addr)) (fp : List Addr), DG (X.blk s H scope (compEnvC scope cl C X.env) fp) tg t) (ht : ∀ (s : Shared) (H : Hp) (C : Addr) (cl : List (Str × Addr)) (fp : List Addr), DTs (X.blk s H scope (compEnvC scope cl C X.env) fp) g noW ifs ft)
    (he : ∀ (s : Shared) (H : Hp) (C : Addr) (cl : List (Str × Addr)) (fp : List Addr), DE (X.blk s H scope (compEnvC scope cl C X.env) fp) g noW elt fe) (hs : ∀ x, foldedSetIterable iter X.env x = pure x := by intro _; rfl) :
    DE X g W (.ListComp elt [⟨tg, iter, ifs, 0⟩] scope pos) (xCompM ix t ft fe (own.map (·.2))) :=
  ⟨fun hK => (pe_lc hc hN (hi.pi hK) ok (fun s H C cl fp => (hg s H C cl fp).pg) (fun s H C cl fp => (ht s H C cl fp).pts hK) (fun s H C cl fp => (he s H C cl fp).pe hK) hs).imp fun σ H Q h => by
    have q := tLcM_of sl h
    rw [hK] at q
    exact q⟩
theorem ds_setLcM {i : Nat} {y : Str} (hc : X.calm = true) (hN : X.N.Nodup) (hy : X.N[i]? = some y) (hyl : X.env.scope.names.lookup y = some .local) (hsw : swapsWith (.ListComp elt [⟨tg, iter, ifs, 0⟩] scope pos) (some (.Name y py)) spos.line X.env = pure true) (hi : DI X g W tg iter ix)
    (ok : BlkOk X.N X.env.scope scope own) (sl : ∀ i ∈ t.slots, i ∈ own.map (·.2))
    (hg : ∀ (s : Shared) (H : Hp) (C : Addr) (cl : List (Str × Addr)) (fp : List Addr), DG (X.blk s H scope (compEnvC scope cl C X.env) fp) tg t) (ht : ∀ (s : Shared) (H : Hp) (C : Addr) (cl : List (Str × Addr)) (fp : List Addr), DTs (X.blk s H scope (compEnvC scope cl C X.env) fp) g noW ifs ft)
    (he : ∀ (s : Shared) (H : Hp) (C : Addr) (cl : List (Str × Addr)) (fp : List Addr), DE (X.blk s H scope (compEnvC scope cl C X.env) fp) g noW elt fe) (hs : ∀ x, foldedSetIterable iter X.env x = pure x := by intro _; rfl) :
    DSt X g W (.Assign [.Name y py] (.ListComp elt [⟨tg, iter, ifs, 0⟩] scope pos) spos) (xSet i (xCompM ix t ft fe (own.map (·.2)))) :=
  ⟨fun hK => (ps_setLc hc hN hy hyl hsw (hi.pi hK) ok (fun s H C cl fp => (hg s H C cl fp).pg) (fun s H C cl fp => (ht s H C cl fp).pts hK) (fun s H C cl fp => (he s H C cl fp).pe hK) hs).imp fun D σ H ⟨R, env, S, rs, re, h⟩ => by
    have q : tD g W (xCompM ix t ft fe (own.map (·.2))) σ H (fun x H1 => gName i x σ H1 D.nx) := tD_bindS rs re h fun d S1 v H1 R1 s1 rs1 re1 rd h1 => h1 _ H1 R1 .refl rs1 (re1.set rd i)
    have q := tLcM_of sl q
    rw [hK] at q
    exact q⟩
end
end DL
end
section
set_option maxRecDepth 100000
set_option maxHeartbeats 1000000
/-! DL7: defs that are called, where no repr is running (the guards are empty); the end of a law. -/
namespace DL
open PySem PySem.Spec PyProof.Rows L2

/-- a def's promise, where no guard stands -/
structure FnG (P : Program) (w : World) (K : PySem.W.Frag) (mg : Str → Option Value) (base : Heap) (CX : CXT) (k : Nat) (f : Addr) (fd : FuncData) (ps : List Str) (sp : Sp) : Prop where
  arity : ∀ vs H Q E, sp vs H Q E → vs.length = ps.length
  goes : ∀ (A : Around) (outer : List Env) (s : Shared) (H : Hp) (args : Args) (us : List Value) (vs : List V) (Q : VK) (E : XK), A.guards = some [] → Room k A → Env0 P w K mg base A outer s H →
    BindsTo s fd args (ps.zip us) → Vals vs us → sp vs H Q E → codeAny (model P w) A (.call (.ref f) args) (CR CX outer P w H s Q E) s
theorem FnG.mono {P : Program} {w : World} {K : PySem.W.Frag} {mg : Str → Option Value} {base : Heap} {CX : CXT} {j k : Nat} {f : Addr} {fd : FuncData} {ps : List Str} {sp : Sp} (F : FnG P w K mg base CX j f fd ps sp) (h : j ≤ k) : FnG P w K mg base CX k f fd ps sp :=
  ⟨F.arity, fun A outer s H args us vs Q E hg hr => F.goes A outer s H args us vs Q E hg (hr.mono h)⟩
section
variable {X : Cx} {CX : CXT} {k : Nat} {f : Addr} {fd : FuncData} {ps : List Str} {sp : Sp} {E : XK}
theorem run_g {pins : List (Addr × Obj)} {σ : L2.St} {H : Hp} {s : Shared} {Q : VK} {us : List Value} {vs : List V} (F : FnG X.prog X.w X.K X.mg X.base CX k f fd ps sp) (hg : X.A.guards = some []) (hr : Room k X.A) (hb : Binds X.K fd ps [])
    (hx : ∀ e s', CX X.stack H s E e s' → X.xe e s') (I : Inv X pins σ H s) (r : Vals vs us) (h : sp vs H Q E) : wpAny (model X.prog X.w) X.A (call (.ref f) us) (EP X pins σ Q) X.xe s := by
  have hl : us.length = ps.length := r.length.symm.trans (F.arity _ _ _ _ h)
  have hb' := hb s us I.kIn (by simpa using hl)
  rw [List.append_nil] at hb'
  refine wpAny_call (codeAny_mono (F.goes X.A X.stack s H ⟨us, []⟩ us vs Q E hg hr I.env0 hb' r h) fun r1 s1 q => ?_)
  cases r1 with
  | error e => exact hx e s1 q
  | ok fl =>
    cases fl with
    | ret u => exact I.after q
    | next => exact q.elim
    | brk => exact q.elim
    | cont => exact q.elim
end
/-- the promise: what the mirror says -/
def spD (g : G) (fx : FX) (n : Nat) : Sp := fun vs H Q E => ∃ R ds S, RS g R S H ∧ RDs g.K R H vs ds ∧ ds.length = n ∧ Post g E R H (PV g) (fx ds S) Q
/-- how a callee's exception comes: none, or as the context takes it -/
def Lets (CX : CXT) (X : Cx) (W : WY) : Prop := ∀ pins σ H s e s', Inv X pins σ H s → CX X.stack H s (wAt W σ) e s' → X.xe e s'
theorem lets0 {X : Cx} {W : WY} : Lets CX0 X W := fun _ _ _ _ _ _ _ h => h.elim
def xCall (n : Nat) (fx : FX) (ka : AX) : EX := fun env S => (ka env S).bind fun ds S1 => if ds.length = n then fx ds S1 else .bad
section
variable {X : Cx} {g : G} {W : WY} {CX : CXT} {k n : Nat} {f : Addr} {fd : FuncData} {ps : List Str} {fx : FX} {x : Str} {p pos : Pos} {e : Expr} {es : List Expr} {ka : AX}
theorem de_call (F : FnG X.prog X.w X.K X.mg X.base CX k f fd ps (spD g fx n)) (hgu : X.A.guards = some []) (hr : Room k X.A) (hg : Gl X x) (hm : X.mg x = some (.ref f)) (hk : PySem.W.keepIn X.K (.ref f) = true) (hb : Binds X.K fd ps []) (hx : Lets CX X W) (ha : DA X g W (e :: es) ka)
    (hdb : (x == ("__debug__" : Str)) = false := by decide) (he : starEach (e :: es) X.env = (false, eval e X.env) :: starEach es X.env := by rfl) (hpl : (backTo pos (starEach es X.env)).any (·.1) = false := by rfl) : DE X g W (.Call (.Name x p) (e :: es) [] pos) (xCall n fx ka) := by
  refine ⟨fun hK => ⟨fun pins s σ H Q I ⟨R, env, S, rs, re, h⟩ => wpAny_Call_Name_kw (ld_glob I hg hm ?_ hdb)⟩⟩
  have q : tDA g W ka σ H (fun vs H' => ∃ R ds S, RS g R S H' ∧ RDs g.K R H' vs ds ∧ ds.length = n ∧ Post g (wAt W σ) R H' (PV g) (fx ds S) Q) := tDA_bind rs re h fun ds S1 vs H1 R1 s1 rs1 re1 rv h1 => by
    split at h1
    · exact ⟨R1, ds, S1, rs1, rv, by assumption, h1⟩
    · exact h1.elim
  refine PySem.W.callWith_K (h₀ := X.base) I.ok.mod.kin hk (thn ((ha.pa hK).run pos pins s σ H _ I q) fun us s1 ⟨vs, H1, I1, r, q1⟩ => ⟨I1.kIn, ?_⟩) he hpl
  exact run_g F hgu hr hb (fun e s' z => hx pins σ H1 s1 e s' I1 z) I1 r q1
theorem de_call0 (F : FnG X.prog X.w X.K X.mg X.base CX k f fd ps (spD g fx 0)) (hgu : X.A.guards = some []) (hr : Room k X.A) (hg : Gl X x) (hm : X.mg x = some (.ref f)) (hk : PySem.W.keepIn X.K (.ref f) = true) (hb : Binds X.K fd ps []) (hx : Lets CX X W)
    (hdb : (x == ("__debug__" : Str)) = false := by decide) : DE X g W (.Call (.Name x p) [] [] pos) (xCall 0 fx xNil) := by
  refine ⟨fun hK => ⟨fun pins s σ H Q I ⟨R, env, S, rs, re, h⟩ => wpAny_Call_Name_kw (ld_glob I hg hm ?_ hdb)⟩⟩
  have q1 : spD g fx 0 [] H Q (wAt W σ) := ⟨R, [], S, rs, .nil, rfl, h⟩
  exact PySem.W.callWith_K0 I.kIn hk (run_g (us := []) F hgu hr hb (fun e s' z => hx pins σ H s e s' I z) I .nil q1)
end

/-! ### a def by its body -/
def env0 (nN : Nat) (ds : List D) : Envr := ds.map some ++ List.replicate (nN - ds.length) none
/-- a body as a function on values; what is raised within is no end of it (CX0) -/
def xBody (nN : Nat) (m : SX) : FX := fun ds S => match m (env0 nN ds) S with
  | .ok (.rt d) S' => .ok d S'
  | .ok (.nx _) S' => .ok dN S'
  | _ => .bad
/-- .. it leaves the def -/
def xBodyX (nN : Nat) (m : SX) : FX := fun ds S => match m (env0 nN ds) S with
  | .ok (.rt d) S' => .ok d S'
  | .ok (.nx _) S' => .ok dN S'
  | .ok (.xc x _) S' => .exc x S'
  | _ => .bad
theorem re_start {K : PySem.W.Frag} {R : RR} {H : Hp} {N : List Str} {vs : List V} {ds : List D} (r : RDs K R H vs ds) : RE K R H (L2.start N vs) (env0 N.length ds) := by
  unfold L2.start env0
  rw [r.len]
  have tail : ∀ n : Nat, RE K R H (List.replicate n none) (List.replicate n none) := fun n => by
    induction n with
    | zero => exact .nil
    | succ n ih => exact .cons trivial ih
  generalize N.length - ds.length = n
  induction r with
  | nil => exact tail n
  | cons h t ih => exact .cons ⟨_, rfl, h⟩ ih
section
variable {P : Program} {w : World} {K : PySem.W.Frag} {mg : Str → Option Value} {base : Heap}
/-- THE RULE for a def whose body is read by t at its entry -/
theorem fnG_of {CX : CXT} {k : Nat} {f : Addr} {name qual : Str} {params : Arguments} {body : List Stmt} {scope : Scope} {dV kV doc pm cdv ct oc : Value} {an od : Option Addr} {osl : Array (Option Value)} {N ps : List Str} {sp : Sp}
    (lk : K.lookup f = some ⟨oc, od, .func (PySem.W.fnOf name qual params body scope dV kV doc pm an cdv ct), osl⟩) (hcd : PySem.W.codeIn K cdv qual = true) (S : FnScope N ps scope) (ar : ∀ vs H Q E, sp vs H Q E → vs.length = ps.length)
    (hbody : ∀ (A : Around) (outer : List Env) (s : Shared) (H : Hp) (vs : List V) (Q : VK) (E : XK), A.guards = some [] → Room k (A.deeper (envOfC qual scope s.heap.objs.size f cdv)) → sp vs H Q E →
      ∃ t, PSs (cxOf CX P w K mg base N qual scope f cdv A outer s H E) body t ∧ t { nx := fun _ H' => Q .non H', rt := Q } (L2.start N vs) H) :
    FnG P w K mg base CX (k + 1) f (PySem.W.fnOf name qual params body scope dV kV doc pm an cdv ct) ps sp := by
  refine ⟨ar, fun A outer s H args us vs Q E hg hr e0 hb r hsp => ?_⟩
  have al := ar _ _ _ _ hsp
  have kin : K.In s.heap := e0.mod.kin.keeps fun b o e => (e0.bs b o e).1
  have nol : s.heap.NoLimit := e0.mod.nolimit.keeps fun b o e => (e0.bs b o e).1
  have kinds : ∀ y ∈ ps.zip us, scope.names.lookup y.1 = some .local ∨ (scope.names.lookup y.1 = some .cell ∧ ((cellsFrom (s.heap.objs.size + 1) scope.names []).lookup y.1).isSome = true) := fun y hy => by
    rcases S.par y.1 (List.of_mem_zip (show (y.1, y.2) ∈ ps.zip us from hy)).1 with q | q
    · exact .inl q
    · exact .inr ⟨q, PySem.W.cellsFrom_some _ _ _ (.inl q)⟩
  refine codeAny_call_function hr.depth (kin _ _ lk) rfl S.co S.gen rfl (PySem.W.codeRec_of kin hcd) (hb _ _ _ _ (wpAny_newFunctionEnv_cells S.kind kinds fun env he s1 x => ?_))
  subst he
  refine ⟨nol.keeps x.toInCall.keep, codeAny_func ?_⟩
  obtain ⟨t, ht, hq⟩ := hbody A outer s H vs Q E hg (hr.deeper _) hsp
  have J0 := inv_start (CX := CX) (E := E) S hr.hd e0 al r x
  refine wpAny_mono (ht.run [] s1 (L2.start N vs) H _ J0 hq) (fun fl s' hs => ?_) fun _ _ hs => hs
  cases fl with
  | ret u =>
    obtain ⟨v, σ', H', J, rv, q⟩ := hs
    exact ⟨v, H', J.os, J.bare, J.base, J.hok, rv, q⟩
  | next =>
    obtain ⟨σ', H', J, q⟩ := hs
    exact ⟨V.non, H', J.os, J.bare, J.base, J.hok, rfl, q⟩
  | brk =>
    obtain ⟨_, _, _, q⟩ := hs
    exact q.elim
  | cont =>
    obtain ⟨_, _, _, q⟩ := hs
    exact q.elim
theorem fun_okD {g : G} {m : SX} {x qual : Str} {st : Stmt} {f : Addr} {fd : FuncData} {N ps : List Str} {k : Nat} (hK : g.K = K) (F : Fun K x qual st f fd) (S : FnScope N ps (defScope st))
    (hb : ∀ (cdv : Value) (A : Around) (outer : List Env) (s : Shared) (H : Hp) (E : XK), A.guards = some [] → Room k (A.deeper (envOfC qual (defScope st) s.heap.objs.size f cdv)) →
      DSs (cxOf CX0 P w K mg base N qual (defScope st) f cdv A outer s H E).nox g noW (defBody st) m) : FnG P w K mg base CX0 (k + 1) f fd ps (spD g (xBody N.length m) ps.length) := by
  obtain ⟨oc, od, kV, doc, pm, an, cdv, ct, osl, rfl, lk, hcd⟩ := F.ex
  refine fnG_of lk hcd S (fun vs H Q E ⟨R, ds, S, _, r, l, _⟩ => by rw [r.len]; exact l) fun A outer s H vs Q E hg hr ⟨R, ds, S1, rs, r, l, h⟩ => ?_
  refine ⟨_, ((hb cdv A outer s H E hg hr).pss hK).nox, R, env0 N.length ds, S1, rs, re_start r, ?_⟩
  unfold xBody at h
  cases q : m (env0 N.length ds) S1 with
  | ok fl S2 =>
    rw [q] at h
    cases fl with
    | rt d => exact h
    | nx env => exact fun σ' H' R' a b c => h .non H' R' a b RD.non
    | bk _ => exact h.elim
    | ct _ => exact h.elim
    | xc _ _ => exact h.elim
  | exc _ _ => rw [q] at h; exact h.elim
  | bad => rw [q] at h; exact h.elim
end

/-! ### the end of a law -/
theorem law_callG {P : Program} {w : World} {K : PySem.W.Frag} {mg mb : Str → Option Value} {CX : CXT} {k : Nat} {fa a : Addr} {fd : FuncData} {x : Str} {sp : Sp} {s₁ : Shared} {vs : List Value} {ns : List Int}
    (kx : K.In s₁.heap) (gns : s₁.heap.Ns mainGlobals mg) (bns : s₁.heap.Ns builtinsNs mb) (bb : ∀ x : Str, x ≠ "__name__" → mb x = bootBuiltins x) (nol : s₁.heap.NoLimit) (hg : s₁.gens = #[])
    (ha : s₁.heap.get? a = some { cls := .type "list", data := .seq vs.toArray }) (hi : IntsAre vs ns) (hl : ns.length ≤ sizeLine) (hr : Room k callerA)
    (F : ∀ base : Heap, K.In base → base.Ns mainGlobals mg → FnG P w K mg base CX k fa fd [x] sp) (bind : ∀ (s : Shared) (u : Value), BindsTo s fd ⟨[u], []⟩ [(x, u)])
    (hsp : ∀ H : Hp, ((∃ o, H a = some (.frz o (.lst (ns.map V.int)))) ∨ ∀ H' : Hp, SqL K H' a (ns.map V.int)) → sp [.ref a] H (fun v _ => v = .bl true) fun _ _ _ => False)
    (hCX : ∀ H e s', CX [] H s₁ (fun _ _ _ => False) e s' → False) :
    codeAny (model P w) callerA (.call (.ref fa) ⟨[.ref a], []⟩) (fun r s' => r = .ok (.ret (.bool true)) ∧ OldK s₁.heap s'.heap ∧ s'.os = s₁.os ∧ AllBare s'.gens) s₁ := by
  have rv := vals_ints hi
  have lv := hi.length
  have core : ∀ H : Hp, Only H → sp [.ref a] H (fun v _ => v = .bl true) (fun _ _ _ => False) → HOk P w H s₁.heap → (∀ b, H b ≠ none → b = a) → (H a ≠ none → K.lookup a = none) →
      codeAny (model P w) callerA (.call (.ref fa) ⟨[.ref a], []⟩) (fun r s' => r = .ok (.ret (.bool true)) ∧ OldK s₁.heap s'.heap ∧ s'.os = s₁.os ∧ AllBare s'.gens) s₁ := by
    intro H hO hS hok hA hK
    have isA : ∀ {b : Addr} {u : HO}, H b = some u → b = a := fun {b u} q => hA b (by rw [q]; simp)
    have noA : ∀ {b : Addr} {o : Obj} {es : Array DictEntry} {ep : Nat}, s₁.heap.get? b = some o → o.data = .dict es ep → H b = none := fun {b o es ep} e d => by
      cases q : H b with
      | none => rfl
      | some u =>
        have := isA q
        subst this
        rw [ha] at e; cases e
        cases (show Data.seq vs.toArray _ = Data.dict es ep from d)
    have keepN : ∀ {b : Addr} {m : Str → Option Value}, s₁.heap.Ns b m → (hidT s₁.heap H).Ns b m := fun {b m} ⟨o, es, ep, e, d, r⟩ => ⟨o, es, ep, hidT_get e (noA e d), d, r⟩
    have keepK : K.In (hidT s₁.heap H) := fun b o e => hidT_get (kx b o e) (by
      cases q : H b with
      | none => rfl
      | some u =>
        have := isA q
        subst this
        rw [hK (by rw [q]; simp)] at e; cases e)
    have hM : Mod K mg (hidT s₁.heap H) := ⟨keepK, keepN gns, ⟨mb, keepN bns, bb⟩, let ⟨mc, h1, h2⟩ := nol; ⟨mc, keepN h1, h2⟩⟩
    have e0 : Env0 P w K mg (hidT s₁.heap H) callerA [] s₁ H := ⟨rfl, hM, fun b o e => of_hidT e, Nat.le_of_eq (hidT_size _ _), trivial, fun b hb => (by cases hb), hok, .of_eq hg⟩
    refine codeAny_mono ((F _ keepK (keepN gns)).goes callerA [] s₁ H ⟨[.ref a], []⟩ [.ref a] [.ref a] _ _ rfl hr e0 (bind s₁ (.ref a)) (.cons rfl .nil) hS) fun r s' h => ?_
    cases r with
    | error e => exact (hCX H e s' h).elim
    | ok fl =>
      cases fl with
      | next => exact h.elim
      | brk => exact h.elim
      | cont => exact h.elim
      | ret u =>
        obtain ⟨v, H', os, bare, un, hok', r', q⟩ := h
        have q : v = .bl true := q
        subst q
        obtain rfl : u = Value.bool true := r'
        refine ⟨rfl, OldK.of_keep fun b o e => ?_, os, bare⟩
        cases q : H b with
        | none => exact un.keep b o e q (fun z => by cases z) (by simp)
        | some u =>
          rcases hO b with z | ⟨ob, xs, z⟩
          · rw [q] at z; cases z
          · obtain ⟨e1, _⟩ := hok b _ z
            obtain ⟨e2, _⟩ := hok' b _ (un.frzs b ob _ z)
            rw [e] at e1; cases e1
            exact e2
  cases hk : K.lookup a with
  | some o =>
    have e := kx a o hk
    rw [ha] at e
    cases e
    refine core (fun _ => none) (fun _ => .inl rfl) (hsp _ (.inr fun H' => .inr ⟨_, vs.toArray, _, hk, rfl, rfl, rfl, by rw [List.size_toArray, lv]; exact hl, by simpa using rv⟩)) (fun b u z => by cases (show (none : Option HO) = some u from z)) (fun b z => absurd rfl z) fun z => absurd rfl z
  | none =>
    let obj : Obj := { cls := .type "list", data := .seq vs.toArray }
    let H0 : Hp := fun b => if b = a then some (.frz obj (.lst (ns.map V.int))) else none
    have inv : ∀ {b u}, H0 b = some u → b = a ∧ u = .frz obj (.lst (ns.map V.int)) := fun {b u} z => by
      by_cases hb : b = a
      · have z' := (if_pos hb).symm.trans z
        cases z'
        exact ⟨hb, rfl⟩
      · cases (if_neg hb).symm.trans z
    refine core H0 (fun b => ?_) (hsp _ (.inl ⟨obj, if_pos rfl⟩)) (fun b u z => ?_) (fun b z => ?_) fun _ => hk
    · by_cases hb : b = a
      · exact .inr ⟨_, _, if_pos hb⟩
      · exact .inl (if_neg hb)
    · obtain ⟨rfl, rfl⟩ := inv z
      exact ⟨ha, by rw [List.length_map]; exact hl, vs, _, rv, ha⟩
    · by_cases hb : b = a
      · exact hb
      · exact absurd (if_neg hb) z
/-- the goal that k_head leaves, from the law's mirror -/
theorem walkG {l : PySem.W.OpenLaw} {k : Nat} {q : Program} {loose : List Str} {XP : (Str → Option Value) → Heap → Prop} {YP : World → Heap → Prop} {d : DefRec} {K : Params → PySem.W.Frag} {x : Str} {fx : FX} {cl : World → (Str → Option Value) → Nat → Addr}
    (hn : l.most = some 63) (hdf : d.params.defaults = []) (hr : Room k callerA) (hY : ∀ (w : World) (h : Heap), YP w h → (K w.params).In h)
    (F : ∀ (w : World) (mg : Str → Option Value) (fa : Addr) (h : Heap), (K w.params).In h → h.Ns mainGlobals mg → mg d.name = some (.ref fa) →
      ∃ fd : FuncData, (∀ (s : Shared) (u : Value), BindsTo s fd ⟨[u], []⟩ [(x, u)]) ∧ ∀ base : Heap, (K w.params).In base → base.Ns mainGlobals mg → FnG l.prog w (K w.params) mg base CX0 k fa fd [x] (spD ⟨K w.params, cl w mg⟩ fx 1))
    (law : ∀ ns : List Int, ns.length ≤ 63 → ∃ S', fx [.scr ns] [] = .ok (dB true) S') :
    PySem.W.WalkO q loose XP YP l.row.toRowW d [] (fun f vs => PySem.call f vs) := by
  refine Att.attach_call hn hdf fun w s₀ s₁ mg mb fa o pm cd doc a vs ns GR Y ho hd hcd hmg hobj hints hlen hg => ?_
  have kx := hY w _ Y
  obtain ⟨fd, hb, hF⟩ := F w mg fa _ kx GR.T.g hmg
  refine law_callG kx GR.T.g GR.T.b GR.T.builtins GR.T.nolimit hg hobj hints (Nat.le_trans hlen (by decide)) hr hF hb (fun H hS => ?_) fun _ _ _ h => h
  obtain ⟨S', e⟩ := law ns hlen
  refine ⟨R0, [.scr ns], [], ⟨rfl, List.nodup_nil, fun a h => (by cases h), fun n a o h => (by cases h)⟩, .cons ⟨a, rfl, ?_⟩ .nil, rfl, ?_⟩
  · rcases hS with ⟨o, h⟩ | h
    · exact .inl ⟨.inr ⟨o, h⟩, notin0⟩
    · exact .inr h
  · rw [e]
    intro v H' R' _ _ r
    cases r
    rfl
end DL
end
section
set_option maxRecDepth 100000
set_option maxHeartbeats 1000000
/-! DL8: short words for printed proofs. -/
namespace DL
open PySem PySem.Spec PyProof.Rows L2

/-- a def of the module that keeps its mirror's promise -/
structure Cal (P : Program) (w : World) (K : PySem.W.Frag) (mg : Str → Option Value) (base : Heap) (g : G) (k n : Nat) (x : Str) (fx : FX) : Prop where
  ex : ∃ (f : Addr) (fd : FuncData) (ps : List Str), FnG P w K mg base CX0 k f fd ps (spD g fx n) ∧ mg x = some (.ref f) ∧ PySem.W.keepIn K (.ref f) = true ∧ Binds K fd ps []
/-- a def of the text behind the top -/
structure FunAt (K : PySem.W.Frag) (mg : Str → Option Value) (x : Str) (st : Stmt) (ps : List Str) : Prop where
  ex : ∃ (f : Addr) (fd : FuncData), Fun K x x st f fd ∧ mg x = some (.ref f) ∧ Binds K fd ps []
section
variable {P : Program} {w : World} {K : PySem.W.Frag} {mg : Str → Option Value} {base : Heap}
theorem cal_of {g : G} {m : SX} {x : Str} {st : Stmt} {N ps : List Str} {k : Nat} (hK : g.K = K) (F : FunAt K mg x st ps) (S : FnScope N ps (defScope st))
    (hb : ∀ (f : Addr) (cdv : Value) (A : Around) (outer : List Env) (s : Shared) (H : Hp) (E : XK), A.guards = some [] → Room k (A.deeper (envOfC x (defScope st) s.heap.objs.size f cdv)) →
      DSs (cxOf CX0 P w K mg base N x (defScope st) f cdv A outer s H E).nox g noW (defBody st) m) : Cal P w K mg base g (k + 1) ps.length x (xBody N.length m) := by
  obtain ⟨f, fd, F, hm, hb'⟩ := F.ex
  exact ⟨f, fd, ps, fun_okD hK F S (hb f), hm, F.kp, hb'⟩
theorem Cal.mono {g : G} {j k n : Nat} {x : Str} {fx : FX} (c : Cal P w K mg base g j n x fx) (h : j ≤ k) : Cal P w K mg base g k n x fx := by
  obtain ⟨f, fd, ps, F, r⟩ := c.ex
  exact ⟨f, fd, ps, F.mono h, r⟩
end
section
variable {X : Cx} {g : G} {W : WY} {x : Str} {p pos : Pos} {e e2 : Expr} {es : List Expr} {ka : AX} {k n : Nat} {fx : FX} {f : EX}
theorem dcall (c : Cal X.prog X.w X.K X.mg X.base g k n x fx) (hgu : X.A.guards = some []) (hr : Room k X.A) (hg : Gl X x) (ha : DA X g W (e :: es) ka) (hdb : (x == ("__debug__" : Str)) = false := by decide)
    (he : starEach (e :: es) X.env = (false, eval e X.env) :: starEach es X.env := by rfl) (hpl : (backTo pos (starEach es X.env)).any (·.1) = false := by rfl) : DE X g W (.Call (.Name x p) (e :: es) [] pos) (xCall n fx ka) := by
  obtain ⟨fa, fd, ps, F, hm, hk, hb⟩ := c.ex
  exact de_call F hgu hr hg hm hk hb lets0 ha hdb he hpl
theorem dcall0 (c : Cal X.prog X.w X.K X.mg X.base g k 0 x fx) (hgu : X.A.guards = some []) (hr : Room k X.A) (hg : Gl X x) (hdb : (x == ("__debug__" : Str)) = false := by decide) : DE X g W (.Call (.Name x p) [] [] pos) (xCall 0 fx xNil) := by
  obtain ⟨fa, fd, ps, F, hm, hk, hb⟩ := c.ex
  exact de_call0 F hgu hr hg hm hk hb lets0 hdb
theorem dv (i : Nat) (hN : X.N[i]? = some x := by rfl) (hv : Vis X.env.scope x := by first | exact Or.inl rfl | exact Or.inr (Or.inl rfl) | exact Or.inr (Or.inr rfl)) (hd : (x == ("__debug__" : Str)) = false := by decide) (hcd : (x == ("__classdict__" : Str)) = false := by decide) : DE X g W (.Name x pos) (xV i) := de_var hN hv hd hcd
theorem dgi {i : Int} (hg : Gl X x) (hm : ∃ t, X.mg x = some (.int i t)) (hd : (x == ("__debug__" : Str)) = false := by decide) : DE X g W (.Name x pos) (xC (.int i)) := by
  obtain ⟨t, hm⟩ := hm
  exact de_gi hg hm hd
theorem dgs {i : Str} (hg : Gl X x) (hm : ∃ t, X.mg x = some (.str i t)) (hd : (x == ("__debug__" : Str)) = false := by decide) : DE X g W (.Name x pos) (xC (.str i)) := by
  obtain ⟨t, hm⟩ := hm
  exact de_gs hg hm hd
variable (he : starEach (e :: es) X.env = (false, eval e X.env) :: starEach es X.env) (hpl : (backTo pos (starEach es X.env)).any (·.1) = false)
theorem dcLen (hm : X.mg "len" = none) (ha : DA X g W (e :: es) ka) (hg : Gl X "len" := by rfl) (he : starEach (e :: es) X.env = (false, eval e X.env) :: starEach es X.env := by rfl) (hpl : (backTo pos (starEach es X.env)).any (·.1) = false := by rfl) : DE X g W (.Call (.Name "len" p) (e :: es) [] pos) (xCB fLen ka) := de_callB cbLen hg hm PySem.boot_len ha (he := he) (hpl := hpl)
theorem dcAbs (hm : X.mg "abs" = none) (ha : DA X g W (e :: es) ka) (hg : Gl X "abs" := by rfl) (he : starEach (e :: es) X.env = (false, eval e X.env) :: starEach es X.env := by rfl) (hpl : (backTo pos (starEach es X.env)).any (·.1) = false := by rfl) : DE X g W (.Call (.Name "abs" p) (e :: es) [] pos) (xCB fAbs ka) := de_callB cbAbs hg hm (by decide +kernel) ha (he := he) (hpl := hpl)
theorem dcMax2 (hc : X.calm = true) (hm : X.mg "max" = none) (ha : DA X g W (e :: es) ka) (hg : Gl X "max" := by rfl) (he : starEach (e :: es) X.env = (false, eval e X.env) :: starEach es X.env := by rfl) (hpl : (backTo pos (starEach es X.env)).any (·.1) = false := by rfl) : DE X g W (.Call (.Name "max" p) (e :: es) [] pos) (xCB fMax2 ka) := de_callB (cbMax2 hc) hg hm (by decide +kernel) ha (he := he) (hpl := hpl)
theorem dcMin2 (hc : X.calm = true) (hm : X.mg "min" = none) (ha : DA X g W (e :: es) ka) (hg : Gl X "min" := by rfl) (he : starEach (e :: es) X.env = (false, eval e X.env) :: starEach es X.env := by rfl) (hpl : (backTo pos (starEach es X.env)).any (·.1) = false := by rfl) : DE X g W (.Call (.Name "min" p) (e :: es) [] pos) (xCB fMin2 ka) := de_callB (cbMin2 hc) hg hm (by decide +kernel) ha (he := he) (hpl := hpl)
theorem dcMax (hc : X.calm = true) (hu : X.A.units + 65 < cLine) (hm : X.mg "max" = none) (ha : DA X g W (e :: es) ka) (hg : Gl X "max" := by rfl) (he : starEach (e :: es) X.env = (false, eval e X.env) :: starEach es X.env := by rfl) (hpl : (backTo pos (starEach es X.env)).any (·.1) = false := by rfl) : DE X g W (.Call (.Name "max" p) (e :: es) [] pos) (xCB fMax ka) := de_callB (cbMax hc hu) hg hm (by decide +kernel) ha (he := he) (hpl := hpl)
theorem dcMin (hc : X.calm = true) (hu : X.A.units + 65 < cLine) (hm : X.mg "min" = none) (ha : DA X g W (e :: es) ka) (hg : Gl X "min" := by rfl) (he : starEach (e :: es) X.env = (false, eval e X.env) :: starEach es X.env := by rfl) (hpl : (backTo pos (starEach es X.env)).any (·.1) = false := by rfl) : DE X g W (.Call (.Name "min" p) (e :: es) [] pos) (xCB fMin ka) := de_callB (cbMin hc hu) hg hm (by decide +kernel) ha (he := he) (hpl := hpl)
theorem dcSum (hc : X.calm = true) (hm : X.mg "sum" = none) (ha : DA X g W (e :: es) ka) (hg : Gl X "sum" := by rfl) (he : starEach (e :: es) X.env = (false, eval e X.env) :: starEach es X.env := by rfl) (hpl : (backTo pos (starEach es X.env)).any (·.1) = false := by rfl) : DE X g W (.Call (.Name "sum" p) (e :: es) [] pos) (xCB fSum ka) := de_callB (cbSum hc) hg hm (by decide +kernel) ha (he := he) (hpl := hpl)
theorem dcSort (hm : X.mg "sorted" = none) (ha : DA X g W (e :: es) ka) (hg : Gl X "sorted" := by rfl) (he : starEach (e :: es) X.env = (false, eval e X.env) :: starEach es X.env := by rfl) (hpl : (backTo pos (starEach es X.env)).any (·.1) = false := by rfl) : DE X g W (.Call (.Name "sorted" p) (e :: es) [] pos) (xCB fSort ka) := de_callB cbSort hg hm (by decide +kernel) ha (he := he) (hpl := hpl)
theorem dcAll (hc : X.calm = true) (hm : X.mg "all" = none) (ha : DA X g W (e :: es) ka) (hg : Gl X "all" := by rfl) (he : starEach (e :: es) X.env = (false, eval e X.env) :: starEach es X.env := by rfl) (hpl : (backTo pos (starEach es X.env)).any (·.1) = false := by rfl) : DE X g W (.Call (.Name "all" p) (e :: es) [] pos) (xCB fAll ka) := de_callB (cbAll hc) hg hm (by decide +kernel) ha (he := he) (hpl := hpl)
theorem dcRepr (hgu : X.A.guards = some []) (hu : X.A.units + 64 < cLine) (hm : X.mg "repr" = none) (ha : DA X g W (e :: es) ka) (hg : Gl X "repr" := by rfl) (he : starEach (e :: es) X.env = (false, eval e X.env) :: starEach es X.env := by rfl) (hpl : (backTo pos (starEach es X.env)).any (·.1) = false := by rfl) : DE X g W (.Call (.Name "repr" p) (e :: es) [] pos) (xCB fRepr ka) := de_callB (cbRepr hgu hu) hg hm (by decide +kernel) ha (he := he) (hpl := hpl)
theorem dcInt (hm : X.mg "int" = none) (ha : DA X g W (e :: es) ka) (hg : Gl X "int" := by rfl) (he : starEach (e :: es) X.env = (false, eval e X.env) :: starEach es X.env := by rfl) (hpl : (backTo pos (starEach es X.env)).any (·.1) = false := by rfl) : DE X g W (.Call (.Name "int" p) (e :: es) [] pos) (xCB fInt ka) := de_callTy cbInt hg hm (by decide +kernel) ha (he := he) (hpl := hpl)
theorem dcStr (hm : X.mg "str" = none) (ha : DA X g W (e :: es) ka) (hg : Gl X "str" := by rfl) (he : starEach (e :: es) X.env = (false, eval e X.env) :: starEach es X.env := by rfl) (hpl : (backTo pos (starEach es X.env)).any (·.1) = false := by rfl) : DE X g W (.Call (.Name "str" p) (e :: es) [] pos) (xCB fStr ka) := de_callTy cbStr hg hm (by decide +kernel) ha (he := he) (hpl := hpl)
theorem dcTuple (hm : X.mg "tuple" = none) (ha : DA X g W (e :: es) ka) (hg : Gl X "tuple" := by rfl) (he : starEach (e :: es) X.env = (false, eval e X.env) :: starEach es X.env := by rfl) (hpl : (backTo pos (starEach es X.env)).any (·.1) = false := by rfl) : DE X g W (.Call (.Name "tuple" p) (e :: es) [] pos) (xCB fTuple ka) := de_callTy cbTuple hg hm (by decide +kernel) ha (he := he) (hpl := hpl)
theorem dcList (hm : X.mg "list" = none) (ha : DA X g W (e :: es) ka) (hg : Gl X "list" := by rfl) (he : starEach (e :: es) X.env = (false, eval e X.env) :: starEach es X.env := by rfl) (hpl : (backTo pos (starEach es X.env)).any (·.1) = false := by rfl) : DE X g W (.Call (.Name "list" p) (e :: es) [] pos) (xCB fList ka) := de_callTy cbList hg hm (by decide +kernel) ha (he := he) (hpl := hpl)
theorem dcListM (hm : X.mg "list" = none) (ha : DA X g W (e :: es) ka) (hg : Gl X "list" := by rfl) (he : starEach (e :: es) X.env = (false, eval e X.env) :: starEach es X.env := by rfl) (hpl : (backTo pos (starEach es X.env)).any (·.1) = false := by rfl) : DE X g W (.Call (.Name "list" p) (e :: es) [] pos) (xCB fListM ka) := de_callTy cbListM hg hm (by decide +kernel) ha (he := he) (hpl := hpl)
theorem dcIsi {T : String} {py : Pos} {y : Str} (ho : kitOk g.K T) (hv : bootBuiltins y = some (.type T)) (hm : X.mg "isinstance" = none) (hm2 : X.mg y = none) (ha : DE X g W e f) (hg : Gl X "isinstance" := by rfl) (hg2 : Gl X y := by rfl) (hn2 : y ≠ "__name__" := by decide) (hd2 : (y == ("__debug__" : Str)) = false := by decide)
    (he : starEach [e, .Name y py] X.env = (false, eval e X.env) :: starEach [.Name y py] X.env := by rfl) (he2 : starEach [Expr.Name y py] X.env = (false, eval (.Name y py) X.env) :: starEach [] X.env := by rfl)
    (hpl : (backTo pos (starEach [Expr.Name y py] X.env)).any (·.1) = false := by rfl) : DE X g W (.Call (.Name "isinstance" p) [e, .Name y py] [] pos) (xIsi T f) := de_isi ho hg hm hg2 hm2 hv ha hn2 hd2 he he2 hpl
/-- x.append(e), x.pop(i), x.pop() -/
theorem dmAppend {o : Expr} {apos cpos : Pos} (ho : DE X g W o f) (ha : DA X g W [e] ka) (hbase : attributeBase o "append" X.env (eval o X.env) = eval o X.env := by rfl)
    (hfew : ((backTo cpos (starEach [e] X.env)).all (fun x => !x.1) && (backToKw cpos (keywordEach [] X.env)).all (fun x => x.1.isSome) && decide ([e].length + ([] : List Keyword).length + (if ([] : List Keyword).isEmpty then 0 else 1) < 30)) = true := by rfl)
    (hline : (apos.endLine == cpos.line) = true := by rfl) (hs : starEach [e] X.env = (false, eval e X.env) :: starEach [] X.env := by rfl) : DE X g W (.Call (.Attribute o "append" apos) [e] [] cpos) (xBM "list" mAppend f ka) :=
  de_bm PySem.F.plainAttrs_list PySem.F.slot_list_append PySem.F.type_list_append (.inl rfl) mbAppend ho ha hbase hfew hline hs rfl
theorem dmPopAt {o : Expr} {apos cpos : Pos} (ho : DE X g W o f) (ha : DA X g W [e] ka) (hbase : attributeBase o "pop" X.env (eval o X.env) = eval o X.env := by rfl)
    (hfew : ((backTo cpos (starEach [e] X.env)).all (fun x => !x.1) && (backToKw cpos (keywordEach [] X.env)).all (fun x => x.1.isSome) && decide ([e].length + ([] : List Keyword).length + (if ([] : List Keyword).isEmpty then 0 else 1) < 30)) = true := by rfl)
    (hline : (apos.endLine == cpos.line) = true := by rfl) (hs : starEach [e] X.env = (false, eval e X.env) :: starEach [] X.env := by rfl) : DE X g W (.Call (.Attribute o "pop" apos) [e] [] cpos) (xBM "list" mPopAt f ka) :=
  de_bm PySem.F.plainAttrs_list PySem.F.slot_list_pop PySem.F.type_list_pop (.inl rfl) mbPopAt ho ha hbase hfew hline hs rfl
end
end DL
end
section
set_option maxRecDepth 100000
set_option maxHeartbeats 1000000
/-! DL9: a call's leavings in the store are cut off. -/
namespace DL
open PySem PySem.Spec PyProof.Rows L2
def closedD (n : Nat) : D → Bool
  | .loc m => decide (m < n)
  | _ => true
def closedO (n : Nat) : SO → Bool
  | .lst xs => xs.all (closedD n)
  | .dK kvs => kvs.all fun p => closedD n p.2
  | .dT kvs => kvs.all fun p => closedD n p.2
  | .ins _ fs => fs.all fun p => closedD n p.2
def okTrim (S S' : Sto) : Prop := ∀ i o, i < S.length → S'[i]? = some o → S[i]? = some o ∨ closedO S.length o = true
def fixD (n : Nat) (S' : Sto) : D → Option D
  | .py d => some (.py d)
  | .scr ns => some (.scr ns)
  | .loc m => if m < n then some (.loc m) else match S'[m]? with
    | some (.lst xs) => (pys xs).map fun es => dL es
    | _ => none
open Classical in
/-- what was there before stays, the rest is dropped; a new list that is handed back is hardened -/
noncomputable def xTrim (fx : FX) : FX := fun ds S => match fx ds S with
  | .ok r S' => if okTrim S S' then (match fixD S.length S' r with
    | some d => .ok d (S'.take S.length)
    | none => .ok r S') else .ok r S'
  | r => r
theorem Rp.weak {K : PySem.W.Frag} {R R' : RR} {H : Hp} (h : ∀ a, a ∈ R' → a ∈ R) {v : V} {d : PyData} (r : Rp K R H v d) : Rp K R' H v d := Rp.chg (fun a o n e => ⟨e, fun z => n (h a z)⟩) r
theorem RD.cut {K : PySem.W.Frag} {R R' : RR} {H : Hp} {n : Nat} (h : ∀ a, a ∈ R' → a ∈ R) (l : ∀ (m : Nat) (a : Addr), m < n → R.l[m]? = some a → R'.l[m]? = some a) {v : V} : ∀ {d : D}, closedD n d = true → RD K R H v d → RD K R' H v d
  | .py _, _, r => Rp.weak h r
  | .loc m, c, ⟨a, e, q⟩ => ⟨a, e, l m a (of_decide_eq_true c) q⟩
  | .scr _, _, ⟨a, e, .inl ⟨q, k⟩⟩ => ⟨a, e, .inl ⟨q, fun z => k (h a z)⟩⟩
  | .scr _, _, ⟨a, e, .inr q⟩ => ⟨a, e, .inr q⟩
theorem RDs.cut {K : PySem.W.Frag} {R R' : RR} {H : Hp} {n : Nat} (h : ∀ a, a ∈ R' → a ∈ R) (l : ∀ (m : Nat) (a : Addr), m < n → R.l[m]? = some a → R'.l[m]? = some a) : ∀ {vs : List V} {ds : List D}, ds.all (closedD n) = true → RDs K R H vs ds → RDs K R' H vs ds
  | _, _, _, .nil => .nil
  | _, _, c, .cons q t => by
    rw [List.all_cons, Bool.and_eq_true] at c
    exact .cons (q.cut h l c.1) (RDs.cut h l c.2 t)
theorem RKv.cut {K : PySem.W.Frag} {R R' : RR} {H : Hp} {κ : Type} {n : Nat} (h : ∀ a, a ∈ R' → a ∈ R) (l : ∀ (m : Nat) (a : Addr), m < n → R.l[m]? = some a → R'.l[m]? = some a) : ∀ {vs : List (κ × V)} {ds : List (κ × D)}, (ds.all fun p => closedD n p.2) = true → RKv K R H vs ds → RKv K R' H vs ds
  | _, _, _, .nil => .nil
  | _, _, c, .cons q t => by
    rw [List.all_cons, Bool.and_eq_true] at c
    exact .cons ⟨q.1, q.2.cut h l c.1⟩ (RKv.cut h l c.2 t)
theorem RO.cut {g : G} {R R' : RR} {H : Hp} {a : Addr} {n : Nat} (h : ∀ a, a ∈ R' → a ∈ R) (l : ∀ (m : Nat) (a : Addr), m < n → R.l[m]? = Option.some a → R'.l[m]? = Option.some a) : ∀ {o : SO}, closedO n o = true → RO g R H a o → RO g R' H a o
  | .lst _, c, ⟨vs, e, k, q⟩ => ⟨vs, e, k, q.cut h l c⟩
  | .dK _, c, ⟨vs, e, q⟩ => ⟨vs, e, q.cut h l c⟩
  | .dT _, c, ⟨vs, e, q⟩ => ⟨vs, e, q.cut h l c⟩
  | .ins _ _, c, ⟨dx, vs, e, e2, k, q⟩ => ⟨dx, vs, e, e2, fun z => k (h _ z), q.cut h l c⟩
/-- an old object that stayed as it was: its places are old -/
theorem RD.closed {K : PySem.W.Frag} {R : RR} {H : Hp} {v : V} : ∀ {d : D}, RD K R H v d → closedD R.l.length d = true
  | .py _, _ => rfl
  | .loc m, ⟨a, _, q⟩ => decide_eq_true (List.getElem?_eq_some_iff.mp q).1
  | .scr _, _ => rfl
theorem RDs.closed {K : PySem.W.Frag} {R : RR} {H : Hp} : ∀ {vs : List V} {ds : List D}, RDs K R H vs ds → ds.all (closedD R.l.length) = true
  | _, _, .nil => rfl
  | _, _, .cons q t => by rw [List.all_cons, Bool.and_eq_true]; exact ⟨q.closed, RDs.closed t⟩
theorem RKv.closed {K : PySem.W.Frag} {R : RR} {H : Hp} {κ : Type} : ∀ {vs : List (κ × V)} {ds : List (κ × D)}, RKv K R H vs ds → (ds.all fun p => closedD R.l.length p.2) = true
  | _, _, .nil => rfl
  | _, _, .cons q t => by rw [List.all_cons, Bool.and_eq_true]; exact ⟨q.2.closed, RKv.closed t⟩
theorem RO.closed {g : G} {R : RR} {H : Hp} {a : Addr} : ∀ {o : SO}, RO g R H a o → closedO R.l.length o = true
  | .lst _, ⟨_, _, _, q⟩ => q.closed
  | .dK _, ⟨_, _, q⟩ => q.closed
  | .dT _, ⟨_, _, q⟩ => q.closed
  | .ins _ _, ⟨_, _, _, _, _, q⟩ => q.closed
theorem trim_ok {g : G} {W : XK} {R : RR} {S : Sto} {H : Hp} {fx : FX} {ds : List D} {Q : VK} (rs : RS g R S H) (h : Post g W R H (PV g) (xTrim fx ds S) Q) : Post g W R H (PV g) (fx ds S) Q := by
  unfold xTrim at h
  cases q : fx ds S with
  | exc x S' => rw [q] at h; exact h
  | bad => rw [q] at h; exact h
  | ok r S' =>
    rw [q] at h
    simp only at h
    split at h
    · rename_i hk
      split at h
      · rename_i d hd
        intro v H' R' s rs' rd
        have pre : ∀ (m : Nat) (a : Addr), m < S.length → R'.l[m]? = some a → R.l[m]? = some a := fun m a hm e => by
          obtain ⟨t, ht⟩ := s.pre
          rw [← ht, List.getElem?_append_left (by rw [rs.len]; exact hm)] at e
          exact e
        have sub : ∀ a, a ∈ (⟨R.l, R'.m⟩ : RR) → a ∈ R' := fun a z => z.elim (fun z => .inl (s.pre.subset z)) .inr
        have hle : S.length ≤ S'.length := by rw [← rs.len, ← rs'.len]; exact s.pre.length_le
        refine h v H' ⟨R.l, R'.m⟩ ⟨List.prefix_refl _, fun a z n => s.new a (sub a z) n, s.keep, s.hid⟩ ⟨?_, rs.nd, fun a z => ⟨fun z2 => (rs'.hid a z).1 (s.pre.subset z2), (rs'.hid a z).2⟩, fun n a o e1 e2 => ?_⟩ ?_
        · show R.l.length = _
          rw [List.length_take, Nat.min_eq_left hle]; exact rs.len
        · have hn : n < S.length := by
            have := (List.getElem?_eq_some_iff.mp e1).1
            rw [rs.len] at this; exact this
          have e2' : S'[n]? = some o := by
            rw [List.getElem?_take] at e2
            rw [if_pos hn] at e2; exact e2
          have ro := rs'.obj n a o (pre_get s.pre e1) e2'
          refine RO.cut sub pre ?_ ro
          rcases hk n o hn e2' with z | z
          · have := (rs.obj n a o e1 z).closed
            rw [rs.len] at this; exact this
          · exact z
        · cases r with
          | py x => cases hd; exact Rp.weak sub rd
          | scr ns => cases hd; exact RD.cut (n := S.length) sub pre (d := .scr ns) rfl rd
          | loc m =>
            unfold fixD at hd
            simp only at hd
            split at hd
            · rename_i hm
              cases hd
              exact RD.cut (n := S.length) sub pre (d := .loc m) (decide_eq_true hm) rd
            · rename_i hm
              split at hd
              · rename_i xs hx
                cases hp : pys xs with
                | none => rw [hp] at hd; cases hd
                | some es =>
                  rw [hp] at hd; cases hd
                  obtain ⟨a, rfl, ha⟩ := rd
                  obtain ⟨vs, e1, e2, e3⟩ := rs'.obj m a _ ha hx
                  refine Rp.lst e1 (fun z => ?_) (RpAll.chg (fun b o n e => ⟨e, fun z => n (sub b z)⟩) (e3.pys hp))
                  rcases z with z | z
                  · obtain ⟨j, hj⟩ := List.getElem?_of_mem z
                    have hj2 := pre_get s.pre hj
                    have hjl := (List.getElem?_eq_some_iff.mp hj).1
                    have hml := (List.getElem?_eq_some_iff.mp ha).1
                    have : j = m := (List.getElem?_inj (by exact (List.getElem?_eq_some_iff.mp hj2).1) rs'.nd).mp (hj2.trans ha.symm)
                    rw [rs.len] at hjl
                    omega
                  · exact (rs'.hid a z).1 (List.mem_of_getElem? ha)
              · cases hd
      · exact h
    · exact h
theorem _root_.DL.FnG.imp {P : Program} {w : World} {K : PySem.W.Frag} {mg : Str → Option Value} {base : Heap} {CX : CXT} {k : Nat} {f : Addr} {fd : FuncData} {ps : List Str} {sp sp' : Sp} (F : FnG P w K mg base CX k f fd ps sp) (h : ∀ vs H Q E, sp' vs H Q E → sp vs H Q E) : FnG P w K mg base CX k f fd ps sp' :=
  ⟨fun vs H Q E z => F.arity vs H Q E (h _ _ _ _ z), fun A outer s H args us vs Q E hg hr e0 b r z => F.goes A outer s H args us vs Q E hg hr e0 b r (h _ _ _ _ z)⟩
theorem FnG.trim {P : Program} {w : World} {K : PySem.W.Frag} {mg : Str → Option Value} {base : Heap} {CX : CXT} {k n : Nat} {f : Addr} {fd : FuncData} {ps : List Str} {g : G} {fx : FX} (F : FnG P w K mg base CX k f fd ps (spD g fx n)) : FnG P w K mg base CX k f fd ps (spD g (xTrim fx) n) :=
  F.imp fun vs H Q E ⟨R, ds, S, rs, rd, l, h⟩ => ⟨R, ds, S, rs, rd, l, trim_ok rs h⟩
theorem Cal.trim {P : Program} {w : World} {K : PySem.W.Frag} {mg : Str → Option Value} {base : Heap} {g : G} {k n : Nat} {x : Str} {fx : FX} (c : Cal P w K mg base g k n x fx) : Cal P w K mg base g k n x (xTrim fx) := by
  obtain ⟨f, fd, ps, F, r⟩ := c.ex
  exact ⟨f, fd, ps, F.trim, r⟩
/-- a mirror that is not looked into by unfolding -/
theorem shut_ex (f : FX) : ∃ g : FX, g = f := ⟨f, rfl⟩
noncomputable def shutF (f : FX) : FX := Classical.choose (shut_ex f)
theorem shutF_eq (f : FX) : shutF f = f := Classical.choose_spec (shut_ex f)
theorem Cal.shut {P : Program} {w : World} {K : PySem.W.Frag} {mg : Str → Option Value} {base : Heap} {g : G} {k n : Nat} {x : Str} {fx : FX} (c : Cal P w K mg base g k n x fx) : Cal P w K mg base g k n x (shutF fx) := by
  rw [shutF_eq]
  exact c
theorem FnG.shut {P : Program} {w : World} {K : PySem.W.Frag} {mg : Str → Option Value} {base : Heap} {CX : CXT} {k n : Nat} {f : Addr} {fd : FuncData} {ps : List Str} {g : G} {fx : FX} (F : FnG P w K mg base CX k f fd ps (spD g fx n)) : FnG P w K mg base CX k f fd ps (spD g (shutF fx) n) := by
  rw [shutF_eq]
  exact F
theorem Cal.fx {P : Program} {w : World} {K : PySem.W.Frag} {mg : Str → Option Value} {base : Heap} {g : G} {k n : Nat} {x : Str} {fx fy : FX} (c : Cal P w K mg base g k n x fx) (h : fx = fy) : Cal P w K mg base g k n x fy := h ▸ c
end DL
end
section
set_option maxRecDepth 100000
set_option maxHeartbeats 4000000
/-! DZ: zip of any two iterators: a tuple with a list. -/
namespace DL
open PySem PySem.Spec PyProof.Rows L2
open PySem.Sem (wp)
/-- how an iterator's next goes, whatever it runs over -/
structure Nx (it l : Addr) (St : Heap → Nat → Prop) (items : Array Value) : Prop where
  keep : ∀ {g g' : Heap} {k : Nat}, (∀ c o, c = it ∨ c = l → g.get? c = some o → g'.get? c = some o) → St g k → St g' k
  lt : ∀ {g : Heap} {k : Nat}, St g k → it < g.objs.size
  item : ∀ {prog : Program} {w : World} {A : Around} {E : Value → Shared → Prop} {s : Shared} {k : Nat} {x : Value} {Q : Value → Shared → Prop}, St s.heap k → items[k]? = some x →
    (∀ g, St g (k + 1) → Heap.SameBut it s.heap g → Q x { s with heap := g }) → wpAny (model prog w) A (Builtin.SmallTypes.nextOf (.ref it)) Q E s
  stop : ∀ {prog : Program} {w : World} {A : Around} {E : Value → Shared → Prop} {s : Shared} {k : Nat} {Q : Value → Shared → Prop}, A.handled = none → St s.heap k → items[k]? = none →
    (∀ g e, Heap.ExtBut it s.heap g → (∃ o, g.get? e = some o ∧ o.cls = .type "StopIteration") → E (.ref e) { s with heap := g }) → wpAny (model prog w) A (Builtin.SmallTypes.nextOf (.ref it)) Q E s
theorem nx_tuple {it l : Addr} {items : Array Value} (ne : l ≠ it) : Nx it l (fun g k => g.IsTupleIter it l k ∧ g.IsTuple l items) items where
  keep := fun h q => by
    obtain ⟨⟨o, e, a, b⟩, u, e2, c⟩ := q
    exact ⟨⟨o, h it o (.inl rfl) e, a, b⟩, u, h l u (.inr rfl) e2, c⟩
  lt := fun q => by obtain ⟨⟨o, e, _⟩, _⟩ := q; exact Heap.lt_size e
  item := fun q hx k => RZ.nextOf_tuple_item q.1 q.2 hx fun g a b => k g ⟨a, by
    obtain ⟨u, e2, c⟩ := q.2
    exact ⟨u, b.extBut _ _ ne e2, c⟩⟩ b
  stop := fun hh q hx k => RZ.nextOf_tuple_end hh q.1 q.2 hx k
theorem nx_list {it l : Addr} {items : Array Value} (ne : l ≠ it) : Nx it l (fun g k => g.IsListIter it l k ∧ g.IsList l items) items where
  keep := fun h q => by
    obtain ⟨⟨o, e, a, b⟩, u, e2, c⟩ := q
    exact ⟨⟨o, h it o (.inl rfl) e, a, b⟩, u, h l u (.inr rfl) e2, c⟩
  lt := fun q => by obtain ⟨⟨o, e, _⟩, _⟩ := q; exact Heap.lt_size e
  item := fun q hx k => wpAny_nextOf_list_item q.1 q.2 hx fun g a b => k g ⟨a, by
    obtain ⟨u, e2, c⟩ := q.2
    exact ⟨u, b.extBut _ _ ne e2, c⟩⟩ b
  stop := fun hh q hx k => wpAny_nextOf_list_end hh q.1 q.2 hx k
section
variable {prog : Program} {w : World} {A : Around} {E : Value → Shared → Prop} {s : Shared} {z TI TO i1 i2 l1 l2 : Addr} {k1 k2 : Nat} {S1 S2 : Heap → Nat → Prop} {xs ys : Array Value} {u v : Value}
theorem zipN_item {x y : Value} {Q : Value → Shared → Prop} (D : ZipApart z TI TO i1 i2 l1 l2) (N1 : Nx i1 l1 S1 xs) (N2 : Nx i2 l2 S2 ys) (hz : IsZip s.heap z TI TO .none) (hI : IsPair s.heap TI (.ref i1) (.ref i2)) (hO : IsPair s.heap TO u v)
    (q1 : S1 s.heap k1) (q2 : S2 s.heap k2) (hx : xs[k1]? = some x) (hy : ys[k2]? = some y)
    (fin : ∀ g, IsZip g z TI TO (rawInt s.heap.objs.size) → IsPair g TO x y → S1 g (k1 + 1) → S2 g (k2 + 1) → IsPair g s.heap.objs.size x y → g.objs.size = s.heap.objs.size + 1 →
      (∀ c o, c ≠ z → c ≠ TO → c ≠ i1 → c ≠ i2 → s.heap.get? c = some o → g.get? c = some o) → Q (.ref s.heap.objs.size) { s with heap := g }) :
    wpAny (model prog w) A (Builtin.«zip.__next__» ⟨[.ref z], []⟩) (fun r s' => ∃ a, r = .done (.ret a) ∧ Q a s') E s := by
  show wpAny _ _ (field (.ref z) 2 >>= _) _ _ _
  refine wpAny_bind (wpAny_field hz rfl (x := .bool false) rfl ?_)
  show wpAny _ _ (field (.ref z) 3 >>= _) _ _ _
  refine wpAny_bind (wpAny_field hz rfl (x := .ref TI) rfl ?_)
  refine wpAny_bind (wpAny_seqItems hI rfl ?_)
  show wpAny _ _ (Builtin.SmallTypes.ownedTupleIsFree (.ref z) >>= _) _ _ _
  refine wpAny_bind ?_
  unfold Builtin.SmallTypes.ownedTupleIsFree
  refine wpAny_bind (wpAny_field hz rfl (x := .none) rfl (wpAny_pure ?_))
  simp only [if_true]
  refine wpAny_bind (wpAny_rule ?_)
  refine wpAny_bind (wpAny_field hz rfl (x := .ref TO) rfl ?_)
  refine wpAny_bind (wpAny_setField_rec hz (by simp) fun g1 z1 b1 => ?_)
  replace z1 : IsZip g1 z TI TO .ellipsis := z1
  refine wpAny_bind ?_
  simp only [List.zipIdx_cons, List.zipIdx_nil, List.forIn_cons, List.forIn_nil]
  refine wpAny_bind (wpAny_bind (wpAny_onRaise ?_))
  show wpAny _ _ (Builtin.SmallTypes.nextOf (.ref i1) >>= _) _ _ _
  have r1 : S1 g1 k1 := N1.keep (fun c o hc e => b1.extBut c o (hc.elim (fun h => h ▸ D.i1z) fun h => h ▸ D.l1z) e) (show S1 s.heap k1 from q1)
  refine wpAny_bind (N1.item (s := { s with heap := g1 }) r1 hx fun g2 r2 b2 => wpAny_pure ?_)
  have o2 : IsPair g2 TO u v := b2.extBut _ _ D.TOi1 (b1.extBut _ _ D.TOz hO)
  refine wpAny_bind (wpAny_seqItems o2 rfl ?_)
  refine wpAny_bind (wpAny_updateSeq_pair o2 fun g3 o3 b3 => ?_)
  replace o3 : IsPair g3 TO x v := o3
  refine wpAny_bind (wpAny_letGo (wpAny_pure ?_))
  refine wpAny_bind (wpAny_bind (wpAny_onRaise ?_))
  show wpAny _ _ (Builtin.SmallTypes.nextOf (.ref i2) >>= _) _ _ _
  have t3 : S2 g3 k2 := N2.keep (fun c o hc e => b3.extBut _ _ (hc.elim (fun h => h ▸ D.TOi2.symm) fun h => h ▸ D.l2TO) (b2.extBut _ _ (hc.elim (fun h => h ▸ D.i12.symm) fun h => h ▸ D.l2i1) (b1.extBut _ _ (hc.elim (fun h => h ▸ D.i2z) fun h => h ▸ D.l2z) e))) (show S2 s.heap k2 from q2)
  refine wpAny_bind (N2.item (s := { s with heap := g3 }) t3 hy fun g4 t4 b4 => wpAny_pure ?_)
  have o4 : IsPair g4 TO x v := b4.extBut _ _ D.TOi2 o3
  refine wpAny_bind (wpAny_seqItems o4 rfl ?_)
  refine wpAny_bind (wpAny_updateSeq_pair o4 fun g5 o5 b5 => ?_)
  replace o5 : IsPair g5 TO x y := o5
  refine wpAny_bind (wpAny_letGo (wpAny_pure (wpAny_pure ?_)))
  refine wpAny_bind (wpAny_seqItems o5 rfl ?_)
  refine wpAny_bind (wpAny_newTuple ?_)
  have sz : g5.objs.size = s.heap.objs.size := by rw [b5.1, b4.1, b3.1, b2.1, b1.1]
  have z5 : IsZip g5 z TI TO .ellipsis := b5.extBut _ _ D.TOz.symm (b4.extBut _ _ D.i2z.symm (b3.extBut _ _ D.TOz.symm (b2.extBut _ _ D.i1z.symm z1)))
  have k5 : ∀ c o, c ≠ z → c ≠ TO → c ≠ i1 → c ≠ i2 → s.heap.get? c = some o → g5.get? c = some o := fun c o c1 c2 c3 c4 e =>
    b5.extBut _ _ c2 (b4.extBut _ _ c4 (b3.extBut _ _ c2 (b2.extBut _ _ c3 (b1.extBut _ _ c1 e))))
  have r5 : S1 g5 (k1 + 1) := N1.keep (fun c o hc e => b5.extBut _ _ (hc.elim (fun h => h ▸ D.TOi1.symm) fun h => h ▸ D.l1TO) (b4.extBut _ _ (hc.elim (fun h => h ▸ D.i12) fun h => h ▸ D.l1i2) (b3.extBut _ _ (hc.elim (fun h => h ▸ D.TOi1.symm) fun h => h ▸ D.l1TO) e))) r2
  have t5 : S2 g5 (k2 + 1) := N2.keep (fun c o hc e => b5.extBut _ _ (hc.elim (fun h => h ▸ D.TOi2.symm) fun h => h ▸ D.l2TO) e) t4
  have zlt : z < g5.objs.size := Heap.lt_size z5
  show wpAny _ _ (Builtin.SmallTypes.ownedTupleHandOut (.ref z) (.ref g5.objs.size) >>= _) _ _ _
  refine wpAny_bind ?_
  unfold Builtin.SmallTypes.ownedTupleHandOut
  have z6 : IsZip (g5.push { cls := .type "tuple", data := .seq #[x, y] }) z TI TO .ellipsis := Heap.get?_push_of_some _ z5
  refine wpAny_bind (wpAny_setField_rec z6 (by simp) fun g7 z7 b7 => ?_)
  replace z7 : IsZip g7 z TI TO (rawInt g5.objs.size) := z7
  refine wpAny_setField_rec z7 (by simp) fun g8 z8 b8 => ?_
  replace z8 : IsZip g8 z TI TO (rawInt g5.objs.size) := z8
  have up : ∀ c o, c ≠ z → g5.get? c = some o → g8.get? c = some o := fun c o c1 e => b8.extBut _ _ c1 (b7.extBut _ _ c1 (Heap.get?_push_of_some _ e))
  have p8 : IsPair g8 g5.objs.size x y := b8.extBut _ _ (Nat.ne_of_gt zlt) (b7.extBut _ _ (Nat.ne_of_gt zlt) (Heap.get?_push_size _ rfl))
  have s8 : g8.objs.size = g5.objs.size + 1 := by rw [b8.1, b7.1, Heap.size_push]
  rw [sz] at z8 p8 s8
  refine wpAny_pure ⟨_, rfl, ?_⟩
  show Q (.ref g5.objs.size) _
  rw [sz]
  exact fin g8 z8 (up _ _ D.TOz o5) (N1.keep (fun c o hc e => up c o (hc.elim (fun h => h ▸ D.i1z) fun h => h ▸ D.l1z) e) r5) (N2.keep (fun c o hc e => up c o (hc.elim (fun h => h ▸ D.i2z) fun h => h ▸ D.l2z) e) t5) p8 s8 fun c o c1 c2 c3 c4 e => up c o c1 (k5 c o c1 c2 c3 c4 e)
theorem zipN_stop {Q : Fin → Shared → Prop} (hh : A.handled = none) (D : ZipApart z TI TO i1 i2 l1 l2) (N1 : Nx i1 l1 S1 xs) (N2 : Nx i2 l2 S2 ys) (hz : IsZip s.heap z TI TO .none) (hI : IsPair s.heap TI (.ref i1) (.ref i2)) (hO : IsPair s.heap TO u v)
    (q1 : S1 s.heap k1) (q2 : S2 s.heap k2) (none1 : xs[k1]? = none ∨ ys[k2]? = none)
    (fin : ∀ g e, (∀ c o, c ≠ z → c ≠ TO → c ≠ i1 → c ≠ i2 → s.heap.get? c = some o → g.get? c = some o) → (∃ o, g.get? e = some o ∧ o.cls = .type "StopIteration") → E (.ref e) { s with heap := g }) :
    wpAny (model prog w) A (Builtin.«zip.__next__» ⟨[.ref z], []⟩) Q E s := by
  show wpAny _ _ (field (.ref z) 2 >>= _) _ _ _
  refine wpAny_bind (wpAny_field hz rfl (x := .bool false) rfl ?_)
  show wpAny _ _ (field (.ref z) 3 >>= _) _ _ _
  refine wpAny_bind (wpAny_field hz rfl (x := .ref TI) rfl ?_)
  refine wpAny_bind (wpAny_seqItems hI rfl ?_)
  show wpAny _ _ (Builtin.SmallTypes.ownedTupleIsFree (.ref z) >>= _) _ _ _
  refine wpAny_bind ?_
  unfold Builtin.SmallTypes.ownedTupleIsFree
  refine wpAny_bind (wpAny_field hz rfl (x := .none) rfl (wpAny_pure ?_))
  simp only [if_true]
  refine wpAny_bind (wpAny_rule ?_)
  refine wpAny_bind (wpAny_field hz rfl (x := .ref TO) rfl ?_)
  refine wpAny_bind (wpAny_setField_rec hz (by simp) fun g1 z1 b1 => ?_)
  replace z1 : IsZip g1 z TI TO .ellipsis := z1
  refine wpAny_bind ?_
  simp only [List.zipIdx_cons, List.zipIdx_nil, List.forIn_cons, List.forIn_nil]
  refine wpAny_bind (wpAny_bind (wpAny_onRaise ?_))
  show wpAny _ _ (Builtin.SmallTypes.nextOf (.ref i1) >>= _) _ _ _
  have r1 : S1 g1 k1 := N1.keep (fun c o hc e => b1.extBut c o (hc.elim (fun h => h ▸ D.i1z) fun h => h ▸ D.l1z) e) (show S1 s.heap k1 from q1)
  cases hx : xs[k1]? with
  | none =>
    refine wpAny_bind (N1.stop (s := { s with heap := g1 }) hh r1 hx fun g2 e b2 he => ?_)
    obtain ⟨oe, hoe, ce⟩ := he
    have z2 : IsZip g2 z TI TO .ellipsis := b2 _ _ D.i1z.symm z1
    have ez : e ≠ z := fun q => by subst q; rw [z2] at hoe; cases hoe; simp at ce
    exact wpAny_setField_rec z2 (by simp) fun g3 _ b3 => fin g3 e (fun c o c1 _ c3 _ q => b3.extBut _ _ c1 (b2 _ _ c3 (b1.extBut _ _ c1 q))) ⟨oe, b3.extBut _ _ ez hoe, ce⟩
  | some x =>
    have hy : ys[k2]? = none := none1.elim (fun h => by rw [hx] at h; cases h) id
    refine wpAny_bind (N1.item (s := { s with heap := g1 }) r1 hx fun g2 r2 b2 => wpAny_pure ?_)
    have o2 : IsPair g2 TO u v := b2.extBut _ _ D.TOi1 (b1.extBut _ _ D.TOz hO)
    refine wpAny_bind (wpAny_seqItems o2 rfl ?_)
    refine wpAny_bind (wpAny_updateSeq_pair o2 fun g3 o3 b3 => ?_)
    refine wpAny_bind (wpAny_letGo (wpAny_pure ?_))
    refine wpAny_bind (wpAny_bind (wpAny_onRaise ?_))
    show wpAny _ _ (Builtin.SmallTypes.nextOf (.ref i2) >>= _) _ _ _
    have t3 : S2 g3 k2 := N2.keep (fun c o hc e => b3.extBut _ _ (hc.elim (fun h => h ▸ D.TOi2.symm) fun h => h ▸ D.l2TO) (b2.extBut _ _ (hc.elim (fun h => h ▸ D.i12.symm) fun h => h ▸ D.l2i1) (b1.extBut _ _ (hc.elim (fun h => h ▸ D.i2z) fun h => h ▸ D.l2z) e))) (show S2 s.heap k2 from q2)
    refine wpAny_bind (N2.stop (s := { s with heap := g3 }) hh t3 hy fun g4 e b4 he => ?_)
    obtain ⟨oe, hoe, ce⟩ := he
    have z4 : IsZip g4 z TI TO .ellipsis := b4 _ _ D.i2z.symm (b3.extBut _ _ D.TOz.symm (b2.extBut _ _ D.i1z.symm z1))
    have ez : e ≠ z := fun q => by subst q; rw [z4] at hoe; cases hoe; simp at ce
    exact wpAny_setField_rec z4 (by simp) fun g5 _ b5 => fin g5 e (fun c o c1 c2 c3 c4 q => b5.extBut _ _ c1 (b4 _ _ c4 (b3.extBut _ _ c2 (b2.extBut _ _ c3 (b1.extBut _ _ c1 q))))) ⟨oe, b5.extBut _ _ ez hoe, ce⟩
end
end DL
end
section
set_option maxRecDepth 100000
set_option maxHeartbeats 4000000
/-! DZ2: zip of a tuple with a list. -/
namespace DL
open PySem PySem.Spec PyProof.Rows L2
open PySem.Sem (wp)
abbrev zmA (g : Heap) (l1 : Addr) : Heap := g.push { cls := .type "tuple_iterator", data := .fields #[.ref l1, .int 0 0] }
abbrev zmB (g : Heap) (l1 l2 : Addr) : Heap := (zmA g l1).push { cls := .type "list_iterator", data := .fields #[.ref l2, .int 0 0] }
abbrev zmC (g : Heap) (l1 l2 : Addr) : Heap := (zmB g l1 l2).push { cls := .type "tuple", data := .seq #[.ref g.objs.size, .ref (zmA g l1).objs.size] }
abbrev zmD (g : Heap) (l1 l2 : Addr) : Heap := (zmC g l1 l2).push { cls := .type "tuple", data := .seq #[.none, .none] }
abbrev zmE (g : Heap) (l1 l2 : Addr) : Heap := (zmD g l1 l2).push { cls := .type "zip", data := .fields #[.none, .bool false, .bool false, .ref (zmB g l1 l2).objs.size, .ref (zmC g l1 l2).objs.size] }
theorem zm_new (l1 l2 : Addr) (xs ys : Array Value) :
    Meets (Builtin.«zip.__new__» ⟨[.type "zip", .ref l1, .ref l2], []⟩) (fun _ R s => s.heap.IsTuple l1 xs ∧ s.heap.IsList l2 ys ∧ R (.ok (.ret (.ref (zmD s.heap l1 l2).objs.size))) { s with heap := zmE s.heap l1 l2 }) :=
  .of_wp fun prog w A R s q => by
    obtain ⟨hp, g, d, tk, os⟩ := s
    obtain ⟨q1, q2, q⟩ := q
    have sub := sub_zip
    have t1 : Heap.IsTuple (Shared.heap ⟨hp, g, d, tk, os⟩) l1 xs := q1
    have t2 : Heap.IsList (Shared.heap ⟨hp.push { cls := .type "tuple_iterator", data := .fields #[.ref l1, .int 0 0] }, g, d, tk, os⟩) l2 ys := q2.push _
    wp_walk using wpAny_pyIter_tuple t1, wpAny_pyIter_list t2
    exact ⟨_, rfl, q⟩
section
variable {prog : Program} {w : World} {A : Around} {E : Value → Shared → Prop} {s : Shared}
theorem call_zipM {l1 l2 : Addr} {xs ys : Array Value} {Q : Value → Shared → Prop} (q1 : s.heap.IsTuple l1 xs) (q2 : s.heap.IsList l2 ys)
    (fin : ∀ g, IsZip g (s.heap.objs.size + 4) (s.heap.objs.size + 2) (s.heap.objs.size + 3) .none → IsPair g (s.heap.objs.size + 2) (.ref s.heap.objs.size) (.ref (s.heap.objs.size + 1)) → IsPair g (s.heap.objs.size + 3) .none .none →
      g.IsTupleIter s.heap.objs.size l1 0 → g.IsListIter (s.heap.objs.size + 1) l2 0 → (∀ c o, s.heap.get? c = some o → g.get? c = some o) → Q (.ref (s.heap.objs.size + 4)) { s with heap := g }) :
    wpAny (model prog w) A (call (.type "zip") [.ref l1, .ref l2]) Q E s := by
  refine callType_new F.called_zip (by decide) (F.typeCall_zip_2 _ _) (F.newCall_zip_2 _ _) (fun obj => F.args_object_init_3 obj _ _) F.entry_zip_new (zm_new l1 l2 xs ys) ⟨q1, q2, ?_⟩
  have za : (zmA s.heap l1).objs.size = s.heap.objs.size + 1 := Heap.size_push ..
  have zb : (zmB s.heap l1 l2).objs.size = s.heap.objs.size + 2 := by rw [Heap.size_push, za]
  have zc : (zmC s.heap l1 l2).objs.size = s.heap.objs.size + 3 := by rw [Heap.size_push, zb]
  have zd : (zmD s.heap l1 l2).objs.size = s.heap.objs.size + 4 := by rw [Heap.size_push, zc]
  have ge : (zmE s.heap l1 l2).get? (zmD s.heap l1 l2).objs.size = some _ := Heap.get?_push_size _ rfl
  have gd : (zmE s.heap l1 l2).get? (zmC s.heap l1 l2).objs.size = some _ := Heap.get?_push_of_some _ (Heap.get?_push_size _ rfl)
  have gc : (zmE s.heap l1 l2).get? (zmB s.heap l1 l2).objs.size = some _ := Heap.get?_push_of_some _ (Heap.get?_push_of_some _ (Heap.get?_push_size _ rfl))
  have gb : (zmE s.heap l1 l2).get? (zmA s.heap l1).objs.size = some _ := Heap.get?_push_of_some _ (Heap.get?_push_of_some _ (Heap.get?_push_of_some _ (Heap.get?_push_size _ rfl)))
  have ga : (zmE s.heap l1 l2).get? s.heap.objs.size = some _ := Heap.get?_push_of_some _ (Heap.get?_push_of_some _ (Heap.get?_push_of_some _ (Heap.get?_push_of_some _ (Heap.get?_push_size _ rfl))))
  show _ ∧ _
  rw [zb, zc, zd] at ge
  rw [za, zb] at gc
  rw [zc] at gd
  rw [za] at gb
  rw [zd]
  exact ⟨⟨_, ge, rfl⟩, fin _ ge gc gd ⟨_, ga, rfl, rfl⟩ ⟨_, gb, rfl, rfl⟩ fun c o x =>
    Heap.get?_push_of_some _ (Heap.get?_push_of_some _ (Heap.get?_push_of_some _ (Heap.get?_push_of_some _ (Heap.get?_push_of_some _ x))))⟩
variable {z TI TO i1 i2 l1 l2 : Addr} {k1 k2 : Nat} {xs ys : Array Value} {u v : Value}
theorem next_zipM {x y : Value} {Q : Option Value → Shared → Prop} (D : ZipApart z TI TO i1 i2 l1 l2) (hz : IsZip s.heap z TI TO .none) (hI : IsPair s.heap TI (.ref i1) (.ref i2)) (hO : IsPair s.heap TO u v)
    (h1 : s.heap.IsTupleIter i1 l1 k1) (h2 : s.heap.IsListIter i2 l2 k2) (q1 : s.heap.IsTuple l1 xs) (q2 : s.heap.IsList l2 ys) (hx : xs[k1]? = some x) (hy : ys[k2]? = some y)
    (fin : ∀ g, IsZip g z TI TO (rawInt s.heap.objs.size) → IsPair g TO x y → g.IsTupleIter i1 l1 (k1 + 1) → g.IsListIter i2 l2 (k2 + 1) → IsPair g s.heap.objs.size x y →
      (∀ c o, c ≠ z → c ≠ TO → c ≠ i1 → c ≠ i2 → s.heap.get? c = some o → g.get? c = some o) → Q (some (.ref s.heap.objs.size)) { s with heap := g }) : wpAny (model prog w) A (pyNext (.ref z)) Q E s := by
  have ty : s.TypeIs (.ref z) "zip" := ⟨_, hz, rfl⟩
  unfold pyNext
  exact wpAny_bind (wpAny_attempt (wpAny_callSpecial?_slot (name := Str.ofString "__next__") ty F.slot_zip_next (wpAny_call_entry F.slot_zip_next ty F.entry_zip_next
    (zipN_item D (nx_tuple D.l1i1) (nx_list D.l2i2) hz hI hO ⟨h1, q1⟩ ⟨h2, q2⟩ hx hy fun g a b c d e _ k => wpAny_pure (fin g a b c.1 d.1 e k)) (F.args_zip_next_1 _))))
theorem stop_zipM {Q : Option Value → Shared → Prop} (hh : A.handled = none) (D : ZipApart z TI TO i1 i2 l1 l2) (hz : IsZip s.heap z TI TO .none) (hI : IsPair s.heap TI (.ref i1) (.ref i2)) (hO : IsPair s.heap TO u v)
    (h1 : s.heap.IsTupleIter i1 l1 k1) (h2 : s.heap.IsListIter i2 l2 k2) (q1 : s.heap.IsTuple l1 xs) (q2 : s.heap.IsList l2 ys) (hend : xs[k1]? = none ∨ ys[k2]? = none)
    (fin : ∀ g, (∀ c o, c ≠ z → c ≠ TO → c ≠ i1 → c ≠ i2 → s.heap.get? c = some o → g.get? c = some o) → Q none { s with heap := g }) : wpAny (model prog w) A (pyNext (.ref z)) Q E s := by
  have ty : s.TypeIs (.ref z) "zip" := ⟨_, hz, rfl⟩
  unfold pyNext
  refine wpAny_bind (wpAny_attempt (wpAny_callSpecial?_slot (name := Str.ofString "__next__") ty F.slot_zip_next (wpAny_call_entry F.slot_zip_next ty F.entry_zip_next
    (zipN_stop hh D (nx_tuple D.l1i1) (nx_list D.l2i2) hz hI hO ⟨h1, q1⟩ ⟨h2, q2⟩ hend fun g e k he => ?_) (F.args_zip_next_1 _))))
  obtain ⟨o, ho, hc⟩ := he
  exact wpAny_bind (wpAny_isInstance (T := "StopIteration") (b := true) ⟨o, ho, hc⟩ isSubtype_stop (wpAny_pure (fin _ k)))
end
/-- a tuple at a, a list at b, pair by pair -/
def ItzM (K : PySem.W.Frag) (a b : Addr) : It :=
  ⟨fun i H => ∃ (xs ys : List V) (x y : V), SqT K H a xs ∧ SqL K H b ys ∧ xs[i]? = some x ∧ ys[i]? = some y,
    fun i H v H' => ∃ T x y, v = .ref T ∧ H T = none ∧ H' = upd H T (.tup [x, y]) ∧ (∀ xs, SqT K H a xs → xs[i]? = some x) ∧ ∀ ys, SqL K H b ys → ys[i]? = some y,
    fun i H => ∃ xs ys : List V, SqT K H a xs ∧ SqL K H b ys ∧ (xs.length ≤ i ∨ ys.length ≤ i)⟩
theorem turn_zipM {P : Program} {w : World} {K : PySem.W.Frag} {elts : List Expr} {kk : Nat} {tpos : Pos} {a b z TI TO i1 i2 : Addr} (D : ZipApart z TI TO i1 i2 a b) :
    Turn P w K (.Tuple elts kk tpos) (ItzM K a b) [z, TI, TO, i1, i2] z (fun i g => IsZip g z TI TO .none ∧ IsPair g TI (.ref i1) (.ref i2) ∧ (∃ x y, IsPair g TO x y) ∧ g.IsTupleIter i1 a i ∧ g.IsListIter i2 b i) where
  mem := by simp
  obj := fun i g st c hc => by
    obtain ⟨hz, hI, ⟨x, y, hO⟩, ⟨o1, e1, _, d1⟩, ⟨o2, e2, _, d2⟩⟩ := st
    have five : c = z ∨ c = TI ∨ c = TO ∨ c = i1 ∨ c = i2 := by simpa using hc
    rcases five with q | q | q | q | q <;> rw [q]
    · exact ⟨_, hz, fun v q => nomatch q⟩
    · exact ⟨_, hI, fun v q => nomatch q⟩
    · exact ⟨_, hO, fun v q => nomatch q⟩
    · exact ⟨o1, e1, fun v q => by rw [d1] at q; cases q⟩
    · exact ⟨o2, e2, fun v q => by rw [d2] at q; cases q⟩
  keep := fun i g g' st k => by
    obtain ⟨hz, hI, ⟨x, y, hO⟩, h1, h2⟩ := st
    exact ⟨k z (by simp) _ hz, k TI (by simp) _ hI, ⟨x, y, k TO (by simp) _ hO⟩, h1.at fun o q => k i1 (by simp) o q, h2.at fun o q => k i2 (by simp) o q⟩
  item := by
    intro X hP hw hK hc i pins s σ H E I hf st hg
    subst hP hw hK
    obtain ⟨hz, hI, ⟨x0, y0, hO⟩, h1, h2⟩ := st
    obtain ⟨xs, ys, x, y, hqx, hqy, hx, hy⟩ := hg
    obtain ⟨its, rv, p, _⟩ := I.tuple hqx
    obtain ⟨its2, rv2, p2, _⟩ := I.list hqy
    obtain ⟨u, hu, ru⟩ := rv.get hx
    obtain ⟨u2, hu2, ru2⟩ := rv2.get hy
    have zlt : z < s.heap.objs.size := Heap.lt_size hz
    refine next_zipM D hz hI hO h1 h2 p p2.isList (x := u) (y := u2) (by simpa using hu) (by simpa using hu2) fun g1 z1 o1 a1 a2 hT hk => ?_
    refine ⟨_, rfl, wpAny_letOwnedTupleGo_zip (s := { s with heap := g1 }) z1 fun g2 z2 sb => ?_⟩
    have hT2 : g2.get? s.heap.objs.size = some { cls := .type "tuple", data := .seq #[u, u2] } := (sb.2 _ (Nat.ne_of_gt zlt)).trans hT
    have obj : ObjOk X.prog X.w (upd H s.heap.objs.size (.tup [x, y])) g2 s.heap.objs.size (.tup [x, y]) := ⟨by show 2 ≤ sizeLine; decide, [u, u2], .cons ru (.cons ru2 .nil), ⟨_, hT2, rfl, _, rfl⟩⟩
    have I1 : Inv X pins σ (upd H s.heap.objs.size (.tup [x, y])) { s with heap := g2 } :=
      I.turnedNew (t' := s.toks) (ch := [z, TI, TO, i1, i2]) (fun c o hb q => (sb.2 c (fun e => hb (by simp [e]))).trans (hk c o (fun e => hb (by simp [e])) (fun e => hb (by simp [e])) (fun e => hb (by simp [e])) (fun e => hb (by simp [e])) q)) hf (Nat.le_refl _) obj
    refine ⟨.ref s.heap.objs.size, _, I1, rfl, ⟨_, x, y, rfl, I.hok.fresh (Nat.le_refl _), rfl, fun l hl => by rw [I.tuple_inj hl hqx]; exact hx, fun l hl => by rw [I.list_inj hl hqy]; exact hy⟩, ⟨z2, ?_, ⟨u, u2, ?_⟩, ?_, ?_⟩, fun c hcm => ?_⟩
    · exact (sb.2 _ D.TIz).trans (hk _ _ D.TIz D.TITO D.TIi1 D.TIi2 hI)
    · exact (sb.2 _ D.TOz).trans o1
    · exact a1.at fun o q => (sb.2 _ D.i1z).trans q
    · exact a2.at fun o q => (sb.2 _ D.i2z).trans q
    · have hlt : c < s.heap.objs.size := by
        have five : c = z ∨ c = TI ∨ c = TO ∨ c = i1 ∨ c = i2 := by simpa using hcm
        rcases five with q | q | q | q | q <;> rw [q]
        · exact zlt
        · exact Heap.lt_size hI
        · exact Heap.lt_size hO
        · obtain ⟨_, e1, _⟩ := h1; exact Heap.lt_size e1
        · obtain ⟨_, e2, _⟩ := h2; exact Heap.lt_size e2
      rw [upd_ne (Nat.ne_of_lt hlt)]
      exact (hf c hcm).1
  done := by
    intro X hP hw hK hc i pins s σ H E I hf st hg
    subst hP hw hK
    obtain ⟨hz, hI, ⟨x0, y0, hO⟩, h1, h2⟩ := st
    obtain ⟨xs, ys, hqx, hqy, hend⟩ := hg
    obtain ⟨its, rv, p, _⟩ := I.tuple hqx
    obtain ⟨its2, rv2, p2, _⟩ := I.list hqy
    have n1 := rv.length
    have n2 := rv2.length
    exact stop_zipM (I.ok.hd hc) D hz hI hO h1 h2 p p2.isList (hend.elim (fun q => .inl (by simp; omega)) fun q => .inr (by simp; omega)) fun g hk => ⟨rfl, I.turnedL (t' := s.toks) (ch := [z, TI, TO, i1, i2]) (fun c o hb q =>
      hk c o (fun e => hb (by simp [e])) (fun e => hb (by simp [e])) (fun e => hb (by simp [e])) (fun e => hb (by simp [e])) q) hf⟩
  self := fun A i s Q E st q => wpAny_pyIter_zip st.1 q
def iZipM (K : PySem.W.Frag) (ta : TA) : TI := fun σ H R => ta σ H fun vs H1 => ∃ a b xs ys, vs = [.ref a, .ref b] ∧ SqT K H1 a xs ∧ SqL K H1 b ys ∧ R (ItzM K a b) H1
theorem pi_zipM {X : Cx} {e e2 : Expr} {ta : TA} {p pos tpos : Pos} {elts : List Expr} {kk : Nat} (hg : Gl X "zip") (hm : X.mg "zip" = none) (ha : PA X [e, e2] ta)
    (hs : starEach [e, e2] X.env = (false, eval e X.env) :: starEach [e2] X.env := by rfl) (hpl : (backTo pos (starEach [e2] X.env)).any (·.1) = false := by rfl) :
    PI X (.Tuple elts kk tpos) (.Call (.Name "zip" p) [e, e2] [] pos) (iZipM X.K ta) := by
  refine ⟨fun pins s σ H R I q => Call_ (ld_blt I hg hm PyProof.Rows.boot_zip (PyProof.Rows.callWith_type1 (thn (ha.run pos pins s σ H _ I q) fun us s1 ⟨vs, H1, I1, r1, q1⟩ => ?_) hs hpl))⟩
  obtain ⟨a, b, xs, ys, ex, hqx, hqy, q1⟩ := q1
  subst ex
  cases r1 with
  | cons r rr =>
    cases rr with
    | cons r' rr =>
      cases rr
      cases r
      cases r'
      obtain ⟨its, rv, p1, _⟩ := I1.tuple hqx
      obtain ⟨its2, rv2, p2, _⟩ := I1.list hqy
      obtain ⟨o1, ho1, _⟩ := id p1
      refine call_zipM p1 p2.isList fun g hz hI hO h1 h2 hk => wpAny_pyIter_zip hz ?_
      have I2 : Inv X pins σ H1 { s1 with heap := g } := I1.kept (t' := s1.toks) hk
      refine ⟨s1.heap.objs.size + 4, [s1.heap.objs.size + 4, s1.heap.objs.size + 2, s1.heap.objs.size + 3, s1.heap.objs.size, s1.heap.objs.size + 1], _, _, H1, rfl, I2, turn_zipM (PySem.W.ktu_apart s1.heap.objs.size a b (Heap.lt_size ho1) p2.lt), ⟨hz, hI, ⟨_, _, hO⟩, h1, h2⟩, fun c hc => ?_, q1⟩
      have le : s1.heap.objs.size ≤ c := by
        have five : c = s1.heap.objs.size + 4 ∨ c = s1.heap.objs.size + 2 ∨ c = s1.heap.objs.size + 3 ∨ c = s1.heap.objs.size ∨ c = s1.heap.objs.size + 1 := by simpa using hc
        rcases five with q | q | q | q | q <;> rw [q] <;> first | exact Nat.le_add_right _ _ | exact Nat.le_refl _
      exact I1.fpOk le (I1.hok.fresh le)
end DL
end
section
set_option maxRecDepth 100000
set_option maxHeartbeats 1000000
/-! DL10: zip, enumerate, reversed, range with a step; in; dicts that are read. -/
namespace DL
open PySem PySem.Spec PyProof.Rows L2
/-- the items of a frozen list or tuple (true) -/
def itemsP : PyData → Option (Bool × List PyData)
  | .list xs => some (false, xs)
  | .tuple xs => some (true, xs)
  | _ => none
theorem itemsP_ok {K : PySem.W.Frag} {R : RR} {H : Hp} {v : V} {d : PyData} {b : Bool} {xs : List PyData} (r : Rp K R H v d) (h : itemsP d = some (b, xs)) : ∃ a vs, v = .ref a ∧ a ∉ R ∧ RpAll K R H vs xs ∧ (if b = true then TupR H a vs xs else H a = some (.lst vs)) := by
  cases r with
  | lst h1 n1 k1 => cases h; exact ⟨_, _, rfl, n1, k1, h1⟩
  | tup h1 n1 k1 => cases h; exact ⟨_, _, rfl, n1, k1, h1⟩
  | _ => cases h
def pairP (x y : PyData) : PyData := .tuple [x, y]
section
variable {X : Cx} {g : G} {W : WY} {tg e e2 e3 : Expr} {f f2 : EX} {pos p tpos : Pos} {k : AX} {elts : List Expr} {kk : Nat}
theorem it_pairs {R : RR} {H : Hp} {J : It} {n : Nat} {Gd : Hp → Prop} {xs ys : Nat → Option V} {ps : List PyData} (w : Walk J n Gd (YPair xs ys)) (hn : n = ps.length) (hg : ∀ R' S' H', Stp R H R' H' → RS g R' S' H' → Gd H')
    (hi : ∀ i x y, i < n → xs i = some x → ys i = some y → ∃ dx dy, ps[i]? = some (pairP dx dy) ∧ prsB [dx, dy] = false ∧ Rp g.K R H x dx ∧ Rp g.K R H y dy) : IsIt g R H J (ps.map .py) none := by
  subst hn
  refine ⟨⟨Gd, YPair xs ys, (by rw [List.length_map]; exact w), fun R' S' H' s rs _ => hg R' S' H' s rs, fun i R1 S1 H1 v H2 hl s rs _ ⟨T, x, y, ev, hT, e, hx, hy⟩ => ?_⟩⟩
  subst ev e
  rw [List.length_map] at hl
  obtain ⟨dx, dy, h1, h0, h2, h3⟩ := hi i x y hl hx hy
  have st : Stp R1 H1 R1 (upd H1 T (.tup [x, y])) := Stp.laid rs hT
  refine ⟨.py (pairP dx dy), by rw [List.getElem?_map, h1]; rfl, st, rs.laid hT, ?_⟩
  exact Rp.tup (.of upd_same h0) (rs.fresh hT) (.cons ((h2.step s).step st) (.cons ((h3.step s).step st) .nil))
/-- no two that are met are pairs of numbers -/
def zOk (xs ys : List PyData) : Bool := (List.zipWith (fun x y => prsB [x, y]) xs ys).all fun b => !b
theorem zOk_l (ns : List Int) : ∀ ys : List PyData, zOk (ns.map PyData.int) ys = true := by
  induction ns with
  | nil => intro ys; rfl
  | cons n ns ih =>
    intro ys
    cases ys with
    | nil => rfl
    | cons y ys => exact ih ys
theorem zOk_r (ns : List Int) : ∀ xs : List PyData, zOk xs (ns.map PyData.int) = true := by
  induction ns with
  | nil => intro xs; cases xs <;> rfl
  | cons n ns ih =>
    intro xs
    cases xs with
    | nil => rfl
    | cons x xs =>
      have := ih xs
      unfold zOk at this ⊢
      rw [List.map_cons, List.zipWith_cons_cons, List.all_cons, this]
      simp [prsB, isPr]
theorem zip_pick {K : PySem.W.Frag} {R : RR} {H : Hp} {vs ws : List V} {xs ys : List PyData} (hz : zOk xs ys = true) (h1 : RpAll K R H vs xs) (h2 : RpAll K R H ws ys) (i : Nat) (x y : V) (hx : vs[i]? = some x) (hy : ws[i]? = some y) :
    ∃ dx dy, (List.zipWith pairP xs ys)[i]? = some (pairP dx dy) ∧ prsB [dx, dy] = false ∧ Rp K R H x dx ∧ Rp K R H y dy := by
  obtain ⟨dx, e1, r1⟩ := h1.get' hx
  obtain ⟨dy, e2, r2⟩ := h2.get' hy
  have := List.all_eq_true.mp hz (prsB [dx, dy]) (List.mem_of_getElem? (i := i) (by rw [List.getElem?_zipWith, e1, e2]))
  exact ⟨dx, dy, by rw [List.getElem?_zipWith, e1, e2], by simpa using this, r1, r2⟩
def iZip (ds : List D) (S : Sto) : Res (List D × Option (Nat × List D)) := match ds with
  | [.py a, .py b] => (match itemsP a, itemsP b with
    | some (s, xs), some (t, ys) => if (s = t ∨ s = true) ∧ zOk xs ys = true then .ok ((List.zipWith pairP xs ys).map .py, none) S else .bad
    | _, _ => .bad)
  | _ => .bad
def xZip (k : AX) : IX := fun env S => (k env S).bind iZip
theorem di_zip (hg : Gl X "zip") (hm : X.mg "zip" = none) (ha : DA X g W [e, e2] k) (hs : starEach [e, e2] X.env = (false, eval e X.env) :: starEach [e2] X.env := by rfl) (hpl : (backTo pos (starEach [e2] X.env)).any (·.1) = false := by rfl) :
    DI X g W (.Tuple elts kk tpos) (.Call (.Name "zip" p) [e, e2] [] pos) (xZip k) :=
  ⟨fun hK => ((RZ.pi_zipA hg hm (ha.pa hK) hs hpl).or (pi_zipM hg hm (ha.pa hK) hs hpl)).imp fun σ H Q ⟨R, env, S, rs, re, q⟩ => by
    by_cases hM : ∃ a b S1 xs ys, k env S = .ok [.py a, .py b] S1 ∧ itemsP a = some (true, xs) ∧ itemsP b = some (false, ys) ∧ zOk xs ys = true
    · obtain ⟨a, b, S0, xs, ys, e0, ha, hb, hzo⟩ := hM
      refine .inr ⟨R, env, S, rs, re, q.bind fun ds S1 vs H1 R1 e s1 rs1 rv q1 => ?_⟩
      rw [e0] at e
      cases e
      have e1 : iZip [.py a, .py b] S0 = .ok ((List.zipWith pairP xs ys).map .py, none) S0 := by
        unfold iZip
        simp only [ha, hb, hzo]
        rfl
      rw [e1] at q1
      obtain ⟨v, w, rfl, ra, rb⟩ := rds2 rv
      obtain ⟨pa, vs, rfl, na, ka, oa⟩ := itemsP_ok ra ha
      obtain ⟨pb, ws, rfl, nb, kb, ob⟩ := itemsP_ok rb hb
      have hl : min vs.length ws.length = (List.zipWith pairP xs ys).length := by rw [List.length_zipWith, ka.length, kb.length]
      rw [← hK]
      have oa : TupR H1 pa vs xs := oa
      have ob : H1 pb = some (.lst ws) := ob
      have wz : Walk (ItzM g.K pa pb) (min vs.length ws.length) (fun H => SqT g.K H pa vs ∧ SqL g.K H pb ws) (YPair (fun i => vs[i]?) (fun i => ws[i]?)) := by
        refine ⟨fun i H hi q => ?_, fun H q => ⟨vs, ws, q.1, q.2, by omega⟩, fun i H v H' _ q y => ?_⟩
        · have h1 : i < vs.length := by omega
          have h2 : i < ws.length := by omega
          exact ⟨vs, ws, vs[i], ws[i], q.1, q.2, List.getElem?_eq_getElem h1, List.getElem?_eq_getElem h2⟩
        · obtain ⟨T, x, z, h1, h2, h3, h4, h5⟩ := y
          exact ⟨T, x, z, h1, h2, h3, h4 vs q.1, h5 ws q.2⟩
      exact ⟨pa, pb, vs, ws, rfl, oa.sq, SqL.of ob, q1 _ H1 R1 .refl rs1 (it_pairs wz hl (fun R' S' H' s _ => ⟨(oa.keep fun _ e => s.keep _ _ na e).sq, SqL.of (s.keep _ _ nb ob)⟩) fun i x y _ hx hy => zip_pick hzo ka kb i x y hx hy)⟩
    refine .inl ⟨R, env, S, rs, re, q.bind fun ds S1 vs H1 R1 e s1 rs1 rv q1 => ?_⟩
    replace hM : ∀ (a b : PyData) (xs ys : List PyData), ds = [.py a, .py b] → itemsP a = some (true, xs) → itemsP b = some (false, ys) → zOk xs ys = true → False := fun a b xs ys e1 ha hb hzo => hM ⟨a, b, S1, xs, ys, by rw [e, e1], ha, hb, hzo⟩
    unfold iZip at q1
    split at q1
    · rename_i a b
      split at q1
      · rename_i s xs t ys ha hb
        split at q1
        · rename_i hst
          have hzo := hst.2
          have hst : s = t := hst.1.elim id fun h => by
            subst h
            cases t with
            | true => rfl
            | false => exact (hM a b xs ys rfl ha hb hzo).elim
          subst hst
          obtain ⟨v, w, rfl, ra, rb⟩ := rds2 rv
          obtain ⟨pa, vs, rfl, na, ka, oa⟩ := itemsP_ok ra ha
          obtain ⟨pb, ws, rfl, nb, kb, ob⟩ := itemsP_ok rb hb
          have hl : min vs.length ws.length = (List.zipWith pairP xs ys).length := by rw [List.length_zipWith, ka.length, kb.length]
          rw [← hK]
          refine ⟨pa, pb, vs, ws, rfl, ?_⟩
          cases s with
          | false =>
            have oa : H1 pa = some (.lst vs) := oa
            have ob : H1 pb = some (.lst ws) := ob
            exact .inl ⟨SqL.of oa, SqL.of ob, q1 _ H1 R1 .refl rs1 (it_pairs (walk_zip (n := min vs.length ws.length) rfl) hl (fun R' S' H' s _ => ⟨SqL.of (s.keep _ _ na oa), SqL.of (s.keep _ _ nb ob)⟩) fun i x y _ hx hy => zip_pick hzo ka kb i x y hx hy)⟩
          | true =>
            have oa : TupR H1 pa vs xs := oa
            have ob : TupR H1 pb ws ys := ob
            have wz : Walk (RZ.ItzT g.K pa pb) (min vs.length ws.length) (fun H => SqT g.K H pa vs ∧ SqT g.K H pb ws) (YPair (fun i => vs[i]?) (fun i => ws[i]?)) := by
              refine ⟨fun i H hi q => ?_, fun H q => ⟨vs, ws, q.1, q.2, by omega⟩, fun i H v H' _ q y => ?_⟩
              · have h1 : i < vs.length := by omega
                have h2 : i < ws.length := by omega
                exact ⟨vs, ws, vs[i], ws[i], q.1, q.2, List.getElem?_eq_getElem h1, List.getElem?_eq_getElem h2⟩
              · obtain ⟨T, x, z, h1, h2, h3, h4, h5⟩ := y
                exact ⟨T, x, z, h1, h2, h3, h4 vs q.1, h5 ws q.2⟩
            exact .inr ⟨oa.sq, ob.sq, q1 _ H1 R1 .refl rs1 (it_pairs wz hl (fun R' S' H' s _ => ⟨(oa.keep fun _ e => s.keep _ _ na e).sq, (ob.keep fun _ e => s.keep _ _ nb e).sq⟩) fun i x y _ hx hy => zip_pick hzo ka kb i x y hx hy)⟩
        · exact q1.elim
      · exact q1.elim
    · exact q1.elim⟩
/-- enumerate(a list) -/
def iEnm (ds : List D) (S : Sto) : Res (List D × Option (Nat × List D)) := match ds with
  | [.py (.list xs)] => .ok ((xs.mapIdx fun i x => pairP (.int (i : Nat)) x).map .py, none) S
  | _ => .bad
def xEnm (k : AX) : IX := fun env S => (k env S).bind iEnm
theorem di_enm (hg : Gl X "enumerate") (hm : X.mg "enumerate" = none) (ha : DA X g W [e] k) (hs : starEach [e] X.env = [(false, eval e X.env)] := by rfl) :
    DI X g W (.Tuple elts kk tpos) (.Call (.Name "enumerate" p) [e] [] pos) (xEnm k) :=
  ⟨fun hK => (pi_enum hg hm (ha.pa hK) hs).imp fun σ H Q ⟨R, env, S, rs, re, q⟩ => tDA_bind rs re q fun ds S1 vs H1 R1 s1 rs1 re1 rv q1 => by
    unfold iEnm at q1
    split at q1
    · rename_i xs
      obtain ⟨v, rfl, r⟩ := rds1 rv
      cases r with
      | lst h1 n1 k1 =>
        rename_i a vs
        rw [← hK]
        refine ⟨a, vs, rfl, SqL.of h1, q1 _ H1 R1 .refl rs1 (it_pairs walk_enum (by rw [List.length_mapIdx, k1.length]) (fun R' S' H' s _ => SqL.of (s.keep _ _ n1 h1)) fun i x y _ hx hy => ?_)⟩
        obtain ⟨d, e1, r1⟩ := k1.get' hy
        cases hx
        exact ⟨.int (i : Nat), d, by rw [List.getElem?_mapIdx, e1]; rfl, prsB_fst rfl, .int _, r1⟩
    · exact q1.elim⟩
/-- reversed(a list, a tuple) -/
def iRev (d : D) (S : Sto) : Res (List D × Option (Nat × List D)) := match d with
  | .py a => (match itemsP a with
    | some (_, xs) => .ok (xs.reverse.map .py, none) S
    | none => .bad)
  | _ => .bad
def xRev (f : EX) : IX := fun env S => (f env S).bind iRev
theorem rev_pick {α β : Type} {vs : List α} {xs : List β} {i : Nat} (hl : vs.length = xs.length) (hi : i < vs.length) {d : β} (h : xs[xs.length - 1 - i]? = some d) : xs.reverse[i]? = some d := by
  rw [List.getElem?_reverse (by omega)]; exact h
theorem di_rev (hg : Gl X "reversed") (hm : X.mg "reversed" = none) (he : DE X g W e f) (hs : starEach [e] X.env = (false, eval e X.env) :: starEach [] X.env := by rfl) : DI X g W tg (.Call (.Name "reversed" p) [e] [] pos) (xRev f) :=
  ⟨fun hK => (RT.pi_revA hg hm (he.pe hK) hs).imp fun σ H Q ⟨R, env, S, rs, re, q⟩ => tD_bind rs re q fun d S1 v H1 R1 s1 rs1 re1 rv q1 => by
    unfold iRev at q1
    split at q1
    · split at q1
      · rename_i b xs hx
        obtain ⟨a, vs, rfl, na, ka, oa⟩ := itemsP_ok rv hx
        rw [← hK]
        refine ⟨a, vs, rfl, ?_⟩
        have pick : ∀ (i : Nat) (R1' : RR) (H2 : Hp) (w : V), i < vs.length → Stp R1 H1 R1' H2 → vs[vs.length - 1 - i]? = some w → ∃ d, (xs.reverse.map D.py)[i]? = some d ∧ RD g.K R1' H2 w d := fun i R1' H2 w hi s hw => by
          obtain ⟨d, e1, r1⟩ := (ka.step s).get' hw
          rw [ka.length] at e1
          exact ⟨.py d, by rw [List.getElem?_map, rev_pick ka.length hi e1]; rfl, r1⟩
        have hl : (xs.reverse.map D.py).length = vs.length := by rw [List.length_map, List.length_reverse, ka.length]
        cases b with
        | false =>
          have oa : H1 a = some (.lst vs) := oa
          refine .inl ⟨SqL.of oa, q1 _ H1 R1 .refl rs1 ⟨⟨fun H => SqL g.K H a vs, fun i H x H' => H' = H ∧ vs[vs.length - 1 - i]? = some x, (by rw [hl]; exact walk_rev), fun R' S' H' s _ _ => SqL.of (s.keep _ _ na oa), fun i R2 S2 H2 w H3 hi s rs _ ⟨e, y⟩ => ?_⟩⟩⟩
          subst e
          rw [hl] at hi
          obtain ⟨d, z1, z2⟩ := pick i R2 H3 w hi s y
          exact ⟨d, z1, .refl, rs, z2⟩
        | true =>
          have oa : TupR H1 a vs xs := oa
          have wr : Walk (RT.ItvT g.K a vs.length) vs.length (fun H => SqT g.K H a vs) (fun i H x H' => H' = H ∧ vs[vs.length - 1 - i]? = some x) :=
            ⟨fun i _ hi q => ⟨hi, vs, vs[vs.length - 1 - i]'(by omega), q, List.getElem?_eq_getElem (by omega)⟩, fun _ _ => Nat.le_refl _, fun _ _ _ _ _ q y => ⟨y.1, y.2 vs q⟩⟩
          refine .inr ⟨oa.sq, q1 _ H1 R1 .refl rs1 ⟨⟨fun H => SqT g.K H a vs, fun i H x H' => H' = H ∧ vs[vs.length - 1 - i]? = some x, (by rw [hl]; exact wr), fun R' S' H' s _ _ => (oa.keep fun _ e => s.keep _ _ na e).sq, fun i R2 S2 H2 w H3 hi s rs _ ⟨e, y⟩ => ?_⟩⟩⟩
          subst e
          rw [hl] at hi
          obtain ⟨d, z1, z2⟩ := pick i R2 H3 w hi s y
          exact ⟨d, z1, .refl, rs, z2⟩
      · exact q1.elim
    · exact q1.elim⟩
/-- range(i, j, c) -/
def rg3 (i j c : Int) : List Int := (List.range (Builtin.Range.rangeSize i j c).toNat).map fun (n : Nat) => i + (n : Nat) * c
theorem rsize_nn (i j c : Int) : 0 ≤ Builtin.Range.rangeSize i j c := by
  unfold Builtin.Range.rangeSize
  split
  · split
    · have := Int.ediv_nonneg (a := j - i - 1) (b := c) (by omega) (by omega)
      omega
    · omega
  · split
    · have := Int.ediv_nonneg (a := i - j - 1) (b := -c) (by omega) (by omega)
      omega
    · omega
def iR3 (ds : List D) (S : Sto) : Res (List D × Option (Nat × List D)) := match ds with
  | [.py (.int i), .py (.int j), .py (.int c)] => if c ≠ 0 ∧ c.natAbs < 1073741824 ∧ Builtin.Range.small i j c = true then .ok ((rg3 i j c).map fun i => .py (.int i), none) S else .bad
  | _ => .bad
def xRg3 (k : AX) : IX := fun env S => (k env S).bind iR3
theorem rds3' {K : PySem.W.Frag} {R : RR} {H : Hp} {vs : List V} {a b c : D} (r : RDs K R H vs [a, b, c]) : ∃ x y z, vs = [x, y, z] ∧ RD K R H x a ∧ RD K R H y b ∧ RD K R H z c := by
  cases r with
  | cons h t => cases t with
    | cons h2 t => cases t with
      | cons h3 t => cases t; exact ⟨_, _, _, rfl, h, h2, h3⟩
theorem it_range3 {R : RR} {H : Hp} (i j c : Int) : IsIt g R H (Itc i c (Builtin.Range.rangeSize i j c).toNat) ((rg3 i j c).map fun i => .py (.int i)) none := by
  have hl : ((rg3 i j c).map fun i => D.py (.int i)).length = (Builtin.Range.rangeSize i j c).toNat := by unfold rg3; simp
  refine ⟨fun _ => True, YFn fun n => .int (i + (n : Nat) * c), (by rw [hl]; exact walk_rangeC), fun _ _ _ _ _ _ => trivial, fun n R1 S1 H1 v H2 hi s rs _ ⟨e, y⟩ => ?_⟩
  subst e y
  rw [hl] at hi
  refine ⟨dI (i + (n : Nat) * c), ?_, .refl, rs, RD.int _⟩
  rw [List.getElem?_map]
  unfold rg3
  rw [List.getElem?_map, List.getElem?_range hi]
  rfl
theorem di_rg3 (hg : Gl X "range") (hm : X.mg "range" = none) (ha : DA X g W [e, e2, e3] k) (hs : starEach [e, e2, e3] X.env = (false, eval e X.env) :: starEach [e2, e3] X.env := by rfl) (hpl : (backTo pos (starEach [e2, e3] X.env)).any (·.1) = false := by rfl) :
    DI X g W tg (.Call (.Name "range" p) [e, e2, e3] [] pos) (xRg3 k) :=
  ⟨fun hK => (pi_range3 hg hm (ha.pa hK) hs hpl).imp fun σ H Q ⟨R, env, S, rs, re, q⟩ => tDA_bind rs re q fun ds S1 vs H1 R1 s1 rs1 re1 rv q1 => by
    unfold iR3 at q1
    split at q1
    · rename_i i j c
      split at q1
      · rename_i hc
        obtain ⟨x, y, z, rfl, r1, r2, r3⟩ := rds3' rv
        cases r1
        cases r2
        cases r3
        exact ⟨i, j, c, _, rfl, ⟨hc.1, hc.2.1, hc.2.2, (Int.toNat_of_nonneg (rsize_nn i j c)).symm⟩, q1 _ H1 R1 .refl rs1 (it_range3 i j c)⟩
      · exact q1.elim
    · exact q1.elim⟩
end
end DL
end
section
set_option maxRecDepth 100000
set_option maxHeartbeats 1000000
/-! DL11: in, dicts that are read, dict(pairs), list.index. -/
namespace DL
open PySem PySem.Spec PyProof.Rows L2
def flatP : PyData → Bool
  | .none => true
  | .bool _ => true
  | .int _ => true
  | .str _ => true
  | _ => false
def kOf : PyData → Option Key
  | .int i => some (.inl i)
  | .str x => some (.inr x)
  | _ => none
@[simp] theorem kOf_key (k : Key) : kOf (keyPy k) = some k := by cases k <;> rfl
def valP : List (PyData × PyData) → Key → Option PyData
  | [], _ => none
  | (a, b) :: r, k => if kOf a = some k then some b else valP r k
section
variable {K : PySem.W.Frag} {R : RR} {H : Hp}
theorem flat_ok {v : V} {d : PyData} (r : Rp K R H v d) (h : flatP d = true) : flatV v = true := by
  cases r <;> first | rfl | cases h
theorem eqv_ok {v w : V} {d e : PyData} (r : Rp K R H v d) (r2 : Rp K R H w e) (h : flatP d = true) (h2 : flatP e = true) : eqV v w = PyData.eqv d e := by
  cases r <;> first | cases h; done | (cases r2 <;> first | rfl | (cases h2; done) | (simp only [eqV, PyData.eqv]))
theorem kOf_ok {v : V} {d : PyData} {k : Key} (r : Rp K R H v d) (h : kOf d = some k) : v = kV k := by
  cases r <;> cases h <;> rfl
theorem valP_ok : ∀ {kvs : List (Key × V)} {es : List (PyData × PyData)}, RpKv K R H kvs es → ∀ k : Key, (valV kvs k = none ∧ valP es k = none) ∨ ∃ v d, valV kvs k = some v ∧ valP es k = some d ∧ Rp K R H v d
  | _, _, .nil, k => .inl ⟨rfl, rfl⟩
  | _, _, .cons (k := j) (v := v) (d := d) (kvs := kvs) (es := es) h t, k => by
    by_cases e : j = k
    · refine .inr ⟨v, d, valV_pos e, ?_, h⟩
      show (if kOf (keyPy j) = some k then _ else _) = _
      rw [kOf_key, if_pos (by rw [e])]
    · rw [valV_neg e]
      have : valP ((keyPy j, d) :: es) k = valP es k := by
        show (if kOf (keyPy j) = some k then _ else _) = _
        rw [kOf_key, if_neg (by intro z; exact e (Option.some.inj z))]
      rw [this]
      exact valP_ok t k
theorem inV_ok {v : V} {d : PyData} (r : Rp K R H v d) (hf : flatP d = true) : ∀ {vs : List V} {ds : List PyData}, RpAll K R H vs ds → ds.all flatP = true → vs.all flatV = true ∧ inV v vs = ds.any fun z => PyData.eqv z d
  | _, _, .nil, _ => ⟨rfl, rfl⟩
  | _, _, .cons h t, f => by
    rw [List.all_cons, Bool.and_eq_true] at f
    obtain ⟨h1, h2⟩ := inV_ok r hf t f.2
    refine ⟨by rw [List.all_cons, flat_ok h f.1, h1]; rfl, ?_⟩
    unfold inV at h2 ⊢
    rw [List.any_cons, List.any_cons, eqv_ok h r f.1 hf, h2]
end
def inP (neg : Bool) : Op2 := fun x y S => match toPy S x, toPy S y with
  | some d, some (.list ds) => if SeqAt.shaped d = true ∧ SeqAt.shaped (.list ds) = true then .ok (dB (neg != ds.any fun z => PyData.eqv z d)) S else .bad
  | some d, some (.tuple ds) => if flatP d = true ∧ ds.all flatP = true then .ok (dB (neg != ds.any fun z => PyData.eqv z d)) S else .bad
  | some d, some (.dict es) => (match kOf d with
    | some k => .ok (dB (neg != (valP es k).isSome)) S
    | none => .bad)
  | _, _ => .bad
abbrev dIn : Op2 := inP false
abbrev dNotIn : Op2 := inP true
section
variable {X : Cx} {g : G} {W : WY}
theorem op_in_dict (hu : X.A.units + 1 < cLine) : OpR X (compareOp .In) (fun x y H Q => ∃ a o, y = .ref a ∧ DGet H a x o ∧ Q (.bl o.isSome) H) := by
  intro pins s σ H x y v u Q I rx ry h
  obtain ⟨a, o, rfl, gd, q⟩ := h
  obtain rfl : u = Value.ref a := ry
  exact d_in hu I gd rx fun s3 I3 => ⟨.bl o.isSome, H, I3, rfl, q⟩
theorem op_notIn_dict (hu : X.A.units + 1 < cLine) : OpR X (compareOp .NotIn) (fun x y H Q => ∃ a o, y = .ref a ∧ DGet H a x o ∧ Q (.bl (!o.isSome)) H) := by
  intro pins s σ H x y v u Q I rx ry h
  obtain ⟨a, o, rfl, gd, q⟩ := h
  obtain rfl : u = Value.ref a := ry
  exact d_notIn hu I gd rx fun s3 I3 => ⟨.bl (!o.isSome), H, I3, rfl, q⟩
theorem Rp0.all {K : PySem.W.Frag} {R : RR} {H : Hp} {vs : List V} {ds : List PyData} (h : RpAll K R H vs ds) : RpAll K R0 H vs ds := RpAll.chg (fun a o n e => ⟨e, notin0⟩) h
theorem Rp0.kv {K : PySem.W.Frag} {R : RR} {H : Hp} {vs : List (Key × V)} {ds : List (PyData × PyData)} (h : RpKv K R H vs ds) : RpKv K R0 H vs ds := RpKv.chg (fun a o n e => ⟨e, notin0⟩) h
theorem tup_of_toPy {R : RR} {S : Sto} {H : Hp} {v : V} {y : D} {ds : List PyData} (r : RD g.K R H v y) (h : toPy S y = some (.tuple ds)) : ∃ a vs, v = .ref a ∧ TupR H a vs ds ∧ RpAll g.K R H vs ds := by
  cases y with
  | py d =>
    have h : d = .tuple ds := Option.some.inj h
    subst h
    cases r with
    | tup h1 n1 k1 => exact ⟨_, _, rfl, h1, k1⟩
  | loc n =>
    unfold toPy at h
    simp only at h
    split at h
    · rename_i xs _
      cases q : pys xs with
      | none => rw [q] at h; cases h
      | some z => rw [q] at h; cases h
    · cases h
  | scr ns => cases h
theorem dic_of_toPy {R : RR} {S : Sto} {H : Hp} {v : V} {y : D} {es : List (PyData × PyData)} (r : RD g.K R H v y) (h : toPy S y = some (.dict es)) : ∃ a kvs, v = .ref a ∧ H a = some (.dK kvs) ∧ RpKv g.K R H kvs es := by
  cases y with
  | py d =>
    have h : d = .dict es := Option.some.inj h
    subst h
    cases r with
    | dic h1 n1 k1 => exact ⟨_, _, rfl, h1, k1⟩
  | loc n =>
    unfold toPy at h
    simp only at h
    split at h
    · rename_i xs _
      cases q : pys xs with
      | none => rw [q] at h; cases h
      | some z => rw [q] at h; cases h
    · cases h
  | scr ns => cases h
theorem dget_of {R : RR} {H : Hp} {a : Addr} {kvs : List (Key × V)} {es : List (PyData × PyData)} {v : V} {d : PyData} {k : Key} (h : H a = some (.dK kvs)) (r : RpKv g.K R H kvs es) (rv : Rp g.K R H v d) (hk : kOf d = some k) : ∃ o, DGet H a v o ∧ o.isSome = (valP es k).isSome := by
  refine ⟨valV kvs k, .inl ⟨kvs, k, .inl h, kOf_ok rv hk, rfl⟩, ?_⟩
  rcases valP_ok r k with ⟨e1, e2⟩ | ⟨w, z, e1, e2, _⟩
  · rw [e1, e2]; rfl
  · rw [e1, e2]; rfl
theorem in_core {neg : Bool} {R : RR} {S : Sto} {H : Hp} {W : XK} {x y : V} {d e : D} {Q : VK} (rs : RS g R S H) (rx : RD g.K R H x d) (ry : RD g.K R H y e) (h : Post g W R H (PV g) (inP neg d e S) Q) :
    (∃ d ds, Dp g.K H x d ∧ Dp g.K H y (.list ds) ∧ SeqAt.shaped d = true ∧ SeqAt.shaped (.list ds) = true ∧ Q (.bl (neg != ds.any fun z => PyData.eqv z d)) H) ∨
    (∃ p xs, y = .ref p ∧ (SqL g.K H p xs ∨ SqT g.K H p xs) ∧ flatV x = true ∧ xs.all flatV = true ∧ Q (.bl (neg != inV x xs)) H) ∨ ∃ a o, y = .ref a ∧ DGet H a x o ∧ Q (.bl (neg != o.isSome)) H := by
  unfold inP at h
  split at h
  · rename_i dx ds ex ey
    split at h
    · rename_i hs
      exact .inl ⟨_, _, (toPy_ok rs rx ex).dp (shaped_lay hs.1), (toPy_ok rs ry ey).dp (shaped_lay hs.2), hs.1, hs.2, post_now rs (RD.bl _) h⟩
    · exact h.elim
  · rename_i dx ds ex ey
    split at h
    · rename_i hs
      obtain ⟨a, vs, rfl, h1, k1⟩ := tup_of_toPy ry ey
      have r := toPy_ok rs rx ex
      obtain ⟨f1, f2⟩ := inV_ok r hs.1 (Rp0.all k1) hs.2
      refine .inr (.inl ⟨a, vs, rfl, .inr h1.sq, flat_ok r hs.1, f1, ?_⟩)
      rw [f2]
      exact post_now rs (RD.bl _) h
    · exact h.elim
  · rename_i dx es ex ey
    split at h
    · rename_i k hk
      obtain ⟨a, kvs, rfl, h1, k1⟩ := dic_of_toPy ry ey
      obtain ⟨o, h2, h3⟩ := dget_of h1 (Rp0.kv k1) (toPy_ok rs rx ex) hk
      refine .inr (.inr ⟨a, o, rfl, h2, ?_⟩)
      rw [h3]
      exact post_now rs (RD.bl _) h
    · exact h.elim
  · exact h.elim
theorem opIn (hu : X.A.units + 65 < cLine) : Op X g (compareOp .In) dIn := ⟨fun hK => ⟨_, (op_inD hu).or (op_in_seq.or (op_in_dict (by omega))), fun W R S H x y d e Q rs rx ry h => by
  rw [← hK]
  rcases in_core rs rx ry h with ⟨d, ds, h1, h2, h3, h4, q⟩ | ⟨p, xs, h1, h2, h3, h4, q⟩ | ⟨a, o, h1, h2, q⟩
  · exact .inl ⟨d, ds, h1, h2, h3, h4, by rw [Bool.false_bne] at q; exact q⟩
  · exact .inr (.inl ⟨p, xs, h1, h2, h3, h4, by rw [Bool.false_bne] at q; exact q⟩)
  · exact .inr (.inr ⟨a, o, h1, h2, by rw [Bool.false_bne] at q; exact q⟩)⟩⟩
theorem opNotIn (hu : X.A.units + 65 < cLine) : Op X g (compareOp .NotIn) dNotIn := ⟨fun hK => ⟨_, (op_notInD hu).or (op_notIn_seq.or (op_notIn_dict (by omega))), fun W R S H x y d e Q rs rx ry h => by
  rw [← hK]
  rcases in_core rs rx ry h with ⟨d, ds, h1, h2, h3, h4, q⟩ | ⟨p, xs, h1, h2, h3, h4, q⟩ | ⟨a, o, h1, h2, q⟩
  · exact .inl ⟨d, ds, h1, h2, h3, h4, by rw [Bool.true_bne] at q; exact q⟩
  · exact .inr (.inl ⟨p, xs, h1, h2, h3, h4, by rw [Bool.true_bne] at q; exact q⟩)
  · exact .inr (.inr ⟨a, o, h1, h2, by rw [Bool.true_bne] at q; exact q⟩)⟩⟩

/-! ### d[k] -/
def dGet : Op2 := fun x y S => match x, y with
  | .py (.dict es), .py e => (match kOf e with
    | some k => (match valP es k with | some d => .ok (.py d) S | none => .bad)
    | none => .bad)
  | _, _ => .bad
/-- a[b], a any list, tuple, text, or frozen dict -/
def dIxD : Op2 := fun x y S => match x with
  | .py (.dict _) => dGet x y S
  | _ => dIx x y S
theorem _root_.L2.PE.or {X : Cx} {e : Expr} {t t' : TE} (h : PE X e t) (k : PE X e t') : PE X e (fun σ H Q => t σ H Q ∨ t' σ H Q) := ⟨fun pins s σ H Q I q => q.elim (h.run pins s σ H Q I) (k.run pins s σ H Q I)⟩
variable {a b : Expr} {fa fb : EX} {pos : Pos}
theorem de_dget (hu : X.A.units + 1 < cLine) (ha : DE X g W a fa) (hb : DE X g W b fb) (hs : NoSl b) : DE X g W (.Subscript a b pos) (xBin dGet fa fb) :=
  ⟨fun hK => (pe_dget hu (ha.pe hK) (hb.pe hK) hs).imp fun σ H Q ⟨R, env, S, rs, re, h⟩ => tD_bind rs re h fun x S1 v1 H1 R1 s1 rs1 re1 rx h1 => tD_bind rs1 re1 h1 fun y S2 v2 H2 R2 s2 rs2 re2 ry h2 => by
    unfold dGet at h2
    split at h2
    · rename_i es e
      split at h2
      · rename_i k hk
        split at h2
        · rename_i d hd
          have rx := rx.step s2
          cases rx with
          | dic o1 n1 k1 =>
            rcases valP_ok k1 k with ⟨_, e2⟩ | ⟨w, z, e1, e2, rz⟩
            · rw [hd] at e2; cases e2
            · rw [hd] at e2
              cases e2
              exact ⟨_, w, rfl, .inl ⟨_, k, .inl o1, kOf_ok ry hk, e1.symm⟩, post_now rs2 (show RD g.K R2 H2 w (.py _) from rz) h2⟩
        · exact h2.elim
      · exact h2.elim
    · exact h2.elim⟩
theorem de_ixD (hu : X.A.units + 1 < cLine) (ha : DE X g W a fa) (hb : DE X g W b fb) (hs : PlainIx b) (hs' : NoSl b) : DE X g W (.Subscript a b pos) (xBin dIxD fa fb) :=
  ⟨fun hK => (((de_ix ha hb hs).pe hK).or ((de_dget hu ha hb hs').pe hK)).imp fun σ H Q ⟨R, env, S, rs, re, h⟩ => by
    have h : Post g (wAt W σ) R H (PV g) ((fa env S).bind fun x S1 => (fb env S1).bind fun y S2 => dIxD x y S2) Q := h
    by_cases c : ∃ es S1, fa env S = .ok (.py (.dict es)) S1
    · obtain ⟨es, S1, e⟩ := c
      refine .inr ⟨R, env, S, rs, re, ?_⟩
      show Post g (wAt W σ) R H (PV g) ((fa env S).bind fun x S1 => (fb env S1).bind fun y S2 => dGet x y S2) Q
      rw [e] at h ⊢
      exact h
    · refine .inl ⟨R, env, S, rs, re, ?_⟩
      show Post g (wAt W σ) R H (PV g) ((fa env S).bind fun x S1 => (fb env S1).bind fun y S2 => dIx x y S2) Q
      cases q : fa env S with
      | ok x S1 =>
        rw [q] at h
        have : ∀ y S2, dIxD x y S2 = dIx x y S2 := fun y S2 => by
          unfold dIxD
          split
          · exact absurd ⟨_, _, q⟩ c
          · rfl
        have h : Post g (wAt W σ) R H (PV g) ((fb env S1).bind fun y S2 => dIxD x y S2) Q := h
        simp only [this] at h
        exact h
      | exc x S1 => rw [q] at h; exact h
      | bad => rw [q] at h; exact h⟩

/-! ### dict(pairs) -/
def putG {β : Type} (kvs : List (Key × β)) (k : Key) (v : β) : List (Key × β) :=
  if (kvs.any fun kv => decide (kv.1 = k)) = true then kvs.map (fun kv => if kv.1 = k then (kv.1, v) else kv) else kvs ++ [(k, v)]
def mergeG {β : Type} (kvs more : List (Key × β)) : List (Key × β) := more.foldl (fun acc kv => putG acc kv.1 kv.2) kvs
def kPairs : List PyData → Option (List (Key × PyData))
  | [] => some []
  | .tuple [a, b] :: r => (match kOf a with
    | some k => (kPairs r).map ((k, b) :: ·)
    | none => none)
  | _ :: _ => none
def dicP (kvs : List (Key × PyData)) : PyData := .dict (kvs.map fun p => (keyPy p.1, p.2))
abbrev RKp (K : PySem.W.Frag) (R : RR) (H : Hp) : List (Key × V) → List (Key × PyData) → Prop := Paired fun p q => p.1 = q.1 ∧ Rp K R H p.2 q.2
theorem RKp.kv {K : PySem.W.Frag} {R : RR} {H : Hp} : ∀ {vs : List (Key × V)} {ds : List (Key × PyData)}, RKp K R H vs ds → RpKv K R H vs (ds.map fun p => (keyPy p.1, p.2))
  | _, _, .nil => .nil
  | (a, v) :: _, (b, d) :: _, .cons h t => by
    obtain ⟨h1, h2⟩ := h
    have h1 : a = b := h1
    subst h1
    exact .cons h2 (RKp.kv t)
theorem RKp.any {K : PySem.W.Frag} {R : RR} {H : Hp} (k : Key) : ∀ {vs : List (Key × V)} {ds : List (Key × PyData)}, RKp K R H vs ds → (vs.any fun kv => decide (kv.1 = k)) = ds.any fun kv => decide (kv.1 = k)
  | _, _, .nil => rfl
  | _, _, .cons h t => by rw [List.any_cons, List.any_cons, h.1, RKp.any k t]
theorem RKp.map {K : PySem.W.Frag} {R : RR} {H : Hp} {k : Key} {v : V} {d : PyData} (r : Rp K R H v d) : ∀ {vs : List (Key × V)} {ds : List (Key × PyData)}, RKp K R H vs ds → RKp K R H (vs.map fun kv => if kv.1 = k then (kv.1, v) else kv) (ds.map fun kv => if kv.1 = k then (kv.1, d) else kv)
  | _, _, .nil => .nil
  | p :: _, q :: _, .cons h t => by
    refine .cons ?_ (RKp.map r t)
    obtain ⟨h1, h2⟩ := h
    show (if p.1 = k then (p.1, v) else p).1 = (if q.1 = k then (q.1, d) else q).1 ∧ Rp K R H (if p.1 = k then (p.1, v) else p).2 (if q.1 = k then (q.1, d) else q).2
    by_cases e : p.1 = k
    · rw [if_pos e, if_pos (h1 ▸ e)]; exact ⟨h1, r⟩
    · rw [if_neg e, if_neg (h1 ▸ e)]; exact ⟨h1, h2⟩
theorem RKp.snoc {K : PySem.W.Frag} {R : RR} {H : Hp} {k : Key} {v : V} {d : PyData} (r : Rp K R H v d) : ∀ {vs : List (Key × V)} {ds : List (Key × PyData)}, RKp K R H vs ds → RKp K R H (vs ++ [(k, v)]) (ds ++ [(k, d)])
  | _, _, .nil => .cons ⟨rfl, r⟩ .nil
  | _, _, .cons h t => .cons h (RKp.snoc r t)
theorem RKp.put {K : PySem.W.Frag} {R : RR} {H : Hp} {vs : List (Key × V)} {ds : List (Key × PyData)} {k : Key} {v : V} {d : PyData} (h : RKp K R H vs ds) (r : Rp K R H v d) : RKp K R H (putK vs k v) (putG ds k d) := by
  unfold putK putG
  rw [h.any k]
  split
  · exact h.map r
  · exact h.snoc r
theorem RKp.merge {K : PySem.W.Frag} {R : RR} {H : Hp} : ∀ {more : List (Key × V)} {me : List (Key × PyData)} {vs : List (Key × V)} {ds : List (Key × PyData)}, RKp K R H more me → RKp K R H vs ds → RKp K R H (mergeK vs more) (mergeG ds me)
  | _, _, _, _, .nil, h => h
  | p :: m, q :: n, vs, ds, .cons h t, h' => by
    have e : p.1 = q.1 := h.1
    have z : RKp K R H (mergeK (putK vs p.1 p.2) m) (mergeG (putG ds q.1 q.2) n) := RKp.merge t (by rw [← e]; exact h'.put h.2)
    exact z
theorem kPairs_ok {K : PySem.W.Frag} {R : RR} {H : Hp} : ∀ {vs : List V} {ds : List PyData} {kvs : List (Key × PyData)}, RpAll K R H vs ds → kPairs ds = some kvs → ∃ (ps : List Addr) (kv : List (Key × V)), vs = ps.map V.ref ∧ Paired (fun p kv => SqT K H p [kV kv.1, kv.2]) ps kv ∧ RKp K R H kv kvs
  | _, _, _, .nil, e => by
    cases e
    exact ⟨[], [], rfl, .nil, .nil⟩
  | _, _, kvs, .cons (v := v) (d := d) (ds := r) h t, e => by
    obtain ⟨a, b, rfl⟩ : ∃ a b, d = .tuple [a, b] := by
      unfold kPairs at e
      split at e
      · rename_i q; cases q
      · rename_i q; injection q with q1 q2; exact ⟨_, _, q1⟩
      · cases e
    have e : (match kOf a with
      | some k => (kPairs r).map ((k, b) :: ·)
      | none => none) = some kvs := e
    cases hk : kOf a with
    | none => rw [hk] at e; cases e
    | some k =>
      rw [hk] at e
      cases z : kPairs r with
      | none => rw [z] at e; cases e
      | some kvs' =>
        rw [z] at e
        cases e
        obtain ⟨ps, kv, rfl, h2, h3⟩ := kPairs_ok t z
        cases h with
        | tup o1 n1 k1 =>
          cases k1 with
          | cons ra k1 => cases k1 with
            | cons rb k1 =>
              cases k1
              have ea := kOf_ok ra hk
              exact ⟨_ :: ps, (k, _) :: kv, rfl, .cons (ea ▸ o1.sq) h2, .cons ⟨rfl, rb⟩ h3⟩

/-! ### list.index -/
def mIndex : MX := fun d ds S => match toPy S d, ds with
  | some (.list xs), [e] => (match toPy S e with
    | some z => if SeqAt.shaped (.list xs) = true ∧ SeqAt.shaped z = true then (match xs.findIdx? fun w => PyData.eqv w z with
      | some j => .ok (dI (j : Nat)) S
      | none => .bad) else .bad
    | none => .bad)
  | _, _ => .bad
theorem mbIndex (hu : X.A.units + 65 < cLine) : MB X g "list.index" mIndex := ⟨fun hK => ⟨_, mt_indexD hu, fun W R S H v d vs ds Q rs rd rv h => by
  unfold mIndex at h
  split at h
  · rename_i xs e hx
    split at h
    · rename_i z hz
      split at h
      · rename_i hs
        split at h
        · rename_i j hj
          obtain ⟨y, rfl, ry⟩ := rds1 rv
          rw [List.findIdx?_eq_some_iff_getElem] at hj
          obtain ⟨hl, h1, h2⟩ := hj
          have r1 := toPy_ok rs rd hx
          obtain ⟨a, rfl⟩ : ∃ a, v = .ref a := by cases r1; exact ⟨_, rfl⟩
          rw [← hK]
          exact ⟨a, y, z, xs, j, xs[j], rfl, rfl, r1.dp (shaped_lay hs.1), (toPy_ok rs ry hz).dp (shaped_lay hs.2), hs.1, hs.2, List.getElem?_eq_getElem hl, h1, fun m z' hm hz' => by
            obtain ⟨hm2, e2⟩ := List.getElem?_eq_some_iff.mp hz'
            subst e2
            exact Bool.eq_false_iff.mpr (h2 m hm), post_now rs (show RD g.K R H _ (.py (.int _)) from Rp.int _) h⟩
        · exact h.elim
      · exact h.elim
    · exact h.elim
  · exact h.elim⟩⟩
theorem dmIndex {o e : Expr} {f : EX} {ka : AX} {apos cpos : Pos} (hu : X.A.units + 65 < cLine) (ho : DE X g W o f) (ha : DA X g W [e] ka) (hbase : attributeBase o "index" X.env (eval o X.env) = eval o X.env := by rfl)
    (hfew : ((backTo cpos (starEach [e] X.env)).all (fun x => !x.1) && (backToKw cpos (keywordEach [] X.env)).all (fun x => x.1.isSome) && decide ([e].length + ([] : List Keyword).length + (if ([] : List Keyword).isEmpty then 0 else 1) < 30)) = true := by rfl)
    (hline : (apos.endLine == cpos.line) = true := by rfl) (hs : starEach [e] X.env = (false, eval e X.env) :: starEach [] X.env := by rfl) : DE X g W (.Call (.Attribute o "index" apos) [e] [] cpos) (xBM "list" mIndex f ka) :=
  de_bm PySem.F.plainAttrs_list PySem.F.slot_list_index PySem.F.type_list_index (.inl rfl) (mbIndex hu) ho ha hbase hfew hline hs rfl
end
end DL
end
section
set_option maxRecDepth 100000
set_option maxHeartbeats 1000000
/-! DL12: small words for the printed texts. -/
namespace DL
open PySem PySem.Spec PyProof.Rows L2
theorem unit1 {k : Nat} {A : Around} (r : Room k A) : A.units + 1 < cLine := by have := r.units; omega
theorem unit65 {k : Nat} {A : Around} (r : Room k A) : A.units + 65 < cLine := by have := r.un; omega
section
variable {K : PySem.W.Frag} {h : Heap} {mg : Str → Option Value}
theorem funAt_of {x : Str} {st : Stmt} {ps : List Str} {f : Addr} {oc : Value} {od an : Option Addr} {osl : Array (Option Value)} {kV doc pm cdv ct : Value} (G : h.Ns mainGlobals mg) (X : K.In h) (a : PySem.W.nsIn K mainGlobals x = some (some (.ref f)))
    (l : K.lookup f = some ⟨oc, od, .func (PySem.W.fnOf x x (defArgs st) (defBody st) (defScope st) .none kV doc pm an cdv ct), osl⟩) (c : PySem.W.codeIn K cdv x = true) (k : PySem.W.keepIn K (.ref f) = true)
    (hb : ∀ (kV doc pm : Value) (an : Option Addr) (cdv ct : Value) (us : List Value), us.length = ps.length → bindArgs (PySem.W.fnOf x x (defArgs st) (defBody st) (defScope st) .none kV doc pm an cdv ct) ⟨us, []⟩ = pure (ps.zip us)) : FunAt K mg x st ps :=
  have F := fun_mk (st := st) l c k
  ⟨⟨f, _, F, PySem.W.mg_of X G a, F.binds hb⟩⟩
theorem cst_int {x : Str} {i : Int} {t : Tok} (G : h.Ns mainGlobals mg) (X : K.In h) (e : PySem.W.nsIn K mainGlobals x = some (some (.int i t))) : ∃ t, mg x = some (.int i t) := ⟨t, PySem.W.mg_of X G e⟩
theorem cst_str {x : Str} {i : Str} {t : Tok} (G : h.Ns mainGlobals mg) (X : K.In h) (e : PySem.W.nsIn K mainGlobals x = some (some (.str i t))) : ∃ t, mg x = some (.str i t) := ⟨t, PySem.W.mg_of X G e⟩
end
section
variable {X : Cx} {g : G} {W : WY} {a b : Expr} {fa fb : EX} {pos : Pos}
theorem dix (hu : X.A.units + 1 < cLine) (ha : DE X g W a fa) (hb : DE X g W b fb) (hs : PlainIx b := by exact fun _ _ => rfl) : DE X g W (.Subscript a b pos) (xBin dIxD fa fb) := de_ixD hu ha hb hs hs
end
end DL
end
section
set_option maxRecDepth 100000
set_option maxHeartbeats 1000000
/-! DL13: enumerate(a tuple). -/
namespace DL
open PySem PySem.Spec PyProof.Rows L2
/-- the enumerate object and its inner iterator's, for one argument whose iterator is known -/
def enumObj (it : Addr) : Obj := { cls := .type "enumerate", data := .fields #[.none, .bool false, .ref it, rawInt 0, .none, .none] }
theorem enum1_new {v : Value} {o : Obj} {G : Heap → Prop} (B : Begins v o G) :
    Meets (Builtin.«enumerate.__new__» ⟨[.type "enumerate", v], []⟩) (fun _ R s => G s.heap ∧ R (.ok (.ret (.ref (s.heap.push o).objs.size))) { s with heap := (s.heap.push o).push (enumObj s.heap.objs.size) }) :=
  .of_wp fun prog w A R s hh => by
    obtain ⟨hp, gg, dd, tk, os⟩ := s
    obtain ⟨g1, hh⟩ := hh
    have hsub := sub_enumerate
    have turn : ∀ {A' : Around} {E : Value → Shared → Prop} {Q : Value → Shared → Prop}, Q (.ref hp.objs.size) ⟨hp.push o, gg, dd, tk, os⟩ → wpAny (model prog w) A' (pyIter v) Q E ⟨hp, gg, dd, tk, os⟩ := fun q => B.iter prog w _ _ ⟨hp, gg, dd, tk, os⟩ _ g1 q
    wp_walk using turn
    refine wpAny_stack_any fun stk => (wpAny_pure ?_)
    split
    · rename_i cc _ _ _ _ _
      cases (cc == Value.type "enumerate") <;> (wp_walk using turn; exact ⟨_, rfl, hh⟩)
    · wp_walk using turn
      exact ⟨_, rfl, hh⟩
theorem call_enumT {prog : Program} {w : World} {A : Around} {E : Value → Shared → Prop} {s : Shared} {a : Addr} {items : Array Value} {Q : Value → Shared → Prop} (ha : s.heap.IsTuple a items)
    (k : ∀ h', IsEnum h' (s.heap.objs.size + 1) s.heap.objs.size 0 .none → h'.IsTupleIter s.heap.objs.size a 0 → (∀ b o, s.heap.get? b = some o → h'.get? b = some o) → Q (.ref (s.heap.objs.size + 1)) { s with heap := h' }) :
    wpAny (model prog w) A (call (.type "enumerate") [.ref a]) Q E s := by
  have B := begins_tuple a items
  refine callType_new F.called_enumerate (by decide) (F.typeCall_enumerate_1 _) (F.newCall_enumerate_1 _) (fun ob => F.args_object_init_2 ob _) F.entry_enumerate_new (enum1_new B) ⟨ha, ?_⟩
  have hz : (s.heap.push { cls := .type "tuple_iterator", data := .fields #[.ref a, .int 0 0] }).objs.size = s.heap.objs.size + 1 := by rw [Heap.size_push]
  show _ ∧ _
  rw [hz]
  have he : IsEnum ((s.heap.push { cls := .type "tuple_iterator", data := .fields #[.ref a, .int 0 0] }).push (enumObj s.heap.objs.size)) (s.heap.objs.size + 1) s.heap.objs.size 0 .none := by
    have z := Heap.get?_push_size (s.heap.push { cls := .type "tuple_iterator", data := .fields #[.ref a, .int 0 0] }) (o := enumObj s.heap.objs.size) rfl
    rw [hz] at z
    exact z
  refine ⟨⟨_, he, rfl⟩, k _ he ⟨_, Heap.get?_push_of_some _ (Heap.get?_push_size _ rfl), rfl, rfl⟩ fun b o x => ?_⟩
  exact Heap.get?_push_of_some _ (Heap.get?_push_of_some _ x)
def ItEt (K : PySem.W.Frag) (a : Addr) : It :=
  ⟨fun i H => ∃ (xs : List V) (x : V), SqT K H a xs ∧ xs[i]? = some x,
    fun i H v H' => ∃ T x, v = .ref T ∧ H T = none ∧ H' = upd H T (.tup [.int (i : Nat), x]) ∧ ∀ xs, SqT K H a xs → xs[i]? = some x,
    fun i H => ∃ xs : List V, SqT K H a xs ∧ xs.length ≤ i⟩
theorem turn_enumT {P : Program} {w : World} {K : PySem.W.Frag} {elts : List Expr} {kk : Nat} {tpos : Pos} (a e it : Addr) (hai : a ≠ it) (hae : a ≠ e) :
    Turn P w K (.Tuple elts kk tpos) (ItEt K a) [e, it] e (fun i h => (∃ old, IsEnum h e it ((i : Nat) : Int) old) ∧ h.IsTupleIter it a i ∧ e ≠ it) where
  mem := by simp
  obj := fun i h st b hb => by
    obtain ⟨⟨old, he⟩, ⟨o, ho, hc, hd⟩, _⟩ := st
    have e' : b = e ∨ b = it := by simpa using hb
    rcases e' with rfl | rfl
    · exact ⟨_, he, fun v q => nomatch q⟩
    · exact ⟨o, ho, fun v q => (by rw [hd] at q; cases q)⟩
  keep := fun i h h' st k => let ⟨⟨old, he⟩, hi, hne⟩ := st; ⟨⟨old, k e (by simp) _ he⟩, hi.at fun o q => k it (by simp) o q, hne⟩
  item := by
    intro X hP hw hK hc i pins s σ H E I hf st hg
    subst hP hw hK
    obtain ⟨⟨old, he⟩, hit, hne⟩ := st
    obtain ⟨xs, x, hq, hx⟩ := hg
    obtain ⟨its, rv, p, hz⟩ := I.tuple hq
    obtain ⟨u, hu, ru⟩ := rv.get hx
    have hel : e < s.heap.objs.size := Heap.lt_size he
    have hil : it < s.heap.objs.size := by obtain ⟨_, q, _⟩ := hit; exact Heap.lt_size q
    have hlt : i < its.toArray.size := by
      have := (List.getElem?_eq_some_iff.mp hu).1
      simpa using this
    refine wpAny_pyNext_enum_itemD (Draws.tuple (A := X.A.in1) (show X.A.in1.handled = none from I.ok.hd hc) it a hai its.toArray) he ⟨hit, p⟩ hlt hne (by simp [hne, Ne.symm hae]) fun y h' tk hy ho hst hT hsz hk => ?_
    have ey : y = u := by
      have hy' : its.toArray[i]? = some y := hy
      rw [List.getElem?_toArray, hu] at hy'
      exact (Option.some.inj hy').symm
    subst ey
    refine ⟨_, rfl, wpAny_letOwnedTupleGo_enum (s := { s with heap := h', toks := tk + 1 }) ho fun h'' he' sb => ?_⟩
    have hT2 : h''.get? s.heap.objs.size = some { cls := .type "tuple", data := .seq #[.int i tk, y] } := (sb.2 _ (Nat.ne_of_gt hel)).trans hT
    have new : ObjOk X.prog X.w (upd H s.heap.objs.size (.tup [.int (i : Nat), x])) h'' s.heap.objs.size (.tup [.int (i : Nat), x]) :=
      ⟨by show 2 ≤ sizeLine; decide, [.int i tk, y], .cons ⟨_, rfl⟩ (.cons ru .nil), ⟨_, hT2, rfl, _, rfl⟩⟩
    have I1 : Inv X pins σ (upd H s.heap.objs.size (.tup [.int (i : Nat), x])) { s with heap := h'', toks := tk + 1 } :=
      I.turnedNew (ch := [e, it]) (fun b ob hb q => (sb.2 b (fun z => hb (by simp [z]))).trans (hk b ob (fun z => hb (by simp [z])) (fun z => hb (by simp [z])) q)) hf (Nat.le_refl _) new
    refine ⟨.ref s.heap.objs.size, _, I1, rfl, ⟨_, x, rfl, I.hok.fresh (Nat.le_refl _), rfl, fun ys hy => (by rw [I.tuple_inj hy hq]; exact hx)⟩, ⟨⟨y, ?_⟩, hst.1.at fun o q => (sb.2 it (Ne.symm hne)).trans q, hne⟩, fun b hb => ?_⟩
    · rw [show ((i + 1 : Nat) : Int) = (i : Int) + 1 by omega]
      exact he'
    · have hb' : b < s.heap.objs.size := by
        rcases (by simpa using hb : b = e ∨ b = it) with rfl | rfl
        · exact hel
        · exact hil
      rw [upd_ne (Nat.ne_of_lt hb')]
      exact (hf b hb).1
  done := by
    intro X hP hw hK hc i pins s σ H E I hf st hg
    subst hP hw hK
    obtain ⟨⟨old, he⟩, hit, hne⟩ := st
    obtain ⟨xs, hq, hx⟩ := hg
    obtain ⟨its, rv, p, hz⟩ := I.tuple hq
    have hl := rv.length
    have D : Draws X.prog X.w X.A.in1 it [it, a] i (fun _ _ => False) (fun j h => j = i ∧ h.IsTupleIter it a i ∧ h.IsTuple a its.toArray) :=
      ⟨fun _ _ st => (let ⟨o, ho, _⟩ := st.2.1; ⟨o, ho⟩), fun _ _ _ st k => ⟨st.1, st.2.1.at fun o q => k it (by simp) o q, st.2.2.at fun o q => k a (by simp) o q⟩, fun j _ _ _ hj st _ => absurd st.1 (Nat.ne_of_lt hj),
        fun s' Q' E' st hE => wpAny_nextOf_tuple_end (show X.A.in1.handled = none from I.ok.hd hc) st.2.1 st.2.2 (by simp; omega) hE⟩
    obtain ⟨f0, f1, f2, f3, f4, f5⟩ := hf it (by simp)
    exact wpAny_pyNext_enum_endD D he ⟨rfl, hit, p⟩ fun h' eb => ⟨rfl, I.turned (t' := s.toks) (fun b o hb q => eb b o hb q) f0 f1 f3 f4 f5⟩
  self := fun A i s Q E st h => let ⟨⟨_, he⟩, _⟩ := st; wpAny_pyIter_enum he h
def iEnumT (K : PySem.W.Frag) (ta : TA) : TI := fun σ H R => ta σ H fun vs H1 => ∃ a xs, vs = [.ref a] ∧ SqT K H1 a xs ∧ R (ItEt K a) H1
theorem pi_enumT {X : Cx} {e : Expr} {ta : TA} {p pos tpos : Pos} {elts : List Expr} {kk : Nat} (hg : Gl X "enumerate") (hm : X.mg "enumerate" = none) (ha : PA X [e] ta) (hs : starEach [e] X.env = [(false, eval e X.env)] := by rfl) :
    PI X (.Tuple elts kk tpos) (.Call (.Name "enumerate" p) [e] [] pos) (iEnumT X.K ta) := by
  refine ⟨fun pins s σ H R I h => Call_ (ld_blt I hg hm boot_enumerate (PyProof.Rows.callWith_type1 (thn (ha.run pos pins s σ H _ I h) fun us s1 ⟨vs, H1, I1, r1, q1⟩ => ?_) hs rfl))⟩
  obtain ⟨a, xs, rfl, hq, q⟩ := q1
  obtain ⟨u, rfl, ru⟩ := vals1 r1
  obtain rfl : u = Value.ref a := ru
  obtain ⟨its, rv, pt, hz⟩ := I1.tuple hq
  have hlt : a < s1.heap.objs.size := by obtain ⟨_, z, _⟩ := pt; exact Heap.lt_size z
  refine call_enumT pt fun h' he hit hk => wpAny_pyIter_enum he ?_
  have I2 : Inv X pins σ H1 { s1 with heap := h' } := I1.kept (t' := s1.toks) hk
  refine ⟨s1.heap.objs.size + 1, [s1.heap.objs.size + 1, s1.heap.objs.size], _, _, H1, rfl, I2, turn_enumT a (s1.heap.objs.size + 1) s1.heap.objs.size (Nat.ne_of_lt hlt) (Nat.ne_of_lt (Nat.lt_succ_of_lt hlt)), ⟨⟨.none, he⟩, hit, Nat.succ_ne_self _⟩, fun b hb => ?_, q⟩
  have hle : s1.heap.objs.size ≤ b := by
    rcases (by simpa using hb : b = s1.heap.objs.size + 1 ∨ b = s1.heap.objs.size) with rfl | rfl
    · exact Nat.le_succ _
    · exact Nat.le_refl _
  exact I1.fpOk hle (I1.hok.fresh hle)
/-- enumerate of a list or of a tuple -/
def iEnB (ds : List D) (S : Sto) : Res (List D × Option (Nat × List D)) := match ds with
  | [.py a] => (match itemsP a with
    | some (_, xs) => .ok ((xs.mapIdx fun i x => pairP (.int (i : Nat)) x).map .py, none) S
    | none => .bad)
  | _ => .bad
def xEnB (k : AX) : IX := fun env S => (k env S).bind iEnB
theorem walk_enumT {K : PySem.W.Frag} {a : Addr} {xs : List V} : Walk (ItEt K a) xs.length (fun H => SqT K H a xs) (YPair (fun i => some (.int (i : Nat))) (fun i => xs[i]?)) := by
  refine ⟨fun i H hi q => ⟨xs, xs[i], q, List.getElem?_eq_getElem hi⟩, fun H q => ⟨xs, q, Nat.le_refl _⟩, fun i H v H' _ q y => ?_⟩
  obtain ⟨T, x, z1, z2, z3, z4⟩ := y
  exact ⟨T, .int (i : Nat), x, z1, z2, z3, rfl, z4 xs q⟩
section
variable {X : Cx} {g : G} {W : WY} {e : Expr} {pos p tpos : Pos} {k : AX} {elts : List Expr} {kk : Nat}
theorem di_enB (hg : Gl X "enumerate") (hm : X.mg "enumerate" = none) (ha : DA X g W [e] k) (hs : starEach [e] X.env = [(false, eval e X.env)] := by rfl) :
    DI X g W (.Tuple elts kk tpos) (.Call (.Name "enumerate" p) [e] [] pos) (xEnB k) :=
  ⟨fun hK => ((pi_enum hg hm (ha.pa hK) hs).or (pi_enumT hg hm (ha.pa hK) hs)).imp fun σ H Q ⟨R, env, S, rs, re, q⟩ => by
    have core : ∀ {R1 : RR} {H1 : Hp} {a : PyData} {v : V} {b : Bool} {xs : List PyData}, Rp g.K R1 H1 v a → itemsP a = some (b, xs) → ∃ pa vs, v = .ref pa ∧ (if b = true then SqT g.K H1 pa vs ∧ IsIt g R1 H1 (ItEt g.K pa) ((xs.mapIdx fun i x => pairP (.int (i : Nat)) x).map .py) none else SqL g.K H1 pa vs ∧ IsIt g R1 H1 (Ite g.K pa) ((xs.mapIdx fun i x => pairP (.int (i : Nat)) x).map .py) none) := by
      intro R1 H1 a v b xs r hx
      obtain ⟨pa, vs, rfl, na, ka, oa⟩ := itemsP_ok r hx
      have pick : ∀ i x y, i < vs.length → (some (V.int (i : Nat))) = some x → vs[i]? = some y → ∃ dx dy, (xs.mapIdx fun i x => pairP (.int (i : Nat)) x)[i]? = some (pairP dx dy) ∧ prsB [dx, dy] = false ∧ Rp g.K R1 H1 x dx ∧ Rp g.K R1 H1 y dy := fun i x y _ hx hy => by
        obtain ⟨d, e1, r1⟩ := ka.get' hy
        cases hx
        exact ⟨.int (i : Nat), d, by rw [List.getElem?_mapIdx, e1]; rfl, prsB_fst rfl, .int _, r1⟩
      refine ⟨pa, vs, rfl, ?_⟩
      cases b with
      | true =>
        have oa : TupR H1 pa vs xs := oa
        exact ⟨oa.sq, it_pairs walk_enumT (by rw [List.length_mapIdx, ka.length]) (fun R' S' H' s _ => (oa.keep fun _ e => s.keep _ _ na e).sq) pick⟩
      | false =>
        have oa : H1 pa = some (.lst vs) := oa
        exact ⟨SqL.of oa, it_pairs walk_enum (by rw [List.length_mapIdx, ka.length]) (fun R' S' H' s _ => SqL.of (s.keep _ _ na oa)) pick⟩
    have q : Post g (wAt W σ) R H (PIt g) ((k env S).bind iEnB) (fun J H' => Q J H') := q
    by_cases c : ∃ es S1, k env S = .ok [.py (.tuple es)] S1
    · refine .inr ⟨R, env, S, rs, re, ?_⟩
      obtain ⟨es, S1, e1⟩ := c
      rw [e1] at q ⊢
      intro vs H1 R1 s1 rs1 rv
      obtain ⟨v, rfl, r⟩ := rds1 rv
      obtain ⟨pa, ws, rfl, hh⟩ := core (a := .tuple es) (b := true) (xs := es) r rfl
      rw [← hK]
      exact ⟨pa, ws, rfl, hh.1, (Post.step s1 q) _ H1 R1 .refl rs1 hh.2⟩
    · refine .inl ⟨R, env, S, rs, re, q.bind fun ds S1 vs H1 R1 e1 s1 rs1 rv q1 => ?_⟩
      unfold iEnB at q1
      split at q1
      · rename_i a
        split at q1
        · rename_i b xs hx
          obtain ⟨v, rfl, r⟩ := rds1 rv
          obtain ⟨pa, ws, rfl, hh⟩ := core r hx
          cases b with
          | true =>
            cases a <;> cases hx
            exact absurd ⟨_, _, e1⟩ c
          | false =>
            rw [← hK]
            exact ⟨pa, ws, rfl, hh.1, q1 _ H1 R1 .refl rs1 hh.2⟩
        · exact q1.elim
      · exact q1.elim⟩
end
end DL
end
section
set_option maxRecDepth 100000
set_option maxHeartbeats 1000000
/-! DL14: a or b, a and b of any values. -/
namespace DL
open PySem PySem.Spec PyProof.Rows L2
section
variable {X : Cx} {g : G} {W : WY} {a b : Expr} {rest : List Expr} {pos : Pos} {ta tb : TE} {fa fb : EX}
theorem pe_orD (ha : PE X a ta) (hb : PE X (.BoolOp .Or (b :: rest) pos) tb) : PE X (.BoolOp .Or (a :: b :: rest) pos) (fun σ H Q => ta σ H fun x H1 => ∃ k, TruV X.K x H1 k ∧ if k = true then Q x H1 else tb σ H1 Q) := by
  refine ⟨fun pins s σ H Q I h => BoolOp_or (thn (ha.run pins s σ H _ I h) fun v s1 ⟨x, H1, I1, r1, k, tv, q1⟩ => ?_)⟩
  refine thn (tru_ok pins s1 σ H1 x v (fun c H' => if c = true then Q x H' else tb σ H' Q) I1 r1 ⟨k, tv, q1⟩) fun c s2 ⟨H2, I2, q2⟩ => ?_
  cases c with
  | true => exact ⟨x, H2, I2, r1, q2⟩
  | false => exact hb.run pins s2 σ H2 Q I2 q2
theorem pe_andD (ha : PE X a ta) (hb : PE X (.BoolOp .And (b :: rest) pos) tb) : PE X (.BoolOp .And (a :: b :: rest) pos) (fun σ H Q => ta σ H fun x H1 => ∃ k, TruV X.K x H1 k ∧ if k = true then tb σ H1 Q else Q x H1) := by
  refine ⟨fun pins s σ H Q I h => BoolOp_and (thn (ha.run pins s σ H _ I h) fun v s1 ⟨x, H1, I1, r1, k, tv, q1⟩ => ?_)⟩
  refine thn (tru_ok pins s1 σ H1 x v (fun c H' => if c = true then tb σ H' Q else Q x H') I1 r1 ⟨k, tv, q1⟩) fun c s2 ⟨H2, I2, q2⟩ => ?_
  cases c with
  | true => exact hb.run pins s2 σ H2 Q I2 q2
  | false => exact ⟨x, H2, I2, r1, q2⟩
def xOrD (f k : EX) : EX := fun env S => (f env S).bind fun d S1 => (truD d S1).bind fun c S2 => if c = true then .ok d S2 else k env S2
def xAndD (f k : EX) : EX := fun env S => (f env S).bind fun d S1 => (truD d S1).bind fun c S2 => if c = true then k env S2 else .ok d S2
theorem de_orD (ha : DE X g W a fa) (hb : DE X g W (.BoolOp .Or (b :: rest) pos) fb) : DE X g W (.BoolOp .Or (a :: b :: rest) pos) (xOrD fa fb) :=
  ⟨fun hK => (pe_orD (ha.pe hK) (hb.pe hK)).imp fun σ H Q ⟨R, env, S, rs, re, h⟩ => tD_bind rs re h fun d S1 x H1 R1 s1 rs1 re1 rx h1 => by
    rw [← hK]
    refine tru_of (W := wAt W σ) (S := S1) (d := d) (Q := fun k H' => if k = true then Q x H' else tD g W fb σ H' Q) rs1 rx (h1.bind fun c S2 c' H2 R2 e st rs2 pc h2 => ?_)
    have pc : c' = c := pc
    subst pc
    by_cases hc : c' = true
    · rw [if_pos hc] at h2 ⊢
      exact h2 x H2 R2 .refl rs2 (rx.step st)
    · rw [if_neg hc] at h2 ⊢
      exact ⟨R2, env, S2, rs2, re1.step st, h2⟩⟩
theorem de_andD (ha : DE X g W a fa) (hb : DE X g W (.BoolOp .And (b :: rest) pos) fb) : DE X g W (.BoolOp .And (a :: b :: rest) pos) (xAndD fa fb) :=
  ⟨fun hK => (pe_andD (ha.pe hK) (hb.pe hK)).imp fun σ H Q ⟨R, env, S, rs, re, h⟩ => tD_bind rs re h fun d S1 x H1 R1 s1 rs1 re1 rx h1 => by
    rw [← hK]
    refine tru_of (W := wAt W σ) (S := S1) (d := d) (Q := fun k H' => if k = true then tD g W fb σ H' Q else Q x H') rs1 rx (h1.bind fun c S2 c' H2 R2 e st rs2 pc h2 => ?_)
    have pc : c' = c := pc
    subst pc
    by_cases hc : c' = true
    · rw [if_pos hc] at h2 ⊢
      exact ⟨R2, env, S2, rs2, re1.step st, h2⟩
    · rw [if_neg hc] at h2 ⊢
      exact h2 x H2 R2 .refl rs2 (rx.step st)⟩
end
end DL
end
section
set_option maxRecDepth 100000
set_option maxHeartbeats 1000000
/-! DZ5: a tuple turned over, t[::-1]. -/
namespace DL
open PySem PySem.Spec PyProof.Rows L2
section
variable {prog : Program} {w : World} {A : Around} {E : Value → Shared → Prop} {s : Shared}
theorem adjust_rev (n : Nat) : Builtin.Slice.sliceAdjust none none (-1) (n : Int) = ((n : Int) - 1, -1) := by
  unfold Builtin.Slice.sliceAdjust
  rfl
theorem places_rev (n : Nat) : Builtin.Slice.slicePlaces ((n : Int) - 1) (-1) (-1) = n := by
  unfold Builtin.Slice.slicePlaces
  rw [if_neg (by decide), show (- -1 : Int) = 1 from rfl, Int.ediv_one]
  split <;> omega
theorem sliceApplied_rev {sl : Addr} {vs : Value} {n : Nat} {Q : Int × Int × Nat → Shared → Prop} (hs : s.heap.IsSliceOf sl .none .none vs) (ps : IsPart vs (some (-1)))
    (h : Q ((n : Int) - 1, -1, n) s) : wpAny (model prog w) A (Builtin.Slice.sliceApplied (.ref sl) (pure (n : Int))) Q E s := by
  obtain ⟨os, hos, hcs, hds⟩ := id hs
  unfold Builtin.Slice.sliceApplied Builtin.Slice.sliceFields
  refine wpAny_bind (wpAny_bind (wpAny_field hos hds (x := .none) rfl (wpAny_bind (wpAny_field hos hds (x := .none) rfl (wpAny_bind (wpAny_field hos hds (x := vs) rfl (wpAny_pure ?_)))))))
  refine wpAny_bind (HT.slicePart_ ps ?_)
  show wpAny _ _ (if ((-1 : Int) == 0) = true then _ else _) _ _ s
  rw [if_neg (by decide)]
  refine wpAny_bind (HT.slicePart_ .none (wpAny_bind (HT.slicePart_ .none (wpAny_bind (wpAny_pure ?_)))))
  show wpAny _ _ (match Builtin.Slice.sliceAdjust none none (-1) (n : Int) with | (lo, hi) => pure (lo, (-1 : Int), Builtin.Slice.slicePlaces lo hi (-1))) _ _ s
  rw [adjust_rev n]
  show wpAny _ _ (pure ((n : Int) - 1, (-1 : Int), Builtin.Slice.slicePlaces ((n : Int) - 1) (-1) (-1))) _ _ s
  rw [places_rev]
  exact wpAny_pure h
theorem fm_map {α β : Type} (f : α → Option β) (g : α → β) : ∀ l : List α, (∀ m ∈ l, f m = some (g m)) → l.filterMap f = l.map g
  | [], _ => rfl
  | x :: r, h => by rw [List.filterMap_cons_some (h x List.mem_cons_self), fm_map f g r fun m hm => h m (List.mem_cons_of_mem _ hm)]; rfl
theorem pick_rev (xs : Array Value) : ((List.range xs.size).filterMap fun (m : Nat) => xs[((xs.size : Int) - 1 + (m : Int) * (-1)).toNat]?).toArray = xs.toList.reverse.toArray := by
  congr 1
  have e := fm_map (fun (m : Nat) => xs[((xs.size : Int) - 1 + (m : Int) * (-1)).toNat]?) (fun m => xs.toList.reverse.getD m .none) (List.range xs.size) fun m hm => by
    have hm := List.mem_range.mp hm
    have e1 : ((xs.size : Int) - 1 + (m : Int) * (-1)).toNat = xs.size - 1 - m := by omega
    show xs[((xs.size : Int) - 1 + (m : Int) * (-1)).toNat]? = _
    rw [e1, List.getD_eq_getElem?_getD, List.getElem?_reverse (by simpa using hm), Array.length_toList, Array.getElem?_toList, Array.getElem?_eq_getElem (by omega)]
    rfl
  rw [e]
  refine List.ext_getElem? fun i => ?_
  by_cases hi : i < xs.size
  · rw [List.getElem?_map, List.getElem?_range hi, List.getElem?_eq_getElem (by simpa using hi)]
    show some (xs.toList.reverse.getD i .none) = _
    rw [List.getD_eq_getElem?_getD, List.getElem?_eq_getElem (by simpa using hi)]
    rfl
  · rw [List.getElem?_eq_none (by simp; omega), List.getElem?_eq_none (by simp; omega)]
theorem getItem_tuple_rev {t sl : Addr} {items : Array Value} {vs : Value} {Q : Value → Shared → Prop} (ht : IsTup s.heap t items) (hs : s.heap.IsSliceOf sl .none .none vs) (ps : IsPart vs (some (-1)))
    (h : Q (.ref s.heap.objs.size) { s with heap := s.heap.push { cls := .type "tuple", data := .seq items.toList.reverse.toArray } })
    (hsz : items.size ≤ sizeLine) : wpAny (model prog w) A (getItem (.ref t) (.ref sl)) Q E s := by
  have htake : sizeOk (.seq items.toList.reverse.toArray) := by
    show items.toList.reverse.toArray.size ≤ sizeLine
    rw [List.size_toArray, List.length_reverse, Array.length_toList]
    exact hsz
  obtain ⟨os, hos, hcs, hds⟩ := id hs
  have hTs : s.TypeIs (.ref sl) "slice" := ⟨os, hos, hcs⟩
  unfold getItem
  try with_reducible refine wpAny_holding ?_
  first | refine wpAny_bind (wpAny_pure ?_) | skip
  refine wpAny_bind (wpAny_sequenceKey ht.typeIs (by decide) ?_)
  refine wpAny_bind (wpAny_callSpecial?_slot (name := Str.ofString "__getitem__") ht.typeIs PyProof.Rows.slot_tuple_getitem
    (wpAny_call_entry PyProof.Rows.slot_tuple_getitem ht.typeIs entry_tuple_getitem ?_ (args_tuple_getitem _ _)))
  show wpAny _ _ (Builtin.Tuple.tupleItemsOf (.ref t) >>= _) _ _ s
  refine wpAny_bind (tupleItemsOf_ ht ?_)
  refine wpAny_bind (wpAny_typeOf hTs ?_)
  rw [if_pos (by decide)]
  refine wpAny_bind (sliceApplied_rev hs ps ?_)
  have hno : ¬ ((((items.size : Int) - 1) == 0 && (-1 : Int) == 1 && items.size == items.size) = true) := by
    intro q
    rw [Bool.and_eq_true, Bool.and_eq_true] at q
    exact absurd q.1.2 (by decide)
  show wpAny _ _ (if (((items.size : Int) - 1) == 0 && (-1 : Int) == 1 && items.size == items.size) = true then _ else _) _ _ s
  rw [if_neg hno, pick_rev]
  first
    | exact wpAny_bind (m := Builtin.Tuple.tupleExact _) (wpAny_newObj_type (wpAny_pure ⟨_, rfl, wpAny_pure h⟩) htake)
    | exact wpAny_bind (m := Builtin.Tuple.tupleExact _) (wpAny_newObj_type (wpAny_bind (wpAny_pure (wpAny_pure ⟨_, rfl, wpAny_pure h⟩))) htake)
    | exact wpAny_bind (wpAny_bind (m := Builtin.Tuple.tupleExact _) (wpAny_newObj_type (wpAny_pure (wpAny_pure ⟨_, rfl, wpAny_pure h⟩)) htake))
    | exact wpAny_bind (wpAny_bind (m := Builtin.Tuple.tupleExact _) (wpAny_newObj_type (wpAny_pure ⟨_, rfl, wpAny_pure h⟩) htake))
end
section
variable {X : Cx} {g : G} {W : WY} {e st : Expr} {te : TE} {ts : TO} {p2 pos : Pos}
def tRv (K : PySem.W.Frag) (te : TE) (ts : TO) : TE := fun σ H Q => te σ H fun x H1 => ts σ H1 fun st H2 => st = some (-1) ∧ ∃ a xs, x = .ref a ∧ ((SqT K H2 a xs ∧ ∃ c, ∀ p u, H2 p = none → Fz c xs.reverse u → Q (.ref p) (upd H2 p u)) ∨ (SqL K H2 a xs ∧ ∀ p, H2 p = none → Q (.ref p) (upd H2 p (.lst xs.reverse))))
theorem pe_rv (he : PE X e te) (hs : PO X (some st) ts) : PE X (.Subscript e (.Slice none none (some st) p2) pos) (tRv X.K te ts) := by
  refine ⟨fun pins s σ H Q I h => ?_⟩
  refine Subscript_ (thn (he.run pins s σ H _ I h) fun v s1 ⟨x, H1, I1, r1, q1⟩ => ?_)
  refine wpAny_Slice ?_
  rw [evalPart_none]
  refine wpAny_pure ?_
  refine wpAny_pure ?_
  refine thn (hs.run pins s1 σ H1 _ I1 q1) fun vs s3 ⟨u, H3, I3, pu, q3⟩ => ?_
  obtain ⟨rfl, a, xs, rfl, q3⟩ := q3
  cases r1
  obtain ⟨s4, hs4⟩ : ∃ s4 : Shared, s4 = { s3 with heap := s3.heap.push { cls := .type "slice", data := .fields #[.none, .none, vs] } } := ⟨_, rfl⟩
  have I4 : Inv X pins σ H3 { s3 with heap := s3.heap.push { cls := .type "slice", data := .fields #[.none, .none, vs] } } := I3.kept (t' := s3.toks) fun b ob q => Heap.get?_push_of_some _ q
  rcases q3 with ⟨hx, c, q⟩ | ⟨hx, q⟩
  case inr =>
    obtain ⟨its, r, ht, hz⟩ := I4.list hx
    have hlen := r.length
    show wpAny (model X.prog X.w) X.A (subscriptTail e (.Slice none none (some st) p2) (.ref a) (.ref s3.heap.objs.size)) (EP X pins σ Q) X.xe { s3 with heap := s3.heap.push { cls := .type "slice", data := .fields #[.none, .none, vs] } }
    refine tail_any (ops := [.ref a, .ref s3.heap.objs.size]) ht.isList.typeIs PySem.slot_list_getitem.lookup ?_ (by with_unfolding_all rfl)
    refine wpAny_getItem_list_slice ht.isList (Heap.IsSliceOf.new _ .none .none vs) .none .none pu (by decide) ?_ (by rw [List.size_toArray]; omega)
    rw [PySem.W.krv_pick]
    refine ⟨.ref _, _, I4.laid (t' := s3.toks) (o := .lst xs.reverse) (fun b ob q => Heap.get?_push_of_some _ q) (Nat.le_refl _) ?_, rfl, q _ (I4.hok.fresh (Nat.le_refl _))⟩
    exact ⟨by rw [List.length_reverse]; exact hz, _, 0, r.reverse, Heap.get?_push_size _ rfl⟩
  obtain ⟨its, r, ht, hz⟩ := I4.tuple hx
  have hlen : its.toArray.size = xs.length := by rw [List.size_toArray]; exact r.length.symm
  show wpAny (model X.prog X.w) X.A (subscriptTail e (.Slice none none (some st) p2) (.ref a) (.ref s3.heap.objs.size)) (EP X pins σ Q) X.xe { s3 with heap := s3.heap.push { cls := .type "slice", data := .fields #[.none, .none, vs] } }
  refine tail_any (ops := [.ref a, .ref s3.heap.objs.size]) ht.typeIs PyProof.Rows.slot_tuple_getitem.lookup ?_ (by with_unfolding_all rfl)
  refine getItem_tuple_rev ht (Heap.IsSliceOf.new ..) pu ?_ (by rw [hlen]; exact hz)
  exact laidT I4 c (xs := xs.reverse) r.reverse (by rw [List.length_reverse]; exact hz) q s3.toks
def dRv (x : D) (st : Option Int) (S : Sto) : Res D := match x with
  | .py (.tuple ds) => if st = some (-1) then .ok (dT ds.reverse) S else .bad
  | .py (.list ds) => if st = some (-1) then .ok (dL ds.reverse) S else .bad
  | _ => .bad
def xRv (f : EX) (s : OX) : EX := fun env S => (f env S).bind fun d S1 => (s env S1).bind fun st S2 => dRv d st S2
theorem de_rv {f : EX} {o : OX} (he : DE X g W e f) (hs : DO X g W (some st) o) : DE X g W (.Subscript e (.Slice none none (some st) p2) pos) (xRv f o) :=
  ⟨fun hK => (pe_rv (he.pe hK) (hs.po hK)).imp fun σ H Q ⟨R, env, S, rs, re, h⟩ => tD_bind rs re h fun d S1 x H1 R1 s1 rs1 re1 rx h1 =>
    ⟨R1, env, S1, rs1, re1, h1.bind fun st S2 st' H2 R2 _ s2 rs2 p2 h2 => by
      have e2 : st' = st := p2
      subst e2
      have rx := rx.step s2
      unfold dRv at h2
      split at h2
      · split at h2
        · rename_i hst
          cases rx with
          | tup h1 n1 k1 => exact ⟨hst, _, _, rfl, .inl ⟨h1.sq, tup_new rs2 k1.reverse h2⟩⟩
        · exact h2.elim
      · split at h2
        · rename_i hst
          cases rx with
          | lst h1 n1 k1 => exact ⟨hst, _, _, rfl, .inr ⟨SqL.of h1, lst_new rs2 k1.reverse h2⟩⟩
        · exact h2.elim
      · exact h2.elim⟩⟩
end
end DL
end
section
set_option maxRecDepth 100000
set_option maxHeartbeats 1000000
/-! DZ6: rows that are never reached; try around a body that raises nothing. -/
namespace DL
open PySem PySem.Spec PyProof.Rows L2
section
variable {X : Cx} {g : G} {W : WY} {st : Stmt} {body : List Stmt} {h₀ : ExceptHandler} {hs : List ExceptHandler} {pos : Pos} {m : SX}
/-- a row that is never reached -/
def xDead : SX := fun _ _ => .bad
theorem ds_dead : DSt X g W st xDead := ⟨fun _ => ⟨fun pins s σ H D I ⟨R, env, S, rs, re, h⟩ => h.elim⟩⟩
theorem ds_try (hb : DSs X.nox g W body m) : DSt X g W (.Try body (h₀ :: hs) [] [] pos) m := ⟨fun hK => ps_try_thru0 (hb.pss hK)⟩
theorem op_isnotB : OpR X (compareOp .IsNot) (fun x y H Q => ∃ a b, x = .bl a ∧ y = .bl b ∧ Q (.bl (!(a == b))) H) := by
  intro pins s σ H x y v u Q I rx ry h
  obtain ⟨a, b, rfl, rfl, q⟩ := h
  cases rx
  cases ry
  have e : isSame (Value.bool a) (Value.bool b) = pure (a == b) := by cases a <;> cases b <;> rfl
  show wpAny _ _ ((isSame (Value.bool a) (Value.bool b)) >>= fun z => pure (Value.bool (!z))) _ _ s
  rw [e]
  exact wpAny_bind (wpAny_pure (wpAny_pure (fin_bl I q rfl)))
/-- a bool is not a bool -/
def dIsNotB : Op2 := fun x y S => match x with
  | .py (.bool a) => (match y with
    | .py (.bool b) => .ok (dB (!(a == b))) S
    | _ => .bad)
  | _ => .bad
theorem opIsNotB : Op X g (compareOp .IsNot) dIsNotB := ⟨fun hK => ⟨_, op_isnotB, fun W R S H x y d e Q rs rx ry h => by
  unfold dIsNotB at h
  split at h
  · split at h
    · cases rx
      cases ry
      exact ⟨_, _, rfl, rfl, post_now rs (RD.bl _) h⟩
    · exact h.elim
  · exact h.elim⟩⟩
end
end DL
end
section
set_option maxRecDepth 100000
set_option maxHeartbeats 1000000
/-! DZ7: dicts written out, defs under another name. -/
namespace DL
open PySem PySem.Spec PyProof.Rows L2
section
variable {X : Cx} {g : G} {W : WY} {pos : Pos}
/-- {} as a value that never changes -/
def xDic0 : EX := fun _ S => .ok (.py (.dict [])) S
theorem de_dic0 : DE X g W (.Dict [] [] pos) xDic0 :=
  ⟨fun _ => pe_dnewK.imp fun _ _ _ ⟨R, _, _, rs, _, h⟩ p hp => h _ _ R (Stp.laid rs hp) (rs.laid hp) (.dic upd_same (rs.fresh hp) .nil)⟩
/-- a text and a number -/
def xDic1 (k : Str) (i : Int) : EX := fun _ S => .ok (.py (.dict [(.str k, .int i)])) S
theorem de_dic1 {k : Str} {i : Int} {n1 n2 : Nat} {p1 p2 : Pos} : DE X g W (.Dict [some (.Constant (.str k) n1 p1)] [.Constant (.int i) n2 p2] pos) (xDic1 k i) :=
  ⟨fun _ => (pe_disp (pps_cons pe_str pe_int pps_nil) rfl rfl (by simp) (by simp)).imp fun _ H _ ⟨R, _, _, rs, _, h⟩ p hp =>
    ⟨upd_same, [(.inr k, .int i)], rfl, by simp, by
      rw [upd_upd]
      exact h _ _ R (Stp.laid rs hp) (rs.laid hp) (.dic upd_same (rs.fresh hp) (.cons (k := .inr k) (.int i) .nil))⟩⟩
end
/-- two lists put together into one that is stored into later -/
def dAddM : Op2 := fun x y S => match seqR S x, seqR S y with
  | some (false, xs), some (false, ys) => if xs.length + ys.length ≤ 1000000 then .ok (.loc S.length) (S ++ [.lst (xs ++ ys)]) else .bad
  | _, _ => .bad
theorem opAddM {X : Cx} {g : G} : Op X g (binaryOp .Add) dAddM := ⟨fun _ => ⟨_, op_cat, fun W R S H x y d e Q rs rx ry h => by
  unfold dAddM at h
  split at h
  · rename_i xs ys ex ey
    split at h
    · obtain ⟨a, vs, rfl, ra, ha⟩ := seqR_ok rs rx ex
      obtain ⟨b, ws, rfl, rb, hb⟩ := seqR_ok rs ry ey
      exact ⟨a, b, vs, ws, rfl, rfl, ha, hb, by rw [ra.len, rb.len]; exact Nat.le_trans (by assumption) line_ok, loc_new rs (ra.append rb) (by rw [List.length_append]; exact Nat.le_trans (by assumption) line_ok) h⟩
    · exact h.elim
  · exact h.elim⟩⟩
/-- a def of the text behind the top that stands under another name, too -/
structure FunAl (K : PySem.W.Frag) (mg : Str → Option Value) (x y : Str) (st : Stmt) (ps : List Str) : Prop where
  ex : ∃ (f : Addr) (fd : FuncData), Fun K y y st f fd ∧ mg x = some (.ref f) ∧ Binds K fd ps []
section
variable {P : Program} {w : World} {K : PySem.W.Frag} {mg : Str → Option Value} {base : Heap} {h : Heap}
theorem cal_al {g : G} {m : SX} {x y : Str} {st : Stmt} {N ps : List Str} {k : Nat} (hK : g.K = K) (F : FunAl K mg x y st ps) (S : FnScope N ps (defScope st))
    (hb : ∀ (f : Addr) (cdv : Value) (A : Around) (outer : List Env) (s : Shared) (H : Hp) (E : XK), A.guards = some [] → Room k (A.deeper (envOfC y (defScope st) s.heap.objs.size f cdv)) →
      DSs (cxOf CX0 P w K mg base N y (defScope st) f cdv A outer s H E).nox g noW (defBody st) m) : Cal P w K mg base g (k + 1) ps.length x (xBody N.length m) := by
  obtain ⟨f, fd, F, hm, b⟩ := F.ex
  exact ⟨f, fd, ps, fun_okD hK F S (hb f), hm, F.kp, b⟩
theorem funAl_of {x y : Str} {st : Stmt} {ps : List Str} {f : Addr} {oc : Value} {od an : Option Addr} {osl : Array (Option Value)} {kV doc pm cdv ct : Value} (G : h.Ns mainGlobals mg) (X : K.In h) (a : PySem.W.nsIn K mainGlobals x = some (some (.ref f)))
    (l : K.lookup f = some ⟨oc, od, .func (PySem.W.fnOf y y (defArgs st) (defBody st) (defScope st) .none kV doc pm an cdv ct), osl⟩) (c : PySem.W.codeIn K cdv y = true) (k : PySem.W.keepIn K (.ref f) = true)
    (hb : ∀ (kV doc pm : Value) (an : Option Addr) (cdv ct : Value) (us : List Value), us.length = ps.length → bindArgs (PySem.W.fnOf y y (defArgs st) (defBody st) (defScope st) .none kV doc pm an cdv ct) ⟨us, []⟩ = pure (ps.zip us)) : FunAl K mg x y st ps :=
  have F := fun_mk (st := st) l c k
  ⟨⟨f, _, F, PySem.W.mg_of X G a, F.binds hb⟩⟩
end
end DL
end
section
set_option maxRecDepth 100000
set_option maxHeartbeats 1000000
/-! DZ8: dict(a tuple of pairs of numbers), dict(a list of pairs). -/
namespace DL
open PySem PySem.Spec PyProof.Rows L2
/-- the pairs' heads as addresses by place -/
def adr (ps : List Addr) (j : Nat) : Addr := (ps[j]?).getD 0
theorem pairItems_of {h : Heap} : ∀ {ps : List Addr} {prs : List (Key × Value)}, prs.length = ps.length → (∀ (j : Nat) (q : Key × Value), prs[j]? = some q → ∃ (b : Addr) (u : Value), ps[j]? = some b ∧ IsTup h b #[u, q.2] ∧ keyIs q.1 u = true) →
    ∃ kv : List (Value × Value), kv.length = ps.length ∧ PairItems h (ps.map Value.ref).toArray (adr ps) kv ∧ ∀ (i : Nat) (a b : Value), kv[i]? = some (a, b) → ∃ k, prs[i]? = some (k, b) ∧ keyIs k a = true := by
  intro ps prs hl hp
  have pick : ∀ j : Fin prs.length, ∃ u : Value, ∃ b, ps[j.1]? = some b ∧ IsTup h b #[u, prs[j.1].2] ∧ keyIs prs[j.1].1 u = true := fun j => by
    obtain ⟨b, u, e1, e2, e3⟩ := hp j.1 prs[j.1] (List.getElem?_eq_getElem j.2)
    exact ⟨u, b, e1, e2, e3⟩
  have ch := fun j => Classical.choose_spec (pick j)
  refine ⟨List.ofFn fun j : Fin prs.length => (Classical.choose (pick j), prs[j.1].2), by rw [List.length_ofFn, hl], ⟨by simp [hl], fun j k v e => ?_⟩, fun i a b e => ?_⟩
  · rw [List.getElem?_ofFn] at e
    split at e
    · rename_i hj
      obtain ⟨c, e1, ⟨o, g1, g2, n, g3⟩, e3⟩ := ch ⟨j, hj⟩
      cases e
      have ea : adr ps j = c := by unfold adr; rw [e1]; rfl
      rw [ea]
      exact ⟨by simp [e1], .inl ⟨o, g1, g2, n, g3⟩⟩
    · cases e
  · rw [List.getElem?_ofFn] at e
    split at e
    · rename_i hj
      obtain ⟨c, e1, e2, e3⟩ := ch ⟨i, hj⟩
      cases e
      exact ⟨_, List.getElem?_eq_getElem hj, e3⟩
    · cases e
section
variable {X : Cx} {g : G} {W : WY} {e : Expr} {es : List Expr} {pos p : Pos} {ka : AX}
theorem call_dicT (hc : X.calm = true) : CallR X (.type "dict") (fun xs H Q => ∃ (a : Addr) (o : Obj) (ps : List Addr) (kvs : List (Key × V)), xs = [.ref a] ∧ o.dict = none ∧ H a = some (.frz o (.tup (ps.map V.ref))) ∧ Paired (fun p kv => SqT X.K H p [kV kv.1, kv.2]) ps kvs ∧
    ∀ l, H l = none → Q (.ref l) (upd H l (.dK (mergeK [] kvs)))) := by
  rintro pins s σ H xs us Q I r ⟨a, o, ps, kvs, rfl, od, fz, pp, q⟩
  obtain ⟨u, rfl, ru⟩ := vals1 r
  cases ru
  obtain ⟨oh, len, its, rv, o2, e2, c2, n, d2⟩ := I.hok a _ fz
  rw [oh] at e2
  cases e2
  have ei := refs_at rv
  subst ei
  rw [List.length_map] at len
  obtain ⟨prs, rel, pl, pr⟩ := pairs_of I pp
  obtain ⟨kv, kl, items, back⟩ := pairItems_of pl pr
  refine PySem.call_dict_pairs (knd := mixKind X.prog X.w) (kvs := prs) (PairArg.tuple a _ (adr ps) kv) (I.ok.hd hc) ⟨⟨o, n, oh, c2, od, d2⟩, items⟩ ⟨by rw [kl, pl], fun i x y e => ?_⟩ (by rw [kl]; exact len) fun h' tk hd' kp => ?_
  · obtain ⟨k, e1, e2⟩ := back i x y e
    exact ⟨k, e1, e2⟩
  · have big : (s.heap.objs.size == sysModules) = false := beq_eq_false_iff_ne.mpr (Nat.ne_of_gt I.big)
    have short : (mergeK [] kvs).length ≤ sizeLine := by
      have := length_mergeK kvs []
      have := rel.length
      simp at *
      omega
    exact ⟨.ref s.heap.objs.size, _, I.laid (t' := tk) (o := .dK (mergeK [] kvs)) (fun b ob z => kp b ob (fun w => nomatch w) z) (Nat.le_refl _) ⟨short, big, merged [] prs, KV.merge rel .nil, hd'⟩, rfl, q _ (I.hok.fresh (Nat.le_refl _))⟩
/-- dict(t), t a tuple of pairs of numbers or a list of pairs -/
def fDicT : FX := fun ds S => match ds with
  | [.py (.tuple es)] => if prsB es = true then (match kPairs es with
    | some kvs => .ok (.py (dicP (mergeG [] kvs))) S
    | none => .bad) else .bad
  | [.py (.list es)] => (match kPairs es with
    | some kvs => .ok (.py (dicP (mergeG [] kvs))) S
    | none => .bad)
  | _ => .bad
theorem dic_new {R : RR} {S : Sto} {H : Hp} {W : XK} {kvs : List (Key × V)} {me : List (Key × PyData)} {Q : VK} (rs : RS g R S H) (r : RKp g.K R H kvs me) (h : Post g W R H (PV g) (.ok (.py (dicP (mergeG [] me))) S) Q) : ∀ l, H l = none → Q (.ref l) (upd H l (.dK (mergeK [] kvs))) :=
  fun l hl => h _ _ R (Stp.laid rs hl) (rs.laid hl) (Rp.dic upd_same (rs.fresh hl) (RpKv.step (Stp.laid rs hl) (RKp.kv (RKp.merge r .nil))))
theorem cbDicT (hc : X.calm = true) : CB X g (.type "dict") fDicT := ⟨fun hK => ⟨_, (call_dicT hc).or (call_dictP hc), fun W R S H vs ds Q rs rv h => by
  unfold fDicT at h
  split at h
  · split at h
    · rename_i hb
      split at h
      · rename_i kvs hk
        obtain ⟨v, rfl, r⟩ := rds1 rv
        cases r with
        | tup h1 n1 k1 =>
          obtain ⟨o, od, fz⟩ := h1.frz hb
          obtain ⟨ps, kv, rfl, pp, rk⟩ := kPairs_ok k1 hk
          rw [hK] at pp
          exact .inl ⟨_, o, ps, kv, rfl, od, fz, pp, dic_new rs rk h⟩
      · exact h.elim
    · exact h.elim
  · split at h
    · rename_i kvs hk
      obtain ⟨v, rfl, r⟩ := rds1 rv
      cases r with
      | lst h1 n1 k1 =>
        obtain ⟨ps, kv, rfl, pp, rk⟩ := kPairs_ok k1 hk
        rw [hK] at pp
        exact .inr ⟨_, ps, kv, rfl, SqL.of h1, pp, dic_new rs rk h⟩
    · exact h.elim
  · exact h.elim⟩⟩
theorem dcDict (hc : X.calm = true) (hm : X.mg "dict" = none) (ha : DA X g W (e :: es) ka) (hg : Gl X "dict" := by rfl) (he : starEach (e :: es) X.env = (false, eval e X.env) :: starEach es X.env := by rfl) (hpl : (backTo pos (starEach es X.env)).any (·.1) = false := by rfl) : DE X g W (.Call (.Name "dict" p) (e :: es) [] pos) (xCB fDicT ka) := de_callTy (cbDicT hc) hg hm (by decide +kernel) ha (he := he) (hpl := hpl)
/-- range(i, j) in list(..) -/
def fRgL2 : FX := fun ds S => match ds with
  | [.py (.int i), .py (.int j)] => if -1000000 ≤ i ∧ i ≤ 1000000 ∧ -1000000 ≤ j ∧ j ≤ 1000000 ∧ j - i ≤ 1000000 then .ok (dL ((rgI i j).map .int)) S else .bad
  | _ => .bad
def fRgM2 : FX := fun ds S => match ds with
  | [.py (.int i), .py (.int j)] => if -1000000 ≤ i ∧ i ≤ 1000000 ∧ -1000000 ≤ j ∧ j ≤ 1000000 ∧ j - i ≤ 1000000 then .ok (.loc S.length) (S ++ [.lst ((rgI i j).map fun i => .py (.int i))]) else .bad
  | _ => .bad
theorem tRgB {fa fb : EX} {σ : L2.St} {H : Hp} {Q : VK} {o : FX} (h : tD g W (xCB o (xCons fa (xCons fb xNil))) σ H Q) (Q' : Int → Int → Hp → Prop)
    (n : ∀ c d S v w H' R, RS g R S H' → RD g.K R H' v c → RD g.K R H' w d → Post g (wAt W σ) R H' (PV g) (o [c, d] S) Q → ∃ i j, v = .int i ∧ w = .int j ∧ Q' i j H') : tRg2 (tD g W fa) (tD g W fb) σ H Q' := by
  obtain ⟨R, env, S, rs, re, h⟩ := h
  have e : xCB o (xCons fa (xCons fb xNil)) env S = (fa env S).bind fun c S1 => (fb env S1).bind fun d S2 => o [c, d] S2 := by
    unfold xCB xCons xNil
    cases fa env S with
    | ok c S1 =>
      simp only [bind_ok]
      cases fb env S1 <;> rfl
    | exc x S1 => rfl
    | bad => rfl
  rw [e] at h
  exact tD_bind rs re h fun c S1 x H1 R1 s1 rs1 re1 rx h1 => tD_bind rs1 re1 h1 fun d S2 y H2 R2 s2 rs2 re2 ry h2 => n c d S2 x y H2 R2 rs2 (rx.step s2) ry h2
section
variable {a b : Expr} {fa fb : EX} {p2 q : Pos}
theorem de_rgL2 (hc : X.calm = true) (hg : Gl X "list") (hm : X.mg "list" = none) (hg2 : Gl X "range") (hm2 : X.mg "range" = none) (ha : DE X g W a fa) (hb : DE X g W b fb)
    (na : starEach [a, b] X.env = (false, eval a X.env) :: starEach [b] X.env := by rfl) (nb : starEach [b] X.env = (false, eval b X.env) :: starEach [] X.env := by rfl) (hp : (backTo q (starEach [b] X.env)).any (·.1) = false := by rfl)
    (n1 : starEach [Expr.Call (.Name "range" p2) [a, b] [] q] X.env = (false, eval (Expr.Call (.Name "range" p2) [a, b] [] q) X.env) :: starEach [] X.env := by rfl) :
    DE X g W (.Call (.Name "list" p) [.Call (.Name "range" p2) [a, b] [] q] [] pos) (xCB fRgL2 (xCons fa (xCons fb xNil))) :=
  ⟨fun hK => (pe_listRg hc hg hm (prg_2 hg2 hm2 (ha.pe hK) (hb.pe hK) na nb hp) n1).imp fun σ H Q h => tRgB h _ fun c d S v w H' R rs r1 r2 h => by
    unfold fRgL2 at h
    split at h
    · rename_i i j qq
      cases qq
      split at h
      · cases r1
        cases r2
        exact ⟨_, _, rfl, rfl, ⟨by omega, by omega, by omega, by omega, by omega⟩, fun q hq => by
          rw [rgV_eq]
          exact lst_new rs (RpAll.ints _) h q hq⟩
      · exact h.elim
    · exact h.elim⟩
theorem de_rgM2 (hc : X.calm = true) (hg : Gl X "list") (hm : X.mg "list" = none) (hg2 : Gl X "range") (hm2 : X.mg "range" = none) (ha : DE X g W a fa) (hb : DE X g W b fb)
    (na : starEach [a, b] X.env = (false, eval a X.env) :: starEach [b] X.env := by rfl) (nb : starEach [b] X.env = (false, eval b X.env) :: starEach [] X.env := by rfl) (hp : (backTo q (starEach [b] X.env)).any (·.1) = false := by rfl)
    (n1 : starEach [Expr.Call (.Name "range" p2) [a, b] [] q] X.env = (false, eval (Expr.Call (.Name "range" p2) [a, b] [] q) X.env) :: starEach [] X.env := by rfl) :
    DE X g W (.Call (.Name "list" p) [.Call (.Name "range" p2) [a, b] [] q] [] pos) (xCB fRgM2 (xCons fa (xCons fb xNil))) :=
  ⟨fun hK => (pe_listRg hc hg hm (prg_2 hg2 hm2 (ha.pe hK) (hb.pe hK) na nb hp) n1).imp fun σ H Q h => tRgB h _ fun c d S v w H' R rs r1 r2 h => by
    unfold fRgM2 at h
    split at h
    · rename_i i j qq
      cases qq
      split at h
      · cases r1
        cases r2
        exact ⟨_, _, rfl, rfl, ⟨by omega, by omega, by omega, by omega, by omega⟩, fun q hq => by
          rw [rgV_eq]
          exact loc_new rs (ints_rds _) (by rw [List.length_map, rgI_len]; exact Nat.le_trans (by omega) line_ok) h q hq⟩
      · exact h.elim
    · exact h.elim⟩
end
end
end DL
end
section
set_option maxRecDepth 100000
namespace QQ
open PySem PySem.Spec PyProof.Rows L2 DL
/-- _law_deck: 0 _law_script, 1 _law_cell -/
noncomputable def m_deck : SX := (xRet (xMut (xCons (xCompM (xIt (xSl (xV 0) xNoPart (xPart (xC (.int 63))))) (.nm 1) xYes (xCB fAbs (xCons (xV 1) xNil)) [1]) (xCons (xC (.int 0)) xNil))))
noncomputable def f_deck : FX := shutF (xTrim (xBody 2 m_deck))
/-- _law_draw: 0 _law_deck_here, 1 _law_limit, 2 _law_cell, 3 _law_index -/
noncomputable def m_draw : SX := (xSeq (xStore (xV 0) (xC (.int 1)) (xBin dAdd (xBin dIxD (xV 0) (xC (.int 1))) (xC (.int 1)))) (xSeq (xAsg (.tp [(.nm 2), (.nm 3)]) (xTup (xCons (xC (.int 0)) (xCons (xNeg (xC (.int 1))) xNil)))) (xSeq (xIfS (xT (xBin dGt (xCB fLen (xCons (xBin dIxD (xV 0) (xC (.int 0))) xNil)) (xC (.int 0)))) (xSeq (xSet 3 (xBin dMod (xBin dIxD (xV 0) (xC (.int 1))) (xCB fLen (xCons (xBin dIxD (xV 0) (xC (.int 0))) xNil)))) (xSet 2 (xBin dIxD (xBin dIxD (xV 0) (xC (.int 0))) (xV 3)))) xPass) (xSeq (xIfS (xT (xBin dGe (xV 2) (xBin dPow (xC (.int 10)) (xC (.int 18))))) (xSeq (xStore (xBin dIxD (xV 0) (xC (.int 0))) (xV 3) (xBin dDiv (xV 2) (xV 1))) (xRet (xBin dMod (xV 2) (xV 1)))) xPass) (xRet (xBin dMod (xBin dDiv (xBin dMod (xBin dPow (xBin dAdd (xBin dAdd (xBin dMod (xV 2) (xC (.int 2147483587))) (xBin dMul (xC (.int 7919)) (xBin dIxD (xV 0) (xC (.int 1))))) (xC (.int 1))) (xC (.int 5))) (xC (.int 2147483647))) (xC (.int 7))) (xV 1)))))))
noncomputable def f_draw : FX := shutF (xTrim (xBody 4 m_draw))
/-- _law_distinct: 0 _law_deck_here, 1 _law_m, 2 _law_many, 3 _law_left, 4 _law_k -/
noncomputable def m_distinct : SX := (xSeq (xSet 3 (xCB fRgM (xCons (xV 1) xNil))) (xRet (xCB fSort (xCons (xComp (xRg1 (xCons (xV 2) xNil)) (.nm 4) xYes (xBM "list" mPopAt (xV 3) (xCons (xCall 2 f_draw (xCons (xV 0) (xCons (xCB fLen (xCons (xV 3) xNil)) xNil))) xNil)) [4]) xNil))))
noncomputable def f_distinct : FX := shutF (xTrim (xBody 5 m_distinct))
/-- _law_places: 0 _law_deck_here, 1 _law_m, 2 _law_way, 3 _law_begin, 4 _law_many, 5 _law_step, 6 _law_k -/
noncomputable def m_places : SX := (xSeq (xAsg (.tp [(.nm 2), (.nm 3)]) (xTup (xCons (xCall 2 f_draw (xCons (xV 0) (xCons (xC (.int 5)) xNil))) (xCons (xCall 2 f_draw (xCons (xV 0) (xCons (xV 1) xNil))) xNil)))) (xSeq (xSet 4 (xBin dAdd (xC (.int 1)) (xCall 2 f_draw (xCons (xV 0) (xCons (xV 1) xNil))))) (xSeq (xIfS (xT (xBin dLt (xV 2) (xC (.int 2)))) (xRet (xCB fTuple (xCons (xCall 3 f_distinct (xCons (xV 0) (xCons (xV 1) (xCons (xBin dIxD (xLst (xCons (xV 4) (xCons (xCB fMin2 (xCons (xV 1) (xCons (xC (.int 3)) xNil))) xNil))) (xV 2)) xNil)))) xNil))) xPass) (xSeq (xIfS (xT (xBin dEq (xV 2) (xC (.int 2)))) (xRet (xCB fRgT (xCons (xV 1) xNil))) xPass) (xSeq (xSet 5 (xBin dAdd (xC (.int 1)) (xBin dMul (xCB fInt (xCons (xBin dEq (xV 2) (xC (.int 4))) xNil)) (xCall 2 f_draw (xCons (xV 0) (xCons (xC (.int 4)) xNil)))))) (xRet (xCB fTuple (xCons (xCB fSSet (xCons (xComp (xRg1 (xCons (xV 4) xNil)) (.nm 6) xYes (xBin dMod (xBin dAdd (xV 3) (xBin dMul (xV 5) (xV 6))) (xV 1)) [6]) xNil)) xNil))))))))
noncomputable def f_places : FX := shutF (xTrim (xBody 7 m_places))
/-- _law_spread: 0 _law_m, 1 _law_places_here, 2 _law_begin, 3 _law_place -/
noncomputable def m_spread : SX := (xRet (xCB fMin (xCons (xComp (xRg1 (xCons (xV 0) xNil)) (.nm 2) xYes (xBin dAdd (xCB fMax (xCons (xComp (xIt (xV 1)) (.nm 3) xYes (xBin dMod (xBin dSub (xV 3) (xV 2)) (xV 0)) [3]) xNil)) (xC (.int 1))) [2]) xNil)))
noncomputable def f_spread : FX := shutF (xTrim (xBody 4 m_spread))
/-- _law_same: 0 _law_value, 1 _law_due -/
noncomputable def m_same : SX := (xRet (xBin dEq (xCB fRepr (xCons (xV 0) xNil)) (xCB fRepr (xCons (xV 1) xNil))))
noncomputable def f_same : FX := shutF (xTrim (xBody 2 m_same))
/-- spread_of: 0 m, 1 places, 2 following, 3 place, 4 after -/
noncomputable def m_spread_of : SX := (xSeq (xSet 2 (xBin dAdd (xSl (xV 1) (xPart (xC (.int 1))) xNoPart) (xTup (xCons (xBin dAdd (xBin dIxD (xV 1) (xC (.int 0))) (xV 0)) xNil)))) (xRet (xBin dSub (xBin dAdd (xV 0) (xC (.int 1))) (xCB fMax (xCons (xComp (xZip (xCons (xV 1) (xCons (xV 2) xNil))) (.tp [(.nm 3), (.nm 4)]) xYes (xBin dSub (xV 4) (xV 3)) [3, 4]) xNil)))))
noncomputable def f_spread_of : FX := shutF (xTrim (xBody 5 m_spread_of))
/-- _law_tool: 0 _law_deck_here, 1 _law_m, 2 _law_steps, 3 _law_d, 4 _law_many, 5 _law_begins, 6 _law_targets, 7 _law_found, 8 _law_shift, 9 _law_block, 10 _law_k -/
noncomputable def m_tool_l1 : SX := (xDrop (xBM "list" mAppend (xV 7) (xCons (xTup (xCons (xBin dAdd (xV 9) (xBin dIxD (xV 5) (xV 10))) (xCons (xBin dMod (xBin dAdd (xBin dAdd (xV 9) (xBin dIxD (xV 6) (xV 10))) (xV 8)) (xV 1)) xNil))) xNil)))
noncomputable def m_tool_l2 : SX := (xFor (xRg1 (xCons (xV 4) xNil)) (.nm 10) m_tool_l1)
noncomputable def m_tool : SX := (xSeq (xSet 2 (xComp (xRg2 (xCons (xC (.int 1)) (xCons (xBin dAdd (xV 1) (xC (.int 1))) xNil))) (.nm 3) (xAndT (xT (xBin dEq (xBin dMod (xV 1) (xV 3)) (xC (.int 0)))) (xT (xBin dLt (xBin dDiv (xV 1) (xV 3)) (xC (.int 13))))) (xV 3) [3])) (xSeq (xSet 3 (xBin dIxD (xLst (xCons (xV 1) (xCons (xBin dIxD (xV 2) (xCall 2 f_draw (xCons (xV 0) (xCons (xCB fLen (xCons (xV 2) xNil)) xNil)))) xNil))) (xCall 2 f_draw (xCons (xV 0) (xCons (xC (.int 2)) xNil))))) (xSeq (xSet 4 (xBin dAdd (xC (.int 1)) (xCall 2 f_draw (xCons (xV 0) (xCons (xCB fMin2 (xCons (xV 3) (xCons (xBin dDiv (xBin dMul (xC (.int 12)) (xV 3)) (xV 1)) xNil))) xNil))))) (xSeq (xPar3 5 6 7 (xCons (xCall 3 f_distinct (xCons (xV 0) (xCons (xV 3) (xCons (xV 4) xNil)))) (xCons (xCall 3 f_distinct (xCons (xV 0) (xCons (xV 3) (xCons (xV 4) xNil)))) (xCons (xMut xNil) xNil)))) (xSeq (xSet 8 (xCall 2 f_draw (xCons (xV 0) (xCons (xV 1) xNil)))) (xSeq (xFor (xRg3 (xCons (xC (.int 0)) (xCons (xV 1) (xCons (xV 3) xNil)))) (.nm 9) m_tool_l2) (xRet (xIf (xT (xBin dGt (xCB fLen (xCons (xV 7) xNil)) (xC (.int 1)))) (xCB fTuple (xCons (xV 7) xNil)) (xTup (xCons (xTup (xCons (xC (.int 0)) (xCons (xBin dIxD (xBin dIxD (xV 7) (xC (.int 0))) (xC (.int 1))) xNil))) xNil))))))))))
noncomputable def f_tool : FX := shutF (xTrim (xBody 11 m_tool))
/-- _law_arc: 0 _law_m, 1 _law_begin, 2 _law_length, 3 _law_k -/
noncomputable def m_arc : SX := (xRet (xComp (xRg1 (xCons (xV 2) xNil)) (.nm 3) xYes (xBin dMod (xBin dAdd (xV 1) (xV 3)) (xV 0)) [3]))
noncomputable def f_arc : FX := shutF (xTrim (xBody 4 m_arc))
/-- target_of: 0 m, 1 tool, 2 place, 3 targets, 4 begin, 5 target -/
noncomputable def m_target_of : SX := (xSeq (xSet 3 (xComp (xIt (xV 1)) (.tp [(.nm 4), (.nm 5)]) (xT (xBin dLe (xV 4) (xV 2))) (xV 5) [4, 5])) (xRet (xIf (xT (xBin dNe (xV 3) (xLst xNil))) (xBin dIxD (xV 3) (xNeg (xC (.int 1)))) (xBin dIxD (xBin dIxD (xV 1) (xNeg (xC (.int 1)))) (xC (.int 1))))))
noncomputable def f_target_of : FX := shutF (xTrim (xBody 6 m_target_of))
/-- brought_into: 0 m, 1 tool, 2 begin, 3 length, 4 place -/
noncomputable def m_brought_into : SX := (xRet (xCB fTuple (xCons (xComp (xRg1 (xCons (xV 0) xNil)) (.nm 4) (xT (xBin dLt (xBin dMod (xBin dSub (xCall 3 f_target_of (xCons (xV 0) (xCons (xV 1) (xCons (xV 4) xNil)))) (xV 2)) (xV 0)) (xV 3))) (xV 4) [4]) xNil)))
noncomputable def f_brought_into : FX := shutF (xTrim (xBody 5 m_brought_into))
/-- push_place: 0 m, 1 tool, 2 turn, 3 place -/
noncomputable def m_push_place : SX := (xRet (xCall 3 f_target_of (xCons (xV 0) (xCons (xV 1) (xCons (xBin dMod (xBin dAdd (xV 3) (xV 2)) (xV 0)) xNil)))))
noncomputable def f_push_place : FX := shutF (xTrim (xBody 4 m_push_place))
/-- push_places: 0 m, 1 tool, 2 turn, 3 places, 4 place -/
noncomputable def m_push_places : SX := (xRet (xCB fTuple (xCons (xCB fSSet (xCons (xComp (xIt (xV 3)) (.nm 4) xYes (xCall 4 f_push_place (xCons (xV 0) (xCons (xV 1) (xCons (xV 2) (xCons (xV 4) xNil))))) [4]) xNil)) xNil)))
noncomputable def f_push_places : FX := shutF (xTrim (xBody 5 m_push_places))
/-- law: 0 _law_script, 1 _law_deck_here, 2 _law_turn, 3 _law_m, 4 _law_tool_here, 5 _law_k, 6 _law_begin, 7 _law_length, 8 _law_by, 9 _law_arc_here, 10 _law_found, 11 _law_rest, 12 _law_back, 13 _law_pushed, 14 _law_sent, 15 _law_place, 16 _law_one -/
noncomputable def m_law09_l1 : SX := (xSeq (xAsg (.tp [(.nm 6), (.nm 7), (.nm 8)]) (xTup (xCons (xCall 2 f_draw (xCons (xV 1) (xCons (xV 3) xNil))) (xCons (xBin dAdd (xC (.int 1)) (xCall 2 f_draw (xCons (xV 1) (xCons (xV 3) xNil)))) (xCons (xCall 2 f_draw (xCons (xV 1) (xCons (xV 3) xNil))) xNil))))) (xSeq (xSet 9 (xCall 3 f_arc (xCons (xV 3) (xCons (xV 6) (xCons (xV 7) xNil))))) (xSeq (xSet 10 (xCall 4 f_brought_into (xCons (xV 3) (xCons (xV 4) (xCons (xV 6) (xCons (xV 7) xNil)))))) (xSeq (xIfS (xAndT (xT (xBin dNe (xV 10) (xTup xNil))) (xT (xBin dNe (xCall 2 f_spread_of (xCons (xV 3) (xCons (xV 10) xNil))) (xCB fLen (xCons (xV 10) xNil))))) (xRet (xC (.bool false))) xPass) (xSeq (xSet 11 (xTup xNil)) (xSeq (xIfS (xT (xBin dLt (xV 7) (xV 3))) (xSet 11 (xCall 4 f_brought_into (xCons (xV 3) (xCons (xV 4) (xCons (xBin dMod (xBin dAdd (xV 6) (xV 7)) (xV 3)) (xCons (xBin dSub (xV 3) (xV 7)) xNil)))))) xPass) (xSeq (xIfS (xT (xBin dNe (xCB fSort (xCons (xBin dAdd (xV 10) (xV 11)) xNil)) (xCB fRgL (xCons (xV 3) xNil)))) (xRet (xC (.bool false))) xPass) (xSeq (xSet 12 (xCB fSort (xCons (xComp (xIt (xV 10)) (.nm 15) xYes (xBin dMod (xBin dSub (xV 15) (xV 8)) (xV 3)) [15]) xNil))) (xSeq (xSet 13 (xComp (xRg1 (xCons (xV 3) xNil)) (.nm 15) (xT (xBin dIn (xCall 4 f_push_place (xCons (xV 3) (xCons (xV 4) (xCons (xV 8) (xCons (xV 15) xNil))))) (xV 9))) (xV 15) [15])) (xSeq (xIfS (xT (xBin dNe (xV 12) (xV 13))) (xRet (xC (.bool false))) xPass) (xSeq (xSet 14 (xIf (xT (xBin dNe (xV 10) (xTup xNil))) (xCall 4 f_push_places (xCons (xV 3) (xCons (xV 4) (xCons (xC (.int 0)) (xCons (xV 10) xNil))))) (xTup xNil))) (xIfS (xT (xBin dNe (xComp (xIt (xV 14)) (.nm 16) (xT (xBin dNotIn (xV 16) (xV 9))) (xV 16) [16]) (xLst xNil))) (xRet (xC (.bool false))) xPass))))))))))))
noncomputable def m_law09_l2 : SX := (xSeq (xSet 3 (xBin dAdd (xC (.int 1)) (xCall 2 f_draw (xCons (xV 1) (xCons (xBin dIxD (xLst (xCons (xC (.int 4)) (xCons (xC (.int 13)) (xCons (xC (.int 40)) xNil)))) (xBin dMod (xV 2) (xC (.int 3)))) xNil))))) (xSeq (xSet 4 (xCall 2 f_tool (xCons (xV 1) (xCons (xV 3) xNil)))) (xFor (xRg1 (xCons (xC (.int 5)) xNil)) (.nm 5) m_law09_l1)))
noncomputable def m_law09 : SX := (xSeq (xSet 1 (xCall 1 f_deck (xCons (xV 0) xNil))) (xSeq (xFor (xRg1 (xCons (xC (.int 9)) xNil)) (.nm 2) m_law09_l2) (xRet (xC (.bool true)))))
noncomputable def f_law09 : FX := shutF (xTrim (xBody 17 m_law09))
/-- _law_tools: 0 _law_deck_here, 1 _law_m, 2 _law_k -/
noncomputable def m_tools : SX := (xRet (xCB fTuple (xCons (xComp (xRg1 (xCons (xBin dAdd (xC (.int 1)) (xCall 2 f_draw (xCons (xV 0) (xCons (xC (.int 4)) xNil)))) xNil)) (.nm 2) xYes (xCall 2 f_tool (xCons (xV 0) (xCons (xV 1) xNil))) [2]) xNil)))
noncomputable def f_tools : FX := shutF (xTrim (xBody 3 m_tools))
/-- arc_sizes: 0 m, 1 tool, 2 begins, 3 ends, 4 begin, 5 target, 6 end -/
noncomputable def m_arc_sizes : SX := (xSeq (xSet 2 (xComp (xIt (xV 1)) (.tp [(.nm 4), (.nm 5)]) xYes (xV 4) [4, 5])) (xSeq (xSet 3 (xBin dAdd (xSl (xV 2) (xPart (xC (.int 1))) xNoPart) (xLst (xCons (xBin dAdd (xBin dIxD (xV 2) (xC (.int 0))) (xV 0)) xNil)))) (xRet (xComp (xZip (xCons (xV 1) (xCons (xV 3) xNil))) (.tp [(.tp [(.nm 4), (.nm 5)]), (.nm 6)]) xYes (xTup (xCons (xBin dSub (xV 6) (xV 4)) (xCons (xV 5) xNil))) [6, 4, 5]))))
noncomputable def f_arc_sizes : FX := shutF (xTrim (xBody 7 m_arc_sizes))
/-- tool_width: 0 m, 1 tool, 2 length, 3 sizes, 4 counts, 5 begin, 6 first, 7 size, 8 target -/
noncomputable def m_tool_width_l1 : SX := (xDrop (xBM "list" mAppend (xV 4) (xCons (xCB fSum (xCons (xComp (xIt (xV 3)) (.tp [(.nm 7), (.nm 8)]) (xT (xBin dLt (xBin dMod (xBin dSub (xV 8) (xV 6)) (xV 0)) (xV 2))) (xV 7) [7, 8]) xNil)) xNil)))
noncomputable def m_tool_width : SX := (xSeq (xSet 3 (xCall 2 f_arc_sizes (xCons (xV 0) (xCons (xV 1) xNil)))) (xSeq (xSet 4 (xMut xNil)) (xSeq (xFor (xIt (xV 1)) (.tp [(.nm 5), (.nm 6)]) m_tool_width_l1) (xRet (xCB fMax (xCons (xV 4) xNil))))))
noncomputable def f_tool_width : FX := shutF (xTrim (xBody 9 m_tool_width))
/-- width_of: 0 m, 1 tools, 2 length, 3 tool -/
noncomputable def m_width_of : SX := (xRet (xCB fMax (xCons (xComp (xIt (xV 1)) (.nm 3) xYes (xCall 3 f_tool_width (xCons (xV 0) (xCons (xV 3) (xCons (xV 2) xNil)))) [3]) xNil)))
noncomputable def f_width_of : FX := shutF (xTrim (xBody 4 m_width_of))
/-- _law_divisor: 0 _law_one, 1 _law_other -/
noncomputable def m_divisor_l1 : SX := (xPar 0 1 (xCons (xV 1) (xCons (xBin dMod (xV 0) (xV 1)) xNil)))
noncomputable def m_divisor : SX := (xSeq (xWhile 1000000 (xT (xBin dGt (xV 1) (xC (.int 0)))) m_divisor_l1) (xRet (xV 0)))
noncomputable def f_divisor : FX := shutF (xTrim (xBody 2 m_divisor))
/-- _law_repeats: 0 _law_m, 1 _law_tool_here, 2 _law_d, 3 _law_table, 4 _law_place -/
noncomputable def m_repeats : SX := (xSeq (xSet 3 (xComp (xRg1 (xCons (xV 0) xNil)) (.nm 4) xYes (xCall 3 f_target_of (xCons (xV 0) (xCons (xV 1) (xCons (xV 4) xNil)))) [4])) (xRet (xBin dEq (xComp (xRg1 (xCons (xV 0) xNil)) (.nm 4) (xT (xBin dNe (xBin dIxD (xV 3) (xBin dMod (xBin dAdd (xV 4) (xV 2)) (xV 0))) (xBin dMod (xBin dAdd (xBin dIxD (xV 3) (xV 4)) (xV 2)) (xV 0)))) (xV 4) [4]) (xLst xNil))))
noncomputable def f_repeats : FX := shutF (xTrim (xBody 5 m_repeats))
/-- lengths_of: 0 m, 1 tools, 2 goal, 3 found, 4 width -/
noncomputable def m_lengths_of_l1 : SX := (xSeq (xDrop (xBM "list" mAppend (xV 3) (xCons (xV 4) xNil))) (xSet 4 (xCall 3 f_width_of (xCons (xV 0) (xCons (xV 1) (xCons (xV 4) xNil))))))
noncomputable def m_lengths_of : SX := (xSeq (xSet 3 (xMut (xCons (xV 2) xNil))) (xSeq (xSet 4 (xCall 3 f_width_of (xCons (xV 0) (xCons (xV 1) (xCons (xV 2) xNil))))) (xSeq (xWhile 1000000 (xT (xBin dGt (xV 4) (xBin dIxD (xV 3) (xNeg (xC (.int 1)))))) m_lengths_of_l1) (xRet (xCB fTuple (xCons (xV 3) xNil))))))
noncomputable def f_lengths_of : FX := shutF (xTrim (xBody 5 m_lengths_of))
/-- law: 0 _law_script, 1 _law_deck_here, 2 _law_turn, 3 _law_m, 4 _law_tools_here, 5 _law_widths, 6 _law_length, 7 _law_d, 8 _law_unlike, 9 _law_found, 10 _law_tool_here, 11 _law_k, 12 _law_begin -/
noncomputable def m_law10_l1 : SX := (xSeq (xSet 7 (xCall 2 f_divisor (xCons (xV 3) (xCons (xV 6) xNil)))) (xSeq (xSet 8 (xComp (xIt (xV 4)) (.nm 10) (xNotT (xTr (xCall 3 f_repeats (xCons (xV 3) (xCons (xV 10) (xCons (xV 7) xNil)))))) (xV 10) [10])) (xIfS (xT (xBin dNe (xBin dEq (xBin dIxD (xV 5) (xBin dSub (xV 6) (xC (.int 1)))) (xV 6)) (xBin dEq (xV 8) (xLst xNil)))) (xRet (xC (.bool false))) xPass)))
noncomputable def m_law10_l2 : SX := (xSeq (xSet 3 (xBin dAdd (xC (.int 1)) (xCall 2 f_draw (xCons (xV 1) (xCons (xBin dIxD (xLst (xCons (xC (.int 5)) (xCons (xC (.int 13)) (xCons (xC (.int 24)) xNil)))) (xBin dMod (xV 2) (xC (.int 3)))) xNil))))) (xSeq (xSet 4 (xCall 2 f_tools (xCons (xV 1) (xCons (xV 3) xNil)))) (xSeq (xSet 5 (xComp (xRg2 (xCons (xC (.int 1)) (xCons (xBin dAdd (xV 3) (xC (.int 1))) xNil))) (.nm 6) xYes (xCall 3 f_width_of (xCons (xV 3) (xCons (xV 4) (xCons (xV 6) xNil)))) [6])) (xSeq (xIfS (xOrT (xT (xBin dNe (xBin dIxD (xV 5) (xNeg (xC (.int 1)))) (xV 3))) (xOrT (xT (xBin dNe (xV 5) (xCB fSort (xCons (xV 5) xNil)))) (xT (xBin dNe (xComp (xRg1 (xCons (xV 3) xNil)) (.nm 11) (xT (xBin dLt (xBin dIxD (xV 5) (xV 11)) (xBin dAdd (xV 11) (xC (.int 1))))) (xV 11) [11]) (xLst xNil))))) (xRet (xC (.bool false))) xPass) (xSeq (xFor (xRg2 (xCons (xC (.int 1)) (xCons (xV 3) xNil))) (.nm 6) m_law10_l1) (xSeq (xSet 6 (xBin dAdd (xC (.int 1)) (xCall 2 f_draw (xCons (xV 1) (xCons (xV 3) xNil))))) (xSeq (xIfS (xT (xBin dNe (xCB fSum (xCons (xComp (xRg1 (xCons (xV 3) xNil)) (.nm 12) xYes (xCB fLen (xCons (xCall 4 f_brought_into (xCons (xV 3) (xCons (xBin dIxD (xV 4) (xC (.int 0))) (xCons (xV 12) (xCons (xV 6) xNil))))) xNil)) [12]) xNil)) (xBin dMul (xV 3) (xV 6)))) (xRet (xC (.bool false))) xPass) (xSeq (xSet 9 (xCall 3 f_lengths_of (xCons (xV 3) (xCons (xV 4) (xCons (xV 6) xNil))))) (xIfS (xOrT (xT (xBin dNe (xCB fList (xCons (xV 9) xNil)) (xCB fSSet (xCons (xV 9) xNil)))) (xOrT (xT (xBin dNe (xBin dIxD (xV 9) (xC (.int 0))) (xV 6))) (xT (xBin dNe (xBin dIxD (xV 5) (xBin dSub (xBin dIxD (xV 9) (xNeg (xC (.int 1)))) (xC (.int 1)))) (xBin dIxD (xV 9) (xNeg (xC (.int 1)))))))) (xRet (xC (.bool false))) xPass)))))))))
noncomputable def m_law10 : SX := (xSeq (xSet 1 (xCall 1 f_deck (xCons (xV 0) xNil))) (xSeq (xFor (xRg1 (xCons (xC (.int 6)) xNil)) (.nm 2) m_law10_l2) (xRet (xC (.bool true)))))
noncomputable def f_law10 : FX := shutF (xTrim (xBody 13 m_law10))
/-- fewest_pushes: 0 m, 1 tools, 2 places, 3 goal, 4 spread, 5 pushes, 6 length -/
noncomputable def m_fewest_pushes_l1 : SX := (xIfS (xT (xBin dGe (xV 6) (xV 4))) (xRet (xV 5)) xPass)
noncomputable def m_fewest_pushes : SX := (xSeq (xSet 4 (xCall 2 f_spread_of (xCons (xV 0) (xCons (xV 2) xNil)))) (xSeq (xFor (xEnB (xCons (xCall 3 f_lengths_of (xCons (xV 0) (xCons (xV 1) (xCons (xV 3) xNil)))) xNil)) (.tp [(.nm 5), (.nm 6)]) m_fewest_pushes_l1) (xRet (xC .none))))
noncomputable def f_fewest_pushes : FX := shutF (xTrim (xBody 7 m_fewest_pushes))
/-- _law_deck: 0 _law_script, 1 _law_cell -/
noncomputable def m_deck_2 : SX := (xRet (xMut (xCons (xCompM (xIt (xSl (xV 0) xNoPart (xPart (xC (.int 60))))) (.nm 1) xYes (xCB fAbs (xCons (xV 1) xNil)) [1]) (xCons (xC (.int 0)) xNil))))
noncomputable def f_deck_2 : FX := shutF (xTrim (xBody 2 m_deck_2))
/-- _law_draw: 0 _law_deck_here, 1 _law_bound, 2 _law_at, 3 _law_cell, 4 _law_mixed -/
noncomputable def m_draw_2 : SX := (xSeq (xStore (xV 0) (xC (.int 1)) (xBin dAdd (xBin dIxD (xV 0) (xC (.int 1))) (xC (.int 1)))) (xSeq (xSet 2 (xBin dMod (xBin dIxD (xV 0) (xC (.int 1))) (xCB fMax2 (xCons (xC (.int 1)) (xCons (xCB fLen (xCons (xBin dIxD (xV 0) (xC (.int 0))) xNil)) xNil))))) (xSeq (xSet 3 (xBin dIxD (xBin dAdd (xBin dIxD (xV 0) (xC (.int 0))) (xLst (xCons (xC (.int 0)) xNil))) (xV 2))) (xSeq (xIfS (xT (xBin dGe (xV 3) (xBin dPow (xC (.int 10)) (xC (.int 18))))) (xSeq (xStore (xBin dIxD (xV 0) (xC (.int 0))) (xV 2) (xBin dDiv (xV 3) (xV 1))) (xRet (xBin dMod (xV 3) (xV 1)))) xPass) (xSeq (xSet 4 (xBin dMod (xBin dPow (xBin dAdd (xBin dAdd (xBin dMod (xV 3) (xC (.int 2147483563))) (xBin dMul (xC (.int 104729)) (xBin dIxD (xV 0) (xC (.int 1))))) (xC (.int 7))) (xC (.int 4))) (xC (.int 2147483629)))) (xRet (xBin dMod (xBin dAdd (xBin dDiv (xV 4) (xC (.int 8))) (xBin dMul (xC (.int 31)) (xBin dIxD (xV 0) (xC (.int 1))))) (xV 1))))))))
noncomputable def f_draw_2 : FX := shutF (xTrim (xBody 5 m_draw_2))
/-- _law_circle: 0 _law_deck_here, 1 _law_way -/
noncomputable def m_circle : SX := (xSeq (xSet 1 (xCall 2 f_draw_2 (xCons (xV 0) (xCons (xC (.int 4)) xNil)))) (xSeq (xIfS (xT (xBin dEq (xV 1) (xC (.int 2)))) (xRet (xBin dIxD (xLst (xCons (xC (.int 12)) (xCons (xC (.int 24)) (xCons (xC (.int 36)) (xCons (xC (.int 48)) (xCons (xC (.int 60)) xNil)))))) (xCall 2 f_draw_2 (xCons (xV 0) (xCons (xC (.int 5)) xNil))))) xPass) (xRet (xBin dAdd (xC (.int 1)) (xCall 2 f_draw_2 (xCons (xV 0) (xCons (xBin dIxD (xLst (xCons (xC (.int 6)) (xCons (xC (.int 24)) (xCons (xC (.int 1)) (xCons (xC (.int 60)) xNil))))) (xV 1)) xNil)))))))
noncomputable def f_circle : FX := shutF (xTrim (xBody 2 m_circle))
/-- _law_subset: 0 _law_deck_here, 1 _law_n, 2 _law_many, 3 _law_left, 4 _law_found, 5 _law_k -/
noncomputable def m_subset_l1 : SX := (xDrop (xBM "list" mAppend (xV 4) (xCons (xBM "list" mPopAt (xV 3) (xCons (xCall 2 f_draw_2 (xCons (xV 0) (xCons (xCB fLen (xCons (xV 3) xNil)) xNil))) xNil)) xNil)))
noncomputable def m_subset : SX := (xSeq (xPar 3 4 (xCons (xCB fRgM (xCons (xV 1) xNil)) (xCons (xMut xNil) xNil))) (xSeq (xFor (xRg1 (xCons (xV 2) xNil)) (.nm 5) m_subset_l1) (xRet (xCB fSort (xCons (xV 4) xNil)))))
noncomputable def f_subset : FX := shutF (xTrim (xBody 6 m_subset))
/-- _law_tool: 0 _law_deck_here, 1 _law_m, 2 _law_divisors, 3 _law_size, 4 _law_many, 5 _law_begins, 6 _law_offsets, 7 _law_first, 8 _law_pairs, 9 _law_turn, 10 _law_begin, 11 _law_offset, 12 _law_d -/
noncomputable def m_tool_4_l1 : SX := (xDrop (xBM "list" mAppend (xV 8) (xCons (xTup (xCons (xBin dAdd (xV 10) (xBin dMul (xV 9) (xV 3))) (xCons (xBin dMod (xBin dAdd (xBin dAdd (xV 7) (xV 11)) (xBin dMul (xV 9) (xV 3))) (xV 1)) xNil))) xNil)))
noncomputable def m_tool_4_l2 : SX := (xFor (xZip (xCons (xV 5) (xCons (xV 6) xNil))) (.tp [(.nm 10), (.nm 11)]) m_tool_4_l1)
noncomputable def m_tool_4 : SX := (xSeq (xSet 2 (xComp (xRg2 (xCons (xC (.int 1)) (xCons (xBin dAdd (xV 1) (xC (.int 1))) xNil))) (.nm 12) (xAndT (xT (xBin dEq (xBin dMod (xV 1) (xV 12)) (xC (.int 0)))) (xT (xBin dLe (xBin dDiv (xV 1) (xV 12)) (xC (.int 12))))) (xV 12) [12])) (xSeq (xSet 3 (xBin dIxD (xLst (xCons (xBin dIxD (xV 2) (xCall 2 f_draw_2 (xCons (xV 0) (xCons (xCB fLen (xCons (xV 2) xNil)) xNil)))) (xCons (xV 1) xNil))) (xCall 2 f_draw_2 (xCons (xV 0) (xCons (xC (.int 2)) xNil))))) (xSeq (xSet 4 (xBin dAdd (xC (.int 1)) (xCall 2 f_draw_2 (xCons (xV 0) (xCons (xCB fMin2 (xCons (xV 3) (xCons (xBin dDiv (xBin dMul (xC (.int 12)) (xV 3)) (xV 1)) xNil))) xNil))))) (xSeq (xPar 5 6 (xCons (xCall 3 f_subset (xCons (xV 0) (xCons (xV 3) (xCons (xV 4) xNil)))) (xCons (xCall 3 f_subset (xCons (xV 0) (xCons (xV 3) (xCons (xV 4) xNil)))) xNil))) (xSeq (xPar 7 8 (xCons (xCall 2 f_draw_2 (xCons (xV 0) (xCons (xV 1) xNil))) (xCons (xMut xNil) xNil))) (xSeq (xFor (xRg1 (xCons (xBin dDiv (xV 1) (xV 3)) xNil)) (.nm 9) m_tool_4_l2) (xRet (xIf (xT (xBin dGt (xCB fLen (xCons (xV 8) xNil)) (xC (.int 1)))) (xCB fTuple (xCons (xV 8) xNil)) (xTup (xCons (xTup (xCons (xC (.int 0)) (xCons (xBin dIxD (xBin dIxD (xV 8) (xC (.int 0))) (xC (.int 1))) xNil))) xNil))))))))))
noncomputable def f_tool_4 : FX := shutF (xTrim (xBody 13 m_tool_4))
/-- _law_repeats: 0 _law_table_here, 1 _law_d, 2 _law_m, 3 _law_spot -/
noncomputable def m_repeats_2 : SX := (xSeq (xSet 2 (xCB fLen (xCons (xV 0) xNil))) (xRet (xBin dEq (xComp (xRg1 (xCons (xV 2) xNil)) (.nm 3) (xT (xBin dNe (xBin dIxD (xV 0) (xBin dMod (xBin dAdd (xV 3) (xV 1)) (xV 2))) (xBin dMod (xBin dAdd (xBin dIxD (xV 0) (xV 3)) (xV 1)) (xV 2)))) (xV 3) [3]) (xLst xNil))))
noncomputable def f_repeats_2 : FX := shutF (xTrim (xBody 4 m_repeats_2))
/-- _law_period: 0 _law_table_here, 1 _law_d -/
noncomputable def m_period : SX := (xRet (xBin dIxD (xComp (xRg2 (xCons (xC (.int 1)) (xCons (xBin dAdd (xCB fLen (xCons (xV 0) xNil)) (xC (.int 1))) xNil))) (.nm 1) (xAndT (xT (xBin dEq (xBin dMod (xCB fLen (xCons (xV 0) xNil)) (xV 1)) (xC (.int 0)))) (xTr (xCall 2 f_repeats_2 (xCons (xV 0) (xCons (xV 1) xNil))))) (xV 1) [1]) (xC (.int 0))))
noncomputable def f_period : FX := shutF (xTrim (xBody 2 m_period))
/-- _law_target: 0 _law_m, 1 _law_tool_here, 2 _law_spot, 3 _law_begins, 4 _law_begin, 5 _law_target_here -/
noncomputable def m_target_2_l1 : SX := (xSet 2 (xBin dMod (xBin dSub (xV 2) (xC (.int 1))) (xV 0)))
noncomputable def m_target_2 : SX := (xSeq (xSet 3 (xComp (xIt (xV 1)) (.tp [(.nm 4), (.nm 5)]) xYes (xV 4) [4, 5])) (xSeq (xWhile 1000000 (xT (xBin dNotIn (xV 2) (xV 3))) m_target_2_l1) (xRet (xBin dIxD (xBin dIxD (xV 1) (xBM "list" mIndex (xV 3) (xCons (xV 2) xNil))) (xC (.int 1))))))
noncomputable def f_target_2 : FX := shutF (xTrim (xBody 6 m_target_2))
/-- _law_table: 0 _law_m, 1 _law_tool_here, 2 _law_spot -/
noncomputable def m_table : SX := (xRet (xCB fTuple (xCons (xComp (xRg1 (xCons (xV 0) xNil)) (.nm 2) xYes (xCall 3 f_target_2 (xCons (xV 0) (xCons (xV 1) (xCons (xV 2) xNil)))) [2]) xNil)))
noncomputable def f_table : FX := shutF (xTrim (xBody 3 m_table))
/-- table_of: 0 m, 1 tool, 2 place -/
noncomputable def m_table_of : SX := (xRet (xCB fTuple (xCons (xComp (xRg1 (xCons (xV 0) xNil)) (.nm 2) xYes (xCall 3 f_target_of (xCons (xV 0) (xCons (xV 1) (xCons (xV 2) xNil)))) [2]) xNil)))
noncomputable def f_table_of : FX := shutF (xTrim (xBody 3 m_table_of))
/-- repeats_after: 0 table, 1 d, 2 m, 3 place, 4 target -/
noncomputable def m_repeats_after : SX := (xSeq (xSet 2 (xCB fLen (xCons (xV 0) xNil))) (xRet (xCB fAll (xCons (xComp (xEnB (xCons (xV 0) xNil)) (.tp [(.nm 3), (.nm 4)]) xYes (xBin dEq (xBin dIxD (xV 0) (xBin dMod (xBin dAdd (xV 3) (xV 1)) (xV 2))) (xBin dMod (xBin dAdd (xV 4) (xV 1)) (xV 2))) [3, 4]) xNil))))
noncomputable def f_repeats_after : FX := shutF (xTrim (xBody 5 m_repeats_after))
/-- period_of: 0 m, 1 tool, 2 table, 3 d -/
noncomputable def m_period_of : SX := (xSeq (xSet 2 (xCall 2 f_table_of (xCons (xV 0) (xCons (xV 1) xNil)))) (xRet (xBin dIxD (xComp (xRg2 (xCons (xC (.int 1)) (xCons (xBin dAdd (xV 0) (xC (.int 1))) xNil))) (.nm 3) (xAndT (xT (xBin dEq (xBin dMod (xV 0) (xV 3)) (xC (.int 0)))) (xTr (xCall 2 f_repeats_after (xCons (xV 2) (xCons (xV 3) xNil))))) (xV 3) [3]) (xC (.int 0)))))
noncomputable def f_period_of : FX := shutF (xTrim (xBody 4 m_period_of))
/-- law: 0 _law_script, 1 _law_deck_here, 2 _law_turn, 3 _law_m, 4 _law_tool_here, 5 _law_due, 6 _law_round_one, 7 _law_spot -/
noncomputable def m_law22_l1 : SX := (xSeq (xSet 3 (xCall 1 f_circle (xCons (xV 1) xNil))) (xSeq (xSet 4 (xCall 2 f_tool_4 (xCons (xV 1) (xCons (xV 3) xNil)))) (xSeq (xSet 5 (xCall 1 f_period (xCons (xCall 2 f_table (xCons (xV 3) (xCons (xV 4) xNil))) xNil))) (xIfS (xT (xBin dNe (xCB fRepr (xCons (xLst (xCons (xCall 2 f_period_of (xCons (xV 3) (xCons (xV 4) xNil))) (xCons (xCall 2 f_period_of (xCons (xV 3) (xCons (xV 4) xNil))) xNil))) xNil)) (xCB fRepr (xCons (xLst (xCons (xV 5) (xCons (xV 5) xNil))) xNil)))) (xRet (xC (.bool false))) xPass))))
noncomputable def m_law22 : SX := (xSeq (xSet 1 (xCall 1 f_deck_2 (xCons (xV 0) xNil))) (xSeq (xFor (xRg1 (xCons (xC (.int 10)) xNil)) (.nm 2) m_law22_l1) (xSeq (xSet 6 (xCB fTuple (xCons (xComp (xRg1 (xCons (xC (.int 12)) xNil)) (.nm 7) xYes (xTup (xCons (xV 7) (xCons (xBin dMod (xBin dAdd (xV 7) (xC (.int 5))) (xC (.int 12))) xNil))) [7]) xNil))) (xRet (xBin dEq (xCB fRepr (xCons (xLst (xCons (xCall 2 f_period_of (xCons (xC (.int 12)) (xCons (xV 6) xNil))) (xCons (xCall 2 f_period_of (xCons (xC (.int 60)) (xCons (xTup (xCons (xTup (xCons (xC (.int 0)) (xCons (xC (.int 7)) xNil))) xNil)) xNil))) (xCons (xCall 2 f_period_of (xCons (xC (.int 1)) (xCons (xTup (xCons (xTup (xCons (xC (.int 0)) (xCons (xC (.int 0)) xNil))) xNil)) xNil))) xNil)))) xNil)) (xCB fRepr (xCons (xLst (xCons (xC (.int 1)) (xCons (xC (.int 60)) (xCons (xC (.int 1)) xNil)))) xNil)))))))
noncomputable def f_law22 : FX := shutF (xTrim (xBody 8 m_law22))
/-- greatest_divisor: 0 one, 1 other -/
noncomputable def m_greatest_divisor_l1 : SX := (xPar 0 1 (xCons (xV 1) (xCons (xBin dMod (xV 0) (xV 1)) xNil)))
noncomputable def m_greatest_divisor : SX := (xSeq (xWhile 1000000 (xT (xBin dGt (xV 1) (xC (.int 0)))) m_greatest_divisor_l1) (xRet (xV 0)))
noncomputable def f_greatest_divisor : FX := shutF (xTrim (xBody 2 m_greatest_divisor))
/-- common_period: 0 m, 1 tools, 2 found, 3 tool, 4 period -/
noncomputable def m_common_period_l1 : SX := (xSeq (xSet 4 (xCall 2 f_period_of (xCons (xV 0) (xCons (xV 3) xNil)))) (xSet 2 (xBin dDiv (xBin dMul (xV 2) (xV 4)) (xCall 2 f_greatest_divisor (xCons (xV 2) (xCons (xV 4) xNil))))))
noncomputable def m_common_period : SX := (xSeq (xSet 2 (xC (.int 1))) (xSeq (xFor (xIt (xV 1)) (.nm 3) m_common_period_l1) (xRet (xV 2))))
noncomputable def f_common_period : FX := shutF (xTrim (xBody 5 m_common_period))
/-- _law_tool: 0 _law_deck_here, 1 _law_m, 2 _law_divisors, 3 _law_size, 4 _law_many, 5 _law_begins, 6 _law_offsets, 7 _law_first, 8 _law_pairs, 9 _law_turn_here, 10 _law_begin, 11 _law_offset, 12 _law_d -/
noncomputable def m_tool_5_l1 : SX := (xDrop (xBM "list" mAppend (xV 8) (xCons (xTup (xCons (xBin dAdd (xV 10) (xBin dMul (xV 9) (xV 3))) (xCons (xBin dMod (xBin dAdd (xBin dAdd (xV 7) (xV 11)) (xBin dMul (xV 9) (xV 3))) (xV 1)) xNil))) xNil)))
noncomputable def m_tool_5_l2 : SX := (xFor (xZip (xCons (xV 5) (xCons (xV 6) xNil))) (.tp [(.nm 10), (.nm 11)]) m_tool_5_l1)
noncomputable def m_tool_5 : SX := (xSeq (xSet 2 (xComp (xRg2 (xCons (xC (.int 1)) (xCons (xBin dAdd (xV 1) (xC (.int 1))) xNil))) (.nm 12) (xAndT (xT (xBin dEq (xBin dMod (xV 1) (xV 12)) (xC (.int 0)))) (xT (xBin dLe (xBin dDiv (xV 1) (xV 12)) (xC (.int 12))))) (xV 12) [12])) (xSeq (xSet 3 (xBin dIxD (xLst (xCons (xBin dIxD (xV 2) (xCall 2 f_draw_2 (xCons (xV 0) (xCons (xCB fLen (xCons (xV 2) xNil)) xNil)))) (xCons (xV 1) xNil))) (xCall 2 f_draw_2 (xCons (xV 0) (xCons (xC (.int 2)) xNil))))) (xSeq (xSet 4 (xBin dAdd (xC (.int 1)) (xCall 2 f_draw_2 (xCons (xV 0) (xCons (xCB fMin2 (xCons (xV 3) (xCons (xBin dDiv (xBin dMul (xC (.int 12)) (xV 3)) (xV 1)) xNil))) xNil))))) (xSeq (xPar 5 6 (xCons (xCall 3 f_subset (xCons (xV 0) (xCons (xV 3) (xCons (xV 4) xNil)))) (xCons (xCall 3 f_subset (xCons (xV 0) (xCons (xV 3) (xCons (xV 4) xNil)))) xNil))) (xSeq (xPar 7 8 (xCons (xCall 2 f_draw_2 (xCons (xV 0) (xCons (xV 1) xNil))) (xCons (xMut xNil) xNil))) (xSeq (xFor (xRg1 (xCons (xBin dDiv (xV 1) (xV 3)) xNil)) (.nm 9) m_tool_5_l2) (xRet (xIf (xT (xBin dGt (xCB fLen (xCons (xV 8) xNil)) (xC (.int 1)))) (xCB fTuple (xCons (xV 8) xNil)) (xTup (xCons (xTup (xCons (xC (.int 0)) (xCons (xBin dIxD (xBin dIxD (xV 8) (xC (.int 0))) (xC (.int 1))) xNil))) xNil))))))))))
noncomputable def f_tool_5 : FX := shutF (xTrim (xBody 13 m_tool_5))
/-- _law_turn: 0 _law_deck_here, 1 _law_m, 2 _law_turn_here, 3 _law_way -/
noncomputable def m_turn : SX := (xSeq (xPar 2 3 (xCons (xBin dSub (xCall 2 f_draw_2 (xCons (xV 0) (xCons (xBin dAdd (xBin dMul (xC (.int 3)) (xV 1)) (xC (.int 1))) xNil))) (xV 1)) (xCons (xCall 2 f_draw_2 (xCons (xV 0) (xCons (xC (.int 5)) xNil))) xNil))) (xSeq (xIfS (xT (xBin dEq (xV 3) (xC (.int 2)))) (xRet (xBin dAdd (xV 2) (xBin dMul (xV 1) (xCall 2 f_draw_2 (xCons (xV 0) (xCons (xBin dPow (xC (.int 10)) (xC (.int 9))) xNil)))))) xPass) (xRet (xBin dIxD (xLst (xCons (xV 2) (xCons (xV 2) (xCons (xV 2) (xCons (xBin dSub (xBin dSub (xBin dPow (xC (.int 10)) (xC (.int 30))) (xC (.int 1))) (xBin dMod (xV 2) (xV 1))) (xCons (xBin dAdd (xBin dSub (xC (.int 1)) (xBin dPow (xC (.int 10)) (xC (.int 30)))) (xBin dMod (xV 2) (xV 1))) xNil)))))) (xV 3)))))
noncomputable def f_turn : FX := shutF (xTrim (xBody 4 m_turn))
/-- pairs_of: 0 table, 1 begins, 2 place, 3 target -/
noncomputable def m_pairs_of : SX := (xSeq (xSet 1 (xComp (xEnB (xCons (xV 0) xNil)) (.tp [(.nm 2), (.nm 3)]) (xT (xBin dNe (xV 3) (xBin dIxD (xV 0) (xBin dSub (xV 2) (xC (.int 1)))))) (xV 2) [2, 3])) (xRet (xCB fTuple (xCons (xComp (xIt (xOrD (xV 1) (xLst (xCons (xC (.int 0)) xNil)))) (.nm 2) xYes (xTup (xCons (xV 2) (xCons (xBin dIxD (xV 0) (xV 2)) xNil))) [2]) xNil))))
noncomputable def f_pairs_of : FX := shutF (xTrim (xBody 4 m_pairs_of))
/-- turned_tool: 0 m, 1 tool, 2 turn, 3 place -/
noncomputable def m_turned_tool : SX := (xRet (xCall 1 f_pairs_of (xCons (xComp (xRg1 (xCons (xV 0) xNil)) (.nm 3) xYes (xBin dMod (xBin dSub (xCall 3 f_target_of (xCons (xV 0) (xCons (xV 1) (xCons (xBin dMod (xBin dAdd (xV 3) (xV 2)) (xV 0)) xNil)))) (xV 2)) (xV 0)) [3]) xNil)))
noncomputable def f_turned_tool : FX := shutF (xTrim (xBody 4 m_turned_tool))
/-- _law_is_tool: 0 _law_m, 1 _law_value, 2 _law_pair, 3 _law_begins, 4 _law_targets, 5 _law_rising, 6 _law_one, 7 _law_k -/
noncomputable def m_is_tool_l1 : SX := (xSeq (xIfS (xOrT (xNotT (xTr (xIsi "tuple" (xV 2)))) (xT (xBin dNe (xCB fLen (xCons (xV 2) xNil)) (xC (.int 2))))) (xRet (xC (.bool false))) xPass) (xIfS (xT (xBin dNe (xComp (xIt (xV 2)) (.nm 6) (xOrT (xNotT (xTr (xIsi "int" (xV 6)))) (xOrT (xTr (xIsi "bool" (xV 6))) (xNotT (xT (xChain dLe dLt (xC (.int 0)) (xV 6) (xV 0)))))) (xC (.int 1)) [6]) (xLst xNil))) (xRet (xC (.bool false))) xPass))
noncomputable def m_is_tool : SX := (xSeq (xIfS (xOrT (xNotT (xTr (xIsi "tuple" (xV 1)))) (xNotT (xT (xChain dLe dLe (xC (.int 1)) (xCB fLen (xCons (xV 1) xNil)) (xC (.int 12)))))) (xRet (xC (.bool false))) xPass) (xSeq (xFor (xIt (xV 1)) (.nm 2) m_is_tool_l1) (xSeq (xAsg (.tp [(.nm 3), (.nm 4)]) (xTup (xCons (xComp (xIt (xV 1)) (.nm 2) xYes (xBin dIxD (xV 2) (xC (.int 0))) [2]) (xCons (xComp (xIt (xV 1)) (.nm 2) xYes (xBin dMod (xBin dSub (xBin dIxD (xV 2) (xC (.int 1))) (xBin dIxD (xBin dIxD (xV 1) (xC (.int 0))) (xC (.int 1)))) (xV 0)) [2]) xNil)))) (xSeq (xSet 5 (xBin dEq (xComp (xRg2 (xCons (xC (.int 1)) (xCons (xCB fLen (xCons (xV 1) xNil)) xNil))) (.nm 7) (xOrT (xT (xBin dGe (xBin dIxD (xV 3) (xBin dSub (xV 7) (xC (.int 1)))) (xBin dIxD (xV 3) (xV 7)))) (xT (xBin dGe (xBin dIxD (xV 4) (xBin dSub (xV 7) (xC (.int 1)))) (xBin dIxD (xV 4) (xV 7))))) (xV 7) [7]) (xLst xNil))) (xRet (xAndD (xV 5) (xOrD (xBin dGt (xCB fLen (xCons (xV 1) xNil)) (xC (.int 1))) (xBin dEq (xV 3) (xLst (xCons (xC (.int 0)) xNil))))))))))
noncomputable def f_is_tool : FX := shutF (xTrim (xBody 8 m_is_tool))
/-- _law_told_right: 0 _law_m, 1 _law_tool_here, 2 _law_table_here -/
noncomputable def m_told_right : SX := (xRet (xAndD (xCall 2 f_is_tool (xCons (xV 0) (xCons (xV 1) xNil))) (xBin dEq (xCall 2 f_table (xCons (xV 0) (xCons (xV 1) xNil))) (xCB fTuple (xCons (xV 2) xNil)))))
noncomputable def f_told_right : FX := shutF (xTrim (xBody 3 m_told_right))
/-- law: 0 _law_script, 1 _law_deck_here, 2 _law_turn_here, 3 _law_m, 4 _law_tool_here, 5 _law_one, 6 _law_other, 7 _law_table_here, 8 _law_kept, 9 _law_found, 10 _law_due, 11 _law_both, 12 _law_spot -/
noncomputable def m_law24_l1 : SX := (xSeq (xSet 3 (xCall 1 f_circle (xCons (xV 1) xNil))) (xSeq (xAsg (.tp [(.nm 4), (.nm 5), (.nm 6)]) (xTup (xCons (xCall 2 f_tool_5 (xCons (xV 1) (xCons (xV 3) xNil))) (xCons (xCall 2 f_turn (xCons (xV 1) (xCons (xV 3) xNil))) (xCons (xCall 2 f_turn (xCons (xV 1) (xCons (xV 3) xNil))) xNil))))) (xSeq (xAsg (.tp [(.nm 7), (.nm 8)]) (xTup (xCons (xCall 2 f_table (xCons (xV 3) (xCons (xV 4) xNil))) (xCons (xCB fRepr (xCons (xV 4) xNil)) xNil)))) (xSeq (xSet 9 (xCall 3 f_turned_tool (xCons (xV 3) (xCons (xV 4) (xCons (xV 5) xNil))))) (xSeq (xSet 10 (xComp (xRg1 (xCons (xV 3) xNil)) (.nm 12) xYes (xBin dMod (xBin dSub (xBin dIxD (xV 7) (xBin dMod (xBin dAdd (xV 12) (xV 5)) (xV 3))) (xV 5)) (xV 3)) [12])) (xSeq (xIfS (xNotT (xTr (xCall 3 f_told_right (xCons (xV 3) (xCons (xV 9) (xCons (xV 10) xNil)))))) (xRet (xC (.bool false))) xPass) (xSeq (xIfS (xOrT (xT (xBin dNe (xCall 3 f_turned_tool (xCons (xV 3) (xCons (xV 4) (xCons (xBin dMod (xV 5) (xV 3)) xNil)))) (xV 9))) (xT (xBin dNe (xCall 3 f_turned_tool (xCons (xV 3) (xCons (xV 4) (xCons (xBin dSub (xBin dMod (xV 5) (xV 3)) (xV 3)) xNil)))) (xV 9)))) (xRet (xC (.bool false))) xPass) (xSeq (xSet 11 (xCall 3 f_turned_tool (xCons (xV 3) (xCons (xV 4) (xCons (xBin dMod (xBin dAdd (xV 5) (xV 6)) (xV 3)) xNil))))) (xSeq (xIfS (xOrT (xT (xBin dNe (xCall 3 f_turned_tool (xCons (xV 3) (xCons (xV 9) (xCons (xV 6) xNil)))) (xV 11))) (xT (xBin dNe (xCB fRepr (xCons (xV 4) xNil)) (xV 8)))) (xRet (xC (.bool false))) xPass) (xIfS (xOrT (xT (xBin dNe (xCB fRepr (xCons (xCall 3 f_turned_tool (xCons (xV 3) (xCons (xV 9) (xCons (xBin dSub (xC (.int 0)) (xV 5)) xNil)))) xNil)) (xV 8))) (xT (xBin dNe (xCB fRepr (xCons (xCall 3 f_turned_tool (xCons (xV 3) (xCons (xV 4) (xCons (xC (.int 0)) xNil)))) xNil)) (xV 8)))) (xRet (xC (.bool false))) xPass))))))))))
noncomputable def m_law24 : SX := (xSeq (xSet 1 (xCall 1 f_deck_2 (xCons (xV 0) xNil))) (xSeq (xFor (xRg1 (xCons (xC (.int 6)) xNil)) (.nm 2) m_law24_l1) (xRet (xC (.bool true)))))
noncomputable def f_law24 : FX := shutF (xTrim (xBody 13 m_law24))
/-- mirrored_tool: 0 m, 1 tool, 2 place -/
noncomputable def m_mirrored_tool : SX := (xRet (xCall 1 f_pairs_of (xCons (xComp (xRg1 (xCons (xV 0) xNil)) (.nm 2) xYes (xBin dMod (xBin dSub (xC (.int 0)) (xCall 3 f_target_of (xCons (xV 0) (xCons (xV 1) (xCons (xBin dMod (xBin dSub (xC (.int 0)) (xV 2)) (xV 0)) xNil))))) (xV 0)) [2]) xNil)))
noncomputable def f_mirrored_tool : FX := shutF (xTrim (xBody 3 m_mirrored_tool))
/-- law: 0 _law_script, 1 _law_deck_here, 2 _law_turn, 3 _law_m, 4 _law_tool_here, 5 _law_table_here, 6 _law_kept, 7 _law_found, 8 _law_many, 9 _law_spot -/
noncomputable def m_law25_l1 : SX := (xSeq (xSet 3 (xCall 1 f_circle (xCons (xV 1) xNil))) (xSeq (xSet 4 (xCall 2 f_tool_4 (xCons (xV 1) (xCons (xV 3) xNil)))) (xSeq (xAsg (.tp [(.nm 5), (.nm 6)]) (xTup (xCons (xCall 2 f_table (xCons (xV 3) (xCons (xV 4) xNil))) (xCons (xCB fRepr (xCons (xV 4) xNil)) xNil)))) (xSeq (xPar 7 8 (xCons (xCall 2 f_mirrored_tool (xCons (xV 3) (xCons (xV 4) xNil))) (xCons (xCall 2 f_draw_2 (xCons (xV 1) (xCons (xV 3) xNil))) xNil))) (xSeq (xIfS (xNotT (xTr (xCall 3 f_told_right (xCons (xV 3) (xCons (xV 7) (xCons (xComp (xRg1 (xCons (xV 3) xNil)) (.nm 9) xYes (xBin dMod (xBin dSub (xC (.int 0)) (xBin dIxD (xV 5) (xBin dMod (xBin dSub (xC (.int 0)) (xV 9)) (xV 3)))) (xV 3)) [9]) xNil)))))) (xRet (xC (.bool false))) xPass) (xSeq (xIfS (xT (xBin dNe (xCB fRepr (xCons (xLst (xCons (xCall 2 f_mirrored_tool (xCons (xV 3) (xCons (xV 7) xNil))) (xCons (xV 4) xNil))) xNil)) (xBin dAdd (xBin dAdd (xBin dAdd (xBin dAdd (xC (.str "[")) (xV 6)) (xC (.str ", "))) (xV 6)) (xC (.str "]"))))) (xRet (xC (.bool false))) xPass) (xIfS (xT (xBin dNe (xCall 3 f_turned_tool (xCons (xV 3) (xCons (xV 7) (xCons (xV 8) xNil)))) (xCall 2 f_mirrored_tool (xCons (xV 3) (xCons (xCall 3 f_turned_tool (xCons (xV 3) (xCons (xV 4) (xCons (xBin dSub (xC (.int 0)) (xV 8)) xNil)))) xNil))))) (xRet (xC (.bool false))) xPass)))))))
noncomputable def m_law25 : SX := (xSeq (xSet 1 (xCall 1 f_deck_2 (xCons (xV 0) xNil))) (xSeq (xFor (xRg1 (xCons (xC (.int 7)) xNil)) (.nm 2) m_law25_l1) (xRet (xC (.bool true)))))
noncomputable def f_law25 : FX := shutF (xTrim (xBody 10 m_law25))
/-- law: 0 _law_script, 1 _law_deck_here, 2 _law_turn, 3 _law_m, 4 _law_tool_here, 5 _law_kept, 6 _law_due -/
noncomputable def m_law26_l1 : SX := (xSeq (xSet 3 (xCall 1 f_circle (xCons (xV 1) xNil))) (xSeq (xSet 4 (xCall 2 f_tool_4 (xCons (xV 1) (xCons (xV 3) xNil)))) (xSeq (xPar 5 6 (xCons (xCB fRepr (xCons (xV 4) xNil)) (xCons (xCall 2 f_table (xCons (xV 3) (xCons (xV 4) xNil))) xNil))) (xIfS (xOrT (xT (xBin dNe (xCB fRepr (xCons (xLst (xCons (xCall 2 f_table_of (xCons (xV 3) (xCons (xV 4) xNil))) (xCons (xCall 2 f_table_of (xCons (xV 3) (xCons (xV 4) xNil))) xNil))) xNil)) (xCB fRepr (xCons (xLst (xCons (xV 6) (xCons (xV 6) xNil))) xNil)))) (xT (xBin dNe (xCB fRepr (xCons (xV 4) xNil)) (xV 5)))) (xRet (xC (.bool false))) xPass))))
noncomputable def m_law26 : SX := (xSeq (xSet 1 (xCall 1 f_deck_2 (xCons (xV 0) xNil))) (xSeq (xFor (xRg1 (xCons (xC (.int 8)) xNil)) (.nm 2) m_law26_l1) (xRet (xBin dEq (xCB fRepr (xCons (xLst (xCons (xCall 2 f_table_of (xCons (xC (.int 1)) (xCons (xTup (xCons (xTup (xCons (xC (.int 0)) (xCons (xC (.int 0)) xNil))) xNil)) xNil))) (xCons (xCall 2 f_table_of (xCons (xC (.int 3)) (xCons (xTup (xCons (xTup (xCons (xC (.int 1)) (xCons (xC (.int 2)) xNil))) (xCons (xTup (xCons (xC (.int 2)) (xCons (xC (.int 0)) xNil))) xNil))) xNil))) xNil))) xNil)) (xCB fRepr (xCons (xLst (xCons (xTup (xCons (xC (.int 0)) xNil)) (xCons (xTup (xCons (xC (.int 0)) (xCons (xC (.int 2)) (xCons (xC (.int 0)) xNil)))) xNil))) xNil))))))
noncomputable def f_law26 : FX := shutF (xTrim (xBody 7 m_law26))
/-- combined: 0 m, 1 first, 2 turn, 3 second, 4 target -/
noncomputable def m_combined : SX := (xRet (xCall 1 f_pairs_of (xCons (xComp (xIt (xCall 2 f_table_of (xCons (xV 0) (xCons (xV 1) xNil)))) (.nm 4) xYes (xCall 3 f_target_of (xCons (xV 0) (xCons (xV 3) (xCons (xBin dMod (xBin dAdd (xV 4) (xV 2)) (xV 0)) xNil)))) [4]) xNil)))
noncomputable def f_combined : FX := shutF (xTrim (xBody 5 m_combined))
/-- law: 0 _law_script, 1 _law_deck_here, 2 _law_turn_here, 3 _law_m, 4 _law_first, 5 _law_second, 6 _law_many, 7 _law_kept, 8 _law_table_here, 9 _law_due, 10 _law_found, 11 _law_target_here -/
noncomputable def m_law28_l1 : SX := (xSeq (xSet 3 (xCall 1 f_circle (xCons (xV 1) xNil))) (xSeq (xAsg (.tp [(.nm 4), (.nm 5), (.nm 6)]) (xTup (xCons (xCall 2 f_tool_5 (xCons (xV 1) (xCons (xV 3) xNil))) (xCons (xCall 2 f_tool_5 (xCons (xV 1) (xCons (xV 3) xNil))) (xCons (xCall 2 f_turn (xCons (xV 1) (xCons (xV 3) xNil))) xNil))))) (xSeq (xAsg (.tp [(.nm 7), (.nm 8)]) (xTup (xCons (xCB fRepr (xCons (xLst (xCons (xV 4) (xCons (xV 5) xNil))) xNil)) (xCons (xCall 2 f_table (xCons (xV 3) (xCons (xV 5) xNil))) xNil)))) (xSeq (xSet 9 (xComp (xIt (xCall 2 f_table (xCons (xV 3) (xCons (xV 4) xNil)))) (.nm 11) xYes (xBin dIxD (xV 8) (xBin dMod (xBin dAdd (xV 11) (xV 6)) (xV 3))) [11])) (xSeq (xSet 10 (xCall 4 f_combined (xCons (xV 3) (xCons (xV 4) (xCons (xV 6) (xCons (xV 5) xNil)))))) (xSeq (xIfS (xOrT (xNotT (xTr (xCall 3 f_told_right (xCons (xV 3) (xCons (xV 10) (xCons (xV 9) xNil)))))) (xOrT (xT (xBin dGt (xCB fLen (xCons (xV 10) xNil)) (xCB fLen (xCons (xV 4) xNil)))) (xT (xBin dNe (xCB fRepr (xCons (xLst (xCons (xV 4) (xCons (xV 5) xNil))) xNil)) (xV 7))))) (xRet (xC (.bool false))) xPass) (xIfS (xT (xBin dNe (xCall 4 f_combined (xCons (xV 3) (xCons (xV 4) (xCons (xBin dMod (xV 6) (xV 3)) (xCons (xV 5) xNil))))) (xV 10))) (xRet (xC (.bool false))) xPass)))))))
noncomputable def m_law28 : SX := (xSeq (xSet 1 (xCall 1 f_deck_2 (xCons (xV 0) xNil))) (xSeq (xFor (xRg1 (xCons (xC (.int 7)) xNil)) (.nm 2) m_law28_l1) (xRet (xC (.bool true)))))
noncomputable def f_law28 : FX := shutF (xTrim (xBody 12 m_law28))
/-- plan_tool: 0 m, 1 tools, 2 plan, 3 table, 4 turn, 5 index, 6 target -/
noncomputable def m_plan_tool_l1 : SX := (xSet 3 (xComp (xIt (xV 3)) (.nm 6) xYes (xCall 3 f_target_of (xCons (xV 0) (xCons (xBin dIxD (xV 1) (xV 5)) (xCons (xBin dMod (xBin dAdd (xV 6) (xV 4)) (xV 0)) xNil)))) [6]))
noncomputable def m_plan_tool : SX := (xSeq (xSet 3 (xCB fRgL (xCons (xV 0) xNil))) (xSeq (xFor (xIt (xV 2)) (.tp [(.nm 4), (.nm 5)]) m_plan_tool_l1) (xRet (xCall 1 f_pairs_of (xCons (xV 3) xNil)))))
noncomputable def f_plan_tool : FX := shutF (xTrim (xBody 7 m_plan_tool))
/-- _law_right: 0 _law_deck_here, 1 _law_m, 2 _law_tools, 3 _law_plan, 4 _law_tables, 5 _law_kept, 6 _law_due, 7 _law_turn_here, 8 _law_index, 9 _law_found, 10 _law_tool_here, 11 _law_spot -/
noncomputable def m_right_l1 : SX := (xSet 6 (xComp (xIt (xV 6)) (.nm 11) xYes (xBin dIxD (xBin dIxD (xV 4) (xV 8)) (xBin dMod (xBin dAdd (xV 11) (xV 7)) (xV 1))) [11]))
noncomputable def m_right : SX := (xSeq (xAsg (.tp [(.nm 4), (.nm 5)]) (xTup (xCons (xComp (xIt (xV 2)) (.nm 10) xYes (xCall 2 f_table (xCons (xV 1) (xCons (xV 10) xNil))) [10]) (xCons (xCB fRepr (xCons (xLst (xCons (xV 2) (xCons (xV 3) xNil))) xNil)) xNil)))) (xSeq (xSet 6 (xCB fRgL (xCons (xV 1) xNil))) (xSeq (xFor (xIt (xV 3)) (.tp [(.nm 7), (.nm 8)]) m_right_l1) (xSeq (xSet 9 (xCall 3 f_plan_tool (xCons (xV 1) (xCons (xV 2) (xCons (xV 3) xNil))))) (xRet (xAndD (xCall 3 f_told_right (xCons (xV 1) (xCons (xV 9) (xCons (xV 6) xNil)))) (xAndD (xBin dEq (xCall 3 f_plan_tool (xCons (xV 1) (xCons (xV 2) (xCons (xV 3) xNil)))) (xV 9)) (xBin dEq (xCB fRepr (xCons (xLst (xCons (xV 2) (xCons (xV 3) xNil))) xNil)) (xV 5)))))))))
noncomputable def f_right : FX := shutF (xTrim (xBody 12 m_right))
/-- _law_repeats: 0 _law_table, 1 _law_d, 2 _law_m, 3 _law_spot -/
noncomputable def m_repeats_3 : SX := (xSeq (xSet 2 (xCB fLen (xCons (xV 0) xNil))) (xRet (xBin dEq (xComp (xRg1 (xCons (xV 2) xNil)) (.nm 3) (xT (xBin dNe (xBin dIxD (xV 0) (xBin dMod (xBin dAdd (xV 3) (xV 1)) (xV 2))) (xBin dMod (xBin dAdd (xBin dIxD (xV 0) (xV 3)) (xV 1)) (xV 2)))) (xV 3) [3]) (xLst xNil))))
noncomputable def f_repeats_3 : FX := shutF (xTrim (xBody 4 m_repeats_3))
/-- law: 0 _law_script, 1 _law_deck_here, 2 _law_turn, 3 _law_m, 4 _law_tools, 5 _law_common, 6 _law_tool_here, 7 _law_period, 8 _law_table, 9 _law_whole, 10 _law_own, 11 _law_length, 12 _law_k, 13 _law_d -/
noncomputable def m_law32_l1 : SX := (xSeq (xAsg (.tp [(.nm 7), (.nm 8)]) (xTup (xCons (xCall 2 f_period_of (xCons (xV 3) (xCons (xV 6) xNil))) (xCons (xCall 2 f_table_of (xCons (xV 3) (xCons (xV 6) xNil))) xNil)))) (xSeq (xIfS (xOrT (xT (xBin dNe (xBin dMod (xV 3) (xV 7)) (xC (.int 0)))) (xOrT (xT (xBin dNe (xBin dMod (xV 5) (xV 7)) (xC (.int 0)))) (xT (xBin dNe (xBin dMod (xBin dMul (xCB fLen (xCons (xV 6) xNil)) (xV 7)) (xV 3)) (xC (.int 0)))))) (xRet (xC (.bool false))) xPass) (xSeq (xIfS (xT (xBin dNe (xComp (xRg2 (xCons (xC (.int 1)) (xCons (xBin dAdd (xV 3) (xC (.int 1))) xNil))) (.nm 13) (xT (xBin dNe (xCall 2 f_repeats_3 (xCons (xV 8) (xCons (xV 13) xNil))) (xBin dEq (xBin dMod (xV 13) (xV 7)) (xC (.int 0))))) (xV 13) [13]) (xLst xNil))) (xRet (xC (.bool false))) xPass) (xIfS (xT (xBin dNe (xCall 3 f_turned_tool (xCons (xV 3) (xCons (xV 6) (xCons (xV 7) xNil)))) (xV 6))) (xRet (xC (.bool false))) xPass))))
noncomputable def m_law32_l2 : SX := (xSeq (xSet 3 (xBin dAdd (xC (.int 1)) (xCall 2 f_draw_2 (xCons (xV 1) (xCons (xC (.int 24)) xNil))))) (xSeq (xSet 4 (xCB fTuple (xCons (xComp (xRg1 (xCons (xBin dAdd (xC (.int 1)) (xCall 2 f_draw_2 (xCons (xV 1) (xCons (xC (.int 3)) xNil)))) xNil)) (.nm 12) xYes (xCall 2 f_tool_4 (xCons (xV 1) (xCons (xV 3) xNil))) [12]) xNil))) (xSeq (xSet 5 (xCall 2 f_common_period (xCons (xV 3) (xCons (xV 4) xNil)))) (xSeq (xFor (xIt (xV 4)) (.nm 6) m_law32_l1) (xSeq (xSet 9 (xCall 4 f_combined (xCons (xV 3) (xCons (xBin dIxD (xV 4) (xC (.int 0))) (xCons (xCall 2 f_draw_2 (xCons (xV 1) (xCons (xV 3) xNil))) (xCons (xBin dIxD (xV 4) (xNeg (xC (.int 1)))) xNil)))))) (xSeq (xIfS (xOrT (xNotT (xTr (xCall 2 f_repeats_3 (xCons (xCall 2 f_table_of (xCons (xV 3) (xCons (xV 9) xNil))) (xCons (xV 5) xNil))))) (xT (xBin dNe (xBin dMod (xV 5) (xCall 2 f_period_of (xCons (xV 3) (xCons (xV 9) xNil)))) (xC (.int 0))))) (xRet (xC (.bool false))) xPass) (xSeq (xSet 10 (xComp (xRg2 (xCons (xC (.int 1)) (xCons (xV 3) xNil))) (.nm 11) (xT (xBin dEq (xCall 3 f_width_of (xCons (xV 3) (xCons (xV 4) (xCons (xV 11) xNil)))) (xV 11))) (xV 11) [11])) (xIfS (xT (xBin dNe (xV 10) (xComp (xRg2 (xCons (xC (.int 1)) (xCons (xV 3) xNil))) (.nm 11) (xT (xBin dEq (xBin dMod (xV 11) (xV 5)) (xC (.int 0)))) (xV 11) [11]))) (xRet (xC (.bool false))) xPass))))))))
noncomputable def m_law32 : SX := (xSeq (xSet 1 (xCall 1 f_deck_2 (xCons (xV 0) xNil))) (xSeq (xFor (xRg1 (xCons (xC (.int 5)) xNil)) (.nm 2) m_law32_l2) (xRet (xC (.bool true)))))
noncomputable def f_law32 : FX := shutF (xTrim (xBody 14 m_law32))
/-- _law_target: 0 _law_m, 1 _law_tool_here, 2 _law_place, 3 _law_targets -/
noncomputable def m_target_3_l1 : SX := (xSet 2 (xBin dMod (xBin dSub (xV 2) (xC (.int 1))) (xV 0)))
noncomputable def m_target_3 : SX := (xSeq (xSet 3 (xCB fDicT (xCons (xV 1) xNil))) (xSeq (xWhile 1000000 (xT (xBin dNotIn (xV 2) (xV 3))) m_target_3_l1) (xRet (xBin dIxD (xV 3) (xV 2)))))
noncomputable def f_target_3 : FX := shutF (xTrim (xBody 4 m_target_3))
/-- law: 0 _law_script, 1 _law_deck_here, 2 _law_turn, 3 _law_m, 4 _law_tool_here, 5 _law_before, 6 _law_due, 7 _law_place -/
noncomputable def m_law02_l1 : SX := (xSeq (xSet 3 (xBin dAdd (xC (.int 1)) (xCall 2 f_draw (xCons (xV 1) (xCons (xBin dIxD (xLst (xCons (xC (.int 4)) (xCons (xC (.int 13)) (xCons (xC (.int 60)) xNil)))) (xBin dMod (xV 2) (xC (.int 3)))) xNil))))) (xSeq (xSet 4 (xCall 2 f_tool (xCons (xV 1) (xCons (xV 3) xNil)))) (xSeq (xSet 5 (xCB fRepr (xCons (xV 4) xNil))) (xSeq (xSet 6 (xComp (xRg1 (xCons (xV 3) xNil)) (.nm 7) xYes (xCall 3 f_target_3 (xCons (xV 3) (xCons (xV 4) (xCons (xV 7) xNil)))) [7])) (xSeq (xIfS (xNotT (xTr (xCall 2 f_same (xCons (xComp (xRg1 (xCons (xV 3) xNil)) (.nm 7) xYes (xCall 3 f_target_of (xCons (xV 3) (xCons (xV 4) (xCons (xV 7) xNil)))) [7]) (xCons (xV 6) xNil))))) (xRet (xC (.bool false))) xPass) (xIfS (xOrT (xNotT (xTr (xCall 2 f_same (xCons (xComp (xRg1 (xCons (xV 3) xNil)) (.nm 7) xYes (xCall 3 f_target_of (xCons (xV 3) (xCons (xV 4) (xCons (xV 7) xNil)))) [7]) (xCons (xV 6) xNil))))) (xT (xBin dNe (xCB fRepr (xCons (xV 4) xNil)) (xV 5)))) (xRet (xC (.bool false))) xPass))))))
noncomputable def m_law02 : SX := (xSeq (xSet 1 (xCall 1 f_deck (xCons (xV 0) xNil))) (xSeq (xFor (xRg1 (xCons (xC (.int 9)) xNil)) (.nm 2) m_law02_l1) (xRet (xC (.bool true)))))
noncomputable def f_law02 : FX := shutF (xTrim (xBody 8 m_law02))
/-- law: 0 _law_script, 1 _law_deck_here, 2 _law_turn, 3 _law_m, 4 _law_tool_here, 5 _law_places_here, 6 _law_step, 7 _law_by, 8 _law_before, 9 _law_due, 10 _law_place, 11 _law_again -/
noncomputable def m_law03_l1 : SX := (xSeq (xSet 8 (xCB fRepr (xCons (xLst (xCons (xV 4) (xCons (xV 5) xNil))) xNil))) (xSeq (xSet 9 (xComp (xIt (xV 5)) (.nm 10) xYes (xCall 3 f_target_3 (xCons (xV 3) (xCons (xV 4) (xCons (xBin dMod (xBin dAdd (xV 10) (xV 7)) (xV 3)) xNil)))) [10])) (xSeq (xIfS (xNotT (xTr (xCall 2 f_same (xCons (xComp (xIt (xV 5)) (.nm 10) xYes (xCall 4 f_push_place (xCons (xV 3) (xCons (xV 4) (xCons (xV 7) (xCons (xV 10) xNil))))) [10]) (xCons (xV 9) xNil))))) (xRet (xC (.bool false))) xPass) (xSeq (xSet 9 (xCB fTuple (xCons (xCB fSSet (xCons (xV 9) xNil)) xNil))) (xSeq (xIfS (xNotT (xTr (xCall 2 f_same (xCons (xComp (xRg1 (xCons (xC (.int 2)) xNil)) (.nm 11) xYes (xCall 4 f_push_places (xCons (xV 3) (xCons (xV 4) (xCons (xV 7) (xCons (xV 5) xNil))))) [11]) (xCons (xLst (xCons (xV 9) (xCons (xV 9) xNil))) xNil))))) (xRet (xC (.bool false))) xPass) (xIfS (xT (xBin dNe (xCB fRepr (xCons (xLst (xCons (xV 4) (xCons (xV 5) xNil))) xNil)) (xV 8))) (xRet (xC (.bool false))) xPass))))))
noncomputable def m_law03_l2 : SX := (xSeq (xSet 3 (xBin dAdd (xC (.int 1)) (xCall 2 f_draw (xCons (xV 1) (xCons (xBin dIxD (xLst (xCons (xC (.int 4)) (xCons (xC (.int 13)) (xCons (xC (.int 60)) xNil)))) (xBin dMod (xV 2) (xC (.int 3)))) xNil))))) (xSeq (xAsg (.tp [(.nm 4), (.nm 5)]) (xTup (xCons (xCall 2 f_tool (xCons (xV 1) (xCons (xV 3) xNil))) (xCons (xCall 2 f_places (xCons (xV 1) (xCons (xV 3) xNil))) xNil)))) (xSeq (xSet 6 (xBin dSub (xCall 2 f_draw (xCons (xV 1) (xCons (xBin dMul (xC (.int 3)) (xV 3)) xNil))) (xV 3))) (xFor (xIt (xLst (xCons (xV 6) (xCons (xC (.int 0)) (xCons (xBin dSub (xV 6) (xV 3)) (xCons (xBin dSub (xBin dPow (xC (.int 10)) (xC (.int 30))) (xC (.int 1))) (xCons (xBin dSub (xC (.int 1)) (xBin dPow (xC (.int 10)) (xC (.int 30)))) (xCons (xBin dAdd (xBin dMul (xV 3) (xBin dPow (xC (.int 10)) (xC (.int 20)))) (xV 6)) xNil)))))))) (.nm 7) m_law03_l1))))
noncomputable def m_law03 : SX := (xSeq (xSet 1 (xCall 1 f_deck (xCons (xV 0) xNil))) (xSeq (xFor (xRg1 (xCons (xC (.int 9)) xNil)) (.nm 2) m_law03_l2) (xRet (xC (.bool true)))))
noncomputable def f_law03 : FX := shutF (xTrim (xBody 12 m_law03))
/-- law: 0 _law_script, 1 _law_deck_here, 2 _law_turn, 3 _law_m, 4 _law_tool_here, 5 _law_before, 6 _law_targets, 7 _law_length, 8 _law_begin, 9 _law_arc, 10 _law_due, 11 _law_found, 12 _law_place, 13 _law_k, 14 _law_again -/
noncomputable def m_law06_l1 : SX := (xSeq (xSet 8 (xCall 2 f_draw (xCons (xV 1) (xCons (xV 3) xNil)))) (xSeq (xSet 9 (xComp (xRg1 (xCons (xV 7) xNil)) (.nm 13) xYes (xBin dMod (xBin dAdd (xV 8) (xV 13)) (xV 3)) [13])) (xSeq (xSet 10 (xCB fTuple (xCons (xComp (xRg1 (xCons (xV 3) xNil)) (.nm 12) (xT (xBin dIn (xBin dIxD (xV 6) (xV 12)) (xV 9))) (xV 12) [12]) xNil))) (xSeq (xSet 11 (xComp (xRg1 (xCons (xC (.int 2)) xNil)) (.nm 14) xYes (xCall 4 f_brought_into (xCons (xV 3) (xCons (xV 4) (xCons (xV 8) (xCons (xV 7) xNil))))) [14])) (xIfS (xOrT (xNotT (xTr (xCall 2 f_same (xCons (xV 11) (xCons (xLst (xCons (xV 10) (xCons (xV 10) xNil))) xNil))))) (xT (xBin dNe (xCB fRepr (xCons (xV 4) xNil)) (xV 5)))) (xRet (xC (.bool false))) xPass)))))
noncomputable def m_law06_l2 : SX := (xSeq (xSet 3 (xBin dAdd (xC (.int 1)) (xCall 2 f_draw (xCons (xV 1) (xCons (xBin dIxD (xLst (xCons (xC (.int 4)) (xCons (xC (.int 13)) (xCons (xC (.int 60)) xNil)))) (xBin dMod (xV 2) (xC (.int 3)))) xNil))))) (xSeq (xSet 4 (xCall 2 f_tool (xCons (xV 1) (xCons (xV 3) xNil)))) (xSeq (xAsg (.tp [(.nm 5), (.nm 6)]) (xTup (xCons (xCB fRepr (xCons (xV 4) xNil)) (xCons (xComp (xRg1 (xCons (xV 3) xNil)) (.nm 12) xYes (xCall 3 f_target_3 (xCons (xV 3) (xCons (xV 4) (xCons (xV 12) xNil)))) [12]) xNil)))) (xFor (xIt (xLst (xCons (xC (.int 1)) (xCons (xV 3) (xCons (xBin dAdd (xC (.int 1)) (xCall 2 f_draw (xCons (xV 1) (xCons (xV 3) xNil)))) (xCons (xCB fMax2 (xCons (xC (.int 1)) (xCons (xBin dSub (xV 3) (xC (.int 1))) xNil))) (xCons (xBin dAdd (xC (.int 1)) (xCall 2 f_draw (xCons (xV 1) (xCons (xV 3) xNil)))) xNil))))))) (.nm 7) m_law06_l1))))
noncomputable def m_law06 : SX := (xSeq (xSet 1 (xCall 1 f_deck (xCons (xV 0) xNil))) (xSeq (xFor (xRg1 (xCons (xC (.int 9)) xNil)) (.nm 2) m_law06_l2) (xRet (xC (.bool true)))))
noncomputable def f_law06 : FX := shutF (xTrim (xBody 15 m_law06))
/-- _law_width: 0 _law_m, 1 _law_tools_here, 2 _law_length, 3 _law_found, 4 _law_tool_here, 5 _law_targets, 6 _law_begin, 7 _law_place, 8 _law_target_here -/
noncomputable def m_width_2_l1 : SX := (xSet 3 (xCB fMax2 (xCons (xV 3) (xCons (xCB fLen (xCons (xComp (xIt (xV 5)) (.nm 8) (xT (xBin dLt (xBin dMod (xBin dSub (xV 8) (xV 6)) (xV 0)) (xV 2))) (xV 8) [8]) xNil)) xNil))))
noncomputable def m_width_2_l2 : SX := (xSeq (xSet 5 (xComp (xRg1 (xCons (xV 0) xNil)) (.nm 7) xYes (xCall 3 f_target_3 (xCons (xV 0) (xCons (xV 4) (xCons (xV 7) xNil)))) [7])) (xFor (xRg1 (xCons (xV 0) xNil)) (.nm 6) m_width_2_l1))
noncomputable def m_width_2 : SX := (xSeq (xSet 3 (xC (.int 0))) (xSeq (xFor (xIt (xV 1)) (.nm 4) m_width_2_l2) (xRet (xV 3))))
noncomputable def f_width_2 : FX := shutF (xTrim (xBody 9 m_width_2))
/-- law: 0 _law_script, 1 _law_deck_here, 2 _law_turn, 3 _law_m, 4 _law_tools_here, 5 _law_lengths, 6 _law_before, 7 _law_length, 8 _law_due, 9 _law_found, 10 _law_again -/
noncomputable def m_law07_l1 : SX := (xSeq (xSet 8 (xCall 3 f_width_2 (xCons (xV 3) (xCons (xV 4) (xCons (xV 7) xNil))))) (xSeq (xSet 9 (xComp (xRg1 (xCons (xC (.int 2)) xNil)) (.nm 10) xYes (xCall 3 f_width_of (xCons (xV 3) (xCons (xV 4) (xCons (xV 7) xNil)))) [10])) (xIfS (xOrT (xNotT (xTr (xCall 2 f_same (xCons (xV 9) (xCons (xLst (xCons (xV 8) (xCons (xV 8) xNil))) xNil))))) (xT (xBin dNe (xCB fRepr (xCons (xV 4) xNil)) (xV 6)))) (xRet (xC (.bool false))) xPass)))
noncomputable def m_law07_l2 : SX := (xSeq (xSet 3 (xBin dAdd (xC (.int 1)) (xCall 2 f_draw (xCons (xV 1) (xCons (xBin dIxD (xLst (xCons (xC (.int 5)) (xCons (xC (.int 13)) (xCons (xC (.int 40)) xNil)))) (xBin dMod (xV 2) (xC (.int 3)))) xNil))))) (xSeq (xSet 4 (xCall 2 f_tools (xCons (xV 1) (xCons (xV 3) xNil)))) (xSeq (xPar 5 6 (xCons (xLst (xCons (xC (.int 1)) (xCons (xV 3) (xCons (xCB fMax2 (xCons (xC (.int 1)) (xCons (xBin dSub (xV 3) (xC (.int 1))) xNil))) (xCons (xBin dAdd (xC (.int 1)) (xCall 2 f_draw (xCons (xV 1) (xCons (xV 3) xNil)))) (xCons (xBin dAdd (xC (.int 1)) (xCall 2 f_draw (xCons (xV 1) (xCons (xV 3) xNil)))) xNil)))))) (xCons (xCB fRepr (xCons (xV 4) xNil)) xNil))) (xSeq (xIfS (xT (xBin dLt (xV 3) (xC (.int 7)))) (xSet 5 (xCB fRgL2 (xCons (xC (.int 1)) (xCons (xBin dAdd (xV 3) (xC (.int 1))) xNil)))) xPass) (xFor (xIt (xV 5)) (.nm 7) m_law07_l1)))))
noncomputable def m_law07 : SX := (xSeq (xSet 1 (xCall 1 f_deck (xCons (xV 0) xNil))) (xSeq (xFor (xRg1 (xCons (xC (.int 6)) xNil)) (.nm 2) m_law07_l2) (xRet (xC (.bool true)))))
noncomputable def f_law07 : FX := shutF (xTrim (xBody 11 m_law07))
/-- _law_due: 0 _law_m, 1 _law_tools_here, 2 _law_goal, 3 _law_found, 4 _law_width_here -/
noncomputable def m_due_3_l1 : SX := (xSeq (xSet 3 (xBin dAdd (xV 3) (xTup (xCons (xV 4) xNil)))) (xSet 4 (xCall 3 f_width_2 (xCons (xV 0) (xCons (xV 1) (xCons (xV 4) xNil))))))
noncomputable def m_due_3 : SX := (xSeq (xPar 3 4 (xCons (xTup (xCons (xV 2) xNil)) (xCons (xCall 3 f_width_2 (xCons (xV 0) (xCons (xV 1) (xCons (xV 2) xNil)))) xNil))) (xSeq (xWhile 1000000 (xAndT (xT (xBin dLt (xBin dIxD (xV 3) (xNeg (xC (.int 1)))) (xV 0))) (xT (xBin dNe (xV 4) (xBin dIxD (xV 3) (xNeg (xC (.int 1))))))) m_due_3_l1) (xRet (xV 3))))
noncomputable def f_due_3 : FX := shutF (xTrim (xBody 5 m_due_3))
/-- law: 0 _law_script, 1 _law_deck_here, 2 _law_turn, 3 _law_m, 4 _law_tools_here, 5 _law_goals, 6 _law_before, 7 _law_goal, 8 _law_due_here, 9 _law_found, 10 _law_again -/
noncomputable def m_law08_l1 : SX := (xSeq (xSet 8 (xCall 3 f_due_3 (xCons (xV 3) (xCons (xV 4) (xCons (xV 7) xNil))))) (xSeq (xSet 9 (xComp (xRg1 (xCons (xC (.int 2)) xNil)) (.nm 10) xYes (xCall 3 f_lengths_of (xCons (xV 3) (xCons (xV 4) (xCons (xV 7) xNil)))) [10])) (xIfS (xOrT (xNotT (xTr (xCall 2 f_same (xCons (xV 9) (xCons (xLst (xCons (xV 8) (xCons (xV 8) xNil))) xNil))))) (xT (xBin dNe (xCB fRepr (xCons (xV 4) xNil)) (xV 6)))) (xRet (xC (.bool false))) xPass)))
noncomputable def m_law08_l2 : SX := (xSeq (xSet 3 (xBin dAdd (xC (.int 1)) (xCall 2 f_draw (xCons (xV 1) (xCons (xBin dIxD (xLst (xCons (xC (.int 5)) (xCons (xC (.int 13)) (xCons (xC (.int 24)) xNil)))) (xBin dMod (xV 2) (xC (.int 3)))) xNil))))) (xSeq (xSet 4 (xCall 2 f_tools (xCons (xV 1) (xCons (xV 3) xNil)))) (xSeq (xPar 5 6 (xCons (xLst (xCons (xC (.int 1)) (xCons (xV 3) (xCons (xBin dAdd (xC (.int 1)) (xCall 2 f_draw (xCons (xV 1) (xCons (xV 3) xNil)))) xNil)))) (xCons (xCB fRepr (xCons (xV 4) xNil)) xNil))) (xSeq (xIfS (xT (xBin dLt (xV 3) (xC (.int 6)))) (xSet 5 (xCB fRgL2 (xCons (xC (.int 1)) (xCons (xBin dAdd (xV 3) (xC (.int 1))) xNil)))) xPass) (xFor (xIt (xV 5)) (.nm 7) m_law08_l1)))))
noncomputable def m_law08 : SX := (xSeq (xSet 1 (xCall 1 f_deck (xCons (xV 0) xNil))) (xSeq (xFor (xRg1 (xCons (xC (.int 6)) xNil)) (.nm 2) m_law08_l2) (xRet (xC (.bool true)))))
noncomputable def f_law08 : FX := shutF (xTrim (xBody 11 m_law08))
end QQ
end
section
set_option maxRecDepth 100000
set_option maxHeartbeats 1000000
/-! DM0: the mirrors evaluated. -/
namespace DL
open PySem
section
variable {env env1 env2 : Envr} {S S1 S2 : Sto} {d d1 d2 : D} {f fa fb fc : EX} {k : AX} {t t1 t2 : TX} {m m1 m2 : SX}
@[simp] theorem xC_e {p : PyData} : xC p env S = .ok (.py p) S := rfl
@[simp] theorem xV_e {i : Nat} : xV i env S = (match env[i]? with | some (some d) => .ok d S | _ => .bad) := rfl
@[simp] theorem xBin_e {o : Op2} : xBin o fa fb env S = (fa env S).bind fun x S1 => (fb env S1).bind fun y S2 => o x y S2 := rfl
@[simp] theorem xT_e : xT f env S = (f env S).bind asB := rfl
@[simp] theorem xTr_e : xTr f env S = (f env S).bind truD := rfl
@[simp] theorem asB_e {b : Bool} : asB (dB b) S = .ok b S := rfl
@[simp] theorem truB_e {b : Bool} : truD (dB b) S = .ok b S := rfl
@[simp] theorem truI_e {i : Int} : truD (dI i) S = .ok (i != 0) S := rfl
@[simp] theorem truL_e {xs : List PyData} : truD (dL xs) S = .ok (!xs.isEmpty) S := rfl
@[simp] theorem truT_e {xs : List PyData} : truD (dT xs) S = .ok (!xs.isEmpty) S := rfl
@[simp] theorem truN_e : truD dN S = .ok false S := rfl
@[simp] theorem xAndT_e : xAndT t1 t2 env S = (t1 env S).bind fun c S1 => if c = true then t2 env S1 else .ok false S1 := rfl
@[simp] theorem xOrT_e : xOrT t1 t2 env S = (t1 env S).bind fun c S1 => if c = true then .ok true S1 else t2 env S1 := rfl
@[simp] theorem xNotT_e : xNotT t env S = (t env S).bind fun c S1 => .ok (!c) S1 := rfl
@[simp] theorem xAnd_e : xAnd fa fb env S = (fa env S).bind fun d S1 => (asB d S1).bind fun c S2 => if c = true then fb env S2 else .ok (dB false) S2 := rfl
@[simp] theorem xOr_e : xOr fa fb env S = (fa env S).bind fun d S1 => (asB d S1).bind fun c S2 => if c = true then .ok (dB true) S2 else fb env S2 := rfl
@[simp] theorem xOrD_e : xOrD fa fb env S = (fa env S).bind fun d S1 => (truD d S1).bind fun c S2 => if c = true then .ok d S2 else fb env S2 := rfl
@[simp] theorem xAndD_e : xAndD fa fb env S = (fa env S).bind fun d S1 => (truD d S1).bind fun c S2 => if c = true then fb env S2 else .ok d S2 := rfl
@[simp] theorem xNot_e : xNot f env S = (f env S).bind fun d S1 => (asB d S1).bind fun c S2 => .ok (dB (!c)) S2 := rfl
@[simp] theorem xIf_e : xIf t fa fb env S = (t env S).bind fun c S1 => if c = true then fa env S1 else fb env S1 := rfl
@[simp] theorem xNil_e : xNil env S = .ok [] S := rfl
@[simp] theorem xCons_e : xCons f k env S = (f env S).bind fun d S1 => (k env S1).bind fun ds S2 => .ok (d :: ds) S2 := rfl
@[simp] theorem xTup_e : xTup k env S = (k env S).bind fun ds S1 => match pys ds with
  | some es => if es.length ≤ 1000000 then .ok (dT es) S1 else .bad
  | none => .bad := rfl
@[simp] theorem xLst_e : xLst k env S = (k env S).bind fun ds S1 => match pys ds with
  | some es => if es.length ≤ 1000000 then .ok (dL es) S1 else .bad
  | none => .bad := rfl
@[simp] theorem xMut_e : xMut k env S = (k env S).bind fun ds S1 => if ds.length ≤ 1000000 then .ok (.loc S1.length) (S1 ++ [.lst ds]) else .bad := rfl
@[simp] theorem xCB_e {o : FX} : xCB o k env S = (k env S).bind fun ds S1 => o ds S1 := rfl
@[simp] theorem xCall_e {n : Nat} {fx : FX} : xCall n fx k env S = (k env S).bind fun ds S1 => if ds.length = n then fx ds S1 else .bad := rfl
@[simp] theorem xNeg_e : xNeg f env S = (f env S).bind fun d S1 => match d with
  | .py (.int i) => .ok (dI (-i)) S1
  | _ => .bad := rfl
@[simp] theorem xChain_e {o o' : Op2} : xChain o o' fa fb fc env S = (fa env S).bind fun x S1 => (fb env S1).bind fun y S2 => (o x y S2).bind fun z S3 => (asB z S3).bind fun k S4 =>
  if k = true then (fc env S4).bind fun w S5 => o' y w S5 else .ok (dB false) S4 := rfl
@[simp] theorem xNoPart_e : xNoPart env S = .ok none S := rfl
@[simp] theorem xPart_e : xPart f env S = (f env S).bind fun d S1 => match d with
  | .py (.int i) => .ok (some i) S1
  | _ => .bad := rfl
@[simp] theorem xSl_e {l h : OX} : xSl f l h env S = (f env S).bind fun d S1 => (l env S1).bind fun lo S2 => (h env S2).bind fun hi S3 => dSl d lo hi S3 := rfl
/-! operations -/
@[simp] theorem dAdd_e {i j : Int} : dAdd (dI i) (dI j) S = .ok (dI (i + j)) S := rfl
@[simp] theorem dSub_e {i j : Int} : dSub (dI i) (dI j) S = .ok (dI (i - j)) S := rfl
@[simp] theorem dMul_e {i j : Int} : dMul (dI i) (dI j) S = if (-(2 ^ 64) < i ∧ i < 2 ^ 64) ∨ (-(2 ^ 64) < j ∧ j < 2 ^ 64) then .ok (dI (i * j)) S else .bad := rfl
@[simp] theorem dDiv_e {i j : Int} : dDiv (dI i) (dI j) S = if 0 < j ∧ j < 1073741824 then .ok (dI (i / j)) S else .bad := rfl
@[simp] theorem dMod_e {i j : Int} : dMod (dI i) (dI j) S = if 0 < j then .ok (dI (i % j)) S else .bad := rfl
@[simp] theorem dPow_e {i j : Int} : dPow (dI i) (dI j) S = if 0 ≤ j ∧ j ≤ 1000000 ∧ i.natAbs < 2 ^ 64 then .ok (dI (i ^ j.toNat)) S else .bad := rfl
@[simp] theorem dCmp_e {p : Int → Int → Bool} {i j : Int} : dCmp p (dI i) (dI j) S = .ok (dB (p i j)) S := rfl
@[simp] theorem dAddT_e {xs ys : List PyData} : dAdd (dT xs) (dT ys) S = if xs.length + ys.length ≤ 1000000 then .ok (dT (xs ++ ys)) S else .bad := by
  unfold dAdd
  simp [seqR, seqOf]
@[simp] theorem dAddL_e {xs ys : List PyData} : dAdd (dL xs) (dL ys) S = if xs.length + ys.length ≤ 1000000 then .ok (dL (xs ++ ys)) S else .bad := by
  unfold dAdd
  simp [seqR, seqOf]
@[simp] theorem dIsN_e : dIs d dN S = .ok (dB (isN d)) S := rfl
@[simp] theorem dIsNotN_e : dIsNot d dN S = .ok (dB (!isN d)) S := rfl
/-! calls of built-in things -/
@[simp] theorem fLenL_e {xs : List PyData} : fLen [dL xs] S = .ok (dI xs.length) S := by
  show Res.ok (dI (xs.map D.py).length) S = _
  rw [List.length_map]
@[simp] theorem fLenT_e {xs : List PyData} : fLen [dT xs] S = .ok (dI xs.length) S := by
  show Res.ok (dI (xs.map D.py).length) S = _
  rw [List.length_map]
theorem fLenM {n : Nat} {xs : List D} (h : S[n]? = some (.lst xs)) : fLen [.loc n] S = .ok (dI xs.length) S := by
  unfold fLen
  simp [seqOf, h]
@[simp] theorem fAbs_e {i : Int} : fAbs [dI i] S = .ok (dI (if i < 0 then -i else i)) S := rfl
@[simp] theorem fIntB_e {b : Bool} : fInt [dB b] S = .ok (dI (if b = true then 1 else 0)) S := rfl
@[simp] theorem fMax2_e {i j : Int} : fMax2 [dI i, dI j] S = .ok (dI (if j > i then j else i)) S := rfl
@[simp] theorem fMin2_e {i j : Int} : fMin2 [dI i, dI j] S = .ok (dI (if j < i then j else i)) S := rfl
theorem intLP {xs : List Int} : intL S [dL (xs.map .int)] = some xs := by
  show intsD ((xs.map PyData.int).map D.py) = _
  exact intsD_map2 xs
theorem intLM {n : Nat} {xs : List Int} (h : S[n]? = some (.lst ((xs.map PyData.int).map .py))) : intL S [.loc n] = some xs := by
  unfold intL
  simp only [seqOf, h]
  exact intsD_map2 xs
@[simp] theorem fMax_e {xs : List Int} : fMax [dL (xs.map .int)] S = if xs ≠ [] then .ok (dI (maxI xs)) S else .bad := by
  unfold fMax fMaxI; rw [intLP]
@[simp] theorem fMin_e {xs : List Int} : fMin [dL (xs.map .int)] S = if xs ≠ [] then .ok (dI (minI xs)) S else .bad := by
  unfold fMin fMinI; rw [intLP]
@[simp] theorem fSum_e {xs : List Int} : fSum [dL (xs.map .int)] S = .ok (dI xs.sum) S := by
  unfold fSum; rw [intLP]
@[simp] theorem fSort_e {xs : List Int} : fSort [dL (xs.map .int)] S = .ok (dL ((sortI xs).map .int)) S := by
  unfold fSort; rw [intLP]
@[simp] theorem fSSet_e {xs : List Int} : fSSet [dL (xs.map .int)] S = if xs.length < 64 then .ok (dL ((asc xs).map .int)) S else .bad := by
  unfold fSSet; rw [intLP]
@[simp] theorem fTupleT_e {xs : List PyData} : fTuple [dT xs] S = .ok (dT xs) S := rfl
@[simp] theorem fTupleL_e {xs : List PyData} : fTuple [dL xs] S = .ok (dT xs) S := by
  unfold fTuple; simp [seqOf]
theorem fTupleM {n : Nat} {xs : List PyData} (h : S[n]? = some (.lst (xs.map .py))) : fTuple [.loc n] S = .ok (dT xs) S := by
  unfold fTuple; simp [seqOf, h]
@[simp] theorem fListL_e {xs : List PyData} : fList [dL xs] S = .ok (dL xs) S := by
  unfold fList; simp [seqOf]
@[simp] theorem fListT_e {xs : List PyData} : fList [dT xs] S = .ok (dL xs) S := by
  unfold fList; simp [seqOf]
@[simp] theorem fRgT_e {n : Int} : fRgT [dI n] S = if n ≤ 1000000 ∧ -1000000 ≤ n then .ok (dT ((rgI 0 n).map .int)) S else .bad := rfl
@[simp] theorem fRgL_e {n : Int} : fRgL [dI n] S = if n ≤ 1000000 ∧ -1000000 ≤ n then .ok (dL ((rgI 0 n).map .int)) S else .bad := rfl
@[simp] theorem fRgM_e {n : Int} : fRgM [dI n] S = if n ≤ 1000000 ∧ -1000000 ≤ n then .ok (.loc S.length) (S ++ [.lst ((rgI 0 n).map fun i => .py (.int i))]) else .bad := rfl
/-! items -/
theorem atI_nn {α : Type} {xs : List α} {i : Int} (h : 0 ≤ i) : L2.atI xs i = xs[i.toNat]? := by
  unfold L2.atI L2.ixN
  rw [if_pos h]
  by_cases h1 : i < xs.length
  · rw [if_pos h1]; rfl
  · rw [if_neg h1, List.getElem?_eq_none (by omega)]; rfl
theorem atI_m1 {α : Type} {xs : List α} : L2.atI xs (-1) = xs.getLast? := by
  unfold L2.atI L2.ixN
  rw [if_neg (by decide)]
  cases xs with
  | nil => rfl
  | cons x r =>
    rw [if_pos (by simp only [List.length_cons]; omega), List.getLast?_eq_getElem?]
    show (x :: r)[((-1 : Int) + ((x :: r).length : Nat)).toNat]? = _
    congr 1
    omega
theorem ixL {xs : List PyData} {i : Int} {v : PyData} (h0 : 0 ≤ i) (h : xs[i.toNat]? = some v) : dIxD (dL xs) (dI i) S = .ok (.py v) S := by
  unfold dIxD dIx
  simp only [seqOf]
  rw [atI_nn h0, List.getElem?_map, h]; rfl
theorem ixT {xs : List PyData} {i : Int} {v : PyData} (h0 : 0 ≤ i) (h : xs[i.toNat]? = some v) : dIxD (dT xs) (dI i) S = .ok (.py v) S := by
  unfold dIxD dIx
  simp only [seqOf]
  rw [atI_nn h0, List.getElem?_map, h]; rfl
theorem ixM {n : Nat} {xs : List D} {i : Int} {v : D} (hS : S[n]? = some (.lst xs)) (h0 : 0 ≤ i) (h : xs[i.toNat]? = some v) : dIxD (.loc n) (dI i) S = .ok v S := by
  unfold dIxD dIx
  simp only [seqOf, hS]
  rw [atI_nn h0, h]
theorem ixL1 {xs : List PyData} {v : PyData} (h : xs.getLast? = some v) : dIxD (dL xs) (dI (-1)) S = .ok (.py v) S := by
  unfold dIxD dIx
  simp only [seqOf]
  rw [atI_m1, List.getLast?_map, h]; rfl
theorem ixT1 {xs : List PyData} {v : PyData} (h : xs.getLast? = some v) : dIxD (dT xs) (dI (-1)) S = .ok (.py v) S := by
  unfold dIxD dIx
  simp only [seqOf]
  rw [atI_m1, List.getLast?_map, h]; rfl
theorem ixLi {xs : List Int} {i v : Int} (h0 : 0 ≤ i) (h : xs[i.toNat]? = some v) : dIxD (dL (xs.map .int)) (dI i) S = .ok (dI v) S := ixL h0 (by rw [List.getElem?_map, h]; rfl)
theorem ixTi {xs : List Int} {i v : Int} (h0 : 0 ≤ i) (h : xs[i.toNat]? = some v) : dIxD (dT (xs.map .int)) (dI i) S = .ok (dI v) S := ixT h0 (by rw [List.getElem?_map, h]; rfl)
@[simp] theorem ixT0 {x : PyData} {r : List PyData} : dIxD (dT (x :: r)) (dI 0) S = .ok (.py x) S := ixT (Int.le_refl 0) rfl
@[simp] theorem ixT01 {x y : PyData} {r : List PyData} : dIxD (dT (x :: y :: r)) (dI 1) S = .ok (.py y) S := ixT (by decide) rfl
@[simp] theorem ixL0 {x : PyData} {r : List PyData} : dIxD (dL (x :: r)) (dI 0) S = .ok (.py x) S := ixL (Int.le_refl 0) rfl
@[simp] theorem ixL01 {x y : PyData} {r : List PyData} : dIxD (dL (x :: y :: r)) (dI 1) S = .ok (.py y) S := ixL (by decide) rfl
/-! slices -/
@[simp] theorem slT_e {xs : List PyData} {lo hi : Option Int} : dSl (dT xs) lo hi S = .ok (dT (cutD xs lo hi)) S := rfl
@[simp] theorem slL_e {xs : List PyData} {lo hi : Option Int} : dSl (dL xs) lo hi S = .ok (dL (cutD xs lo hi)) S := by
  unfold dSl
  simp [seqOf]
@[simp] theorem slS_e {ns : List Int} {lo hi : Option Int} : dSl (.scr ns) lo hi S = .ok (dL ((cutD ns lo hi).map .int)) S := by
  unfold dSl
  simp only [seqOf]
  have : (ns.map fun i => D.py (.int i)) = (ns.map PyData.int).map D.py := by rw [List.map_map]; rfl
  rw [this, pys_map]
  simp only [cutD, List.length_map, ← List.map_drop, ← List.map_take]
theorem cut_to {α : Type} (xs : List α) (n : Nat) : cutD xs none (some (n : Int)) = xs.take n := by
  unfold cutD
  rw [HT.sIx_none, HT.sIx_nat, List.drop_zero, Nat.sub_zero, List.take_eq_take_iff]
  omega
theorem cut_from {α : Type} (xs : List α) (n : Nat) : cutD xs (some (n : Int)) none = xs.drop n := by
  unfold cutD
  rw [HT.sIx_none, HT.sIx_nat]
  by_cases h : n ≤ xs.length
  · rw [Nat.min_eq_left h, List.take_of_length_le (by rw [List.length_drop]; omega)]
  · rw [Nat.min_eq_right (by omega), List.drop_eq_nil_of_le (Nat.le_refl _), List.drop_eq_nil_of_le (by omega), List.take_nil]
/-! statements -/
@[simp] theorem xPass_e : xPass env S = .ok (.nx env) S := rfl
@[simp] theorem xBrk_e : xBrk env S = .ok (.bk env) S := rfl
@[simp] theorem xCnt_e : xCnt env S = .ok (.ct env) S := rfl
@[simp] theorem xSeq_e : xSeq m1 m2 env S = (match m1 env S with | .ok (.nx env1) S1 => m2 env1 S1 | r => r) := rfl
@[simp] theorem xDrop_e : xDrop f env S = (f env S).bindX env fun _ S1 => .ok (.nx env) S1 := rfl
@[simp] theorem xRet_e : xRet f env S = (f env S).bindX env fun d S1 => .ok (.rt d) S1 := rfl
@[simp] theorem xRetN_e : xRetN env S = .ok (.rt dN) S := rfl
@[simp] theorem xIfS_e : xIfS t m1 m2 env S = (t env S).bindX env fun b S1 => if b = true then m1 env S1 else m2 env S1 := rfl
@[simp] theorem xSet_e {i : Nat} : xSet i f env S = (f env S).bindX env fun d S1 => .ok (.nx (env.set i (some d))) S1 := rfl
@[simp] theorem xAsg_e {tg : Tg} : xAsg tg f env S = (f env S).bindX env fun d S1 => match bindT S1 tg d env with
  | some env1 => .ok (.nx env1) S1
  | none => .bad := rfl
@[simp] theorem xFor_e {ix : IX} {tg : Tg} : xFor ix tg m env S = (ix env S).bindX env fun p S1 => forL tg m p.2 p.1 env S1 := rfl
@[simp] theorem xIt_e : xIt f env S = (f env S).bind iSeq := rfl
@[simp] theorem xRg1_e : xRg1 k env S = (k env S).bind iR1 := rfl
@[simp] theorem xRg2_e : xRg2 k env S = (k env S).bind iR2 := rfl
@[simp] theorem xRg3_e : xRg3 k env S = (k env S).bind iR3 := rfl
@[simp] theorem xZip_e : xZip k env S = (k env S).bind iZip := rfl
@[simp] theorem xEnm_e : xEnm k env S = (k env S).bind iEnm := rfl
@[simp] theorem xRev_e : xRev f env S = (f env S).bind iRev := rfl
@[simp] theorem iR1_e {n : Int} : iR1 [dI n] S = if -1000000000 ≤ n ∧ n ≤ 1000000000 then .ok ((rgI 0 n).map fun i => .py (.int i), none) S else .bad := rfl
@[simp] theorem iR2_e {a n : Int} : iR2 [dI a, dI n] S = if (-1000000000 ≤ a ∧ a ≤ 1000000000) ∧ -1000000000 ≤ n ∧ n ≤ 1000000000 then .ok ((rgI a n).map fun i => .py (.int i), none) S else .bad := rfl
@[simp] theorem iSeqL_e {xs : List PyData} : iSeq (dL xs) S = .ok (xs.map .py, none) S := rfl
@[simp] theorem iSeqT_e {xs : List PyData} : iSeq (dT xs) S = .ok (xs.map .py, none) S := rfl
@[simp] theorem iSeqS_e {ns : List Int} : iSeq (.scr ns) S = .ok (ns.map fun i => .py (.int i), none) S := rfl
theorem iSeqM {n : Nat} {xs : List D} (h : S[n]? = some (.lst xs)) : iSeq (.loc n) S = .ok (xs, some (n, xs)) S := by
  unfold iSeq; simp [h]
@[simp] theorem iZipT_e {xs ys : List PyData} (h : zOk xs ys = true) : iZip [dT xs, dT ys] S = .ok ((List.zipWith pairP xs ys).map .py, none) S := if_pos ⟨.inl rfl, h⟩
@[simp] theorem iZipL_e {xs ys : List PyData} (h : zOk xs ys = true) : iZip [dL xs, dL ys] S = .ok ((List.zipWith pairP xs ys).map .py, none) S := if_pos ⟨.inl rfl, h⟩
@[simp] theorem zOk_li (ns : List Int) (ys : List PyData) : zOk (ns.map PyData.int) ys = true := zOk_l ns ys
@[simp] theorem zOk_ri (ns : List Int) (xs : List PyData) : zOk xs (ns.map PyData.int) = true := zOk_r ns xs
@[simp] theorem bindN_e {i : Nat} : bindT S (.nm i) d env = some (env.set i (some d)) := rfl
@[simp] theorem bind2_e {t1 t2 : Tg} {x y : PyData} : bindT S (.tp [t1, t2]) (dT [x, y]) env = (match bindT S t1 (.py x) env with | some env1 => bindT S t2 (.py y) env1 | none => none) := by
  have e : bindT S (.tp [t1, t2]) (dT [x, y]) env = bindTs S [t1, t2] [.py x, .py y] env := rfl
  rw [e]
  unfold bindTs
  cases bindT S t1 (.py x) env with
  | none => rfl
  | some e1 =>
    simp only
    unfold bindTs
    cases bindT S t2 (.py y) e1 with
    | none => rfl
    | some e2 => rfl
end
/-! comprehensions -/
section
variable {t : Tg} {ft : TX} {fe : EX} {ix : IX} {env : Envr} {S : Sto} {vs : List Nat}
theorem xComp_e : xComp ix t ft fe vs env S = (ix env S).bind fun p S1 => if p.1.length ≤ 1000000 then (compL t ft fe p.2 (wipeE env vs) p.1 S1).bind fun ds S2 => .ok (dL ds) S2 else .bad := rfl
/-- items by values, nothing stored -/
theorem compL_map {α : Type} (c : α → D) (p : α → Bool) (h : α → PyData) : ∀ (ys : List α), (∀ y ∈ ys, ∃ env1, bindT S t (c y) env = some env1 ∧ ft env1 S = .ok (p y) S ∧ (p y = true → fe env1 S = .ok (.py (h y)) S)) →
    compL t ft fe none env (ys.map c) S = .ok ((ys.filter p).map h) S
  | [], _ => by
    unfold compL
    simp [Stays]
  | y :: ys, H => by
    obtain ⟨env1, e1, e2, e3⟩ := H y List.mem_cons_self
    have ih := compL_map c p h ys fun z hz => H z (List.mem_cons_of_mem _ hz)
    rw [List.map_cons]
    unfold compL
    rw [if_pos (by trivial), e1]
    simp only [e2]
    cases q : p y with
    | true => simp only [e3 q, ih, bind_ok]; rw [List.filter_cons_of_pos q]; rfl
    | false => simp only [ih]; rw [List.filter_cons_of_neg (by simp [q])]
theorem xComp_map {α : Type} (c : α → D) (p : α → Bool) (h : α → PyData) {ys : List α} (hi : ix env S = .ok (ys.map c, none) S) (hl : ys.length ≤ 1000000) (H : ∀ y ∈ ys, ∃ env1, bindT S t (c y) (wipeE env vs) = some env1 ∧ ft env1 S = .ok (p y) S ∧ (p y = true → fe env1 S = .ok (.py (h y)) S)) :
    xComp ix t ft fe vs env S = .ok (dL ((ys.filter p).map h)) S := by
  rw [xComp_e, hi]
  simp only [bind_ok]
  rw [if_pos (by rw [List.length_map]; exact hl), compL_map c p h ys H]; rfl
theorem xComp_all {α : Type} (c : α → D) (h : α → PyData) {ys : List α} (hi : ix env S = .ok (ys.map c, none) S) (hl : ys.length ≤ 1000000) (H : ∀ y ∈ ys, ∃ env1, bindT S t (c y) (wipeE env vs) = some env1 ∧ fe env1 S = .ok (.py (h y)) S) :
    xComp ix t xYes fe vs env S = .ok (dL (ys.map h)) S := by
  have := xComp_map (ft := xYes) (vs := vs) c (fun _ => true) h hi hl fun y hy => by
    obtain ⟨e1, h1, h2⟩ := H y hy
    exact ⟨e1, h1, rfl, fun _ => h2⟩
  rw [List.filter_eq_self.mpr (fun _ _ => rfl)] at this
  exact this
/-- items with a state: I by what is left -/
theorem compL_inv {α : Type} (c : α → D) (P : PyData → Prop) (I : Nat → Sto → Prop) : ∀ (ys : List α) (S : Sto), I ys.length S →
    (∀ y ∈ ys, ∀ j S, I (j + 1) S → ∃ env1 d S', bindT S t (c y) env = some env1 ∧ ft env1 S = .ok true S ∧ fe env1 S = .ok (.py d) S' ∧ P d ∧ I j S') →
    ∃ ds S', compL t ft fe none env (ys.map c) S = .ok ds S' ∧ ds.length = ys.length ∧ (∀ d ∈ ds, P d) ∧ I 0 S'
  | [], S, h0, _ => ⟨[], S, by unfold compL; simp [Stays], rfl, fun d hd => (by cases hd), h0⟩
  | y :: ys, S, h0, H => by
    obtain ⟨env1, d, S1, e1, e2, e3, hp, h1⟩ := H y List.mem_cons_self ys.length S h0
    obtain ⟨ds, S2, e4, hl, hP, h2⟩ := compL_inv c P I ys S1 h1 fun z hz => H z (List.mem_cons_of_mem _ hz)
    refine ⟨d :: ds, S2, ?_, by simp [hl], fun z hz => ?_, h2⟩
    · rw [List.map_cons]
      unfold compL
      rw [if_pos (by trivial), e1]
      simp only [e2, e3, e4, bind_ok]
    · rcases List.mem_cons.mp hz with rfl | hz
      · exact hp
      · exact hP z hz
theorem xComp_inv {α : Type} (c : α → D) (P : PyData → Prop) (I : Nat → Sto → Prop) {ys : List α} (hi : ix env S = .ok (ys.map c, none) S) (hl : ys.length ≤ 1000000) (h0 : I ys.length S)
    (H : ∀ y ∈ ys, ∀ j S, I (j + 1) S → ∃ env1 d S', bindT S t (c y) (wipeE env vs) = some env1 ∧ ft env1 S = .ok true S ∧ fe env1 S = .ok (.py d) S' ∧ P d ∧ I j S') :
    ∃ ds S', xComp ix t ft fe vs env S = .ok (dL ds) S' ∧ ds.length = ys.length ∧ (∀ d ∈ ds, P d) ∧ I 0 S' := by
  obtain ⟨ds, S', e, h1, h2, h3⟩ := compL_inv (t := t) (ft := ft) (fe := fe) (env := wipeE env vs) c P I ys S h0 H
  refine ⟨ds, S', ?_, h1, h2, h3⟩
  rw [xComp_e, hi]
  simp only [bind_ok]
  rw [if_pos (by rw [List.length_map]; exact hl), e]; rfl
/-- a for whose body always goes on; I by what is left -/
theorem forL_inv {α : Type} {fb : SX} (c : α → D) (I : Nat → Envr → Sto → Prop) : ∀ (ys : List α) (env : Envr) (S : Sto), I ys.length env S →
    (∀ y ∈ ys, ∀ j env S, I (j + 1) env S → ∃ env1 env2 S', bindT S t (c y) env = some env1 ∧ fb env1 S = .ok (.nx env2) S' ∧ I j env2 S') →
    ∃ env' S', forL t fb none (ys.map c) env S = .ok (.nx env') S' ∧ I 0 env' S'
  | [], env, S, h0, _ => ⟨env, S, by unfold forL; simp [Stays], h0⟩
  | y :: ys, env, S, h0, H => by
    obtain ⟨env1, env2, S1, e1, e2, h1⟩ := H y List.mem_cons_self ys.length env S h0
    obtain ⟨env3, S3, e3, h3⟩ := forL_inv c I ys env2 S1 h1 fun z hz => H z (List.mem_cons_of_mem _ hz)
    refine ⟨env3, S3, ?_, h3⟩
    rw [List.map_cons]
    unfold forL
    rw [if_pos (by trivial), e1]
    simp only [e2, e3]
/-- the same with the items that are done -/
theorem forL_done {α : Type} {fb : SX} (c : α → D) (I : List α → Envr → Sto → Prop) : ∀ (ys pre : List α) (env : Envr) (S : Sto), I pre env S →
    (∀ a y b env S, pre ++ ys = a ++ y :: b → I a env S → ∃ env1 env2 S', bindT S t (c y) env = some env1 ∧ fb env1 S = .ok (.nx env2) S' ∧ I (a ++ [y]) env2 S') →
    ∃ env' S', forL t fb none (ys.map c) env S = .ok (.nx env') S' ∧ I (pre ++ ys) env' S'
  | [], pre, env, S, h0, _ => ⟨env, S, by unfold forL; simp [Stays], by simpa using h0⟩
  | y :: ys, pre, env, S, h0, H => by
    obtain ⟨env1, env2, S1, e1, e2, h1⟩ := H pre y ys env S rfl h0
    obtain ⟨env3, S3, e3, h3⟩ := forL_done c I ys (pre ++ [y]) env2 S1 h1 fun a z b env S hz => H a z b env S (by rw [← hz]; simp)
    refine ⟨env3, S3, ?_, by simpa using h3⟩
    rw [List.map_cons]
    unfold forL
    rw [if_pos (by trivial), e1]
    simp only [e2, e3]
end
/-! trims -/
theorem xTrim_ok {fx : FX} {ds : List D} {S S' : Sto} {r : D} (h : fx ds S = .ok r S') (hk : okTrim S S') : xTrim fx ds S = (match fixD S.length S' r with | some d => .ok d (S'.take S.length) | none => .ok r S') := by
  unfold xTrim
  rw [h]
  simp only
  rw [if_pos hk]
  try (cases fixD S.length S' r <;> rfl)
theorem okTrim_app {S J : Sto} : okTrim S (S ++ J) := fun i o hi e => .inl (by rw [List.getElem?_append_left hi] at e; exact e)
theorem trim_pure {fx : FX} {ds : List D} {S J : Sto} {d : PyData} (h : fx ds S = .ok (.py d) (S ++ J)) : shutF (xTrim fx) ds S = .ok (.py d) S := by
  rw [shutF_eq, xTrim_ok h okTrim_app]
  simp [fixD]
theorem trim_same {fx : FX} {ds : List D} {S : Sto} {d : PyData} (h : fx ds S = .ok (.py d) S) : shutF (xTrim fx) ds S = .ok (.py d) S := trim_pure (J := []) (by rw [h, List.append_nil])
theorem trim_new {fx : FX} {ds : List D} {S J : Sto} {n : Nat} {xs : List PyData} (h : fx ds S = .ok (.loc n) (S ++ J)) (hn : S.length ≤ n) (hx : (S ++ J)[n]? = some (.lst (xs.map .py))) : shutF (xTrim fx) ds S = .ok (dL xs) S := by
  rw [shutF_eq, xTrim_ok h okTrim_app]
  have : fixD S.length (S ++ J) (.loc n) = some (dL xs) := by
    unfold fixD
    simp only
    rw [if_neg (Nat.not_lt.mpr hn), hx]
    simp
  rw [this]
  simp
/-- the deck's two objects in front, what is behind stays -/
theorem trim_to {fx : FX} {ds : List D} {S S' J : Sto} {d : PyData} (h : fx ds S = .ok (.py d) (S' ++ J)) (hl : S'.length = S.length) (hk : okTrim S S') : shutF (xTrim fx) ds S = .ok (.py d) S' := by
  have hk' : okTrim S (S' ++ J) := fun i o hi e => hk i o hi (by rw [List.getElem?_append_left (by omega)] at e; exact e)
  rw [shutF_eq, xTrim_ok h hk']
  simp only [fixD]
  rw [← hl, List.take_left']
  rfl
end DL
end
section
set_option maxRecDepth 100000
set_option maxHeartbeats 1000000
/-! DM1: the deck and what is drawn from it. -/
namespace QQ
open PySem DL
/-- the two objects of the deck, and what is behind -/
def St (cs : List Int) (k : Int) (T : Sto) : Sto := .lst (cs.map fun i => .py (.int i)) :: .lst [.loc 0, .py (.int k)] :: T
/-- a deck of which n may still be drawn -/
structure Dk (n : Nat) (T S : Sto) : Prop where
  ex : ∃ cs k, S = St cs k T ∧ (∀ c ∈ cs, 0 ≤ c) ∧ cs.length ≤ 63 ∧ 0 ≤ k ∧ k + n ≤ 1000000000000
theorem Dk.mono {n m : Nat} {T S : Sto} (h : Dk n T S) (l : m ≤ n) : Dk m T S := by
  obtain ⟨cs, k, e, h1, h2, h3, h4⟩ := h.ex
  exact ⟨cs, k, e, h1, h2, h3, by omega⟩
theorem Dk.len {n : Nat} {T S : Sto} (h : Dk n T S) : S.length = T.length + 2 := by
  obtain ⟨cs, k, e, _⟩ := h.ex
  rw [e]; rfl
theorem Dk.ok {n m : Nat} {T S S' : Sto} (h : Dk n T S) (h' : Dk m T S') : okTrim S S' := by
  obtain ⟨cs, k, e, _⟩ := h.ex
  obtain ⟨cs', k', e', _⟩ := h'.ex
  subst e e'
  intro i o hi ho
  match i, hi, ho with
  | 0, _, ho =>
    cases ho
    refine .inr ?_
    show List.all _ _ = true
    rw [List.all_map]
    exact List.all_eq_true.mpr fun _ _ => rfl
  | 1, _, ho =>
    cases ho
    refine .inr ?_
    show ([D.loc 0, D.py (.int k')].all (closedD (St cs k T).length)) = true
    simp [closedD, St]
  | i + 2, _, ho => exact .inl ho
/-- one more object behind -/
theorem Dk.push {n : Nat} {T S : Sto} (h : Dk n T S) (o : SO) : Dk n (T ++ [o]) (S ++ [o]) := by
  obtain ⟨cs, k, e, h1, h2, h3, h4⟩ := h.ex
  exact ⟨cs, k, by rw [e]; rfl, h1, h2, h3, h4⟩
theorem Dk.pop {n : Nat} {T S J : Sto} (h : Dk n (T ++ J) S) : ∃ S', S = S' ++ J ∧ Dk n T S' := by
  obtain ⟨cs, k, e, h1, h2, h3, h4⟩ := h.ex
  exact ⟨St cs k T, by rw [e]; simp [St], ⟨cs, k, rfl, h1, h2, h3, h4⟩⟩
/-- an object behind the deck, read and written -/
theorem Dk.get {n : Nat} {T S : Sto} (h : Dk n T S) (i : Nat) : S[i + 2]? = T[i]? := by
  obtain ⟨cs, k, e, _⟩ := h.ex
  rw [e]; rfl
theorem Dk.set {n : Nat} {T S : Sto} (h : Dk n T S) (i : Nat) (o : SO) : Dk n (T.set i o) (S.set (i + 2) o) := by
  obtain ⟨cs, k, e, h1, h2, h3, h4⟩ := h.ex
  exact ⟨cs, k, by rw [e]; rfl, h1, h2, h3, h4⟩
/-- what a call leaves is cut off -/
theorem Dk.trim {fx : FX} {ds : List D} {n m : Nat} {T S S' J : Sto} {d : PyData} (h : Dk n T S) (h' : Dk m (T ++ J) S') (e : fx ds S = .ok (.py d) S') : ∃ S'', shutF (xTrim fx) ds S = .ok (.py d) S'' ∧ Dk m T S'' := by
  obtain ⟨S'', rfl, h''⟩ := h'.pop
  exact ⟨S'', trim_to e (by rw [h.len, h''.len]) (h.ok h''), h''⟩

theorem compM_all {α : Type} {t : Tg} {fe : EX} {ix : IX} {env : Envr} {S : Sto} {vs : List Nat} (c : α → D) (h : α → PyData) {ys : List α} (hi : ix env S = .ok (ys.map c, none) S) (hl : ys.length ≤ 1000000) (H : ∀ y ∈ ys, ∃ env1, bindT S t (c y) (wipeE env vs) = some env1 ∧ fe env1 S = .ok (.py (h y)) S) :
    xCompM ix t xYes fe vs env S = .ok (.loc S.length) (S ++ [.lst ((ys.map h).map .py)]) := by
  unfold xCompM
  rw [hi]
  simp only [bind_ok]
  rw [if_pos (by rw [List.length_map]; exact hl)]
  have := compL_map (t := t) (ft := xYes) (fe := fe) (env := wipeE env vs) (S := S) c (fun _ => true) h ys fun y hy => by
    obtain ⟨e1, h1, h2⟩ := H y hy
    exact ⟨e1, h1, rfl, fun _ => h2⟩
  rw [List.filter_eq_self.mpr (fun _ _ => rfl)] at this
  rw [this]; rfl
def absI (i : Int) : Int := if i < 0 then -i else i
theorem deck_eq (ns : List Int) : f_deck [.scr ns] [] = .ok (.loc 1) (St ((ns.take 63).map absI) 0 []) := by
  have e : xBody 2 m_deck [.scr ns] [] = .ok (.loc 1) (St ((ns.take 63).map absI) 0 []) := by
    have e1 : xCompM (xIt (xSl (xV 0) xNoPart (xPart (xC (.int 63))))) (.nm 1) xYes (xCB fAbs (xCons (xV 1) xNil)) [1] [some (.scr ns), none] [] = .ok (.loc 0) [.lst (((ns.take 63).map absI).map fun i => .py (.int i))] := by
      rw [compM_all (fun i : Int => D.py (.int i)) (fun i => .int (absI i)) (ys := ns.take 63) ?_ (by rw [List.length_take]; omega) ?_]
      · simp [List.map_map]; rfl
      · simp
        have := cut_to ns 63
        rw [show ((63 : Nat) : Int) = 63 from rfl] at this
        rw [this, ← List.map_take]; rfl
      · intro y _
        refine ⟨_, bindN_e, ?_⟩
        simp [wipeE, absI]
    unfold xBody m_deck env0
    simp [e1, St]
  unfold f_deck
  rw [shutF_eq]
  unfold xTrim
  rw [e]
  simp only
  split
  · rfl
  · rfl


theorem deck_ok (ns : List Int) (h : ns.length ≤ 63) : ∃ S, f_deck [.scr ns] [] = .ok (.loc 1) S ∧ Dk 1000000000000 [] S := by
  refine ⟨_, deck_eq ns, ⟨_, 0, rfl, fun c hc => ?_, ?_, Int.le_refl 0, by decide⟩⟩
  · obtain ⟨i, _, rfl⟩ := List.mem_map.mp hc
    unfold absI
    split <;> omega
  · rw [List.length_map, List.length_take]; omega
theorem set_at {cs : List Int} {i : Nat} {v : Int} : (cs.map fun i => D.py (.int i)).set i (.py (.int v)) = (cs.set i v).map fun i => D.py (.int i) := by
  rw [List.map_set]
theorem pow5_lt {x : Int} (h0 : 0 ≤ x) (h : x < 9223372036854775808) : x.natAbs < 2 ^ 64 := by omega
/-- the draw: below the limit, the deck goes on -/
theorem draw_body {n : Nat} {T S : Sto} (l : Int) (h : Dk (n + 1) T S) (l0 : 0 < l) (l1 : l < 1073741824) : ∃ v S', xBody 4 m_draw [.loc 1, dI l] S = .ok (dI v) S' ∧ 0 ≤ v ∧ v < l ∧ Dk n T S' := by
  obtain ⟨cs, k, e, h1, h2, h3, h4⟩ := h.ex
  subst e
  have hst : xStore (xV 0) (xC (.int 1)) (xBin dAdd (xBin dIxD (xV 0) (xC (.int 1))) (xC (.int 1))) [some (.loc 1), some (dI l), none, none] (St cs k T) = .ok (.nx [some (.loc 1), some (dI l), none, none]) (St cs (k + 1) T) := by
    unfold xStore
    simp [ixM (n := 1) (S := St cs k T) (xs := [.loc 0, .py (.int k)]) (i := 1) (v := dI k) rfl (by decide) rfl]
    rfl
  have hlen : fLen [.loc 0] (St cs (k + 1) T) = .ok (dI cs.length) (St cs (k + 1) T) := by
    rw [fLenM (xs := cs.map fun i => .py (.int i)) rfl, List.length_map]
  have hk : dIxD (.loc 1) (dI 1) (St cs (k + 1) T) = .ok (dI (k + 1)) (St cs (k + 1) T) := ixM (xs := [.loc 0, .py (.int (k + 1))]) rfl (by decide) rfl
  have hc : dIxD (.loc 1) (dI 0) (St cs (k + 1) T) = .ok (.loc 0) (St cs (k + 1) T) := ixM (xs := [.loc 0, .py (.int (k + 1))]) rfl (by decide) rfl
  have hend : ∀ (c : Int) (j : Int), 0 ≤ c → ∃ v, (xRet (xBin dMod (xBin dDiv (xBin dMod (xBin dPow (xBin dAdd (xBin dAdd (xBin dMod (xV 2) (xC (.int 2147483587))) (xBin dMul (xC (.int 7919)) (xBin dIxD (xV 0) (xC (.int 1))))) (xC (.int 1))) (xC (.int 5))) (xC (.int 2147483647))) (xC (.int 7))) (xV 1))) [some (.loc 1), some (dI l), some (dI c), some (dI j)] (St cs (k + 1) T) = .ok (.rt (dI v)) (St cs (k + 1) T) ∧ 0 ≤ v ∧ v < l := fun c j hc0 => by
    have b1 : 0 ≤ c % 2147483587 := Int.emod_nonneg _ (by decide)
    have b2 : c % 2147483587 < 2147483587 := Int.emod_lt_of_pos _ (by decide)
    have b3 : (c % 2147483587 + 7919 * (k + 1) + 1).natAbs < 18446744073709551616 := by omega
    refine ⟨((c % 2147483587 + 7919 * (k + 1) + 1) ^ 5 % 2147483647 / 7) % l, ?_, Int.emod_nonneg _ (by omega), Int.emod_lt_of_pos _ l0⟩
    simp [hk, b3, l0]
  have p18 : dPow (dI 10) (dI 18) (St cs (k + 1) T) = .ok (dI 1000000000000000000) (St cs (k + 1) T) := by
    rw [dPow_e, if_pos (by decide)]; rfl
  have hD : Dk n T (St cs (k + 1) T) := ⟨cs, k + 1, rfl, h1, h2, by omega, by omega⟩
  by_cases hn : cs = []
  · subst hn
    obtain ⟨v, e1, v0, v1⟩ := hend 0 (-1) (Int.le_refl 0)
    refine ⟨v, _, ?_, v0, v1, hD⟩
    unfold xBody m_draw env0
    rw [show ([D.loc 1, dI l].map some ++ List.replicate (4 - [D.loc 1, dI l].length) none : Envr) = [some (.loc 1), some (dI l), none, none] from rfl]
    rw [xSeq_e, hst]
    simp only
    rw [xSeq_e]
    simp only [xAsg_e, xTup_e, xCons_e, xC_e, xNeg_e, xNil_e, bind_ok, pys_cons, pys_nil, Option.map_some, List.length_cons, List.length_nil]
    rw [if_pos (by decide)]
    simp only [bindX_ok, bind2_e, bindN_e, List.set_cons_succ, List.set_cons_zero]
    rw [xSeq_e]
    simp only [xIfS_e, xT_e, xBin_e, xCB_e, xV_e, xCons_e, xNil_e, xC_e, List.getElem?_cons_succ, List.getElem?_cons_zero, bind_ok, hc, hlen, dCmp_e, asB_e, bindX_ok]
    rw [if_neg (by decide)]
    simp only [xPass_e]
    rw [xSeq_e]
    simp only [xIfS_e, xT_e, xBin_e, xV_e, xC_e, List.getElem?_cons_succ, List.getElem?_cons_zero, bind_ok, p18, dCmp_e, asB_e, bindX_ok]
    rw [if_neg (by decide)]
    simp only [xPass_e]
    rw [e1]
  · have hpos : 0 < cs.length := List.length_pos_iff.mpr hn
    have hi0 : 0 ≤ (k + 1) % (cs.length : Int) := Int.emod_nonneg _ (by omega)
    have hi1 : (k + 1) % (cs.length : Int) < cs.length := Int.emod_lt_of_pos _ (by omega)
    generalize hj : (k + 1) % (cs.length : Int) = j at hi0 hi1
    have hjl : j.toNat < cs.length := by omega
    have hcell : dIxD (.loc 0) (dI j) (St cs (k + 1) T) = .ok (dI cs[j.toNat]) (St cs (k + 1) T) := ixM (xs := cs.map fun i => .py (.int i)) rfl hi0 (by rw [List.getElem?_map, List.getElem?_eq_getElem hjl]; rfl)
    have c0 : 0 ≤ cs[j.toNat] := h1 _ (List.getElem_mem hjl)
    have go : ∀ Z : Res D, (∃ v S', (match (xSeq (xIfS (xT (xBin dGe (xV 2) (xBin dPow (xC (.int 10)) (xC (.int 18))))) (xSeq (xStore (xBin dIxD (xV 0) (xC (.int 0))) (xV 3) (xBin dDiv (xV 2) (xV 1))) (xRet (xBin dMod (xV 2) (xV 1)))) xPass) (xRet (xBin dMod (xBin dDiv (xBin dMod (xBin dPow (xBin dAdd (xBin dAdd (xBin dMod (xV 2) (xC (.int 2147483587))) (xBin dMul (xC (.int 7919)) (xBin dIxD (xV 0) (xC (.int 1))))) (xC (.int 1))) (xC (.int 5))) (xC (.int 2147483647))) (xC (.int 7))) (xV 1)))) [some (.loc 1), some (dI l), some (dI cs[j.toNat]), some (dI j)] (St cs (k + 1) T) with
        | .ok (.rt d) S' => Res.ok d S'
        | .ok (.nx _) S' => Res.ok dN S'
        | _ => .bad) = .ok (dI v) S' ∧ 0 ≤ v ∧ v < l ∧ Dk n T S') := fun _ => by
      by_cases hbig : cs[j.toNat] ≥ 1000000000000000000
      · refine ⟨cs[j.toNat] % l, St (cs.set j.toNat (cs[j.toNat] / l)) (k + 1) T, ?_, Int.emod_nonneg _ (by omega), Int.emod_lt_of_pos _ l0, ⟨_, _, rfl, fun c hc => ?_, by rw [List.length_set]; exact h2, by omega, by omega⟩⟩
        · rw [xSeq_e]
          simp only [xIfS_e, xT_e, xBin_e, xV_e, xC_e, List.getElem?_cons_succ, List.getElem?_cons_zero, bind_ok, p18, dCmp_e, asB_e, bindX_ok]
          rw [if_pos (decide_eq_true hbig)]
          have hs : xStore (xBin dIxD (xV 0) (xC (.int 0))) (xV 3) (xBin dDiv (xV 2) (xV 1)) [some (.loc 1), some (dI l), some (dI cs[j.toNat]), some (dI j)] (St cs (k + 1) T) = .ok (.nx [some (.loc 1), some (dI l), some (dI cs[j.toNat]), some (dI j)]) (St (cs.set j.toNat (cs[j.toNat] / l)) (k + 1) T) := by
            have hset : dSetL (.loc 0) (dI j) (dI (cs[j.toNat] / l)) (St cs (k + 1) T) = some (St (cs.set j.toNat (cs[j.toNat] / l)) (k + 1) T) := by
              unfold dSetL
              simp only [St, List.getElem?_cons_zero, List.length_map]
              have : L2.ixN cs.length j = some j.toNat := by
                unfold L2.ixN
                rw [if_pos hi0, if_pos hi1]
              rw [this]
              simp only
              rw [if_pos (by omega), set_at]
              rfl
            unfold xStore
            simp only [xBin_e, xV_e, xC_e, List.getElem?_cons_succ, List.getElem?_cons_zero, bind_ok, bindX_ok, dDiv_e, hc]
            rw [if_pos ⟨l0, l1⟩]
            simp only [bindX_ok, hc, hset]
          rw [xSeq_e, hs]
          simp only [xRet_e, xBin_e, xV_e, List.getElem?_cons_succ, List.getElem?_cons_zero, bind_ok, dMod_e]
          rw [if_pos l0]
          rfl
        · rcases List.mem_or_eq_of_mem_set hc with z | z
          · exact h1 _ z
          · rw [z]; exact Int.ediv_nonneg c0 (by omega)
      · obtain ⟨v, e1, v0, v1⟩ := hend cs[j.toNat] j c0
        refine ⟨v, _, ?_, v0, v1, hD⟩
        rw [xSeq_e]
        simp only [xIfS_e, xT_e, xBin_e, xV_e, xC_e, List.getElem?_cons_succ, List.getElem?_cons_zero, bind_ok, p18, dCmp_e, asB_e, bindX_ok]
        rw [if_neg (by simpa using hbig)]
        simp only [xPass_e]
        rw [e1]
    obtain ⟨v, S', e, r⟩ := go .bad
    refine ⟨v, S', ?_, r⟩
    rw [← e]
    unfold xBody m_draw env0
    rw [show ([D.loc 1, dI l].map some ++ List.replicate (4 - [D.loc 1, dI l].length) none : Envr) = [some (.loc 1), some (dI l), none, none] from rfl]
    rw [xSeq_e, hst]
    simp only
    rw [xSeq_e]
    simp only [xAsg_e, xTup_e, xCons_e, xC_e, xNeg_e, xNil_e, bind_ok, pys_cons, pys_nil, Option.map_some, List.length_cons, List.length_nil]
    rw [if_pos (by decide)]
    simp only [bindX_ok, bind2_e, bindN_e, List.set_cons_succ, List.set_cons_zero]
    rw [xSeq_e]
    simp only [xIfS_e, xT_e, xBin_e, xCB_e, xV_e, xCons_e, xNil_e, xC_e, List.getElem?_cons_succ, List.getElem?_cons_zero, bind_ok, hc, hlen, dCmp_e, asB_e, bindX_ok]
    rw [if_pos (decide_eq_true (by omega))]
    rw [xSeq_e]
    simp only [xSet_e, xBin_e, xCB_e, xV_e, xCons_e, xNil_e, xC_e, List.getElem?_cons_succ, List.getElem?_cons_zero, bind_ok, hk, hc, hlen, dMod_e]
    rw [if_pos (by omega), hj]
    simp only [bindX_ok, List.set_cons_succ, List.set_cons_zero, hcell, xSet_e, xBin_e, xV_e, xC_e, List.getElem?_cons_succ, List.getElem?_cons_zero, bind_ok, hc]
    try rfl
theorem draw_ok {n : Nat} {T S : Sto} (l : Int) (h : Dk (n + 1) T S) (l0 : 0 < l) (l1 : l < 1073741824) : ∃ v S', f_draw [.loc 1, dI l] S = .ok (dI v) S' ∧ 0 ≤ v ∧ v < l ∧ Dk n T S' := by
  obtain ⟨v, S', e, v0, v1, h'⟩ := draw_body l h l0 l1
  obtain ⟨S'', e2, h2⟩ := h.trim (J := []) (by rw [List.append_nil]; exact h') e
  exact ⟨v, S'', e2, v0, v1, h2⟩
end QQ
end
section
set_option maxRecDepth 100000
set_option maxHeartbeats 1000000
/-! DM2: distinct numbers from the deck. -/
namespace DL
open PySem
theorem compL_acc {α : Type} {t : Tg} {ft : TX} {fe : EX} {env : Envr} (c : α → D) (I : List PyData → Nat → Sto → Prop) : ∀ (ys : List α) (acc : List PyData) (S : Sto), I acc ys.length S →
    (∀ y ∈ ys, ∀ acc j S, I acc (j + 1) S → ∃ env1 d S', bindT S t (c y) env = some env1 ∧ ft env1 S = .ok true S ∧ fe env1 S = .ok (.py d) S' ∧ I (acc ++ [d]) j S') →
    ∃ ds S', compL t ft fe none env (ys.map c) S = .ok ds S' ∧ ds.length = ys.length ∧ I (acc ++ ds) 0 S'
  | [], acc, S, h0, _ => ⟨[], S, by unfold compL; simp [Stays], rfl, by simpa using h0⟩
  | y :: ys, acc, S, h0, H => by
    obtain ⟨env1, d, S1, e1, e2, e3, h1⟩ := H y List.mem_cons_self acc ys.length S h0
    obtain ⟨ds, S2, e4, hl, h2⟩ := compL_acc c I ys (acc ++ [d]) S1 h1 fun z hz => H z (List.mem_cons_of_mem _ hz)
    refine ⟨d :: ds, S2, ?_, by simp [hl], by simpa using h2⟩
    rw [List.map_cons]
    unfold compL
    rw [if_pos (by trivial), e1]
    simp only [e2, e3, e4, bind_ok]
theorem xComp_acc {α : Type} {t : Tg} {ft : TX} {fe : EX} {ix : IX} {env : Envr} {S : Sto} {vs : List Nat} (c : α → D) (I : List PyData → Nat → Sto → Prop) {ys : List α} (hi : ix env S = .ok (ys.map c, none) S) (hl : ys.length ≤ 1000000) (h0 : I [] ys.length S)
    (H : ∀ y ∈ ys, ∀ acc j S, I acc (j + 1) S → ∃ env1 d S', bindT S t (c y) (wipeE env vs) = some env1 ∧ ft env1 S = .ok true S ∧ fe env1 S = .ok (.py d) S' ∧ I (acc ++ [d]) j S') :
    ∃ ds S', xComp ix t ft fe vs env S = .ok (dL ds) S' ∧ ds.length = ys.length ∧ I ds 0 S' := by
  obtain ⟨ds, S', e, h1, h2⟩ := compL_acc (t := t) (ft := ft) (fe := fe) (env := wipeE env vs) c I ys [] S h0 H
  refine ⟨ds, S', ?_, h1, h2⟩
  rw [xComp_e, hi]
  simp only [bind_ok]
  rw [if_pos (by rw [List.length_map]; exact hl), e]; rfl
theorem rgI_length (a b : Int) : (rgI a b).length = (b - a).toNat := by unfold rgI; simp
theorem rgI_mem {a b x : Int} : x ∈ rgI a b ↔ a ≤ x ∧ x < b := by
  unfold rgI
  simp only [List.mem_map, List.mem_range]
  constructor
  · rintro ⟨i, hi, rfl⟩; omega
  · rintro ⟨h1, h2⟩; exact ⟨(x - a).toNat, by omega, by omega⟩
theorem rgI_lt (a b : Int) : (rgI a b).Pairwise (· < ·) := by
  unfold rgI
  rw [List.pairwise_map]
  exact List.pairwise_lt_range.imp fun h => by omega
theorem rgI_nodup (a b : Int) : (rgI a b).Nodup := (rgI_lt a b).imp fun h => by omega
theorem rgI_get {a b : Int} {i : Nat} (h : i < (b - a).toNat) : (rgI a b)[i]? = some (a + i) := by
  unfold rgI
  rw [List.getElem?_map, List.getElem?_range h]; rfl
theorem sort_lt {xs : List Int} (h : xs.Nodup) : (sortI xs).Pairwise (· < ·) := by
  have h1 := sortI_pw xs
  have h2 : (sortI xs).Nodup := (sortI_perm xs).nodup_iff.mpr h
  have := List.Pairwise.and h1 (List.nodup_iff_pairwise_ne.mp h2)
  exact this.imp fun ⟨z1, z2⟩ => by omega
end DL
namespace QQ
open PySem DL
theorem erase_map {α β : Type} (f : α → β) : ∀ (xs : List α) (i : Nat), (xs.map f).eraseIdx i = (xs.eraseIdx i).map f
  | [], _ => rfl
  | _ :: _, 0 => rfl
  | x :: xs, i + 1 => by
    show f x :: (xs.map f).eraseIdx i = f x :: (xs.eraseIdx i).map f
    rw [erase_map f xs i]
theorem erase_perm {α : Type} : ∀ (xs : List α) (i : Nat) (h : i < xs.length), ([xs[i]] ++ xs.eraseIdx i).Perm xs
  | x :: xs, 0, _ => List.Perm.refl _
  | x :: xs, i + 1, h => by
    have ih := erase_perm xs i (Nat.lt_of_succ_lt_succ h)
    show (xs[i]'(Nat.lt_of_succ_lt_succ h) :: x :: xs.eraseIdx i).Perm (x :: xs)
    exact (List.Perm.swap _ _ _).trans (List.Perm.cons x ih)
theorem popAt_ok {n i : Nat} {S : Sto} {xs : List Int} (hS : S[n]? = some (.lst (xs.map fun i => .py (.int i)))) (hi : i < xs.length) (hl : xs.length ≤ 1000000) : mPopAt (.loc n) [dI (i : Nat)] S = .ok (dI xs[i]) (S.set n (.lst ((xs.eraseIdx i).map fun i => .py (.int i)))) := by
  unfold mPopAt
  simp only [hS, List.length_map]
  rw [if_pos ⟨by omega, by omega, hl⟩]
  simp only [Int.toNat_natCast, List.getElem?_map, List.getElem?_eq_getElem hi, Option.map_some]
  rw [erase_map]
theorem distinct_ok {n : Nat} {T S : Sto} (m many : Int) (h : Dk (n + many.toNat) T S) (h0 : 0 ≤ many) (h1 : many ≤ m) (h2 : m ≤ 1000000) :
    ∃ (xs : List Int) (S' : Sto), f_distinct [.loc 1, dI m, dI many] S = .ok (dL (xs.map .int)) S' ∧ xs.Pairwise (· < ·) ∧ (∀ x ∈ xs, 0 ≤ x ∧ x < m) ∧ xs.length = many.toNat ∧ Dk n T S' := by
  have hp : S.length = T.length + 2 := h.len
  have hpush := h.push (.lst ((rgI 0 m).map fun i => .py (.int i)))
  let I : List PyData → Nat → Sto → Prop := fun acc j S => ∃ left xs : List Int, acc = xs.map .int ∧ Dk (n + j) (T ++ [.lst (left.map fun i => .py (.int i))]) S ∧ (xs ++ left).Perm (rgI 0 m) ∧ j ≤ left.length
  have hlen : (rgI 0 many).length = many.toNat := by rw [rgI_length]; simp
  obtain ⟨ds, S1, e1, hl1, left, xs, e2, hd, hperm, _⟩ := xComp_acc (ix := xRg1 (xCons (xV 2) xNil)) (t := .nm 4) (ft := xYes) (fe := xBM "list" mPopAt (xV 3) (xCons (xCall 2 f_draw (xCons (xV 0) (xCons (xCB fLen (xCons (xV 3) xNil)) xNil))) xNil)) (vs := [4])
    (env := [some (.loc 1), some (dI m), some (dI many), some (.loc (T.length + 2)), none]) (S := S ++ [.lst ((rgI 0 m).map fun i => .py (.int i))]) (ys := rgI 0 many) (fun i => D.py (.int i)) I
    (by
      simp only [xRg1_e, xCons_e, xV_e, xNil_e, List.getElem?_cons_succ, List.getElem?_cons_zero, bind_ok, iR1_e]
      rw [if_pos (by omega)])
    (by rw [hlen]; omega)
    ⟨rgI 0 m, [], rfl, by rw [hlen]; exact hpush, by simp, by rw [hlen, rgI_length]; omega⟩
    (by
      rintro y _ acc j S2 ⟨left, xs, rfl, hd, hperm, hj⟩
      have hll : left.length ≤ 1000000 := by
        have := hperm.length_eq
        rw [List.length_append, rgI_length] at this
        omega
      have hget : S2[T.length + 2]? = some (.lst (left.map fun i => .py (.int i))) := by rw [hd.get T.length]; simp
      obtain ⟨v, S3, e3, v0, v1, hd3⟩ := draw_ok (n := n + j) (left.length : Int) (by rw [show n + j + 1 = n + (j + 1) by omega]; exact hd) (by omega) (by omega)
      have hget3 : S3[T.length + 2]? = some (.lst (left.map fun i => .py (.int i))) := by rw [hd3.get T.length]; simp
      obtain ⟨i, rfl⟩ : ∃ i : Nat, v = (i : Nat) := ⟨v.toNat, by omega⟩
      have hi : i < left.length := by omega
      refine ⟨_, .int left[i], S3.set (T.length + 2) (.lst ((left.eraseIdx i).map fun i => .py (.int i))), bindN_e, rfl, ?_, left.eraseIdx i, xs ++ [left[i]], by simp, ?_, ?_, ?_⟩
      · unfold xBM
        simp only [wipeE, List.set_cons_succ, List.set_cons_zero, xV_e, List.getElem?_cons_succ, List.getElem?_cons_zero, bind_ok, tyD, hget, xCons_e, xCall_e, xCB_e, xNil_e, fLenM hget, List.length_map, List.length_cons, List.length_nil]
        simp only [if_true, e3, bind_ok]
        exact popAt_ok hget3 hi hll
      · have := hd3.set T.length (.lst ((left.eraseIdx i).map fun i => .py (.int i)))
        simpa using this
      · refine List.Perm.trans ?_ hperm
        rw [List.append_assoc]
        refine List.Perm.append_left _ ?_
        exact erase_perm left i hi
      · rw [List.length_eraseIdx_of_lt hi]; omega)
  subst e2
  have hx : xs.Nodup := by
    have : (xs ++ left).Nodup := hperm.nodup_iff.mpr (rgI_nodup 0 m)
    exact (List.nodup_append.mp this).1
  have body : xBody 5 m_distinct [.loc 1, dI m, dI many] S = .ok (dL ((sortI xs).map .int)) S1 := by
    unfold xBody m_distinct env0
    rw [show ([D.loc 1, dI m, dI many].map some ++ List.replicate (5 - [D.loc 1, dI m, dI many].length) none : Envr) = [some (.loc 1), some (dI m), some (dI many), none, none] from rfl]
    rw [xSeq_e]
    simp only [xSet_e, xCB_e, xCons_e, xV_e, xNil_e, List.getElem?_cons_succ, List.getElem?_cons_zero, bind_ok, fRgM_e]
    rw [if_pos ⟨h2, by omega⟩]
    simp only [bindX_ok, List.set_cons_succ, List.set_cons_zero, hp, xRet_e, xCB_e, xCons_e, xNil_e]
    rw [e1]
    simp only [bind_ok, fSort_e, bindX_ok]
  obtain ⟨S', e4, hd4⟩ := h.trim hd body
  refine ⟨sortI xs, S', e4, sort_lt hx, fun x hx' => ?_, ?_, hd4⟩
  · have : x ∈ rgI 0 m := hperm.subset (List.mem_append_left _ ((sortI_perm xs).subset hx'))
    exact rgI_mem.mp this
  · rw [(sortI_perm xs).length_eq, ← hlen, ← hl1, List.length_map]
end QQ
end
section
set_option maxRecDepth 100000
set_option maxHeartbeats 1000000
/-! DM3: what may be shown, and the law's own comparison. -/
namespace DL
open PySem
/-- small data: what repr takes -/
structure Sm (n w : Nat) (d : PyData) : Prop where
  sh : d.showable = true
  nd : dOk d = true
  dp : d.depth ≤ n
  sz : d.weight ≤ w
  ls : d.leavesShort 40 = true
theorem Sm.mono {n w n' w' : Nat} {d : PyData} (h : Sm n w d) (a : n ≤ n') (b : w ≤ w') : Sm n' w' d := ⟨h.sh, h.nd, Nat.le_trans h.dp a, Nat.le_trans h.sz b, h.ls⟩
theorem Sm.none : Sm 0 1 .none := ⟨rfl, rfl, by decide, by simp [PyData.weight], rfl⟩
theorem Sm.bool (b : Bool) : Sm 0 1 (.bool b) := ⟨rfl, rfl, by simp [PyData.depth], by simp [PyData.weight], rfl⟩
theorem Sm.int {i : Int} {k : Nat} (h : i.natAbs < 2 ^ k) (hk : k ≤ 110) : Sm 0 k (.int i) := by
  have h20 : i.natAbs < 10 ^ 34 := Nat.lt_of_lt_of_le h (Nat.le_trans (Nat.pow_le_pow_right (by decide) hk) (by decide))
  have hlog : i.natAbs ≠ 0 → i.natAbs.log2 < k := fun z => (Nat.log2_lt z).mpr h
  refine ⟨?_, rfl, by simp [PyData.depth], ?_, ?_⟩
  · show decide (i.natAbs.log2 < 1920) = true
    refine decide_eq_true ?_
    by_cases z : i.natAbs = 0
    · rw [z]; decide
    · exact Nat.lt_of_lt_of_le (hlog z) (Nat.le_trans hk (by decide))
  · simp only [PyData.weight]
    split
    · omega
    · rename_i z
      exact hlog (fun e => z (by first | exact Int.natAbs_eq_zero.mp e | (rw [Int.natAbs_eq_zero.mp e]; rfl)))
  · show decide ((PyData.shown (.int i)).length ≤ 40) = true
    refine decide_eq_true ?_
    have := int_text_length_le10 (a := i) (k := 34) (by decide) h20
    show (Str.ofString (toString i)).length ≤ 40
    rw [ofString_length]
    omega
theorem Sm.all {n w : Nat} : ∀ {xs : List PyData}, (∀ x ∈ xs, Sm n w x) → PyData.showableAll xs = true ∧ dOkAll xs = true ∧ PyData.depthAll xs ≤ n ∧ PyData.weightAll xs ≤ xs.length * (w + 1) ∧ PyData.leavesShortAll 40 xs = true
  | [], _ => ⟨rfl, rfl, Nat.zero_le _, by simp [PyData.weightAll], rfl⟩
  | x :: xs, h => by
    obtain ⟨h1, h2, h3, h4, h5⟩ := Sm.all (xs := xs) fun y hy => h y (List.mem_cons_of_mem _ hy)
    have hx := h x List.mem_cons_self
    refine ⟨?_, ?_, ?_, ?_, ?_⟩
    · simp [PyData.showableAll, hx.sh, h1]
    · simp [dOkAll, hx.nd, h2]
    · simp only [PyData.depthAll]; have := hx.dp; omega
    · simp only [PyData.weightAll, List.length_cons]
      have := hx.sz
      rw [Nat.add_mul]
      omega
    · simp [PyData.leavesShortAll, hx.ls, h5]
theorem Sm.list {n w : Nat} {xs : List PyData} (h : ∀ x ∈ xs, Sm n w x) : Sm (n + 1) (xs.length * (w + 1) + 1) (.list xs) := by
  obtain ⟨h1, h2, h3, h4, h5⟩ := Sm.all h
  exact ⟨h1, by simpa [dOk] using h2, by simp only [PyData.depth]; omega, by simp only [PyData.weight]; omega, h5⟩
theorem Sm.tuple {n w : Nat} {xs : List PyData} (h : ∀ x ∈ xs, Sm n w x) : Sm (n + 1) (xs.length * (w + 1) + 1) (.tuple xs) := by
  obtain ⟨h1, h2, h3, h4, h5⟩ := Sm.all h
  exact ⟨h1, by simpa [dOk] using h2, by simp only [PyData.depth]; omega, by simp only [PyData.weight]; omega, h5⟩
theorem Sm.lst2 {n w w' : Nat} {a b : PyData} (h : Sm n w a) (k : Sm n w' b) : Sm (n + 1) (w + w' + 3) (.list [a, b]) :=
  ⟨by simp [PyData.showable, PyData.showableAll, h.sh, k.sh], by simp [dOk, dOkAll, h.nd, k.nd], by
    simp only [PyData.depth, PyData.depthAll]; have := h.dp; have := k.dp; omega, by
    simp only [PyData.weight, PyData.weightAll]; have := h.sz; have := k.sz; omega, by simp [PyData.leavesShort, PyData.leavesShortAll, h.ls, k.ls]⟩
theorem Sm.tup2 {n w w' : Nat} {a b : PyData} (h : Sm n w a) (k : Sm n w' b) : Sm (n + 1) (w + w' + 3) (.tuple [a, b]) :=
  ⟨by simp [PyData.showable, PyData.showableAll, h.sh, k.sh], by simp [dOk, dOkAll, h.nd, k.nd], by
    simp only [PyData.depth, PyData.depthAll]; have := h.dp; have := k.dp; omega, by
    simp only [PyData.weight, PyData.weightAll]; have := h.sz; have := k.sz; omega, by simp [PyData.leavesShort, PyData.leavesShortAll, h.ls, k.ls]⟩
theorem Sm.ints {k : Nat} {xs : List Int} (h : ∀ x ∈ xs, x.natAbs < 2 ^ k) (hk : k ≤ 110) : ∀ d ∈ xs.map PyData.int, Sm 0 k d := fun d hd => by
  obtain ⟨x, hx, rfl⟩ := List.mem_map.mp hd
  exact Sm.int (h x hx) hk
theorem Sm.ok {n w : Nat} {d : PyData} (h : Sm n w d) (hn : n ≤ 40) (hw : w ≤ 23000) : reprOk d := by
  refine ⟨h.sh, h.nd, Nat.le_trans h.dp hn, ?_⟩
  have := PyData.shown_le 40 (by decide) d h.ls
  have := h.sz
  omega
theorem fRepr_e {d : PyData} {S : Sto} (h : reprOk d) : fRepr [.py d] S = .ok (dS d.shown) S := by
  unfold fRepr
  simp only [toPy]
  rw [if_pos h]
theorem eqS {x y : Str} {S : Sto} : dEq (dS x) (dS y) S = .ok (dB (x == y)) S := rfl
theorem neS {x y : Str} {S : Sto} : dNe (dS x) (dS y) S = .ok (dB (!(x == y))) S := rfl
theorem eqI {x y : Int} {S : Sto} : dEq (dI x) (dI y) S = .ok (dB (x == y)) S := by
  unfold dEq
  simp only [toPy]
  rw [if_pos ⟨by simp [SeqAt.shaped, PyData.canLay0, PyData.depth], by simp [SeqAt.shaped, PyData.canLay0, PyData.depth]⟩]
  simp [PyData.eqv]
theorem neI {x y : Int} {S : Sto} : dNe (dI x) (dI y) S = .ok (dB (!(x == y))) S := by
  unfold dNe
  simp only [toPy]
  rw [if_pos ⟨by simp [SeqAt.shaped, PyData.canLay0, PyData.depth], by simp [SeqAt.shaped, PyData.canLay0, PyData.depth]⟩]
  simp [PyData.eqv]
end DL
namespace QQ
open PySem DL
theorem same_ok {d : PyData} {S : Sto} (h : reprOk d) : f_same [.py d, .py d] S = .ok (dB true) S := by
  refine trim_same ?_
  unfold xBody m_same env0
  simp [fRepr_e h, eqS]
end QQ
end
section
set_option maxRecDepth 100000
set_option maxHeartbeats 1000000
/-! DM4: spreads. -/
namespace QQ
open PySem DL
theorem sub_mod {a b m : Int} (a0 : 0 ≤ a) (a1 : a < m) (b0 : 0 ≤ b) (b1 : b < m) : (a - b) % m = if b ≤ a then a - b else a - b + m := by
  split
  · exact Int.emod_eq_of_lt (by omega) (by omega)
  · rw [← Int.add_emod_right]
    exact Int.emod_eq_of_lt (by omega) (by omega)
structure Asc (m : Int) (xs : List Int) : Prop where
  lt : xs.Pairwise (· < ·)
  rg : ∀ x ∈ xs, 0 ≤ x ∧ x < m
  ne : xs ≠ []
def Fits (m : Int) (xs : List Int) (v : Int) : Prop := ∃ b, 0 ≤ b ∧ b < m ∧ ∀ x ∈ xs, (x - b) % m + 1 ≤ v
def nexts (m : Int) (xs : List Int) : List Int := xs.drop 1 ++ [xs.headD 0 + m]
def gaps (m : Int) (xs : List Int) : List Int := (xs.zip (nexts m xs)).map fun p => p.2 - p.1
def sprd (m : Int) (xs : List Int) : Int := m + 1 - maxI (gaps m xs)
theorem nexts_len {m : Int} {xs : List Int} (h : xs ≠ []) : (nexts m xs).length = xs.length := by
  have := List.length_pos_iff.mpr h
  unfold nexts
  rw [List.length_append, List.length_drop]
  simp
  omega
theorem gaps_len {m : Int} {xs : List Int} (h : xs ≠ []) : (gaps m xs).length = xs.length := by
  unfold gaps
  rw [List.length_map, List.length_zip, nexts_len h, Nat.min_self]
/-- what stands at i and what comes next -/
structure Nxt (m : Int) (xs : List Int) (a y : Int) : Prop where
  mem : a ∈ xs
  lt : a < y
  sep : ∀ x ∈ xs, x ≤ a ∨ y ≤ x
  inn : y < m → y ∈ xs
  out : m ≤ y → y - m ∈ xs ∧ ∀ x ∈ xs, y - m ≤ x ∧ x ≤ a
theorem next_at {m : Int} {xs : List Int} (h : Asc m xs) (i : Nat) (hi : i < xs.length) : ∃ y, (gaps m xs)[i]? = some (y - xs[i]) ∧ Nxt m xs xs[i] y := by
  have pw := List.pairwise_iff_getElem.mp h.lt
  have hpos : 0 < xs.length := by omega
  have mono : ∀ (j k : Nat) (hj : j < xs.length) (hk : k < xs.length), j ≤ k → xs[j] ≤ xs[k] := fun j k hj hk l => by
    by_cases e : j = k
    · subst e; exact Int.le_refl _
    · have := pw j k hj hk (by omega); omega
  have at_ : ∀ y, (nexts m xs)[i]? = some y → (gaps m xs)[i]? = some (y - xs[i]) := fun y hy => by
    unfold gaps
    rw [List.getElem?_map, List.zip, List.getElem?_zipWith, List.getElem?_eq_getElem hi, hy]
    rfl
  by_cases hl : i + 1 < xs.length
  · refine ⟨xs[i + 1], at_ _ ?_, List.getElem_mem hi, pw i (i + 1) hi hl (by omega), fun x hx => ?_, fun _ => List.getElem_mem hl, fun hm => ?_⟩
    · unfold nexts
      rw [List.getElem?_append_left (by rw [List.length_drop]; omega), List.getElem?_drop, Nat.add_comm, List.getElem?_eq_getElem hl]
    · obtain ⟨j, hj, rfl⟩ := List.getElem_of_mem hx
      by_cases l : j ≤ i
      · exact .inl (mono j i hj hi l)
      · exact .inr (mono (i + 1) j hl hj (by omega))
    · have := (h.rg _ (List.getElem_mem hl)).2
      omega
  · have h0 : xs.headD 0 = xs[0] := by
      cases xs with
      | nil => exact absurd rfl h.ne
      | cons x r => rfl
    have hg0 := h.rg _ (List.getElem_mem hpos)
    have hgi := h.rg _ (List.getElem_mem hi)
    have hm0 := mono 0 i hpos hi (by omega)
    refine ⟨xs[0] + m, at_ _ ?_, List.getElem_mem hi, by omega, fun x hx => ?_, fun hm => by omega, fun _ => ⟨?_, fun x hx => ?_⟩⟩
    · unfold nexts
      rw [List.getElem?_append_right (by rw [List.length_drop]; omega), h0]
      have : i - (xs.drop 1).length = 0 := by rw [List.length_drop]; omega
      rw [this]; rfl
    · obtain ⟨j, hj, rfl⟩ := List.getElem_of_mem hx
      exact .inl (mono j i hj hi (by omega))
    · rw [show xs[0] + m - m = xs[0] by omega]; exact List.getElem_mem hpos
    · obtain ⟨j, hj, rfl⟩ := List.getElem_of_mem hx
      have a1 := mono 0 j hpos hj (by omega)
      have a2 := mono j i hj hi (by omega)
      omega
theorem gaps_mem {m : Int} {xs : List Int} (h : Asc m xs) {g : Int} (hg : g ∈ gaps m xs) : ∃ a y, g = y - a ∧ Nxt m xs a y := by
  obtain ⟨i, hi, rfl⟩ := List.getElem_of_mem hg
  obtain ⟨y, e, n⟩ := next_at h i (by rw [← gaps_len (m := m) h.ne]; exact hi)
  rw [List.getElem?_eq_getElem hi] at e
  exact ⟨_, y, Option.some.inj e, n⟩
theorem gaps_ne {m : Int} {xs : List Int} (h : Asc m xs) : gaps m xs ≠ [] := fun e => by
  have := gaps_len (m := m) h.ne
  rw [e] at this
  exact h.ne (List.length_eq_zero_iff.mp this.symm)
theorem sprd_fits {m : Int} {xs : List Int} (h : Asc m xs) : Fits m xs (sprd m xs) := by
  obtain ⟨hm, _⟩ := maxI_spec (gaps_ne h)
  obtain ⟨a, y, e, n⟩ := gaps_mem h hm
  have ha := h.rg _ n.mem
  unfold sprd
  rw [e]
  by_cases hy : y < m
  · have hy' := h.rg _ (n.inn hy)
    refine ⟨y, hy'.1, hy, fun x hx => ?_⟩
    have hx' := h.rg _ hx
    rw [sub_mod hx'.1 hx'.2 hy'.1 hy]
    rcases n.sep x hx with q | q
    · rw [if_neg (by have := n.lt; omega)]; omega
    · rw [if_pos q]; omega
  · obtain ⟨h1, h2⟩ := n.out (by omega)
    have hy' := h.rg _ h1
    refine ⟨y - m, hy'.1, hy'.2, fun x hx => ?_⟩
    have hx' := h.rg _ hx
    have := h2 x hx
    rw [sub_mod hx'.1 hx'.2 hy'.1 hy'.2, if_pos this.1]
    omega
theorem exists_max {α : Type} (f : α → Int) : ∀ (xs : List α), xs ≠ [] → ∃ x ∈ xs, ∀ y ∈ xs, f y ≤ f x
  | [x], _ => ⟨x, List.mem_singleton_self x, fun y hy => by rw [List.mem_singleton.mp hy]; exact Int.le_refl _⟩
  | x :: z :: r, _ => by
    obtain ⟨w, hw, hm⟩ := exists_max f (z :: r) (by simp)
    by_cases l : f w ≤ f x
    · refine ⟨x, List.mem_cons_self, fun y hy => ?_⟩
      rcases List.mem_cons.mp hy with rfl | hy
      · exact Int.le_refl _
      · exact Int.le_trans (hm y hy) l
    · refine ⟨w, List.mem_cons_of_mem _ hw, fun y hy => ?_⟩
      rcases List.mem_cons.mp hy with rfl | hy
      · omega
      · exact hm y hy
theorem sprd_least {m : Int} {xs : List Int} (h : Asc m xs) {v : Int} (f : Fits m xs v) : sprd m xs ≤ v := by
  obtain ⟨b, b0, b1, hb⟩ := f
  obtain ⟨a, ha, hmax⟩ := exists_max (fun x => (x - b) % m) xs h.ne
  obtain ⟨i, hi, rfl⟩ := List.getElem_of_mem ha
  obtain ⟨y, e, n⟩ := next_at h i hi
  have hle : y - xs[i] ≤ maxI (gaps m xs) := (maxI_spec (gaps_ne h)).2 _ (List.mem_of_getElem? e)
  have ha' := h.rg _ ha
  have hv := hb _ ha
  have lt := n.lt
  unfold sprd
  rw [sub_mod ha'.1 ha'.2 b0 b1] at hv
  by_cases hy : y < m
  · have hy' := h.rg _ (n.inn hy)
    have q : (y - b) % m ≤ (xs[i] - b) % m := hmax y (n.inn hy)
    rw [sub_mod hy'.1 hy'.2 b0 b1, sub_mod ha'.1 ha'.2 b0 b1] at q
    split at q <;> split at q <;> split at hv <;> omega
  · obtain ⟨h1, h2⟩ := n.out (by omega)
    have hy' := h.rg _ h1
    have q : (y - m - b) % m ≤ (xs[i] - b) % m := hmax _ h1
    rw [sub_mod hy'.1 hy'.2 b0 b1, sub_mod ha'.1 ha'.2 b0 b1] at q
    split at q <;> split at q <;> split at hv <;> omega
theorem sprd_unique {m : Int} {xs : List Int} (h : Asc m xs) {v : Int} (f : Fits m xs v) (l : ∀ w, Fits m xs w → v ≤ w) : v = sprd m xs :=
  Int.le_antisymm (l _ (sprd_fits h)) (sprd_least h f)
theorem sprd_rg {m : Int} {xs : List Int} (h : Asc m xs) : 1 ≤ sprd m xs ∧ sprd m xs ≤ m := by
  obtain ⟨b, b0, b1, hb⟩ := sprd_fits h
  obtain ⟨x, hx⟩ := List.exists_mem_of_ne_nil _ h.ne
  have h1 := hb x hx
  have h2 := Int.emod_nonneg (x - b) (show m ≠ 0 by omega)
  refine ⟨by omega, sprd_least h ⟨0, Int.le_refl 0, by omega, fun y hy => ?_⟩⟩
  have := Int.emod_lt_of_pos (y - 0) (show 0 < m by omega)
  omega
/-! the program's spread -/
theorem spread_of_eq {m : Int} {xs : List Int} {S : Sto} (h : xs ≠ []) (hl : xs.length ≤ 1000) : f_spread_of [dI m, dT (xs.map .int)] S = .ok (dI (sprd m xs)) S := by
  refine trim_same ?_
  have hx0 : (xs.map PyData.int)[(0 : Int).toNat]? = some (.int (xs.headD 0)) := by
    cases xs with
    | nil => exact absurd rfl h
    | cons x r => rfl
  have hcut : cutD (xs.map PyData.int) (some 1) none = (xs.drop 1).map .int := by
    have := cut_from (xs.map PyData.int) 1
    rw [List.map_drop]; exact this
  have hnx : (xs.drop 1).map PyData.int ++ [.int (xs.headD 0 + m)] = (nexts m xs).map .int := by unfold nexts; simp
  have hz : List.zipWith pairP (xs.map .int) ((nexts m xs).map .int) = (xs.zip (nexts m xs)).map fun p => pairP (.int p.1) (.int p.2) := by
    rw [List.zipWith_map, List.map_zip_eq_zipWith]; rfl
  have hmap : ((xs.zip (nexts m xs)).map fun p => PyData.int (p.2 - p.1)) = (gaps m xs).map .int := by unfold gaps; rw [List.map_map]; rfl
  have hg : gaps m xs ≠ [] := fun e => by
    have := gaps_len (m := m) h
    rw [e] at this
    exact h (List.length_eq_zero_iff.mp this.symm)
  have hc : xComp (xZip (xCons (xV 1) (xCons (xV 2) xNil))) (.tp [.nm 3, .nm 4]) xYes (xBin dSub (xV 4) (xV 3)) [3, 4] [some (dI m), some (dT (xs.map .int)), some (dT ((nexts m xs).map .int)), none, none] S = .ok (dL ((gaps m xs).map .int)) S := by
    rw [← hmap]
    refine xComp_all (fun p : Int × Int => D.py (pairP (.int p.1) (.int p.2))) (fun p => .int (p.2 - p.1)) ?_ ?_ fun p _ => ?_
    · simp [hz]
    · rw [List.length_zip]; omega
    · exact ⟨_, bind2_e, by simp [wipeE]⟩
  unfold xBody m_spread_of env0
  rw [show ([dI m, dT (xs.map .int)].map some ++ List.replicate (5 - [dI m, dT (xs.map .int)].length) none : Envr) = [some (dI m), some (dT (xs.map .int)), none, none, none] from rfl]
  simp only [xSeq_e, xSet_e, xBin_e, xSl_e, xV_e, List.getElem?_cons_succ, List.getElem?_cons_zero, bind_ok, xPart_e, xC_e, xNoPart_e, slT_e, xTup_e, xCons_e, ixT (Int.le_refl 0) hx0, dAdd_e, xNil_e, pys_cons, pys_nil, Option.map_some, List.length_cons, List.length_nil, hcut]
  rw [if_pos (by decide)]
  simp only [bind_ok, dAddT_e, hnx]
  rw [if_pos (by rw [List.length_map, List.length_drop]; simp; omega)]
  simp only [bindX_ok, List.set_cons_succ, List.set_cons_zero, xRet_e, xBin_e, xV_e, xC_e, xCB_e, xCons_e, List.getElem?_cons_succ, List.getElem?_cons_zero, bind_ok, dAdd_e, xNil_e, hc, fMax_e]
  rw [if_pos hg]
  simp only [bind_ok, dSub_e, bindX_ok]
  rfl
/-! the law's spread -/
def away (m : Int) (xs : List Int) (b : Int) : Int := maxI (xs.map fun x => (x - b) % m) + 1
theorem spread_eq {m : Int} {xs : List Int} {S : Sto} (h : Asc m xs) (hm : m ≤ 1000) (hl : xs.length ≤ 1000) : f_spread [dI m, dT (xs.map .int)] S = .ok (dI (sprd m xs)) S := by
  obtain ⟨x0, hx0⟩ := List.exists_mem_of_ne_nil _ h.ne
  have m0 : 0 < m := by have := h.rg _ hx0; omega
  have hin : ∀ b : Int, xComp (xIt (xV 1)) (.nm 3) xYes (xBin dMod (xBin dSub (xV 3) (xV 2)) (xV 0)) [3] [some (dI m), some (dT (xs.map .int)), some (dI b), none] S = .ok (dL ((xs.map fun x => (x - b) % m).map .int)) S := fun b => by
    have := xComp_all (S := S) (env := [some (dI m), some (dT (xs.map .int)), some (dI b), none]) (vs := [3]) (ix := xIt (xV 1)) (t := .nm 3) (fe := xBin dMod (xBin dSub (xV 3) (xV 2)) (xV 0)) (fun x : Int => D.py (.int x)) (fun x => .int ((x - b) % m)) (ys := xs) (by simp) (by omega) fun x _ => ⟨_, bindN_e, by simp [wipeE, m0]⟩
    rw [this, List.map_map]; rfl
  have hne : ∀ b : Int, (xs.map fun x => (x - b) % m) ≠ [] := fun b e => h.ne (List.map_eq_nil_iff.mp e)
  have hout : xComp (xRg1 (xCons (xV 0) xNil)) (.nm 2) xYes (xBin dAdd (xCB fMax (xCons (xComp (xIt (xV 1)) (.nm 3) xYes (xBin dMod (xBin dSub (xV 3) (xV 2)) (xV 0)) [3]) xNil)) (xC (.int 1))) [2] [some (dI m), some (dT (xs.map .int)), none, none] S = .ok (dL (((rgI 0 m).map (away m xs)).map .int)) S := by
    have := xComp_all (S := S) (env := [some (dI m), some (dT (xs.map .int)), none, none]) (vs := [2]) (ix := xRg1 (xCons (xV 0) xNil)) (t := .nm 2) (fe := xBin dAdd (xCB fMax (xCons (xComp (xIt (xV 1)) (.nm 3) xYes (xBin dMod (xBin dSub (xV 3) (xV 2)) (xV 0)) [3]) xNil)) (xC (.int 1))) (fun x : Int => D.py (.int x)) (fun b => .int (away m xs b)) (ys := rgI 0 m)
      (by simp; omega) (by rw [rgI_length]; omega) fun b _ => ⟨_, bindN_e, by
        simp only [wipeE, List.set_cons_succ, List.set_cons_zero, xBin_e, xCB_e, xCons_e, hin, xNil_e, bind_ok, fMax_e]
        rw [if_pos (hne b)]
        rfl⟩
    rw [this, List.map_map]; rfl
  have hr : (rgI 0 m).map (away m xs) ≠ [] := fun e => by
    have := congrArg List.length e
    rw [List.length_map, rgI_length] at this
    simp at this
    omega
  have key : minI ((rgI 0 m).map (away m xs)) = sprd m xs := by
    obtain ⟨h1, h2⟩ := minI_spec hr
    refine sprd_unique h ?_ fun w ⟨b, b0, b1, hb⟩ => ?_
    · obtain ⟨b, hb, e⟩ := List.mem_map.mp h1
      rw [← e]
      have := rgI_mem.mp hb
      refine ⟨b, this.1, this.2, fun x hx => ?_⟩
      have := (maxI_spec (hne b)).2 ((x - b) % m) (List.mem_map.mpr ⟨x, hx, rfl⟩)
      unfold away
      omega
    · refine Int.le_trans (h2 (away m xs b) (List.mem_map.mpr ⟨b, rgI_mem.mpr ⟨b0, b1⟩, rfl⟩)) ?_
      obtain ⟨x, hx, e⟩ := List.mem_map.mp (maxI_spec (hne b)).1
      unfold away
      rw [← e]
      exact hb x hx
  refine trim_same ?_
  unfold xBody m_spread env0
  rw [show ([dI m, dT (xs.map .int)].map some ++ List.replicate (4 - [dI m, dT (xs.map .int)].length) none : Envr) = [some (dI m), some (dT (xs.map .int)), none, none] from rfl]
  simp only [xRet_e, xCB_e, xCons_e, hout, xNil_e, bind_ok, fMin_e]
  rw [if_pos hr, key]
  rfl
/-- turned places: the spread stays -/
theorem sprd_turned {m by_ : Int} {xs ys : List Int} (h : Asc m xs) (h' : Asc m ys) (e : ∀ y, y ∈ ys ↔ ∃ x ∈ xs, y = (x + by_) % m) : sprd m ys = sprd m xs := by
  obtain ⟨x0, hx0⟩ := List.exists_mem_of_ne_nil _ h.ne
  have m0 : 0 < m := by have := h.rg _ hx0; omega
  refine sprd_unique h ?_ fun w ⟨b, b0, b1, hb⟩ => sprd_least h' ⟨(b + by_) % m, Int.emod_nonneg _ (by omega), Int.emod_lt_of_pos _ m0, fun y hy => ?_⟩
  · obtain ⟨b, b0, b1, hb⟩ := sprd_fits h'
    refine ⟨(b - by_) % m, Int.emod_nonneg _ (by omega), Int.emod_lt_of_pos _ m0, fun x hx => ?_⟩
    have := hb _ ((e _).mpr ⟨x, hx, rfl⟩)
    have q : (x - (b - by_) % m) % m = ((x + by_) % m - b) % m := by
      rw [Int.sub_emod, Int.emod_emod_of_dvd _ (Int.dvd_refl m), ← Int.sub_emod, Int.emod_sub_emod]
      congr 1; omega
    rw [q]; exact this
  · obtain ⟨x, hx, rfl⟩ := (e y).mp hy
    have := hb x hx
    have q : ((x + by_) % m - (b + by_) % m) % m = (x - b) % m := by
      rw [← Int.sub_emod]
      congr 1; omega
    rw [q]; exact this
end QQ
end
section
set_option maxRecDepth 100000
set_option maxHeartbeats 1000000
/-! DM5: the frame of a law that draws from a deck in turns. -/
namespace QQ
open PySem DL
theorem xTrim_some {fx : FX} {ds : List D} {S S' : Sto} {b : Bool} (h : fx ds S = .ok (dB b) S') : ∃ S'', shutF (xTrim fx) ds S = .ok (dB b) S'' := by
  rw [shutF_eq]
  unfold xTrim
  rw [h]
  simp only
  split
  · exact ⟨_, rfl⟩
  · exact ⟨_, rfl⟩
/-- a turn goes on: the script and the deck stand, j may be drawn -/
def Goes (ns : List Int) (n j : Nat) (r : Res Fl) : Prop := ∃ (x : Option D) (rest : Envr) (S' : Sto), r = .ok (.nx (some (.scr ns) :: some (.loc 1) :: x :: rest)) S' ∧ rest.length = n ∧ Dk j [] S'
theorem frame {nN : Nat} {b : SX} {c : Int} (h3 : 3 ≤ nN) (c0 : 0 ≤ c) (c1 : c ≤ 1000) (ns : List Int) (hn : ns.length ≤ 63)
    (hb : ∀ (i : Int) (j : Nat) (rest : Envr) (S : Sto), 0 ≤ i → i < c → rest.length = nN - 3 → Dk (j + 1000000) [] S → Goes ns (nN - 3) j (b (some (.scr ns) :: some (.loc 1) :: some (dI i) :: rest) S)) :
    ∃ S', shutF (xTrim (xBody nN (xSeq (xSet 1 (xCall 1 f_deck (xCons (xV 0) xNil))) (xSeq (xFor (xRg1 (xCons (xC (.int c)) xNil)) (.nm 2) b) (xRet (xC (.bool true))))))) [.scr ns] [] = .ok (dB true) S' := by
  obtain ⟨S0, e0, d0⟩ := deck_ok ns hn
  let I : Nat → Envr → Sto → Prop := fun j env S => ∃ (x : Option D) (rest : Envr), env = some (.scr ns) :: some (.loc 1) :: x :: rest ∧ rest.length = nN - 3 ∧ Dk (j * 1000000) [] S
  obtain ⟨k, rfl⟩ : ∃ k, nN = k + 3 := ⟨nN - 3, by omega⟩
  have e1 : (env0 (k + 3) [.scr ns]).set 1 (some (.loc 1)) = some (.scr ns) :: some (.loc 1) :: none :: List.replicate k none := by
    unfold env0
    have : k + 3 - [D.scr ns].length = k + 1 + 1 := by simp
    rw [this, List.replicate_succ, List.replicate_succ]
    rfl
  have hd : Dk ((rgI 0 c).length * 1000000) [] S0 := d0.mono (by rw [rgI_length]; omega)
  obtain ⟨env', S', e2, _⟩ := forL_inv (t := .nm 2) (fb := b) (fun i : Int => D.py (.int i)) I (rgI 0 c) (some (.scr ns) :: some (.loc 1) :: none :: List.replicate k none) S0 ⟨_, _, rfl, by simp, hd⟩ (by
    rintro i hi j env S ⟨x, rest, rfl, hl, hd⟩
    obtain ⟨i0, i1⟩ := rgI_mem.mp hi
    obtain ⟨x', rest', S', e, hl', hd'⟩ := hb i (j * 1000000) rest S i0 i1 hl (hd.mono (by omega))
    exact ⟨_, _, _, bindN_e, e, x', rest', rfl, hl', hd'⟩)
  refine xTrim_some (S' := S') ?_
  unfold xBody
  have e3 : xV 0 (env0 (k + 3) [.scr ns]) ([] : Sto) = .ok (.scr ns) [] := rfl
  rw [xSeq_e]
  simp only [xSet_e, xCall_e, xCons_e, e3, xNil_e, bind_ok, List.length_cons, List.length_nil, Nat.zero_add, if_true, e0, bindX_ok, e1]
  rw [xSeq_e]
  simp only [xFor_e, xRg1_e, xCons_e, xC_e, xNil_e, bind_ok, iR1_e]
  rw [if_pos (by omega)]
  simp only [bindX_ok, e2, xRet_e, xC_e]
theorem asc_len' : ∀ {xs : List Int} {a b : Int}, xs.Pairwise (· < ·) → (∀ x ∈ xs, a ≤ x ∧ x < b) → xs.length ≤ (b - a).toNat
  | [], _, _, _, _ => Nat.zero_le _
  | x :: xs, a, b, h, hr => by
    obtain ⟨h1, h2⟩ := List.pairwise_cons.mp h
    have hx := hr x List.mem_cons_self
    have := asc_len' (xs := xs) (a := x + 1) (b := b) h2 fun y hy => ⟨by have := h1 y hy; omega, (hr y (List.mem_cons_of_mem _ hy)).2⟩
    rw [List.length_cons]
    omega
theorem asc_len {m : Int} {xs : List Int} (h : Asc m xs) (hm : m ≤ 60) : xs.length ≤ 60 := by
  have := asc_len' h.lt h.rg
  omega
end QQ
end
section
set_option maxRecDepth 100000
set_option maxHeartbeats 2000000
namespace QQ
open PySem DL
theorem places_ok {n : Nat} {T S : Sto} (m : Int) (h : Dk (n + 200) T S) (m0 : 1 ≤ m) (m1 : m ≤ 60) : ∃ (xs : List Int) (S' : Sto), f_places [.loc 1, dI m] S = .ok (dT (xs.map .int)) S' ∧ Asc m xs ∧ Dk n T S' := by
  obtain ⟨way, S1, e1, w0, w1, h1⟩ := draw_ok (n := n + 199) 5 h (by decide) (by decide)
  obtain ⟨beg, S2, e2, b0, b1, h2⟩ := draw_ok (n := n + 198) m h1 (by omega) (by omega)
  obtain ⟨mm, S3, e3, c0, c1, h3⟩ := draw_ok (n := n + 197) m h2 (by omega) (by omega)
  have start : ∀ (Q : Res D → Prop), Q (match (xSeq (xIfS (xT (xBin dLt (xV 2) (xC (.int 2)))) (xRet (xCB fTuple (xCons (xCall 3 f_distinct (xCons (xV 0) (xCons (xV 1) (xCons (xBin dIxD (xLst (xCons (xV 4) (xCons (xCB fMin2 (xCons (xV 1) (xCons (xC (.int 3)) xNil))) xNil))) (xV 2)) xNil)))) xNil))) xPass) (xSeq (xIfS (xT (xBin dEq (xV 2) (xC (.int 2)))) (xRet (xCB fRgT (xCons (xV 1) xNil))) xPass) (xSeq (xSet 5 (xBin dAdd (xC (.int 1)) (xBin dMul (xCB fInt (xCons (xBin dEq (xV 2) (xC (.int 4))) xNil)) (xCall 2 f_draw (xCons (xV 0) (xCons (xC (.int 4)) xNil)))))) (xRet (xCB fTuple (xCons (xCB fSSet (xCons (xComp (xRg1 (xCons (xV 4) xNil)) (.nm 6) xYes (xBin dMod (xBin dAdd (xV 3) (xBin dMul (xV 5) (xV 6))) (xV 1)) [6]) xNil)) xNil)))))) [some (.loc 1), some (dI m), some (dI way), some (dI beg), some (dI (1 + mm)), none, none] S3 with
        | .ok (.rt d) S' => Res.ok d S'
        | .ok (.nx _) S' => Res.ok dN S'
        | _ => .bad) → Q (xBody 7 m_places [.loc 1, dI m] S) := fun Q q => by
    unfold xBody m_places env0
    rw [show ([D.loc 1, dI m].map some ++ List.replicate (7 - [D.loc 1, dI m].length) none : Envr) = [some (.loc 1), some (dI m), none, none, none, none, none] from rfl]
    rw [xSeq_e]
    simp only [xAsg_e, xTup_e, xCons_e, xCall_e, xV_e, xC_e, xNil_e, List.getElem?_cons_succ, List.getElem?_cons_zero, bind_ok, List.length_cons, List.length_nil, if_true, Nat.zero_add, Nat.reduceAdd, e1, e2, pys_cons, pys_nil, Option.map_some]
    rw [if_pos (by decide)]
    simp only [bindX_ok, bind2_e, bindN_e, List.set_cons_succ, List.set_cons_zero]
    rw [xSeq_e]
    simp only [xSet_e, xBin_e, xCons_e, xCall_e, xV_e, xC_e, xNil_e, List.getElem?_cons_succ, List.getElem?_cons_zero, bind_ok, List.length_cons, List.length_nil, if_true, Nat.zero_add, Nat.reduceAdd, e3, dAdd_e, bindX_ok, List.set_cons_succ, List.set_cons_zero]
    exact q
  by_cases hw : way < 2
  · -- distinct places
    have hmany : ∃ q : Int, dIxD (dL [.int (1 + mm), .int (if 3 < m then 3 else m)]) (dI way) S3 = .ok (dI q) S3 ∧ 1 ≤ q ∧ q ≤ m := by
      rcases (by omega : way = 0 ∨ way = 1) with rfl | rfl
      · exact ⟨1 + mm, by simp, by omega, by omega⟩
      · refine ⟨if 3 < m then 3 else m, by simp, ?_, ?_⟩ <;> split <;> omega
    obtain ⟨q, eq, q0, q1⟩ := hmany
    obtain ⟨xs, S4, e4, pw, rg, ln, h4⟩ := distinct_ok (n := n + 100) m q (h3.mono (by omega)) (by omega) q1 (by omega)
    have body : xBody 7 m_places [.loc 1, dI m] S = .ok (dT (xs.map .int)) S4 := by
      refine start (· = _) ?_
      rw [xSeq_e]
      simp only [xIfS_e, xT_e, xBin_e, xV_e, xC_e, List.getElem?_cons_succ, List.getElem?_cons_zero, bind_ok, dCmp_e, asB_e, bindX_ok]
      rw [if_pos (decide_eq_true hw)]
      simp only [xRet_e, xCB_e, xCons_e, xCall_e, xV_e, xBin_e, xLst_e, xC_e, xNil_e, List.getElem?_cons_succ, List.getElem?_cons_zero, bind_ok, fMin2_e, pys_cons, pys_nil, Option.map_some, List.length_cons, List.length_nil]
      rw [if_pos (by decide)]
      simp only [bind_ok, eq, List.length_cons, List.length_nil, Nat.zero_add, Nat.reduceAdd, if_true, e4, fTupleL_e, bindX_ok]
    obtain ⟨S5, e5, h5⟩ := h.trim (J := []) (by rw [List.append_nil]; exact h4) body
    exact ⟨xs, S5, e5, ⟨pw, rg, fun z => by rw [z] at ln; simp at ln; omega⟩, h5.mono (by omega)⟩
  · by_cases hw2 : way = 2
    · subst hw2
      have body : xBody 7 m_places [.loc 1, dI m] S = .ok (dT ((rgI 0 m).map .int)) S3 := by
        refine start (· = _) ?_
        rw [xSeq_e]
        simp only [xIfS_e, xT_e, xBin_e, xV_e, xC_e, List.getElem?_cons_succ, List.getElem?_cons_zero, bind_ok, dCmp_e, asB_e, bindX_ok]
        rw [if_neg (by decide)]
        simp only [xPass_e]
        rw [xSeq_e]
        simp only [xIfS_e, xT_e, xBin_e, xV_e, xC_e, List.getElem?_cons_succ, List.getElem?_cons_zero, bind_ok, eqI, asB_e, bindX_ok]
        rw [if_pos (by decide)]
        simp only [xRet_e, xCB_e, xCons_e, xV_e, xNil_e, List.getElem?_cons_succ, List.getElem?_cons_zero, bind_ok, fRgT_e]
        rw [if_pos (by omega)]
        simp only [bindX_ok]
      obtain ⟨S5, e5, h5⟩ := h.trim (J := []) (by rw [List.append_nil]; exact h3) body
      refine ⟨_, S5, e5, ⟨rgI_lt 0 m, fun x hx => rgI_mem.mp hx, fun z => ?_⟩, h5.mono (by omega)⟩
      have := congrArg List.length z
      rw [rgI_length] at this
      simp at this
      omega
    · obtain ⟨v, S4, e4, v0, v1, h4⟩ := draw_ok (n := n + 196) 4 h3 (by decide) (by decide)
      obtain ⟨fl, hfl, hfl2⟩ : ∃ fl : Int, (if (way == 4) = true then (1 : Int) else 0) = fl ∧ (fl = 0 ∨ fl = 1) := ⟨_, rfl, by split <;> simp⟩
      obtain ⟨st, hst, hst0⟩ : ∃ st : Int, 1 + fl * v = st ∧ 0 ≤ st ∧ st ≤ 4 := ⟨_, rfl, by rcases hfl2 with rfl | rfl <;> omega, by rcases hfl2 with rfl | rfl <;> omega⟩
      have hc : xComp (xRg1 (xCons (xV 4) xNil)) (.nm 6) xYes (xBin dMod (xBin dAdd (xV 3) (xBin dMul (xV 5) (xV 6))) (xV 1)) [6] [some (.loc 1), some (dI m), some (dI way), some (dI beg), some (dI (1 + mm)), some (dI st), none] S4 = .ok (dL (((rgI 0 (1 + mm)).map fun k => (beg + st * k) % m).map .int)) S4 := by
        have := xComp_all (S := S4) (env := [some (.loc 1), some (dI m), some (dI way), some (dI beg), some (dI (1 + mm)), some (dI st), none]) (vs := [6]) (ix := xRg1 (xCons (xV 4) xNil)) (t := .nm 6) (fe := xBin dMod (xBin dAdd (xV 3) (xBin dMul (xV 5) (xV 6))) (xV 1)) (fun x : Int => D.py (.int x)) (fun k => .int ((beg + st * k) % m)) (ys := rgI 0 (1 + mm))
          (by simp; omega) (by rw [rgI_length]; omega) fun k _ => ⟨_, bindN_e, by
            simp only [wipeE, List.set_cons_succ, List.set_cons_zero, xBin_e, xV_e, List.getElem?_cons_succ, List.getElem?_cons_zero, bind_ok, dMul_e]
            rw [if_pos (.inl (by omega))]
            simp only [bind_ok, dAdd_e, dMod_e]
            rw [if_pos (by omega)]⟩
        rw [this, List.map_map]; rfl
      have body : xBody 7 m_places [.loc 1, dI m] S = .ok (dT ((asc ((rgI 0 (1 + mm)).map fun k => (beg + st * k) % m)).map .int)) S4 := by
        refine start (· = _) ?_
        rw [xSeq_e]
        simp only [xIfS_e, xT_e, xBin_e, xV_e, xC_e, List.getElem?_cons_succ, List.getElem?_cons_zero, bind_ok, dCmp_e, asB_e, bindX_ok]
        rw [if_neg (by simpa using hw)]
        simp only [xPass_e]
        rw [xSeq_e]
        simp only [xIfS_e, xT_e, xBin_e, xV_e, xC_e, List.getElem?_cons_succ, List.getElem?_cons_zero, bind_ok, eqI, asB_e, bindX_ok]
        rw [if_neg (by simpa using hw2)]
        simp only [xPass_e]
        rw [xSeq_e]
        simp only [xSet_e, xBin_e, xCB_e, xCons_e, xCall_e, xV_e, xC_e, xNil_e, List.getElem?_cons_succ, List.getElem?_cons_zero, bind_ok, eqI, fIntB_e, hfl, List.length_cons, List.length_nil, Nat.zero_add, Nat.reduceAdd, if_true, e4, dMul_e]
        rw [if_pos (.inr (by omega))]
        simp only [bind_ok, dAdd_e, hst, bindX_ok, List.set_cons_succ, List.set_cons_zero]
        simp only [xRet_e, xCB_e, xCons_e, xNil_e, hc, bind_ok, fSSet_e]
        rw [if_pos (by rw [List.length_map, rgI_length]; omega)]
        simp only [bind_ok, fTupleL_e, bindX_ok]
      obtain ⟨S5, e5, h5⟩ := h.trim (J := []) (by rw [List.append_nil]; exact h4) body
      refine ⟨_, S5, e5, ⟨asc_pw _, fun x hx => ?_, fun z => ?_⟩, h5.mono (by omega)⟩
      · obtain ⟨k, _, rfl⟩ := List.mem_map.mp ((asc_mem _ _).mp hx)
        exact ⟨Int.emod_nonneg _ (by omega), Int.emod_lt_of_pos _ (by omega)⟩
      · have : (beg + st * 0) % m ∈ asc ((rgI 0 (1 + mm)).map fun k => (beg + st * k) % m) := (asc_mem _ _).mpr (List.mem_map.mpr ⟨0, rgI_mem.mpr ⟨Int.le_refl 0, by omega⟩, rfl⟩)
        rw [z] at this
        cases this
end QQ
end
section
set_option maxRecDepth 100000
set_option maxHeartbeats 1000000
/-! DN1: the second deck: draws, subsets, circles. -/
namespace QQ
open PySem DL
theorem deck2_eq (ns : List Int) : f_deck_2 [.scr ns] [] = .ok (.loc 1) (St ((ns.take 60).map absI) 0 []) := by
  have e : xBody 2 m_deck_2 [.scr ns] [] = .ok (.loc 1) (St ((ns.take 60).map absI) 0 []) := by
    have e1 : xCompM (xIt (xSl (xV 0) xNoPart (xPart (xC (.int 60))))) (.nm 1) xYes (xCB fAbs (xCons (xV 1) xNil)) [1] [some (.scr ns), none] [] = .ok (.loc 0) [.lst (((ns.take 60).map absI).map fun i => .py (.int i))] := by
      rw [compM_all (fun i : Int => D.py (.int i)) (fun i => .int (absI i)) (ys := ns.take 60) ?_ (by rw [List.length_take]; omega) ?_]
      · simp [List.map_map]; rfl
      · simp
        have := cut_to ns 60
        rw [show ((60 : Nat) : Int) = 60 from rfl] at this
        rw [this, ← List.map_take]; rfl
      · intro y _
        refine ⟨_, bindN_e, ?_⟩
        simp [wipeE, absI]
    unfold xBody m_deck_2 env0
    simp [e1, St]
  unfold f_deck_2
  rw [shutF_eq]
  unfold xTrim
  rw [e]
  simp only
  split
  · rfl
  · rfl
theorem deck2_ok (ns : List Int) : ∃ S, f_deck_2 [.scr ns] [] = .ok (.loc 1) S ∧ Dk 1000000000000 [] S := by
  refine ⟨_, deck2_eq ns, ⟨_, 0, rfl, fun c hc => ?_, ?_, Int.le_refl 0, by decide⟩⟩
  · obtain ⟨i, _, rfl⟩ := List.mem_map.mp hc
    unfold absI
    split <;> omega
  · rw [List.length_map, List.length_take]; omega
theorem dAddM {S : Sto} {n : Nat} {xs ys : List PyData} (h : S[n]? = some (.lst (xs.map .py))) (hl : xs.length + ys.length ≤ 1000000) : dAdd (.loc n) (dL ys) S = .ok (dL (xs ++ ys)) S := by
  unfold dAdd
  simp [seqR, seqOf, h, hl]
theorem draw2_body {n : Nat} {T S : Sto} (l : Int) (h : Dk (n + 1) T S) (l0 : 0 < l) (l1 : l < 1073741824) : ∃ v S', xBody 5 m_draw_2 [.loc 1, dI l] S = .ok (dI v) S' ∧ 0 ≤ v ∧ v < l ∧ Dk n T S' := by
  obtain ⟨cs, k, e, h1, h2, h3, h4⟩ := h.ex
  subst e
  have hst : xStore (xV 0) (xC (.int 1)) (xBin dAdd (xBin dIxD (xV 0) (xC (.int 1))) (xC (.int 1))) [some (.loc 1), some (dI l), none, none, none] (St cs k T) = .ok (.nx [some (.loc 1), some (dI l), none, none, none]) (St cs (k + 1) T) := by
    unfold xStore
    simp [ixM (n := 1) (S := St cs k T) (xs := [.loc 0, .py (.int k)]) (i := 1) (v := dI k) rfl (by decide) rfl]
    rfl
  have hlen : fLen [.loc 0] (St cs (k + 1) T) = .ok (dI cs.length) (St cs (k + 1) T) := by
    rw [fLenM (xs := cs.map fun i => .py (.int i)) rfl, List.length_map]
  have hk : dIxD (.loc 1) (dI 1) (St cs (k + 1) T) = .ok (dI (k + 1)) (St cs (k + 1) T) := ixM (xs := [.loc 0, .py (.int (k + 1))]) rfl (by decide) rfl
  have hc : dIxD (.loc 1) (dI 0) (St cs (k + 1) T) = .ok (.loc 0) (St cs (k + 1) T) := ixM (xs := [.loc 0, .py (.int (k + 1))]) rfl (by decide) rfl
  have p18 : dPow (dI 10) (dI 18) (St cs (k + 1) T) = .ok (dI 1000000000000000000) (St cs (k + 1) T) := by
    rw [dPow_e, if_pos (by decide)]; rfl
  obtain ⟨w, hw, w0⟩ : ∃ w : Int, (if (cs.length : Int) > 1 then (cs.length : Int) else 1) = w ∧ 0 < w := ⟨_, rfl, by split <;> omega⟩
  have hw2 : w = 1 ∨ w = cs.length := by rw [← hw]; split <;> simp
  have hw3 : (cs.length : Int) ≤ w := by rw [← hw]; split <;> omega
  have hi0 : 0 ≤ (k + 1) % w := Int.emod_nonneg _ (by omega)
  have hi1 : (k + 1) % w < w := Int.emod_lt_of_pos _ w0
  generalize hj : (k + 1) % w = j at hi0 hi1
  have hjl : j.toNat < (cs ++ [0]).length := by rw [List.length_append]; simp; omega
  have hadd : dAdd (.loc 0) (dL [.int 0]) (St cs (k + 1) T) = .ok (dL ((cs ++ [0]).map .int)) (St cs (k + 1) T) := by
    rw [dAddM (xs := cs.map .int) (by show some (SO.lst _) = _; rw [List.map_map]; rfl) (by rw [List.length_map]; simp; omega)]
    simp
  have hcell : dIxD (dL ((cs ++ [0]).map .int)) (dI j) (St cs (k + 1) T) = .ok (dI (cs ++ [0])[j.toNat]) (St cs (k + 1) T) := ixLi hi0 (List.getElem?_eq_getElem hjl)
  have c0 : 0 ≤ (cs ++ [0])[j.toNat] := by
    have := List.getElem_mem hjl
    rcases List.mem_append.mp this with z | z
    · exact h1 _ z
    · rw [List.mem_singleton.mp z]; exact Int.le_refl 0
  have hcs : (cs ++ [0])[j.toNat] ≥ 1000000000000000000 → ∃ h : j.toNat < cs.length, (cs ++ [0])[j.toNat] = cs[j.toNat] := fun hbig => by
    by_cases z : j.toNat < cs.length
    · exact ⟨z, List.getElem_append_left z⟩
    · have : (cs ++ [0])[j.toNat] = 0 := by
        rw [List.getElem_append_right (by omega)]
        simp
      omega
  generalize hcv : (cs ++ [0])[j.toNat] = c at hcell c0 hcs
  have b1 : 0 ≤ c % 2147483563 := Int.emod_nonneg _ (by decide)
  have b2 : c % 2147483563 < 2147483563 := Int.emod_lt_of_pos _ (by decide)
  have b3 : (c % 2147483563 + 104729 * (k + 1) + 7).natAbs < 18446744073709551616 := by omega
  have hD : Dk n T (St cs (k + 1) T) := ⟨cs, k + 1, rfl, h1, h2, by omega, by omega⟩
  by_cases hbig : c ≥ 1000000000000000000
  · obtain ⟨hlt, ecs⟩ := hcs hbig
    have hset : dSetL (.loc 0) (dI j) (dI (c / l)) (St cs (k + 1) T) = some (St (cs.set j.toNat (c / l)) (k + 1) T) := by
      unfold dSetL
      simp only [St, List.getElem?_cons_zero, List.length_map]
      have : L2.ixN cs.length j = some j.toNat := by
        unfold L2.ixN
        rw [if_pos hi0, if_pos (by omega)]
      rw [this]
      simp only
      rw [if_pos (by omega), set_at]
      rfl
    have hstore : xStore (xBin dIxD (xV 0) (xC (.int 0))) (xV 2) (xBin dDiv (xV 3) (xV 1)) [some (.loc 1), some (dI l), some (dI j), some (dI c), none] (St cs (k + 1) T) = .ok (.nx [some (.loc 1), some (dI l), some (dI j), some (dI c), none]) (St (cs.set j.toNat (c / l)) (k + 1) T) := by
      unfold xStore
      simp [l0, l1, hc, hset]
    refine ⟨c % l, St (cs.set j.toNat (c / l)) (k + 1) T, ?_, Int.emod_nonneg _ (by omega), Int.emod_lt_of_pos _ l0, ⟨_, _, rfl, fun c' hc' => ?_, by rw [List.length_set]; exact h2, by omega, by omega⟩⟩
    · unfold xBody m_draw_2 env0
      rw [show ([D.loc 1, dI l].map some ++ List.replicate (5 - [D.loc 1, dI l].length) none : Envr) = [some (.loc 1), some (dI l), none, none, none] from rfl]
      rw [xSeq_e, hst]
      simp [-List.map_map, -List.map_append, hk, hc, hlen, hw, w0, hj, hadd, hcell, p18, hbig, hstore, l0]
    · rcases List.mem_or_eq_of_mem_set hc' with z | z
      · exact h1 _ z
      · rw [z]; exact Int.ediv_nonneg c0 (by omega)
  · refine ⟨((c % 2147483563 + 104729 * (k + 1) + 7) ^ 4 % 2147483629 / 8 + 31 * (k + 1)) % l, _, ?_, Int.emod_nonneg _ (by omega), Int.emod_lt_of_pos _ l0, hD⟩
    unfold xBody m_draw_2 env0
    rw [show ([D.loc 1, dI l].map some ++ List.replicate (5 - [D.loc 1, dI l].length) none : Envr) = [some (.loc 1), some (dI l), none, none, none] from rfl]
    rw [xSeq_e, hst]
    simp [-List.map_map, -List.map_append, hk, hc, hlen, hw, w0, hj, hadd, hcell, p18, hbig, l0, b3]
theorem draw2_ok {n : Nat} {T S : Sto} (l : Int) (h : Dk (n + 1) T S) (l0 : 0 < l) (l1 : l < 1073741824) : ∃ v S', f_draw_2 [.loc 1, dI l] S = .ok (dI v) S' ∧ 0 ≤ v ∧ v < l ∧ Dk n T S' := by
  obtain ⟨v, S', e, v0, v1, h'⟩ := draw2_body l h l0 l1
  obtain ⟨S'', e2, h2⟩ := h.trim (J := []) (by rw [List.append_nil]; exact h') e
  exact ⟨v, S'', e2, v0, v1, h2⟩
theorem circle_ok {n : Nat} {T S : Sto} (h : Dk (n + 2) T S) : ∃ v S', f_circle [.loc 1] S = .ok (dI v) S' ∧ 1 ≤ v ∧ v ≤ 60 ∧ Dk n T S' := by
  obtain ⟨way, S1, e1, w0, w1, h1⟩ := draw2_ok (n := n + 1) 4 h (by decide) (by decide)
  have fin : ∀ (v : Int) (S2 : Sto), xBody 2 m_circle [.loc 1] S = .ok (dI v) S2 → 1 ≤ v → v ≤ 60 → Dk n T S2 → ∃ v S', f_circle [.loc 1] S = .ok (dI v) S' ∧ 1 ≤ v ∧ v ≤ 60 ∧ Dk n T S' := fun v S2 e a b d => by
    obtain ⟨S'', e2, h2⟩ := h.trim (J := []) (by rw [List.append_nil]; exact d) e
    exact ⟨v, S'', e2, a, b, h2⟩
  have hb : xBody 2 m_circle [.loc 1] S = xBody 2 m_circle [.loc 1] S := rfl
  by_cases hw : way = 2
  · subst hw
    obtain ⟨v, S2, e2, v0, v1, h2⟩ := draw2_ok (n := n) 5 h1 (by decide) (by decide)
    obtain ⟨q, eq, q0, q1⟩ : ∃ q : Int, dIxD (dL [.int 12, .int 24, .int 36, .int 48, .int 60]) (dI v) S2 = .ok (dI q) S2 ∧ 1 ≤ q ∧ q ≤ 60 := by
      rcases (by omega : v = 0 ∨ v = 1 ∨ v = 2 ∨ v = 3 ∨ v = 4) with e | e | e | e | e <;> subst e
      · exact ⟨12, rfl, by decide, by decide⟩
      · exact ⟨24, rfl, by decide, by decide⟩
      · exact ⟨36, rfl, by decide, by decide⟩
      · exact ⟨48, rfl, by decide, by decide⟩
      · exact ⟨60, rfl, by decide, by decide⟩
    refine fin q S2 ?_ q0 q1 h2
    unfold xBody m_circle env0
    simp [e1, eqI, e2, eq]
  · obtain ⟨q, eq, q0, q1⟩ : ∃ q : Int, dIxD (dL [.int 6, .int 24, .int 1, .int 60]) (dI way) S1 = .ok (dI q) S1 ∧ 1 ≤ q ∧ q ≤ 60 := by
      rcases (by omega : way = 0 ∨ way = 1 ∨ way = 2 ∨ way = 3) with e | e | e | e <;> subst e
      · exact ⟨6, rfl, by decide, by decide⟩
      · exact ⟨24, rfl, by decide, by decide⟩
      · exact ⟨1, rfl, by decide, by decide⟩
      · exact ⟨60, rfl, by decide, by decide⟩
    obtain ⟨v, S2, e2, v0, v1, h2⟩ := draw2_ok (n := n) q h1 (by omega) (by omega)
    refine fin (1 + v) S2 ?_ (by omega) (by omega) h2
    unfold xBody m_circle env0
    simp [e1, eqI, hw, eq, e2]
theorem append_ok {n : Nat} {S : Sto} {xs : List D} {x : D} (hS : S[n]? = some (.lst xs)) (hl : xs.length < 1000000) : mAppend (.loc n) [x] S = .ok dN (S.set n (.lst (xs ++ [x]))) := by
  unfold mAppend
  simp only [hS]
  rw [if_pos hl]
theorem ints_snoc (xs : List Int) (x : Int) : (xs.map fun i => D.py (.int i)) ++ [dI x] = (xs ++ [x]).map fun i => .py (.int i) := by simp
/-- distinct numbers below m, ascending -/
theorem subset_ok {n : Nat} {T S : Sto} (m many : Int) (h : Dk (n + many.toNat) T S) (h0 : 0 ≤ many) (h1 : many ≤ m) (h2 : m ≤ 1000) :
    ∃ (xs : List Int) (S' : Sto), f_subset [.loc 1, dI m, dI many] S = .ok (dL (xs.map .int)) S' ∧ xs.Pairwise (· < ·) ∧ (∀ x ∈ xs, 0 ≤ x ∧ x < m) ∧ xs.length = many.toNat ∧ Dk n T S' := by
  have hp : S.length = T.length + 2 := h.len
  have hpush := (h.push (.lst ((rgI 0 m).map fun i => .py (.int i)))).push (.lst [])
  let L : List Int → SO := fun xs => .lst (xs.map fun i => .py (.int i))
  let I : Nat → Envr → Sto → Prop := fun j env S => ∃ (left xs : List Int) (x5 : Option D), env = [some (.loc 1), some (dI m), some (dI many), some (.loc (T.length + 2)), some (.loc (T.length + 3)), x5] ∧ Dk (n + j) (T ++ [L left] ++ [L xs]) S ∧ (xs ++ left).Perm (rgI 0 m) ∧ j ≤ left.length ∧ xs.length + j = many.toNat
  have hlen : (rgI 0 many).length = many.toNat := by rw [rgI_length]; simp
  obtain ⟨env', S1, e1, left, xs, x5, rfl, hd, hperm, _, hcnt⟩ := forL_inv (t := .nm 5) (fb := m_subset_l1) (fun i : Int => D.py (.int i)) I (rgI 0 many)
    [some (.loc 1), some (dI m), some (dI many), some (.loc (T.length + 2)), some (.loc (T.length + 3)), none] (S ++ [L (rgI 0 m)] ++ [L []])
    ⟨rgI 0 m, [], none, rfl, by rw [hlen]; exact hpush, by simp, by rw [hlen, rgI_length]; omega, by rw [hlen]; simp⟩ (by
      rintro y _ j env S2 ⟨left, xs, x5, rfl, hd, hperm, hj, hcnt⟩
      have hsum := hperm.length_eq
      rw [List.length_append, rgI_length] at hsum
      have get1 : ∀ {S3 : Sto} {k : Nat}, Dk k (T ++ [L left] ++ [L xs]) S3 → S3[T.length + 2]? = some (L left) := fun hh => by rw [hh.get T.length]; simp
      obtain ⟨v, S3, e3, v0, v1, hd3⟩ := draw2_ok (n := n + j) (left.length : Int) (by rw [show n + j + 1 = n + (j + 1) by omega]; exact hd) (by omega) (by omega)
      obtain ⟨i, rfl⟩ : ∃ i : Nat, v = (i : Nat) := ⟨v.toNat, by omega⟩
      have hi : i < left.length := by omega
      have hd4 := hd3.set T.length (L (left.eraseIdx i))
      have hT4 : (T ++ [L left] ++ [L xs]).set T.length (L (left.eraseIdx i)) = T ++ [L (left.eraseIdx i)] ++ [L xs] := by simp
      rw [hT4] at hd4
      have get4 : (S3.set (T.length + 2) (L (left.eraseIdx i)))[T.length + 3]? = some (L xs) := by rw [hd4.get (T.length + 1)]; simp
      have hd5 := hd4.set (T.length + 1) (L (xs ++ [left[i]]))
      have hT5 : (T ++ [L (left.eraseIdx i)] ++ [L xs]).set (T.length + 1) (L (xs ++ [left[i]])) = T ++ [L (left.eraseIdx i)] ++ [L (xs ++ [left[i]])] := by
        rw [List.set_append_right _ _ (by simp)]; simp
      rw [hT5] at hd5
      refine ⟨_, [some (.loc 1), some (dI m), some (dI many), some (.loc (T.length + 2)), some (.loc (T.length + 3)), some (dI y)], _, bindN_e, ?_, left.eraseIdx i, xs ++ [left[i]], _, rfl, hd5, ?_, ?_, ?_⟩
      · have g1 := get1 hd
        have pop := popAt_ok (xs := left) (i := i) (get1 hd3) hi (by omega)
        have app := append_ok (x := dI left[i]) get4 (by rw [List.length_map]; omega)
        have ty1 : tyD S2 (.loc (T.length + 2)) = some "list" := by unfold tyD; simp [g1, L]
        have ty2 : tyD S2 (.loc (T.length + 3)) = some "list" := by
          unfold tyD
          have : S2[T.length + 3]? = some (L xs) := by rw [hd.get (T.length + 1)]; simp
          simp [this, L]
        have hl2 : fLen [.loc (T.length + 2)] S2 = .ok (dI left.length) S2 := by rw [fLenM g1, List.length_map]
        unfold m_subset_l1 xBM
        simp only [xDrop_e, List.set_cons_succ, List.set_cons_zero, xV_e, List.getElem?_cons_succ, List.getElem?_cons_zero, bind_ok, ty2, xCons_e, ty1, xCall_e, xCB_e, xNil_e, hl2, List.length_cons, List.length_nil, Nat.zero_add, Nat.reduceAdd, if_true, e3]
        rw [pop]
        simp only [bind_ok]
        rw [app, ints_snoc]
        rfl
      · refine List.Perm.trans ?_ hperm
        rw [List.append_assoc]
        refine List.Perm.append_left _ ?_
        exact erase_perm left i hi
      · rw [List.length_eraseIdx_of_lt hi]; omega
      · rw [List.length_append]; simp; omega)
  have hx : xs.Nodup := by
    have : (xs ++ left).Nodup := hperm.nodup_iff.mpr (rgI_nodup 0 m)
    exact (List.nodup_append.mp this).1
  have gx : S1[T.length + 3]? = some (.lst ((xs.map PyData.int).map .py)) := by rw [hd.get (T.length + 1)]; simp [L]
  have body : xBody 6 m_subset [.loc 1, dI m, dI many] S = .ok (dL ((sortI xs).map .int)) S1 := by
    unfold xBody m_subset env0
    rw [show ([D.loc 1, dI m, dI many].map some ++ List.replicate (6 - [D.loc 1, dI m, dI many].length) none : Envr) = [some (.loc 1), some (dI m), some (dI many), none, none, none] from rfl]
    rw [xSeq_e]
    unfold xPar
    simp only [xCons_e, xCB_e, xV_e, xNil_e, xMut_e, List.getElem?_cons_succ, List.getElem?_cons_zero, bind_ok, fRgM_e]
    rw [if_pos ⟨by omega, by omega⟩]
    simp only [bind_ok, List.length_nil]
    rw [if_pos (Nat.zero_le _)]
    simp only [bind_ok, bindX_ok, List.set_cons_succ, List.set_cons_zero, hp]
    rw [show (S ++ [SO.lst ((rgI 0 m).map fun i => D.py (.int i))]).length = T.length + 3 by simp [hp]]
    rw [xSeq_e]
    simp only [xFor_e, xRg1_e, xCons_e, xV_e, xNil_e, List.getElem?_cons_succ, List.getElem?_cons_zero, bind_ok, iR1_e]
    rw [if_pos (by omega)]
    simp only [bindX_ok]
    have e1' := e1
    simp only [L, List.map_nil] at e1'
    rw [e1']
    simp only [xRet_e, xCB_e, xCons_e, xV_e, xNil_e, List.getElem?_cons_succ, List.getElem?_cons_zero, bind_ok, fSort, intLM gx, bindX_ok]
  obtain ⟨S', e4, hd4⟩ := h.trim (J := [L left] ++ [L xs]) (by rw [← List.append_assoc]; exact hd) body
  refine ⟨sortI xs, S', e4, sort_lt hx, fun x hx' => ?_, ?_, hd4⟩
  · have : x ∈ rgI 0 m := hperm.subset (List.mem_append_left _ ((sortI_perm xs).subset hx'))
    exact rgI_mem.mp this
  · rw [(sortI_perm xs).length_eq]; omega
end QQ
end
section
set_option maxRecDepth 100000
set_option maxHeartbeats 1000000
/-! DN2: tools. -/
namespace QQ
open PySem DL
def pr (p : Int × Int) : PyData := pairP (.int p.1) (.int p.2)
structure Tool (m : Int) (t : List (Int × Int)) : Prop where
  lt : t.Pairwise fun p q => p.1 < q.1
  rg : ∀ p ∈ t, 0 ≤ p.1 ∧ p.1 < m ∧ 0 ≤ p.2 ∧ p.2 < m
  ne : t ≠ []
  len : t.length ≤ 12
  cyc : ∃ (z : Int) (ws : List Int), t.map Prod.snd = ws.map (fun w => (z + w) % m) ∧ ws.Pairwise (· < ·) ∧ ∀ w ∈ ws, 0 ≤ w ∧ w < m
/-- the rows of a drawn tool -/
def row (m z d : Int) (bs os : List Int) (k : Int) : List (Int × Int) := (bs.zip os).map fun p => (p.1 + k * d, (z + p.2 + k * d) % m)
theorem drawn_tool {m z d c : Int} {bs os : List Int} {many : Nat} (hm : m = c * d) (d1 : 1 ≤ d) (c1 : 1 ≤ c) (hb : bs.Pairwise (· < ·)) (ho : os.Pairwise (· < ·)) (rb : ∀ x ∈ bs, 0 ≤ x ∧ x < d) (ro : ∀ x ∈ os, 0 ≤ x ∧ x < d)
    (lb : bs.length = many) (lo : os.length = many) (h1 : 1 ≤ many) (h12 : (many : Int) * c ≤ 12) : Tool m ((rgI 0 c).flatMap (row m z d bs os)) := by
  have m0 : 0 < m := by rw [hm]; exact Int.mul_pos (by omega) (by omega)
  have zip_mem : ∀ p ∈ bs.zip os, p.1 ∈ bs ∧ p.2 ∈ os := fun p hp => ⟨(List.of_mem_zip (show (p.1, p.2) ∈ bs.zip os from hp)).1, (List.of_mem_zip (show (p.1, p.2) ∈ bs.zip os from hp)).2⟩
  have blk : ∀ {i j x y : Int}, i < j → 0 ≤ x → x < d → 0 ≤ y → y < d → x + i * d < y + j * d := fun {i j x y} hij x0 x1 y0 y1 => by
    have : (i + 1) * d ≤ j * d := Int.mul_le_mul_of_nonneg_right (by omega) (by omega)
    rw [Int.add_mul, Int.one_mul] at this
    omega
  have up : ∀ {i x : Int}, 0 ≤ i → i < c → 0 ≤ x → x < d → 0 ≤ x + i * d ∧ x + i * d < m := fun {i x} i0 i1 x0 x1 => by
    have a := Int.mul_nonneg i0 (show 0 ≤ d by omega)
    have b : (i + 1) * d ≤ c * d := Int.mul_le_mul_of_nonneg_right (by omega) (by omega)
    rw [Int.add_mul, Int.one_mul] at b
    omega
  have zl : (bs.zip os).length = many := by rw [List.length_zip, lb, lo, Nat.min_self]
  have fst_pw : (bs.zip os).Pairwise fun p q => p.1 < q.1 := by
    have : ((bs.zip os).map Prod.fst).Pairwise (· < ·) := by rw [List.map_fst_zip (by omega)]; exact hb
    rw [List.pairwise_map] at this; exact this
  have snd_pw : (bs.zip os).Pairwise fun p q => p.2 < q.2 := by
    have : ((bs.zip os).map Prod.snd).Pairwise (· < ·) := by rw [List.map_snd_zip (by omega)]; exact ho
    rw [List.pairwise_map] at this; exact this
  refine ⟨?_, ?_, ?_, ?_, z, (rgI 0 c).flatMap fun k => (bs.zip os).map fun p => p.2 + k * d, ?_, ?_, ?_⟩
  · rw [List.pairwise_flatMap]
    refine ⟨fun k _ => ?_, (rgI_lt 0 c).imp fun {i j} hij p hp q hq => ?_⟩
    · unfold row
      rw [List.pairwise_map]
      exact fst_pw.imp fun h => by simp only; omega
    · obtain ⟨p', hp', rfl⟩ := List.mem_map.mp hp
      obtain ⟨q', hq', rfl⟩ := List.mem_map.mp hq
      have a := rb _ (zip_mem _ hp').1
      have b := rb _ (zip_mem _ hq').1
      exact blk hij a.1 a.2 b.1 b.2
  · intro p hp
    obtain ⟨k, hk, hp⟩ := List.mem_flatMap.mp hp
    obtain ⟨p', hp', rfl⟩ := List.mem_map.mp hp
    have a := rb _ (zip_mem _ hp').1
    have hk := rgI_mem.mp hk
    have := up hk.1 hk.2 a.1 a.2
    exact ⟨this.1, this.2, Int.emod_nonneg _ (by omega), Int.emod_lt_of_pos _ m0⟩
  · intro e
    have h0 : (0 : Int) ∈ rgI 0 c := rgI_mem.mpr ⟨Int.le_refl 0, by omega⟩
    have hz : bs.zip os ≠ [] := fun z => by rw [z] at zl; simp at zl; omega
    obtain ⟨p, hp⟩ := List.exists_mem_of_ne_nil _ hz
    have : (p.1 + 0 * d, (z + p.2 + 0 * d) % m) ∈ (rgI 0 c).flatMap (row m z d bs os) := List.mem_flatMap.mpr ⟨0, h0, List.mem_map.mpr ⟨p, hp, rfl⟩⟩
    rw [e] at this
    cases this
  · have : ∀ l : List Int, (l.flatMap (row m z d bs os)).length = l.length * many := fun l => by
      induction l with
      | nil => simp
      | cons x r ih =>
        rw [List.flatMap_cons, List.length_append, ih, List.length_cons]
        unfold row
        rw [List.length_map, zl, Nat.add_mul]
        omega
    rw [this, rgI_length]
    have e : ((c - 0).toNat : Int) = c := by omega
    have : (((c - 0).toNat * many : Nat) : Int) ≤ 12 := by rw [Int.natCast_mul, e, Int.mul_comm]; exact h12
    omega
  · rw [List.map_flatMap, List.map_flatMap]
    congr 1
    funext k
    unfold row
    rw [List.map_map, List.map_map]
    refine List.map_congr_left fun p _ => ?_
    show (z + p.2 + k * d) % m = (z + (p.2 + k * d)) % m
    rw [Int.add_assoc]
  · rw [List.pairwise_flatMap]
    refine ⟨fun k _ => ?_, (rgI_lt 0 c).imp fun {i j} hij p hp q hq => ?_⟩
    · rw [List.pairwise_map]
      exact snd_pw.imp fun h => by omega
    · obtain ⟨p', hp', rfl⟩ := List.mem_map.mp hp
      obtain ⟨q', hq', rfl⟩ := List.mem_map.mp hq
      have a := ro _ (zip_mem _ hp').2
      have b := ro _ (zip_mem _ hq').2
      exact blk hij a.1 a.2 b.1 b.2
  · intro w hw
    obtain ⟨k, hk, hw⟩ := List.mem_flatMap.mp hw
    obtain ⟨p', hp', rfl⟩ := List.mem_map.mp hw
    have a := ro _ (zip_mem _ hp').2
    have hk := rgI_mem.mp hk
    exact up hk.1 hk.2 a.1 a.2
theorem one_tool {m v : Int} (v0 : 0 ≤ v) (v1 : v < m) : Tool m [(0, v)] :=
  ⟨List.pairwise_singleton _ _, fun p hp => by rw [List.mem_singleton.mp hp]; exact ⟨Int.le_refl 0, by show (0 : Int) < m; omega, v0, v1⟩, by simp, by simp, v, [0], by simp [Int.emod_eq_of_lt v0 v1], List.pairwise_singleton _ _, fun w hw => by rw [List.mem_singleton.mp hw]; exact ⟨Int.le_refl 0, by omega⟩⟩
/-- the divisors that are drawn from -/
def divs (m : Int) : List Int := (rgI 1 (m + 1)).filter fun d => (m % d == 0) && decide (m / d ≤ 12)
theorem divs_mem {m d : Int} (h : d ∈ divs m) : 1 ≤ d ∧ d ≤ m ∧ m = m / d * d ∧ m / d ≤ 12 := by
  obtain ⟨h1, h2⟩ := List.mem_filter.mp h
  have h1 := rgI_mem.mp h1
  rw [Bool.and_eq_true, beq_iff_eq, decide_eq_true_eq] at h2
  refine ⟨h1.1, by omega, ?_, h2.2⟩
  have := Int.emod_add_mul_ediv m d
  rw [h2.1, Int.zero_add, Int.mul_comm] at this
  exact this.symm
theorem divs_self {m : Int} (h : 1 ≤ m) : m ∈ divs m := by
  refine List.mem_filter.mpr ⟨rgI_mem.mpr ⟨h, by omega⟩, ?_⟩
  rw [Int.emod_self, Int.ediv_self (by omega)]
  rfl
theorem divs_len {m : Int} (h : m ≤ 1000) : (divs m).length ≤ 1000 := by
  have := List.length_filter_le (fun d => (m % d == 0) && decide (m / d ≤ 12)) (rgI 1 (m + 1))
  rw [rgI_length] at this
  unfold divs
  omega
theorem tool4_ok1 {n : Nat} {T S : Sto} (m : Int) (h : Dk (n + 200) T S) (m0 : 1 ≤ m) (m1 : m ≤ 60) : ∃ (t : List (Int × Int)) (S' : Sto), f_tool_4 [.loc 1, dI m] S = .ok (dT (t.map pr)) S' ∧ Tool m t ∧ (∀ p, t = [p] → p.1 = 0) ∧ Dk n T S' := by
  have hdl := divs_len (m := m) (by omega)
  have hdpos : 0 < (divs m).length := List.length_pos_iff.mpr (List.ne_nil_of_mem (divs_self m0))
  obtain ⟨v1, S1, e1, a0, a1, h1⟩ := draw2_ok (n := n + 199) ((divs m).length : Int) h (by omega) (by omega)
  obtain ⟨v2, S2, e2, b0, b1, h2⟩ := draw2_ok (n := n + 198) 2 h1 (by decide) (by decide)
  have hv1 : v1.toNat < (divs m).length := by omega
  have hd1 := divs_mem (List.getElem_mem hv1)
  obtain ⟨d, ed, hd⟩ : ∃ d : Int, dIxD (dL [.int (divs m)[v1.toNat], .int m]) (dI v2) S2 = .ok (dI d) S2 ∧ 1 ≤ d ∧ d ≤ m ∧ m = m / d * d ∧ m / d ≤ 12 := by
    rcases (by omega : v2 = 0 ∨ v2 = 1) with e | e <;> subst e
    · exact ⟨_, rfl, hd1⟩
    · exact ⟨_, rfl, divs_mem (divs_self m0)⟩
  generalize hc : m / d = c at hd
  obtain ⟨d0, dm, emd, c12⟩ := hd
  have c1 : 1 ≤ c := by
    have : 0 ≤ c := by rw [← hc]; exact Int.ediv_nonneg (by omega) (by omega)
    rcases (by omega : c = 0 ∨ 1 ≤ c) with e | e
    · rw [e] at emd; omega
    · exact e
  -- how many arcs in a block
  have q0 : 1 ≤ 12 * d / m := by
    refine (Int.le_ediv_iff_mul_le (by omega)).mpr ?_
    rw [Int.one_mul, emd]
    exact Int.mul_le_mul_of_nonneg_right c12 (by omega)
  obtain ⟨lim, elim, l0, l1, l2⟩ : ∃ lim : Int, (if 12 * d / m < d then 12 * d / m else d) = lim ∧ 1 ≤ lim ∧ lim ≤ d ∧ lim ≤ 12 * d / m := ⟨_, rfl, by split <;> omega, by split <;> omega, by split <;> omega⟩
  obtain ⟨v3, S3, e3, g0, g1, h3⟩ := draw2_ok (n := n + 197) lim h2 (by omega) (by omega)
  obtain ⟨bs, S4, e4, pb, rb, lb, h4⟩ := subset_ok (n := n + 100) d (1 + v3) (h3.mono (by omega)) (by omega) (by omega) (by omega)
  obtain ⟨os, S5, e5, po, ro, lo, h5⟩ := subset_ok (n := n + 20) d (1 + v3) (h4.mono (by omega)) (by omega) (by omega) (by omega)
  obtain ⟨z, S6, e6, z0, z1, h6⟩ := draw2_ok (n := n + 19) m h5 (by omega) (by omega)
  have hmany : ((1 + v3).toNat : Int) * c ≤ 12 := by
    have a : (1 + v3) ≤ 12 * d / m := by omega
    have b : (1 + v3) * m ≤ 12 * d := (Int.le_ediv_iff_mul_le (by omega)).mp a
    rw [emd, ← Int.mul_assoc] at b
    have := Int.le_of_mul_le_mul_right b (by omega)
    rw [show ((1 + v3).toNat : Int) = 1 + v3 by omega]; exact this
  have ht := drawn_tool (z := z) emd d0 c1 pb po rb ro lb lo (by omega) hmany
  have hrowl : ∀ k, (row m z d bs os k).length = (1 + v3).toNat := fun k => by unfold row; rw [List.length_map, List.length_zip, lb, lo, Nat.min_self]
  have hp : S6.length = T.length + 2 := h6.len
  let L : List (Int × Int) → SO := fun t => .lst (t.map fun p => .py (pr p))
  let E : Option D → Option D → Option D → Option D → Envr := fun x9 x10 x11 x12 => [some (.loc 1), some (dI m), some (dL ((divs m).map .int)), some (dI d), some (dI (1 + v3)), some (dL (bs.map .int)), some (dL (os.map .int)), some (dI z), some (.loc (T.length + 2)), x9, x10, x11, x12]
  have hzip : List.zipWith pairP (bs.map .int) (os.map .int) = (bs.zip os).map pr := by
    rw [List.zipWith_map, List.map_zip_eq_zipWith]; rfl
  have hlenall : ∀ l : List Int, (l.flatMap (row m z d bs os)).length = l.length * (1 + v3).toNat := fun l => by
    induction l with
    | nil => simp
    | cons x r ih => rw [List.flatMap_cons, List.length_append, ih, List.length_cons, hrowl, Nat.add_mul]; omega
  have hmul : ∀ (k : Int) (S : Sto), dMul (dI k) (dI d) S = .ok (dI (k * d)) S := fun k S => by rw [dMul_e, if_pos (.inr (by omega))]
  have inner : ∀ (k : Int) (acc : List (Int × Int)) (x10 x11 x12 : Option D) (S : Sto), acc.length ≤ 10000 → Dk n (T ++ [L acc]) S → ∃ x10' x11' S', m_tool_4_l2 (E (some (dI k)) x10 x11 x12) S = .ok (.nx (E (some (dI k)) x10' x11' x12)) S' ∧ Dk n (T ++ [L (acc ++ row m z d bs os k)]) S' := by
    intro k acc x10 x11 x12 S hacc hS
    obtain ⟨env', S', e, x10', x11', rfl, hS'⟩ := forL_done (t := .tp [.nm 10, .nm 11]) (fb := m_tool_4_l1) (fun p : Int × Int => D.py (pr p)) (fun dn env S => ∃ x10' x11', env = E (some (dI k)) x10' x11' x12 ∧ Dk n (T ++ [L (acc ++ dn.map fun p => (p.1 + k * d, (z + p.2 + k * d) % m))]) S) (bs.zip os) [] (E (some (dI k)) x10 x11 x12) S ⟨x10, x11, rfl, by simpa using hS⟩ (by
      rintro a p b env S2 hab ⟨x10', x11', rfl, hS2⟩
      have hal : a.length ≤ 100 := by
        have := congrArg List.length hab
        simp only [List.nil_append, List.length_append, List.length_cons, List.length_zip] at this
        omega
      have get : S2[T.length + 2]? = some (L (acc ++ a.map fun p => (p.1 + k * d, (z + p.2 + k * d) % m))) := by rw [hS2.get T.length]; simp
      have ty : tyD S2 (.loc (T.length + 2)) = some "list" := by unfold tyD; simp [get, L]
      have app := append_ok (x := .py (pr (p.1 + k * d, (z + p.2 + k * d) % m))) get (by rw [List.length_map, List.length_append, List.length_map]; omega)
      have hset := hS2.set T.length (L (acc ++ (a ++ [p]).map fun p => (p.1 + k * d, (z + p.2 + k * d) % m)))
      have hT : (T ++ [L (acc ++ a.map fun p => (p.1 + k * d, (z + p.2 + k * d) % m))]).set T.length (L (acc ++ (a ++ [p]).map fun p => (p.1 + k * d, (z + p.2 + k * d) % m))) = T ++ [L (acc ++ (a ++ [p]).map fun p => (p.1 + k * d, (z + p.2 + k * d) % m))] := by simp
      rw [hT] at hset
      refine ⟨E (some (dI k)) (some (dI p.1)) (some (dI p.2)) x12, E (some (dI k)) (some (dI p.1)) (some (dI p.2)) x12, _, bind2_e, ?_, _, _, rfl, hset⟩
      unfold m_tool_4_l1 xBM
      simp only [xDrop_e, xV_e, xCons_e, xTup_e, xBin_e, xNil_e, E, List.getElem?_cons_succ, List.getElem?_cons_zero, bind_ok, ty, if_true, hmul, dAdd_e, dMod_e]
      rw [if_pos (by omega)]
      simp only [bind_ok, pys_cons, pys_nil, Option.map_some, List.length_cons, List.length_nil]
      rw [if_pos (by decide)]
      simp only [bind_ok]
      have app' : mAppend (.loc (T.length + 2)) [dT [.int (p.1 + k * d), .int ((z + p.2 + k * d) % m)]] S2 = _ := app
      rw [app']
      simp [L, List.map_append])
    refine ⟨x10', x11', S', ?_, ?_⟩
    · unfold m_tool_4_l2
      simp only [xFor_e, xZip_e, xCons_e, xV_e, xNil_e, E, List.getElem?_cons_succ, List.getElem?_cons_zero, bind_ok, iZipL_e, zOk_l, bindX_ok, hzip, List.map_map]
      exact e
    · simpa [row] using hS'
  obtain ⟨env', S7, e7, x9, x10, x11, x12, rfl, h7⟩ := forL_done (t := .nm 9) (fb := m_tool_4_l2) (fun i : Int => D.py (.int i)) (fun dn env S => ∃ x9 x10 x11 x12, env = E x9 x10 x11 x12 ∧ Dk n (T ++ [L (dn.flatMap (row m z d bs os))]) S) (rgI 0 c) [] (E none none none none) (S6 ++ [L []])
    ⟨none, none, none, none, rfl, (h6.push (L [])).mono (by omega)⟩ (by
      rintro a k b env S2 hab ⟨x9, x10, x11, x12, rfl, hS2⟩
      have hal : a.length ≤ 12 := by
        have := congrArg List.length hab
        simp only [List.nil_append, List.length_append, List.length_cons, rgI_length] at this
        omega
      have hmn : (1 + v3).toNat ≤ 60 := by omega
      obtain ⟨x10', x11', S', e, hS'⟩ := inner k (a.flatMap (row m z d bs os)) x10 x11 x12 S2 (by
        rw [hlenall]
        exact Nat.le_trans (Nat.mul_le_mul hal hmn) (by decide)) hS2
      refine ⟨E (some (dI k)) x10 x11 x12, _, S', bindN_e, e, _, _, _, _, rfl, ?_⟩
      rw [List.flatMap_append]
      simpa using hS')
  rw [List.nil_append] at h7
  generalize hpairs : (rgI 0 c).flatMap (row m z d bs os) = t at h7 ht
  have get7 : S7[T.length + 2]? = some (.lst ((t.map pr).map .py)) := by rw [h7.get T.length]; simp [L]
  have hcomp : xComp (xRg2 (xCons (xC (.int 1)) (xCons (xBin dAdd (xV 1) (xC (.int 1))) xNil))) (.nm 12) (xAndT (xT (xBin dEq (xBin dMod (xV 1) (xV 12)) (xC (.int 0)))) (xT (xBin dLe (xBin dDiv (xV 1) (xV 12)) (xC (.int 12))))) (xV 12) [12] [some (.loc 1), some (dI m), none, none, none, none, none, none, none, none, none, none, none] S = .ok (dL ((divs m).map .int)) S := by
    refine xComp_map (fun i : Int => D.py (.int i)) (fun d => (m % d == 0) && decide (m / d ≤ 12)) (fun d => .int d) (ys := rgI 1 (m + 1)) ?_ (by rw [rgI_length]; omega) fun x hx => ⟨_, bindN_e, ?_, fun _ => by simp [wipeE]⟩
    · simp
      omega
    · have hx := rgI_mem.mp hx
      simp [wipeE, eqI, show 0 < x by omega, show x < 1073741824 by omega]
      by_cases hz : m % x = 0 <;> simp [hz]
  have fin : ∀ (t' : List (Int × Int)), Tool m t' → (∀ p, t' = [p] → p.1 = 0) → xBody 13 m_tool_4 [.loc 1, dI m] S = .ok (dT (t'.map pr)) S7 → ∃ (t : List (Int × Int)) (S' : Sto), f_tool_4 [.loc 1, dI m] S = .ok (dT (t.map pr)) S' ∧ Tool m t ∧ (∀ p, t = [p] → p.1 = 0) ∧ Dk n T S' := fun t' h' ho e => by
    obtain ⟨S8, e8, h8⟩ := h.trim h7 e
    exact ⟨t', S8, e8, h', ho, h8⟩
  have upto : ∀ r : Res Fl, xRet (xIf (xT (xBin dGt (xCB fLen (xCons (xV 8) xNil)) (xC (.int 1)))) (xCB fTuple (xCons (xV 8) xNil)) (xTup (xCons (xTup (xCons (xC (.int 0)) (xCons (xBin dIxD (xBin dIxD (xV 8) (xC (.int 0))) (xC (.int 1))) xNil))) xNil))) (E x9 x10 x11 x12) S7 = r → xBody 13 m_tool_4 [.loc 1, dI m] S = (match r with | .ok (.rt d) S' => Res.ok d S' | .ok (.nx _) S' => Res.ok dN S' | _ => .bad) := fun r hr => by
    unfold xBody m_tool_4 env0
    rw [show ([D.loc 1, dI m].map some ++ List.replicate (13 - [D.loc 1, dI m].length) none : Envr) = [some (.loc 1), some (dI m), none, none, none, none, none, none, none, none, none, none, none] from rfl]
    rw [xSeq_e]
    simp only [xSet_e, hcomp, bindX_ok, List.set_cons_succ, List.set_cons_zero]
    rw [xSeq_e]
    have ix1 : dIxD (dL ((divs m).map .int)) (dI v1) S1 = .ok (dI (divs m)[v1.toNat]) S1 := ixLi a0 (List.getElem?_eq_getElem hv1)
    simp only [xSet_e, xBin_e, xLst_e, xCons_e, xCall_e, xCB_e, xV_e, xC_e, xNil_e, List.getElem?_cons_succ, List.getElem?_cons_zero, bind_ok, fLenL_e, List.length_map, List.length_cons, List.length_nil, Nat.zero_add, Nat.reduceAdd, if_true, e1, ix1, pys_cons, pys_nil, Option.map_some]
    rw [if_pos (by decide)]
    simp only [bind_ok, e2, ed, bindX_ok, List.set_cons_succ, List.set_cons_zero]
    rw [xSeq_e]
    simp only [xSet_e, xBin_e, xCons_e, xCall_e, xCB_e, xV_e, xC_e, xNil_e, List.getElem?_cons_succ, List.getElem?_cons_zero, bind_ok, dMul_e]
    rw [if_pos (.inl (by decide))]
    simp only [bind_ok, dDiv_e]
    rw [if_pos ⟨by omega, by omega⟩]
    simp only [bind_ok, fMin2_e, elim, List.length_cons, List.length_nil, Nat.zero_add, Nat.reduceAdd, if_true, e3, dAdd_e, bindX_ok, List.set_cons_succ, List.set_cons_zero]
    rw [xSeq_e]
    unfold xPar
    simp only [xCons_e, xCall_e, xV_e, xNil_e, List.getElem?_cons_succ, List.getElem?_cons_zero, bind_ok, List.length_cons, List.length_nil, Nat.zero_add, Nat.reduceAdd, if_true, e4, e5, bindX_ok, List.set_cons_succ, List.set_cons_zero]
    rw [xSeq_e]
    simp only [xCons_e, xCall_e, xV_e, xNil_e, xMut_e, List.getElem?_cons_succ, List.getElem?_cons_zero, bind_ok, List.length_cons, List.length_nil, Nat.zero_add, Nat.reduceAdd, if_true, e6, Nat.zero_le, bindX_ok, List.set_cons_succ, List.set_cons_zero, hp]
    rw [xSeq_e]
    simp only [xFor_e, xRg1_e, xCons_e, xBin_e, xV_e, xNil_e, List.getElem?_cons_succ, List.getElem?_cons_zero, bind_ok, dDiv_e]
    rw [if_pos ⟨by omega, by omega⟩]
    simp only [bind_ok, iR1_e, hc]
    rw [if_pos (by omega)]
    simp only [bindX_ok]
    have e7' := e7
    simp only [E, L, List.map_nil] at e7'
    rw [e7']
    simp only
    simp only [E] at hr
    rw [hr]
    try rfl
    try (cases r <;> rfl)
  by_cases hl : t.length > 1
  · refine fin t ht (fun p hp => by rw [hp] at hl; simp at hl) ?_
    rw [upto _ rfl]
    simp only [xRet_e, xIf_e, xT_e, xBin_e, xCB_e, xCons_e, xV_e, xNil_e, xC_e, E, List.getElem?_cons_succ, List.getElem?_cons_zero, bind_ok, fLenM get7, dCmp_e, asB_e, List.length_map]
    rw [if_pos (decide_eq_true (by omega))]
    simp only [fTupleM get7, bindX_ok]
  · obtain ⟨p, rfl⟩ : ∃ p, t = [p] := by
      match t, ht.ne, hl with
      | [p], _, _ => exact ⟨p, rfl⟩
      | p :: q :: r, _, hl => simp at hl
    have rg := ht.rg p (List.mem_singleton_self p)
    refine fin [(0, p.2)] (one_tool rg.2.2.1 rg.2.2.2) (fun p hp => by cases hp; rfl) ?_
    rw [upto _ rfl]
    have ix : dIxD (.loc (T.length + 2)) (dI 0) S7 = .ok (.py (pr p)) S7 := ixM (xs := [.py (pr p)]) get7 (Int.le_refl 0) rfl
    have ix2 : dIxD (.py (pr p)) (dI 1) S7 = .ok (dI p.2) S7 := ixT01
    simp only [xRet_e, xIf_e, xT_e, xBin_e, xCB_e, xCons_e, xV_e, xNil_e, xC_e, E, List.getElem?_cons_succ, List.getElem?_cons_zero, bind_ok, fLenM get7, dCmp_e, asB_e, List.length_map, List.length_cons, List.length_nil]
    rw [if_neg (by decide)]
    simp only [xTup_e, xCons_e, xC_e, xBin_e, xV_e, xNil_e, List.getElem?_cons_succ, List.getElem?_cons_zero, bind_ok, ix, ix2, pys_cons, pys_nil, Option.map_some, List.length_cons, List.length_nil]
    rw [if_pos (by decide)]
    simp only [bind_ok, pys_cons, pys_nil, Option.map_some, List.length_cons, List.length_nil]
    rw [if_pos (by decide)]
    rfl
theorem tool4_ok {n : Nat} {T S : Sto} (m : Int) (h : Dk (n + 200) T S) (m0 : 1 ≤ m) (m1 : m ≤ 60) : ∃ (t : List (Int × Int)) (S' : Sto), f_tool_4 [.loc 1, dI m] S = .ok (dT (t.map pr)) S' ∧ Tool m t ∧ Dk n T S' := by
  obtain ⟨t, S', a, b, _, c⟩ := tool4_ok1 m h m0 m1
  exact ⟨t, S', a, b, c⟩
end QQ
end
section
set_option maxRecDepth 100000
set_option maxHeartbeats 1000000
/-! DN3: targets and tables. -/
namespace DL
open PySem
theorem lay_ints : ∀ xs : List Int, PyData.canLayAll0 (xs.map .int) = true
  | [] => rfl
  | x :: xs => by simp [PyData.canLayAll0, PyData.canLay0, lay_ints xs]
theorem depth_ints : ∀ xs : List Int, PyData.depthAll (xs.map .int) = 0
  | [] => rfl
  | x :: xs => by simp [PyData.depthAll, PyData.depth, depth_ints xs]
theorem sh_ints (xs : List Int) : SeqAt.shaped (.list (xs.map .int)) = true := by
  simp [SeqAt.shaped, PyData.canLay0, PyData.depth, lay_ints, depth_ints]
theorem sh_nil : SeqAt.shaped (.list []) = true := sh_ints []
theorem sh_int (i : Int) : SeqAt.shaped (.int i) = true := by simp [SeqAt.shaped, PyData.canLay0, PyData.depth]
theorem neNil {xs : List Int} {S : Sto} : dNe (dL (xs.map .int)) (dL []) S = .ok (dB (!xs.isEmpty)) S := by
  unfold dNe
  simp only [toPy]
  rw [if_pos ⟨sh_ints xs, sh_nil⟩]
  cases xs with
  | nil => rfl
  | cons x r => simp [PyData.eqv, PyData.eqvAll]
theorem eqNil {xs : List Int} {S : Sto} : dEq (dL (xs.map .int)) (dL []) S = .ok (dB xs.isEmpty) S := by
  unfold dEq
  simp only [toPy]
  rw [if_pos ⟨sh_ints xs, sh_nil⟩]
  cases xs with
  | nil => rfl
  | cons x r => simp [PyData.eqv, PyData.eqvAll]
theorem any_ints (x : Int) : ∀ xs : List Int, ((xs.map PyData.int).any fun z => PyData.eqv z (.int x)) = decide (x ∈ xs)
  | [] => by simp
  | y :: xs => by
    rw [List.map_cons, List.any_cons, any_ints x xs]
    simp only [PyData.eqv, List.mem_cons]
    by_cases h : y = x
    · subst h; simp
    · have : ¬ x = y := fun e => h e.symm
      simp [h, this]
theorem inL {x : Int} {xs : List Int} {S : Sto} : dIn (dI x) (dL (xs.map .int)) S = .ok (dB (decide (x ∈ xs))) S := by
  show inP false _ _ S = _
  unfold inP
  simp only [toPy]
  rw [if_pos ⟨sh_int x, sh_ints xs⟩, any_ints, Bool.false_bne]
theorem notInL {x : Int} {xs : List Int} {S : Sto} : dNotIn (dI x) (dL (xs.map .int)) S = .ok (dB (!decide (x ∈ xs))) S := by
  show inP true _ _ S = _
  unfold inP
  simp only [toPy]
  rw [if_pos ⟨sh_int x, sh_ints xs⟩, any_ints, Bool.true_bne]
theorem findI (x : Int) : ∀ xs : List Int, ((xs.map PyData.int).findIdx? fun z => PyData.eqv z (.int x)) = xs.findIdx? fun z => z == x
  | [] => rfl
  | y :: xs => by
    rw [List.map_cons, List.findIdx?_cons, List.findIdx?_cons, findI x xs]
    simp only [PyData.eqv]
    try rfl
theorem indexL {x : Int} {xs : List Int} {S : Sto} {j : Nat} (h : xs.findIdx? (fun z => z == x) = some j) : mIndex (dL (xs.map .int)) [dI x] S = .ok (dI (j : Nat)) S := by
  unfold mIndex
  simp only [toPy]
  rw [if_pos ⟨sh_ints xs, sh_int x⟩, findI, h]
/-- a while by a measure -/
theorem whileL_meas {ft : TX} {fb : SX} (I : Nat → Envr → Sto → Prop) (Q : Envr → Sto → Prop) (h : ∀ n env S, I n env S → (ft env S = .ok false S ∧ Q env S) ∨ (ft env S = .ok true S ∧ ∃ n' env2 S2, n' < n ∧ fb env S = .ok (.nx env2) S2 ∧ I n' env2 S2)) :
    ∀ (n N : Nat) (env : Envr) (S : Sto), n < N → I n env S → ∃ env' S', whileL ft fb N env S = .ok (.nx env') S' ∧ Q env' S'
  | n, 0, _, _, hn, _ => absurd hn (Nat.not_lt_zero _)
  | n, N + 1, env, S, hn, hi => by
    rcases h n env S hi with ⟨e1, q⟩ | ⟨e1, n', env2, S2, hlt, e2, hi2⟩
    · refine ⟨env, S, ?_, q⟩
      unfold whileL
      rw [e1]
      simp
    · obtain ⟨env3, S3, e3, q⟩ := whileL_meas I Q h n' N env2 S2 (by omega) hi2
      refine ⟨env3, S3, ?_, q⟩
      unfold whileL
      rw [e1]
      simp [e2, e3]
@[simp] theorem xWhile_e {N : Nat} {ft : TX} {fb : SX} {env : Envr} {S : Sto} : xWhile N ft fb env S = whileL ft fb N env S := rfl
end DL
namespace QQ
open PySem DL
/-- the target of a place -/
def tgt (t : List (Int × Int)) (p : Int) : Int := match (t.filter fun q => decide (q.1 ≤ p)).getLast? with
  | some q => q.2
  | none => (t.getLast?.getD (0, 0)).2
theorem last_max : ∀ {l : List (Int × Int)} {q : Int × Int}, l.Pairwise (fun a b => a.1 < b.1) → q ∈ l → (∀ z ∈ l, z.1 ≤ q.1) → l.getLast? = some q
  | [a], q, _, h, _ => by rw [List.mem_singleton.mp h]; rfl
  | a :: b :: r, q, hp, h, hm => by
    obtain ⟨h1, h2⟩ := List.pairwise_cons.mp hp
    have hb := h1 b List.mem_cons_self
    rw [List.getLast?_cons_cons]
    rcases List.mem_cons.mp h with e | h
    · have := hm b (List.mem_cons_of_mem _ List.mem_cons_self)
      rw [e] at this
      omega
    · exact last_max h2 h fun z hz => hm z (List.mem_cons_of_mem _ hz)
theorem tgt_at {t : List (Int × Int)} (h : t.Pairwise fun a b => a.1 < b.1) {q : Int × Int} {p : Int} (hq : q ∈ t) (h1 : q.1 ≤ p) (h2 : ∀ z ∈ t, z.1 ≤ p → z.1 ≤ q.1) : tgt t p = q.2 := by
  unfold tgt
  rw [last_max (h.sublist (List.filter_sublist)) (List.mem_filter.mpr ⟨hq, decide_eq_true h1⟩) fun z hz => by
    obtain ⟨a, b⟩ := List.mem_filter.mp hz
    exact h2 z a (of_decide_eq_true b)]
theorem tgt_none {t : List (Int × Int)} {p : Int} (h : ∀ z ∈ t, p < z.1) : tgt t p = (t.getLast?.getD (0, 0)).2 := by
  unfold tgt
  rw [List.filter_eq_nil_iff.mpr fun z hz => by have := h z hz; simp; omega]
  rfl
theorem tgt_back {t : List (Int × Int)} {p : Int} (h : ∀ z ∈ t, z.1 ≠ p) : tgt t p = tgt t (p - 1) := by
  unfold tgt
  have : (t.filter fun q => decide (q.1 ≤ p)) = t.filter fun q => decide (q.1 ≤ p - 1) := by
    refine List.filter_congr fun z hz => ?_
    have := h z hz
    rw [decide_eq_decide]
    omega
  rw [this]
theorem tgt_over {m : Int} {t : List (Int × Int)} (h : Tool m t) (h0 : ∀ z ∈ t, z.1 ≠ 0) : tgt t 0 = tgt t (m - 1) := by
  rw [tgt_none fun z hz => by have := h0 z hz; have := h.rg z hz; omega]
  unfold tgt
  rw [List.filter_eq_self.mpr fun z hz => by have := h.rg z hz; simp; omega]
  cases e : t.getLast? with
  | none => exact absurd (List.getLast?_eq_none_iff.mp e) h.ne
  | some q => rfl
theorem tgt_rg {m : Int} {t : List (Int × Int)} (h : Tool m t) (p : Int) : 0 ≤ tgt t p ∧ tgt t p < m := by
  unfold tgt
  split
  · rename_i q e
    have := List.mem_of_getLast? e
    exact (h.rg q (List.mem_filter.mp this).1).2.2
  · cases e : t.getLast? with
    | none => exact absurd (List.getLast?_eq_none_iff.mp e) h.ne
    | some q => exact (h.rg q (List.mem_of_getLast? e)).2.2
theorem pr_tup (p : Int × Int) : D.py (pr p) = dT [.int p.1, .int p.2] := rfl
/-- the program's target -/
theorem target_of_eq {m p : Int} {t : List (Int × Int)} {S : Sto} (ne : t ≠ []) (hl : t.length ≤ 1000) : f_target_of [dI m, dT (t.map pr), dI p] S = .ok (dI (tgt t p)) S := by
  refine trim_same ?_
  have hc : xComp (xIt (xV 1)) (.tp [.nm 4, .nm 5]) (xT (xBin dLe (xV 4) (xV 2))) (xV 5) [4, 5] [some (dI m), some (dT (t.map pr)), some (dI p), none, none, none] S = .ok (dL (((t.filter fun q => decide (q.1 ≤ p)).map Prod.snd).map .int)) S := by
    rw [xComp_map (fun q : Int × Int => D.py (pr q)) (fun q => decide (q.1 ≤ p)) (fun q => .int q.2) (ys := t) (by simp; try rfl) (by omega) fun q _ => ⟨_, bind2_e, by simp [wipeE], fun _ => by simp [wipeE]⟩]
    rw [List.map_map]; rfl
  unfold xBody m_target_of env0
  simp only [List.map_cons, List.map_nil, List.length_cons, List.length_nil, List.cons_append, List.nil_append, List.replicate]
  rw [xSeq_e]
  simp only [xSet_e, hc, bindX_ok, List.set_cons_succ, List.set_cons_zero, xRet_e, xIf_e, xT_e, xBin_e, xV_e, List.getElem?_cons_succ, List.getElem?_cons_zero, bind_ok, xLst_e, xNil_e, pys_nil, List.length_nil, Nat.zero_le, if_true, neNil, asB_e]
  obtain ⟨q0, hq0⟩ : ∃ q, t.getLast? = some q := by
    cases e : t.getLast? with
    | none => exact absurd (List.getLast?_eq_none_iff.mp e) ne
    | some q => exact ⟨q, rfl⟩
  cases hf : (t.filter fun q => decide (q.1 ≤ p)).getLast? with
  | none =>
    have hn := List.getLast?_eq_none_iff.mp hf
    rw [hn]
    have ht : tgt t p = q0.2 := by unfold tgt; rw [hf, hq0]; rfl
    have ix1 : dIxD (dT (t.map pr)) (dI (-1)) S = .ok (.py (pr q0)) S := ixT1 (by rw [List.getLast?_map, hq0]; rfl)
    have ix2 : dIxD (.py (pr q0)) (dI 1) S = .ok (dI q0.2) S := ixT01
    simp [ix1, ix2, ht]
  | some q =>
    have hne : (t.filter fun q => decide (q.1 ≤ p)) ≠ [] := fun e => by rw [e] at hf; cases hf
    have ht : tgt t p = q.2 := by unfold tgt; rw [hf]
    have ix1 : dIxD (dL (((t.filter fun q => decide (q.1 ≤ p)).map Prod.snd).map .int)) (dI (-1)) S = .ok (dI q.2) S := ixL1 (by rw [List.getLast?_map, List.getLast?_map, hf]; rfl)
    have he : ((t.filter fun q => decide (q.1 ≤ p)).map Prod.snd).isEmpty = false := by
      rw [List.isEmpty_eq_false_iff]
      intro e
      exact hne (List.map_eq_nil_iff.mp e)
    simp [-List.map_map, he, ix1, ht]
theorem table_of_eq {m : Int} {t : List (Int × Int)} {S : Sto} (ne : t ≠ []) (hl : t.length ≤ 1000) (m0 : 0 ≤ m) (m1 : m ≤ 1000) : f_table_of [dI m, dT (t.map pr)] S = .ok (dT (((rgI 0 m).map (tgt t)).map .int)) S := by
  refine trim_same ?_
  have hc : xComp (xRg1 (xCons (xV 0) xNil)) (.nm 2) xYes (xCall 3 f_target_of (xCons (xV 0) (xCons (xV 1) (xCons (xV 2) xNil)))) [2] [some (dI m), some (dT (t.map pr)), none] S = .ok (dL (((rgI 0 m).map (tgt t)).map .int)) S := by
    rw [xComp_all (fun i : Int => D.py (.int i)) (fun i => .int (tgt t i)) (ys := rgI 0 m) (by simp; omega) (by rw [rgI_length]; omega) fun i _ => ⟨_, bindN_e, by simp [wipeE, target_of_eq ne hl]⟩]
    rw [List.map_map]; rfl
  unfold xBody m_table_of env0
  simp [-List.map_map, hc]
/-- the law's target, by going back -/
theorem target2_eq {m p : Int} {t : List (Int × Int)} {S : Sto} (h : Tool m t) (p0 : 0 ≤ p) (p1 : p < m) (m1 : m ≤ 1000) : f_target_2 [dI m, dT (t.map pr), dI p] S = .ok (dI (tgt t p)) S := by
  refine trim_same ?_
  have hlen := h.len
  have hc : xComp (xIt (xV 1)) (.tp [.nm 4, .nm 5]) xYes (xV 4) [4, 5] [some (dI m), some (dT (t.map pr)), some (dI p), none, none, none] S = .ok (dL ((t.map Prod.fst).map .int)) S := by
    rw [xComp_all (fun q : Int × Int => D.py (pr q)) (fun q => .int q.1) (ys := t) (by simp; try rfl) (by omega) fun q _ => ⟨_, bind2_e, by simp [wipeE]⟩]
    rw [List.map_map]; rfl
  obtain ⟨q0, hq0⟩ := List.exists_mem_of_ne_nil _ h.ne
  have rq0 := h.rg q0 hq0
  let I : Nat → Envr → Sto → Prop := fun n env S' => S' = S ∧ ∃ p', env = [some (dI m), some (dT (t.map pr)), some (dI p'), some (dL ((t.map Prod.fst).map .int)), none, none] ∧ 0 ≤ p' ∧ p' < m ∧ tgt t p' = tgt t p ∧ n = ((p' - q0.1) % m).toNat
  have step : ∀ n env S', I n env S' → (xT (xBin dNotIn (xV 2) (xV 3)) env S' = .ok false S' ∧ (S' = S ∧ ∃ p', env = [some (dI m), some (dT (t.map pr)), some (dI p'), some (dL ((t.map Prod.fst).map .int)), none, none] ∧ p' ∈ t.map Prod.fst ∧ tgt t p' = tgt t p)) ∨ (xT (xBin dNotIn (xV 2) (xV 3)) env S' = .ok true S' ∧ ∃ n' env2 S2, n' < n ∧ m_target_2_l1 env S' = .ok (.nx env2) S2 ∧ I n' env2 S2) := by
    rintro n env S' ⟨rfl, p', rfl, a0, a1, at_, rfl⟩
    by_cases hin : p' ∈ t.map Prod.fst
    · refine .inl ⟨?_, rfl, p', rfl, hin, at_⟩
      simp [-List.map_map, notInL, -List.mem_map, hin]
    · have hno : ∀ z ∈ t, z.1 ≠ p' := fun z hz e => hin (List.mem_map.mpr ⟨z, hz, e⟩)
      have hq := hno q0 hq0
      refine .inr ⟨by simp [-List.map_map, notInL, -List.mem_map, hin], ?_⟩
      have hm : ((p' - 1) % m - q0.1) % m = (p' - q0.1) % m - 1 := by
        rw [sub_mod a0 a1 rq0.1 rq0.2.1]
        by_cases z : p' = 0
        · subst z
          have : ((0 : Int) - 1) % m = m - 1 := by
            rw [show (0 : Int) - 1 = -1 by omega, ← Int.add_emod_right, show -1 + m = m - 1 by omega]
            exact Int.emod_eq_of_lt (by omega) (by omega)
          rw [this, sub_mod (by omega) (by omega) rq0.1 rq0.2.1]
          split <;> split <;> omega
        · have : (p' - 1) % m = p' - 1 := Int.emod_eq_of_lt (by omega) (by omega)
          rw [this, sub_mod (by omega) (by omega) rq0.1 rq0.2.1]
          split <;> split <;> omega
      have hpos : 1 ≤ (p' - q0.1) % m := by
        rw [sub_mod a0 a1 rq0.1 rq0.2.1]
        split <;> omega
      refine ⟨((((p' - 1) % m) - q0.1) % m).toNat, [some (dI m), some (dT (t.map pr)), some (dI ((p' - 1) % m)), some (dL ((t.map Prod.fst).map .int)), none, none], S', by rw [hm]; omega, ?_, rfl, (p' - 1) % m, rfl, Int.emod_nonneg _ (by omega), Int.emod_lt_of_pos _ (by omega), ?_, rfl⟩
      · unfold m_target_2_l1
        simp [-List.map_map, show 0 < m by omega]
      · rw [← at_]
        by_cases z : p' = 0
        · subst z
          have : ((0 : Int) - 1) % m = m - 1 := by
            rw [show (0 : Int) - 1 = -1 by omega, ← Int.add_emod_right, show -1 + m = m - 1 by omega]
            exact Int.emod_eq_of_lt (by omega) (by omega)
          rw [this]
          exact (tgt_over h hno).symm
        · have : (p' - 1) % m = p' - 1 := Int.emod_eq_of_lt (by omega) (by omega)
          rw [this]
          exact (tgt_back hno).symm
  obtain ⟨env', S', e1, hS, p', rfl, hin, he⟩ := whileL_meas I _ step ((p - q0.1) % m).toNat 1000000 [some (dI m), some (dT (t.map pr)), some (dI p), some (dL ((t.map Prod.fst).map .int)), none, none] S (by
    have := Int.emod_lt_of_pos (p - q0.1) (show 0 < m by omega)
    omega) ⟨rfl, p, rfl, p0, p1, rfl, rfl⟩
  subst hS
  obtain ⟨j, hj⟩ : ∃ j, (t.map Prod.fst).findIdx? (fun z => z == p') = some j := by
    cases e : (t.map Prod.fst).findIdx? (fun z => z == p') with
    | some j => exact ⟨j, rfl⟩
    | none =>
      rw [List.findIdx?_eq_none_iff] at e
      have := e p' hin
      simp at this
  obtain ⟨hjl, hj1, _⟩ := List.findIdx?_eq_some_iff_getElem.mp hj
  rw [List.length_map] at hjl
  have hjp : (t[j]).1 = p' := by simpa using hj1
  have hres : tgt t p' = (t[j]).2 := tgt_at h.lt (List.getElem_mem hjl) (by omega) fun z _ hz => by omega
  have ix1 : dIxD (dT (t.map pr)) (dI (j : Nat)) S' = .ok (.py (pr t[j])) S' := ixT (by omega) (by rw [Int.toNat_natCast, List.getElem?_map, List.getElem?_eq_getElem hjl]; rfl)
  have ix2 : dIxD (.py (pr t[j])) (dI 1) S' = .ok (dI (t[j]).2) S' := ixT01
  unfold xBody m_target_2 env0
  simp only [List.map_cons, List.map_nil, List.length_cons, List.length_nil, List.cons_append, List.nil_append, List.replicate]
  rw [xSeq_e]
  simp only [xSet_e, hc, bindX_ok, List.set_cons_succ, List.set_cons_zero]
  rw [xSeq_e, xWhile_e, e1]
  simp only [xRet_e, xBin_e, xBM, xV_e, List.getElem?_cons_succ, List.getElem?_cons_zero, bind_ok, tyD, tyOf, if_true, xCons_e, xNil_e, indexL hj, ix1, xC_e, ix2, bindX_ok]
  rw [← he, hres]
theorem table_eq {m : Int} {t : List (Int × Int)} {S : Sto} (h : Tool m t) (m0 : 0 ≤ m) (m1 : m ≤ 1000) : f_table [dI m, dT (t.map pr)] S = .ok (dT (((rgI 0 m).map (tgt t)).map .int)) S := by
  refine trim_same ?_
  have hc : xComp (xRg1 (xCons (xV 0) xNil)) (.nm 2) xYes (xCall 3 f_target_2 (xCons (xV 0) (xCons (xV 1) (xCons (xV 2) xNil)))) [2] [some (dI m), some (dT (t.map pr)), none] S = .ok (dL (((rgI 0 m).map (tgt t)).map .int)) S := by
    rw [xComp_all (fun i : Int => D.py (.int i)) (fun i => .int (tgt t i)) (ys := rgI 0 m) (by simp; omega) (by rw [rgI_length]; omega) fun i hi => ⟨_, bindN_e, by
      have := rgI_mem.mp hi
      simp [wipeE, target2_eq h this.1 this.2 m1]⟩]
    rw [List.map_map]; rfl
  unfold xBody m_table env0
  simp [-List.map_map, hc]
end QQ
end
section
set_option maxRecDepth 100000
set_option maxHeartbeats 1000000
/-! DN4: another frame; what may be shown. -/
namespace QQ
open PySem DL
theorem frame2 {nN : Nat} {fd : FX} {b tl : SX} {c : Int} (h3 : 3 ≤ nN) (c0 : 0 ≤ c) (c1 : c ≤ 1000) (ns : List Int) (hdk : ∃ S, fd [.scr ns] [] = .ok (.loc 1) S ∧ Dk 1000000000000 [] S)
    (hb : ∀ (i : Int) (j : Nat) (rest : Envr) (S : Sto), 0 ≤ i → i < c → rest.length = nN - 3 → Dk (j + 1000000) [] S → Goes ns (nN - 3) j (b (some (.scr ns) :: some (.loc 1) :: some (dI i) :: rest) S))
    (ht : ∀ (x : Option D) (rest : Envr) (S : Sto), rest.length = nN - 3 → Dk 0 [] S → ∃ S', tl (some (.scr ns) :: some (.loc 1) :: x :: rest) S = .ok (.rt (dB true)) S') :
    ∃ S', shutF (xTrim (xBody nN (xSeq (xSet 1 (xCall 1 fd (xCons (xV 0) xNil))) (xSeq (xFor (xRg1 (xCons (xC (.int c)) xNil)) (.nm 2) b) tl)))) [.scr ns] [] = .ok (dB true) S' := by
  obtain ⟨S0, e0, d0⟩ := hdk
  let I : Nat → Envr → Sto → Prop := fun j env S => ∃ (x : Option D) (rest : Envr), env = some (.scr ns) :: some (.loc 1) :: x :: rest ∧ rest.length = nN - 3 ∧ Dk (j * 1000000) [] S
  obtain ⟨k, rfl⟩ : ∃ k, nN = k + 3 := ⟨nN - 3, by omega⟩
  have e1 : (env0 (k + 3) [.scr ns]).set 1 (some (.loc 1)) = some (.scr ns) :: some (.loc 1) :: none :: List.replicate k none := by
    unfold env0
    have : k + 3 - [D.scr ns].length = k + 1 + 1 := by simp
    rw [this, List.replicate_succ, List.replicate_succ]
    rfl
  have hd : Dk ((rgI 0 c).length * 1000000) [] S0 := d0.mono (by rw [rgI_length]; omega)
  obtain ⟨env', S1, e2, x, rest, rfl, hl, hd1⟩ := forL_inv (t := .nm 2) (fb := b) (fun i : Int => D.py (.int i)) I (rgI 0 c) (some (.scr ns) :: some (.loc 1) :: none :: List.replicate k none) S0 ⟨_, _, rfl, by simp, hd⟩ (by
    rintro i hi j env S ⟨x, rest, rfl, hl, hd⟩
    obtain ⟨i0, i1⟩ := rgI_mem.mp hi
    obtain ⟨x', rest', S', e, hl', hd'⟩ := hb i (j * 1000000) rest S i0 i1 hl (hd.mono (by omega))
    exact ⟨_, _, _, bindN_e, e, x', rest', rfl, hl', hd'⟩)
  obtain ⟨S', e4⟩ := ht x rest S1 hl (hd1.mono (by omega))
  refine xTrim_some (S' := S') ?_
  unfold xBody
  have e3 : xV 0 (env0 (k + 3) [.scr ns]) ([] : Sto) = .ok (.scr ns) [] := rfl
  rw [xSeq_e]
  simp only [xSet_e, xCall_e, xCons_e, e3, xNil_e, bind_ok, List.length_cons, List.length_nil, Nat.zero_add, if_true, e0, bindX_ok, e1]
  rw [xSeq_e]
  simp only [xFor_e, xRg1_e, xCons_e, xC_e, xNil_e, bind_ok, iR1_e]
  rw [if_pos (by omega)]
  simp only [bindX_ok, e2, e4]
/-- numbers up to a thousand -/
theorem sm_int {i : Int} (h0 : -1000 ≤ i) (h1 : i ≤ 1000) : Sm 0 10 (.int i) := Sm.int (k := 10) (by omega) (by decide)
theorem sm_ints {xs : List Int} (h : ∀ x ∈ xs, -1000 ≤ x ∧ x ≤ 1000) : ∀ d ∈ xs.map PyData.int, Sm 0 10 d := fun d hd => by
  obtain ⟨x, hx, rfl⟩ := List.mem_map.mp hd
  exact sm_int (h x hx).1 (h x hx).2
theorem sm_pr {p : Int × Int} (h : -1000 ≤ p.1 ∧ p.1 ≤ 1000 ∧ -1000 ≤ p.2 ∧ p.2 ≤ 1000) : Sm 1 23 (pr p) := by
  have := Sm.tuple (n := 0) (w := 10) (xs := [.int p.1, .int p.2]) fun d hd => by
    rcases List.mem_cons.mp hd with rfl | hd
    · exact sm_int h.1 h.2.1
    · rw [List.mem_singleton.mp hd]; exact sm_int h.2.2.1 h.2.2.2
  exact this.mono (by decide) (Nat.le_refl 23)
theorem sm_tool {m : Int} {t : List (Int × Int)} (h : Tool m t) (hm : m ≤ 1000) : Sm 2 289 (.tuple (t.map pr)) := by
  have hq : ∀ d ∈ t.map pr, Sm 1 23 d := fun d hd => by
    obtain ⟨p, hp, rfl⟩ := List.mem_map.mp hd
    have := h.rg p hp
    exact sm_pr (by omega)
  have := Sm.tuple hq
  have hl := h.len
  exact this.mono (by decide) (by rw [List.length_map]; omega)
theorem ok_tool {m : Int} {t : List (Int × Int)} (h : Tool m t) (hm : m ≤ 1000) : reprOk (.tuple (t.map pr)) := (sm_tool h hm).ok (by decide) (by decide)
/-- a table of at most a hundred numbers, as a tuple -/
theorem sm_tab {xs : List Int} (h : ∀ x ∈ xs, -1000 ≤ x ∧ x ≤ 1000) (hl : xs.length ≤ 100) : Sm 1 1101 (.tuple (xs.map .int)) ∧ Sm 1 1101 (.list (xs.map .int)) :=
  ⟨(Sm.tuple (sm_ints h)).mono (by decide) (by rw [List.length_map]; omega), (Sm.list (sm_ints h)).mono (by decide) (by rw [List.length_map]; omega)⟩
theorem tab_rg {m : Int} {t : List (Int × Int)} (h : Tool m t) (hm : m ≤ 1000) : ∀ x ∈ (rgI 0 m).map (tgt t), -1000 ≤ x ∧ x ≤ 1000 := fun x hx => by
  obtain ⟨i, _, rfl⟩ := List.mem_map.mp hx
  have := tgt_rg h i
  omega
theorem tab_len {m : Int} {t : List (Int × Int)} (hm : m ≤ 60) : ((rgI 0 m).map (tgt t)).length ≤ 100 := by rw [List.length_map, rgI_length]; omega
theorem law26_holds : ∀ ns : List Int, ns.length ≤ 63 → ∃ S', f_law26 [.scr ns] [] = .ok (dB true) S' := by
  intro ns hn
  refine frame2 (nN := 7) (by decide) (by decide) (by decide) ns (deck2_ok ns) ?_ ?_
  · intro i j rest S i0 i1 hl hd
    match rest, hl with
    | [x3, x4, x5, x6], _ =>
      obtain ⟨m, S1, e1, m0, m1, d1⟩ := circle_ok (n := j + 999998) hd
      obtain ⟨t, S2, e2, ht, d2⟩ := tool4_ok (n := j + 1000) m (d1.mono (by omega)) m0 m1
      have hrep := fRepr_e (S := S2) (ok_tool ht (by omega))
      have h1 := table_eq (S := S2) ht (by omega) (by omega)
      have h2 := table_of_eq (m := m) (S := S2) ht.ne (by have := ht.len; omega) (by omega) (by omega)
      have hok := (sm_tab (tab_rg ht (by omega)) (tab_len (t := t) m1)).1
      have hboth : reprOk (.list [.tuple (((rgI 0 m).map (tgt t)).map .int), .tuple (((rgI 0 m).map (tgt t)).map .int)]) := (Sm.list (n := 1) (w := 1101) fun d hd => by
        rcases List.mem_cons.mp hd with rfl | hd
        · exact hok
        · rw [List.mem_singleton.mp hd]; exact hok).ok (by decide) (by simp)
      have hr2 := fRepr_e (S := S2) hboth
      unfold m_law26_l1
      simp [-List.map_map, xPar, e1, e2, hrep, h1, h2, hr2, neS]
      exact ⟨_, _, _, rfl, rfl, d2.mono (by omega)⟩
  · intro x rest S hl hd
    match rest, hl with
    | [x3, x4, x5, x6], _ =>
      have h1 : f_table_of [dI 1, dT [.tuple [.int 0, .int 0]]] S = .ok (dT [.int 0]) S := by
        have := table_of_eq (m := 1) (t := [(0, 0)]) (S := S) (by simp) (by simp) (by decide) (by decide)
        rw [show ((rgI 0 1).map (tgt [(0, 0)])).map PyData.int = [.int 0] by rfl] at this
        exact this
      have h2 : f_table_of [dI 3, dT [.tuple [.int 1, .int 2], .tuple [.int 2, .int 0]]] S = .ok (dT [.int 0, .int 2, .int 0]) S := by
        have := table_of_eq (m := 3) (t := [(1, 2), (2, 0)]) (S := S) (by simp) (by simp) (by decide) (by decide)
        rw [show ((rgI 0 3).map (tgt [(1, 2), (2, 0)])).map PyData.int = [.int 0, .int 2, .int 0] by rfl] at this
        exact this
      have hok : reprOk (.list [.tuple [.int 0], .tuple [.int 0, .int 2, .int 0]]) := (Sm.list (n := 1) (w := 1101) fun d hd => by
        rcases List.mem_cons.mp hd with rfl | hd
        · exact (sm_tab (xs := [0]) (by simp) (by simp)).1
        · rw [List.mem_singleton.mp hd]; exact (sm_tab (xs := [0, 2, 0]) (by simp) (by simp)).1).ok (by decide) (by decide)
      refine ⟨S, ?_⟩
      simp [h1, h2, fRepr_e hok, eqS]
end QQ
end
section
set_option maxRecDepth 100000
set_option maxHeartbeats 1000000
/-! DN5: periods. -/
namespace DL
open PySem
@[simp] theorem xEnB_e {k : AX} {env : Envr} {S : Sto} : xEnB k env S = (k env S).bind iEnB := rfl
theorem fAll_e {bs : List Bool} {S : Sto} : fAll [dL (bs.map .bool)] S = .ok (dB (bs.all id)) S := by
  unfold fAll
  simp only [seqOf]
  rw [boolsD_map2]
theorem mapIdx_ints (f : Nat → PyData → PyData) (xs : List Int) : (xs.map PyData.int).mapIdx f = (xs.mapIdx fun i x => (i, x)).map fun q => f q.1 (.int q.2) := by
  refine List.ext_getElem? fun i => ?_
  rw [List.getElem?_mapIdx, List.getElem?_map, List.getElem?_map, List.getElem?_mapIdx]
  cases xs[i]? <;> rfl
theorem mem_idx {xs : List Int} {q : Nat × Int} (h : q ∈ xs.mapIdx fun i x => (i, x)) : xs[q.1]? = some q.2 := by
  obtain ⟨i, hi, e⟩ := List.mem_mapIdx.mp h
  rw [← e]
  exact List.getElem?_eq_getElem hi
theorem idx_mem {xs : List Int} {i : Nat} {x : Int} (h : xs[i]? = some x) : (i, x) ∈ xs.mapIdx fun i x => (i, x) := by
  obtain ⟨hi, e⟩ := List.getElem?_eq_some_iff.mp h
  exact List.mem_mapIdx.mpr ⟨i, hi, by rw [e]⟩
end DL
namespace QQ
open PySem DL
/-- the number at a place of a table -/
def nat_ (tab : List Int) (p : Int) : Int := tab.getD p.toNat 0
theorem nat_get {tab : List Int} {p : Int} (h0 : 0 ≤ p) (h1 : p < tab.length) : tab[p.toNat]? = some (nat_ tab p) := by
  have h : p.toNat < tab.length := by omega
  unfold nat_
  rw [List.getD_eq_getElem?_getD, List.getElem?_eq_getElem h]
  rfl
def rep (m : Int) (tab : List Int) (d : Int) : Bool := decide (∀ p ∈ rgI 0 m, nat_ tab ((p + d) % m) = (nat_ tab p + d) % m)
theorem ixTab {tab : List Int} {p m : Int} {S : Sto} (hl : (tab.length : Int) = m) (h0 : 0 ≤ p) (h1 : p < m) : dIxD (dT (tab.map .int)) (dI p) S = .ok (dI (nat_ tab p)) S := ixTi h0 (nat_get h0 (by omega))
/-- the program's -/
theorem repeats_after_eq {m d : Int} {tab : List Int} {S : Sto} (hl : (tab.length : Int) = m) (m0 : 1 ≤ m) (m1 : m ≤ 1000) : f_repeats_after [dT (tab.map .int), dI d] S = .ok (dB (rep m tab d)) S := by
  refine trim_same ?_
  let g : Nat × Int → Bool := fun q => nat_ tab (((q.1 : Int) + d) % m) == (q.2 + d) % m
  have hc : xComp (xEnB (xCons (xV 0) xNil)) (.tp [.nm 3, .nm 4]) xYes (xBin dEq (xBin dIxD (xV 0) (xBin dMod (xBin dAdd (xV 3) (xV 1)) (xV 2))) (xBin dMod (xBin dAdd (xV 4) (xV 1)) (xV 2))) [3, 4] [some (dT (tab.map .int)), some (dI d), some (dI m), none, none] S = .ok (dL (((tab.mapIdx fun i x => (i, x)).map g).map .bool)) S := by
    rw [xComp_all (fun q : Nat × Int => D.py (pairP (.int (q.1 : Int)) (.int q.2))) (fun q => .bool (g q)) (ys := tab.mapIdx fun i x => (i, x)) ?_ (by rw [List.length_mapIdx]; omega) fun q _ => ⟨_, bind2_e, ?_⟩]
    · rw [List.map_map]; rfl
    · simp only [xEnB_e, xCons_e, xV_e, xNil_e, List.getElem?_cons_succ, List.getElem?_cons_zero, bind_ok]
      show Res.ok (((tab.map PyData.int).mapIdx fun i x => pairP (.int (i : Nat)) x).map D.py, none) S = _
      rw [mapIdx_ints, List.map_map]; rfl
    · have ix := ixTab (S := S) hl (Int.emod_nonneg ((q.1 : Int) + d) (by omega)) (Int.emod_lt_of_pos ((q.1 : Int) + d) (by omega))
      simp [-List.map_map, wipeE, show 0 < m by omega, ix, eqI, g]
  have hall : ((tab.mapIdx fun i x => (i, x)).map g).all id = rep m tab d := by
    unfold rep
    rw [Bool.eq_iff_iff, List.all_map, List.all_eq_true, decide_eq_true_eq]
    constructor
    · intro h p hp
      have hp := rgI_mem.mp hp
      have := h (p.toNat, nat_ tab p) (idx_mem (nat_get hp.1 (by omega)))
      simp only [Function.comp, id, g, beq_iff_eq] at this
      rw [show ((p.toNat : Nat) : Int) = p by omega] at this
      exact this
    · intro h q hq
      have hq2 := mem_idx hq
      have hlt := (List.getElem?_eq_some_iff.mp hq2).1
      have := h (q.1 : Int) (rgI_mem.mpr ⟨by omega, by omega⟩)
      have e : nat_ tab (q.1 : Int) = q.2 := by
        have := nat_get (tab := tab) (p := (q.1 : Int)) (by omega) (by omega)
        rw [Int.toNat_natCast, hq2] at this
        exact (Option.some.inj this).symm
      simp only [Function.comp, id, g, beq_iff_eq]
      rw [this, e]
  have hlen : fLen [dT (tab.map .int)] S = .ok (dI m) S := by rw [fLenT_e, List.length_map, hl]
  unfold xBody m_repeats_after env0
  simp [-List.map_map, -fLenT_e, hlen, hc, fAll_e, hall]
/-- the law's -/
theorem repeats2_eq {m d : Int} {tab : List Int} {S : Sto} (hl : (tab.length : Int) = m) (m0 : 1 ≤ m) (m1 : m ≤ 1000) : f_repeats_2 [dT (tab.map .int), dI d] S = .ok (dB (rep m tab d)) S := by
  refine trim_same ?_
  let g : Int → Bool := fun p => !(nat_ tab ((p + d) % m) == (nat_ tab p + d) % m)
  have hc : xComp (xRg1 (xCons (xV 2) xNil)) (.nm 3) (xT (xBin dNe (xBin dIxD (xV 0) (xBin dMod (xBin dAdd (xV 3) (xV 1)) (xV 2))) (xBin dMod (xBin dAdd (xBin dIxD (xV 0) (xV 3)) (xV 1)) (xV 2)))) (xV 3) [3] [some (dT (tab.map .int)), some (dI d), some (dI m), none] S = .ok (dL (((rgI 0 m).filter g).map .int)) S := by
    refine xComp_map (fun p : Int => D.py (.int p)) g (fun p => .int p) (ys := rgI 0 m) (by simp; omega) (by rw [rgI_length]; omega) fun p hp => ⟨_, bindN_e, ?_, fun _ => by simp [wipeE]⟩
    have hp := rgI_mem.mp hp
    have ix := ixTab (S := S) hl (Int.emod_nonneg (p + d) (by omega)) (Int.emod_lt_of_pos (p + d) (by omega))
    have ix2 := ixTab (S := S) hl hp.1 hp.2
    simp [-List.map_map, wipeE, show 0 < m by omega, ix, ix2, neI, g]
  have hall : ((rgI 0 m).filter g).isEmpty = rep m tab d := by
    unfold rep
    rw [Bool.eq_iff_iff, decide_eq_true_eq, List.isEmpty_iff, List.filter_eq_nil_iff]
    constructor
    · intro h p hp
      simpa [g] using h p hp
    · intro h p hp
      simpa [g] using h p hp
  have hlen : fLen [dT (tab.map .int)] S = .ok (dI m) S := by rw [fLenT_e, List.length_map, hl]
  unfold xBody m_repeats_2 env0
  simp [-List.map_map, -fLenT_e, hlen, hc, eqNil, hall]
def perl (m : Int) (tab : List Int) : List Int := (rgI 1 (m + 1)).filter fun d => (m % d == 0) && rep m tab d
def perd (m : Int) (tab : List Int) : Int := (perl m tab).headD 0
theorem rep_self {m : Int} {tab : List Int} (hl : (tab.length : Int) = m) (m0 : 1 ≤ m) (hr : ∀ x ∈ tab, 0 ≤ x ∧ x < m) : rep m tab m = true := by
  unfold rep
  rw [decide_eq_true_eq]
  intro p hp
  have hp := rgI_mem.mp hp
  have := hr _ (List.mem_of_getElem? (nat_get hp.1 (by omega)))
  rw [Int.add_emod_right, Int.add_emod_right, Int.emod_eq_of_lt hp.1 hp.2, Int.emod_eq_of_lt this.1 this.2]
theorem perl_self {m : Int} {tab : List Int} (hl : (tab.length : Int) = m) (m0 : 1 ≤ m) (hr : ∀ x ∈ tab, 0 ≤ x ∧ x < m) : m ∈ perl m tab := by
  refine List.mem_filter.mpr ⟨rgI_mem.mpr ⟨m0, by omega⟩, ?_⟩
  rw [Int.emod_self, rep_self hl m0 hr]
  rfl
theorem perl_head {m : Int} {tab : List Int} {S : Sto} (h : m ∈ perl m tab) : dIxD (dL ((perl m tab).map .int)) (dI 0) S = .ok (dI (perd m tab)) S := by
  unfold perd
  cases e : perl m tab with
  | nil => rw [e] at h; cases h
  | cons x r => exact ixL0
theorem perd_mem {m : Int} {tab : List Int} (h : m ∈ perl m tab) : perd m tab ∈ perl m tab := by
  unfold perd
  cases e : perl m tab with
  | nil => rw [e] at h; cases h
  | cons x r => exact List.mem_cons_self
theorem perd_rg {m : Int} {tab : List Int} (h : m ∈ perl m tab) : 1 ≤ perd m tab ∧ perd m tab ≤ m := by
  have := rgI_mem.mp (List.mem_filter.mp (perd_mem h)).1
  omega
/-- the table of a tool -/
def tabl (m : Int) (t : List (Int × Int)) : List Int := (rgI 0 m).map (tgt t)
theorem tabl_len {m : Int} {t : List (Int × Int)} (m0 : 0 ≤ m) : ((tabl m t).length : Int) = m := by unfold tabl; rw [List.length_map, rgI_length]; omega
theorem tabl_rg {m : Int} {t : List (Int × Int)} (h : ∀ p, 0 ≤ tgt t p ∧ tgt t p < m) : ∀ x ∈ tabl m t, 0 ≤ x ∧ x < m := fun x hx => by
  obtain ⟨i, _, rfl⟩ := List.mem_map.mp hx
  exact h i
theorem nat_tabl {m p : Int} {t : List (Int × Int)} (h0 : 0 ≤ p) (h1 : p < m) : nat_ (tabl m t) p = tgt t p := by
  unfold nat_ tabl
  rw [List.getD_eq_getElem?_getD, List.getElem?_map, rgI_get (by omega)]
  show tgt t (0 + (p.toNat : Nat)) = _
  rw [show (0 : Int) + (p.toNat : Nat) = p by omega]
theorem period_of_eq {m : Int} {t : List (Int × Int)} {S : Sto} (ne : t ≠ []) (hl : t.length ≤ 1000) (m0 : 1 ≤ m) (m1 : m ≤ 1000) (hr : ∀ p, 0 ≤ tgt t p ∧ tgt t p < m) : f_period_of [dI m, dT (t.map pr)] S = .ok (dI (perd m (tabl m t))) S := by
  refine trim_same ?_
  have htab := table_of_eq (m := m) (S := S) ne hl (by omega) m1
  have hself := perl_self (tabl_len (t := t) (by omega)) m0 (tabl_rg hr)
  have hc : xComp (xRg2 (xCons (xC (.int 1)) (xCons (xBin dAdd (xV 0) (xC (.int 1))) xNil))) (.nm 3) (xAndT (xT (xBin dEq (xBin dMod (xV 0) (xV 3)) (xC (.int 0)))) (xTr (xCall 2 f_repeats_after (xCons (xV 2) (xCons (xV 3) xNil))))) (xV 3) [3] [some (dI m), some (dT (t.map pr)), some (dT ((tabl m t).map .int)), none] S = .ok (dL ((perl m (tabl m t)).map .int)) S := by
    refine xComp_map (fun p : Int => D.py (.int p)) _ (fun p => .int p) (ys := rgI 1 (m + 1)) (by simp; omega) (by rw [rgI_length]; omega) fun d hd => ⟨_, bindN_e, ?_, fun _ => by simp [wipeE]⟩
    have hd := rgI_mem.mp hd
    have hrep := repeats_after_eq (d := d) (S := S) (tabl_len (t := t) (by omega)) m0 m1
    simp [-List.map_map, wipeE, show 0 < d by omega, eqI, hrep]
    by_cases z : m % d = 0 <;> simp [z]
  have hix := perl_head (S := S) hself
  unfold xBody m_period_of env0
  have htab' : f_table_of [dI m, dT (t.map pr)] S = .ok (dT ((tabl m t).map .int)) S := htab
  simp [-List.map_map, htab', hc, hix]
theorem xBody_rt {nN : Nat} {mm : SX} {ds : List D} {S S' : Sto} {d : D} (h : mm (env0 nN ds) S = .ok (.rt d) S') : xBody nN mm ds S = .ok d S' := by
  unfold xBody
  rw [h]
theorem period_eq {m : Int} {tab : List Int} {S : Sto} (hl : (tab.length : Int) = m) (m0 : 1 ≤ m) (m1 : m ≤ 1000) (hr : ∀ x ∈ tab, 0 ≤ x ∧ x < m) : f_period [dT (tab.map .int)] S = .ok (dI (perd m tab)) S := by
  refine trim_same ?_
  have hself := perl_self hl m0 hr
  have hlen : fLen [dT (tab.map .int)] S = .ok (dI m) S := by rw [fLenT_e, List.length_map, hl]
  have hc : xComp (xRg2 (xCons (xC (.int 1)) (xCons (xBin dAdd (xCB fLen (xCons (xV 0) xNil)) (xC (.int 1))) xNil))) (.nm 1) (xAndT (xT (xBin dEq (xBin dMod (xCB fLen (xCons (xV 0) xNil)) (xV 1)) (xC (.int 0)))) (xTr (xCall 2 f_repeats_2 (xCons (xV 0) (xCons (xV 1) xNil))))) (xV 1) [1] [some (dT (tab.map .int)), none] S = .ok (dL ((perl m tab).map .int)) S := by
    refine xComp_map (fun p : Int => D.py (.int p)) _ (fun p => .int p) (ys := rgI 1 (m + 1)) (by simp [-fLenT_e, hlen]; omega) (by rw [rgI_length]; omega) fun d hd => ⟨_, bindN_e, ?_, fun _ => by simp [wipeE]⟩
    have hd := rgI_mem.mp hd
    have hrep := repeats2_eq (d := d) (S := S) hl m0 m1
    simp [-List.map_map, -fLenT_e, hlen, wipeE, show 0 < d by omega, eqI, hrep]
    by_cases z : m % d = 0 <;> simp [z]
  have hix := perl_head (S := S) hself
  refine xBody_rt ?_
  show m_period [some (dT (tab.map PyData.int)), none] S = _
  unfold m_period
  rw [xRet_e, xBin_e, hc]
  simp only [bind_ok, xC_e, hix, bindX_ok]
theorem round_tool : Tool 12 ((rgI 0 12).map fun i => (i, (i + 5) % 12)) := by
  refine ⟨?_, ?_, by decide, by decide, 5, rgI 0 12, ?_, rgI_lt 0 12, fun w hw => rgI_mem.mp hw⟩
  · rw [List.pairwise_map]
    exact (rgI_lt 0 12).imp fun h => h
  · intro p hp
    obtain ⟨i, hi, rfl⟩ := List.mem_map.mp hp
    have := rgI_mem.mp hi
    simp only
    omega
  · rw [List.map_map]
    refine List.map_congr_left fun i _ => ?_
    show (i + 5) % 12 = (5 + i) % 12
    rw [Int.add_comm]
theorem law22_holds : ∀ ns : List Int, ns.length ≤ 63 → ∃ S', f_law22 [.scr ns] [] = .ok (dB true) S' := by
  intro ns hn
  refine frame2 (nN := 8) (by decide) (by decide) (by decide) ns (deck2_ok ns) ?_ ?_
  · intro i j rest S i0 i1 hl hd
    match rest, hl with
    | [x3, x4, x5, x6, x7], _ =>
      obtain ⟨m, S1, e1, m0, m1, d1⟩ := circle_ok (n := j + 999998) hd
      obtain ⟨t, S2, e2, ht, d2⟩ := tool4_ok (n := j + 1000) m (d1.mono (by omega)) m0 m1
      have h1 : f_table [dI m, dT (t.map pr)] S2 = .ok (dT ((tabl m t).map .int)) S2 := table_eq ht (by omega) (by omega)
      have h2 := period_of_eq (m := m) (S := S2) ht.ne (by have := ht.len; omega) m0 (by omega) (tgt_rg ht)
      have h3 := period_eq (S := S2) (tabl_len (t := t) (by omega)) m0 (by omega) (tabl_rg (tgt_rg ht))
      have hp := perd_rg (perl_self (tabl_len (t := t) (by omega)) m0 (tabl_rg (tgt_rg ht)))
      have hok : reprOk (.list [.int (perd m (tabl m t)), .int (perd m (tabl m t))]) := (sm_tab (xs := [perd m (tabl m t), perd m (tabl m t)]) (fun x hx => by simp at hx; omega) (by simp)).2.ok (by decide) (by decide)
      have hr2 := fRepr_e (S := S2) hok
      unfold m_law22_l1
      simp [-List.map_map, e1, e2, h1, h2, h3, hr2, neS]
      exact ⟨_, _, _, rfl, rfl, d2.mono (by omega)⟩
  · intro x rest S hl hd
    match rest, hl with
    | [x3, x4, x5, x6, x7], _ =>
      have q1 : f_period_of [dI 12, dT ((rgI 0 12).map fun i => pr (i, (i + 5) % 12))] S = .ok (dI 1) S := by
        have := period_of_eq (m := 12) (t := (rgI 0 12).map fun i => (i, (i + 5) % 12)) (S := S) (by decide) (by decide) (by decide) (by decide) (tgt_rg round_tool)
        rw [show perd 12 (tabl 12 ((rgI 0 12).map fun i => (i, (i + 5) % 12))) = 1 by decide +kernel, List.map_map] at this
        exact this
      have q2 : f_period_of [dI 60, dT [.tuple [.int 0, .int 7]]] S = .ok (dI 60) S := by
        have := period_of_eq (m := 60) (t := [(0, 7)]) (S := S) (by decide) (by decide) (by decide) (by decide) (tgt_rg (one_tool (by decide) (by decide)))
        rw [show perd 60 (tabl 60 [(0, 7)]) = 60 by decide +kernel] at this
        exact this
      have q3 : f_period_of [dI 1, dT [.tuple [.int 0, .int 0]]] S = .ok (dI 1) S := by
        have := period_of_eq (m := 1) (t := [(0, 0)]) (S := S) (by decide) (by decide) (by decide) (by decide) (tgt_rg (one_tool (by decide) (by decide)))
        rw [show perd 1 (tabl 1 [(0, 0)]) = 1 by decide +kernel] at this
        exact this
      have hc : xComp (xRg1 (xCons (xC (.int 12)) xNil)) (.nm 7) xYes (xTup (xCons (xV 7) (xCons (xBin dMod (xBin dAdd (xV 7) (xC (.int 5))) (xC (.int 12))) xNil))) [7] [some (.scr ns), some (.loc 1), x, x3, x4, x5, x6, x7] S = .ok (dL ((rgI 0 12).map fun i => pr (i, (i + 5) % 12))) S := by
        refine xComp_all (fun p : Int => D.py (.int p)) (fun i => pr (i, (i + 5) % 12)) (ys := rgI 0 12) (by simp) (by rw [rgI_length]; decide) fun p hp => ⟨_, bindN_e, ?_⟩
        simp [wipeE, pr, pairP]
      have hok : reprOk (.list [.int 1, .int 60, .int 1]) := (sm_tab (xs := [1, 60, 1]) (fun x hx => by simp at hx; omega) (by simp)).2.ok (by decide) (by decide)
      refine ⟨S, ?_⟩
      simp [-List.map_map, hc, q1, q2, q3, fRepr_e hok, eqS]
end QQ
end
section
set_option maxRecDepth 100000
set_option maxHeartbeats 1000000
/-! DN6: maps of the circle that rise: lifts. -/
namespace QQ
open PySem DL
structure Lift (m : Int) (F : Int → Int) : Prop where
  mono : ∀ x y, x ≤ y → F x ≤ F y
  per : ∀ x, F (x + m) = F x + m
section
variable {m : Int} {F G : Int → Int}
theorem Lift.pern (h : Lift m F) (x : Int) : ∀ k : Nat, F (x + k * m) = F x + k * m
  | 0 => by simp
  | k + 1 => by
    have ih := h.pern x k
    have e : x + ((k + 1 : Nat) : Int) * m = (x + k * m) + m := by
      rw [Int.natCast_add, Int.add_mul]; omega
    rw [e, h.per, ih, Int.natCast_add, Int.add_mul]
    omega
theorem Lift.perk (h : Lift m F) (x k : Int) : F (x + k * m) = F x + k * m := by
  by_cases hk : 0 ≤ k
  · obtain ⟨n, rfl⟩ : ∃ n : Nat, k = n := ⟨k.toNat, by omega⟩
    exact h.pern x n
  · obtain ⟨n, rfl⟩ : ∃ n : Nat, k = -(n : Int) := ⟨(-k).toNat, by omega⟩
    have := h.pern (x + -(n : Int) * m) n
    have e : x + -(n : Int) * m + (n : Int) * m = x := by rw [Int.neg_mul]; omega
    rw [e] at this
    rw [this, Int.neg_mul]
    omega
theorem Lift.modk (h : Lift m F) (x : Int) : F (x % m) % m = F x % m := by
  have e : x = x % m + x / m * m := by
    have := Int.emod_add_mul_ediv x m
    rw [Int.mul_comm] at this; omega
  have := h.perk (x % m) (x / m)
  rw [← e] at this
  rw [this, Int.add_mul_emod_self_right]
theorem Lift.turn (h : Lift m F) (k : Int) : Lift m fun x => F (x + k) - k :=
  ⟨fun x y l => by have := h.mono (x + k) (y + k) (by omega); omega, fun x => by
    have := h.per (x + k)
    rw [show x + m + k = x + k + m by omega]
    omega⟩
theorem Lift.mirror (h : Lift m F) : Lift m fun x => -F (-x) :=
  ⟨fun x y l => by have := h.mono (-y) (-x) (by omega); omega, fun x => by
    have := h.per (-(x + m))
    rw [show -(x + m) + m = -x by omega] at this
    omega⟩
theorem Lift.comp (h : Lift m F) (g : Lift m G) : Lift m fun x => G (F x) :=
  ⟨fun x y l => g.mono _ _ (h.mono _ _ l), fun x => by rw [h.per, g.per]⟩
theorem Lift.add (h : Lift m F) (k : Int) : Lift m fun x => F x + k :=
  ⟨fun x y l => by have := h.mono x y l; omega, fun x => by rw [h.per]; omega⟩
theorem Lift.gap (h : Lift m F) (m0 : 1 ≤ m) (x : Int) : F (x - 1) ≤ F x ∧ F x ≤ F (x - 1) + m := by
  have h1 := h.mono (x - 1) x (by omega)
  have h2 := h.mono x (x - 1 + m) (by omega)
  rw [h.per] at h2
  exact ⟨h1, h2⟩
end
/-! ### the lift of a tool -/
/-- begins and rising targets -/
structure Rise (m : Int) (u : List (Int × Int)) : Prop where
  lt : u.Pairwise fun p q => p.1 < q.1 ∧ p.2 < q.2
  rg : ∀ p ∈ u, 0 ≤ p.1 ∧ p.1 < m ∧ 0 ≤ p.2 ∧ p.2 < m
  ne : u ≠ []
def lastW (u : List (Int × Int)) : Int := (u.getLast?.getD (0, 0)).2
def baseW (m : Int) (u : List (Int × Int)) (p : Int) : Int := match (u.filter fun q => decide (q.1 ≤ p)).getLast? with
  | some q => q.2
  | none => lastW u - m
theorem last_top : ∀ {u : List (Int × Int)} {q : Int × Int}, u.Pairwise (fun a b => a.1 < b.1 ∧ a.2 < b.2) → u.getLast? = some q → ∀ p ∈ u, p.1 ≤ q.1 ∧ p.2 ≤ q.2
  | [a], q, _, e, p, hp => by
    have e : a = q := Option.some.inj e
    rw [List.mem_singleton.mp hp, e]
    exact ⟨Int.le_refl _, Int.le_refl _⟩
  | a :: b :: r, q, h, e, p, hp => by
    obtain ⟨g1, g2⟩ := List.pairwise_cons.mp h
    rw [List.getLast?_cons_cons] at e
    have ih := last_top g2 e
    rcases List.mem_cons.mp hp with rfl | hp
    · have a1 := g1 b List.mem_cons_self
      have a2 := ih b List.mem_cons_self
      omega
    · exact ih p hp
theorem Rise.top {m : Int} {u : List (Int × Int)} (h : Rise m u) : (∃ q ∈ u, q.2 = lastW u) ∧ ∀ p ∈ u, p.2 ≤ lastW u := by
  unfold lastW
  cases e : u.getLast? with
  | none => exact absurd (List.getLast?_eq_none_iff.mp e) h.ne
  | some q => exact ⟨⟨q, List.mem_of_getLast? e, rfl⟩, fun p hp => (last_top h.lt e p hp).2⟩
theorem baseW_rg {m : Int} {u : List (Int × Int)} (h : Rise m u) (p : Int) : lastW u - m ≤ baseW m u p ∧ baseW m u p ≤ lastW u := by
  obtain ⟨⟨q0, hq0, e0⟩, top⟩ := h.top
  have r0 := h.rg q0 hq0
  unfold baseW
  split
  · rename_i q e
    have hq := (List.mem_filter.mp (List.mem_of_getLast? e)).1
    have := top q hq
    have := h.rg q hq
    omega
  · omega
theorem baseW_mono {m : Int} {u : List (Int × Int)} (h : Rise m u) {p p' : Int} (l : p ≤ p') : baseW m u p ≤ baseW m u p' := by
  cases e : (u.filter fun q => decide (q.1 ≤ p)).getLast? with
  | none =>
    have : baseW m u p = lastW u - m := by unfold baseW; rw [e]
    rw [this]
    exact (baseW_rg h p').1
  | some q =>
    have hb : baseW m u p = q.2 := by unfold baseW; rw [e]
    obtain ⟨hq, hqp⟩ := List.mem_filter.mp (List.mem_of_getLast? e)
    have hqp := of_decide_eq_true hqp
    have hq' : q ∈ u.filter fun q => decide (q.1 ≤ p') := List.mem_filter.mpr ⟨hq, decide_eq_true (by omega)⟩
    cases e' : (u.filter fun q => decide (q.1 ≤ p')).getLast? with
    | none =>
      rw [List.getLast?_eq_none_iff.mp e'] at hq'
      cases hq'
    | some q' =>
      have hb' : baseW m u p' = q'.2 := by unfold baseW; rw [e']
      rw [hb, hb']
      exact (last_top (h.lt.sublist List.filter_sublist) e' q hq').2
def liftW (m z : Int) (u : List (Int × Int)) (x : Int) : Int := x / m * m + z + baseW m u (x % m)
theorem lift_rise {m z : Int} {u : List (Int × Int)} (h : Rise m u) (m0 : 1 ≤ m) : Lift m (liftW m z u) := by
  refine ⟨fun x y l => ?_, fun x => ?_⟩
  · have hd := Int.ediv_le_ediv (show 0 < m by omega) l
    unfold liftW
    by_cases e : x / m = y / m
    · have ex := Int.emod_add_mul_ediv x m
      have ey := Int.emod_add_mul_ediv y m
      rw [e] at ex
      have := baseW_mono h (p := x % m) (p' := y % m) (by omega)
      rw [e]
      omega
    · have : (x / m + 1) * m ≤ y / m * m := Int.mul_le_mul_of_nonneg_right (by omega) (by omega)
      rw [Int.add_mul, Int.one_mul] at this
      have a := (baseW_rg h (x % m)).2
      have b := (baseW_rg h (y % m)).1
      omega
  · unfold liftW
    rw [Int.add_emod_right, Int.add_ediv_of_dvd_right (Int.dvd_refl m), Int.ediv_self (by omega), Int.add_mul]
    omega
/-- a tool by its rising targets -/
theorem tool_rise {m : Int} {t : List (Int × Int)} (h : Tool m t) : ∃ (z : Int) (u : List (Int × Int)), Rise m u ∧ t = u.map fun q => (q.1, (z + q.2) % m) := by
  obtain ⟨z, ws, e, pw, rw_⟩ := h.cyc
  have hl : ws.length = t.length := by
    have := congrArg List.length e
    simpa using this.symm
  refine ⟨z, (t.map Prod.fst).zip ws, ⟨?_, ?_, ?_⟩, ?_⟩
  · have pf : (t.map Prod.fst).Pairwise (· < ·) := by rw [List.pairwise_map]; exact h.lt
    rw [List.pairwise_iff_getElem] at pf pw ⊢
    intro i j hi hj hij
    simp only [List.length_zip] at hi hj
    simp only [List.getElem_zip]
    exact ⟨pf i j (by omega) (by omega) hij, pw i j (by omega) (by omega) hij⟩
  · intro p hp
    have hp := List.of_mem_zip (show (p.1, p.2) ∈ _ from hp)
    obtain ⟨q, hq, e1⟩ := List.mem_map.mp hp.1
    have a := h.rg q hq
    have b := rw_ p.2 hp.2
    omega
  · intro z
    have := congrArg List.length z
    rw [List.length_zip, List.length_map, hl] at this
    simp at this
    exact h.ne this
  · refine List.ext_getElem (by simp [hl]) fun i hi hj => ?_
    have hw : i < ws.length := by omega
    have := congrArg (·[i]?) e
    simp only [List.getElem?_map, List.getElem?_eq_getElem hi, List.getElem?_eq_getElem hw, Option.map_some] at this
    simp only [List.getElem_map, List.getElem_zip]
    rw [← Option.some.inj this]
theorem tgt_lift {m z : Int} {u : List (Int × Int)} (h : Rise m u) (m0 : 1 ≤ m) (x : Int) : liftW m z u x % m = tgt (u.map fun q => (q.1, (z + q.2) % m)) (x % m) := by
  have hf : ((u.map fun q => (q.1, (z + q.2) % m)).filter fun q => decide (q.1 ≤ x % m)) = (u.filter fun q => decide (q.1 ≤ x % m)).map fun q => (q.1, (z + q.2) % m) := by
    rw [List.filter_map]; rfl
  have hm : ∀ y : Int, (x / m * m + z + y) % m = (z + y) % m := fun y => by
    rw [Int.add_assoc, Int.add_comm, Int.add_mul_emod_self_right]
  unfold liftW baseW tgt
  rw [hf, List.getLast?_map, List.getLast?_map]
  cases (u.filter fun q => decide (q.1 ≤ x % m)).getLast? with
  | some q => exact hm q.2
  | none =>
    show (x / m * m + z + (lastW u - m)) % m = _
    unfold lastW
    cases e : u.getLast? with
    | none => exact absurd (List.getLast?_eq_none_iff.mp e) h.ne
    | some q =>
      show (x / m * m + z + (q.2 - m)) % m = (z + q.2) % m
      rw [hm, ← Int.add_sub_assoc, Int.sub_emod_right]
/-- every tool has a lift -/
theorem tool_lift {m : Int} {t : List (Int × Int)} (h : Tool m t) (m0 : 1 ≤ m) : ∃ F : Int → Int, Lift m F ∧ ∀ x, F x % m = tgt t (x % m) := by
  obtain ⟨z, u, hu, e⟩ := tool_rise h
  exact ⟨liftW m z u, lift_rise hu m0, fun x => by rw [tgt_lift hu m0 x, e]⟩
end QQ
end
section
set_option maxRecDepth 100000
set_option maxHeartbeats 1000000
/-! DN7: the tool of a table. -/
namespace QQ
open PySem DL
/-- where the table changes -/
def chgs (m : Int) (f : Int → Int) : List Int := (rgI 0 m).filter fun p => !(f p == f ((p - 1) % m))
def norm (m : Int) (f : Int → Int) : List (Int × Int) := (if (chgs m f).isEmpty then [0] else chgs m f).map fun p => (p, f p)
theorem nat_map {m p : Int} {f : Int → Int} (h0 : 0 ≤ p) (h1 : p < m) : nat_ ((rgI 0 m).map f) p = f p := by
  unfold nat_
  rw [List.getD_eq_getElem?_getD, List.getElem?_map, rgI_get (by omega)]
  show f (0 + (p.toNat : Nat)) = _
  rw [show (0 : Int) + (p.toNat : Nat) = p by omega]
theorem map_len {m : Int} {f : Int → Int} (m0 : 0 ≤ m) : (((rgI 0 m).map f).length : Int) = m := by rw [List.length_map, rgI_length]; omega
theorem ixMap {m p : Int} {f : Int → Int} {S : Sto} (m0 : 1 ≤ m) (h0 : 0 ≤ p) (h1 : p < m) : dIxD (dL (((rgI 0 m).map f).map .int)) (dI p) S = .ok (dI (f p)) S := by
  have := ixLi (S := S) (xs := (rgI 0 m).map f) (v := nat_ ((rgI 0 m).map f) p) h0 (nat_get h0 (by rw [map_len (by omega)]; exact h1))
  rw [nat_map h0 h1] at this
  exact this
theorem ixMapB {m p : Int} {f : Int → Int} {S : Sto} (m0 : 1 ≤ m) (h0 : 0 ≤ p) (h1 : p < m) : dIxD (dL (((rgI 0 m).map f).map .int)) (dI (p - 1)) S = .ok (dI (f ((p - 1) % m))) S := by
  by_cases z : p = 0
  · subst z
    have e : ((0 : Int) - 1) % m = m - 1 := by
      rw [show (0 : Int) - 1 = -1 by omega, ← Int.add_emod_right, show -1 + m = m - 1 by omega]
      exact Int.emod_eq_of_lt (by omega) (by omega)
    rw [e, show (0 : Int) - 1 = -1 by omega]
    refine ixL1 ?_
    rw [List.getLast?_map, List.getLast?_eq_getElem?, List.length_map, rgI_length, List.getElem?_map]
    have : (m - 0).toNat - 1 = (m - 1).toNat := by omega
    rw [this, rgI_get (by omega)]
    show some (PyData.int (f (0 + ((m - 1).toNat : Nat)))) = _
    rw [show (0 : Int) + ((m - 1).toNat : Nat) = m - 1 by omega]
  · have e : (p - 1) % m = p - 1 := Int.emod_eq_of_lt (by omega) (by omega)
    rw [e]
    exact ixMap m0 (by omega) (by omega)
theorem chgs_mem {m : Int} {f : Int → Int} {p : Int} (h : p ∈ chgs m f) : 0 ≤ p ∧ p < m ∧ f p ≠ f ((p - 1) % m) := by
  obtain ⟨a, b⟩ := List.mem_filter.mp h
  have a := rgI_mem.mp a
  refine ⟨a.1, a.2, ?_⟩
  simpa using b
theorem pairs_of_eq {m : Int} {f : Int → Int} {S : Sto} (m0 : 1 ≤ m) (m1 : m ≤ 1000) : f_pairs_of [dL (((rgI 0 m).map f).map .int)] S = .ok (dT ((norm m f).map pr)) S := by
  refine trim_same (xBody_rt ?_)
  show m_pairs_of [some (dL (((rgI 0 m).map f).map .int)), none, none, none] S = _
  let ys := ((rgI 0 m).map f).mapIdx fun i x => (i, x)
  have hys : ∀ q ∈ ys, (q.1 : Int) < m ∧ q.2 = f (q.1 : Int) := fun q hq => by
    have e := mem_idx hq
    have hl := (List.getElem?_eq_some_iff.mp e).1
    have hm := map_len (m := m) (f := f) (by omega)
    refine ⟨by omega, ?_⟩
    rw [List.getElem?_map, rgI_get (by rw [List.length_map, rgI_length] at hl; exact hl)] at e
    have e : f (0 + (q.1 : Int)) = q.2 := Option.some.inj e
    rw [← e, Int.zero_add]
  have c1 : xComp (xEnB (xCons (xV 0) xNil)) (.tp [.nm 2, .nm 3]) (xT (xBin dNe (xV 3) (xBin dIxD (xV 0) (xBin dSub (xV 2) (xC (.int 1)))))) (xV 2) [2, 3] [some (dL (((rgI 0 m).map f).map .int)), none, none, none] S = .ok (dL ((chgs m f).map .int)) S := by
    rw [xComp_map (fun q : Nat × Int => D.py (pairP (.int (q.1 : Int)) (.int q.2))) (fun q => !(f q.1 == f (((q.1 : Int) - 1) % m))) (fun q => .int (q.1 : Int)) (ys := ys) ?_ ?_ fun q hq => ⟨_, bind2_e, ?_, fun _ => ?_⟩]
    · congr 2
      have e1 : chgs m f = (ys.map fun q => (q.1 : Int)).filter fun p => !(f p == f ((p - 1) % m)) := by
        unfold chgs
        congr 1
        refine List.ext_getElem? fun i => ?_
        rw [List.getElem?_map, List.getElem?_mapIdx, List.getElem?_map]
        by_cases hi : i < (m - 0).toNat
        · rw [rgI_get hi]
          show some (0 + (i : Int)) = some (i : Int)
          rw [Int.zero_add]
        · rw [List.getElem?_eq_none (by rw [rgI_length]; omega)]
          rfl
      rw [e1, List.filter_map, List.map_map]
      rfl
    · simp only [xEnB_e, xCons_e, xV_e, xNil_e, List.getElem?_cons_succ, List.getElem?_cons_zero, bind_ok]
      show Res.ok ((((rgI 0 m).map f).map PyData.int).mapIdx (fun i x => pairP (.int (i : Nat)) x) |>.map D.py, none) S = _
      rw [mapIdx_ints, List.map_map]; rfl
    · show (((rgI 0 m).map f).mapIdx fun i x => (i, x)).length ≤ _
      rw [List.length_mapIdx, List.length_map, rgI_length]; omega
    · obtain ⟨h1, h2⟩ := hys q hq
      have := ixMapB (f := f) (S := S) m0 (show (0 : Int) ≤ (q.1 : Int) by omega) h1
      simp [-List.map_map, wipeE, this, neI, h2]
    · simp [wipeE]
  have hlen : (chgs m f).length ≤ 1000 := by
    have := List.length_filter_le (fun p => !(f p == f ((p - 1) % m))) (rgI 0 m)
    rw [rgI_length] at this
    unfold chgs
    omega
  have c2 : ∀ bs : List Int, bs.length ≤ 1000 → (∀ p ∈ bs, 0 ≤ p ∧ p < m) → ∀ e : EX, e [some (dL (((rgI 0 m).map f).map .int)), some (dL ((chgs m f).map .int)), none, none] S = .ok (dL (bs.map .int)) S →
      xComp (xIt e) (.nm 2) xYes (xTup (xCons (xV 2) (xCons (xBin dIxD (xV 0) (xV 2)) xNil))) [2] [some (dL (((rgI 0 m).map f).map .int)), some (dL ((chgs m f).map .int)), none, none] S = .ok (dL ((bs.map fun p => (p, f p)).map pr)) S := fun bs hl hb e he => by
    rw [xComp_all (fun p : Int => D.py (.int p)) (fun p => pr (p, f p)) (ys := bs) (by rw [xIt_e, he]; simp) (by omega) fun p hp => ⟨_, bindN_e, ?_⟩]
    · rw [List.map_map]; rfl
    · obtain ⟨a, b⟩ := hb p hp
      simp [-List.map_map, wipeE, ixMap m0 a b, pr, pairP]
  unfold m_pairs_of
  rw [xSeq_e]
  simp only [xSet_e, c1, bindX_ok, List.set_cons_succ, List.set_cons_zero, xRet_e, xCB_e, xCons_e, xNil_e]
  by_cases hz : (chgs m f).isEmpty = true
  · have hz' := List.isEmpty_iff.mp hz
    rw [c2 [0] (by decide) (fun p hp => by rw [List.mem_singleton.mp hp]; omega) _ (by simp [hz'])]
    simp only [bind_ok, fTupleL_e, bindX_ok, norm]
    rw [if_pos hz]
  · rw [c2 (chgs m f) hlen (fun p hp => ⟨(chgs_mem hp).1, (chgs_mem hp).2.1⟩) _ (by
      cases hc : chgs m f with
      | nil => rw [hc] at hz; exact absurd rfl hz
      | cons x r => simp)]
    simp only [bind_ok, fTupleL_e, bindX_ok, norm]
    rw [if_neg hz]
end QQ
end
section
set_option maxRecDepth 100000
set_option maxHeartbeats 1000000
/-! DN8: tools and rising maps are the same. -/
namespace QQ
open PySem DL
theorem nodup_len {α : Type} [DecidableEq α] : ∀ {xs ys : List α}, xs.Nodup → (∀ x ∈ xs, x ∈ ys) → xs.length ≤ ys.length
  | [], _, _, _ => Nat.zero_le _
  | x :: xs, ys, h, hs => by
    obtain ⟨h1, h2⟩ := List.nodup_cons.mp h
    have hx := hs x List.mem_cons_self
    have := nodup_len (xs := xs) (ys := ys.erase x) h2 fun y hy => (List.mem_erase_of_ne (by intro e; subst e; exact h1 hy)).mpr (hs y (List.mem_cons_of_mem _ hy))
    rw [List.length_erase_of_mem hx] at this
    have := List.length_pos_of_mem hx
    rw [List.length_cons]
    omega
structure Tool1 (m : Int) (t : List (Int × Int)) : Prop extends Tool m t where
  one : ∀ p, t = [p] → p.1 = 0
theorem chgs_lt (m : Int) (f : Int → Int) : (chgs m f).Pairwise (· < ·) := (rgI_lt 0 m).sublist List.filter_sublist
theorem prev_eq {m p : Int} (h0 : 0 < p) (h1 : p < m) : (p - 1) % m = p - 1 := Int.emod_eq_of_lt (by omega) (by omega)
theorem prev_zero {m : Int} (m0 : 1 ≤ m) : ((0 : Int) - 1) % m = m - 1 := by
  rw [show (0 : Int) - 1 = -1 by omega, ← Int.add_emod_right, show -1 + m = m - 1 by omega]
  exact Int.emod_eq_of_lt (by omega) (by omega)
section
variable {m : Int} {G f : Int → Int}
/-- at a change the lift rises, by less than the whole -/
theorem chg_rise (hG : Lift m G) (hf : ∀ p, 0 ≤ p → p < m → f p = G p % m) (m0 : 1 ≤ m) {p : Int} (h : p ∈ chgs m f) : G (p - 1) < G p ∧ G p < G (p - 1) + m := by
  obtain ⟨h0, h1, hne⟩ := chgs_mem h
  have g := hG.gap m0 p
  have e1 := hf p h0 h1
  have e2 := hf ((p - 1) % m) (Int.emod_nonneg _ (by omega)) (Int.emod_lt_of_pos _ (by omega))
  rw [hG.modk] at e2
  have n1 : G p ≠ G (p - 1) := fun e => hne (by rw [e1, e2, e])
  have n2 : G p ≠ G (p - 1) + m := fun e => hne (by rw [e1, e2, e, Int.add_emod_right])
  omega
theorem not_chg {p : Int} (h0 : 0 ≤ p) (h1 : p < m) (h : p ∉ chgs m f) : f p = f ((p - 1) % m) := by
  by_cases e : f p = f ((p - 1) % m)
  · exact e
  · exact absurd (List.mem_filter.mpr ⟨rgI_mem.mpr ⟨h0, h1⟩, by simpa using e⟩) h
theorem norm_rise (hG : Lift m G) (hf : ∀ p, 0 ≤ p → p < m → f p = G p % m) (m0 : 1 ≤ m) (hl : (chgs m f).length ≤ 12) : Tool1 m (norm m f) := by
  by_cases hz : (chgs m f).isEmpty = true
  · have e : norm m f = [(0, f 0)] := by unfold norm; rw [if_pos hz]; rfl
    have r := hf 0 (Int.le_refl 0) (by omega)
    have a := Int.emod_nonneg (G 0) (show m ≠ 0 by omega)
    have b := Int.emod_lt_of_pos (G 0) (show 0 < m by omega)
    rw [e]
    exact ⟨one_tool (by omega) (by omega), fun p hp => by cases hp; rfl⟩
  · have e : norm m f = (chgs m f).map fun p => (p, f p) := by unfold norm; rw [if_neg hz]
    obtain ⟨b, r, hb⟩ : ∃ b r, chgs m f = b :: r := by
      cases h : chgs m f with
      | nil => rw [h] at hz; exact absurd rfl hz
      | cons b r => exact ⟨b, r, rfl⟩
    have hbm : b ∈ chgs m f := by rw [hb]; exact List.mem_cons_self
    have hb0 := chgs_mem hbm
    have hmin : ∀ p ∈ chgs m f, b ≤ p := fun p hp => by
      have pw := chgs_lt m f
      rw [hb] at pw hp
      rcases List.mem_cons.mp hp with rfl | hp
      · exact Int.le_refl _
      · have := (List.pairwise_cons.mp pw).1 p hp; omega
    have up : ∀ p q, p ∈ chgs m f → q ∈ chgs m f → p < q → G p < G q := fun p q hp hq l => by
      have a := (chg_rise hG hf m0 hq).1
      have b := hG.mono p (q - 1) (by omega)
      omega
    rw [e]
    refine ⟨⟨?_, ?_, ?_, by rw [List.length_map]; exact hl, G b, (chgs m f).map fun p => G p - G b, ?_, ?_, ?_⟩, ?_⟩
    · rw [List.pairwise_map]; exact chgs_lt m f
    · intro p hp
      obtain ⟨x, hx, rfl⟩ := List.mem_map.mp hp
      have hx := chgs_mem hx
      have r := hf x hx.1 hx.2.1
      have a := Int.emod_nonneg (G x) (show m ≠ 0 by omega)
      have b := Int.emod_lt_of_pos (G x) (show 0 < m by omega)
      simp only
      omega
    · rw [hb]; simp
    · rw [List.map_map, List.map_map]
      refine List.map_congr_left fun p hp => ?_
      have hp := chgs_mem hp
      show f p = (G b + (G p - G b)) % m
      rw [hf p hp.1 hp.2.1]
      congr 1
      omega
    · rw [List.pairwise_map]
      refine List.Pairwise.imp_of_mem ?_ (chgs_lt m f)
      intro p q hp hq l
      have := up p q hp hq l
      omega
    · intro w hw
      obtain ⟨p, hp, rfl⟩ := List.mem_map.mp hw
      have h1 := hmin p hp
      have h2 := hG.mono b p h1
      have h3 := hG.mono p (b - 1 + m) (by have := chgs_mem hp; omega)
      rw [hG.per] at h3
      have h4 := (chg_rise hG hf m0 hbm).1
      omega
    · intro p hp
      -- one change alone cannot be
      exfalso
      have hr : r = [] := by
        rw [hb] at hp
        cases r with
        | nil => rfl
        | cons x y => simp at hp
      subst hr
      have all : ∀ k : Nat, (k : Int) < m → G (b + k) % m = G b % m := fun k => by
        induction k with
        | zero => intro _; simp
        | succ k ih =>
          intro hk
          have ih := ih (by omega)
          have x0 := Int.emod_nonneg (b + ((k + 1 : Nat) : Int)) (show m ≠ 0 by omega)
          have x1 := Int.emod_lt_of_pos (b + ((k + 1 : Nat) : Int)) (show 0 < m by omega)
          have hnc : (b + ((k + 1 : Nat) : Int)) % m ∉ chgs m f := fun hc => by
            rw [hb] at hc
            have hc := List.mem_singleton.mp hc
            by_cases l : b + ((k + 1 : Nat) : Int) < m
            · rw [Int.emod_eq_of_lt (by omega) l] at hc; omega
            · rw [← Int.sub_emod_right, Int.emod_eq_of_lt (by omega) (by omega)] at hc; omega
          have := not_chg x0 x1 hnc
          rw [hf _ x0 x1, hf _ (Int.emod_nonneg _ (by omega)) (Int.emod_lt_of_pos _ (by omega)), hG.modk, hG.modk] at this
          have e5 : G ((b + ((k + 1 : Nat) : Int)) % m - 1) % m = G (b + (k : Int)) % m := by
            rw [← hG.modk, Int.emod_sub_emod, hG.modk]
            congr 2
            omega
          rw [this, e5, ih]
      have h1 := all (m - 1).toNat (by omega)
      rw [show b + ((m - 1).toNat : Int) = b - 1 + m by omega, hG.per, Int.add_emod_right] at h1
      obtain ⟨g1, g2⟩ := chg_rise hG hf m0 hbm
      have hd : (G b - G (b - 1)) % m = 0 := by rw [Int.sub_emod, h1, Int.sub_self, Int.zero_emod]
      rw [Int.emod_eq_of_lt (by omega) (by omega)] at hd
      omega
theorem chgs_empty (hz : chgs m f = []) (m0 : 1 ≤ m) {p : Int} (h0 : 0 ≤ p) (h1 : p < m) : f p = f 0 := by
  obtain ⟨n, rfl⟩ : ∃ n : Nat, p = n := ⟨p.toNat, by omega⟩
  induction n with
  | zero => rfl
  | succ n ih =>
    have := not_chg (m := m) (f := f) h0 h1 (by rw [hz]; simp)
    rw [prev_eq (by omega) h1] at this
    rw [this, show ((n + 1 : Nat) : Int) - 1 = (n : Int) by omega]
    exact ih (by omega) (by omega)
/-- the tool of a table has this table -/
theorem tgt_norm (ht : Tool m (norm m f)) (m0 : 1 ≤ m) {p : Int} (h0 : 0 ≤ p) (h1 : p < m) : tgt (norm m f) p = f p := by
  by_cases hz : (chgs m f).isEmpty = true
  · have e : norm m f = [(0, f 0)] := by unfold norm; rw [if_pos hz]; rfl
    rw [e, chgs_empty (List.isEmpty_iff.mp hz) m0 h0 h1]
    exact tgt_at (List.pairwise_singleton _ _) (List.mem_singleton_self _) h0 fun z hz _ => by rw [List.mem_singleton.mp hz]; exact Int.le_refl _
  · have e : norm m f = (chgs m f).map fun p => (p, f p) := by unfold norm; rw [if_neg hz]
    obtain ⟨b, hb⟩ : ∃ b, b ∈ chgs m f := by
      cases h : chgs m f with
      | nil => rw [h] at hz; exact absurd rfl hz
      | cons b r => exact ⟨b, List.mem_cons_self⟩
    have hb0 := chgs_mem hb
    have mem : ∀ {x : Int}, x ∈ chgs m f → (x, f x) ∈ norm m f := fun {x} hx => by rw [e]; exact List.mem_map.mpr ⟨x, hx, rfl⟩
    have inv : ∀ {z : Int × Int}, z ∈ norm m f → z.1 ∈ chgs m f ∧ z.2 = f z.1 := fun {z} hz => by
      rw [e] at hz
      obtain ⟨x, hx, rfl⟩ := List.mem_map.mp hz
      exact ⟨hx, rfl⟩
    have go : ∀ (n : Nat) (p : Int), 0 ≤ p → p < m → ((p - b) % m).toNat = n → tgt (norm m f) p = f p := fun n => by
      induction n with
      | zero =>
        intro p h0 h1 hn
        rw [sub_mod h0 h1 hb0.1 hb0.2.1] at hn
        have : p = b := by split at hn <;> omega
        subst this
        exact tgt_at ht.lt (mem hb) (Int.le_refl _) fun z _ hz => hz
      | succ n ih =>
        intro p h0 h1 hn
        by_cases hp : p ∈ chgs m f
        · exact tgt_at ht.lt (mem hp) (Int.le_refl _) fun z _ hz => hz
        · have hno : ∀ z ∈ norm m f, z.1 ≠ p := fun z hz e => hp (e ▸ (inv hz).1)
          rw [not_chg h0 h1 hp]
          have q0 := Int.emod_nonneg (p - 1) (show m ≠ 0 by omega)
          have q1 := Int.emod_lt_of_pos (p - 1) (show 0 < m by omega)
          rw [sub_mod h0 h1 hb0.1 hb0.2.1] at hn
          rw [← ih ((p - 1) % m) q0 q1 ?_]
          · by_cases z : p = 0
            · subst z
              rw [prev_zero m0]
              exact tgt_over ht hno
            · rw [prev_eq (by omega) h1]
              exact tgt_back hno
          · rw [sub_mod q0 q1 hb0.1 hb0.2.1]
            by_cases z : p = 0
            · subst z
              rw [prev_zero m0]
              split at hn <;> split <;> omega
            · rw [prev_eq (by omega) h1]
              split at hn <;> split <;> omega
    exact go _ p h0 h1 rfl
theorem norm_congr {g : Int → Int} (m0 : 1 ≤ m) (h : ∀ p, 0 ≤ p → p < m → f p = g p) : norm m f = norm m g := by
  have hc : chgs m f = chgs m g := by
    unfold chgs
    refine List.filter_congr fun p hp => ?_
    have hp := rgI_mem.mp hp
    rw [h p hp.1 hp.2, h _ (Int.emod_nonneg _ (by omega)) (Int.emod_lt_of_pos _ (by omega))]
  unfold norm
  rw [hc]
  split
  · simp [h 0 (Int.le_refl 0) (by omega)]
  · refine List.map_congr_left fun p hp => ?_
    have hp := chgs_mem hp
    rw [h p hp.1 hp.2.1]
end
end QQ
end
section
set_option maxRecDepth 100000
set_option maxHeartbeats 1000000
/-! DN9: a tool is the tool of its table; turns. -/
namespace QQ
open PySem DL
theorem tgt_cases {t : List (Int × Int)} (h : t.Pairwise fun a b => a.1 < b.1) (ne : t ≠ []) (x : Int) : ∃ q ∈ t, tgt t x = q.2 ∧ ((q.1 ≤ x ∧ ∀ z ∈ t, z.1 ≤ x → z.1 ≤ q.1) ∨ ((∀ z ∈ t, x < z.1) ∧ ∀ z ∈ t, z.1 ≤ q.1)) := by
  have top : ∀ {l : List (Int × Int)} {q : Int × Int}, l.Pairwise (fun a b => a.1 < b.1) → l.getLast? = some q → ∀ z ∈ l, z.1 ≤ q.1 := fun {l q} hl e z hz => by
    obtain ⟨i, hi, rfl⟩ := List.getElem_of_mem hz
    rw [List.getLast?_eq_getElem?] at e
    obtain ⟨hj, rfl⟩ := List.getElem?_eq_some_iff.mp e
    by_cases q : i = l.length - 1
    · subst q; exact Int.le_refl _
    · have := List.pairwise_iff_getElem.mp hl i (l.length - 1) hi hj (by omega)
      omega
  unfold tgt
  cases e : (t.filter fun q => decide (q.1 ≤ x)).getLast? with
  | some q =>
    obtain ⟨a, b⟩ := List.mem_filter.mp (List.mem_of_getLast? e)
    exact ⟨q, a, rfl, .inl ⟨of_decide_eq_true b, fun z hz hl => top (h.sublist List.filter_sublist) e z (List.mem_filter.mpr ⟨hz, decide_eq_true hl⟩)⟩⟩
  | none =>
    have e := List.getLast?_eq_none_iff.mp e
    cases e2 : t.getLast? with
    | none => exact absurd (List.getLast?_eq_none_iff.mp e2) ne
    | some q =>
      refine ⟨q, List.mem_of_getLast? e2, rfl, .inr ⟨fun z hz => ?_, top h e2⟩⟩
      have := List.filter_eq_nil_iff.mp e z hz
      simp at this
      omega
theorem tool_inj {m : Int} {t : List (Int × Int)} (h : Tool m t) {p q : Int × Int} (hp : p ∈ t) (hq : q ∈ t) (e : p.2 = q.2) : p.1 = q.1 := by
  obtain ⟨z, u, hu, rfl⟩ := tool_rise h
  obtain ⟨a, ha, rfl⟩ := List.mem_map.mp hp
  obtain ⟨b, hb, rfl⟩ := List.mem_map.mp hq
  have e : (z + a.2) % m = (z + b.2) % m := e
  have ra := hu.rg a ha
  have rb := hu.rg b hb
  have hd : (a.2 - b.2) % m = 0 := by
    have : ((z + a.2) - (z + b.2)) % m = 0 := by rw [Int.sub_emod, e, Int.sub_self, Int.zero_emod]
    rw [show a.2 - b.2 = (z + a.2) - (z + b.2) by omega]; exact this
  rw [sub_mod ra.2.2.1 ra.2.2.2 rb.2.2.1 rb.2.2.2] at hd
  have e2 : a.2 = b.2 := by split at hd <;> omega
  obtain ⟨i, hi, rfl⟩ := List.getElem_of_mem ha
  obtain ⟨j, hj, rfl⟩ := List.getElem_of_mem hb
  have pw := List.pairwise_iff_getElem.mp hu.lt
  show (u[i]).1 = (u[j]).1
  rcases Nat.lt_trichotomy i j with l | l | l
  · have := (pw i j hi hj l).2; omega
  · subst l; rfl
  · have := (pw j i hj hi l).2; omega
theorem chgs_tgt {m : Int} {t : List (Int × Int)} (h : Tool m t) (m0 : 1 ≤ m) (hl : 2 ≤ t.length) : chgs m (tgt t) = t.map Prod.fst := by
  refine pw_ext (chgs_lt m _) (by rw [List.pairwise_map]; exact h.lt) fun p => ⟨fun hp => ?_, fun hp => ?_⟩
  · obtain ⟨h0, h1, hne⟩ := chgs_mem hp
    by_cases hin : p ∈ t.map Prod.fst
    · exact hin
    · have hno : ∀ z ∈ t, z.1 ≠ p := fun z hz e => hin (List.mem_map.mpr ⟨z, hz, e⟩)
      refine absurd ?_ hne
      by_cases z : p = 0
      · subst z
        rw [prev_zero m0]
        exact tgt_over h hno
      · rw [prev_eq (by omega) h1]
        exact tgt_back hno
  · obtain ⟨q, hq, rfl⟩ := List.mem_map.mp hp
    have rq := h.rg q hq
    refine List.mem_filter.mpr ⟨rgI_mem.mpr ⟨rq.1, rq.2.1⟩, ?_⟩
    have e1 : tgt t q.1 = q.2 := tgt_at h.lt hq (Int.le_refl _) fun z _ hz => hz
    obtain ⟨a, b, hab⟩ : ∃ a b, a ∈ t ∧ b ∈ t ∧ a.1 < b.1 := by
      have := List.pairwise_iff_getElem.mp h.lt 0 1 (by omega) (by omega) (by omega)
      exact ⟨t[0], t[1], List.getElem_mem _, List.getElem_mem _, this⟩
    obtain ⟨q', hq', e2, hc⟩ := tgt_cases h.lt h.ne ((q.1 - 1) % m)
    have ne : q'.1 ≠ q.1 := fun e => by
      by_cases z : q.1 = 0
      · rw [z, prev_zero m0] at hc
        rcases hc with ⟨_, c⟩ | ⟨c, _⟩
        · have := c b hab.2.1 (by have := h.rg b hab.2.1; omega)
          have := h.rg a hab.1
          omega
        · have := c q hq
          omega
      · rw [prev_eq (by omega) rq.2.1] at hc
        rcases hc with ⟨c, _⟩ | ⟨c, d⟩
        · omega
        · have := c a hab.1
          have := d b hab.2.1
          omega
    have : tgt t q.1 ≠ tgt t ((q.1 - 1) % m) := fun e => ne (tool_inj h hq' hq (by rw [← e1, ← e2, e]))
    simpa using this
theorem norm_tgt {m : Int} {t : List (Int × Int)} (h : Tool1 m t) (m0 : 1 ≤ m) : norm m (tgt t) = t := by
  by_cases hl : 2 ≤ t.length
  · have hc := chgs_tgt h.toTool m0 hl
    have hne : (chgs m (tgt t)).isEmpty = false := by
      rw [hc, List.isEmpty_eq_false_iff]
      intro e
      exact h.ne (List.map_eq_nil_iff.mp e)
    unfold norm
    rw [hne, hc]
    simp only [Bool.false_eq_true, if_false, List.map_map]
    refine Eq.trans (List.map_congr_left fun q hq => ?_) (List.map_id t)
    show (q.1, tgt t q.1) = q
    rw [tgt_at h.lt hq (Int.le_refl _) fun z _ hz => hz]
  · obtain ⟨p, rfl⟩ : ∃ p, t = [p] := by
      match t, h.ne, hl with
      | [p], _, _ => exact ⟨p, rfl⟩
      | p :: q :: r, _, hl => simp at hl
    have hp := h.one p rfl
    have hv : ∀ x, 0 ≤ x → tgt [p] x = p.2 := fun x hx => tgt_at (List.pairwise_singleton _ _) (List.mem_singleton_self _) (by omega) fun z hz _ => by rw [List.mem_singleton.mp hz]; exact Int.le_refl _
    have hc : chgs m (tgt [p]) = [] := by
      refine List.filter_eq_nil_iff.mpr fun x hx => ?_
      have hx := rgI_mem.mp hx
      rw [hv x hx.1, hv _ (Int.emod_nonneg _ (by omega))]
      simp
    unfold norm
    rw [hc]
    simp only [List.isEmpty_nil, if_true, List.map_cons, List.map_nil]
    rw [hv 0 (Int.le_refl 0), ← hp]
/-- how many changes -/
theorem chgs_count {m : Int} {t : List (Int × Int)} (h : Tool1 m t) (m0 : 1 ≤ m) : (chgs m (tgt t)).length ≤ 12 := by
  have e := norm_tgt h m0
  have hl := h.len
  rw [← e] at hl
  unfold norm at hl
  rw [List.length_map] at hl
  split at hl
  · rename_i z
    rw [List.isEmpty_iff.mp z]
    decide
  · exact hl
/-- a change of g at p is one of f at k p -/
theorem count_of {m : Int} {f g k : Int → Int} (hk : ∀ p, p ∈ chgs m g → k p ∈ chgs m f) (inj : ∀ p q, p ∈ chgs m g → q ∈ chgs m g → k p = k q → p = q) : (chgs m g).length ≤ (chgs m f).length := by
  have nd : ((chgs m g).map k).Nodup := by
    rw [List.nodup_iff_pairwise_ne, List.pairwise_map]
    refine List.Pairwise.imp_of_mem ?_ (chgs_lt m g)
    intro p q hp hq l e
    have := inj p q hp hq e
    omega
  have := nodup_len nd (ys := chgs m f) fun x hx => by
    obtain ⟨p, hp, rfl⟩ := List.mem_map.mp hx
    exact hk p hp
  rw [List.length_map] at this
  exact this
end QQ
end
section
set_option maxRecDepth 100000
set_option maxHeartbeats 1000000
/-! DN10: turned and mirrored tools. -/
namespace QQ
open PySem DL
def turnF (m : Int) (t : List (Int × Int)) (k p : Int) : Int := (tgt t ((p + k) % m) - k) % m
def mirF (m : Int) (t : List (Int × Int)) (p : Int) : Int := (0 - tgt t ((0 - p) % m)) % m
theorem add_inj {m k p q : Int} (p0 : 0 ≤ p) (p1 : p < m) (q0 : 0 ≤ q) (q1 : q < m) (e : (p + k) % m = (q + k) % m) : p = q := by
  have hd : (p - q) % m = 0 := by
    have : ((p + k) - (q + k)) % m = 0 := by rw [Int.sub_emod, e, Int.sub_self, Int.zero_emod]
    rw [show p - q = (p + k) - (q + k) by omega]; exact this
  rw [sub_mod p0 p1 q0 q1] at hd
  split at hd <;> omega
theorem turn_tool {m k : Int} {t : List (Int × Int)} (h : Tool1 m t) (m0 : 1 ≤ m) : Tool1 m (norm m (turnF m t k)) := by
  obtain ⟨F, hF, e⟩ := tool_lift h.toTool m0
  refine norm_rise (hF.turn k) (fun p _ _ => ?_) m0 (Nat.le_trans (count_of (f := tgt t) (k := fun p => (p + k) % m) (fun p hp => ?_) fun p q hp hq eq => ?_) (chgs_count h m0))
  · unfold turnF
    rw [← e, Int.emod_sub_emod]
  · obtain ⟨p0, p1, hne⟩ := chgs_mem hp
    refine List.mem_filter.mpr ⟨rgI_mem.mpr ⟨Int.emod_nonneg _ (by omega), Int.emod_lt_of_pos _ (by omega)⟩, ?_⟩
    have : tgt t ((p + k) % m) ≠ tgt t (((p + k) % m - 1) % m) := fun z => by
      refine hne ?_
      unfold turnF
      have e2 : ((p - 1) % m + k) % m = ((p + k) % m - 1) % m := by
        rw [Int.emod_add_emod, Int.emod_sub_emod]
        congr 1; omega
      rw [e2, z]
    simpa using this
  · have a := chgs_mem hp
    have b := chgs_mem hq
    exact add_inj a.1 a.2.1 b.1 b.2.1 eq
theorem turn_tgt {m k p : Int} {t : List (Int × Int)} (h : Tool1 m t) (m0 : 1 ≤ m) (p0 : 0 ≤ p) (p1 : p < m) : tgt (norm m (turnF m t k)) p = turnF m t k p := tgt_norm (turn_tool h m0).toTool m0 p0 p1
theorem mir_tool {m : Int} {t : List (Int × Int)} (h : Tool1 m t) (m0 : 1 ≤ m) : Tool1 m (norm m (mirF m t)) := by
  obtain ⟨F, hF, e⟩ := tool_lift h.toTool m0
  refine norm_rise hF.mirror (fun p _ _ => ?_) m0 (Nat.le_trans (count_of (f := tgt t) (k := fun p => (1 - p) % m) (fun p hp => ?_) fun p q hp hq eq => ?_) (chgs_count h m0))
  · unfold mirF
    rw [show (0 : Int) - p = -p by omega, ← e, Int.sub_emod, Int.emod_emod_of_dvd _ (Int.dvd_refl m), ← Int.sub_emod]
    congr 1; omega
  · obtain ⟨p0, p1, hne⟩ := chgs_mem hp
    refine List.mem_filter.mpr ⟨rgI_mem.mpr ⟨Int.emod_nonneg _ (by omega), Int.emod_lt_of_pos _ (by omega)⟩, ?_⟩
    have : tgt t ((1 - p) % m) ≠ tgt t (((1 - p) % m - 1) % m) := fun z => by
      refine hne ?_
      unfold mirF
      have e1 : (0 - (p - 1) % m) % m = (1 - p) % m := by
        rw [Int.sub_emod, Int.emod_emod_of_dvd _ (Int.dvd_refl m), ← Int.sub_emod]
        congr 1; omega
      have e2 : ((1 - p) % m - 1) % m = (0 - p) % m := by
        rw [Int.emod_sub_emod]
        congr 1; omega
      rw [e1, z, e2]
    simpa using this
  · have a := chgs_mem hp
    have b := chgs_mem hq
    have eq : (1 - p) % m = (1 - q) % m := eq
    have hd : (q - p) % m = 0 := by
      have : ((1 - p) - (1 - q)) % m = 0 := by rw [Int.sub_emod, eq, Int.sub_self, Int.zero_emod]
      rw [show q - p = (1 - p) - (1 - q) by omega]; exact this
    rw [sub_mod b.1 b.2.1 a.1 a.2.1] at hd
    split at hd <;> omega
theorem mir_tgt {m p : Int} {t : List (Int × Int)} (h : Tool1 m t) (m0 : 1 ≤ m) (p0 : 0 ≤ p) (p1 : p < m) : tgt (norm m (mirF m t)) p = mirF m t p := tgt_norm (mir_tool h m0).toTool m0 p0 p1
theorem turned_tool_eq {m k : Int} {t : List (Int × Int)} {S : Sto} (h : Tool m t) (m0 : 1 ≤ m) (m1 : m ≤ 1000) : f_turned_tool [dI m, dT (t.map pr), dI k] S = .ok (dT ((norm m (turnF m t k)).map pr)) S := by
  refine trim_same (xBody_rt ?_)
  show m_turned_tool [some (dI m), some (dT (t.map pr)), some (dI k), none] S = _
  have hlen := h.len
  have hc : xComp (xRg1 (xCons (xV 0) xNil)) (.nm 3) xYes (xBin dMod (xBin dSub (xCall 3 f_target_of (xCons (xV 0) (xCons (xV 1) (xCons (xBin dMod (xBin dAdd (xV 3) (xV 2)) (xV 0)) xNil)))) (xV 2)) (xV 0)) [3] [some (dI m), some (dT (t.map pr)), some (dI k), none] S = .ok (dL (((rgI 0 m).map (turnF m t k)).map .int)) S := by
    rw [xComp_all (fun p : Int => D.py (.int p)) (fun p => .int (turnF m t k p)) (ys := rgI 0 m) (by simp; omega) (by rw [rgI_length]; omega) fun p hp => ⟨_, bindN_e, by simp [-List.map_map, wipeE, show 0 < m by omega, target_of_eq h.ne (by omega), turnF]⟩]
    rw [List.map_map]; rfl
  unfold m_turned_tool
  simp only [xRet_e, xCall_e, xCons_e, hc, xNil_e, bind_ok, List.length_cons, List.length_nil, Nat.zero_add, if_true, pairs_of_eq m0 m1, bindX_ok]
theorem mirrored_tool_eq {m : Int} {t : List (Int × Int)} {S : Sto} (h : Tool m t) (m0 : 1 ≤ m) (m1 : m ≤ 1000) : f_mirrored_tool [dI m, dT (t.map pr)] S = .ok (dT ((norm m (mirF m t)).map pr)) S := by
  refine trim_same (xBody_rt ?_)
  show m_mirrored_tool [some (dI m), some (dT (t.map pr)), none] S = _
  have hlen := h.len
  have hc : xComp (xRg1 (xCons (xV 0) xNil)) (.nm 2) xYes (xBin dMod (xBin dSub (xC (.int 0)) (xCall 3 f_target_of (xCons (xV 0) (xCons (xV 1) (xCons (xBin dMod (xBin dSub (xC (.int 0)) (xV 2)) (xV 0)) xNil))))) (xV 0)) [2] [some (dI m), some (dT (t.map pr)), none] S = .ok (dL (((rgI 0 m).map (mirF m t)).map .int)) S := by
    rw [xComp_all (fun p : Int => D.py (.int p)) (fun p => .int (mirF m t p)) (ys := rgI 0 m) (by simp; omega) (by rw [rgI_length]; omega) fun p hp => ⟨_, bindN_e, by
      simp only [wipeE, List.set_cons_succ, List.set_cons_zero, xBin_e, xC_e, xCall_e, xCons_e, xV_e, xNil_e, List.getElem?_cons_succ, List.getElem?_cons_zero, bind_ok, dSub_e, dMod_e]
      rw [if_pos (by omega)]
      simp only [bind_ok, List.length_cons, List.length_nil, Nat.zero_add, Nat.reduceAdd, if_true, target_of_eq h.ne (show t.length ≤ 1000 by omega), dSub_e, dMod_e]
      rw [if_pos (by omega)]
      rfl⟩]
    rw [List.map_map]; rfl
  unfold m_mirrored_tool
  simp only [xRet_e, xCall_e, xCons_e, hc, xNil_e, bind_ok, List.length_cons, List.length_nil, Nat.zero_add, if_true, pairs_of_eq m0 m1, bindX_ok]
end QQ
end
section
set_option maxRecDepth 100000
set_option maxHeartbeats 1000000
/-! DW: what a mirror's result must satisfy, step by step. -/
namespace DL
open PySem
theorem nr {α : Sort _} {a b : α} (h : a = b) : a = b := h
abbrev QR (α : Type) := α → Sto → Prop
abbrev QX := Xc → Sto → Prop
/-- the result is good: Q of a value, E of an exception -/
def Go {α : Type} (r : Res α) (Q : QR α) (E : QX) : Prop := match r with
  | .ok a S => Q a S
  | .exc x S => E x S
  | .bad => False
abbrev nE : QX := fun _ _ => False
/-- two ways by a test -/
def Br (c : Bool) (A B : Prop) : Prop := (c = true → A) ∧ (c = false → B)
theorem Go_congr {α : Type} {r r' : Res α} {Q : QR α} {E : QX} (h : r = r') : Go r Q E = Go r' Q E := by rw [h]
theorem Br_congr {c c' : Bool} {A B : Prop} (h : c = c') : Br c A B = Br c' A B := by rw [h]
section
variable {α β : Type} {r : Res α} {Q : QR α} {E : QX} {a : α} {S S1 S2 : Sto} {f : α → Sto → Res β} {Q2 : QR β} {A B : Prop}
theorem Go_ok : Go (.ok a S) Q E = Q a S := nr rfl
theorem Go_exc {x : Xc} : Go (.exc x S) Q E = E x S := nr rfl
theorem Go_bad : Go .bad Q E = False := nr rfl
theorem Go_bind : Go (r.bind f) Q2 E = Go r (fun a S => Go (f a S) Q2 E) E := by cases r <;> rfl
theorem Go_bindX {env : Envr} {k : α → Sto → Res Fl} {Q2 : QR Fl} : Go (r.bindX env k) Q2 E = Go r (fun a S => Go (k a S) Q2 E) (fun x S => Q2 (.xc x env) S) := by cases r <;> rfl
theorem Go_if {c : Prop} [Decidable c] {r r' : Res α} : Go (if c then r else r') Q E = Br (decide c) (Go r Q E) (Go r' Q E) := by
  unfold Br
  by_cases h : c <;> simp [h]
theorem Go.mono {Q' : QR α} {E' : QX} (h : Go r Q E) (k : ∀ a S, Q a S → Q' a S) (e : ∀ x S, E x S → E' x S) : Go r Q' E' := by
  cases r with
  | ok a S => exact k a S h
  | exc x S => exact e x S h
  | bad => exact h
theorem Go.imp {Q' : QR α} (h : Go r Q nE) (k : ∀ a S, Q a S → Q' a S) : Go r Q' E := h.mono k fun _ _ z => z.elim
theorem Go.eq {d : α} (h : Go r (fun a S1 => a = d ∧ S1 = S) nE) : r = .ok d S := by
  cases r with
  | ok a S => obtain ⟨rfl, rfl⟩ := h; rfl
  | exc x S => exact h.elim
  | bad => exact h.elim
theorem Go.ex (h : Go r Q nE) : ∃ a S, r = .ok a S ∧ Q a S := by
  cases r with
  | ok a S => exact ⟨a, S, rfl, h⟩
  | exc x S => exact h.elim
  | bad => exact h.elim
theorem Go.of {d : α} (h : r = .ok d S) (k : Q d S) : Go r Q E := by rw [h]; exact k
theorem Br_t : Br true A B = A := by simp [Br]
theorem Br_f : Br false A B = B := by simp [Br]
theorem Br.yes {c : Bool} (h : c = true) (k : A) : Br c A B := ⟨fun _ => k, fun e => absurd (h.symm.trans e) (by decide)⟩
theorem Br.no {c : Bool} (h : c = false) (k : B) : Br c A B := ⟨fun e => absurd (h.symm.trans e) (by decide), fun _ => k⟩
theorem Br.dec {p : Prop} [Decidable p] (h : p → A) (k : ¬p → B) : Br (decide p) A B := ⟨fun e => h (of_decide_eq_true e), fun e => k (of_decide_eq_false e)⟩
theorem Br.decY {p : Prop} [Decidable p] (h : p) (k : A) : Br (decide p) A B := Br.yes (decide_eq_true h) k
theorem Br.decN {p : Prop} [Decidable p] (h : ¬p) (k : B) : Br (decide p) A B := Br.no (decide_eq_false h) k
theorem Br_not {c : Bool} : Br (!c) A B = Br c B A := by cases c <;> simp [Br]
end
/-! ### names, constants, operations -/
section
variable {Q : QR D} {E : QX} {env : Envr} {S : Sto} {d : D} {x : Option D} {n : Nat} {fa fb fc : EX} {o o' : Op2} {t t1 t2 : TX} {k : AX}
theorem xC_w {p : PyData} : Go (xC p env S) Q E = Q (.py p) S := nr rfl
theorem xV_w0 : Go (xV 0 (some d :: env) S) Q E = Q d S := nr rfl
theorem xV_ws : Go (xV (n + 1) (x :: env) S) Q E = Go (xV n env S) Q E := nr rfl
def kB2 (o : Op2) (x : D) (Q : QR D) (E : QX) : QR D := fun y S => Go (o x y S) Q E
def kB1 (o : Op2) (fb : EX) (env : Envr) (Q : QR D) (E : QX) : QR D := fun x S => Go (fb env S) (kB2 o x Q E) E
theorem kB2_w {y : D} : kB2 o d Q E y S = Go (o d y S) Q E := nr rfl
theorem kB1_w : kB1 o fb env Q E d S = Go (fb env S) (kB2 o d Q E) E := nr rfl
theorem xBin_w : Go (xBin o fa fb env S) Q E = Go (fa env S) (kB1 o fb env Q E) E := by rw [xBin_e, Go_bind]; simp only [Go_bind]; rfl
def kAsB (Q : QR Bool) (E : QX) : QR D := fun d S => Go (asB d S) Q E
def kTru (Q : QR Bool) (E : QX) : QR D := fun d S => Go (truD d S) Q E
theorem xT_w {Q : QR Bool} : Go (xT fa env S) Q E = Go (fa env S) (kAsB Q E) E := by rw [xT_e, Go_bind]; rfl
theorem xTr_w {Q : QR Bool} : Go (xTr fa env S) Q E = Go (fa env S) (kTru Q E) E := by rw [xTr_e, Go_bind]; rfl
theorem asB_w {Q : QR Bool} {b : Bool} : Go (asB (dB b) S) Q E = Q b S := nr rfl
theorem kAsB_w {Q : QR Bool} {b : Bool} : kAsB Q E (dB b) S = Q b S := nr rfl
theorem truB_w {Q : QR Bool} {b : Bool} : Go (truD (dB b) S) Q E = Q b S := nr rfl
theorem kTruB_w {Q : QR Bool} {b : Bool} : kTru Q E (dB b) S = Q b S := nr rfl
theorem kTruI_w {Q : QR Bool} {i : Int} : kTru Q E (dI i) S = Q (i != 0) S := nr rfl
theorem kTruN_w {Q : QR Bool} : kTru Q E dN S = Q false S := nr rfl
theorem kTruL_w {Q : QR Bool} {xs : List PyData} : kTru Q E (dL xs) S = Q (!xs.isEmpty) S := nr rfl
theorem kTruT_w {Q : QR Bool} {xs : List PyData} : kTru Q E (dT xs) S = Q (!xs.isEmpty) S := nr rfl
theorem kTruM_w {Q : QR Bool} {n : Nat} {xs : List D} (h : S[n]? = some (.lst xs)) : kTru Q E (.loc n) S = Q (!xs.isEmpty) S := by
  unfold kTru truD
  simp only [h]
  rfl
theorem Go_Br {α : Type} {c : Bool} {r r' : Res α} {Q : QR α} : Go (if c = true then r else r') Q E = Br c (Go r Q E) (Go r' Q E) := by cases c <;> simp [Br]
def kAndT (t : TX) (env : Envr) (Q : QR Bool) (E : QX) : QR Bool := fun c S => Br c (Go (t env S) Q E) (Q false S)
def kOrT (t : TX) (env : Envr) (Q : QR Bool) (E : QX) : QR Bool := fun c S => Br c (Q true S) (Go (t env S) Q E)
def kNotT (Q : QR Bool) : QR Bool := fun c S => Q (!c) S
theorem kAndT_t {Q : QR Bool} : kAndT t env Q E true S = Go (t env S) Q E := Br_t
theorem kAndT_f {Q : QR Bool} : kAndT t env Q E false S = Q false S := Br_f
theorem kOrT_t {Q : QR Bool} : kOrT t env Q E true S = Q true S := Br_t
theorem kOrT_f {Q : QR Bool} : kOrT t env Q E false S = Go (t env S) Q E := Br_f
theorem kNotT_w {Q : QR Bool} {c : Bool} : kNotT Q c S = Q (!c) S := nr rfl
theorem xAndT_w {Q : QR Bool} : Go (xAndT t1 t2 env S) Q E = Go (t1 env S) (kAndT t2 env Q E) E := by
  rw [xAndT_e, Go_bind]; simp only [Go_Br, Go_ok]; rfl
theorem xOrT_w {Q : QR Bool} : Go (xOrT t1 t2 env S) Q E = Go (t1 env S) (kOrT t2 env Q E) E := by
  rw [xOrT_e, Go_bind]; simp only [Go_Br, Go_ok]; rfl
theorem xNotT_w {Q : QR Bool} : Go (xNotT t env S) Q E = Go (t env S) (kNotT Q) E := by
  rw [xNotT_e, Go_bind]; simp only [Go_ok]; rfl
theorem xYes_w {Q : QR Bool} : Go (xYes env S) Q E = Q true S := nr rfl
def kOrD2 (fb : EX) (env : Envr) (d : D) (Q : QR D) (E : QX) : QR Bool := fun c S => Br c (Q d S) (Go (fb env S) Q E)
def kOrD (fb : EX) (env : Envr) (Q : QR D) (E : QX) : QR D := fun d S => kTru (kOrD2 fb env d Q E) E d S
def kAndD2 (fb : EX) (env : Envr) (d : D) (Q : QR D) (E : QX) : QR Bool := fun c S => Br c (Go (fb env S) Q E) (Q d S)
def kAndD (fb : EX) (env : Envr) (Q : QR D) (E : QX) : QR D := fun d S => kTru (kAndD2 fb env d Q E) E d S
theorem kOrD_w : kOrD fb env Q E d S = kTru (kOrD2 fb env d Q E) E d S := nr rfl
theorem kAndD_w : kAndD fb env Q E d S = kTru (kAndD2 fb env d Q E) E d S := nr rfl
theorem kOrD_t : kOrD2 fb env d Q E true S = Q d S := Br_t
theorem kOrD_f : kOrD2 fb env d Q E false S = Go (fb env S) Q E := Br_f
theorem kAndD_t : kAndD2 fb env d Q E true S = Go (fb env S) Q E := Br_t
theorem kAndD_f : kAndD2 fb env d Q E false S = Q d S := Br_f
theorem xOrD_w : Go (xOrD fa fb env S) Q E = Go (fa env S) (kOrD fb env Q E) E := by
  rw [xOrD_e, Go_bind]; simp only [Go_bind, Go_Br, Go_ok]; rfl
theorem xAndD_w : Go (xAndD fa fb env S) Q E = Go (fa env S) (kAndD fb env Q E) E := by
  rw [xAndD_e, Go_bind]; simp only [Go_bind, Go_Br, Go_ok]; rfl
def kNotB (Q : QR D) : QR Bool := fun c S => Q (dB (!c)) S
theorem kNotB_w {c : Bool} : kNotB Q c S = Q (dB (!c)) S := nr rfl
theorem xNot_w : Go (xNot fa env S) Q E = Go (fa env S) (kAsB (kNotB Q) E) E := by
  rw [xNot_e, Go_bind]; simp only [Go_bind, Go_ok]; rfl
def kIfE (fa fb : EX) (env : Envr) (Q : QR D) (E : QX) : QR Bool := fun c S => Br c (Go (fa env S) Q E) (Go (fb env S) Q E)
theorem kIfE_t : kIfE fa fb env Q E true S = Go (fa env S) Q E := Br_t
theorem kIfE_f : kIfE fa fb env Q E false S = Go (fb env S) Q E := Br_f
theorem xIf_w : Go (xIf t fa fb env S) Q E = Go (t env S) (kIfE fa fb env Q E) E := by
  rw [xIf_e, Go_bind]; simp only [Go_Br]; rfl
theorem xNil_w {Q : QR (List D)} : Go (xNil env S) Q E = Q [] S := nr rfl
def kC2 (d : D) (Q : QR (List D)) : QR (List D) := fun ds S => Q (d :: ds) S
def kC1 (k : AX) (env : Envr) (Q : QR (List D)) (E : QX) : QR D := fun d S => Go (k env S) (kC2 d Q) E
theorem kC2_w {Q : QR (List D)} {ds : List D} : kC2 d Q ds S = Q (d :: ds) S := nr rfl
theorem kC1_w {Q : QR (List D)} : kC1 k env Q E d S = Go (k env S) (kC2 d Q) E := nr rfl
theorem xCons_w {Q : QR (List D)} : Go (xCons fa k env S) Q E = Go (fa env S) (kC1 k env Q E) E := by
  rw [xCons_e, Go_bind]; simp only [Go_bind, Go_ok]; rfl
/-- all data, and not too many -/
def Pys (ds : List D) (P : List PyData → Prop) : Prop := match pys ds with
  | some es => es.length ≤ 1000000 ∧ P es
  | none => False
def kTup (Q : QR D) : QR (List D) := fun ds S => Pys ds fun es => Q (dT es) S
def kLst (Q : QR D) : QR (List D) := fun ds S => Pys ds fun es => Q (dL es) S
def kMut (Q : QR D) : QR (List D) := fun ds S => ds.length ≤ 1000000 ∧ Q (.loc S.length) (S ++ [.lst ds])
theorem kTup_0 : kTup Q [] S = Q (dT []) S := by simp [kTup, Pys]
theorem kTup_1 {a0 : PyData} : kTup Q [.py a0] S = Q (dT [a0]) S := by simp [kTup, Pys]
theorem kTup_2 {a0 a1 : PyData} : kTup Q [.py a0, .py a1] S = Q (dT [a0, a1]) S := by simp [kTup, Pys]
theorem kTup_3 {a0 a1 a2 : PyData} : kTup Q [.py a0, .py a1, .py a2] S = Q (dT [a0, a1, a2]) S := by simp [kTup, Pys]
theorem kTup_4 {a0 a1 a2 a3 : PyData} : kTup Q [.py a0, .py a1, .py a2, .py a3] S = Q (dT [a0, a1, a2, a3]) S := by simp [kTup, Pys]
theorem kTup_5 {a0 a1 a2 a3 a4 : PyData} : kTup Q [.py a0, .py a1, .py a2, .py a3, .py a4] S = Q (dT [a0, a1, a2, a3, a4]) S := by simp [kTup, Pys]
theorem kTup_6 {a0 a1 a2 a3 a4 a5 : PyData} : kTup Q [.py a0, .py a1, .py a2, .py a3, .py a4, .py a5] S = Q (dT [a0, a1, a2, a3, a4, a5]) S := by simp [kTup, Pys]
theorem kTup_7 {a0 a1 a2 a3 a4 a5 a6 : PyData} : kTup Q [.py a0, .py a1, .py a2, .py a3, .py a4, .py a5, .py a6] S = Q (dT [a0, a1, a2, a3, a4, a5, a6]) S := by simp [kTup, Pys]
theorem kTup_8 {a0 a1 a2 a3 a4 a5 a6 a7 : PyData} : kTup Q [.py a0, .py a1, .py a2, .py a3, .py a4, .py a5, .py a6, .py a7] S = Q (dT [a0, a1, a2, a3, a4, a5, a6, a7]) S := by simp [kTup, Pys]
theorem kLst_0 : kLst Q [] S = Q (dL []) S := by simp [kLst, Pys]
theorem kLst_1 {a0 : PyData} : kLst Q [.py a0] S = Q (dL [a0]) S := by simp [kLst, Pys]
theorem kLst_2 {a0 a1 : PyData} : kLst Q [.py a0, .py a1] S = Q (dL [a0, a1]) S := by simp [kLst, Pys]
theorem kLst_3 {a0 a1 a2 : PyData} : kLst Q [.py a0, .py a1, .py a2] S = Q (dL [a0, a1, a2]) S := by simp [kLst, Pys]
theorem kLst_4 {a0 a1 a2 a3 : PyData} : kLst Q [.py a0, .py a1, .py a2, .py a3] S = Q (dL [a0, a1, a2, a3]) S := by simp [kLst, Pys]
theorem kLst_5 {a0 a1 a2 a3 a4 : PyData} : kLst Q [.py a0, .py a1, .py a2, .py a3, .py a4] S = Q (dL [a0, a1, a2, a3, a4]) S := by simp [kLst, Pys]
theorem kLst_6 {a0 a1 a2 a3 a4 a5 : PyData} : kLst Q [.py a0, .py a1, .py a2, .py a3, .py a4, .py a5] S = Q (dL [a0, a1, a2, a3, a4, a5]) S := by simp [kLst, Pys]
theorem kLst_7 {a0 a1 a2 a3 a4 a5 a6 : PyData} : kLst Q [.py a0, .py a1, .py a2, .py a3, .py a4, .py a5, .py a6] S = Q (dL [a0, a1, a2, a3, a4, a5, a6]) S := by simp [kLst, Pys]
theorem kLst_8 {a0 a1 a2 a3 a4 a5 a6 a7 : PyData} : kLst Q [.py a0, .py a1, .py a2, .py a3, .py a4, .py a5, .py a6, .py a7] S = Q (dL [a0, a1, a2, a3, a4, a5, a6, a7]) S := by simp [kLst, Pys]
theorem kMut_w {ds : List D} : kMut Q ds S = (ds.length ≤ 1000000 ∧ Q (.loc S.length) (S ++ [.lst ds])) := nr rfl
theorem xTup_w : Go (xTup k env S) Q E = Go (k env S) (kTup Q) E := by
  rw [xTup_e, Go_bind]
  congr 1
  funext ds S1
  unfold kTup Pys
  cases pys ds with
  | none => rfl
  | some es =>
    simp only
    by_cases h : es.length ≤ 1000000
    · rw [if_pos h]; simp [h, Go_ok]
    · rw [if_neg h]; simp [h, Go_bad]
theorem xLst_w : Go (xLst k env S) Q E = Go (k env S) (kLst Q) E := by
  rw [xLst_e, Go_bind]
  congr 1
  funext ds S1
  unfold kLst Pys
  cases pys ds with
  | none => rfl
  | some es =>
    simp only
    by_cases h : es.length ≤ 1000000
    · rw [if_pos h]; simp [h, Go_ok]
    · rw [if_neg h]; simp [h, Go_bad]
theorem xMut_w : Go (xMut k env S) Q E = Go (k env S) (kMut Q) E := by
  rw [xMut_e, Go_bind]
  congr 1
  funext ds S1
  unfold kMut
  by_cases h : ds.length ≤ 1000000
  · rw [if_pos h]; simp [h, Go_ok]
  · rw [if_neg h]; simp [h, Go_bad]
def kCB (o : FX) (Q : QR D) (E : QX) : QR (List D) := fun ds S => Go (o ds S) Q E
theorem kCB_w {o : FX} {ds : List D} : kCB o Q E ds S = Go (o ds S) Q E := nr rfl
theorem xCB_w {o : FX} : Go (xCB o k env S) Q E = Go (k env S) (kCB o Q E) E := by rw [xCB_e, Go_bind]; rfl
def kCall (n : Nat) (fx : FX) (Q : QR D) (E : QX) : QR (List D) := fun ds S => ds.length = n ∧ Go (fx ds S) Q E
theorem kCall_w {n : Nat} {fx : FX} {ds : List D} : kCall n fx Q E ds S = (ds.length = n ∧ Go (fx ds S) Q E) := nr rfl
theorem xCall_w {n : Nat} {fx : FX} : Go (xCall n fx k env S) Q E = Go (k env S) (kCall n fx Q E) E := by
  rw [xCall_e, Go_bind]
  congr 1
  funext ds S1
  unfold kCall
  by_cases h : ds.length = n
  · rw [if_pos h]; simp [h]
  · rw [if_neg h]; simp [h, Go_bad]
/-- of an int alone -/
def Nt (d : D) (P : Int → Prop) : Prop := match d with
  | .py (.int i) => P i
  | _ => False
def kNeg (Q : QR D) : QR D := fun d S => Nt d fun i => Q (dI (-i)) S
theorem kNeg_w {i : Int} : kNeg Q (dI i) S = Q (dI (-i)) S := nr rfl
theorem xNeg_w : Go (xNeg fa env S) Q E = Go (fa env S) (kNeg Q) E := by
  rw [xNeg_e, Go_bind]
  congr 1
  funext d S1
  unfold kNeg Nt
  split <;> first | rfl | simp_all [Go_ok, Go_bad]
def kCh4 (o' : Op2) (fc : EX) (env : Envr) (y : D) (Q : QR D) (E : QX) : QR Bool := fun c S => Br c (Go (fc env S) (kB2 o' y Q E) E) (Q (dB false) S)
def kCh2 (o o' : Op2) (fc : EX) (env : Envr) (x : D) (Q : QR D) (E : QX) : QR D := fun y S => Go (o x y S) (kAsB (kCh4 o' fc env y Q E) E) E
def kCh1 (o o' : Op2) (fb fc : EX) (env : Envr) (Q : QR D) (E : QX) : QR D := fun x S => Go (fb env S) (kCh2 o o' fc env x Q E) E
theorem kCh1_w : kCh1 o o' fb fc env Q E d S = Go (fb env S) (kCh2 o o' fc env d Q E) E := nr rfl
theorem kCh2_w {y : D} : kCh2 o o' fc env d Q E y S = Go (o d y S) (kAsB (kCh4 o' fc env y Q E) E) E := nr rfl
theorem kCh4_t : kCh4 o' fc env d Q E true S = Go (fc env S) (kB2 o' d Q E) E := Br_t
theorem kCh4_f : kCh4 o' fc env d Q E false S = Q (dB false) S := Br_f
theorem xChain_w : Go (xChain o o' fa fb fc env S) Q E = Go (fa env S) (kCh1 o o' fb fc env Q E) E := by
  rw [xChain_e, Go_bind]; simp only [Go_bind, Go_Br, Go_ok]; rfl
theorem xNoPart_w {Q : QR (Option Int)} : Go (xNoPart env S) Q E = Q none S := nr rfl
def kPart (Q : QR (Option Int)) : QR D := fun d S => Nt d fun i => Q (some i) S
theorem kPart_w {Q : QR (Option Int)} {i : Int} : kPart Q (dI i) S = Q (some i) S := nr rfl
theorem xPart_w {Q : QR (Option Int)} : Go (xPart fa env S) Q E = Go (fa env S) (kPart Q) E := by
  rw [xPart_e, Go_bind]
  congr 1
  funext d S1
  unfold kPart Nt
  split <;> first | rfl | simp_all [Go_ok, Go_bad]
def kSl3 (d : D) (lo : Option Int) (Q : QR D) (E : QX) : QR (Option Int) := fun hi S => Go (dSl d lo hi S) Q E
def kSl2 (h : OX) (env : Envr) (d : D) (Q : QR D) (E : QX) : QR (Option Int) := fun lo S => Go (h env S) (kSl3 d lo Q E) E
def kSl1 (l h : OX) (env : Envr) (Q : QR D) (E : QX) : QR D := fun d S => Go (l env S) (kSl2 h env d Q E) E
theorem kSl1_w {l h : OX} : kSl1 l h env Q E d S = Go (l env S) (kSl2 h env d Q E) E := nr rfl
theorem kSl2_w {h : OX} {lo : Option Int} : kSl2 h env d Q E lo S = Go (h env S) (kSl3 d lo Q E) E := nr rfl
theorem kSl3_w {lo hi : Option Int} : kSl3 d lo Q E hi S = Go (dSl d lo hi S) Q E := nr rfl
theorem xSl_w {l h : OX} : Go (xSl fa l h env S) Q E = Go (fa env S) (kSl1 l h env Q E) E := by
  rw [xSl_e, Go_bind]; simp only [Go_bind]; rfl
def kIsi (T : String) (Q : QR D) : QR D := fun d S => match tyD S d with
  | some t => Q (dB (isTy T t)) S
  | none => False
theorem kIsi_int_NoneType : kIsi "int" Q dN S = Q (dB false) S := nr rfl
theorem kIsi_int_bool {b : Bool} : kIsi "int" Q (dB b) S = Q (dB true) S := nr rfl
theorem kIsi_int_int {i : Int} : kIsi "int" Q (dI i) S = Q (dB true) S := nr rfl
theorem kIsi_int_str {z : Str} : kIsi "int" Q (dS z) S = Q (dB false) S := nr rfl
theorem kIsi_int_list {xs : List PyData} : kIsi "int" Q (dL xs) S = Q (dB false) S := nr rfl
theorem kIsi_int_tuple {xs : List PyData} : kIsi "int" Q (dT xs) S = Q (dB false) S := nr rfl
theorem kIsi_bool_NoneType : kIsi "bool" Q dN S = Q (dB false) S := nr rfl
theorem kIsi_bool_bool {b : Bool} : kIsi "bool" Q (dB b) S = Q (dB true) S := nr rfl
theorem kIsi_bool_int {i : Int} : kIsi "bool" Q (dI i) S = Q (dB false) S := nr rfl
theorem kIsi_bool_str {z : Str} : kIsi "bool" Q (dS z) S = Q (dB false) S := nr rfl
theorem kIsi_bool_list {xs : List PyData} : kIsi "bool" Q (dL xs) S = Q (dB false) S := nr rfl
theorem kIsi_bool_tuple {xs : List PyData} : kIsi "bool" Q (dT xs) S = Q (dB false) S := nr rfl
theorem kIsi_tuple_NoneType : kIsi "tuple" Q dN S = Q (dB false) S := nr rfl
theorem kIsi_tuple_bool {b : Bool} : kIsi "tuple" Q (dB b) S = Q (dB false) S := nr rfl
theorem kIsi_tuple_int {i : Int} : kIsi "tuple" Q (dI i) S = Q (dB false) S := nr rfl
theorem kIsi_tuple_str {z : Str} : kIsi "tuple" Q (dS z) S = Q (dB false) S := nr rfl
theorem kIsi_tuple_list {xs : List PyData} : kIsi "tuple" Q (dL xs) S = Q (dB false) S := nr rfl
theorem kIsi_tuple_tuple {xs : List PyData} : kIsi "tuple" Q (dT xs) S = Q (dB true) S := nr rfl
theorem kIsi_list_NoneType : kIsi "list" Q dN S = Q (dB false) S := nr rfl
theorem kIsi_list_bool {b : Bool} : kIsi "list" Q (dB b) S = Q (dB false) S := nr rfl
theorem kIsi_list_int {i : Int} : kIsi "list" Q (dI i) S = Q (dB false) S := nr rfl
theorem kIsi_list_str {z : Str} : kIsi "list" Q (dS z) S = Q (dB false) S := nr rfl
theorem kIsi_list_list {xs : List PyData} : kIsi "list" Q (dL xs) S = Q (dB true) S := nr rfl
theorem kIsi_list_tuple {xs : List PyData} : kIsi "list" Q (dT xs) S = Q (dB false) S := nr rfl
theorem kIsi_str_NoneType : kIsi "str" Q dN S = Q (dB false) S := nr rfl
theorem kIsi_str_bool {b : Bool} : kIsi "str" Q (dB b) S = Q (dB false) S := nr rfl
theorem kIsi_str_int {i : Int} : kIsi "str" Q (dI i) S = Q (dB false) S := nr rfl
theorem kIsi_str_str {z : Str} : kIsi "str" Q (dS z) S = Q (dB true) S := nr rfl
theorem kIsi_str_list {xs : List PyData} : kIsi "str" Q (dL xs) S = Q (dB false) S := nr rfl
theorem kIsi_str_tuple {xs : List PyData} : kIsi "str" Q (dT xs) S = Q (dB false) S := nr rfl
theorem kIsi_loc {n : Nat} {xs : List D} {T : String} (h : S[n]? = some (.lst xs)) : kIsi T Q (.loc n) S = Q (dB (isTy T "list")) S := by
  unfold kIsi tyD
  simp only [h]
theorem xIsi_w {T : String} : Go (xIsi T fa env S) Q E = Go (fa env S) (kIsi T Q) E := by
  unfold xIsi kIsi
  rw [Go_bind]
  congr 1
  funext d S1
  split <;> first | rfl | simp_all [Go_ok, Go_bad]
def kBM2 (m : MX) (d : D) (Q : QR D) (E : QX) : QR (List D) := fun ds S => Go (m d ds S) Q E
def kBM (T : String) (m : MX) (k : AX) (env : Envr) (Q : QR D) (E : QX) : QR D := fun d S => tyD S d = some T ∧ Go (k env S) (kBM2 m d Q E) E
theorem kBM2_w {m : MX} {ds : List D} : kBM2 m d Q E ds S = Go (m d ds S) Q E := nr rfl
theorem kBM_w {T : String} {m : MX} : kBM T m k env Q E d S = (tyD S d = some T ∧ Go (k env S) (kBM2 m d Q E) E) := nr rfl
theorem xBM_w {T : String} {m : MX} : Go (xBM T m fa k env S) Q E = Go (fa env S) (kBM T m k env Q E) E := by
  unfold xBM
  rw [Go_bind]
  congr 1
  funext d S1
  unfold kBM kBM2
  by_cases h : tyD S1 d = some T
  · rw [if_pos h]; simp [h, Go_bind]
  · rw [if_neg h]; simp [h, Go_bad]
theorem tyD_L {xs : List PyData} : (tyD S (dL xs) = some "list") = True := by simp [tyD, tyOf]
/-! operations -/
theorem Go_ifb {α : Type} {c : Prop} [Decidable c] {r : Res α} {Q : QR α} : Go (if c then r else .bad) Q E = (c ∧ Go r Q E) := by
  by_cases h : c
  · rw [if_pos h]; simp [h]
  · rw [if_neg h]; simp [h, Go_bad]
variable {i j : Int} {xs ys : List PyData}
theorem dAdd_w : Go (dAdd (dI i) (dI j) S) Q E = Q (dI (i + j)) S := nr rfl
theorem dSub_w : Go (dSub (dI i) (dI j) S) Q E = Q (dI (i - j)) S := nr rfl
theorem dMul_w : Go (dMul (dI i) (dI j) S) Q E = (((-(2 ^ 64) < i ∧ i < 2 ^ 64) ∨ (-(2 ^ 64) < j ∧ j < 2 ^ 64)) ∧ Q (dI (i * j)) S) := by rw [dMul_e, Go_ifb, Go_ok]
theorem dDiv_w : Go (dDiv (dI i) (dI j) S) Q E = ((0 < j ∧ j < 1073741824) ∧ Q (dI (i / j)) S) := by rw [dDiv_e, Go_ifb, Go_ok]
theorem dMod_w : Go (dMod (dI i) (dI j) S) Q E = (0 < j ∧ Q (dI (i % j)) S) := by rw [dMod_e, Go_ifb, Go_ok]
theorem dPow_w : Go (dPow (dI i) (dI j) S) Q E = ((0 ≤ j ∧ j ≤ 1000000 ∧ i.natAbs < 2 ^ 64) ∧ Q (dI (i ^ j.toNat)) S) := by rw [dPow_e, Go_ifb, Go_ok]
theorem dCmp_w {p : Int → Int → Bool} : Go (dCmp p (dI i) (dI j) S) Q E = Q (dB (p i j)) S := nr rfl
theorem dEqI_w : Go (dEq (dI i) (dI j) S) Q E = Q (dB (decide (i = j))) S := by
  unfold dEq
  simp only [toPy]
  rw [if_pos ⟨by rfl, by rfl⟩, Go_ok]
  have : PyData.eqv (.int i) (.int j) = decide (i = j) := by
    simp only [PyData.eqv]
    rfl
  rw [this]
theorem dNeI_w : Go (dNe (dI i) (dI j) S) Q E = Q (dB (!decide (i = j))) S := by
  unfold dNe
  simp only [toPy]
  rw [if_pos ⟨by rfl, by rfl⟩, Go_ok]
  have : PyData.eqv (.int i) (.int j) = decide (i = j) := by
    simp only [PyData.eqv]
    rfl
  rw [this]
theorem dEqS_w {a b : Str} : Go (dEq (dS a) (dS b) S) Q E = Q (dB (a == b)) S := nr rfl
theorem dNeS_w {a b : Str} : Go (dNe (dS a) (dS b) S) Q E = Q (dB (!(a == b))) S := nr rfl
theorem dAddT_w : Go (dAdd (dT xs) (dT ys) S) Q E = (xs.length + ys.length ≤ 1000000 ∧ Q (dT (xs ++ ys)) S) := by rw [dAddT_e, Go_ifb, Go_ok]
theorem dAddL_w : Go (dAdd (dL xs) (dL ys) S) Q E = (xs.length + ys.length ≤ 1000000 ∧ Q (dL (xs ++ ys)) S) := by rw [dAddL_e, Go_ifb, Go_ok]
theorem dAddS_w {a b : Str} : Go (dAdd (dS a) (dS b) S) Q E = (a.length + b.length ≤ 1000000 ∧ Q (dS (a ++ b)) S) := by
  unfold dAdd
  rw [Go_ifb, Go_ok]
theorem dIsN_w : Go (dIs d dN S) Q E = Q (dB (isN d)) S := nr rfl
theorem dIsNotN_w : Go (dIsNot d dN S) Q E = Q (dB (!isN d)) S := nr rfl
theorem isN_n : isN dN = true := nr rfl
theorem isN_i : isN (dI i) = false := nr rfl
theorem isN_t : isN (dT xs) = false := nr rfl
/-! calls -/
theorem fLenL_w : Go (fLen [dL xs] S) Q E = Q (dI xs.length) S := by rw [fLenL_e, Go_ok]
theorem fLenT_w : Go (fLen [dT xs] S) Q E = Q (dI xs.length) S := by rw [fLenT_e, Go_ok]
theorem fAbs_w : Go (fAbs [dI i] S) Q E = Q (dI (if i < 0 then -i else i)) S := nr rfl
theorem fIntB_w {b : Bool} : Go (fInt [dB b] S) Q E = Q (dI (if b = true then 1 else 0)) S := nr rfl
theorem fMax2_w : Go (fMax2 [dI i, dI j] S) Q E = Q (dI (if j > i then j else i)) S := nr rfl
theorem fMin2_w : Go (fMin2 [dI i, dI j] S) Q E = Q (dI (if j < i then j else i)) S := nr rfl
variable {is : List Int}
theorem fMax_w : Go (fMax [dL (is.map .int)] S) Q E = (is ≠ [] ∧ Q (dI (maxI is)) S) := by rw [fMax_e, Go_ifb, Go_ok]
theorem fMin_w : Go (fMin [dL (is.map .int)] S) Q E = (is ≠ [] ∧ Q (dI (minI is)) S) := by rw [fMin_e, Go_ifb, Go_ok]
theorem fSum_w : Go (fSum [dL (is.map .int)] S) Q E = Q (dI is.sum) S := by rw [fSum_e, Go_ok]
theorem fSort_w : Go (fSort [dL (is.map .int)] S) Q E = Q (dL ((sortI is).map .int)) S := by rw [fSort_e, Go_ok]
theorem fSSet_w : Go (fSSet [dL (is.map .int)] S) Q E = (is.length < 64 ∧ Q (dL ((asc is).map .int)) S) := by rw [fSSet_e, Go_ifb, Go_ok]
theorem intT_py : intT S [dT (is.map .int)] = some is := by
  show intsD ((is.map PyData.int).map D.py) = _
  exact intsD_map2 is
theorem fSortT_w : Go (fSort [dT (is.map .int)] S) Q E = (is.length ≤ 1000000 ∧ Q (dL ((sortI is).map .int)) S) := by
  have e1 : intL S [dT (is.map .int)] = none := rfl
  unfold fSort
  simp only [e1, intT_py]
  rw [Go_ifb, Go_ok]
theorem fSSetT_w : Go (fSSet [dT (is.map .int)] S) Q E = (is.length < 64 ∧ Q (dL ((asc is).map .int)) S) := by
  have e1 : intL S [dT (is.map .int)] = none := rfl
  unfold fSSet
  simp only [e1, intT_py]
  rw [Go_ifb, Go_ok]
theorem boolsD_map {bs : List Bool} : boolsD (bs.map fun b => D.py (.bool b)) = some bs := by
  induction bs with
  | nil => rfl
  | cons b r ih => rw [List.map_cons]; unfold boolsD; rw [ih]; rfl
theorem fAll_w {bs : List Bool} : Go (fAll [dL (bs.map .bool)] S) Q E = Q (dB (bs.all id)) S := by
  unfold fAll
  simp only [seqOf, List.map_map]
  have : ((D.py ∘ PyData.bool) : Bool → D) = fun b => D.py (.bool b) := rfl
  rw [this, boolsD_map]
  rfl
theorem fTupleT_w : Go (fTuple [dT xs] S) Q E = Q (dT xs) S := nr rfl
theorem fTupleL_w : Go (fTuple [dL xs] S) Q E = Q (dT xs) S := by rw [fTupleL_e, Go_ok]
theorem fListL_w : Go (fList [dL xs] S) Q E = Q (dL xs) S := by rw [fListL_e, Go_ok]
theorem fListT_w : Go (fList [dT xs] S) Q E = Q (dL xs) S := by rw [fListT_e, Go_ok]
theorem fRgT_w : Go (fRgT [dI i] S) Q E = ((i ≤ 1000000 ∧ -1000000 ≤ i) ∧ Q (dT ((rgI 0 i).map .int)) S) := by rw [fRgT_e, Go_ifb, Go_ok]
theorem fRgL_w : Go (fRgL [dI i] S) Q E = ((i ≤ 1000000 ∧ -1000000 ≤ i) ∧ Q (dL ((rgI 0 i).map .int)) S) := by rw [fRgL_e, Go_ifb, Go_ok]
theorem fRgM_w : Go (fRgM [dI i] S) Q E = ((i ≤ 1000000 ∧ -1000000 ≤ i) ∧ Q (.loc S.length) (S ++ [.lst ((rgI 0 i).map fun i => .py (.int i))])) := by rw [fRgM_e, Go_ifb, Go_ok]
theorem fRepr_w {d : PyData} (h : reprOk d) : Go (fRepr [.py d] S) Q E = Q (dS d.shown) S := by
  unfold fRepr
  simp only [toPy]
  rw [if_pos h, Go_ok]
/-! items -/
theorem ixL_w {v : PyData} (h0 : 0 ≤ i) (h : xs[i.toNat]? = some v) : Go (dIxD (dL xs) (dI i) S) Q E = Q (.py v) S := by rw [ixL h0 h, Go_ok]
theorem ixT_w {v : PyData} (h0 : 0 ≤ i) (h : xs[i.toNat]? = some v) : Go (dIxD (dT xs) (dI i) S) Q E = Q (.py v) S := by rw [ixT h0 h, Go_ok]
theorem ixM_w {xs : List D} {n : Nat} {v : D} (hS : S[n]? = some (.lst xs)) (h0 : 0 ≤ i) (h : xs[i.toNat]? = some v) : Go (dIxD (.loc n) (dI i) S) Q E = Q v S := by rw [ixM hS h0 h, Go_ok]
theorem ixT0_w {x : PyData} {r : List PyData} : Go (dIxD (dT (x :: r)) (dI 0) S) Q E = Q (.py x) S := by rw [ixT0, Go_ok]
theorem ixT1_w {x y : PyData} {r : List PyData} : Go (dIxD (dT (x :: y :: r)) (dI 1) S) Q E = Q (.py y) S := by rw [ixT01, Go_ok]
theorem ixL0_w {x : PyData} {r : List PyData} : Go (dIxD (dL (x :: r)) (dI 0) S) Q E = Q (.py x) S := by rw [ixL0, Go_ok]
theorem ixL1_w {x y : PyData} {r : List PyData} : Go (dIxD (dL (x :: y :: r)) (dI 1) S) Q E = Q (.py y) S := by rw [ixL01, Go_ok]
/-- an item of ints -/
theorem ixLi_w (h : 0 ≤ i ∧ i < is.length) : Go (dIxD (dL (is.map .int)) (dI i) S) Q E = Q (dI (is.getD i.toNat 0)) S := by
  have hi : i.toNat < is.length := by omega
  rw [ixLi h.1 (List.getElem?_eq_getElem hi), Go_ok, List.getD_eq_getElem?_getD, List.getElem?_eq_getElem hi]
  rfl
theorem ixTi_w (h : 0 ≤ i ∧ i < is.length) : Go (dIxD (dT (is.map .int)) (dI i) S) Q E = Q (dI (is.getD i.toNat 0)) S := by
  have hi : i.toNat < is.length := by omega
  rw [ixTi h.1 (List.getElem?_eq_getElem hi), Go_ok, List.getD_eq_getElem?_getD, List.getElem?_eq_getElem hi]
  rfl
/-! slices -/
variable {lo hi : Option Int}
theorem slT_w : Go (dSl (dT xs) lo hi S) Q E = Q (dT (cutD xs lo hi)) S := nr rfl
theorem slL_w : Go (dSl (dL xs) lo hi S) Q E = Q (dL (cutD xs lo hi)) S := by rw [slL_e, Go_ok]
end
/-! ### statements -/
def sk (b : SX) (Q : QR Fl) (E : QX) : QR Fl := fun fl S => match fl with
  | .nx env => Go (b env S) Q E
  | fl => Q fl S
/-- the end of a body -/
def bk (Q : QR D) : QR Fl := fun fl S => match fl with
  | .rt d => Q d S
  | .nx _ => Q dN S
  | _ => False
def bkX (Q : QR D) (E : QX) : QR Fl := fun fl S => match fl with
  | .rt d => Q d S
  | .nx _ => Q dN S
  | .xc x _ => E x S
  | _ => False
def kNx (Q : QR Fl) (S : Sto) (env : Envr) : Prop := Q (.nx env) S
def kEx (Q : QR Fl) (env : Envr) : QX := fun x S => Q (.xc x env) S
section
variable {Q : QR Fl} {E : QX} {env : Envr} {S : Sto} {d : D} {m m1 m2 : SX} {f : EX} {t : TX} {x : Xc}
theorem kNx_w : kNx Q S env = Q (.nx env) S := nr rfl
theorem kEx_w : kEx Q env x S = Q (.xc x env) S := nr rfl
theorem sk_nx : sk m Q E (.nx env) S = Go (m env S) Q E := nr rfl
theorem sk_rt : sk m Q E (.rt d) S = Q (.rt d) S := nr rfl
theorem sk_bk : sk m Q E (.bk env) S = Q (.bk env) S := nr rfl
theorem sk_ct : sk m Q E (.ct env) S = Q (.ct env) S := nr rfl
theorem sk_xc : sk m Q E (.xc x env) S = Q (.xc x env) S := nr rfl
theorem bk_rt {Q : QR D} : bk Q (.rt d) S = Q d S := nr rfl
theorem bk_nx {Q : QR D} : bk Q (.nx env) S = Q dN S := nr rfl
theorem bkX_rt {Q : QR D} : bkX Q E (.rt d) S = Q d S := nr rfl
theorem bkX_nx {Q : QR D} : bkX Q E (.nx env) S = Q dN S := nr rfl
theorem bkX_xc {Q : QR D} : bkX Q E (.xc x env) S = E x S := nr rfl
theorem xSeq_w : Go (xSeq m1 m2 env S) Q E = Go (m1 env S) (sk m2 Q E) E := by
  rw [xSeq_e]
  cases m1 env S with
  | ok fl S1 => cases fl <;> rfl
  | exc x S1 => rfl
  | bad => rfl
theorem xPass_w : Go (xPass env S) Q E = Q (.nx env) S := nr rfl
theorem xBrk_w : Go (xBrk env S) Q E = Q (.bk env) S := nr rfl
theorem xCnt_w : Go (xCnt env S) Q E = Q (.ct env) S := nr rfl
def kDrop (env : Envr) (Q : QR Fl) : QR D := fun _ S => Q (.nx env) S
theorem kDrop_w : kDrop env Q d S = Q (.nx env) S := nr rfl
theorem xDrop_w : Go (xDrop f env S) Q E = Go (f env S) (kDrop env Q) (kEx Q env) := by rw [xDrop_e, Go_bindX]; simp only [Go_ok]; rfl
def kRet (Q : QR Fl) : QR D := fun d S => Q (.rt d) S
theorem kRet_w : kRet Q d S = Q (.rt d) S := nr rfl
theorem xRet_w : Go (xRet f env S) Q E = Go (f env S) (kRet Q) (kEx Q env) := by rw [xRet_e, Go_bindX]; simp only [Go_ok]; rfl
theorem xRetN_w : Go (xRetN env S) Q E = Q (.rt dN) S := nr rfl
def kIf (m1 m2 : SX) (env : Envr) (Q : QR Fl) (E : QX) : QR Bool := fun c S => Br c (Go (m1 env S) Q E) (Go (m2 env S) Q E)
theorem kIf_t : kIf m1 m2 env Q E true S = Go (m1 env S) Q E := Br_t
theorem kIf_f : kIf m1 m2 env Q E false S = Go (m2 env S) Q E := Br_f
theorem xIfS_w : Go (xIfS t m1 m2 env S) Q E = Go (t env S) (kIf m1 m2 env Q E) (kEx Q env) := by rw [xIfS_e, Go_bindX]; simp only [Go_Br]; rfl
def kSet (i : Nat) (env : Envr) (Q : QR Fl) : QR D := fun d S => Q (.nx (env.set i (some d))) S
theorem kSet_w {i : Nat} : kSet i env Q d S = Q (.nx (env.set i (some d))) S := nr rfl
theorem xSet_w {i : Nat} : Go (xSet i f env S) Q E = Go (f env S) (kSet i env Q) (kEx Q env) := by rw [xSet_e, Go_bindX]; simp only [Go_ok]; rfl
/-- a target takes a value -/
def Bd (S : Sto) (tg : Tg) (d : D) (env : Envr) (P : Envr → Prop) : Prop := match bindT S tg d env with
  | some env1 => P env1
  | none => False
theorem Bd.ex {tg : Tg} {P : Envr → Prop} (h : Bd S tg d env P) : ∃ env1, bindT S tg d env = some env1 ∧ P env1 := by
  unfold Bd at h
  cases e : bindT S tg d env with
  | none => rw [e] at h; exact h.elim
  | some env1 => rw [e] at h; exact ⟨env1, rfl, h⟩
def kBd (S : Sto) (tg : Tg) (d : D) (P : Envr → Prop) (env : Envr) : Prop := Bd S tg d env P
theorem kBd_w {tg : Tg} {P : Envr → Prop} : kBd S tg d P env = Bd S tg d env P := nr rfl
theorem Bd_nm {i : Nat} {P : Envr → Prop} : Bd S (.nm i) d env P = P (env.set i (some d)) := nr rfl
theorem Bd_tp {t1 t2 : Tg} {x y : PyData} {P : Envr → Prop} : Bd S (.tp [t1, t2]) (dT [x, y]) env P = Bd S t1 (.py x) env (kBd S t2 (.py y) P) := by
  unfold Bd
  rw [bind2_e]
  cases bindT S t1 (.py x) env with
  | none => rfl
  | some e1 => rfl
theorem Bd_tp3 {t1 t2 t3 : Tg} {x y z : PyData} {P : Envr → Prop} : Bd S (.tp [t1, t2, t3]) (dT [x, y, z]) env P = Bd S t1 (.py x) env (kBd S (.tp [t2, t3]) (dT [y, z]) P) := by
  unfold Bd kBd Bd
  have e : bindT S (.tp [t1, t2, t3]) (dT [x, y, z]) env = bindTs S [t1, t2, t3] [.py x, .py y, .py z] env := rfl
  rw [e]
  unfold bindTs
  cases bindT S t1 (.py x) env with
  | none => rfl
  | some e1 => rfl
def kAsg (tg : Tg) (env : Envr) (Q : QR Fl) : QR D := fun d S => Bd S tg d env (kNx Q S)
theorem kAsg_w {tg : Tg} : kAsg tg env Q d S = Bd S tg d env (kNx Q S) := nr rfl
theorem xAsg_w {tg : Tg} : Go (xAsg tg f env S) Q E = Go (f env S) (kAsg tg env Q) (kEx Q env) := by
  rw [xAsg_e, Go_bindX]
  congr 1
  funext d S1
  unfold kAsg Bd kNx
  split <;> first | rfl | simp_all [Go_ok, Go_bad]
def kPar (i j : Nat) (env : Envr) (Q : QR Fl) : QR (List D) := fun ds S => match ds with
  | [d, e] => Q (.nx ((env.set i (some d)).set j (some e))) S
  | _ => False
def kPar3 (i j l : Nat) (env : Envr) (Q : QR Fl) : QR (List D) := fun ds S => match ds with
  | [d, e, f] => Q (.nx (((env.set i (some d)).set j (some e)).set l (some f))) S
  | _ => False
theorem kPar_w {i j : Nat} {d e : D} : kPar i j env Q [d, e] S = Q (.nx ((env.set i (some d)).set j (some e))) S := nr rfl
theorem kPar3_w {i j l : Nat} {d e f : D} : kPar3 i j l env Q [d, e, f] S = Q (.nx (((env.set i (some d)).set j (some e)).set l (some f))) S := nr rfl
theorem xPar_w {i j : Nat} {k : AX} : Go (xPar i j k env S) Q E = Go (k env S) (kPar i j env Q) (kEx Q env) := by
  unfold xPar
  rw [Go_bindX]
  congr 1
  funext ds S1
  unfold kPar
  split <;> first | rfl | simp_all [Go_ok, Go_bad]
theorem xPar3_w {i j l : Nat} {k : AX} : Go (xPar3 i j l k env S) Q E = Go (k env S) (kPar3 i j l env Q) (kEx Q env) := by
  unfold xPar3
  rw [Go_bindX]
  congr 1
  funext ds S1
  unfold kPar3
  split <;> first | rfl | simp_all [Go_ok, Go_bad]
/-- a store into an object -/
def kSto3 (o v : D) (env : Envr) (Q : QR Fl) : QR D := fun i S => match dSetL o i v S with
  | some S' => Q (.nx env) S'
  | none => False
def kSto2 (fi : EX) (v : D) (env : Envr) (Q : QR Fl) : QR D := fun o S => Go (fi env S) (kSto3 o v env Q) (kEx Q env)
def kSto1 (fo fi : EX) (env : Envr) (Q : QR Fl) : QR D := fun v S => Go (fo env S) (kSto2 fi v env Q) (kEx Q env)
theorem kSto1_w {fo fi : EX} : kSto1 fo fi env Q d S = Go (fo env S) (kSto2 fi d env Q) (kEx Q env) := nr rfl
theorem kSto2_w {fi : EX} {v : D} : kSto2 fi v env Q d S = Go (fi env S) (kSto3 d v env Q) (kEx Q env) := nr rfl
theorem kSto3_w {o v : D} {i : D} {S' : Sto} (h : dSetL o i v S = some S') : kSto3 o v env Q i S = Q (.nx env) S' := by
  unfold kSto3
  rw [h]
theorem xStore_w {fo fi fe : EX} : Go (xStore fo fi fe env S) Q E = Go (fe env S) (kSto1 fo fi env Q) (kEx Q env) := by
  unfold xStore
  rw [Go_bindX]
  congr 1
  funext v S1
  rw [Go_bindX]
  unfold kSto1
  congr 1
  funext o S2
  rw [Go_bindX]
  unfold kSto2
  congr 1
  funext i S3
  unfold kSto3
  split <;> first | rfl | simp_all [Go_ok, Go_bad]
def kFor (tg : Tg) (m : SX) (env : Envr) (Q : QR Fl) (E : QX) : QR (List D × Option (Nat × List D)) := fun p S => Go (forL tg m p.2 p.1 env S) Q E
theorem kFor_w {tg : Tg} {xs : List D} {o : Option (Nat × List D)} : kFor tg m env Q E (xs, o) S = Go (forL tg m o xs env S) Q E := nr rfl
theorem xFor_w {ix : IX} {tg : Tg} : Go (xFor ix tg m env S) Q E = Go (ix env S) (kFor tg m env Q E) (kEx Q env) := by rw [xFor_e, Go_bindX]; rfl
theorem xBody_w {n : Nat} {ds : List D} {Q : QR D} : Go (xBody n m ds S) Q E = Go (m (env0 n ds) S) (bk Q) nE := by
  unfold xBody
  cases m (env0 n ds) S with
  | ok fl S1 => cases fl <;> rfl
  | exc x S1 => rfl
  | bad => rfl
theorem xBodyX_w {n : Nat} {ds : List D} {Q : QR D} : Go (xBodyX n m ds S) Q E = Go (m (env0 n ds) S) (bkX Q E) nE := by
  unfold xBodyX
  cases m (env0 n ds) S with
  | ok fl S1 => cases fl <;> rfl
  | exc x S1 => rfl
  | bad => rfl
/-! iterables -/
abbrev QI := QR (List D × Option (Nat × List D))
def kIt (Q : QI) (E : QX) : QR D := fun d S => Go (iSeq d S) Q E
def kRv (Q : QI) (E : QX) : QR D := fun d S => Go (iRev d S) Q E
def kIx (o : List D → Sto → Res (List D × Option (Nat × List D))) (Q : QI) (E : QX) : QR (List D) := fun ds S => Go (o ds S) Q E
variable {k : AX} {Qi : QI} {i j : Int} {xs ys : List PyData} {ns : List Int}
theorem kIt_w : kIt Qi E d S = Go (iSeq d S) Qi E := nr rfl
theorem kRv_w : kRv Qi E d S = Go (iRev d S) Qi E := nr rfl
theorem kIx_w {o : List D → Sto → Res (List D × Option (Nat × List D))} {ds : List D} : kIx o Qi E ds S = Go (o ds S) Qi E := nr rfl
theorem xIt_w : Go (xIt f env S) Qi E = Go (f env S) (kIt Qi E) E := by rw [xIt_e, Go_bind]; rfl
theorem xRg1_w : Go (xRg1 k env S) Qi E = Go (k env S) (kIx iR1 Qi E) E := by rw [xRg1_e, Go_bind]; rfl
theorem xRg2_w : Go (xRg2 k env S) Qi E = Go (k env S) (kIx iR2 Qi E) E := by rw [xRg2_e, Go_bind]; rfl
theorem xRg3_w : Go (xRg3 k env S) Qi E = Go (k env S) (kIx iR3 Qi E) E := by rw [xRg3_e, Go_bind]; rfl
theorem xZip_w : Go (xZip k env S) Qi E = Go (k env S) (kIx iZip Qi E) E := by rw [xZip_e, Go_bind]; rfl
theorem xEnm_w : Go (xEnm k env S) Qi E = Go (k env S) (kIx iEnm Qi E) E := by rw [xEnm_e, Go_bind]; rfl
theorem xEnB_w : Go (xEnB k env S) Qi E = Go (k env S) (kIx iEnB Qi E) E := by unfold xEnB; rw [Go_bind]; rfl
theorem xRev_w : Go (xRev f env S) Qi E = Go (f env S) (kRv Qi E) E := by rw [xRev_e, Go_bind]; rfl
theorem iR1_w : Go (iR1 [dI i] S) Qi E = ((-1000000000 ≤ i ∧ i ≤ 1000000000) ∧ Qi ((rgI 0 i).map fun i => .py (.int i), none) S) := by rw [iR1_e, Go_ifb, Go_ok]
theorem iR2_w : Go (iR2 [dI i, dI j] S) Qi E = (((-1000000000 ≤ i ∧ i ≤ 1000000000) ∧ -1000000000 ≤ j ∧ j ≤ 1000000000) ∧ Qi ((rgI i j).map fun i => .py (.int i), none) S) := by rw [iR2_e, Go_ifb, Go_ok]
theorem iSeqL_w : Go (iSeq (dL xs) S) Qi E = Qi (xs.map .py, none) S := nr rfl
theorem iSeqT_w : Go (iSeq (dT xs) S) Qi E = Qi (xs.map .py, none) S := nr rfl
theorem iSeqS_w : Go (iSeq (.scr ns) S) Qi E = Qi (ns.map fun i => .py (.int i), none) S := nr rfl
theorem iSeqM_w {n : Nat} {xs : List D} (h : S[n]? = some (.lst xs)) : Go (iSeq (.loc n) S) Qi E = Qi (xs, some (n, xs)) S := by rw [iSeqM h, Go_ok]
theorem iZipT_w (h : zOk xs ys = true) : Go (iZip [dT xs, dT ys] S) Qi E = Qi ((List.zipWith pairP xs ys).map .py, none) S := by rw [iZipT_e h]; rfl
theorem iZipL_w (h : zOk xs ys = true) : Go (iZip [dL xs, dL ys] S) Qi E = Qi ((List.zipWith pairP xs ys).map .py, none) S := by rw [iZipL_e h]; rfl
end
/-! ### loops -/
/-- what the rest of a for wants of a body's end: I of the next turn, else Q -/
def lk (I : Envr → Sto → Prop) (Q : QR Fl) : QR Fl := fun fl S => match fl with
  | .nx env => I env S
  | .ct env => I env S
  | .bk env => Q (.nx env) S
  | fl => Q fl S
section
variable {I : Envr → Sto → Prop} {Q : QR Fl} {E : QX} {env : Envr} {S : Sto} {d : D} {x : Xc} {tg : Tg} {m : SX} {t : TX}
theorem lk_nx : lk I Q (.nx env) S = I env S := nr rfl
theorem lk_ct : lk I Q (.ct env) S = I env S := nr rfl
theorem lk_bk : lk I Q (.bk env) S = Q (.nx env) S := nr rfl
theorem lk_rt : lk I Q (.rt d) S = Q (.rt d) S := nr rfl
theorem lk_xc : lk I Q (.xc x env) S = Q (.xc x env) S := nr rfl
/-- a for over things that do not change; J by what is done -/
theorem for_go {α : Type} (c : α → D) (J : List α → Envr → Sto → Prop) : ∀ (ys pre : List α) (env : Envr) (S : Sto), J pre env S →
    (∀ a y b env S, pre ++ ys = a ++ y :: b → J a env S → Bd S tg (c y) env fun env1 => Go (m env1 S) (lk (J (a ++ [y])) Q) E) →
    (∀ env S, J (pre ++ ys) env S → Q (.nx env) S) →
    Go (forL tg m none (ys.map c) env S) Q E
  | [], pre, env, S, h0, _, hq => by
    rw [List.map_nil]
    unfold forL
    rw [if_pos (by trivial), Go_ok]
    exact hq env S (by rw [List.append_nil]; exact h0)
  | y :: ys, pre, env, S, h0, H, hq => by
    have h1 := H pre y ys env S rfl h0
    have hrec := fun env2 S1 (h : J (pre ++ [y]) env2 S1) => for_go c J ys (pre ++ [y]) env2 S1 h (fun a z b env S hz => H a z b env S (by rw [← hz]; simp)) (fun env S h => hq env S (by rw [List.append_assoc] at h; exact h))
    rw [List.map_cons]
    unfold forL
    rw [if_pos (by trivial)]
    obtain ⟨env1, e1, h1⟩ := h1.ex
    rw [e1]
    simp only
    cases e2 : m env1 S with
    | ok fl S1 =>
      rw [e2] at h1
      cases fl with
      | nx env2 => exact hrec env2 S1 h1
      | ct env2 => exact hrec env2 S1 h1
      | bk env2 => exact h1
      | rt d => exact h1
      | xc x env2 => exact h1
    | exc x S1 => rw [e2] at h1; exact h1
    | bad => rw [e2] at h1; exact h1
/-- the same, J by the number that is left -/
theorem for_left {α : Type} (c : α → D) (J : Nat → Envr → Sto → Prop) {ys : List α} (h0 : J ys.length env S)
    (H : ∀ y ∈ ys, ∀ j env S, J (j + 1) env S → Bd S tg (c y) env fun env1 => Go (m env1 S) (lk (J j) Q) E)
    (hq : ∀ env S, J 0 env S → Q (.nx env) S) : Go (forL tg m none (ys.map c) env S) Q E := by
  refine for_go c (fun a env S => J (ys.length - a.length) env S) ys [] env S (by simpa using h0) ?_ ?_
  · intro a y b env S e h
    have hy : y ∈ ys := by
      have : y ∈ [] ++ ys := by rw [e]; simp
      simpa using this
    have hl : ys.length = a.length + (b.length + 1) := by
      have := congrArg List.length e
      simpa using this
    have h' : J (b.length + 1) env S := by
      have : ys.length - a.length = b.length + 1 := by omega
      rw [this] at h; exact h
    have := H y hy b.length env S h'
    have e2 : ys.length - (a ++ [y]).length = b.length := by rw [List.length_append, List.length_singleton]; omega
    rw [e2]
    exact this
  · intro env S h
    exact hq env S (by simpa using h)
def kWh (m : SX) (I : Envr → Sto → Prop) (env : Envr) (Q : QR Fl) (E : QX) : QR Bool := fun c S => Br c (Go (m env S) (lk I Q) E) (Q (.nx env) S)
theorem kWh_t : kWh m I env Q E true S = Go (m env S) (lk I Q) E := Br_t
theorem kWh_f : kWh m I env Q E false S = Q (.nx env) S := Br_f
/-- a while, by a measure -/
theorem while_go (J : Nat → Envr → Sto → Prop) : ∀ (N n : Nat) (env : Envr) (S : Sto), n < N → J n env S →
    (∀ n env S, J n env S → Go (t env S) (kWh m (fun env2 S2 => ∃ k, k < n ∧ J k env2 S2) env Q E) (kEx Q env)) →
    Go (whileL t m N env S) Q E
  | 0, n, env, S, hn, _, _ => absurd hn (Nat.not_lt_zero n)
  | N + 1, n, env, S, hn, h0, H => by
    have h1 := H n env S h0
    unfold whileL
    rw [Go_bindX]
    refine h1.mono (fun c S1 h => ?_) fun _ _ h => h
    cases c with
    | false => rw [kWh_f] at h; exact h
    | true =>
      rw [kWh_t] at h
      simp only [if_true]
      cases e2 : m env S1 with
      | ok fl S2 =>
        rw [e2] at h
        cases fl with
        | nx env2 => obtain ⟨k, hk, hj⟩ := h; exact while_go J N k env2 S2 (by omega) hj H
        | ct env2 => obtain ⟨k, hk, hj⟩ := h; exact while_go J N k env2 S2 (by omega) hj H
        | bk env2 => exact h
        | rt d => exact h
        | xc x env2 => exact h
      | exc x S1 => rw [e2] at h; exact h
      | bad => rw [e2] at h; exact h
theorem xWhile_w {N : Nat} : Go (xWhile N t m env S) Q E = Go (whileL t m N env S) Q E := nr rfl
end
/-! ### comprehensions -/
section
variable {tg : Tg} {ft : TX} {fe : EX} {ix : IX} {env : Envr} {S : Sto} {vs : List Nat} {Q : QR D} {E : QX}
/-- how one item is read: p tells whether it is taken, h what is made -/
def Item (S : Sto) (tg : Tg) (ft : TX) (fe : EX) (env : Envr) (d : D) (p : Bool) (h : PyData) : Prop :=
  Bd S tg d env fun env1 => Go (ft env1 S) (fun b S1 => (b = p ∧ S1 = S) ∧ (p = true → Go (fe env1 S) (fun e S2 => e = .py h ∧ S2 = S) nE)) nE
theorem Item.ex {d : D} {p : Bool} {h : PyData} (H : Item S tg ft fe env d p h) : ∃ env1, bindT S tg d env = some env1 ∧ ft env1 S = .ok p S ∧ (p = true → fe env1 S = .ok (.py h) S) := by
  unfold Item at H
  obtain ⟨env1, e1, H⟩ := H.ex
  obtain ⟨b, S1, e2, ⟨rfl, rfl⟩, h2⟩ := H.ex
  exact ⟨env1, e1, e2, fun z => (h2 z).eq⟩
theorem comp_go {α : Type} (c : α → D) (p : α → Bool) (h : α → PyData) {ys : List α} (hi : Go (ix env S) (fun q S1 => q = (ys.map c, none) ∧ S1 = S) nE) (hl : ys.length ≤ 1000000) (H : ∀ y ∈ ys, Item S tg ft fe (wipeE env vs) (c y) (p y) (h y))
    (k : Q (dL ((ys.filter p).map h)) S) : Go (xComp ix tg ft fe vs env S) Q E :=
  Go.of (xComp_map c p h hi.eq hl fun y hy => (H y hy).ex) k
theorem comp_all {α : Type} (c : α → D) (h : α → PyData) {ys : List α} (hi : Go (ix env S) (fun q S1 => q = (ys.map c, none) ∧ S1 = S) nE) (hl : ys.length ≤ 1000000) (H : ∀ y ∈ ys, Item S tg xYes fe (wipeE env vs) (c y) true (h y))
    (k : Q (dL (ys.map h)) S) : Go (xComp ix tg xYes fe vs env S) Q E := by
  refine comp_go c (fun _ => true) h hi hl H ?_
  rw [List.filter_eq_self.mpr (fun _ _ => rfl)]
  exact k
/-- items with a state; I by what is left, P of what is made -/
theorem comp_inv {α : Type} (c : α → D) (P : PyData → Prop) (I : Nat → Sto → Prop) {ys : List α} (hi : Go (ix env S) (fun q S1 => q = (ys.map c, none) ∧ S1 = S) nE) (hl : ys.length ≤ 1000000) (h0 : I ys.length S)
    (H : ∀ y ∈ ys, ∀ j S, I (j + 1) S → Bd S tg (c y) (wipeE env vs) fun env1 => Go (fe env1 S) (fun d S2 => ∃ e, d = .py e ∧ P e ∧ I j S2) nE)
    (k : ∀ ds S', ds.length = ys.length → (∀ d ∈ ds, P d) → I 0 S' → Q (dL ds) S') : Go (xComp ix tg xYes fe vs env S) Q E := by
  obtain ⟨ds, S', e, h1, h2, h3⟩ := xComp_inv (t := tg) (ft := xYes) (fe := fe) (vs := vs) c P I hi.eq hl h0 fun y hy j S hj => by
    obtain ⟨env1, e1, this⟩ := (H y hy j S hj).ex
    obtain ⟨d, S1, e2, e, rfl, hp, hi⟩ := this.ex
    exact ⟨env1, e, S1, e1, rfl, e2, hp, hi⟩
  exact Go.of e (k ds S' h1 h2 h3)
/-- items with a state, by what is done -/
theorem compL_done {α : Type} (c : α → D) (I : List α → List PyData → Sto → Prop) : ∀ (ys pre : List α) (es : List PyData) (S : Sto), I pre es S →
    (∀ a y b es S, pre ++ ys = a ++ y :: b → I a es S → Bd S tg (c y) env fun env1 => Go (ft env1 S) (fun q S1 => Br q (Go (fe env1 S1) (fun d S2 => ∃ e, d = .py e ∧ I (a ++ [y]) (es ++ [e]) S2) nE) (I (a ++ [y]) es S1)) nE) →
    ∃ ds S', compL tg ft fe none env (ys.map c) S = .ok ds S' ∧ I (pre ++ ys) (es ++ ds) S'
  | [], pre, es, S, h0, _ => ⟨[], S, by rw [List.map_nil]; unfold compL; rw [if_pos (by trivial)], by simpa using h0⟩
  | y :: ys, pre, es, S, h0, H => by
    obtain ⟨env1, e1, h1⟩ := (H pre y ys es S rfl h0).ex
    obtain ⟨q, S1, e2, h2⟩ := h1.ex
    cases q with
    | true =>
      rw [Br_t] at h2
      obtain ⟨d, S2, e3, e, rfl, h3⟩ := h2.ex
      obtain ⟨ds, S', e4, h4⟩ := compL_done c I ys (pre ++ [y]) (es ++ [e]) S2 h3 fun a z b es S hz => H a z b es S (by rw [← hz]; simp)
      refine ⟨e :: ds, S', ?_, by simpa using h4⟩
      rw [List.map_cons]
      unfold compL
      rw [if_pos (by trivial), e1]
      simp only [e2, e3, e4, bind_ok]
    | false =>
      rw [Br_f] at h2
      obtain ⟨ds, S', e4, h4⟩ := compL_done c I ys (pre ++ [y]) es S1 h2 fun a z b es S hz => H a z b es S (by rw [← hz]; simp)
      refine ⟨ds, S', ?_, by simpa using h4⟩
      rw [List.map_cons]
      unfold compL
      rw [if_pos (by trivial), e1]
      simp only [e2, e4, bind_ok]
theorem comp_done {α : Type} (c : α → D) (I : List α → List PyData → Sto → Prop) {ys : List α} (hi : Go (ix env S) (fun q S1 => q = (ys.map c, none) ∧ S1 = S) nE) (hl : ys.length ≤ 1000000) (h0 : I [] [] S)
    (H : ∀ a y b es S, ys = a ++ y :: b → I a es S → Bd S tg (c y) (wipeE env vs) fun env1 => Go (ft env1 S) (fun q S1 => Br q (Go (fe env1 S1) (fun d S2 => ∃ e, d = .py e ∧ I (a ++ [y]) (es ++ [e]) S2) nE) (I (a ++ [y]) es S1)) nE)
    (k : ∀ ds S', I ys ds S' → Q (dL ds) S') : Go (xComp ix tg ft fe vs env S) Q E := by
  obtain ⟨ds, S', e, h⟩ := compL_done (tg := tg) (ft := ft) (fe := fe) (env := wipeE env vs) c I ys [] [] S h0 (fun a y b es S hz => H a y b es S hz)
  rw [xComp_e, hi.eq]
  simp only [bind_ok]
  rw [if_pos (by rw [List.length_map]; exact hl), e]
  exact k ds S' (by simpa using h)
end
/-! ### calls -/
section
variable {fx : FX} {ds : List D} {S : Sto}
/-- a pure def: its value, and only new things behind -/
theorem pure_eq {p : PyData} (h : Go (fx ds S) (fun d S' => d = .py p ∧ ∃ J, S' = S ++ J) nE) : shutF (xTrim fx) ds S = .ok (.py p) S := by
  obtain ⟨d, S', e, rfl, J, rfl⟩ := h.ex
  exact trim_pure e
theorem pure_ex {P : PyData → Prop} (h : Go (fx ds S) (fun d S' => ∃ p J, d = .py p ∧ S' = S ++ J ∧ P p) nE) : ∃ p, shutF (xTrim fx) ds S = .ok (.py p) S ∧ P p := by
  obtain ⟨d, S', e, p, J, rfl, rfl, hp⟩ := h.ex
  exact ⟨p, trim_pure e, hp⟩
theorem pure_go {Q : QR D} {E : QX} (h : Go (fx ds S) (fun d S' => ∃ p J, d = .py p ∧ S' = S ++ J ∧ Q (.py p) S) nE) : Go (shutF (xTrim fx) ds S) Q E := by
  obtain ⟨d, S', e, p, J, rfl, rfl, hp⟩ := h.ex
  exact Go.of (trim_pure e) hp
/-- a law's end -/
theorem law_end {b : Bool} (h : Go (fx ds S) (fun d _ => d = dB b) nE) : ∃ S', shutF (xTrim fx) ds S = .ok (dB b) S' := by
  obtain ⟨d, S', e, rfl⟩ := h.ex
  rw [shutF_eq]
  unfold xTrim
  rw [e]
  simp only
  split
  · exact ⟨_, rfl⟩
  · exact ⟨_, rfl⟩
end
end DL
end
section
set_option maxRecDepth 100000
set_option maxHeartbeats 1000000
/-! DV: encodings: equality of data is equality. -/
namespace DL
open PySem
/-- an encoding: eqv is equality, it can be laid, up to a depth -/
structure En {α : Type} [DecidableEq α] (f : α → PyData) (n : Nat) : Prop where
  eq : ∀ a b, PyData.eqv (f a) (f b) = decide (a = b)
  lay : ∀ a, (f a).canLay0 = true
  dp : ∀ a, (f a).depth ≤ n
theorem En.int : En PyData.int 0 := ⟨fun a b => by simp only [PyData.eqv]; rfl, fun a => rfl, fun a => by simp [PyData.depth]⟩
theorem En.all {α : Type} [DecidableEq α] {f : α → PyData} {n : Nat} (h : En f n) : ∀ xs ys : List α, PyData.eqvAll (xs.map f) (ys.map f) = decide (xs = ys)
  | [], [] => by simp [PyData.eqvAll]
  | [], y :: ys => by simp [PyData.eqvAll]
  | x :: xs, [] => by simp [PyData.eqvAll]
  | x :: xs, y :: ys => by
    simp only [List.map_cons, PyData.eqvAll]
    rw [h.eq, h.all xs ys]
    by_cases e : x = y <;> by_cases e2 : xs = ys <;> simp [e, e2]
theorem En.lays {α : Type} [DecidableEq α] {f : α → PyData} {n : Nat} (h : En f n) : ∀ xs : List α, PyData.canLayAll0 (xs.map f) = true ∧ PyData.depthAll (xs.map f) ≤ n
  | [] => ⟨rfl, by simp [PyData.depthAll]⟩
  | x :: xs => by
    obtain ⟨h1, h2⟩ := h.lays xs
    refine ⟨by simp [PyData.canLayAll0, h1, h.lay], ?_⟩
    simp only [List.map_cons, PyData.depthAll]
    have := h.dp x
    omega
theorem En.tup {α : Type} [DecidableEq α] {f : α → PyData} {n : Nat} (h : En f n) : En (fun xs : List α => .tuple (xs.map f)) (n + 1) :=
  ⟨fun a b => by simp only [PyData.eqv]; exact h.all a b, fun a => by simp only [PyData.canLay0]; exact (h.lays a).1, fun a => by simp only [PyData.depth]; have := (h.lays a).2; omega⟩
theorem En.lst {α : Type} [DecidableEq α] {f : α → PyData} {n : Nat} (h : En f n) : En (fun xs : List α => .list (xs.map f)) (n + 1) :=
  ⟨fun a b => by simp only [PyData.eqv]; exact h.all a b, fun a => by simp only [PyData.canLay0]; exact (h.lays a).1, fun a => by simp only [PyData.depth]; have := (h.lays a).2; omega⟩
theorem En.two {α β : Type} [DecidableEq α] [DecidableEq β] {f : α → PyData} {g : β → PyData} {n m : Nat} (h : En f n) (k : En g m) : En (fun p : α × β => .tuple [f p.1, g p.2]) (max n m + 1) :=
  ⟨fun a b => by
    simp only [PyData.eqv, PyData.eqvAll, h.eq, k.eq]
    cases a; cases b
    simp only [Prod.mk.injEq]
    rename_i a1 a2 b1 b2
    by_cases e1 : a1 = b1 <;> by_cases e2 : a2 = b2 <;> simp [e1, e2], fun a => by simp [PyData.canLay0, PyData.canLayAll0, h.lay, k.lay], fun a => by
    simp only [PyData.depth, PyData.depthAll]
    have := h.dp a.1
    have := k.dp a.2
    omega⟩
theorem En.pr : En QQ.pr 1 := En.two En.int En.int
theorem En.sh {α : Type} [DecidableEq α] {f : α → PyData} {n : Nat} (h : En f n) (hn : n ≤ 64) (a : α) : SeqAt.shaped (f a) = true := by
  unfold SeqAt.shaped
  rw [h.lay]
  have := h.dp a
  simp
  omega
section
variable {Q : QR D} {E : QX} {S : Sto}
theorem En.dEq {α : Type} [DecidableEq α] {f : α → PyData} {n : Nat} (h : En f n) (hn : n ≤ 64) {a b : α} (hs : ∀ z, f a ≠ .str z) : Go (DL.dEq (.py (f a)) (.py (f b)) S) Q E = Q (dB (decide (a = b))) S := by
  unfold DL.dEq
  split
  · rename_i z w e1 e2
    simp only [D.py.injEq] at e1
    exact absurd e1 (hs _)
  · simp only [toPy]
    rw [if_pos ⟨h.sh hn a, h.sh hn b⟩, Go_ok, h.eq]
theorem En.dNe {α : Type} [DecidableEq α] {f : α → PyData} {n : Nat} (h : En f n) (hn : n ≤ 64) {a b : α} (hs : ∀ z, f a ≠ .str z) : Go (DL.dNe (.py (f a)) (.py (f b)) S) Q E = Q (dB (!decide (a = b))) S := by
  unfold DL.dNe
  split
  · rename_i z w e1 e2
    simp only [D.py.injEq] at e1
    exact absurd e1 (hs _)
  · simp only [toPy]
    rw [if_pos ⟨h.sh hn a, h.sh hn b⟩, Go_ok, h.eq]
variable {xs ys : List Int} {t u : List (Int × Int)} {x : Int}
theorem eqTi : Go (DL.dEq (dT (xs.map .int)) (dT (ys.map .int)) S) Q E = Q (dB (decide (xs = ys))) S := En.int.tup.dEq (by decide) (fun _ => by simp)
theorem neTi : Go (DL.dNe (dT (xs.map .int)) (dT (ys.map .int)) S) Q E = Q (dB (!decide (xs = ys))) S := En.int.tup.dNe (by decide) (fun _ => by simp)
theorem eqLi : Go (DL.dEq (dL (xs.map .int)) (dL (ys.map .int)) S) Q E = Q (dB (decide (xs = ys))) S := En.int.lst.dEq (by decide) (fun _ => by simp)
theorem neLi : Go (DL.dNe (dL (xs.map .int)) (dL (ys.map .int)) S) Q E = Q (dB (!decide (xs = ys))) S := En.int.lst.dNe (by decide) (fun _ => by simp)
theorem eqTp : Go (DL.dEq (dT (t.map QQ.pr)) (dT (u.map QQ.pr)) S) Q E = Q (dB (decide (t = u))) S := En.pr.tup.dEq (by decide) (fun _ => by simp)
theorem neTp : Go (DL.dNe (dT (t.map QQ.pr)) (dT (u.map QQ.pr)) S) Q E = Q (dB (!decide (t = u))) S := En.pr.tup.dNe (by decide) (fun _ => by simp)
theorem dec_nil {α : Type} [DecidableEq α] (xs : List α) : decide (xs = []) = xs.isEmpty := by cases xs <;> simp
theorem eqLi0 : Go (DL.dEq (dL (xs.map .int)) (dL []) S) Q E = Q (dB xs.isEmpty) S := by rw [← dec_nil]; exact eqLi (ys := [])
theorem neLi0 : Go (DL.dNe (dL (xs.map .int)) (dL []) S) Q E = Q (dB (!xs.isEmpty)) S := by rw [← dec_nil]; exact neLi (ys := [])
theorem eqTi0 : Go (DL.dEq (dT (xs.map .int)) (dT []) S) Q E = Q (dB xs.isEmpty) S := by rw [← dec_nil]; exact eqTi (ys := [])
theorem neTi0 : Go (DL.dNe (dT (xs.map .int)) (dT []) S) Q E = Q (dB (!xs.isEmpty)) S := by rw [← dec_nil]; exact neTi (ys := [])
theorem eqLi1 : Go (DL.dEq (dL (xs.map .int)) (dL [.int x]) S) Q E = Q (dB (decide (xs = [x]))) S := eqLi (ys := [x])
theorem inLi : Go (dIn (dI x) (dL (xs.map .int)) S) Q E = Q (dB (decide (x ∈ xs))) S := by rw [inL, Go_ok]
theorem notInLi : Go (dNotIn (dI x) (dL (xs.map .int)) S) Q E = Q (dB (!decide (x ∈ xs))) S := by rw [notInL, Go_ok]
theorem eqL00 : Go (DL.dEq (dL []) (dL []) S) Q E = Q (dB true) S := eqLi (xs := []) (ys := [])
theorem neL00 : Go (DL.dNe (dL []) (dL []) S) Q E = Q (dB false) S := neLi (xs := []) (ys := [])
theorem comp_none {tg : Tg} {ft : TX} {fe : EX} {ix : IX} {env : Envr} {vs : List Nat} {α : Type} (c : α → D) {ys : List α} (hi : Go (ix env S) (fun q S1 => q = (ys.map c, none) ∧ S1 = S) nE) (hl : ys.length ≤ 1000000) (H : ∀ y ∈ ys, Item S tg ft fe (wipeE env vs) (c y) false .none)
    (k : Q (dL []) S) : Go (xComp ix tg ft fe vs env S) Q E := by
  refine comp_go c (fun _ => false) (fun _ => .none) hi hl H ?_
  have : ys.filter (fun _ => false) = [] := by simp
  rw [this]
  exact k
end
end DL
end
section
set_option maxRecDepth 100000
set_option maxHeartbeats 1000000
/-! DQ1: calls on a deck; k24's and k25's own functions. -/
namespace QQ
open PySem DL
local macro_rules | `(tactic| simp_arith [$xs,*]) => `(tactic| simp only [eqL00, neL00, eqTi, neTi, eqLi, neLi, eqTp, neTp, eqLi0, neLi0, eqTi0, neTi0, eqLi1, inLi, notInLi, Go_ok, Go_exc, Go_bad, Br_t, Br_f, Br_not, xC_w, xV_w0, xV_ws, kB1_w, kB2_w, xBin_w, xT_w, xTr_w, asB_w, kAsB_w, truB_w, kTruB_w, kTruI_w, kTruN_w, kTruL_w, kTruT_w, kAndT_t, kAndT_f, kOrT_t, kOrT_f, kNotT_w, xAndT_w, 
  xOrT_w, xNotT_w, xYes_w, kOrD_w, kAndD_w, kOrD_t, kOrD_f, kAndD_t, kAndD_f, xOrD_w, xAndD_w, kNotB_w, xNot_w, kIfE_t, kIfE_f, xIf_w, xNil_w, kC1_w, kC2_w, xCons_w, kMut_w, xTup_w, xLst_w, xMut_w, kCB_w, xCB_w, kCall_w, 
  xCall_w, kNeg_w, xNeg_w, kCh1_w, kCh2_w, kCh4_t, kCh4_f, xChain_w, xNoPart_w, kPart_w, xPart_w, kSl1_w, kSl2_w, kSl3_w, xSl_w, xIsi_w, kBM_w, kBM2_w, xBM_w, tyD_L, kTup_0, kTup_1, kTup_2, kTup_3, kTup_4, kTup_5, kTup_6, 
  kTup_7, kTup_8, kLst_0, kLst_1, kLst_2, kLst_3, kLst_4, kLst_5, kLst_6, kLst_7, kLst_8, kIsi_int_NoneType, kIsi_int_bool, kIsi_int_int, kIsi_int_str, kIsi_int_list, kIsi_int_tuple, kIsi_bool_NoneType, kIsi_bool_bool, 
  kIsi_bool_int, kIsi_bool_str, kIsi_bool_list, kIsi_bool_tuple, kIsi_tuple_NoneType, kIsi_tuple_bool, kIsi_tuple_int, kIsi_tuple_str, kIsi_tuple_list, kIsi_tuple_tuple, kIsi_list_NoneType, kIsi_list_bool, kIsi_list_int, 
  kIsi_list_str, kIsi_list_list, kIsi_list_tuple, kIsi_str_NoneType, kIsi_str_bool, kIsi_str_int, kIsi_str_str, kIsi_str_list, kIsi_str_tuple, dAdd_w, dSub_w, dMul_w, dDiv_w, dMod_w, dPow_w, dCmp_w, dEqI_w, dNeI_w, dEqS_w, 
  dNeS_w, dAddT_w, dAddS_w, dAddL_w, dIsN_w, dIsNotN_w, isN_n, isN_i, isN_t, fLenL_w, fLenT_w, fAbs_w, fIntB_w, fMax2_w, fMin2_w, fMax_w, fMin_w, fSum_w, fSort_w, fSortT_w, fSSetT_w, fSSet_w, fAll_w, fTupleT_w, fTupleL_w, fListL_w, fListT_w, fRgT_w, 
  fRgL_w, fRgM_w, ixT0_w, ixT1_w, ixL0_w, ixL1_w, slT_w, slL_w, kNx_w, kEx_w, sk_nx, sk_rt, sk_bk, sk_ct, sk_xc, bk_rt, bk_nx, bkX_rt, bkX_nx, bkX_xc, xSeq_w, xPass_w, xBrk_w, xCnt_w, kDrop_w, xDrop_w, kRet_w, xRet_w, 
  xRetN_w, kIf_t, kIf_f, xIfS_w, kSet_w, xSet_w, kBd_w, Bd_nm, Bd_tp, Bd_tp3, kAsg_w, xAsg_w, kPar_w, kPar3_w, xPar_w, xPar3_w, kSto1_w, kSto2_w, xStore_w, kFor_w, xFor_w, xWhile_w, kWh_t, kWh_f, xBody_w, xBodyX_w, kIt_w, kRv_w, kIx_w, 
  xIt_w, xRg1_w, xRg2_w, xRg3_w, xZip_w, xEnm_w, xEnB_w, xRev_w, iR1_w, iR2_w, iSeqL_w, iSeqT_w, iSeqS_w, iZipT_w, iZipL_w, zOk_l, zOk_r, lk_nx, lk_ct, lk_bk, lk_rt, lk_xc, env0, wipeE, List.map_cons, List.map_nil, List.set_cons_zero, 
  List.set_cons_succ, List.length_cons, List.length_nil, List.length_map, Nat.reduceAdd, Nat.reduceSub, Nat.zero_add, List.reduceReplicate, List.cons_append, List.nil_append, true_and, and_true, Bool.not_true, 
  Bool.not_false, decide_true, decide_false, Nat.reduceLeDiff, Int.reduceLT, Int.reduceLE, Int.reduceNeg, reduceIte, reduceCtorEq, Int.reduceToNat, Int.reducePow, Int.reduceAdd, Int.reduceSub, Int.reduceMul, implies_true, false_implies, forall_const, eq_self, and_self, Int.cast_ofNat_Int, Int.natCast_zero, Int.natCast_one, Int.reduceEq, $xs,*])
section
variable {Q : QR D} {E : QX} {n : Nat} {T S : Sto} {m : Int}
theorem ixTm_w {m i : Int} {f : Int → Int} (h : 0 ≤ i ∧ i < m) : Go (dIxD (dT (((rgI 0 m).map f).map .int)) (dI i) S) Q E = Q (dI (f i)) S := by
  rw [ixTi_w (by rw [List.length_map, rgI_length]; omega)]
  have := nat_map (f := f) h.1 h.2
  unfold nat_ at this
  rw [this]
theorem ixLm_w {m i : Int} {f : Int → Int} (h : 0 ≤ i ∧ i < m) : Go (dIxD (dL (((rgI 0 m).map f).map .int)) (dI i) S) Q E = Q (dI (f i)) S := by
  rw [ixLi_w (by rw [List.length_map, rgI_length]; omega)]
  have := nat_map (f := f) h.1 h.2
  unfold nat_ at this
  rw [this]
theorem md {a m : Int} (h : 1 ≤ m) : 0 ≤ a % m ∧ a % m < m := ⟨Int.emod_nonneg _ (by omega), Int.emod_lt_of_pos _ (by omega)⟩
theorem Dk.go {fx : FX} {ds : List D} (h : Dk n T S) (hb : Go (fx ds S) (fun d S' => ∃ p J k, d = .py p ∧ Dk k (T ++ J) S' ∧ ∀ S'', Dk k T S'' → Q (.py p) S'') nE) : Go (shutF (xTrim fx) ds S) Q E := by
  obtain ⟨d, S', e, p, J, k, rfl, hd, hq⟩ := hb.ex
  obtain ⟨S'', e2, h2⟩ := h.trim hd e
  exact Go.of e2 (hq S'' h2)
/-- the end of such a body -/
theorem Dk.fin {k : Nat} {T S : Sto} {p : PyData} (h : Dk k T S) (hq : ∀ S'', Dk k T S'' → Q (.py p) S'') : ∃ p' J k', D.py p = .py p' ∧ Dk k' (T ++ J) S ∧ ∀ S'', Dk k' T S'' → Q (.py p') S'' :=
  ⟨p, [], k, rfl, by rw [List.append_nil]; exact h, hq⟩
theorem draw2_w {l : Int} (h : Dk (n + 1) T S) (l0 : 0 < l) (l1 : l < 1073741824) (k : ∀ v S', 0 ≤ v → v < l → Dk n T S' → Q (dI v) S') : Go (f_draw_2 [.loc 1, dI l] S) Q E := by
  obtain ⟨v, S', e, v0, v1, h'⟩ := draw2_ok l h l0 l1
  exact Go.of e (k v S' v0 v1 h')
theorem circle_w (h : Dk (n + 2) T S) (k : ∀ v S', 1 ≤ v → v ≤ 60 → Dk n T S' → Q (dI v) S') : Go (f_circle [.loc 1] S) Q E := by
  obtain ⟨v, S', e, v0, v1, h'⟩ := circle_ok h
  exact Go.of e (k v S' v0 v1 h')
theorem tool4_w (h : Dk (n + 200) T S) (m0 : 1 ≤ m) (m1 : m ≤ 60) (k : ∀ (t : List (Int × Int)) S', Tool1 m t → Dk n T S' → Q (dT (t.map pr)) S') : Go (f_tool_4 [.loc 1, dI m] S) Q E := by
  obtain ⟨t, S', e, h1, h2, h'⟩ := tool4_ok1 m h m0 m1
  exact Go.of e (k t S' ⟨h1, h2⟩ h')
theorem tool5_4 : f_tool_5 = f_tool_4 := rfl
theorem tool5_w (h : Dk (n + 200) T S) (m0 : 1 ≤ m) (m1 : m ≤ 60) (k : ∀ (t : List (Int × Int)) S', Tool1 m t → Dk n T S' → Q (dT (t.map pr)) S') : Go (f_tool_5 [.loc 1, dI m] S) Q E := by
  rw [tool5_4]; exact tool4_w h m0 m1 k
theorem turn_w (h : Dk (n + 3) T S) (m0 : 1 ≤ m) (m1 : m ≤ 60) (k : ∀ v S', -(10 ^ 30) < v → v < 10 ^ 30 → Dk n T S' → Q (dI v) S') : Go (f_turn [.loc 1, dI m] S) Q E := by
  refine h.go ?_
  simp_arith [m_turn]
  refine ⟨by omega, draw2_w h (by omega) (by omega) fun a S1 a0 a1 d1 => ?_⟩
  simp_arith [Go_ok]
  refine draw2_w d1 (by omega) (by omega) fun w S2 w0 w1 d2 => ?_
  simp_arith [Go_ok]
  unfold kIf
  refine Br.dec (fun hw => ?_) (fun hw => ?_)
  · simp_arith [Go_ok]
    refine ⟨by decide, draw2_w d2 (by decide) (by decide) fun b S3 b0 b1 d3 => ?_⟩
    simp_arith [Go_ok]
    refine ⟨by omega, d3.fin fun S'' h'' => k _ S'' ?_ ?_ h''⟩
    · have := Int.mul_nonneg (show 0 ≤ m by omega) b0; omega
    · have : m * b ≤ 60 * b := Int.mul_le_mul_of_nonneg_right m1 b0
      have b1 : b < 1000000000 := b1
      omega
  · simp_arith [Go_ok]
    have r0 := Int.emod_nonneg (a - m) (show m ≠ 0 by omega)
    have r1 := Int.emod_lt_of_pos (a - m) (show 0 < m by omega)
    refine ⟨by decide, by omega, by decide, by omega, ?_⟩
    rcases (by omega : w = 0 ∨ w = 1 ∨ w = 3 ∨ w = 4) with e | e | e | e <;> subst e
    · exact d2.fin fun S'' h'' => k _ S'' (by omega) (by omega) (h''.mono (by omega))
    · exact d2.fin fun S'' h'' => k _ S'' (by omega) (by omega) (h''.mono (by omega))
    · exact d2.fin fun S'' h'' => k _ S'' (by omega) (by omega) (h''.mono (by omega))
    · exact d2.fin fun S'' h'' => k _ S'' (by omega) (by omega) (h''.mono (by omega))
end
end QQ
end
section
set_option maxRecDepth 100000
set_option maxHeartbeats 1000000
/-! DX: comprehensions by what they run over. -/
namespace DL
open PySem
section
variable {tg : Tg} {ft : TX} {fe : EX} {ix : IX} {env : Envr} {S : Sto} {vs : List Nat} {Q : QR D} {E : QX} {xs : List D}
def kLs (Q : QR D) : QR (List PyData) := fun ds S => Q (dL ds) S
def kComp (tg : Tg) (ft : TX) (fe : EX) (vs : List Nat) (env : Envr) (Q : QR D) (E : QX) : QI := fun p S => p.1.length ≤ 1000000 ∧ Go (compL tg ft fe p.2 (wipeE env vs) p.1 S) (kLs Q) E
theorem xComp_w : Go (xComp ix tg ft fe vs env S) Q E = Go (ix env S) (kComp tg ft fe vs env Q E) E := by
  rw [xComp_e, Go_bind]
  congr 1
  funext p S1
  unfold kComp
  by_cases h : p.1.length ≤ 1000000
  · rw [if_pos h, Go_bind]
    simp only [h, true_and]
    rfl
  · rw [if_neg h, Go_bad]
    simp [h]
/-- a list made by a comprehension that is stored into later -/
def kLsM (Q : QR D) : QR (List PyData) := fun ds S => Q (.loc S.length) (S ++ [.lst (ds.map .py)])
def kCompM (tg : Tg) (ft : TX) (fe : EX) (vs : List Nat) (env : Envr) (Q : QR D) (E : QX) : QI := fun p S => p.1.length ≤ 1000000 ∧ Go (compL tg ft fe p.2 (wipeE env vs) p.1 S) (kLsM Q) E
theorem xCompM_w : Go (xCompM ix tg ft fe vs env S) Q E = Go (ix env S) (kCompM tg ft fe vs env Q E) E := by
  unfold xCompM
  rw [Go_bind]
  congr 1
  funext p S1
  unfold kCompM
  by_cases h : p.1.length ≤ 1000000
  · rw [if_pos h, Go_bind]
    simp only [h, true_and]
    rfl
  · rw [if_neg h, Go_bad]
    simp [h]
theorem mapDpy {α : Type} (f : α → PyData) (xs : List α) : List.map D.py (xs.map f) = xs.map fun x => D.py (f x) := by rw [List.map_map]; rfl
theorem map_int {α : Type} (f : α → Int) (xs : List α) : xs.map (fun x => PyData.int (f x)) = (xs.map f).map .int := by rw [List.map_map]; rfl
theorem cK {α : Type} (c : α → D) (p : α → Bool) (h : α → PyData) {ys : List α} (hl : ys.length ≤ 1000000) (H : ∀ y ∈ ys, Item S tg ft fe (wipeE env vs) (c y) (p y) (h y))
    (k : Q (dL ((ys.filter p).map h)) S) (hx : xs = ys.map c := by first | rfl | exact mapDpy _ _ | (simp only [List.map_map]; rfl)) : kComp tg ft fe vs env Q E (xs, none) S := by
  subst hx
  refine ⟨by rw [List.length_map]; exact hl, ?_⟩
  rw [compL_map c p h ys fun y hy => (H y hy).ex]
  exact k
theorem cKM {α : Type} (c : α → D) (p : α → Bool) (h : α → PyData) {ys : List α} (hl : ys.length ≤ 1000000) (H : ∀ y ∈ ys, Item S tg ft fe (wipeE env vs) (c y) (p y) (h y))
    (k : Q (.loc S.length) (S ++ [.lst (((ys.filter p).map h).map .py)])) (hx : xs = ys.map c := by first | rfl | exact mapDpy _ _ | (simp only [List.map_map]; rfl)) : kCompM tg ft fe vs env Q E (xs, none) S := by
  subst hx
  refine ⟨by rw [List.length_map]; exact hl, ?_⟩
  rw [compL_map c p h ys fun y hy => (H y hy).ex]
  exact k
theorem cKa {α : Type} (c : α → D) (h : α → PyData) {ys : List α} (hl : ys.length ≤ 1000000) (H : ∀ y ∈ ys, Item S tg xYes fe (wipeE env vs) (c y) true (h y))
    (k : Q (dL (ys.map h)) S) (hx : xs = ys.map c := by first | rfl | exact mapDpy _ _ | (simp only [List.map_map]; rfl)) : kComp tg xYes fe vs env Q E (xs, none) S := by
  refine cK c (fun _ => true) h hl H ?_ hx
  rw [List.filter_eq_self.mpr (fun _ _ => rfl)]
  exact k
theorem cKn {α : Type} (c : α → D) {ys : List α} (hl : ys.length ≤ 1000000) (H : ∀ y ∈ ys, Item S tg ft fe (wipeE env vs) (c y) false .none)
    (k : Q (dL []) S) (hx : xs = ys.map c := by first | rfl | exact mapDpy _ _ | (simp only [List.map_map]; rfl)) : kComp tg ft fe vs env Q E (xs, none) S := by
  refine cK c (fun _ => false) (fun _ => .none) hl H ?_ hx
  have : ys.filter (fun _ => false) = [] := by simp
  rw [this]
  exact k
/-- ints from what is run over, all or some -/
theorem cKi {α : Type} (c : α → D) (p : α → Bool) (h : α → Int) {ys : List α} (hl : ys.length ≤ 1000000) (H : ∀ y ∈ ys, Item S tg ft fe (wipeE env vs) (c y) (p y) (.int (h y)))
    (k : Q (dL (((ys.filter p).map h).map .int)) S) (hx : xs = ys.map c := by first | rfl | exact mapDpy _ _ | (simp only [List.map_map]; rfl)) : kComp tg ft fe vs env Q E (xs, none) S :=
  cK c p (fun y => .int (h y)) hl H (by rw [map_int]; exact k) hx
theorem cKai {α : Type} (c : α → D) (h : α → Int) {ys : List α} (hl : ys.length ≤ 1000000) (H : ∀ y ∈ ys, Item S tg xYes fe (wipeE env vs) (c y) true (.int (h y)))
    (k : Q (dL ((ys.map h).map .int)) S) (hx : xs = ys.map c := by first | rfl | exact mapDpy _ _ | (simp only [List.map_map]; rfl)) : kComp tg xYes fe vs env Q E (xs, none) S :=
  cKa c (fun y => .int (h y)) hl H (by rw [map_int]; exact k) hx
/-- by what is done -/
theorem cKd {α : Type} (c : α → D) (I : List α → List PyData → Sto → Prop) {ys : List α} (hl : ys.length ≤ 1000000) (h0 : I [] [] S)
    (H : ∀ a y b es S, ys = a ++ y :: b → I a es S → Bd S tg (c y) (wipeE env vs) fun env1 => Go (ft env1 S) (fun q S1 => Br q (Go (fe env1 S1) (fun d S2 => ∃ e, d = .py e ∧ I (a ++ [y]) (es ++ [e]) S2) nE) (I (a ++ [y]) es S1)) nE)
    (k : ∀ ds S', I ys ds S' → Q (dL ds) S') (hx : xs = ys.map c := by first | rfl | exact mapDpy _ _ | (simp only [List.map_map]; rfl)) : kComp tg ft fe vs env Q E (xs, none) S := by
  subst hx
  refine ⟨by rw [List.length_map]; exact hl, ?_⟩
  obtain ⟨ds, S', e, h⟩ := compL_done (tg := tg) (ft := ft) (fe := fe) (env := wipeE env vs) c I ys [] [] S h0 (fun a y b es S hz => H a y b es S hz)
  rw [e]
  exact k ds S' (by simpa using h)
theorem lift_list {α : Type} {enc : α → PyData} {R : α → Prop} : ∀ {ds : List PyData}, (∀ d ∈ ds, ∃ x, d = enc x ∧ R x) → ∃ xs : List α, ds = xs.map enc ∧ ∀ x ∈ xs, R x
  | [], _ => ⟨[], rfl, fun x h => by cases h⟩
  | d :: ds, h => by
    obtain ⟨x, rfl, hx⟩ := h d List.mem_cons_self
    obtain ⟨xs, rfl, hxs⟩ := lift_list (ds := ds) fun e he => h e (List.mem_cons_of_mem _ he)
    exact ⟨x :: xs, rfl, fun y hy => (List.mem_cons.mp hy).elim (fun e => e ▸ hx) (hxs y)⟩
/-- drawn things -/
theorem cKk {α β : Type} (c : β → D) (enc : α → PyData) (R : α → Prop) (a b : Nat) {T : Sto} {ys : List β} (hl : ys.length ≤ 1000000) (hd : QQ.Dk (b + ys.length * a) T S)
    (H : ∀ y ∈ ys, ∀ j S, QQ.Dk (j + a) T S → Bd S tg (c y) (wipeE env vs) fun env1 => Go (fe env1 S) (fun d S2 => ∃ x, d = .py (enc x) ∧ R x ∧ QQ.Dk j T S2) nE)
    (k : ∀ (xs : List α) S', xs.length = ys.length → (∀ x ∈ xs, R x) → QQ.Dk b T S' → Q (dL (xs.map enc)) S') (hx : xs = ys.map c := by first | rfl | exact mapDpy _ _ | (simp only [List.map_map]; rfl)) : kComp tg xYes fe vs env Q E (xs, none) S := by
  refine cKd c (fun dn es S => ∃ xs : List α, es = xs.map enc ∧ xs.length = dn.length ∧ (∀ x ∈ xs, R x) ∧ QQ.Dk (b + (ys.length - dn.length) * a) T S) hl ⟨[], rfl, rfl, fun x h => (by cases h), by simpa using hd⟩ ?_ ?_ hx
  · rintro dn y r es S e ⟨xs, rfl, h1, h2, h3⟩
    have hy : y ∈ ys := by rw [e]; simp
    have hlen : ys.length = dn.length + (r.length + 1) := by rw [e]; simp
    obtain ⟨env1, e1, h⟩ := (H y hy (b + r.length * a) S (h3.mono (by rw [show ys.length - dn.length = r.length + 1 by omega, Nat.add_mul]; omega))).ex
    unfold Bd
    rw [e1]
    show Go (xYes env1 S) _ nE
    rw [xYes_w, Br_t]
    refine h.imp fun d S2 ⟨x, e2, hx, hd2⟩ => ⟨enc x, e2, xs ++ [x], by simp, by simp [h1], fun z hz => ?_, hd2.mono ?_⟩
    · rcases List.mem_append.mp hz with hz | hz
      · exact h2 z hz
      · rw [List.mem_singleton.mp hz]; exact hx
    · rw [show ys.length - (dn ++ [y]).length = r.length by rw [List.length_append, List.length_singleton]; omega]
      exact Nat.le_refl _
  · rintro ds S' ⟨xs, rfl, h1, h2, h3⟩
    exact k xs S' h1 h2 (h3.mono (by omega))
variable {m : SX} {Qf : QR Fl}
/-- a for, by what is done; by what is left -/
theorem fK {α : Type} (c : α → D) (J : List α → Envr → Sto → Prop) {ys : List α} (h0 : J [] env S)
    (H : ∀ a y b env S, ys = a ++ y :: b → J a env S → Bd S tg (c y) env fun env1 => Go (m env1 S) (lk (J (a ++ [y])) Qf) E)
    (hq : ∀ env S, J ys env S → Qf (.nx env) S) (hx : xs = ys.map c := by first | rfl | exact mapDpy _ _ | (simp only [List.map_map]; rfl)) : Go (forL tg m none xs env S) Qf E := by
  subst hx
  exact for_go c J ys [] env S h0 (fun a y b env S e => H a y b env S (by simpa using e)) (fun env S h => hq env S (by simpa using h))
theorem fL {α : Type} (c : α → D) (J : Nat → Envr → Sto → Prop) {ys : List α} (h0 : J ys.length env S)
    (H : ∀ y ∈ ys, ∀ j env S, J (j + 1) env S → Bd S tg (c y) env fun env1 => Go (m env1 S) (lk (J j) Qf) E)
    (hq : ∀ env S, J 0 env S → Qf (.nx env) S) (hx : xs = ys.map c := by first | rfl | exact mapDpy _ _ | (simp only [List.map_map]; rfl)) : Go (forL tg m none xs env S) Qf E := by
  subst hx
  exact for_left c J h0 H hq
end
end DL
end
section
set_option maxRecDepth 100000
set_option maxHeartbeats 1000000
/-! DQ2: the law's own look at a tool; k24. -/
namespace QQ
open PySem DL
local macro_rules | `(tactic| simp_arith [$xs,*]) => `(tactic| simp only [eqL00, neL00, eqTi, neTi, eqLi, neLi, eqTp, neTp, eqLi0, neLi0, eqTi0, neTi0, eqLi1, inLi, notInLi, Go_ok, Go_exc, Go_bad, Br_t, Br_f, Br_not, xC_w, xV_w0, xV_ws, kB1_w, kB2_w, xBin_w, xT_w, xTr_w, asB_w, kAsB_w, truB_w, kTruB_w, kTruI_w, kTruN_w, kTruL_w, kTruT_w, kAndT_t, kAndT_f, kOrT_t, kOrT_f, kNotT_w, xAndT_w, 
  xOrT_w, xNotT_w, xYes_w, kOrD_w, kAndD_w, kOrD_t, kOrD_f, kAndD_t, kAndD_f, xOrD_w, xAndD_w, kNotB_w, xNot_w, kIfE_t, kIfE_f, xIf_w, xNil_w, kC1_w, kC2_w, xCons_w, kMut_w, xTup_w, xLst_w, xMut_w, kCB_w, xCB_w, kCall_w, 
  xCall_w, kNeg_w, xNeg_w, kCh1_w, kCh2_w, kCh4_t, kCh4_f, xChain_w, xNoPart_w, kPart_w, xPart_w, kSl1_w, kSl2_w, kSl3_w, xSl_w, xIsi_w, kBM_w, kBM2_w, xBM_w, tyD_L, kTup_0, kTup_1, kTup_2, kTup_3, kTup_4, kTup_5, kTup_6, 
  kTup_7, kTup_8, kLst_0, kLst_1, kLst_2, kLst_3, kLst_4, kLst_5, kLst_6, kLst_7, kLst_8, kIsi_int_NoneType, kIsi_int_bool, kIsi_int_int, kIsi_int_str, kIsi_int_list, kIsi_int_tuple, kIsi_bool_NoneType, kIsi_bool_bool, 
  kIsi_bool_int, kIsi_bool_str, kIsi_bool_list, kIsi_bool_tuple, kIsi_tuple_NoneType, kIsi_tuple_bool, kIsi_tuple_int, kIsi_tuple_str, kIsi_tuple_list, kIsi_tuple_tuple, kIsi_list_NoneType, kIsi_list_bool, kIsi_list_int, 
  kIsi_list_str, kIsi_list_list, kIsi_list_tuple, kIsi_str_NoneType, kIsi_str_bool, kIsi_str_int, kIsi_str_str, kIsi_str_list, kIsi_str_tuple, dAdd_w, dSub_w, dMul_w, dDiv_w, dMod_w, dPow_w, dCmp_w, dEqI_w, dNeI_w, dEqS_w, 
  dNeS_w, dAddT_w, dAddS_w, dAddL_w, dIsN_w, dIsNotN_w, isN_n, isN_i, isN_t, fLenL_w, fLenT_w, fAbs_w, fIntB_w, fMax2_w, fMin2_w, fMax_w, fMin_w, fSum_w, fSort_w, fSortT_w, fSSetT_w, fSSet_w, fAll_w, fTupleT_w, fTupleL_w, fListL_w, fListT_w, fRgT_w, 
  fRgL_w, fRgM_w, ixT0_w, ixT1_w, ixL0_w, ixL1_w, slT_w, slL_w, kNx_w, kEx_w, sk_nx, sk_rt, sk_bk, sk_ct, sk_xc, bk_rt, bk_nx, bkX_rt, bkX_nx, bkX_xc, xSeq_w, xPass_w, xBrk_w, xCnt_w, kDrop_w, xDrop_w, kRet_w, xRet_w, 
  xRetN_w, kIf_t, kIf_f, xIfS_w, kSet_w, xSet_w, kBd_w, Bd_nm, Bd_tp, Bd_tp3, kAsg_w, xAsg_w, kPar_w, kPar3_w, xPar_w, xPar3_w, kSto1_w, kSto2_w, xStore_w, kFor_w, xFor_w, xWhile_w, kWh_t, kWh_f, xBody_w, xBodyX_w, kIt_w, kRv_w, kIx_w, 
  xIt_w, xRg1_w, xRg2_w, xRg3_w, xZip_w, xEnm_w, xEnB_w, xRev_w, iR1_w, iR2_w, iSeqL_w, iSeqT_w, iSeqS_w, iZipT_w, iZipL_w, zOk_l, zOk_r, lk_nx, lk_ct, lk_bk, lk_rt, lk_xc, env0, wipeE, List.map_cons, List.map_nil, List.set_cons_zero, 
  List.set_cons_succ, List.length_cons, List.length_nil, List.length_map, Nat.reduceAdd, Nat.reduceSub, Nat.zero_add, List.reduceReplicate, List.cons_append, List.nil_append, true_and, and_true, Bool.not_true, 
  Bool.not_false, decide_true, decide_false, Nat.reduceLeDiff, Int.reduceLT, Int.reduceLE, Int.reduceNeg, reduceIte, reduceCtorEq, Int.reduceToNat, Int.reducePow, Int.reduceAdd, Int.reduceSub, Int.reduceMul, implies_true, false_implies, forall_const, eq_self, and_self, Int.cast_ofNat_Int, Int.natCast_zero, Int.natCast_one, Int.reduceEq, $xs,*])
theorem pw_getD {xs : List Int} (h : xs.Pairwise (· < ·)) {i j : Nat} (hij : i < j) (hj : j < xs.length) : xs.getD i 0 < xs.getD j 0 := by
  have := List.pairwise_iff_getElem.mp h i j (by omega) hj hij
  rw [List.getD_eq_getElem?_getD, List.getD_eq_getElem?_getD, List.getElem?_eq_getElem (by omega), List.getElem?_eq_getElem hj]
  exact this
/-- the offsets of the targets -/
def offs (m : Int) (t : List (Int × Int)) : List Int := t.map fun p => (p.2 - (t.headD (0, 0)).2) % m
theorem offs_lt {m : Int} {t : List (Int × Int)} (h : Tool m t) : (offs m t).Pairwise (· < ·) := by
  obtain ⟨z, ws, e, hw, hr⟩ := h.cyc
  have key : offs m t = (t.map Prod.snd).map fun x => (x - (t.headD (0, 0)).2) % m := by
    unfold offs; rw [List.map_map]; rfl
  rw [key, e]
  cases ws with
  | nil => exact List.Pairwise.nil
  | cons w0 ws =>
    have hd : (t.headD (0, 0)).2 = (z + w0) % m := by
      cases t with
      | nil => simp at e
      | cons p r => simp at e; exact e.1
    rw [hd, List.map_map, List.pairwise_map]
    have h0 := hr w0 List.mem_cons_self
    have f : ∀ w ∈ w0 :: ws, ((z + w) % m - (z + w0) % m) % m = w - w0 := fun w hw' => by
      have hle : w0 ≤ w := by
        rcases List.mem_cons.mp hw' with rfl | hw'
        · exact Int.le_refl _
        · exact Int.le_of_lt ((List.pairwise_cons.mp hw).1 w hw')
      rw [← Int.sub_emod, show z + w - (z + w0) = w - w0 by omega]
      exact Int.emod_eq_of_lt (by omega) (by have := hr w hw'; omega)
    refine hw.imp_of_mem fun {a b} ha hb hab => ?_
    show ((z + a) % m - (z + w0) % m) % m < ((z + b) % m - (z + w0) % m) % m
    rw [f a ha, f b hb]
    omega
section
variable {Q : QR D} {E : QX} {n : Nat} {T S : Sto} {m : Int}
theorem is_tool_eq {t : List (Int × Int)} (h : Tool1 m t) (m0 : 1 ≤ m) : f_is_tool [dI m, dT (t.map pr)] S = .ok (dB true) S := by
  refine pure_eq ?_
  have hne := h.ne
  have hlen := h.len
  have hpos : 0 < t.length := List.length_pos_iff.mpr hne
  simp_arith [m_is_tool]
  unfold kCh4
  refine Br.decY (by omega) ?_
  simp_arith [show decide ((t.length : Int) ≤ 12) = true by exact decide_eq_true (by omega)]
  rw [show List.map D.py (t.map pr) = t.map fun p => D.py (pr p) by rw [List.map_map]; rfl]
  refine for_go (fun p => D.py (pr p)) (fun _ env S' => ∃ x2 x6, env = [some (dI m), some (dT (t.map pr)), x2, none, none, none, x6, none] ∧ S' = S) t [] _ _ ⟨_, _, rfl, rfl⟩ ?_ ?_
  · rintro a p b env S' e ⟨x2, x6, rfl, rfl⟩
    have hp : p ∈ t := by
      have : p ∈ [] ++ t := by rw [e]; simp
      simpa using this
    have r := h.rg p hp
    simp_arith [m_is_tool_l1, pr_tup]
    refine comp_none (fun i : Int => dI i) (ys := [p.1, p.2]) ?_ (by simp) ?_ ?_
    · simp_arith [pr_tup]
    · intro y hy
      have ry : 0 ≤ y ∧ y < m := by
        rcases List.mem_cons.mp hy with rfl | hy
        · omega
        · rw [List.mem_singleton.mp hy]; omega
      unfold Item
      simp_arith [show decide (0 ≤ y) = true from decide_eq_true ry.1, show decide (y < m) = true from decide_eq_true ry.2]
    · simp_arith [Go_ok]
      exact ⟨_, _, rfl⟩
  · rintro env S' ⟨x2, x6, rfl, rfl⟩
    simp_arith [Go_ok]
    refine comp_all (fun p => D.py (pr p)) (fun p => .int p.1) (ys := t) ?_ (by omega) ?_ ?_
    · simp_arith [List.map_map]
      try rfl
    · intro p _
      unfold Item
      simp_arith [pr_tup, and_self]
    · simp_arith [Go_ok]
      refine comp_all (fun p => D.py (pr p)) (fun p => .int ((p.2 - (t.headD (0, 0)).2) % m)) (ys := t) ?_ (by omega) ?_ ?_
      · simp_arith [List.map_map]
        try rfl
      · intro p _
        obtain ⟨q, r, rfl⟩ : ∃ q r, t = q :: r := by
          cases t with
          | nil => exact absurd rfl hne
          | cons q r => exact ⟨q, r, rfl⟩
        unfold Item
        simp_arith [pr_tup, and_self, List.headD_cons]
        omega
      · have e1 : t.map (fun p => PyData.int p.1) = (t.map Prod.fst).map .int := by rw [List.map_map]; rfl
        have e2 : t.map (fun p => PyData.int ((p.2 - (t.headD (0, 0)).2) % m)) = (offs m t).map .int := by unfold offs; rw [List.map_map]; rfl
        rw [e1, e2]
        simp_arith [Go_ok]
        have hb : (t.map Prod.fst).Pairwise (· < ·) := by rw [List.pairwise_map]; exact h.lt
        have ho := offs_lt h.toTool
        have lb : (t.map Prod.fst).length = t.length := List.length_map ..
        have lo : (offs m t).length = t.length := List.length_map ..
        generalize hbs : t.map Prod.fst = bs at hb lb ⊢
        generalize offs m t = os at ho lo ⊢
        refine comp_none (fun i : Int => dI i) (ys := rgI 1 t.length) ?_ (by rw [rgI_length]; omega) ?_ ?_
        · simp_arith [Go_ok]
          omega
        · intro k hk
          have hk := rgI_mem.mp hk
          have g1 := pw_getD hb (i := (k - 1).toNat) (j := k.toNat) (by omega) (by omega)
          have g2 := pw_getD ho (i := (k - 1).toNat) (j := k.toNat) (by omega) (by omega)
          unfold Item
          simp_arith [ixLi_w (is := bs) (i := k - 1) (by omega), ixLi_w (is := bs) (i := k) (by omega), ixLi_w (is := os) (i := k - 1) (by omega), ixLi_w (is := os) (i := k) (by omega), show decide (bs.getD k.toNat 0 ≤ bs.getD (k - 1).toNat 0) = false from decide_eq_false (by omega), show decide (os.getD k.toNat 0 ≤ os.getD (k - 1).toNat 0) = false from decide_eq_false (by omega)]
        · simp_arith [Go_ok]
          unfold kOrD2
          refine Br.dec (fun hl => ?_) (fun hs => ?_)
          · simp_arith [Go_ok]
            exact ⟨by rw [decide_eq_true hl], [], by simp⟩
          · have : bs = [0] := by
              match t, hpos, hs, hbs, h.one with
              | [p], _, _, hbs, ho => rw [← hbs, List.map_cons, ho p rfl]; rfl
              | p :: q :: r, _, hs, _, _ => simp at hs; omega
            subst this
            simp_arith [eqLi1 (xs := [0])]
            exact ⟨by simp [PyData.eqv, PyData.eqvAll], [], by simp⟩
theorem told_eq {t : List (Int × Int)} {due : List Int} (h : Tool1 m t) (m0 : 1 ≤ m) (m1 : m ≤ 1000) (e : (rgI 0 m).map (tgt t) = due) : f_told_right [dI m, dT (t.map pr), dL (due.map .int)] S = .ok (dB true) S := by
  refine pure_eq ?_
  simp_arith [m_told_right]
  refine Go.of (is_tool_eq h m0) ?_
  simp_arith [Go_ok]
  refine Go.of (table_eq h.toTool (by omega) m1) ?_
  simp_arith [e]
  exact ⟨[], by simp⟩
end
theorem mod_add_self (a k m : Int) : (a + k) % m = (a + k % m) % m := by rw [Int.add_emod_emod]
theorem turnF_mod (m : Int) (t : List (Int × Int)) (k : Int) : turnF m t (k % m) = turnF m t k := by
  funext p
  unfold turnF
  rw [Int.add_emod_emod, Int.sub_emod_emod]
theorem turnF_sub (m : Int) (t : List (Int × Int)) (k : Int) : turnF m t (k - m) = turnF m t k := by
  rw [← turnF_mod, Int.sub_emod_right, turnF_mod]
theorem turn_turn {m : Int} {t : List (Int × Int)} (h : Tool1 m t) (m0 : 1 ≤ m) (j k : Int) : norm m (turnF m (norm m (turnF m t j)) k) = norm m (turnF m t (j + k)) := by
  refine norm_congr m0 fun p p0 p1 => ?_
  rw [show turnF m (norm m (turnF m t j)) k p = (tgt (norm m (turnF m t j)) ((p + k) % m) - k) % m from rfl, turn_tgt h m0 (Int.emod_nonneg _ (by omega)) (Int.emod_lt_of_pos _ (by omega))]
  unfold turnF
  rw [Int.emod_sub_emod, Int.emod_add_emod]
  congr 1
  have : p + k + j = p + (j + k) := by omega
  rw [this]; omega
theorem turn_zero {m : Int} {t : List (Int × Int)} (h : Tool1 m t) (m0 : 1 ≤ m) : norm m (turnF m t 0) = t := by
  have : norm m (turnF m t 0) = norm m (tgt t) := norm_congr m0 fun p p0 p1 => by
    unfold turnF
    have r := tgt_rg h.toTool p
    rw [Int.add_zero, Int.sub_zero, Int.emod_eq_of_lt p0 p1, Int.emod_eq_of_lt r.1 r.2]
  rw [this, norm_tgt h m0]
end QQ
end
section
set_option maxRecDepth 100000
set_option maxHeartbeats 1000000
/-! DQ3: law 24. -/
namespace QQ
open PySem DL
local macro_rules | `(tactic| simp_arith [$xs,*]) => `(tactic| simp only [eqL00, neL00, eqTi, neTi, eqLi, neLi, eqTp, neTp, eqLi0, neLi0, eqTi0, neTi0, eqLi1, inLi, notInLi, Go_ok, Go_exc, Go_bad, Br_t, Br_f, Br_not, xC_w, xV_w0, xV_ws, kB1_w, kB2_w, xBin_w, xT_w, xTr_w, asB_w, kAsB_w, truB_w, kTruB_w, kTruI_w, kTruN_w, kTruL_w, kTruT_w, kAndT_t, kAndT_f, kOrT_t, kOrT_f, kNotT_w, xAndT_w, 
  xOrT_w, xNotT_w, xYes_w, kOrD_w, kAndD_w, kOrD_t, kOrD_f, kAndD_t, kAndD_f, xOrD_w, xAndD_w, kNotB_w, xNot_w, kIfE_t, kIfE_f, xIf_w, xNil_w, kC1_w, kC2_w, xCons_w, kMut_w, xTup_w, xLst_w, xMut_w, kCB_w, xCB_w, kCall_w, 
  xCall_w, kNeg_w, xNeg_w, kCh1_w, kCh2_w, kCh4_t, kCh4_f, xChain_w, xNoPart_w, kPart_w, xPart_w, kSl1_w, kSl2_w, kSl3_w, xSl_w, xIsi_w, kBM_w, kBM2_w, xBM_w, tyD_L, kTup_0, kTup_1, kTup_2, kTup_3, kTup_4, kTup_5, kTup_6, 
  kTup_7, kTup_8, kLst_0, kLst_1, kLst_2, kLst_3, kLst_4, kLst_5, kLst_6, kLst_7, kLst_8, kIsi_int_NoneType, kIsi_int_bool, kIsi_int_int, kIsi_int_str, kIsi_int_list, kIsi_int_tuple, kIsi_bool_NoneType, kIsi_bool_bool, 
  kIsi_bool_int, kIsi_bool_str, kIsi_bool_list, kIsi_bool_tuple, kIsi_tuple_NoneType, kIsi_tuple_bool, kIsi_tuple_int, kIsi_tuple_str, kIsi_tuple_list, kIsi_tuple_tuple, kIsi_list_NoneType, kIsi_list_bool, kIsi_list_int, 
  kIsi_list_str, kIsi_list_list, kIsi_list_tuple, kIsi_str_NoneType, kIsi_str_bool, kIsi_str_int, kIsi_str_str, kIsi_str_list, kIsi_str_tuple, dAdd_w, dSub_w, dMul_w, dDiv_w, dMod_w, dPow_w, dCmp_w, dEqI_w, dNeI_w, dEqS_w, 
  dNeS_w, dAddT_w, dAddS_w, dAddL_w, dIsN_w, dIsNotN_w, isN_n, isN_i, isN_t, fLenL_w, fLenT_w, fAbs_w, fIntB_w, fMax2_w, fMin2_w, fMax_w, fMin_w, fSum_w, fSort_w, fSortT_w, fSSetT_w, fSSet_w, fAll_w, fTupleT_w, fTupleL_w, fListL_w, fListT_w, fRgT_w, 
  fRgL_w, fRgM_w, ixT0_w, ixT1_w, ixL0_w, ixL1_w, slT_w, slL_w, kNx_w, kEx_w, sk_nx, sk_rt, sk_bk, sk_ct, sk_xc, bk_rt, bk_nx, bkX_rt, bkX_nx, bkX_xc, xSeq_w, xPass_w, xBrk_w, xCnt_w, kDrop_w, xDrop_w, kRet_w, xRet_w, 
  xRetN_w, kIf_t, kIf_f, xIfS_w, kSet_w, xSet_w, kBd_w, Bd_nm, Bd_tp, Bd_tp3, kAsg_w, xAsg_w, kPar_w, kPar3_w, xPar_w, xPar3_w, kSto1_w, kSto2_w, xStore_w, kFor_w, xFor_w, xWhile_w, kWh_t, kWh_f, xBody_w, xBodyX_w, kIt_w, kRv_w, kIx_w, 
  xIt_w, xRg1_w, xRg2_w, xRg3_w, xZip_w, xEnm_w, xEnB_w, xRev_w, iR1_w, iR2_w, iSeqL_w, iSeqT_w, iSeqS_w, iZipT_w, iZipL_w, zOk_l, zOk_r, lk_nx, lk_ct, lk_bk, lk_rt, lk_xc, env0, wipeE, List.map_cons, List.map_nil, List.set_cons_zero, 
  List.set_cons_succ, List.length_cons, List.length_nil, List.length_map, Nat.reduceAdd, Nat.reduceSub, Nat.zero_add, List.reduceReplicate, List.cons_append, List.nil_append, true_and, and_true, Bool.not_true, 
  Bool.not_false, decide_true, decide_false, Nat.reduceLeDiff, Int.reduceLT, Int.reduceLE, Int.reduceNeg, reduceIte, reduceCtorEq, Int.reduceToNat, Int.reducePow, Int.reduceAdd, Int.reduceSub, Int.reduceMul, implies_true, false_implies, forall_const, eq_self, and_self, Int.cast_ofNat_Int, Int.natCast_zero, Int.natCast_one, Int.reduceEq, $xs,*])
/-- a frame of a law on a deck: script, deck, and n slots -/
def Fr (ns : List Int) (n j : Nat) (env : Envr) (S : Sto) : Prop := ∃ rest : Envr, env = some (.scr ns) :: some (.loc 1) :: rest ∧ rest.length = n ∧ Dk (j * 1000000) [] S
theorem Fr.mk {ns : List Int} {n j k : Nat} {rest : Envr} {S : Sto} (h : Dk k [] S) (hl : rest.length = n) (hk : j * 1000000 ≤ k) : Fr ns n j (some (.scr ns) :: some (.loc 1) :: rest) S := ⟨rest, rfl, hl, h.mono hk⟩
theorem law24_holds : ∀ ns : List Int, ns.length ≤ 63 → ∃ S', f_law24 [.scr ns] [] = .ok (dB true) S' := by
  intro ns hn
  refine law_end ?_
  obtain ⟨S0, e0, d0⟩ := deck2_ok ns
  simp_arith [m_law24]
  refine Go.of e0 ?_
  simp_arith [Go_ok]
  refine for_left (fun i : Int => dI i) (Fr ns 11) (Fr.mk d0 rfl (by rw [rgI_length]; decide)) ?_ ?_
  · rintro i hi j env S ⟨rest, rfl, hl, hd⟩
    match rest, hl with
    | [x2, x3, x4, x5, x6, x7, x8, x9, x10, x11, x12], _ =>
      simp_arith [m_law24_l1]
      refine circle_w (n := j * 1000000 + 900000) (hd.mono (by omega)) fun m S1 m0 m1 d1 => ?_
      simp_arith [Go_ok]
      refine tool5_w (n := j * 1000000 + 800000) (d1.mono (by omega)) m0 m1 fun t S2 ht d2 => ?_
      simp_arith [Go_ok]
      refine turn_w (n := j * 1000000 + 700000) (d2.mono (by omega)) m0 m1 fun k S3 k0 k1 d3 => ?_
      simp_arith [Go_ok]
      refine turn_w (n := j * 1000000 + 600000) (d3.mono (by omega)) m0 m1 fun k' S4 k0' k1' d4 => ?_
      simp_arith [Go_ok]
      refine Go.of (table_eq ht.toTool (by omega) (by omega)) ?_
      have hrep := ok_tool ht.toTool (m := m) (by omega)
      simp_arith [fRepr_w hrep]
      refine Go.of (turned_tool_eq ht.toTool m0 (by omega)) ?_
      simp_arith [Go_ok]
      refine comp_all (fun p : Int => dI p) (fun p => .int (turnF m t k p)) (ys := rgI 0 m) ?_ (by rw [rgI_length]; omega) ?_ ?_
      · simp_arith [Go_ok]; omega
      · intro p hp
        unfold Item
        simp_arith [ixTm_w (f := tgt t) (md (a := p + k) m0)]
        exact ⟨by omega, by omega, rfl⟩
      · rw [show (rgI 0 m).map (fun p => PyData.int (turnF m t k p)) = ((rgI 0 m).map (turnF m t k)).map .int by rw [List.map_map]; rfl]
        have ht' := turn_tool ht m0 (k := k)
        simp_arith [Go_ok]
        refine Go.of (told_eq ht' m0 (by omega) (List.map_congr_left fun p hp => ?_)) ?_
        · have hp := rgI_mem.mp hp
          exact turn_tgt ht m0 hp.1 hp.2
        simp_arith [Go_ok]
        refine ⟨by omega, Go.of (turned_tool_eq ht.toTool m0 (by omega)) ?_⟩
        simp_arith [turnF_mod]
        refine ⟨by omega, Go.of (turned_tool_eq ht.toTool m0 (by omega)) ?_⟩
        simp_arith [turnF_sub, turnF_mod]
        refine ⟨by omega, Go.of (turned_tool_eq ht.toTool m0 (by omega)) ?_⟩
        simp_arith [turnF_mod]
        refine Go.of (turned_tool_eq ht'.toTool m0 (by omega)) ?_
        simp_arith [turn_turn ht m0, fRepr_w hrep, beq_self_eq_true]
        refine Go.of (turned_tool_eq ht'.toTool m0 (by omega)) ?_
        simp_arith [turn_turn ht m0, show k + (0 - k) = 0 by omega, turn_zero ht m0, fRepr_w hrep, beq_self_eq_true]
        refine Go.of (turned_tool_eq ht.toTool m0 (by omega)) ?_
        simp_arith [turn_zero ht m0, fRepr_w hrep, beq_self_eq_true]
        exact Fr.mk d4 rfl (by omega)
  · rintro env S ⟨rest, rfl, hl, hd⟩
    simp_arith [Go_ok]
end QQ
end
section
set_option maxRecDepth 100000
set_option maxHeartbeats 1000000
/-! DQ4: law 25. -/
namespace QQ
open PySem DL
local macro_rules | `(tactic| simp_arith [$xs,*]) => `(tactic| simp only [eqL00, neL00, eqTi, neTi, eqLi, neLi, eqTp, neTp, eqLi0, neLi0, eqTi0, neTi0, eqLi1, inLi, notInLi, Go_ok, Go_exc, Go_bad, Br_t, Br_f, Br_not, xC_w, xV_w0, xV_ws, kB1_w, kB2_w, xBin_w, xT_w, xTr_w, asB_w, kAsB_w, truB_w, kTruB_w, kTruI_w, kTruN_w, kTruL_w, kTruT_w, kAndT_t, kAndT_f, kOrT_t, kOrT_f, kNotT_w, xAndT_w, 
  xOrT_w, xNotT_w, xYes_w, kOrD_w, kAndD_w, kOrD_t, kOrD_f, kAndD_t, kAndD_f, xOrD_w, xAndD_w, kNotB_w, xNot_w, kIfE_t, kIfE_f, xIf_w, xNil_w, kC1_w, kC2_w, xCons_w, kMut_w, xTup_w, xLst_w, xMut_w, kCB_w, xCB_w, kCall_w, 
  xCall_w, kNeg_w, xNeg_w, kCh1_w, kCh2_w, kCh4_t, kCh4_f, xChain_w, xNoPart_w, kPart_w, xPart_w, kSl1_w, kSl2_w, kSl3_w, xSl_w, xIsi_w, kBM_w, kBM2_w, xBM_w, tyD_L, kTup_0, kTup_1, kTup_2, kTup_3, kTup_4, kTup_5, kTup_6, 
  kTup_7, kTup_8, kLst_0, kLst_1, kLst_2, kLst_3, kLst_4, kLst_5, kLst_6, kLst_7, kLst_8, kIsi_int_NoneType, kIsi_int_bool, kIsi_int_int, kIsi_int_str, kIsi_int_list, kIsi_int_tuple, kIsi_bool_NoneType, kIsi_bool_bool, 
  kIsi_bool_int, kIsi_bool_str, kIsi_bool_list, kIsi_bool_tuple, kIsi_tuple_NoneType, kIsi_tuple_bool, kIsi_tuple_int, kIsi_tuple_str, kIsi_tuple_list, kIsi_tuple_tuple, kIsi_list_NoneType, kIsi_list_bool, kIsi_list_int, 
  kIsi_list_str, kIsi_list_list, kIsi_list_tuple, kIsi_str_NoneType, kIsi_str_bool, kIsi_str_int, kIsi_str_str, kIsi_str_list, kIsi_str_tuple, dAdd_w, dSub_w, dMul_w, dDiv_w, dMod_w, dPow_w, dCmp_w, dEqI_w, dNeI_w, dEqS_w, 
  dNeS_w, dAddT_w, dAddS_w, dAddL_w, dIsN_w, dIsNotN_w, isN_n, isN_i, isN_t, fLenL_w, fLenT_w, fAbs_w, fIntB_w, fMax2_w, fMin2_w, fMax_w, fMin_w, fSum_w, fSort_w, fSortT_w, fSSetT_w, fSSet_w, fAll_w, fTupleT_w, fTupleL_w, fListL_w, fListT_w, fRgT_w, 
  fRgL_w, fRgM_w, ixT0_w, ixT1_w, ixL0_w, ixL1_w, slT_w, slL_w, kNx_w, kEx_w, sk_nx, sk_rt, sk_bk, sk_ct, sk_xc, bk_rt, bk_nx, bkX_rt, bkX_nx, bkX_xc, xSeq_w, xPass_w, xBrk_w, xCnt_w, kDrop_w, xDrop_w, kRet_w, xRet_w, 
  xRetN_w, kIf_t, kIf_f, xIfS_w, kSet_w, xSet_w, kBd_w, Bd_nm, Bd_tp, Bd_tp3, kAsg_w, xAsg_w, kPar_w, kPar3_w, xPar_w, xPar3_w, kSto1_w, kSto2_w, xStore_w, kFor_w, xFor_w, xWhile_w, kWh_t, kWh_f, xBody_w, xBodyX_w, kIt_w, kRv_w, kIx_w, 
  xIt_w, xRg1_w, xRg2_w, xRg3_w, xZip_w, xEnm_w, xEnB_w, xRev_w, iR1_w, iR2_w, iSeqL_w, iSeqT_w, iSeqS_w, iZipT_w, iZipL_w, zOk_l, zOk_r, lk_nx, lk_ct, lk_bk, lk_rt, lk_xc, env0, wipeE, List.map_cons, List.map_nil, List.set_cons_zero, 
  List.set_cons_succ, List.length_cons, List.length_nil, List.length_map, Nat.reduceAdd, Nat.reduceSub, Nat.zero_add, List.reduceReplicate, List.cons_append, List.nil_append, true_and, and_true, Bool.not_true, 
  Bool.not_false, decide_true, decide_false, Nat.reduceLeDiff, Int.reduceLT, Int.reduceLE, Int.reduceNeg, reduceIte, reduceCtorEq, Int.reduceToNat, Int.reducePow, Int.reduceAdd, Int.reduceSub, Int.reduceMul, implies_true, false_implies, forall_const, eq_self, and_self, Int.cast_ofNat_Int, Int.natCast_zero, Int.natCast_one, Int.reduceEq, $xs,*])
theorem str_ext {a b : Str} (h : a.cps.toList = b.cps.toList) : a = b := by
  cases a; cases b
  simp only [Str.mk.injEq]
  exact Array.toList_inj.mp h
theorem _root_.DL.Sm.shl {n w : Nat} {d : PyData} (h : Sm n w d) : d.shown.length ≤ 42 * w + 40 := by
  have := PyData.shown_le 40 (by decide) d h.ls
  have := h.sz
  omega
theorem shown_two (a b : PyData) : PyData.shown (.list [a, b]) = ("[" : Str) ++ a.shown ++ (", " : Str) ++ b.shown ++ ("]" : Str) := by
  have e : (("[" : Str) ++ ("" : Str)) = ("[" : Str) := by decide +kernel
  show (((("[" : Str) ++ ("" : Str)) ++ a.shown) ++ (", " : Str)) ++ b.shown ++ ("]" : Str) = _
  rw [e]
theorem str_len (a b : Str) : (a ++ b).length = a.length + b.length := by
  show (a.cps ++ b.cps).size = _
  rw [Array.size_append]; rfl
theorem len_open : (Str.ofString "[").length = 1 := by decide +kernel
theorem len_close : (Str.ofString "]").length = 1 := by decide +kernel
theorem len_comma : (Str.ofString ", ").length = 2 := by decide +kernel
theorem mirF_mir {m : Int} {t : List (Int × Int)} (h : Tool1 m t) (m0 : 1 ≤ m) : norm m (mirF m (norm m (mirF m t))) = t := by
  have : norm m (mirF m (norm m (mirF m t))) = norm m (tgt t) := norm_congr m0 fun p p0 p1 => by
    rw [show mirF m (norm m (mirF m t)) p = (0 - tgt (norm m (mirF m t)) ((0 - p) % m)) % m from rfl, mir_tgt h m0 (md m0).1 (md m0).2]
    unfold mirF
    have r := tgt_rg h.toTool p
    rw [Int.sub_emod_emod, Int.sub_emod_emod, show 0 - (0 - p) = p by omega, Int.emod_eq_of_lt p0 p1, show 0 - (0 - tgt t p) = tgt t p by omega, Int.emod_eq_of_lt r.1 r.2]
  rw [this, norm_tgt h m0]
theorem turn_mir {m k : Int} {t : List (Int × Int)} (h : Tool1 m t) (m0 : 1 ≤ m) : norm m (turnF m (norm m (mirF m t)) k) = norm m (mirF m (norm m (turnF m t (0 - k)))) := by
  refine norm_congr m0 fun p p0 p1 => ?_
  rw [show turnF m (norm m (mirF m t)) k p = (tgt (norm m (mirF m t)) ((p + k) % m) - k) % m from rfl, mir_tgt h m0 (md m0).1 (md m0).2,
    show mirF m (norm m (turnF m t (0 - k))) p = (0 - tgt (norm m (turnF m t (0 - k))) ((0 - p) % m)) % m from rfl, turn_tgt h m0 (md m0).1 (md m0).2]
  unfold mirF turnF
  rw [Int.sub_emod_emod, Int.emod_sub_emod, Int.emod_add_emod, Int.sub_emod_emod, show 0 - p + (0 - k) = 0 - (p + k) by omega]
  congr 1
  omega
theorem law25_holds : ∀ ns : List Int, ns.length ≤ 63 → ∃ S', f_law25 [.scr ns] [] = .ok (dB true) S' := by
  intro ns hn
  refine law_end ?_
  obtain ⟨S0, e0, d0⟩ := deck2_ok ns
  simp_arith [m_law25]
  refine Go.of e0 ?_
  simp_arith [Go_ok]
  refine for_left (fun i : Int => dI i) (Fr ns 8) (Fr.mk d0 rfl (by rw [rgI_length]; decide)) ?_ ?_
  · rintro i hi j env S ⟨rest, rfl, hl, hd⟩
    match rest, hl with
    | [x2, x3, x4, x5, x6, x7, x8, x9], _ =>
      simp_arith [m_law25_l1]
      refine circle_w (n := j * 1000000 + 900000) (hd.mono (by omega)) fun m S1 m0 m1 d1 => ?_
      simp_arith [Go_ok]
      refine tool4_w (n := j * 1000000 + 800000) (d1.mono (by omega)) m0 m1 fun t S2 ht d2 => ?_
      simp_arith [Go_ok]
      refine Go.of (table_eq ht.toTool (by omega) (by omega)) ?_
      have hrep := ok_tool ht.toTool (m := m) (by omega)
      simp_arith [fRepr_w hrep]
      refine Go.of (mirrored_tool_eq ht.toTool m0 (by omega)) ?_
      simp_arith [Go_ok]
      refine draw2_w (n := j * 1000000 + 700000) (d2.mono (by omega)) (by omega) (by omega) fun k S3 k0 k1 d3 => ?_
      simp_arith [Go_ok]
      refine comp_all (fun p : Int => dI p) (fun p => .int (mirF m t p)) (ys := rgI 0 m) ?_ (by rw [rgI_length]; omega) ?_ ?_
      · simp_arith [Go_ok]; omega
      · intro p hp
        unfold Item
        simp_arith [ixTm_w (f := tgt t) (md (a := 0 - p) m0)]
        exact ⟨by omega, by omega, rfl⟩
      rw [show (rgI 0 m).map (fun p => PyData.int (mirF m t p)) = ((rgI 0 m).map (mirF m t)).map .int by rw [List.map_map]; rfl]
      have ht' := mir_tool ht m0
      simp_arith [Go_ok]
      refine Go.of (told_eq ht' m0 (by omega) (List.map_congr_left fun p hp => ?_)) ?_
      · have hp := rgI_mem.mp hp
        exact mir_tgt ht m0 hp.1 hp.2
      simp_arith [Go_ok]
      refine Go.of (mirrored_tool_eq ht'.toTool m0 (by omega)) ?_
      have hr2 : reprOk (.list [.tuple (t.map pr), .tuple (t.map pr)]) := (Sm.list (n := 2) (w := 289) fun d hd => by
        rcases List.mem_cons.mp hd with rfl | hd
        · exact sm_tool ht.toTool (by omega)
        · rw [List.mem_singleton.mp hd]; exact sm_tool ht.toTool (by omega)).ok (by decide) (by simp)
      have hlen := ((sm_tool ht.toTool (m := m) (by omega))).shl
      simp_arith [mirF_mir ht m0, fRepr_w hr2]
      rw [shown_two]
      generalize PyData.shown (.tuple (t.map pr)) = z at hlen ⊢
      simp_arith [str_len, len_open, len_close, len_comma]
      refine ⟨by omega, by omega, by omega, by omega, ?_⟩
      simp_arith [beq_self_eq_true]
      refine Go.of (turned_tool_eq ht'.toTool m0 (by omega)) ?_
      simp_arith [Go_ok]
      refine Go.of (turned_tool_eq ht.toTool m0 (by omega)) ?_
      simp_arith [Go_ok]
      refine Go.of (mirrored_tool_eq (turn_tool ht m0).toTool m0 (by omega)) ?_
      simp_arith [turn_mir ht m0]
      exact Fr.mk d3 rfl (by omega)
  · rintro env S ⟨rest, rfl, hl, hd⟩
    simp_arith [Go_ok]
end QQ
end
section
set_option maxRecDepth 100000
set_option maxHeartbeats 1000000
/-! DQ5: combined tools; law 28. -/
namespace QQ
open PySem DL
local macro_rules | `(tactic| simp_arith [$xs,*]) => `(tactic| simp only [eqL00, neL00, eqTi, neTi, eqLi, neLi, eqTp, neTp, eqLi0, neLi0, eqTi0, neTi0, eqLi1, inLi, notInLi, Go_ok, Go_exc, Go_bad, Br_t, Br_f, Br_not, xC_w, xV_w0, xV_ws, kB1_w, kB2_w, xBin_w, xT_w, xTr_w, asB_w, kAsB_w, truB_w, kTruB_w, kTruI_w, kTruN_w, kTruL_w, kTruT_w, kAndT_t, kAndT_f, kOrT_t, kOrT_f, kNotT_w, xAndT_w, 
  xOrT_w, xNotT_w, xYes_w, kOrD_w, kAndD_w, kOrD_t, kOrD_f, kAndD_t, kAndD_f, xOrD_w, xAndD_w, kNotB_w, xNot_w, kIfE_t, kIfE_f, xIf_w, xNil_w, kC1_w, kC2_w, xCons_w, kMut_w, xTup_w, xLst_w, xMut_w, kCB_w, xCB_w, kCall_w, 
  xCall_w, kNeg_w, xNeg_w, kCh1_w, kCh2_w, kCh4_t, kCh4_f, xChain_w, xNoPart_w, kPart_w, xPart_w, kSl1_w, kSl2_w, kSl3_w, xSl_w, xIsi_w, kBM_w, kBM2_w, xBM_w, tyD_L, kTup_0, kTup_1, kTup_2, kTup_3, kTup_4, kTup_5, kTup_6, 
  kTup_7, kTup_8, kLst_0, kLst_1, kLst_2, kLst_3, kLst_4, kLst_5, kLst_6, kLst_7, kLst_8, kIsi_int_NoneType, kIsi_int_bool, kIsi_int_int, kIsi_int_str, kIsi_int_list, kIsi_int_tuple, kIsi_bool_NoneType, kIsi_bool_bool, 
  kIsi_bool_int, kIsi_bool_str, kIsi_bool_list, kIsi_bool_tuple, kIsi_tuple_NoneType, kIsi_tuple_bool, kIsi_tuple_int, kIsi_tuple_str, kIsi_tuple_list, kIsi_tuple_tuple, kIsi_list_NoneType, kIsi_list_bool, kIsi_list_int, 
  kIsi_list_str, kIsi_list_list, kIsi_list_tuple, kIsi_str_NoneType, kIsi_str_bool, kIsi_str_int, kIsi_str_str, kIsi_str_list, kIsi_str_tuple, dAdd_w, dSub_w, dMul_w, dDiv_w, dMod_w, dPow_w, dCmp_w, dEqI_w, dNeI_w, dEqS_w, 
  dNeS_w, dAddT_w, dAddS_w, dAddL_w, dIsN_w, dIsNotN_w, isN_n, isN_i, isN_t, fLenL_w, fLenT_w, fAbs_w, fIntB_w, fMax2_w, fMin2_w, fMax_w, fMin_w, fSum_w, fSort_w, fSortT_w, fSSetT_w, fSSet_w, fAll_w, fTupleT_w, fTupleL_w, fListL_w, fListT_w, fRgT_w, 
  fRgL_w, fRgM_w, ixT0_w, ixT1_w, ixL0_w, ixL1_w, slT_w, slL_w, kNx_w, kEx_w, sk_nx, sk_rt, sk_bk, sk_ct, sk_xc, bk_rt, bk_nx, bkX_rt, bkX_nx, bkX_xc, xSeq_w, xPass_w, xBrk_w, xCnt_w, kDrop_w, xDrop_w, kRet_w, xRet_w, 
  xRetN_w, kIf_t, kIf_f, xIfS_w, kSet_w, xSet_w, kBd_w, Bd_nm, Bd_tp, Bd_tp3, kAsg_w, xAsg_w, kPar_w, kPar3_w, xPar_w, xPar3_w, kSto1_w, kSto2_w, xStore_w, kFor_w, xFor_w, xWhile_w, kWh_t, kWh_f, xBody_w, xBodyX_w, kIt_w, kRv_w, kIx_w, 
  xIt_w, xRg1_w, xRg2_w, xRg3_w, xZip_w, xEnm_w, xEnB_w, xRev_w, iR1_w, iR2_w, iSeqL_w, iSeqT_w, iSeqS_w, iZipT_w, iZipL_w, zOk_l, zOk_r, lk_nx, lk_ct, lk_bk, lk_rt, lk_xc, env0, wipeE, List.map_cons, List.map_nil, List.set_cons_zero, 
  List.set_cons_succ, List.length_cons, List.length_nil, List.length_map, Nat.reduceAdd, Nat.reduceSub, Nat.zero_add, List.reduceReplicate, List.cons_append, List.nil_append, true_and, and_true, Bool.not_true, 
  Bool.not_false, decide_true, decide_false, Nat.reduceLeDiff, Int.reduceLT, Int.reduceLE, Int.reduceNeg, reduceIte, reduceCtorEq, Int.reduceToNat, Int.reducePow, Int.reduceAdd, Int.reduceSub, Int.reduceMul, implies_true, false_implies, forall_const, eq_self, and_self, Int.cast_ofNat_Int, Int.natCast_zero, Int.natCast_one, Int.reduceEq, $xs,*])
def combF (m : Int) (t : List (Int × Int)) (k : Int) (u : List (Int × Int)) (p : Int) : Int := tgt u ((tgt t p + k) % m)
theorem tgt_one (p : Int × Int) (x : Int) : tgt [p] x = p.2 := by
  unfold tgt
  by_cases h : p.1 ≤ x <;> simp [h]
theorem chgs_le {m : Int} {t : List (Int × Int)} (h : Tool1 m t) (m0 : 1 ≤ m) : (chgs m (tgt t)).length ≤ t.length := by
  by_cases h2 : 2 ≤ t.length
  · rw [chgs_tgt h.toTool m0 h2, List.length_map]; exact Nat.le_refl _
  · obtain ⟨p, rfl⟩ : ∃ p, t = [p] := by
      match t, h.ne, h2 with
      | [p], _, _ => exact ⟨p, rfl⟩
      | p :: q :: r, _, hl => simp at hl
    have : chgs m (tgt [p]) = [] := by
      unfold chgs
      refine List.filter_eq_nil_iff.mpr fun x _ => ?_
      simp [tgt_one]
    rw [this]; simp
theorem norm_len {m : Int} {f : Int → Int} : (norm m f).length = if (chgs m f).isEmpty then 1 else (chgs m f).length := by
  unfold norm
  by_cases h : (chgs m f).isEmpty = true
  · rw [if_pos h, if_pos h]; rfl
  · rw [if_neg h, if_neg h, List.length_map]
theorem comb_chgs {m k : Int} {t u : List (Int × Int)} : ∀ p ∈ chgs m (combF m t k u), p ∈ chgs m (tgt t) := fun p hp => by
  obtain ⟨p0, p1, hne⟩ := chgs_mem hp
  refine List.mem_filter.mpr ⟨rgI_mem.mpr ⟨p0, p1⟩, ?_⟩
  have : tgt t p ≠ tgt t ((p - 1) % m) := fun e => hne (by unfold combF; rw [e])
  simpa using this
theorem comb_len {m k : Int} {t u : List (Int × Int)} (h : Tool1 m t) (m0 : 1 ≤ m) : (chgs m (combF m t k u)).length ≤ t.length :=
  Nat.le_trans (nodup_len ((chgs_lt m _).imp fun h => by omega) comb_chgs) (chgs_le h m0)
theorem comb_tool {m k : Int} {t u : List (Int × Int)} (h : Tool1 m t) (h' : Tool1 m u) (m0 : 1 ≤ m) : Tool1 m (norm m (combF m t k u)) := by
  obtain ⟨F, hF, e⟩ := tool_lift h.toTool m0
  obtain ⟨G, hG, e'⟩ := tool_lift h'.toTool m0
  refine norm_rise ((hF.add k).comp hG) (fun p p0 p1 => ?_) m0 (Nat.le_trans (comb_len h m0) h.len)
  have a := e p
  rw [Int.emod_eq_of_lt p0 p1] at a
  unfold combF
  rw [← a, Int.emod_add_emod, ← e']
theorem comb_tgt {m k p : Int} {t u : List (Int × Int)} (h : Tool1 m t) (h' : Tool1 m u) (m0 : 1 ≤ m) (p0 : 0 ≤ p) (p1 : p < m) : tgt (norm m (combF m t k u)) p = combF m t k u p := tgt_norm (comb_tool h h' m0).toTool m0 p0 p1
theorem combF_mod (m : Int) (t : List (Int × Int)) (k : Int) (u : List (Int × Int)) : combF m t (k % m) u = combF m t k u := by
  funext p
  unfold combF
  rw [Int.add_emod_emod]
section
variable {S : Sto} {m : Int}
theorem combined_eq {k : Int} {t u : List (Int × Int)} (h : Tool1 m t) (h' : Tool1 m u) (m0 : 1 ≤ m) (m1 : m ≤ 1000) : f_combined [dI m, dT (t.map pr), dI k, dT (u.map pr)] S = .ok (dT ((norm m (combF m t k u)).map pr)) S := by
  refine pure_eq ?_
  have := h.len
  have := h'.len
  simp_arith [m_combined]
  refine comp_all (fun p : Int => dI (tgt t p)) (fun p => .int (combF m t k u p)) (ys := rgI 0 m) ?_ (by rw [rgI_length]; omega) ?_ ?_
  · simp_arith [Go_ok]
    refine Go.of (table_of_eq h.ne (by omega) (by omega) m1) ?_
    simp_arith [List.map_map]
    rfl
  · intro p hp
    unfold Item
    simp_arith [Go_ok]
    refine ⟨by omega, Go.of (target_of_eq h'.ne (by omega)) ?_⟩
    exact ⟨rfl, rfl⟩
  rw [show (rgI 0 m).map (fun p => PyData.int (combF m t k u p)) = ((rgI 0 m).map (combF m t k u)).map .int by rw [List.map_map]; rfl]
  simp_arith [Go_ok]
  refine Go.of (pairs_of_eq m0 m1) ?_
  simp_arith [Go_ok]
  exact ⟨[], by simp⟩
end
theorem law28_holds : ∀ ns : List Int, ns.length ≤ 63 → ∃ S', f_law28 [.scr ns] [] = .ok (dB true) S' := by
  intro ns hn
  refine law_end ?_
  obtain ⟨S0, e0, d0⟩ := deck2_ok ns
  simp_arith [m_law28]
  refine Go.of e0 ?_
  simp_arith [Go_ok]
  refine for_left (fun i : Int => dI i) (Fr ns 10) (Fr.mk d0 rfl (by rw [rgI_length]; decide)) ?_ ?_
  · rintro i hi j env S ⟨rest, rfl, hl, hd⟩
    match rest, hl with
    | [x2, x3, x4, x5, x6, x7, x8, x9, x10, x11], _ =>
      simp_arith [m_law28_l1]
      refine circle_w (n := j * 1000000 + 900000) (hd.mono (by omega)) fun m S1 m0 m1 d1 => ?_
      simp_arith [Go_ok]
      refine tool5_w (n := j * 1000000 + 800000) (d1.mono (by omega)) m0 m1 fun t S2 ht d2 => ?_
      simp_arith [Go_ok]
      refine tool5_w (n := j * 1000000 + 700000) (d2.mono (by omega)) m0 m1 fun u S3 hu d3 => ?_
      simp_arith [Go_ok]
      refine turn_w (n := j * 1000000 + 600000) (d3.mono (by omega)) m0 m1 fun k S4 k0 k1 d4 => ?_
      have hr2 : reprOk (.list [.tuple (t.map pr), .tuple (u.map pr)]) := (Sm.list (n := 2) (w := 289) fun d hd => by
        rcases List.mem_cons.mp hd with rfl | hd
        · exact sm_tool ht.toTool (by omega)
        · rw [List.mem_singleton.mp hd]; exact sm_tool hu.toTool (by omega)).ok (by decide) (by simp)
      simp_arith [fRepr_w hr2]
      refine Go.of (table_eq hu.toTool (by omega) (by omega)) ?_
      simp_arith [Go_ok]
      refine comp_all (fun p : Int => dI (tgt t p)) (fun p => .int (combF m t k u p)) (ys := rgI 0 m) ?_ (by rw [rgI_length]; omega) ?_ ?_
      · simp_arith [Go_ok]
        refine Go.of (table_eq ht.toTool (by omega) (by omega)) ?_
        simp_arith [List.map_map]
        rfl
      · intro p hp
        unfold Item
        simp_arith [ixTm_w (f := tgt u) (md (a := tgt t p + k) m0)]
        exact ⟨by omega, rfl⟩
      rw [show (rgI 0 m).map (fun p => PyData.int (combF m t k u p)) = ((rgI 0 m).map (combF m t k u)).map .int by rw [List.map_map]; rfl]
      simp_arith [Go_ok]
      refine Go.of (combined_eq ht hu m0 (by omega)) ?_
      have ht' := comb_tool ht hu m0 (k := k)
      simp_arith [Go_ok]
      refine Go.of (told_eq ht' m0 (by omega) (List.map_congr_left fun p hp => ?_)) ?_
      · have hp := rgI_mem.mp hp
        exact comb_tgt ht hu m0 hp.1 hp.2
      have hle : (norm m (combF m t k u)).length ≤ t.length := by
        rw [norm_len]
        have := comb_len (k := k) (u := u) ht m0
        have := List.length_pos_iff.mpr ht.ne
        split <;> omega
      simp_arith [show decide ((t.length : Int) < (norm m (combF m t k u)).length) = false from decide_eq_false (by omega), fRepr_w hr2, beq_self_eq_true]
      refine ⟨by omega, Go.of (combined_eq ht hu m0 (by omega)) ?_⟩
      simp_arith [combF_mod]
      exact Fr.mk d4 rfl (by omega)
  · rintro env S ⟨rest, rfl, hl, hd⟩
    simp_arith [Go_ok]
end QQ
end
section
set_option maxRecDepth 100000
set_option maxHeartbeats 1000000
/-! DQ6: a plan as a tool; law 29. -/
namespace QQ
open PySem DL
local macro_rules | `(tactic| simp_arith [$xs,*]) => `(tactic| simp only [eqL00, neL00, eqTi, neTi, eqLi, neLi, eqTp, neTp, eqLi0, neLi0, eqTi0, neTi0, eqLi1, inLi, notInLi, Go_ok, Go_exc, Go_bad, Br_t, Br_f, Br_not, xC_w, xV_w0, xV_ws, kB1_w, kB2_w, xBin_w, xT_w, xTr_w, asB_w, kAsB_w, truB_w, kTruB_w, kTruI_w, kTruN_w, kTruL_w, kTruT_w, kAndT_t, kAndT_f, kOrT_t, kOrT_f, kNotT_w, xAndT_w, 
  xOrT_w, xNotT_w, xYes_w, kOrD_w, kAndD_w, kOrD_t, kOrD_f, kAndD_t, kAndD_f, xOrD_w, xAndD_w, kNotB_w, xNot_w, kIfE_t, kIfE_f, xIf_w, xNil_w, kC1_w, kC2_w, xCons_w, kMut_w, xTup_w, xLst_w, xMut_w, kCB_w, xCB_w, kCall_w, 
  xCall_w, kNeg_w, xNeg_w, kCh1_w, kCh2_w, kCh4_t, kCh4_f, xChain_w, xNoPart_w, kPart_w, xPart_w, kSl1_w, kSl2_w, kSl3_w, xSl_w, xIsi_w, kBM_w, kBM2_w, xBM_w, tyD_L, kTup_0, kTup_1, kTup_2, kTup_3, kTup_4, kTup_5, kTup_6, 
  kTup_7, kTup_8, kLst_0, kLst_1, kLst_2, kLst_3, kLst_4, kLst_5, kLst_6, kLst_7, kLst_8, kIsi_int_NoneType, kIsi_int_bool, kIsi_int_int, kIsi_int_str, kIsi_int_list, kIsi_int_tuple, kIsi_bool_NoneType, kIsi_bool_bool, 
  kIsi_bool_int, kIsi_bool_str, kIsi_bool_list, kIsi_bool_tuple, kIsi_tuple_NoneType, kIsi_tuple_bool, kIsi_tuple_int, kIsi_tuple_str, kIsi_tuple_list, kIsi_tuple_tuple, kIsi_list_NoneType, kIsi_list_bool, kIsi_list_int, 
  kIsi_list_str, kIsi_list_list, kIsi_list_tuple, kIsi_str_NoneType, kIsi_str_bool, kIsi_str_int, kIsi_str_str, kIsi_str_list, kIsi_str_tuple, dAdd_w, dSub_w, dMul_w, dDiv_w, dMod_w, dPow_w, dCmp_w, dEqI_w, dNeI_w, dEqS_w, 
  dNeS_w, dAddT_w, dAddS_w, dAddL_w, dIsN_w, dIsNotN_w, isN_n, isN_i, isN_t, fLenL_w, fLenT_w, fAbs_w, fIntB_w, fMax2_w, fMin2_w, fMax_w, fMin_w, fSum_w, fSort_w, fSortT_w, fSSetT_w, fSSet_w, fAll_w, fTupleT_w, fTupleL_w, fListL_w, fListT_w, fRgT_w, 
  fRgL_w, fRgM_w, ixT0_w, ixT1_w, ixL0_w, ixL1_w, slT_w, slL_w, kNx_w, kEx_w, sk_nx, sk_rt, sk_bk, sk_ct, sk_xc, bk_rt, bk_nx, bkX_rt, bkX_nx, bkX_xc, xSeq_w, xPass_w, xBrk_w, xCnt_w, kDrop_w, xDrop_w, kRet_w, xRet_w, 
  xRetN_w, kIf_t, kIf_f, xIfS_w, kSet_w, xSet_w, kBd_w, Bd_nm, Bd_tp, Bd_tp3, kAsg_w, xAsg_w, kPar_w, kPar3_w, xPar_w, xPar3_w, kSto1_w, kSto2_w, xStore_w, kFor_w, xFor_w, xWhile_w, kWh_t, kWh_f, xBody_w, xBodyX_w, kIt_w, kRv_w, kIx_w, 
  xIt_w, xRg1_w, xRg2_w, xRg3_w, xZip_w, xEnm_w, xEnB_w, xRev_w, iR1_w, iR2_w, iSeqL_w, iSeqT_w, iSeqS_w, iZipT_w, iZipL_w, zOk_l, zOk_r, lk_nx, lk_ct, lk_bk, lk_rt, lk_xc, env0, wipeE, List.map_cons, List.map_nil, List.set_cons_zero, 
  List.set_cons_succ, List.length_cons, List.length_nil, List.length_map, Nat.reduceAdd, Nat.reduceSub, Nat.zero_add, List.reduceReplicate, List.cons_append, List.nil_append, true_and, and_true, Bool.not_true, 
  Bool.not_false, decide_true, decide_false, Nat.reduceLeDiff, Int.reduceLT, Int.reduceLE, Int.reduceNeg, reduceIte, reduceCtorEq, Int.reduceToNat, Int.reducePow, Int.reduceAdd, Int.reduceSub, Int.reduceMul, implies_true, false_implies, forall_const, eq_self, and_self, Int.cast_ofNat_Int, Int.natCast_zero, Int.natCast_one, Int.reduceEq, $xs,*])
/-- a tool, a push, as data -/
abbrev tT (t : List (Int × Int)) : PyData := .tuple (t.map pr)
/-- a tool by its index -/
def nth (ts : List (List (Int × Int))) (i : Int) : List (Int × Int) := ts.getD i.toNat []
theorem nth_get {ts : List (List (Int × Int))} {i : Int} (h0 : 0 ≤ i) (h1 : i < ts.length) : ts[i.toNat]? = some (nth ts i) := by
  unfold nth
  rw [List.getD_eq_getElem?_getD, List.getElem?_eq_getElem (by omega)]
  rfl
theorem nth_mem {ts : List (List (Int × Int))} {i : Int} (h0 : 0 ≤ i) (h1 : i < ts.length) : nth ts i ∈ ts := List.mem_of_getElem? (nth_get h0 h1)
/-- where a plan sends a place -/
def planF (m : Int) (ts : List (List (Int × Int))) : List (Int × Int) → Int → Int
  | [], x => x
  | q :: pl, x => planF m ts pl (tgt (nth ts q.2) ((x + q.1) % m))
theorem planF_snoc (m : Int) (ts : List (List (Int × Int))) (q : Int × Int) : ∀ (pl : List (Int × Int)) (x : Int), planF m ts (pl ++ [q]) x = tgt (nth ts q.2) ((planF m ts pl x + q.1) % m)
  | [], x => rfl
  | p :: pl, x => planF_snoc m ts q pl _
theorem planF_append (m : Int) (ts : List (List (Int × Int))) : ∀ (pl ql : List (Int × Int)) (x : Int), planF m ts (pl ++ ql) x = planF m ts ql (planF m ts pl x)
  | [], ql, x => rfl
  | p :: pl, ql, x => planF_append m ts pl ql _
theorem Lift.shift {m : Int} (k : Int) : Lift m fun x => x + k := ⟨fun x y h => by omega, fun x => by omega⟩
theorem plan_lift {m : Int} {ts : List (List (Int × Int))} (ht : ∀ t ∈ ts, Tool m t) (m0 : 1 ≤ m) : ∀ {pl : List (Int × Int)}, (∀ q ∈ pl, 0 ≤ q.2 ∧ q.2 < ts.length) → ∃ F : Int → Int, Lift m F ∧ ∀ x, F x % m = planF m ts pl (x % m)
  | [], _ => ⟨fun x => x + 0, Lift.shift 0, fun x => by show (x + 0) % m = x % m; rw [Int.add_zero]⟩
  | q :: pl, h => by
    have hq := h q List.mem_cons_self
    obtain ⟨F, hF, e⟩ := tool_lift (ht _ (nth_mem hq.1 hq.2)) m0
    obtain ⟨G, hG, e'⟩ := plan_lift ht m0 (pl := pl) fun p hp => h p (List.mem_cons_of_mem _ hp)
    refine ⟨_, ((Lift.shift q.1).comp hF).comp hG, fun x => ?_⟩
    show G (F (x + q.1)) % m = planF m ts pl (tgt (nth ts q.2) ((x % m + q.1) % m))
    rw [e', e, Int.emod_add_emod]
theorem plan_tool_ok {m : Int} {ts : List (List (Int × Int))} (ht : ∀ t ∈ ts, Tool1 m t) (m0 : 1 ≤ m) {pl : List (Int × Int)} (h : ∀ q ∈ pl, 0 ≤ q.2 ∧ q.2 < ts.length) (ne : pl ≠ []) : Tool1 m (norm m (planF m ts pl)) := by
  obtain ⟨F, hF, e⟩ := plan_lift (fun t h => (ht t h).toTool) m0 h
  obtain ⟨q, pl, rfl⟩ : ∃ q r, pl = q :: r := by
    cases pl with
    | nil => exact absurd rfl ne
    | cons q r => exact ⟨q, r, rfl⟩
  have hq := h q List.mem_cons_self
  have h1 := ht _ (nth_mem hq.1 hq.2)
  refine norm_rise hF (fun p p0 p1 => ?_) m0 (Nat.le_trans (count_of (f := tgt (nth ts q.2)) (k := fun p => (p + q.1) % m) (fun p hp => ?_) fun p r hp hr eq => ?_) (chgs_count h1 m0))
  · rw [e, Int.emod_eq_of_lt p0 p1]
  · obtain ⟨p0, p1, hne⟩ := chgs_mem hp
    refine List.mem_filter.mpr ⟨rgI_mem.mpr ⟨Int.emod_nonneg _ (by omega), Int.emod_lt_of_pos _ (by omega)⟩, ?_⟩
    have : tgt (nth ts q.2) ((p + q.1) % m) ≠ tgt (nth ts q.2) (((p + q.1) % m - 1) % m) := fun z => by
      refine hne ?_
      show planF m ts pl _ = planF m ts pl _
      have e2 : ((p - 1) % m + q.1) % m = ((p + q.1) % m - 1) % m := by
        rw [Int.emod_add_emod, Int.emod_sub_emod]
        congr 1; omega
      rw [e2, z]
    simpa using this
  · have a := chgs_mem hp
    have b := chgs_mem hr
    exact add_inj a.1 a.2.1 b.1 b.2.1 eq
theorem plan_tgt {m p : Int} {ts : List (List (Int × Int))} (ht : ∀ t ∈ ts, Tool1 m t) (m0 : 1 ≤ m) {pl : List (Int × Int)} (h : ∀ q ∈ pl, 0 ≤ q.2 ∧ q.2 < ts.length) (ne : pl ≠ []) (p0 : 0 ≤ p) (p1 : p < m) : tgt (norm m (planF m ts pl)) p = planF m ts pl p :=
  tgt_norm (plan_tool_ok ht m0 h ne).toTool m0 p0 p1
section
variable {Q : QR D} {E : QX} {n : Nat} {T S : Sto} {m : Int} {ts : List (List (Int × Int))} {pl : List (Int × Int)}
theorem ixTool_w {i : Int} (h : 0 ≤ i ∧ i < ts.length) : Go (dIxD (dT (ts.map tT)) (dI i) S) Q E = Q (dT ((nth ts i).map pr)) S :=
  ixT_w h.1 (by rw [List.getElem?_map, nth_get h.1 h.2]; rfl)
theorem plan_tool_eq (ht : ∀ t ∈ ts, Tool1 m t) (m0 : 1 ≤ m) (m1 : m ≤ 1000) (h : ∀ q ∈ pl, 0 ≤ q.2 ∧ q.2 < ts.length) : f_plan_tool [dI m, dT (ts.map tT), dT (pl.map pr)] S = .ok (dT ((norm m (planF m ts pl)).map pr)) S := by
  refine pure_eq ?_
  simp_arith [m_plan_tool]
  refine ⟨by omega, ?_⟩
  rw [mapDpy]
  refine for_go (fun p => D.py (pr p)) (fun a env S' => ∃ x4 x5 x6, env = [some (dI m), some (dT (ts.map tT)), some (dT (pl.map pr)), some (dL (((rgI 0 m).map (planF m ts a)).map .int)), x4, x5, x6] ∧ S' = S) pl [] _ _ ⟨none, none, none, ?_, rfl⟩ ?_ ?_
  · rw [show planF m ts [] = fun x => x from rfl, List.map_id']
  · rintro a q b env S' e ⟨x4, x5, x6, rfl, rfl⟩
    have hq : q ∈ pl := by
      have : q ∈ [] ++ pl := by rw [e]; simp
      simpa using this
    have hq := h q hq
    have h1 := ht _ (nth_mem hq.1 hq.2)
    have := h1.len
    simp_arith [m_plan_tool_l1, pr_tup]
    refine comp_all (fun p : Int => dI (planF m ts a p)) (fun p => .int (planF m ts (a ++ [q]) p)) (ys := rgI 0 m) ?_ (by rw [rgI_length]; omega) ?_ ?_
    · simp_arith [List.map_map]
      rfl
    · intro p hp
      unfold Item
      simp_arith [ixTool_w hq]
      refine ⟨by omega, Go.of (target_of_eq h1.ne (by omega)) ?_⟩
      rw [planF_snoc]
      exact ⟨rfl, rfl⟩
    rw [map_int (planF m ts (a ++ [q])) (rgI 0 m)]
    simp_arith [Go_ok]
    exact ⟨_, _, _, rfl⟩
  · rintro env S' ⟨x4, x5, x6, rfl, rfl⟩
    simp_arith [List.nil_append]
    refine Go.of (pairs_of_eq m0 m1) ?_
    simp_arith [Go_ok]
    exact ⟨[], by simp⟩
theorem plan_sm (hl : ∀ t ∈ ts, Tool m t) (m1 : m ≤ 1000) (nt : ts.length ≤ 4) (np : pl.length ≤ 100) (hk : ∀ q ∈ pl, -(10 ^ 30) < q.1 ∧ q.1 < 10 ^ 30 ∧ 0 ≤ q.2 ∧ q.2 < 4) : reprOk (.list [.tuple (ts.map tT), .tuple (pl.map pr)]) := by
  have h1 : Sm 3 21000 (.tuple (ts.map tT)) := (Sm.tuple (n := 2) (w := 289) (xs := ts.map tT) fun d hd => by
    obtain ⟨t, ht, rfl⟩ := List.mem_map.mp hd
    exact sm_tool (hl t ht) m1).mono (by decide) (by rw [List.length_map]; omega)
  have h2 : Sm 2 20000 (.tuple (pl.map pr)) := (Sm.tuple (n := 1) (w := 120) (xs := pl.map pr) fun d hd => by
    obtain ⟨q, hq, rfl⟩ := List.mem_map.mp hd
    have := hk q hq
    exact (Sm.tup2 (Sm.int (k := 100) (i := q.1) (by omega) (by decide)) (Sm.int (k := 2) (i := q.2) (by omega) (by decide))).mono (Nat.le_refl _) (by decide)).mono (by decide) (by rw [List.length_map]; omega)
  have h1 : Sm 3 1200 (.tuple (ts.map tT)) := (Sm.tuple (n := 2) (w := 289) (xs := ts.map tT) fun d hd => by
    obtain ⟨t, ht, rfl⟩ := List.mem_map.mp hd
    exact sm_tool (hl t ht) m1).mono (by decide) (by rw [List.length_map]; omega)
  exact (Sm.lst2 h1 (h2.mono (by decide) (Nat.le_refl _))).ok (by decide) (by decide)
theorem right_eq (nl : ts.length ≤ 1000) (ht : ∀ t ∈ ts, Tool1 m t) (m0 : 1 ≤ m) (m1 : m ≤ 1000) (h : ∀ q ∈ pl, 0 ≤ q.2 ∧ q.2 < ts.length) (ne : pl ≠ []) (hr : reprOk (.list [.tuple (ts.map tT), .tuple (pl.map pr)])) {d : D} :
    f_right [d, dI m, dT (ts.map tT), dT (pl.map pr)] S = .ok (dB true) S := by
  refine pure_eq ?_
  simp_arith [m_right]
  refine comp_all (fun t => D.py (tT t)) (fun t => .tuple (((rgI 0 m).map (tgt t)).map .int)) (ys := ts) ?_ (by omega) ?_ ?_
  · simp_arith [mapDpy]
  · intro t hT
    unfold Item
    simp_arith [Go_ok]
    refine Go.of (table_eq (ht t hT).toTool (by omega) m1) ?_
    exact ⟨rfl, rfl⟩
  simp_arith [fRepr_w hr]
  refine ⟨by omega, ?_⟩
  rw [mapDpy]
  refine for_go (fun p => D.py (pr p)) (fun a env S' => ∃ x7 x8 x9 x10 x11, env = [some d, some (dI m), some (dT (ts.map tT)), some (dT (pl.map pr)), some (dL (ts.map fun t => .tuple (((rgI 0 m).map (tgt t)).map .int))), some (dS (PyData.shown (.list [.tuple (ts.map tT), .tuple (pl.map pr)]))), some (dL (((rgI 0 m).map (planF m ts a)).map .int)), x7, x8, x9, x10, x11] ∧ S' = S) pl [] _ _ ⟨none, none, none, none, none, ?_, rfl⟩ ?_ ?_
  · rw [show planF m ts [] = fun x => x from rfl, List.map_id']
  · rintro a q b env S' e ⟨x7, x8, x9, x10, x11, rfl, rfl⟩
    have hq : q ∈ pl := by
      have : q ∈ [] ++ pl := by rw [e]; simp
      simpa using this
    have hq := h q hq
    simp_arith [m_right_l1, pr_tup]
    refine comp_all (fun p : Int => dI (planF m ts a p)) (fun p => .int (planF m ts (a ++ [q]) p)) (ys := rgI 0 m) ?_ (by rw [rgI_length]; omega) ?_ ?_
    · simp_arith [List.map_map]
      rfl
    · intro p hp
      unfold Item
      simp_arith [ixL_w (xs := ts.map fun t => .tuple (((rgI 0 m).map (tgt t)).map .int)) (v := .tuple (((rgI 0 m).map (tgt (nth ts q.2))).map .int)) hq.1 (by rw [List.getElem?_map, nth_get hq.1 hq.2]; rfl), ixTm_w (f := tgt (nth ts q.2)) (md (a := planF m ts a p + q.1) m0), planF_snoc]
      omega
    rw [map_int (planF m ts (a ++ [q])) (rgI 0 m)]
    simp_arith [Go_ok]
    exact ⟨_, _, _, _, _, rfl⟩
  · rintro env S' ⟨x7, x8, x9, x10, x11, rfl, rfl⟩
    simp_arith [List.nil_append]
    have hp := plan_tool_ok ht m0 h ne
    refine Go.of (plan_tool_eq ht m0 m1 h) ?_
    simp_arith [Go_ok]
    refine Go.of (told_eq hp m0 m1 (List.map_congr_left fun p hp => ?_)) ?_
    · have hp := rgI_mem.mp hp
      exact plan_tgt ht m0 h ne hp.1 hp.2
    simp_arith [Go_ok]
    refine Go.of (plan_tool_eq ht m0 m1 h) ?_
    simp_arith [fRepr_w hr, beq_self_eq_true]
    exact ⟨[], by simp⟩
end
end QQ
end
section
set_option maxRecDepth 100000
set_option maxHeartbeats 1000000
/-! DR0: how many places a tool sends into an arc. -/
namespace QQ
open PySem DL
/-- the places whose target satisfies P -/
def cntP (m : Int) (t : List (Int × Int)) (P : Int → Bool) : Nat := ((rgI 0 m).filter fun p => P (tgt t p)).length
/-- sizes of the arcs, with the end of the last one -/
def sizes : List (Int × Int) → Int → List (Int × Int)
  | [], _ => []
  | [q], e => [(e - q.1, q.2)]
  | q :: r :: s, e => (r.1 - q.1, q.2) :: sizes (r :: s) e
theorem rgI_app {a b c : Int} (h1 : a ≤ b) (h2 : b ≤ c) : rgI a c = rgI a b ++ rgI b c := by
  unfold rgI
  have : (c - a).toNat = (b - a).toNat + (c - b).toNat := by omega
  rw [this, List.range_add, List.map_append, List.map_map]
  congr 1
  refine List.map_congr_left fun i _ => ?_
  simp only [Function.comp]
  omega
theorem rgI_shift (a b k : Int) : rgI (a + k) (b + k) = (rgI a b).map fun x => x + k := by
  unfold rgI
  rw [List.map_map, show b + k - (a + k) = b - a by omega]
  refine List.map_congr_left fun i _ => ?_
  simp only [Function.comp]
  omega
theorem len_const {α : Type} (c : Bool) (xs : List α) : (xs.filter fun _ => c).length = if c = true then xs.length else 0 := by
  cases c <;> simp
/-- from the first begin up to an end behind all begins -/
theorem seg_count (P : Int → Bool) : ∀ (t : List (Int × Int)) (q : Int × Int) (e : Int), (q :: t).Pairwise (fun a b => a.1 < b.1) → (∀ z ∈ q :: t, z.1 < e) →
    (((rgI q.1 e).filter fun p => P (tgt (q :: t) p)).length : Int) = (((sizes (q :: t) e).filter fun s => P s.2).map Prod.fst).sum
  | [], q, e, h, he => by
    have hq := he q List.mem_cons_self
    have : (rgI q.1 e).filter (fun p => P (tgt [q] p)) = (rgI q.1 e).filter fun _ => P q.2 := List.filter_congr fun p _ => by
      unfold tgt
      by_cases h : q.1 ≤ p <;> simp [h]
    rw [this, len_const, rgI_length]
    simp only [sizes]
    by_cases hp : P q.2 = true
    · simp [hp]; omega
    · simp [hp]
  | r :: s, q, e, h, he => by
    have hq := he q List.mem_cons_self
    have hr := he r (List.mem_cons_of_mem _ List.mem_cons_self)
    obtain ⟨h1, h2⟩ := List.pairwise_cons.mp h
    have hqr := h1 r List.mem_cons_self
    have ih := seg_count P s r e h2 fun z hz => he z (List.mem_cons_of_mem _ hz)
    rw [rgI_app (show q.1 ≤ r.1 by omega) (show r.1 ≤ e by omega), List.filter_append, List.length_append]
    have e1 : (rgI q.1 r.1).filter (fun p => P (tgt (q :: r :: s) p)) = (rgI q.1 r.1).filter fun _ => P q.2 := List.filter_congr fun p hp => by
      have hp := rgI_mem.mp hp
      rw [tgt_at h List.mem_cons_self hp.1 fun z hz hzp => by
        rcases List.mem_cons.mp hz with rfl | hz
        · exact Int.le_refl _
        · have : r.1 ≤ z.1 := by
            rcases List.mem_cons.mp hz with rfl | hz
            · exact Int.le_refl _
            · exact Int.le_of_lt ((List.pairwise_cons.mp h2).1 z hz)
          omega]
    have e2 : (rgI r.1 e).filter (fun p => P (tgt (q :: r :: s) p)) = (rgI r.1 e).filter fun p => P (tgt (r :: s) p) := List.filter_congr fun p hp => by
      have hp := rgI_mem.mp hp
      congr 1
      unfold tgt
      rw [List.filter_cons_of_pos (by simp; omega), List.filter_cons_of_pos (p := fun q => decide (q.1 ≤ p)) (a := r) (by simp; omega), List.getLast?_cons_cons]
      split
      · rfl
      · rename_i h; simp at h
    rw [e1, e2, len_const, rgI_length, Int.natCast_add, ih]
    simp only [sizes]
    by_cases hp : P q.2 = true
    · simp [hp]; omega
    · simp [hp]
theorem seg_whole {m : Int} {t : List (Int × Int)} (h : Tool m t) (P : Int → Bool) : (cntP m t P : Int) = (((sizes t ((t.headD (0, 0)).1 + m)).filter fun s => P s.2).map Prod.fst).sum := by
  obtain ⟨q, r, rfl⟩ : ∃ q r, t = q :: r := by
    cases t with
    | nil => exact absurd rfl h.ne
    | cons q r => exact ⟨q, r, rfl⟩
  have hq := h.rg q List.mem_cons_self
  rw [List.headD_cons, ← seg_count P r q _ h.lt fun z hz => by have := h.rg z hz; omega]
  unfold cntP
  rw [rgI_app hq.1 (Int.le_of_lt hq.2.1), rgI_app (a := q.1) (b := m) (c := q.1 + m) (by omega) (by omega)]
  have e : rgI m (q.1 + m) = (rgI 0 q.1).map fun x => x + m := by
    have := rgI_shift 0 q.1 m
    rw [Int.zero_add] at this
    exact this
  rw [e, List.filter_append, List.filter_append, List.length_append, List.length_append, List.filter_map, List.length_map]
  have e2 : (rgI 0 q.1).filter ((fun p => P (tgt (q :: r) p)) ∘ fun x => x + m) = (rgI 0 q.1).filter fun p => P (tgt (q :: r) p) := List.filter_congr fun p hp => by
    have hp := rgI_mem.mp hp
    simp only [Function.comp]
    congr 1
    have all : ∀ z ∈ q :: r, q.1 ≤ z.1 := fun z hz => by
      rcases List.mem_cons.mp hz with rfl | hz
      · exact Int.le_refl _
      · exact Int.le_of_lt ((List.pairwise_cons.mp h.lt).1 z hz)
    rw [tgt_none (p := p) fun z hz => by have := all z hz; omega]
    unfold tgt
    rw [List.filter_eq_self.mpr fun z hz => by have := h.rg z hz; simp; omega]
    cases e : (q :: r).getLast? with
    | none => simp at e
    | some z => rfl
  rw [e2]
  omega
/-- how many places are sent into an arc -/
def inArc (m b L x : Int) : Bool := decide ((x - b) % m < L)
def cnt (m : Int) (t : List (Int × Int)) (b L : Int) : Int := (cntP m t (inArc m b L) : Nat)
theorem cntP_mono {m : Int} {t : List (Int × Int)} {P Q : Int → Bool} (h : ∀ p, 0 ≤ p → p < m → P (tgt t p) = true → Q (tgt t p) = true) : cntP m t P ≤ cntP m t Q := by
  unfold cntP
  rw [← List.countP_eq_length_filter, ← List.countP_eq_length_filter]
  refine List.countP_mono_left fun p hp => ?_
  have hp := rgI_mem.mp hp
  exact h p hp.1 hp.2
theorem cntP_le {m : Int} {t : List (Int × Int)} {P : Int → Bool} : (cntP m t P : Int) ≤ m.toNat := by
  unfold cntP
  have := List.length_filter_le (fun p => P (tgt t p)) (rgI 0 m)
  rw [rgI_length, Int.sub_zero] at this
  omega
theorem cnt_le {m b L : Int} {t : List (Int × Int)} (m0 : 0 ≤ m) : cnt m t b L ≤ m := by
  have := cntP_le (m := m) (t := t) (P := inArc m b L)
  unfold cnt
  omega
theorem cnt_nn {m b L : Int} {t : List (Int × Int)} : 0 ≤ cnt m t b L := Int.natCast_nonneg _
/-- the target of an arc is one of the targets -/
theorem tgt_mem {m : Int} {t : List (Int × Int)} (h : Tool m t) (p : Int) : ∃ q ∈ t, tgt t p = q.2 := by
  obtain ⟨q, hq, e, _⟩ := tgt_cases h.lt h.ne p
  exact ⟨q, hq, e⟩
/-- no arc gets more places than one that begins at a target -/
theorem cnt_target {m b L : Int} {t : List (Int × Int)} (h : Tool m t) (m0 : 1 ≤ m) : ∃ q ∈ t, cnt m t b L ≤ cnt m t q.2 L := by
  obtain ⟨q, hq, hmin⟩ := exists_max (fun q : Int × Int => -((q.2 - b) % m)) t h.ne
  refine ⟨q, hq, ?_⟩
  unfold cnt
  refine Int.ofNat_le.mpr (cntP_mono fun p p0 p1 hp => ?_)
  obtain ⟨r, hr, e⟩ := tgt_mem h p
  rw [e] at hp ⊢
  have h1 := of_decide_eq_true hp
  have h2 := hmin r hr
  refine decide_eq_true ?_
  have a := md (a := q.2 - b) m0
  have c := md (a := r.2 - b) m0
  have e : (r.2 - q.2) % m = (r.2 - b) % m - (q.2 - b) % m := by
    rw [show r.2 - q.2 = (r.2 - b) - (q.2 - b) by omega, Int.sub_emod]
    exact Int.emod_eq_of_lt (by omega) (by omega)
  omega
/-- the width of a length for one tool -/
def wid (m : Int) (t : List (Int × Int)) (L : Int) : Int := maxI (t.map fun q => cnt m t q.2 L)
def widS (m : Int) (ts : List (List (Int × Int))) (L : Int) : Int := maxI (ts.map fun t => wid m t L)
end QQ
end
section
set_option maxRecDepth 100000
set_option maxHeartbeats 1000000
/-! DR1: the program's widths. -/
namespace QQ
open PySem DL
local macro_rules | `(tactic| simp_arith [$xs,*]) => `(tactic| simp only [eqL00, neL00, eqTi, neTi, eqLi, neLi, eqTp, neTp, eqLi0, neLi0, eqTi0, neTi0, eqLi1, inLi, notInLi, Go_ok, Go_exc, Go_bad, Br_t, Br_f, Br_not, xC_w, xV_w0, xV_ws, kB1_w, kB2_w, xBin_w, xT_w, xTr_w, asB_w, kAsB_w, truB_w, kTruB_w, kTruI_w, kTruN_w, kTruL_w, kTruT_w, kAndT_t, kAndT_f, kOrT_t, kOrT_f, kNotT_w, xAndT_w, 
  xOrT_w, xNotT_w, xYes_w, kOrD_w, kAndD_w, kOrD_t, kOrD_f, kAndD_t, kAndD_f, xOrD_w, xAndD_w, kNotB_w, xNot_w, kIfE_t, kIfE_f, xIf_w, xNil_w, kC1_w, kC2_w, xCons_w, kMut_w, xTup_w, xLst_w, xMut_w, kCB_w, xCB_w, kCall_w, 
  xCall_w, kNeg_w, xNeg_w, kCh1_w, kCh2_w, kCh4_t, kCh4_f, xChain_w, xNoPart_w, kPart_w, xPart_w, kSl1_w, kSl2_w, kSl3_w, xSl_w, xIsi_w, kBM_w, kBM2_w, xBM_w, tyD_L, kTup_0, kTup_1, kTup_2, kTup_3, kTup_4, kTup_5, kTup_6, 
  kTup_7, kTup_8, kLst_0, kLst_1, kLst_2, kLst_3, kLst_4, kLst_5, kLst_6, kLst_7, kLst_8, kIsi_int_NoneType, kIsi_int_bool, kIsi_int_int, kIsi_int_str, kIsi_int_list, kIsi_int_tuple, kIsi_bool_NoneType, kIsi_bool_bool, 
  kIsi_bool_int, kIsi_bool_str, kIsi_bool_list, kIsi_bool_tuple, kIsi_tuple_NoneType, kIsi_tuple_bool, kIsi_tuple_int, kIsi_tuple_str, kIsi_tuple_list, kIsi_tuple_tuple, kIsi_list_NoneType, kIsi_list_bool, kIsi_list_int, 
  kIsi_list_str, kIsi_list_list, kIsi_list_tuple, kIsi_str_NoneType, kIsi_str_bool, kIsi_str_int, kIsi_str_str, kIsi_str_list, kIsi_str_tuple, dAdd_w, dSub_w, dMul_w, dDiv_w, dMod_w, dPow_w, dCmp_w, dEqI_w, dNeI_w, dEqS_w, 
  dNeS_w, dAddT_w, dAddS_w, dAddL_w, dIsN_w, dIsNotN_w, isN_n, isN_i, isN_t, fLenL_w, fLenT_w, fAbs_w, fIntB_w, fMax2_w, fMin2_w, fMax_w, fMin_w, fSum_w, fSort_w, fSortT_w, fSSetT_w, fSSet_w, fAll_w, fTupleT_w, fTupleL_w, fListL_w, fListT_w, fRgT_w, 
  fRgL_w, fRgM_w, ixT0_w, ixT1_w, ixL0_w, ixL1_w, slT_w, slL_w, kNx_w, kEx_w, sk_nx, sk_rt, sk_bk, sk_ct, sk_xc, bk_rt, bk_nx, bkX_rt, bkX_nx, bkX_xc, xSeq_w, xPass_w, xBrk_w, xCnt_w, kDrop_w, xDrop_w, kRet_w, xRet_w, 
  xRetN_w, kIf_t, kIf_f, xIfS_w, kSet_w, xSet_w, kBd_w, Bd_nm, Bd_tp, Bd_tp3, kAsg_w, xAsg_w, kPar_w, kPar3_w, xPar_w, xPar3_w, kSto1_w, kSto2_w, xStore_w, kFor_w, xFor_w, xComp_w, xCompM_w, xWhile_w, kWh_t, kWh_f, xBody_w, xBodyX_w, kIt_w, kRv_w, kIx_w, 
  xIt_w, xRg1_w, xRg2_w, xRg3_w, xZip_w, xEnm_w, xEnB_w, xRev_w, iR1_w, iR2_w, iSeqL_w, iSeqT_w, iSeqS_w, iZipT_w, iZipL_w, zOk_l, zOk_r, lk_nx, lk_ct, lk_bk, lk_rt, lk_xc, env0, wipeE, List.map_cons, List.map_nil, List.set_cons_zero, 
  List.set_cons_succ, List.length_cons, List.length_nil, List.length_map, Nat.reduceAdd, Nat.reduceSub, Nat.zero_add, List.reduceReplicate, List.cons_append, List.nil_append, true_and, and_true, Bool.not_true, 
  Bool.not_false, decide_true, decide_false, Nat.reduceLeDiff, Int.reduceLT, Int.reduceLE, Int.reduceNeg, reduceIte, reduceCtorEq, Int.reduceToNat, Int.reducePow, Int.reduceAdd, Int.reduceSub, Int.reduceMul, implies_true, false_implies, forall_const, eq_self, and_self, Int.cast_ofNat_Int, Int.natCast_zero, Int.natCast_one, Int.reduceEq, $xs,*])
section
variable {Q : QR D} {E : QX} {n : Nat} {T S : Sto} {m : Int}
theorem fMaxM_w {j : Nat} {xs : List Int} (h : S[j]? = some (.lst (xs.map fun i => .py (.int i)))) (ne : xs ≠ []) : Go (fMax [.loc j] S) Q E = Q (dI (maxI xs)) S := by
  unfold fMax fMaxI
  rw [intLM (xs := xs) (by rw [h, List.map_map]; rfl)]
  simp only [ne, ne_eq, not_false_eq_true, if_true]
  rfl
theorem zip_sizes : ∀ (t : List (Int × Int)) (e : Int), t ≠ [] → List.zipWith (fun q x => (x - q.1, q.2)) t ((t.map Prod.fst).drop 1 ++ [e]) = sizes t e
  | [q], e, _ => rfl
  | q :: r :: s, e, _ => by
    have := zip_sizes (r :: s) e (by simp)
    simp only [List.map_cons, List.drop_one, List.tail_cons] at this ⊢
    rw [List.cons_append, List.zipWith_cons_cons, this]
    rfl
theorem sizes_len : ∀ (t : List (Int × Int)) (e : Int), (sizes t e).length = t.length
  | [], _ => rfl
  | [_], _ => rfl
  | q :: r :: s, e => by simp [sizes, sizes_len (r :: s) e]
theorem arc_sizes_eq {t : List (Int × Int)} (ne : t ≠ []) (hl : t.length ≤ 1000) : f_arc_sizes [dI m, dT (t.map pr)] S = .ok (dL ((sizes t ((t.headD (0, 0)).1 + m)).map pr)) S := by
  obtain ⟨q, r, rfl⟩ : ∃ q r, t = q :: r := by
    cases t with
    | nil => exact absurd rfl ne
    | cons q r => exact ⟨q, r, rfl⟩
  refine pure_eq ?_
  simp_arith [m_arc_sizes]
  refine cKai (fun p => D.py (pr p)) Prod.fst (ys := q :: r) (by omega) ?_ ?_
  · intro p _
    unfold Item
    simp_arith [pr_tup]
  have e1 : cutD (PyData.int q.1 :: (r.map Prod.fst).map .int) (some 1) none = (r.map Prod.fst).map .int := by
    have := cut_from (PyData.int q.1 :: (r.map Prod.fst).map .int) 1
    rw [show ((1 : Nat) : Int) = 1 from rfl] at this
    rw [this]; rfl
  simp_arith [e1]
  have hl' : r.length + 1 ≤ 1000 := by simpa using hl
  refine ⟨by omega, ?_⟩
  have e2 : (r.map Prod.fst).map PyData.int ++ [PyData.int (q.1 + m)] = (r.map Prod.fst ++ [q.1 + m]).map .int := by simp
  rw [e2]
  have e3 : List.zipWith pairP (pr q :: r.map pr) ((r.map Prod.fst ++ [q.1 + m]).map .int) = ((q :: r).zip (r.map Prod.fst ++ [q.1 + m])).map fun z => pairP (pr z.1) (.int z.2) := by
    rw [← List.map_cons, List.zipWith_map, List.map_zip_eq_zipWith]; rfl
  rw [show ∀ Q E, Go (iZip [dT (pr q :: r.map pr), dL ((r.map Prod.fst ++ [q.1 + m]).map .int)] S) Q E = Q ((List.zipWith pairP (pr q :: r.map pr) ((r.map Prod.fst ++ [q.1 + m]).map .int)).map .py, none) S from fun Q E => (congrArg (fun r => Go r Q E) (if_pos ⟨.inr rfl, zOk_r _ _⟩)).trans rfl, e3]
  refine cKa (fun z : (Int × Int) × Int => D.py (pairP (pr z.1) (.int z.2))) (fun z => pr (z.2 - z.1.1, z.1.2)) (ys := (q :: r).zip (r.map Prod.fst ++ [q.1 + m])) (by simp; omega) ?_ ?_
  · intro z _
    unfold Item
    rw [show D.py (pairP (pr z.1) (.int z.2)) = dT [pr z.1, .int z.2] from rfl]
    simp_arith [pr_tup]
    try rfl
  · have e4 := zip_sizes (q :: r) (q.1 + m) (by simp)
    simp only [List.map_cons, List.drop_one, List.tail_cons] at e4
    have e5 : ((q :: r).zip (r.map Prod.fst ++ [q.1 + m])).map (fun z => pr (z.2 - z.1.1, z.1.2)) = (sizes (q :: r) (q.1 + m)).map pr := by
      rw [← e4, List.map_zipWith, List.map_zip_eq_zipWith]; rfl
    rw [e5]
    simp_arith [List.headD_cons]
    exact ⟨[], by simp⟩
theorem tool_width_eq {t : List (Int × Int)} (h : Tool m t) (m0 : 1 ≤ m) {L : Int} : f_tool_width [dI m, dT (t.map pr), dI L] S = .ok (dI (wid m t L)) S := by
  have hlen := h.len
  refine pure_eq ?_
  simp_arith [m_tool_width]
  refine Go.of (arc_sizes_eq h.ne (by omega)) ?_
  simp_arith [Go_ok]
  have step : ∀ (f : Int) (R : QR D) (E : QX) (S' : Sto) (a b c d e g : Option D), R (dI (cnt m t f L)) S' →
      kComp (.tp [.nm 7, .nm 8]) (xT (xBin dLt (xBin dMod (xBin dSub (xV 8) (xV 6)) (xV 0)) (xV 2))) (xV 7) [7, 8] [some (dI m), a, some (dI L), b, c, d, some (dI f), e, g] (kC1 xNil [some (dI m), a, some (dI L), b, c, d, some (dI f), e, g] (kCB fSum R E) E) E ((((sizes t ((t.headD (0, 0)).1 + m)).map pr).map .py), none) S' := by
    intro f R E S' a b c d e g hR
    refine cKi (fun p => D.py (pr p)) (fun s => inArc m f L s.2) Prod.fst (ys := sizes t ((t.headD (0, 0)).1 + m)) (by rw [sizes_len]; omega) ?_ ?_
    · intro p _
      unfold Item
      simp_arith [pr_tup]
      exact ⟨by omega, rfl⟩
    · simp_arith [Go_ok]
      have := seg_whole h (inArc m f L)
      unfold cnt at hR
      rw [this] at hR
      exact hR
  refine fK (fun p => D.py (pr p)) (fun a env S' => ∃ x5 x6 x7 x8, env = [some (dI m), some (dT (t.map pr)), some (dI L), some (dL ((sizes t ((t.headD (0, 0)).1 + m)).map pr)), some (.loc S.length), x5, x6, x7, x8] ∧ S' = S ++ [.lst ((a.map fun q => cnt m t q.2 L).map fun i => .py (.int i))]) (ys := t) ⟨none, none, none, none, rfl, by simp⟩ ?_ ?_
  · rintro a p b env S' e ⟨x5, x6, x7, x8, rfl, rfl⟩
    have hal : a.length ≤ 12 := by have := congrArg List.length e; simp at this; omega
    simp_arith [m_tool_width_l1, pr_tup]
    refine ⟨by simp [tyD], ?_⟩
    refine step _ _ _ _ _ _ _ _ _ _ ?_
    simp_arith [Go_ok]
    refine Go.of (append_ok (xs := (a.map fun q => cnt m t q.2 L).map fun i => .py (.int i)) (by simp) (by simp; omega)) ?_
    simp_arith [Go_ok]
    exact ⟨_, _, _, _, rfl, by simp⟩
  · rintro env S' ⟨x5, x6, x7, x8, rfl, rfl⟩
    simp_arith [Go_ok]
    rw [fMaxM_w (xs := t.map fun q => cnt m t q.2 L) (by simp) (by simp [h.ne])]
    simp_arith [wid]
    exact ⟨_, rfl⟩
theorem width_of_eq {ts : List (List (Int × Int))} (h : ∀ t ∈ ts, Tool m t) (ne : ts ≠ []) (hl : ts.length ≤ 1000) (m0 : 1 ≤ m) {L : Int} : f_width_of [dI m, dT (ts.map tT), dI L] S = .ok (dI (widS m ts L)) S := by
  refine pure_eq ?_
  simp_arith [m_width_of]
  refine cKai (fun t => D.py (tT t)) (fun t => wid m t L) (ys := ts) (by omega) ?_ ?_
  · intro t ht
    unfold Item
    simp_arith [Go_ok]
    exact Go.of (tool_width_eq (h t ht) m0) ⟨rfl, rfl⟩
  · simp_arith [widS]
    exact ⟨by simp [ne], [], by simp⟩
end
end QQ
end
section
set_option maxRecDepth 100000
set_option maxHeartbeats 1000000
/-! DR2: lengths, fewest pushes. -/
namespace QQ
open PySem DL
local macro_rules | `(tactic| simp_arith [$xs,*]) => `(tactic| simp only [eqL00, neL00, eqTi, neTi, eqLi, neLi, eqTp, neTp, eqLi0, neLi0, eqTi0, neTi0, eqLi1, inLi, notInLi, Go_ok, Go_exc, Go_bad, Br_t, Br_f, Br_not, xC_w, xV_w0, xV_ws, kB1_w, kB2_w, xBin_w, xT_w, xTr_w, asB_w, kAsB_w, truB_w, kTruB_w, kTruI_w, kTruN_w, kTruL_w, kTruT_w, kAndT_t, kAndT_f, kOrT_t, kOrT_f, kNotT_w, xAndT_w, 
  xOrT_w, xNotT_w, xYes_w, kOrD_w, kAndD_w, kOrD_t, kOrD_f, kAndD_t, kAndD_f, xOrD_w, xAndD_w, kNotB_w, xNot_w, kIfE_t, kIfE_f, xIf_w, xNil_w, kC1_w, kC2_w, xCons_w, kMut_w, xTup_w, xLst_w, xMut_w, kCB_w, xCB_w, kCall_w, 
  xCall_w, kNeg_w, xNeg_w, kCh1_w, kCh2_w, kCh4_t, kCh4_f, xChain_w, xNoPart_w, kPart_w, xPart_w, kSl1_w, kSl2_w, kSl3_w, xSl_w, xIsi_w, kBM_w, kBM2_w, xBM_w, tyD_L, kTup_0, kTup_1, kTup_2, kTup_3, kTup_4, kTup_5, kTup_6, 
  kTup_7, kTup_8, kLst_0, kLst_1, kLst_2, kLst_3, kLst_4, kLst_5, kLst_6, kLst_7, kLst_8, kIsi_int_NoneType, kIsi_int_bool, kIsi_int_int, kIsi_int_str, kIsi_int_list, kIsi_int_tuple, kIsi_bool_NoneType, kIsi_bool_bool, 
  kIsi_bool_int, kIsi_bool_str, kIsi_bool_list, kIsi_bool_tuple, kIsi_tuple_NoneType, kIsi_tuple_bool, kIsi_tuple_int, kIsi_tuple_str, kIsi_tuple_list, kIsi_tuple_tuple, kIsi_list_NoneType, kIsi_list_bool, kIsi_list_int, 
  kIsi_list_str, kIsi_list_list, kIsi_list_tuple, kIsi_str_NoneType, kIsi_str_bool, kIsi_str_int, kIsi_str_str, kIsi_str_list, kIsi_str_tuple, dAdd_w, dSub_w, dMul_w, dDiv_w, dMod_w, dPow_w, dCmp_w, dEqI_w, dNeI_w, dEqS_w, 
  dNeS_w, dAddT_w, dAddS_w, dAddL_w, dIsN_w, dIsNotN_w, isN_n, isN_i, isN_t, fLenL_w, fLenT_w, fAbs_w, fIntB_w, fMax2_w, fMin2_w, fMax_w, fMin_w, fSum_w, fSort_w, fSortT_w, fSSetT_w, fSSet_w, fAll_w, fTupleT_w, fTupleL_w, fListL_w, fListT_w, fRgT_w, 
  fRgL_w, fRgM_w, ixT0_w, ixT1_w, ixL0_w, ixL1_w, slT_w, slL_w, kNx_w, kEx_w, sk_nx, sk_rt, sk_bk, sk_ct, sk_xc, bk_rt, bk_nx, bkX_rt, bkX_nx, bkX_xc, xSeq_w, xPass_w, xBrk_w, xCnt_w, kDrop_w, xDrop_w, kRet_w, xRet_w, 
  xRetN_w, kIf_t, kIf_f, xIfS_w, kSet_w, xSet_w, kBd_w, Bd_nm, Bd_tp, Bd_tp3, kAsg_w, xAsg_w, kPar_w, kPar3_w, xPar_w, xPar3_w, kSto1_w, kSto2_w, xStore_w, kFor_w, xFor_w, xComp_w, xCompM_w, xWhile_w, kWh_t, kWh_f, xBody_w, xBodyX_w, kIt_w, kRv_w, kIx_w, 
  xIt_w, xRg1_w, xRg2_w, xRg3_w, xZip_w, xEnm_w, xEnB_w, xRev_w, iR1_w, iR2_w, iSeqL_w, iSeqT_w, iSeqS_w, iZipT_w, iZipL_w, zOk_l, zOk_r, lk_nx, lk_ct, lk_bk, lk_rt, lk_xc, env0, wipeE, List.map_cons, List.map_nil, List.set_cons_zero, 
  List.set_cons_succ, List.length_cons, List.length_nil, List.length_map, Nat.reduceAdd, Nat.reduceSub, Nat.zero_add, List.reduceReplicate, List.cons_append, List.nil_append, true_and, and_true, Bool.not_true, 
  Bool.not_false, decide_true, decide_false, Nat.reduceLeDiff, Int.reduceLT, Int.reduceLE, Int.reduceNeg, reduceIte, reduceCtorEq, Int.reduceToNat, Int.reducePow, Int.reduceAdd, Int.reduceSub, Int.reduceMul, implies_true, false_implies, forall_const, eq_self, and_self, Int.cast_ofNat_Int, Int.natCast_zero, Int.natCast_one, Int.reduceEq, $xs,*])
/-- lengths, by fuel -/
def lensF (m : Int) (ts : List (List (Int × Int))) : Nat → Int → List Int
  | 0, g => [g]
  | k + 1, g => if g < widS m ts g then g :: lensF m ts k (widS m ts g) else [g]
def lens (m : Int) (ts : List (List (Int × Int))) (g : Int) : List Int := lensF m ts 1000 g
theorem maxI_le {xs : List Int} {b : Int} (ne : xs ≠ []) (h : ∀ x ∈ xs, x ≤ b) : maxI xs ≤ b := h _ (maxI_spec ne).1
theorem maxI_ge {xs : List Int} {x : Int} (h : x ∈ xs) : x ≤ maxI xs := (maxI_spec (List.ne_nil_of_mem h)).2 x h
theorem wid_le {m L : Int} {t : List (Int × Int)} (ne : t ≠ []) (m0 : 0 ≤ m) : wid m t L ≤ m := maxI_le (by simp [ne]) fun x hx => by
  obtain ⟨q, _, rfl⟩ := List.mem_map.mp hx
  exact cnt_le m0
theorem wid_nn {m L : Int} {t : List (Int × Int)} (ne : t ≠ []) : 0 ≤ wid m t L := by
  obtain ⟨q, hq⟩ := List.exists_mem_of_ne_nil t ne
  exact Int.le_trans cnt_nn (maxI_ge (List.mem_map.mpr ⟨q, hq, rfl⟩))
section
variable {m : Int} {ts : List (List (Int × Int))}
theorem widS_le {L : Int} (h : ∀ t ∈ ts, Tool m t) (ne : ts ≠ []) (m0 : 0 ≤ m) : widS m ts L ≤ m := maxI_le (by simp [ne]) fun x hx => by
  obtain ⟨t, ht, rfl⟩ := List.mem_map.mp hx
  exact wid_le (h t ht).ne m0
theorem widS_nn {L : Int} (h : ∀ t ∈ ts, Tool m t) (ne : ts ≠ []) : 0 ≤ widS m ts L := by
  obtain ⟨t, ht⟩ := List.exists_mem_of_ne_nil ts ne
  exact Int.le_trans (wid_nn (h t ht).ne) (maxI_ge (List.mem_map.mpr ⟨t, ht, rfl⟩))
theorem lensF_stable (h : ∀ t ∈ ts, Tool m t) (ne : ts ≠ []) (m0 : 0 ≤ m) : ∀ (k j : Nat) (g : Int), (m - g).toNat ≤ k → (m - g).toNat ≤ j → lensF m ts k g = lensF m ts j g
  | 0, 0, g, _, _ => rfl
  | 0, j + 1, g, hk, _ => by
    have := widS_le (L := g) h ne m0
    unfold lensF
    rw [if_neg (by omega)]
  | k + 1, 0, g, _, hj => by
    have := widS_le (L := g) h ne m0
    unfold lensF
    rw [if_neg (by omega)]
  | k + 1, j + 1, g, hk, hj => by
    have := widS_le (L := g) h ne m0
    unfold lensF
    by_cases hw : g < widS m ts g
    · rw [if_pos hw, if_pos hw, lensF_stable h ne m0 k j _ (by omega) (by omega)]
    · rw [if_neg hw, if_neg hw]
theorem lens_step (h : ∀ t ∈ ts, Tool m t) (ne : ts ≠ []) (m0 : 0 ≤ m) (m1 : m ≤ 900) {g : Int} (g0 : 0 ≤ g) : lens m ts g = if g < widS m ts g then g :: lens m ts (widS m ts g) else [g] := by
  have := widS_le (L := g) h ne m0
  have e : lens m ts g = if g < widS m ts g then g :: lensF m ts 999 (widS m ts g) else [g] := rfl
  rw [e]
  by_cases hw : g < widS m ts g
  · rw [if_pos hw, if_pos hw, lensF_stable h ne m0 999 1000 _ (by omega) (by omega)]; rfl
  · rw [if_neg hw, if_neg hw]
variable {Q : QR D} {E : QX} {n : Nat} {T S : Sto}
theorem ixM1_w {j : Nat} {xs : List D} {v : D} (h : S[j]? = some (.lst xs)) (hv : xs.getLast? = some v) : Go (dIxD (.loc j) (dI (-1)) S) Q E = Q v S := by
  have : dIxD (.loc j) (dI (-1)) S = .ok v S := by
    unfold dIxD dIx
    simp only [seqOf, h]
    rw [atI_m1, hv]
  rw [this, Go_ok]
theorem lengths_of_eq (h : ∀ t ∈ ts, Tool m t) (ne : ts ≠ []) (hl : ts.length ≤ 1000) (m0 : 1 ≤ m) (m1 : m ≤ 900) {g : Int} (g0 : 0 ≤ g) : f_lengths_of [dI m, dT (ts.map tT), dI g] S = .ok (dT ((lens m ts g).map .int)) S := by
  refine pure_eq ?_
  simp_arith [m_lengths_of]
  refine Go.of (width_of_eq h ne hl m0) ?_
  simp_arith [Go_ok]
  let M : List Int → Sto := fun fs => S ++ [.lst (fs.map fun i => .py (.int i))]
  refine while_go (fun n env S' => ∃ (fs : List Int) (x : Int), env = [some (dI m), some (dT (ts.map tT)), some (dI g), some (.loc S.length), some (dI (widS m ts x))] ∧ S' = M (fs ++ [x]) ∧ 0 ≤ x ∧ fs.length ≤ x ∧ x ≤ max g m ∧ n = (m - x).toNat ∧ fs ++ lens m ts x = lens m ts g) 1000000 (m - g).toNat _ _ (by omega) ⟨[], g, rfl, rfl, g0, by simpa using g0, by omega, rfl, rfl⟩ ?_
  rintro n env S' ⟨fs, x, rfl, rfl, x0, hfs, xm, rfl, e⟩
  have hw := widS_le (L := x) h ne (show 0 ≤ m by omega)
  have hs := lens_step h ne (show 0 ≤ m by omega) m1 x0
  simp_arith [ixM1_w (S := M (fs ++ [x])) (j := S.length) (xs := (fs ++ [x]).map fun i => .py (.int i)) (v := dI x) (by simp [M]) (by simp)]
  unfold kWh
  refine Br.dec (fun hlt => ?_) (fun hge => ?_)
  · rw [if_pos hlt] at hs
    simp_arith [m_lengths_of_l1]
    refine ⟨by simp [tyD, M], ?_⟩
    refine Go.of (append_ok (S := M (fs ++ [x])) (n := S.length) (xs := (fs ++ [x]).map fun i => .py (.int i)) (by simp [M]) (by simp; omega)) ?_
    simp_arith [Go_ok]
    refine Go.of (width_of_eq h ne hl m0) ?_
    simp_arith [Go_ok]
    exact ⟨_, by omega, fs ++ [x], widS m ts x, rfl, by simp [M], by omega, by simp; omega, by omega, rfl, by rw [List.append_assoc, List.singleton_append, ← hs, e]⟩
  · rw [if_neg hge] at hs
    simp_arith [Go_ok]
    refine Go.of (fTupleM (xs := (fs ++ [x]).map .int) (by simp [M])) ?_
    simp_arith [M]
    rw [← e, hs]
    exact ⟨rfl, _, rfl⟩
/-- the first of the lengths that is great enough -/
def few (sp : Int) : List Int → Nat → Option Nat
  | [], _ => none
  | l :: r, i => if sp ≤ l then some i else few sp r (i + 1)
def fewest (m : Int) (ts : List (List (Int × Int))) (xs : List Int) (g : Int) : Option Nat := few (sprd m xs) (lens m ts g) 0
/-- a number or None -/
def oN : Option Nat → PyData
  | none => .none
  | some k => .int (k : Nat)
theorem lens_le (h : ∀ t ∈ ts, Tool m t) (ne : ts ≠ []) (m0 : 0 ≤ m) : ∀ (k : Nat) (g : Int), (lensF m ts k g).length ≤ k + 1
  | 0, g => by simp [lensF]
  | k + 1, g => by
    unfold lensF
    split
    · have := lens_le h ne m0 k (widS m ts g); simp; omega
    · simp
theorem idx_at {ls : List Int} {a b : List (Nat × Int)} {q : Nat × Int} (e : ls.mapIdx (fun i x => (i, x)) = a ++ q :: b) : q.1 = a.length ∧ ls[a.length]? = some q.2 := by
  have h : (ls.mapIdx fun i x => (i, x))[a.length]? = some q := by rw [e]; simp
  rw [List.getElem?_mapIdx] at h
  cases hl : ls[a.length]? with
  | none => rw [hl] at h; cases h
  | some x => rw [hl] at h; simp at h; rw [← h]; simp
theorem fewest_pushes_eq (h : ∀ t ∈ ts, Tool m t) (ne : ts ≠ []) (hl : ts.length ≤ 1000) (m0 : 1 ≤ m) (m1 : m ≤ 900) {g : Int} (g0 : 0 ≤ g) {xs : List Int} (xne : xs ≠ []) (xl : xs.length ≤ 1000) :
    f_fewest_pushes [dI m, dT (ts.map tT), dT (xs.map .int), dI g] S = .ok (.py (oN (fewest m ts xs g))) S := by
  refine pure_eq ?_
  simp_arith [m_fewest_pushes]
  refine Go.of (spread_of_eq xne xl) ?_
  simp_arith [Go_ok]
  refine Go.of (lengths_of_eq h ne hl m0 m1 g0) ?_
  simp_arith [iEnB, itemsP]
  refine fK (fun q : Nat × Int => dT [.int (q.1 : Nat), .int q.2]) (fun a env S' => ∃ x5 x6, env = [some (dI m), some (dT (ts.map tT)), some (dT (xs.map .int)), some (dI g), some (dI (sprd m xs)), x5, x6] ∧ S' = S ∧ few (sprd m xs) ((lens m ts g).drop a.length) a.length = fewest m ts xs g) (ys := (lens m ts g).mapIdx fun i x => (i, x)) ⟨none, none, rfl, rfl, rfl⟩ ?_ ?_ (by rw [mapIdx_ints, List.map_map]; rfl)
  · rintro a q b env S' e ⟨x5, x6, rfl, rfl, hf⟩
    obtain ⟨e1, e2⟩ := idx_at e
    have hd : (lens m ts g).drop a.length = q.2 :: (lens m ts g).drop (a.length + 1) := by
      obtain ⟨hlt, e3⟩ := List.getElem?_eq_some_iff.mp e2
      rw [List.drop_eq_getElem_cons hlt, e3]
    rw [hd] at hf
    simp_arith [m_fewest_pushes_l1]
    unfold kIf
    unfold few at hf
    refine Br.dec (fun hle => ?_) (fun hgt => ?_)
    · rw [if_pos hle] at hf
      simp_arith [← hf, oN, e1]
      exact ⟨[], by simp⟩
    · rw [if_neg hgt] at hf
      simp_arith [Go_ok]
      exact ⟨_, _, rfl, by rw [List.length_append, List.length_singleton]; exact hf⟩
  · rintro env S' ⟨x5, x6, rfl, rfl, hf⟩
    rw [List.length_mapIdx, List.drop_length] at hf
    simp_arith [← hf, few, oN]
    exact ⟨[], by simp⟩
end
end QQ
end
section
set_option maxRecDepth 100000
set_option maxHeartbeats 1000000
/-! DG: lifts turned over: from where a target is reached. -/
namespace QQ
open PySem DL
section
variable {m : Int} {F : Int → Int}
theorem cut_ex {y a : Int} (mono : ∀ x z, x ≤ z → F x ≤ F z) : ∀ k : Nat, F a < y → y ≤ F (a + k) → ∃ n, ∀ x, F x < y ↔ x < n
  | 0, h, h' => by rw [show a + ((0 : Nat) : Int) = a by omega] at h'; omega
  | k + 1, h, h' => by
    by_cases c : y ≤ F (a + k)
    · exact cut_ex mono k h c
    · refine ⟨a + (k + 1 : Nat), fun x => ⟨fun hx => ?_, fun hx => ?_⟩⟩
      · by_cases z : x < a + (k + 1 : Nat)
        · exact z
        · have := mono (a + (k + 1 : Nat)) x (by omega); omega
      · have := mono x (a + k) (by omega)
        omega
theorem Lift.cut (h : Lift m F) (m0 : 1 ≤ m) (y : Int) : ∃ n, ∀ x, F x < y ↔ x < n := by
  -- below and above
  have h1 : ∀ k : Nat, F (-(k * m)) = F 0 - k * m := fun k => by
    have := h.perk 0 (-(k : Int))
    rw [show (0 : Int) + -(k : Int) * m = -(k * m) by rw [Int.neg_mul]; omega, Int.neg_mul] at this
    omega
  have h2 : ∀ k : Nat, F (k * m) = F 0 + k * m := fun k => by
    have := h.pern 0 k
    rw [show (0 : Int) + (k : Int) * m = k * m by omega] at this
    exact this
  have big : ∀ k : Nat, (k : Int) ≤ k * m := fun k => by
    have := Int.mul_le_mul_of_nonneg_left (show 1 ≤ m from m0) (Int.natCast_nonneg k)
    omega
  obtain ⟨k, hk⟩ : ∃ k : Nat, (k : Int) > F 0 - y := ⟨((F 0 - y).toNat + 1), by omega⟩
  obtain ⟨j, hj⟩ : ∃ j : Nat, (j : Int) > y - F 0 := ⟨((y - F 0).toNat + 1), by omega⟩
  have b1 := big k
  have b2 := big j
  have e1 := h1 k
  have e2 := h2 j
  have n1 : 0 ≤ (k : Int) * m := Int.le_trans (Int.natCast_nonneg k) b1
  have n2 : 0 ≤ (j : Int) * m := Int.le_trans (Int.natCast_nonneg j) b2
  refine cut_ex (a := -(k * m)) h.mono ((k * m + j * m).toNat) (by omega) ?_
  rw [show -((k : Int) * m) + ((k * m + j * m).toNat : Nat) = j * m by omega]
  omega
open Classical in
/-- from where on the lift reaches y -/
noncomputable def lowN (F : Int → Int) (y : Int) : Int := if h : ∃ n, ∀ x, F x < y ↔ x < n then Classical.choose h else 0
theorem lowN_spec (h : Lift m F) (m0 : 1 ≤ m) (x y : Int) : F x < y ↔ x < lowN F y := by
  have e := h.cut m0 y
  unfold lowN
  rw [dif_pos e]
  exact Classical.choose_spec e x
theorem lowN_lift (h : Lift m F) (m0 : 1 ≤ m) : Lift m (lowN F) := by
  have sp := fun x y => lowN_spec h m0 x y
  refine ⟨fun y z hyz => ?_, fun y => ?_⟩
  · have := (sp (lowN F y - 1) y).mpr (by omega)
    have := (sp (lowN F y - 1) z).mp (by omega)
    omega
  · have a : ∀ x, x < lowN F (y + m) ↔ x < lowN F y + m := fun x => by
      have p := h.per (x - m)
      rw [show x - m + m = x by omega] at p
      rw [← sp, show (x < lowN F y + m) ↔ (x - m < lowN F y) by omega, ← sp]
      omega
    have a1 := a (lowN F (y + m) - 1)
    have a2 := a (lowN F y + m - 1)
    omega
end
/-- a window of a periodic predicate -/
theorem window_step {m : Int} {P : Int → Bool} (m0 : 1 ≤ m) (hP : ∀ x, P (x + m) = P x) (a : Int) : ((rgI (a + 1) (a + 1 + m)).filter P).length = ((rgI a (a + m)).filter P).length := by
  rw [rgI_app (show a ≤ a + 1 by omega) (show a + 1 ≤ a + m by omega), rgI_app (a := a + 1) (b := a + m) (c := a + 1 + m) (by omega) (by omega)]
  have e1 : rgI a (a + 1) = [a] := by unfold rgI; simp [show (a + 1 - a).toNat = 1 by omega]
  have e2 : rgI (a + m) (a + 1 + m) = [a + m] := by unfold rgI; simp [show (a + 1 + m - (a + m)).toNat = 1 by omega]
  rw [e1, e2, List.filter_append, List.filter_append, List.length_append, List.length_append]
  have : ([a + m].filter P).length = ([a].filter P).length := by
    by_cases c : P a = true
    · rw [List.filter_cons_of_pos (by rw [hP]; exact c), List.filter_cons_of_pos c]; rfl
    · rw [List.filter_cons_of_neg (by rw [hP]; exact c), List.filter_cons_of_neg c]
  omega
theorem window {m : Int} {P : Int → Bool} (m0 : 1 ≤ m) (hP : ∀ x, P (x + m) = P x) (a : Int) : ((rgI a (a + m)).filter P).length = ((rgI 0 m).filter P).length := by
  have up : ∀ k : Nat, ((rgI (k : Int) (k + m)).filter P).length = ((rgI 0 m).filter P).length := fun k => by
    induction k with
    | zero => simp
    | succ k ih =>
      rw [← ih, ← window_step m0 hP k]
      rfl
  have dn : ∀ k : Nat, ((rgI (-(k : Int)) (-(k : Int) + m)).filter P).length = ((rgI 0 m).filter P).length := fun k => by
    induction k with
    | zero => simp
    | succ k ih =>
      rw [← ih, ← window_step m0 hP (-((k + 1 : Nat) : Int)), show -((k + 1 : Nat) : Int) + 1 = -(k : Int) by omega]
  by_cases h : 0 ≤ a
  · have := up a.toNat
    rw [show (a.toNat : Int) = a by omega] at this
    exact this
  · have := dn (-a).toNat
    rw [show -((-a).toNat : Int) = a by omega] at this
    exact this
/-- a lift of a tool -/
structure Lifts (m : Int) (t : List (Int × Int)) (F : Int → Int) : Prop where
  lift : Lift m F
  tgt : ∀ x, F x % m = QQ.tgt t (x % m)
theorem Tool.lifts {m : Int} {t : List (Int × Int)} (h : Tool m t) (m0 : 1 ≤ m) : ∃ F, Lifts m t F := by
  obtain ⟨F, h1, h2⟩ := tool_lift h m0
  exact ⟨F, h1, h2⟩
section
variable {m : Int} {t : List (Int × Int)} {F : Int → Int}
/-- a place is sent into an arc: between the two cuts -/
theorem Lifts.inArc (h : Lifts m t F) (m0 : 1 ≤ m) {b L p : Int} (h1 : lowN F b ≤ p) (h2 : p < lowN F b + m) : QQ.inArc m b L (QQ.tgt t (p % m)) = decide (p < lowN F (b + L)) ∨ m < L := by
  have sp := fun x y => lowN_spec h.lift m0 x y
  have a := (not_congr (sp p b)).mpr (by omega)
  have b' := (sp p (b + m)).mpr (by rw [(lowN_lift h.lift m0).per]; omega)
  by_cases hL : m < L
  · exact .inr hL
  · refine .inl ?_
    unfold QQ.inArc
    rw [← h.tgt, Int.emod_sub_emod, Int.emod_eq_of_lt (by omega) (by omega), decide_eq_decide, ← sp]
    omega
theorem Lifts.cnt (h : Lifts m t F) (m0 : 1 ≤ m) {b L : Int} (l0 : 0 ≤ L) (l1 : L ≤ m) : QQ.cnt m t b L = lowN F (b + L) - lowN F b := by
  have hN := lowN_lift h.lift m0
  have n1 := hN.mono b (b + L) (by omega)
  have n2 := hN.mono (b + L) (b + m) (by omega)
  rw [hN.per] at n2
  have e1 : (cntP m t (QQ.inArc m b L) : Int) = (((rgI (lowN F b) (lowN F b + m)).filter fun p => QQ.inArc m b L (QQ.tgt t (p % m))).length : Nat) := by
    rw [window m0 (P := fun p => QQ.inArc m b L (QQ.tgt t (p % m))) (fun x => by simp only [Int.add_emod_right]) (lowN F b)]
    unfold cntP
    congr 2
    refine List.filter_congr fun p hp => ?_
    have hp := rgI_mem.mp hp
    rw [Int.emod_eq_of_lt hp.1 hp.2]
  unfold QQ.cnt
  rw [e1]
  have e2 : (rgI (lowN F b) (lowN F b + m)).filter (fun p => QQ.inArc m b L (QQ.tgt t (p % m))) = (rgI (lowN F b) (lowN F b + m)).filter fun p => decide (p < lowN F (b + L)) := List.filter_congr fun p hp => by
    have hp := rgI_mem.mp hp
    exact (h.inArc m0 hp.1 hp.2).elim id fun z => by omega
  rw [e2, rgI_app (a := lowN F b) (b := lowN F (b + L)) (c := lowN F b + m) n1 n2, List.filter_append]
  rw [List.filter_eq_self.mpr fun p hp => decide_eq_true (rgI_mem.mp hp).2, List.filter_eq_nil_iff.mpr fun p hp => by have := rgI_mem.mp hp; simp; omega, List.append_nil, rgI_length]
  omega
end
end QQ
end
section
set_option maxRecDepth 100000
set_option maxHeartbeats 1000000
/-! DG2: widths by the cuts; repeats. -/
namespace QQ
open PySem DL
section
variable {m : Int} {t : List (Int × Int)} {F G : Int → Int}
theorem cnt_wid (h : Tool m t) (m0 : 1 ≤ m) (b L : Int) : cnt m t b L ≤ wid m t L := by
  obtain ⟨q, hq, e⟩ := cnt_target (b := b) (L := L) h m0
  exact Int.le_trans e (maxI_ge (List.mem_map.mpr ⟨q, hq, rfl⟩))
theorem wid_at (h : Tool m t) (L : Int) : ∃ q ∈ t, wid m t L = cnt m t q.2 L := by
  have := (maxI_spec (ns := t.map fun q => cnt m t q.2 L) (by simp [h.ne])).1
  obtain ⟨q, hq, e⟩ := List.mem_map.mp this
  exact ⟨q, hq, e.symm⟩
theorem wid_mono (h : Tool m t) (m0 : 1 ≤ m) {L L' : Int} (l : L ≤ L') : wid m t L ≤ wid m t L' := by
  obtain ⟨q, hq, e⟩ := wid_at h L
  rw [e]
  refine Int.le_trans ?_ (cnt_wid h m0 q.2 L')
  unfold cnt
  refine Int.ofNat_le.mpr (cntP_mono fun p _ _ hp => ?_)
  have := of_decide_eq_true hp
  exact decide_eq_true (by omega)
/-- m steps of at most w -/
theorem steps (N : Int → Int) {w L : Int} (h : ∀ y, N (y + L) - N y ≤ w) (y : Int) : ∀ k : Nat, N (y + k * L) - N y ≤ k * w
  | 0 => by simp
  | k + 1 => by
    have a := steps N h y k
    have b := h (y + k * L)
    have e : y + ((k + 1 : Nat) : Int) * L = y + k * L + L := by rw [Int.natCast_add, Int.add_mul]; omega
    have e2 : ((k + 1 : Nat) : Int) * w = k * w + w := by rw [Int.natCast_add, Int.add_mul]; omega
    rw [e, e2]
    omega
theorem wid_ge (h : Tool m t) (m0 : 1 ≤ m) {L : Int} (l0 : 0 ≤ L) (l1 : L ≤ m) : L ≤ wid m t L := by
  obtain ⟨F, hF⟩ := h.lifts m0
  have hN := lowN_lift hF.lift m0
  have s := steps (lowN F) (w := wid m t L) (L := L) (fun y => by
    have := cnt_wid h m0 y L
    rw [hF.cnt m0 l0 l1] at this
    exact this) 0 m.toNat
  have e := hN.perk 0 L
  rw [show ((m.toNat : Nat) : Int) = m by omega, show (0 : Int) + m * L = 0 + L * m by rw [Int.mul_comm], e] at s
  have s2 : m * L ≤ m * wid m t L := by rw [Int.mul_comm m L]; omega
  exact Int.le_of_mul_le_mul_left s2 (by omega)
theorem wid_full (h : Tool m t) (m0 : 1 ≤ m) : wid m t m = m := by
  have a := wid_ge h m0 (L := m) (by omega) (Int.le_refl _)
  have b := wid_le (L := m) h.ne (show 0 ≤ m by omega)
  omega
theorem wid_zero (h : Tool m t) (m0 : 1 ≤ m) : wid m t 0 = 0 := by
  obtain ⟨F, hF⟩ := h.lifts m0
  obtain ⟨q, hq, e⟩ := wid_at h 0
  rw [e, hF.cnt m0 (by omega) (by omega)]
  simp
/-- a map goes along with a shift -/
def Al (F : Int → Int) (d : Int) : Prop := ∀ x, F (x + d) = F x + d
theorem Al.add {a b : Int} (h : Al F a) (k : Al F b) : Al F (a + b) := fun x => by rw [show x + (a + b) = x + a + b by omega, k, h]; omega
theorem Al.neg {a : Int} (h : Al F a) : Al F (-a) := fun x => by
  have := h (x + -a)
  rw [show x + -a + a = x by omega] at this
  omega
theorem Al.zero : Al F 0 := fun x => by simp
theorem Al.mulN {a : Int} (h : Al F a) : ∀ k : Nat, Al F (k * a)
  | 0 => by simpa using Al.zero
  | k + 1 => by
    have := (h.mulN k).add h
    rw [show ((k + 1 : Nat) : Int) * a = k * a + a by rw [Int.natCast_add, Int.add_mul]; omega]
    exact this
theorem Al.mul {a : Int} (h : Al F a) (k : Int) : Al F (k * a) := by
  by_cases hk : 0 ≤ k
  · have := h.mulN k.toNat
    rw [show ((k.toNat : Nat) : Int) = k by omega] at this
    exact this
  · have := (h.mulN (-k).toNat).neg
    rw [show (((-k).toNat : Nat) : Int) = -k by omega, Int.neg_mul, Int.neg_neg] at this
    exact this
theorem Al.dvd {a b : Int} (h : Al F a) (d : a ∣ b) : Al F b := by
  obtain ⟨c, rfl⟩ := d
  rw [Int.mul_comm]
  exact h.mul c
theorem Al.emod {a b : Int} (h : Al F a) (k : Al F b) : Al F (a % b) := by
  have := h.add (k.mul (-(a / b)))
  rw [show a + -(a / b) * b = a % b by rw [Int.emod_def, Int.neg_mul, Int.mul_comm]; omega] at this
  exact this
theorem Lift.al (h : Lift m F) : Al F m := h.per
/-- Euclid -/
def eu : Nat → Int → Int → Int
  | 0, a, _ => a
  | k + 1, a, b => if 0 < b then eu k b (a % b) else a
theorem eu_al {F : Int → Int} : ∀ (k : Nat) (a b : Int), Al F a → Al F b → Al F (eu k a b)
  | 0, a, b, h, _ => h
  | k + 1, a, b, h, j => by
    unfold eu
    split
    · exact eu_al k b (a % b) j (h.emod j)
    · exact h
theorem eu_dvd : ∀ (k : Nat) (a b : Int), 0 ≤ b → b < k → eu k a b ∣ a ∧ eu k a b ∣ b
  | 0, a, b, h, k => by omega
  | k + 1, a, b, h, hk => by
    unfold eu
    split
    · rename_i hb
      have r := Int.emod_lt_of_pos a hb
      have r0 := Int.emod_nonneg a (show b ≠ 0 by omega)
      obtain ⟨h1, h2⟩ := eu_dvd k b (a % b) r0 (by omega)
      refine ⟨?_, h1⟩
      have hd := Int.dvd_add (Int.dvd_trans h1 (Int.dvd_mul_right b (a / b))) h2
      rw [Int.mul_ediv_add_emod] at hd
      exact hd
    · have : b = 0 := by omega
      rw [this]
      exact ⟨Int.dvd_refl _, Int.dvd_zero _⟩
theorem eu_pos : ∀ (k : Nat) (a b : Int), 0 < a → 0 ≤ b → 0 < eu k a b
  | 0, a, b, h, _ => h
  | k + 1, a, b, h, hb => by
    unfold eu
    split
    · rename_i h0
      exact eu_pos k b (a % b) h0 (Int.emod_nonneg a (by omega))
    · exact h
theorem eu_great : ∀ (k : Nat) (a b c : Int), c ∣ a → c ∣ b → c ∣ eu k a b
  | 0, a, b, c, h, _ => h
  | k + 1, a, b, c, h, j => by
    unfold eu
    split
    · refine eu_great k b (a % b) c j ?_
      rw [Int.emod_def]
      exact Int.dvd_sub h (Int.dvd_trans j (Int.dvd_mul_right b _))
    · exact h
/-- the cuts go along with a shift as the lift does -/
theorem al_low (h : Lift m F) (m0 : 1 ≤ m) {d : Int} (a : Al F d) : Al (lowN F) d := fun y => by
  have sp := fun x y => lowN_spec h m0 x y
  have key : ∀ x, x < lowN F (y + d) ↔ x < lowN F y + d := fun x => by
    have e := a (x - d)
    rw [show x - d + d = x by omega] at e
    rw [← sp, show (x < lowN F y + d) ↔ (x - d < lowN F y) by omega, ← sp]
    omega
  have a1 := key (lowN F (y + d) - 1)
  have a2 := key (lowN F y + d - 1)
  omega
theorem low_al (h : Lift m F) (m0 : 1 ≤ m) {d : Int} (a : Al (lowN F) d) : Al F d := fun x => by
  have sp := fun x y => lowN_spec h m0 x y
  have key : ∀ y, F (x + d) < y + d ↔ F x < y := fun y => by
    rw [sp, a y, sp]
    omega
  have a1 := key (F (x + d) - d + 1)
  have a2 := key (F x + 1)
  omega
theorem wid_al (h : Tool m t) (m0 : 1 ≤ m) (hF : Lifts m t F) {L : Int} (l0 : 0 ≤ L) (l1 : L ≤ m) (e : wid m t L = L) : Al F L := by
  refine low_al hF.lift m0 fun y => ?_
  have hN := lowN_lift hF.lift m0
  have up : ∀ y, lowN F (y + L) - lowN F y ≤ L := fun y => by
    have := cnt_wid h m0 y L
    rw [hF.cnt m0 l0 l1, e] at this
    exact this
  have s := steps (lowN F) up (y + L) (m.toNat - 1)
  have e1 := hN.perk y L
  rw [show y + L + ((m.toNat - 1 : Nat) : Int) * L = y + L * m by
    rw [show ((m.toNat - 1 : Nat) : Int) = m - 1 by omega, Int.sub_mul, Int.mul_comm m L]; omega, e1, show ((m.toNat - 1 : Nat) : Int) = m - 1 by omega, Int.sub_mul, Int.mul_comm m L] at s
  have := up y
  omega
theorem al_wid (h : Tool m t) (m0 : 1 ≤ m) (hF : Lifts m t F) {L : Int} (l0 : 0 ≤ L) (l1 : L ≤ m) (a : Al F L) : wid m t L = L := by
  obtain ⟨q, hq, e⟩ := wid_at h L
  rw [e, hF.cnt m0 l0 l1, al_low hF.lift m0 a]
  omega
/-- the same up to rounds is the same -/
theorem Lift.near (h : Lift m F) (m0 : 1 ≤ m) (x y : Int) : (F y - y) - (F x - x) < m := by
  have e := h.perk x ((y - x) / m)
  have d := Int.mul_ediv_add_emod (y - x) m
  have r0 := Int.emod_nonneg (y - x) (show m ≠ 0 by omega)
  have r1 := Int.emod_lt_of_pos (y - x) (show 0 < m by omega)
  rw [Int.mul_comm] at d
  by_cases z : (y - x) % m = 0
  · have : y = x + (y - x) / m * m := by omega
    rw [← this] at e
    omega
  · have mo := h.mono y (x + (y - x) / m * m + m) (by omega)
    rw [h.per, e] at mo
    omega
theorem al_of_mod (h : Lift m F) (m0 : 1 ≤ m) {d : Int} (a : ∀ x, F (x + d) % m = (F x + d) % m) : Al F d := fun x => by
  have n1 := h.near m0 x (x + d)
  have n2 := h.near m0 (x + d) x
  have e := a x
  have : (F (x + d) - (F x + d)) % m = 0 := by rw [Int.sub_emod, e, Int.sub_self, Int.zero_emod]
  have dv := Int.dvd_of_emod_eq_zero this
  obtain ⟨c, hc⟩ := dv
  have : c = 0 := by
    by_cases c0 : c = 0
    · exact c0
    · exfalso
      by_cases cp : 0 < c
      · have := Int.mul_le_mul_of_nonneg_left (show 1 ≤ c by omega) (show 0 ≤ m by omega); omega
      · have := Int.mul_le_mul_of_nonneg_left (show c ≤ -1 by omega) (show 0 ≤ m by omega)
        rw [Int.mul_neg, Int.mul_one] at this
        omega
  subst this
  omega
/-- a tool repeats after d -/
def Reps (m : Int) (t : List (Int × Int)) (d : Int) : Prop := ∀ p, 0 ≤ p → p < m → tgt t ((p + d) % m) = (tgt t p + d) % m
theorem reps_al (hF : Lifts m t F) (m0 : 1 ≤ m) {d : Int} : Reps m t d ↔ Al F d := by
  refine ⟨fun h => al_of_mod hF.lift m0 fun x => ?_, fun h p p0 p1 => ?_⟩
  · have := h (x % m) (md m0).1 (md m0).2
    rw [Int.emod_add_emod, ← hF.tgt, ← hF.tgt, Int.emod_add_emod] at this
    exact this
  · have e := h p
    rw [← hF.tgt, e]
    have e2 := hF.tgt p
    rw [Int.emod_eq_of_lt p0 p1] at e2
    rw [← e2, Int.emod_add_emod]
end
end QQ
end
section
set_option maxRecDepth 100000
set_option maxHeartbeats 1000000
/-! DS1: periods. -/
namespace DL
open PySem
theorem dEqB_w {Q : QR D} {E : QX} {S : Sto} {a b : Bool} : Go (DL.dEq (dB a) (dB b) S) Q E = Q (dB (decide (a = b))) S := by
  unfold DL.dEq
  simp only [toPy]
  rw [if_pos ⟨by rfl, by rfl⟩, Go_ok]
  have : PyData.eqv (.bool a) (.bool b) = decide (a = b) := by simp only [PyData.eqv]; cases a <;> cases b <;> rfl
  rw [this]
theorem dNeB_w {Q : QR D} {E : QX} {S : Sto} {a b : Bool} : Go (DL.dNe (dB a) (dB b) S) Q E = Q (dB (!decide (a = b))) S := by
  unfold DL.dNe
  simp only [toPy]
  rw [if_pos ⟨by rfl, by rfl⟩, Go_ok]
  have : PyData.eqv (.bool a) (.bool b) = decide (a = b) := by simp only [PyData.eqv]; cases a <;> cases b <;> rfl
  rw [this]
end DL
namespace QQ
open PySem DL
local macro_rules | `(tactic| simp_arith [$xs,*]) => `(tactic| simp only [eqL00, neL00, eqTi, neTi, eqLi, neLi, eqTp, neTp, eqLi0, neLi0, eqTi0, neTi0, eqLi1, inLi, notInLi, Go_ok, Go_exc, Go_bad, Br_t, Br_f, Br_not, xC_w, xV_w0, xV_ws, kB1_w, kB2_w, xBin_w, xT_w, xTr_w, asB_w, kAsB_w, truB_w, kTruB_w, kTruI_w, kTruN_w, kTruL_w, kTruT_w, kAndT_t, kAndT_f, kOrT_t, kOrT_f, kNotT_w, xAndT_w, 
  xOrT_w, xNotT_w, xYes_w, kOrD_w, kAndD_w, kOrD_t, kOrD_f, kAndD_t, kAndD_f, xOrD_w, xAndD_w, kNotB_w, xNot_w, kIfE_t, kIfE_f, xIf_w, xNil_w, kC1_w, kC2_w, xCons_w, kMut_w, xTup_w, xLst_w, xMut_w, kCB_w, xCB_w, kCall_w, 
  xCall_w, kNeg_w, xNeg_w, kCh1_w, kCh2_w, kCh4_t, kCh4_f, xChain_w, xNoPart_w, kPart_w, xPart_w, kSl1_w, kSl2_w, kSl3_w, xSl_w, xIsi_w, kBM_w, kBM2_w, xBM_w, tyD_L, kTup_0, kTup_1, kTup_2, kTup_3, kTup_4, kTup_5, kTup_6, 
  kTup_7, kTup_8, kLst_0, kLst_1, kLst_2, kLst_3, kLst_4, kLst_5, kLst_6, kLst_7, kLst_8, kIsi_int_NoneType, kIsi_int_bool, kIsi_int_int, kIsi_int_str, kIsi_int_list, kIsi_int_tuple, kIsi_bool_NoneType, kIsi_bool_bool, 
  kIsi_bool_int, kIsi_bool_str, kIsi_bool_list, kIsi_bool_tuple, kIsi_tuple_NoneType, kIsi_tuple_bool, kIsi_tuple_int, kIsi_tuple_str, kIsi_tuple_list, kIsi_tuple_tuple, kIsi_list_NoneType, kIsi_list_bool, kIsi_list_int, 
  kIsi_list_str, kIsi_list_list, kIsi_list_tuple, kIsi_str_NoneType, kIsi_str_bool, kIsi_str_int, kIsi_str_str, kIsi_str_list, kIsi_str_tuple, dAdd_w, dSub_w, dMul_w, dDiv_w, dMod_w, dPow_w, dCmp_w, dEqI_w, dNeI_w, dEqS_w, 
  dNeS_w, dAddT_w, dAddS_w, dAddL_w, dIsN_w, dIsNotN_w, isN_n, isN_i, isN_t, fLenL_w, fLenT_w, fAbs_w, fIntB_w, fMax2_w, fMin2_w, fMax_w, fMin_w, fSum_w, fSort_w, fSortT_w, fSSetT_w, fSSet_w, fAll_w, fTupleT_w, fTupleL_w, fListL_w, fListT_w, fRgT_w, 
  fRgL_w, fRgM_w, ixT0_w, ixT1_w, ixL0_w, ixL1_w, slT_w, slL_w, kNx_w, kEx_w, sk_nx, sk_rt, sk_bk, sk_ct, sk_xc, bk_rt, bk_nx, bkX_rt, bkX_nx, bkX_xc, xSeq_w, xPass_w, xBrk_w, xCnt_w, kDrop_w, xDrop_w, kRet_w, xRet_w, 
  xRetN_w, kIf_t, kIf_f, xIfS_w, kSet_w, xSet_w, kBd_w, Bd_nm, Bd_tp, Bd_tp3, kAsg_w, xAsg_w, kPar_w, kPar3_w, xPar_w, xPar3_w, kSto1_w, kSto2_w, xStore_w, kFor_w, xFor_w, xComp_w, xCompM_w, xWhile_w, kWh_t, kWh_f, xBody_w, xBodyX_w, kIt_w, kRv_w, kIx_w, 
  xIt_w, xRg1_w, xRg2_w, xRg3_w, xZip_w, xEnm_w, xEnB_w, xRev_w, iR1_w, iR2_w, iSeqL_w, iSeqT_w, iSeqS_w, iZipT_w, iZipL_w, zOk_l, zOk_r, lk_nx, lk_ct, lk_bk, lk_rt, lk_xc, env0, wipeE, List.map_cons, List.map_nil, List.set_cons_zero, 
  List.set_cons_succ, List.length_cons, List.length_nil, List.length_map, Nat.reduceAdd, Nat.reduceSub, Nat.zero_add, List.reduceReplicate, List.cons_append, List.nil_append, true_and, and_true, Bool.not_true, 
  Bool.not_false, decide_true, decide_false, Nat.reduceLeDiff, Int.reduceLT, Int.reduceLE, Int.reduceNeg, reduceIte, reduceCtorEq, Int.reduceToNat, Int.reducePow, Int.reduceAdd, Int.reduceSub, Int.reduceMul, implies_true, false_implies, forall_const, eq_self, and_self, Int.cast_ofNat_Int, Int.natCast_zero, Int.natCast_one, Int.reduceEq, $xs,*])
theorem gcd_step (x y : Int) : Int.gcd y (x % y) = Int.gcd x y := by
  have e := Int.mul_ediv_add_emod x y
  refine Nat.dvd_antisymm ?_ ?_
  · refine Int.ofNat_dvd.mp (Int.dvd_coe_gcd ?_ (Int.gcd_dvd_left _ _))
    have := Int.dvd_add (Int.dvd_trans (Int.gcd_dvd_left y (x % y)) (Int.dvd_mul_right y (x / y))) (Int.gcd_dvd_right y (x % y))
    rw [e] at this
    exact this
  · refine Int.ofNat_dvd.mp (Int.dvd_coe_gcd (Int.gcd_dvd_right _ _) ?_)
    rw [Int.emod_def]
    exact Int.dvd_sub (Int.gcd_dvd_left _ _) (Int.dvd_trans (Int.gcd_dvd_right x y) (Int.dvd_mul_right y _))
theorem eu_gcd {k : Nat} {a b : Int} (a0 : 0 < a) (b0 : 0 ≤ b) (hk : b < k) : eu k a b = Int.gcd a b := by
  obtain ⟨h1, h2⟩ := eu_dvd k a b b0 hk
  have h3 := eu_pos k a b a0 b0
  exact Int.dvd_antisymm (by omega) (Int.natCast_nonneg _) (Int.dvd_coe_gcd h1 h2) (eu_great k a b _ (Int.gcd_dvd_left a b) (Int.gcd_dvd_right a b))
section
variable {Q : QR D} {E : QX} {n : Nat} {T S : Sto} {m : Int}
theorem greatest_divisor_eq {a b : Int} (a0 : 0 < a) (b0 : 0 ≤ b) (b1 : b < 100000) : f_greatest_divisor [dI a, dI b] S = .ok (dI (Int.gcd a b)) S := by
  refine pure_eq ?_
  simp_arith [m_greatest_divisor]
  refine while_go (fun n env S' => ∃ x y : Int, env = [some (dI x), some (dI y)] ∧ S' = S ∧ 0 < x ∧ 0 ≤ y ∧ y.toNat = n ∧ Int.gcd x y = Int.gcd a b) 1000000 b.toNat _ _ (by omega) ⟨a, b, rfl, rfl, a0, b0, rfl, rfl⟩ ?_
  rintro n env S' ⟨x, y, rfl, rfl, x0, y0, rfl, e⟩
  simp_arith [Go_ok]
  unfold kWh
  refine Br.dec (fun h => ?_) (fun h => ?_)
  · simp_arith [m_greatest_divisor_l1]
    have r := Int.emod_lt_of_pos x h
    have r0 := Int.emod_nonneg x (show y ≠ 0 by omega)
    refine ⟨h, (x % y).toNat, by omega, y, x % y, rfl, h, r0, rfl, ?_⟩
    rw [← e]
    exact gcd_step x y
  · simp_arith [Go_ok]
    have : y = 0 := by omega
    subst this
    rw [Int.gcd_zero_right] at e
    rw [← e]
    exact ⟨by rw [Int.natAbs_of_nonneg (by omega)], [], by simp⟩
/-- the period of a tool -/
def per (m : Int) (t : List (Int × Int)) : Int := perd m (tabl m t)
theorem rep_reps {t : List (Int × Int)} (m0 : 1 ≤ m) {d : Int} : rep m (tabl m t) d = true ↔ Reps m t d := by
  unfold rep Reps
  rw [decide_eq_true_eq]
  refine ⟨fun h p p0 p1 => ?_, fun h p hp => ?_⟩
  · have := h p (rgI_mem.mpr ⟨p0, p1⟩)
    rw [nat_tabl (md m0).1 (md m0).2, nat_tabl p0 p1] at this
    exact this
  · have hp := rgI_mem.mp hp
    rw [nat_tabl (md m0).1 (md m0).2, nat_tabl hp.1 hp.2]
    exact h p hp.1 hp.2
theorem head_min : ∀ {xs : List Int}, xs.Pairwise (· < ·) → ∀ x ∈ xs, xs.headD 0 ≤ x
  | y :: ys, h, x, hx => by
    rcases List.mem_cons.mp hx with rfl | hx
    · exact Int.le_refl _
    · exact Int.le_of_lt ((List.pairwise_cons.mp h).1 x hx)
theorem per_spec {t : List (Int × Int)} (h : Tool m t) (m0 : 1 ≤ m) : 1 ≤ per m t ∧ per m t ≤ m ∧ per m t ∣ m ∧ ∀ d : Int, Reps m t d ↔ per m t ∣ d := by
  have hself := perl_self (tabl_len (t := t) (by omega)) m0 (tabl_rg (tgt_rg h))
  have hp := perd_rg hself
  have hmem := perd_mem hself
  obtain ⟨h1, h2⟩ := List.mem_filter.mp hmem
  rw [Bool.and_eq_true, beq_iff_eq, rep_reps m0] at h2
  obtain ⟨F, hF⟩ := h.lifts m0
  have hal := (reps_al hF m0).mp h2.2
  refine ⟨hp.1, hp.2, Int.dvd_of_emod_eq_zero h2.1, fun d => ⟨fun hd => ?_, fun hd => (reps_al hF m0).mpr (hal.dvd hd)⟩⟩
  have hd := (reps_al hF m0).mp hd
  have g0 := eu_pos ((per m t).toNat + 1) m (per m t) (by omega) (by unfold per; omega)
  -- the divisor of the period and of d
  obtain ⟨q1, q2⟩ := eu_dvd ((per m t).toNat + 1) d (per m t) (by unfold per; omega) (by unfold per; omega)
  have qa := eu_al ((per m t).toNat + 1) d (per m t) hd hal
  generalize hg : eu ((per m t).toNat + 1) d (per m t) = g at q1 q2 qa
  have gn : g ≠ 0 := fun e => by
    rw [e] at q2
    have := Int.zero_dvd.mp q2
    unfold per at this
    omega
  have ga : Al F (g.natAbs : Int) := by
    rcases Int.natAbs_eq g with e | e
    · rw [← e]; exact qa
    · have := qa.neg
      rw [e, Int.neg_neg] at this
      exact this
  have gd : (g.natAbs : Int) ∣ per m t := Int.natAbs_dvd.mpr q2
  have gle := Int.le_of_dvd (by unfold per; omega) gd
  have gm : (g.natAbs : Int) ∣ m := Int.dvd_trans gd (Int.dvd_of_emod_eq_zero h2.1)
  have gin : (g.natAbs : Int) ∈ perl m (tabl m t) := by
    refine List.mem_filter.mpr ⟨rgI_mem.mpr ⟨by omega, by unfold per at gle; omega⟩, ?_⟩
    rw [Bool.and_eq_true, beq_iff_eq, rep_reps m0]
    exact ⟨Int.emod_eq_zero_of_dvd gm, (reps_al hF m0).mpr ga⟩
  have lt : (perl m (tabl m t)).Pairwise (· < ·) := (rgI_lt 1 (m + 1)).sublist List.filter_sublist
  have := head_min lt _ gin
  have e : per m t = g.natAbs := Int.le_antisymm (by unfold per perd; exact this) gle
  rw [e]
  exact Int.natAbs_dvd.mpr q1
/-- the common period -/
def com (m : Int) (ts : List (List (Int × Int))) : Int := ts.foldl (fun f t => (Int.lcm f (per m t) : Nat)) 1
theorem lcm_div {a b : Int} (a0 : 0 < a) (b0 : 0 < b) : a * b / (Int.gcd a b : Nat) = (Int.lcm a b : Nat) := by
  have h : (Int.gcd a b : Int) * (Int.lcm a b : Int) = a * b := by
    have := Int.gcd_mul_lcm a b
    rw [← Int.natCast_mul, this, ← Int.natAbs_mul]
    exact Int.natAbs_of_nonneg (Int.le_of_lt (Int.mul_pos a0 b0))
  have g0 : 0 < Int.gcd a b := Int.gcd_pos_of_ne_zero_left _ (by omega)
  rw [← h, Int.mul_ediv_cancel_left _ (by omega)]
theorem com_fold : ∀ (ts : List (List (Int × Int))) (f : Int), 0 < f → f ∣ m → (∀ t ∈ ts, Tool m t) → 1 ≤ m → 0 < ts.foldl (fun f t => ((Int.lcm f (per m t) : Nat) : Int)) f ∧ ts.foldl (fun f t => ((Int.lcm f (per m t) : Nat) : Int)) f ∣ m ∧
    ∀ z : Int, ts.foldl (fun f t => ((Int.lcm f (per m t) : Nat) : Int)) f ∣ z ↔ f ∣ z ∧ ∀ t ∈ ts, per m t ∣ z
  | [], f, f0, fm, _, _ => ⟨f0, fm, fun z => ⟨fun h => ⟨h, fun t ht => by cases ht⟩, fun h => h.1⟩⟩
  | t :: ts, f, f0, fm, h, m0 => by
    obtain ⟨p1, p2, p3, _⟩ := per_spec (h t List.mem_cons_self) m0
    have l0 : 0 < ((Int.lcm f (per m t) : Nat) : Int) := by
      have := Int.lcm_pos (m := f) (n := per m t) (by omega) (by omega)
      omega
    obtain ⟨h1, h2, h3⟩ := com_fold ts ((Int.lcm f (per m t) : Nat) : Int) l0 (Int.coe_lcm_dvd fm p3) (fun u hu => h u (List.mem_cons_of_mem _ hu)) m0
    refine ⟨h1, h2, fun z => ?_⟩
    rw [List.foldl_cons, h3 z]
    refine ⟨fun ⟨a, b⟩ => ⟨Int.dvd_trans (Int.dvd_lcm_left f _) a, fun u hu => ?_⟩, fun ⟨a, b⟩ => ⟨Int.coe_lcm_dvd a (b t List.mem_cons_self), fun u hu => b u (List.mem_cons_of_mem _ hu)⟩⟩
    rcases List.mem_cons.mp hu with rfl | hu
    · exact Int.dvd_trans (Int.dvd_lcm_right f _) a
    · exact b u hu
theorem com_spec {ts : List (List (Int × Int))} (h : ∀ t ∈ ts, Tool m t) (m0 : 1 ≤ m) : 0 < com m ts ∧ com m ts ∣ m ∧ ∀ z : Int, com m ts ∣ z ↔ ∀ t ∈ ts, per m t ∣ z := by
  obtain ⟨h1, h2, h3⟩ := com_fold (m := m) ts 1 (by decide) (Int.one_dvd m) h m0
  exact ⟨h1, h2, fun z => (h3 z).trans ⟨fun a => a.2, fun a => ⟨Int.one_dvd z, a⟩⟩⟩
theorem common_period_eq {ts : List (List (Int × Int))} (h : ∀ t ∈ ts, Tool m t) (hl : ts.length ≤ 1000) (m0 : 1 ≤ m) (m1 : m ≤ 1000) : f_common_period [dI m, dT (ts.map tT)] S = .ok (dI (com m ts)) S := by
  refine pure_eq ?_
  simp_arith [m_common_period]
  refine fK (fun t => D.py (tT t)) (fun a env S' => ∃ x3 x4, env = [some (dI m), some (dT (ts.map tT)), some (dI (a.foldl (fun f t => ((Int.lcm f (per m t) : Nat) : Int)) 1)), x3, x4] ∧ S' = S) (ys := ts) ⟨none, none, rfl, rfl⟩ ?_ ?_
  · rintro a t b env S' e ⟨x3, x4, rfl, rfl⟩
    have ht := h t (by rw [e]; simp)
    have := ht.len
    obtain ⟨p1, p2, p3, _⟩ := per_spec ht m0
    obtain ⟨c1, c2, _⟩ := com_fold (m := m) a 1 (by decide) (Int.one_dvd m) (fun u hu => h u (by rw [e]; simp [hu])) m0
    have cle := Int.le_of_dvd (by omega) c2
    simp_arith [m_common_period_l1]
    refine Go.of (show f_period_of [dI m, dT (t.map pr)] S' = .ok (dI (per m t)) S' from period_of_eq ht.ne (by omega) m0 m1 (tgt_rg ht)) ?_
    simp_arith [Go_ok]
    refine ⟨by omega, Go.of (greatest_divisor_eq (b := per m t) c1 (by omega) (by omega)) ?_⟩
    have gpos : 0 < Int.gcd (a.foldl (fun f t => ((Int.lcm f (per m t) : Nat) : Int)) 1) (per m t) := Int.gcd_pos_of_ne_zero_left _ (by omega)
    have gle : (Int.gcd (a.foldl (fun f t => ((Int.lcm f (per m t) : Nat) : Int)) 1) (per m t) : Int) ≤ per m t := Int.le_of_dvd (by omega) (Int.gcd_dvd_right _ _)
    have hdv := lcm_div c1 (show 0 < per m t by omega)
    simp_arith [Go_ok]
    have e2 : ((Int.lcm (a.foldl (fun f t => ((Int.lcm f (per m t) : Nat) : Int)) 1) (per m t) : Nat) : Int) = (a ++ [t]).foldl (fun f t => ((Int.lcm f (per m t) : Nat) : Int)) 1 := by rw [List.foldl_append]; rfl
    rw [hdv, e2]
    exact ⟨by omega, _, _, rfl⟩
  · rintro env S' ⟨x3, x4, rfl, rfl⟩
    simp_arith [Go_ok]
    exact ⟨rfl, [], by simp⟩
end
end QQ
end
section
set_option maxRecDepth 100000
set_option maxHeartbeats 1000000
/-! DS2: law 32. -/
namespace QQ
open PySem DL
local macro_rules | `(tactic| simp_arith [$xs,*]) => `(tactic| simp only [eqL00, neL00, eqTi, neTi, eqLi, neLi, eqTp, neTp, eqLi0, neLi0, eqTi0, neTi0, eqLi1, inLi, notInLi, Go_ok, Go_exc, Go_bad, Br_t, Br_f, Br_not, xC_w, xV_w0, xV_ws, kB1_w, kB2_w, xBin_w, xT_w, xTr_w, asB_w, kAsB_w, truB_w, kTruB_w, kTruI_w, kTruN_w, kTruL_w, kTruT_w, kAndT_t, kAndT_f, kOrT_t, kOrT_f, kNotT_w, xAndT_w, 
  xOrT_w, xNotT_w, xYes_w, kOrD_w, kAndD_w, kOrD_t, kOrD_f, kAndD_t, kAndD_f, xOrD_w, xAndD_w, kNotB_w, xNot_w, kIfE_t, kIfE_f, xIf_w, xNil_w, kC1_w, kC2_w, xCons_w, kMut_w, xTup_w, xLst_w, xMut_w, kCB_w, xCB_w, kCall_w, 
  xCall_w, kNeg_w, xNeg_w, kCh1_w, kCh2_w, kCh4_t, kCh4_f, xChain_w, xNoPart_w, kPart_w, xPart_w, kSl1_w, kSl2_w, kSl3_w, xSl_w, xIsi_w, kBM_w, kBM2_w, xBM_w, tyD_L, kTup_0, kTup_1, kTup_2, kTup_3, kTup_4, kTup_5, kTup_6, 
  kTup_7, kTup_8, kLst_0, kLst_1, kLst_2, kLst_3, kLst_4, kLst_5, kLst_6, kLst_7, kLst_8, kIsi_int_NoneType, kIsi_int_bool, kIsi_int_int, kIsi_int_str, kIsi_int_list, kIsi_int_tuple, kIsi_bool_NoneType, kIsi_bool_bool, 
  kIsi_bool_int, kIsi_bool_str, kIsi_bool_list, kIsi_bool_tuple, kIsi_tuple_NoneType, kIsi_tuple_bool, kIsi_tuple_int, kIsi_tuple_str, kIsi_tuple_list, kIsi_tuple_tuple, kIsi_list_NoneType, kIsi_list_bool, kIsi_list_int, 
  kIsi_list_str, kIsi_list_list, kIsi_list_tuple, kIsi_str_NoneType, kIsi_str_bool, kIsi_str_int, kIsi_str_str, kIsi_str_list, kIsi_str_tuple, dAdd_w, dSub_w, dMul_w, dDiv_w, dMod_w, dPow_w, dCmp_w, dEqI_w, dNeI_w, dEqS_w, 
  dNeS_w, dAddT_w, dAddS_w, dAddL_w, dIsN_w, dIsNotN_w, isN_n, isN_i, isN_t, fLenL_w, fLenT_w, fAbs_w, fIntB_w, fMax2_w, fMin2_w, fMax_w, fMin_w, fSum_w, fSort_w, fSortT_w, fSSetT_w, fSSet_w, fAll_w, fTupleT_w, fTupleL_w, fListL_w, fListT_w, fRgT_w, 
  fRgL_w, fRgM_w, ixT0_w, ixT1_w, ixL0_w, ixL1_w, slT_w, slL_w, kNx_w, kEx_w, sk_nx, sk_rt, sk_bk, sk_ct, sk_xc, bk_rt, bk_nx, bkX_rt, bkX_nx, bkX_xc, xSeq_w, xPass_w, xBrk_w, xCnt_w, kDrop_w, xDrop_w, kRet_w, xRet_w, 
  xRetN_w, kIf_t, kIf_f, xIfS_w, kSet_w, xSet_w, kBd_w, Bd_nm, Bd_tp, Bd_tp3, kAsg_w, xAsg_w, kPar_w, kPar3_w, xPar_w, xPar3_w, kSto1_w, kSto2_w, xStore_w, kFor_w, xFor_w, xComp_w, xCompM_w, xWhile_w, kWh_t, kWh_f, xBody_w, xBodyX_w, kIt_w, kRv_w, kIx_w, 
  xIt_w, xRg1_w, xRg2_w, xRg3_w, xZip_w, xEnm_w, xEnB_w, xRev_w, iR1_w, iR2_w, iSeqL_w, iSeqT_w, iSeqS_w, iZipT_w, iZipL_w, zOk_l, zOk_r, lk_nx, lk_ct, lk_bk, lk_rt, lk_xc, env0, wipeE, List.map_cons, List.map_nil, List.set_cons_zero, 
  List.set_cons_succ, List.length_cons, List.length_nil, List.length_map, Nat.reduceAdd, Nat.reduceSub, Nat.zero_add, List.reduceReplicate, List.cons_append, List.nil_append, true_and, and_true, Bool.not_true, 
  Bool.not_false, decide_true, decide_false, Nat.reduceLeDiff, Int.reduceLT, Int.reduceLE, Int.reduceNeg, reduceIte, reduceCtorEq, Int.reduceToNat, Int.reducePow, Int.reduceAdd, Int.reduceSub, Int.reduceMul, implies_true, false_implies, forall_const, eq_self, and_self, Int.cast_ofNat_Int, Int.natCast_zero, Int.natCast_one, Int.reduceEq, $xs,*])
section
variable {Q : QR D} {E : QX} {n : Nat} {T S : Sto} {m : Int}
theorem repeats3_eq {tab : List Int} {d : Int} (hl : (tab.length : Int) = m) (m0 : 1 ≤ m) (m1 : m ≤ 1000) : f_repeats_3 [dT (tab.map .int), dI d] S = .ok (dB (rep m tab d)) S := by
  refine pure_eq ?_
  simp_arith [m_repeats_3, hl]
  refine ⟨by omega, ?_⟩
  refine cKi (fun p : Int => dI p) (fun p => !decide (nat_ tab ((p + d) % m) = (nat_ tab p + d) % m)) (fun p => p) (ys := rgI 0 m) (by rw [rgI_length]; omega) ?_ ?_
  · intro p hp
    have hp := rgI_mem.mp hp
    have a := md (a := p + d) m0
    unfold Item
    simp_arith [ixTi_w (is := tab) (i := (p + d) % m) (by omega), ixTi_w (is := tab) (i := p) (by omega)]
    exact ⟨by omega, by omega, rfl⟩
  · rw [List.map_id']
    simp_arith [Go_ok]
    refine ⟨?_, [], by simp⟩
    congr 2
    unfold rep
    rw [Bool.eq_iff_iff, List.isEmpty_iff, List.filter_eq_nil_iff, decide_eq_true_eq]
    exact forall_congr' fun p => by simp
end
/-- a predicate with a period, over some rounds -/
theorem count_rounds {p : Int} {P : Int → Bool} (p0 : 1 ≤ p) (hP : ∀ x, P (x + p) = P x) : ∀ k : Nat, ((rgI 0 (k * p)).filter P).length = k * ((rgI 0 p).filter P).length
  | 0 => by simp [rgI]
  | k + 1 => by
    have ih := count_rounds p0 hP k
    have kp : 0 ≤ (k : Int) * p := Int.mul_nonneg (Int.natCast_nonneg k) (by omega)
    have e : ((k + 1 : Nat) : Int) * p = k * p + p := by rw [Int.natCast_add, Int.add_mul]; omega
    rw [e, rgI_app kp (show (k : Int) * p ≤ k * p + p by omega), List.filter_append, List.length_append, ih, window p0 hP, Nat.add_mul]
    omega
theorem arcs_per {m : Int} {t : List (Int × Int)} (h : Tool1 m t) (m0 : 1 ≤ m) : m ∣ t.length * per m t := by
  obtain ⟨p1, p2, p3, p4⟩ := per_spec h.toTool m0
  by_cases h2 : 2 ≤ t.length
  · have hr := (p4 (per m t)).mpr (Int.dvd_refl _)
    obtain ⟨F, hF⟩ := h.toTool.lifts m0
    have al := (reps_al hF m0).mp hr
    let P : Int → Bool := fun x => tgt t (x % m) != tgt t ((x - 1) % m)
    have hP : ∀ x, P (x + per m t) = P x := fun x => by
      show (tgt t ((x + per m t) % m) != tgt t ((x + per m t - 1) % m)) = (tgt t (x % m) != tgt t ((x - 1) % m))
      rw [← hF.tgt, ← hF.tgt, ← hF.tgt, ← hF.tgt, al, show x + per m t - 1 = (x - 1) + per m t by omega, al]
      have : ∀ a b k : Int, ((a + k) % m != (b + k) % m) = (a % m != b % m) := fun a b k => by
        by_cases e : a % m = b % m
        · have : (a + k) % m = (b + k) % m := by rw [Int.add_emod, e, ← Int.add_emod]
          rw [e, this, bne_self_eq_false, bne_self_eq_false]
        · have : (a + k) % m ≠ (b + k) % m := fun z => e (by
            have : ((a + k) - k) % m = ((b + k) - k) % m := by rw [Int.sub_emod, z, ← Int.sub_emod]
            rw [show a + k - k = a by omega, show b + k - k = b by omega] at this
            exact this)
          rw [bne_iff_ne.mpr this, bne_iff_ne.mpr e]
      exact this _ _ _
    obtain ⟨k, hk⟩ := p3
    have k0 : 0 ≤ k := by
      by_cases z : 0 ≤ k
      · exact z
      · have := Int.mul_le_mul_of_nonneg_left (show k ≤ -1 by omega) (show 0 ≤ per m t by omega)
        rw [Int.mul_neg, Int.mul_one] at this
        omega
    have c := count_rounds p1 hP k.toNat
    rw [show ((k.toNat : Nat) : Int) * per m t = m by rw [show ((k.toNat : Nat) : Int) = k by omega, Int.mul_comm]; exact hk.symm] at c
    have e1 : (rgI 0 m).filter P = chgs m (tgt t) := List.filter_congr fun p hp => by
      have hp := rgI_mem.mp hp
      show (tgt t (p % m) != tgt t ((p - 1) % m)) = _
      rw [Int.emod_eq_of_lt hp.1 hp.2]
      rfl
    rw [e1, chgs_tgt h.toTool m0 h2, List.length_map] at c
    generalize ((rgI 0 (per m t)).filter P).length = c0 at c
    refine ⟨c0, ?_⟩
    have e2 : (t.length : Int) = k * c0 := by rw [c, Int.natCast_mul, show ((k.toNat : Nat) : Int) = k by omega]
    have e3 : m * c0 = per m t * k * c0 := by rw [← hk]
    rw [e2, e3, Int.mul_comm (k * c0) (per m t), Int.mul_assoc]
  · obtain ⟨q, rfl⟩ : ∃ q, t = [q] := by
      match t, h.ne, h2 with
      | [q], _, _ => exact ⟨q, rfl⟩
      | p :: q :: r, _, hl => simp at hl
    have hr := (p4 (per m [q])).mpr (Int.dvd_refl _) 0 (Int.le_refl 0) (by omega)
    rw [tgt_one, tgt_one] at hr
    have : (q.2 + per m [q] - q.2) % m = 0 := by
      have rq := h.rg q (List.mem_singleton_self q)
      rw [Int.sub_emod, ← hr, Int.emod_eq_of_lt rq.2.2.1 rq.2.2.2, Int.sub_self, Int.zero_emod]
    rw [show q.2 + per m [q] - q.2 = per m [q] by omega] at this
    rw [List.length_singleton, show ((1 : Nat) : Int) = 1 from rfl, Int.one_mul]
    exact Int.dvd_of_emod_eq_zero this
end QQ
end
section
set_option maxRecDepth 100000
set_option maxHeartbeats 1000000
/-! DS3: law 32. -/
namespace QQ
open PySem DL
local macro_rules | `(tactic| simp_arith [$xs,*]) => `(tactic| simp only [eqL00, neL00, eqTi, neTi, eqLi, neLi, eqTp, neTp, eqLi0, neLi0, eqTi0, neTi0, eqLi1, inLi, notInLi, Go_ok, Go_exc, Go_bad, Br_t, Br_f, Br_not, xC_w, xV_w0, xV_ws, kB1_w, kB2_w, xBin_w, xT_w, xTr_w, asB_w, kAsB_w, truB_w, kTruB_w, kTruI_w, kTruN_w, kTruL_w, kTruT_w, kAndT_t, kAndT_f, kOrT_t, kOrT_f, kNotT_w, xAndT_w, 
  xOrT_w, xNotT_w, xYes_w, kOrD_w, kAndD_w, kOrD_t, kOrD_f, kAndD_t, kAndD_f, xOrD_w, xAndD_w, kNotB_w, xNot_w, kIfE_t, kIfE_f, xIf_w, xNil_w, kC1_w, kC2_w, xCons_w, kMut_w, xTup_w, xLst_w, xMut_w, kCB_w, xCB_w, kCall_w, 
  xCall_w, kNeg_w, xNeg_w, kCh1_w, kCh2_w, kCh4_t, kCh4_f, xChain_w, xNoPart_w, kPart_w, xPart_w, kSl1_w, kSl2_w, kSl3_w, xSl_w, xIsi_w, kBM_w, kBM2_w, xBM_w, tyD_L, kTup_0, kTup_1, kTup_2, kTup_3, kTup_4, kTup_5, kTup_6, 
  kTup_7, kTup_8, kLst_0, kLst_1, kLst_2, kLst_3, kLst_4, kLst_5, kLst_6, kLst_7, kLst_8, kIsi_int_NoneType, kIsi_int_bool, kIsi_int_int, kIsi_int_str, kIsi_int_list, kIsi_int_tuple, kIsi_bool_NoneType, kIsi_bool_bool, 
  kIsi_bool_int, kIsi_bool_str, kIsi_bool_list, kIsi_bool_tuple, kIsi_tuple_NoneType, kIsi_tuple_bool, kIsi_tuple_int, kIsi_tuple_str, kIsi_tuple_list, kIsi_tuple_tuple, kIsi_list_NoneType, kIsi_list_bool, kIsi_list_int, 
  kIsi_list_str, kIsi_list_list, kIsi_list_tuple, kIsi_str_NoneType, kIsi_str_bool, kIsi_str_int, kIsi_str_str, kIsi_str_list, kIsi_str_tuple, dAdd_w, dSub_w, dMul_w, dDiv_w, dMod_w, dPow_w, dCmp_w, dEqI_w, dNeI_w, dEqS_w, 
  dNeS_w, dAddT_w, dAddS_w, dAddL_w, dIsN_w, dIsNotN_w, isN_n, isN_i, isN_t, fLenL_w, fLenT_w, fAbs_w, fIntB_w, fMax2_w, fMin2_w, fMax_w, fMin_w, fSum_w, fSort_w, fSortT_w, fSSetT_w, fSSet_w, fAll_w, fTupleT_w, fTupleL_w, fListL_w, fListT_w, fRgT_w, 
  fRgL_w, fRgM_w, ixT0_w, ixT1_w, ixL0_w, ixL1_w, slT_w, slL_w, kNx_w, kEx_w, sk_nx, sk_rt, sk_bk, sk_ct, sk_xc, bk_rt, bk_nx, bkX_rt, bkX_nx, bkX_xc, xSeq_w, xPass_w, xBrk_w, xCnt_w, kDrop_w, xDrop_w, kRet_w, xRet_w, 
  xRetN_w, kIf_t, kIf_f, xIfS_w, kSet_w, xSet_w, kBd_w, Bd_nm, Bd_tp, Bd_tp3, kAsg_w, xAsg_w, kPar_w, kPar3_w, xPar_w, xPar3_w, kSto1_w, kSto2_w, xStore_w, kFor_w, xFor_w, xComp_w, xCompM_w, xWhile_w, kWh_t, kWh_f, xBody_w, xBodyX_w, kIt_w, kRv_w, kIx_w, 
  xIt_w, xRg1_w, xRg2_w, xRg3_w, xZip_w, xEnm_w, xEnB_w, xRev_w, iR1_w, iR2_w, iSeqL_w, iSeqT_w, iSeqS_w, iZipT_w, iZipL_w, zOk_l, zOk_r, lk_nx, lk_ct, lk_bk, lk_rt, lk_xc, env0, wipeE, List.map_cons, List.map_nil, List.set_cons_zero, 
  List.set_cons_succ, List.length_cons, List.length_nil, List.length_map, Nat.reduceAdd, Nat.reduceSub, Nat.zero_add, List.reduceReplicate, List.cons_append, List.nil_append, true_and, and_true, Bool.not_true, 
  Bool.not_false, decide_true, decide_false, Nat.reduceLeDiff, Int.reduceLT, Int.reduceLE, Int.reduceNeg, reduceIte, reduceCtorEq, Int.reduceToNat, Int.reducePow, Int.reduceAdd, Int.reduceSub, Int.reduceMul, implies_true, false_implies, forall_const, eq_self, and_self, Int.cast_ofNat_Int, Int.natCast_zero, Int.natCast_one, Int.reduceEq, $xs,*])
section
variable {m : Int}
theorem comb_al {t u : List (Int × Int)} (ht : Tool1 m t) (hu : Tool1 m u) (m0 : 1 ≤ m) {k d : Int} (a : Reps m t d) (b : Reps m u d) : Reps m (norm m (combF m t k u)) d := by
  obtain ⟨F, hF⟩ := ht.toTool.lifts m0
  obtain ⟨G, hG⟩ := hu.toTool.lifts m0
  have aF := (reps_al hF m0).mp a
  have aG := (reps_al hG m0).mp b
  intro p p0 p1
  rw [comb_tgt ht hu m0 (md m0).1 (md m0).2, comb_tgt ht hu m0 p0 p1]
  have e : ∀ x, combF m t k u (x % m) = G (F x + k) % m := fun x => by
    unfold combF
    rw [← hF.tgt, Int.emod_add_emod, ← hG.tgt]
  have e2 := e p
  rw [Int.emod_eq_of_lt p0 p1] at e2
  rw [e, e2, aF p, show F p + d + k = F p + k + d by omega, aG, Int.emod_add_emod]
theorem widS_iff {ts : List (List (Int × Int))} (h : ∀ t ∈ ts, Tool m t) (ne : ts ≠ []) (m0 : 1 ≤ m) {L : Int} (l0 : 0 ≤ L) (l1 : L ≤ m) : widS m ts L = L ↔ com m ts ∣ L := by
  have cs := com_spec h m0
  rw [cs.2.2]
  have key : ∀ t ∈ ts, (wid m t L = L ↔ per m t ∣ L) := fun t ht => by
    obtain ⟨F, hF⟩ := (h t ht).lifts m0
    rw [← (per_spec (h t ht) m0).2.2.2 L, reps_al hF m0]
    exact ⟨wid_al (h t ht) m0 hF l0 l1, al_wid (h t ht) m0 hF l0 l1⟩
  refine ⟨fun e t ht => (key t ht).mp ?_, fun e => ?_⟩
  · have a := wid_ge (h t ht) m0 l0 l1
    have b : wid m t L ≤ widS m ts L := maxI_ge (List.mem_map.mpr ⟨t, ht, rfl⟩)
    omega
  · obtain ⟨t, ht⟩ := List.exists_mem_of_ne_nil ts ne
    have b : wid m t L ≤ widS m ts L := maxI_ge (List.mem_map.mpr ⟨t, ht, rfl⟩)
    have c : widS m ts L ≤ L := maxI_le (by simp [ne]) fun x hx => by
      obtain ⟨u, hu, rfl⟩ := List.mem_map.mp hx
      exact Int.le_of_eq ((key u hu).mpr (e u hu))
    have := (key t ht).mpr (e t ht)
    omega
theorem turn_per {t : List (Int × Int)} (ht : Tool1 m t) (m0 : 1 ≤ m) {d : Int} (a : Reps m t d) : norm m (turnF m t d) = t := by
  have : norm m (turnF m t d) = norm m (tgt t) := norm_congr m0 fun p p0 p1 => by
    unfold turnF
    have r := tgt_rg ht.toTool p
    rw [a p p0 p1, Int.emod_sub_emod, show tgt t p + d - d = tgt t p by omega, Int.emod_eq_of_lt r.1 r.2]
  rw [this, norm_tgt ht m0]
theorem emod_zero {a b : Int} : (a % b = 0) ↔ b ∣ a := ⟨Int.dvd_of_emod_eq_zero, Int.emod_eq_zero_of_dvd⟩
end
theorem law32_holds : ∀ ns : List Int, ns.length ≤ 63 → ∃ S', f_law32 [.scr ns] [] = .ok (dB true) S' := by
  intro ns hn
  refine law_end ?_
  obtain ⟨S0, e0, d0⟩ := deck2_ok ns
  simp_arith [m_law32]
  refine Go.of e0 ?_
  simp_arith [Go_ok]
  refine fL (fun i : Int => dI i) (Fr ns 12) (ys := rgI 0 5) (Fr.mk d0 rfl (by rw [rgI_length]; decide)) ?_ ?_
  · rintro i hi j env S ⟨rest, rfl, hl, hd⟩
    match rest, hl with
    | [x2, x3, x4, x5, x6, x7, x8, x9, x10, x11, x12, x13], _ =>
      simp_arith [m_law32_l2]
      refine draw2_w (n := j * 1000000 + 900000) (hd.mono (by omega)) (by decide) (by decide) fun m' S1 m0' m1' d1 => ?_
      obtain ⟨m, hm⟩ : ∃ m, 1 + m' = m := ⟨_, rfl⟩
      have m0 : 1 ≤ m := by omega
      have m1 : m ≤ 60 := by omega
      simp_arith [hm]
      refine draw2_w (n := j * 1000000 + 800000) (d1.mono (by omega)) (by decide) (by decide) fun q S2 q0 q1 d2 => ?_
      simp_arith [Go_ok]
      refine ⟨by omega, ?_⟩
      refine cKk (fun i : Int => dI i) tT (Tool1 m) 200 (j * 1000000 + 700000) (ys := rgI 0 (1 + q)) (by rw [rgI_length]; omega) (d2.mono (by rw [rgI_length]; omega)) ?_ ?_
      · intro y hy j S h
        simp_arith [Go_ok]
        exact tool4_w h m0 m1 fun t S' ht hd => ⟨t, rfl, ht, hd⟩
      intro ts S3 lts hts d3
      have lts : ts.length = (1 + q).toNat := by rw [lts, rgI_length, Int.sub_zero]
      have ht' : ∀ t ∈ ts, Tool m t := fun t h => (hts t h).toTool
      have ne : ts ≠ [] := fun e => by rw [e] at lts; simp at lts; omega
      obtain ⟨c0, cm, cdv⟩ := com_spec ht' m0
      simp_arith [Go_ok]
      refine Go.of (common_period_eq ht' (by omega) m0 (by omega)) ?_
      simp_arith [Go_ok]
      refine fK (fun t => D.py (tT t)) (fun a env S' => ∃ x6 x7 x8 x9 x10 x11 x12 x13, env = [some (.scr ns), some (.loc 1), some (dI i), some (dI m), some (dT (ts.map tT)), some (dI (com m ts)), x6, x7, x8, x9, x10, x11, x12, x13] ∧ S' = S3) (ys := ts) ⟨_, _, _, _, _, _, _, _, rfl, rfl⟩ ?_ ?_
      · rintro a t b env S' e ⟨y6, y7, y8, y9, y10, y11, y12, y13, rfl, rfl⟩
        have hmem : t ∈ ts := by rw [e]; simp
        have ht := hts t hmem
        have := ht.len
        obtain ⟨p1, p2, p3, p4⟩ := per_spec ht.toTool m0
        have dv := cdv (com m ts)
        have pc := (dv.mp (Int.dvd_refl _)) t hmem
        have pl := arcs_per ht m0
        have eper : f_period_of [dI m, dT (t.map pr)] S' = .ok (dI (per m t)) S' := period_of_eq ht.ne (by omega) m0 (by omega) (tgt_rg ht.toTool)
        obtain ⟨c, hc⟩ : ∃ c, com m ts = c := ⟨_, rfl⟩
        obtain ⟨p, hp⟩ : ∃ p, per m t = p := ⟨_, rfl⟩
        rw [hp] at eper p1 p2 p3 p4 pc pl
        rw [hc] at pc ⊢
        simp_arith [m_law32_l1]
        refine Go.of eper ?_
        simp_arith [Go_ok]
        refine Go.of (show f_table_of [dI m, dT (t.map pr)] S' = .ok (dT ((tabl m t).map .int)) S' from table_of_eq ht.ne (by omega) (by omega) (by omega)) ?_
        simp_arith [Int.emod_eq_zero_of_dvd p3, Int.emod_eq_zero_of_dvd pc, Int.emod_eq_zero_of_dvd pl]
        refine ⟨by omega, by omega, by omega, by omega, by omega, ?_⟩
        refine cKn (fun d : Int => dI d) (ys := rgI 1 (m + 1)) (by rw [rgI_length]; omega) ?_ ?_
        · intro d hd
          have hd := rgI_mem.mp hd
          unfold Item
          simp_arith [Go_ok]
          refine Go.of (repeats3_eq (tabl_len (by omega)) m0 (by omega)) ?_
          have : rep m (tabl m t) d = decide (d % p = 0) := by
            rw [Bool.eq_iff_iff, rep_reps m0, p4, decide_eq_true_eq, emod_zero]
          simp_arith [dNeB_w, this]
          omega
        · simp_arith [Go_ok]
          refine Go.of (turned_tool_eq ht.toTool m0 (by omega)) ?_
          simp_arith [turn_per ht m0 ((p4 _).mpr (Int.dvd_refl _))]
          exact ⟨_, _, _, _, _, _, _, _, rfl⟩
      · rintro env S' ⟨y6, y7, y8, y9, y10, y11, y12, y13, rfl, rfl⟩
        obtain ⟨t, r, rfl⟩ : ∃ t r, ts = t :: r := by
          cases ts with
          | nil => exact absurd rfl ne
          | cons t r => exact ⟨t, r, rfl⟩
        have ht := hts t List.mem_cons_self
        obtain ⟨u, hu⟩ : ∃ u, (t :: r).getLast? = some u := by
          cases h : (t :: r).getLast? with
          | none => simp at h
          | some u => exact ⟨u, rfl⟩
        have hu' := hts u (List.mem_of_getLast? hu)
        simp_arith [Go_ok]
        refine draw2_w (n := j * 1000000 + 600000) (d3.mono (by omega)) (by omega) (by omega) fun k S4 k0 k1 d4 => ?_
        simp_arith [Go_ok]
        rw [show ∀ Q E, Go (dIxD (dT (tT t :: r.map tT)) (dI (-1)) S4) Q E = Q (D.py (tT u)) S4 from fun Q E => by
          rw [ixT1 (v := tT u) (by rw [← List.map_cons, List.getLast?_map, hu]; rfl), Go_ok]]
        simp_arith [Go_ok]
        refine Go.of (combined_eq ht hu' m0 (by omega)) ?_
        have hw := comb_tool ht hu' m0 (k := k)
        have := hw.len
        have c2 := cdv (com m (t :: r))
        have cw := comb_al ht hu' m0 (k := k) (d := com m (t :: r)) (((per_spec ht.toTool m0).2.2.2 _).mpr ((c2.mp (Int.dvd_refl _)) t List.mem_cons_self)) (((per_spec hu'.toTool m0).2.2.2 _).mpr ((c2.mp (Int.dvd_refl _)) u (List.mem_of_getLast? hu)))
        obtain ⟨w1, w2, w3, w4⟩ := per_spec hw.toTool m0
        simp_arith [Go_ok]
        refine Go.of (show f_table_of [dI m, dT ((norm m (combF m t k u)).map pr)] S4 = .ok (dT ((tabl m (norm m (combF m t k u))).map .int)) S4 from table_of_eq hw.ne (by omega) (by omega) (by omega)) ?_
        simp_arith [Go_ok]
        refine Go.of (repeats3_eq (tabl_len (by omega)) m0 (by omega)) ?_
        simp_arith [(rep_reps m0).mpr cw]
        refine Go.of (show f_period_of [dI m, dT ((norm m (combF m t k u)).map pr)] S4 = .ok (dI (per m (norm m (combF m t k u)))) S4 from period_of_eq hw.ne (by omega) m0 (by omega) (tgt_rg hw.toTool)) ?_
        simp_arith [Int.emod_eq_zero_of_dvd ((w4 _).mp cw)]
        refine ⟨by omega, by omega, ?_⟩
        have nel : t :: r ≠ [] := ne
        have hlen : (t :: r).length ≤ 1000 := by omega
        refine cKi (fun d : Int => dI d) (fun d => decide (d % com m (t :: r) = 0)) (fun d => d) (ys := rgI 1 m) (by rw [rgI_length]; omega) ?_ ?_
        · intro d hd
          have hd := rgI_mem.mp hd
          unfold Item
          simp_arith [Go_ok]
          refine Go.of (width_of_eq (ts := t :: r) ht' nel hlen m0) ?_
          simp_arith [Go_ok]
          rw [decide_eq_decide, widS_iff ht' nel m0 (by omega) (by omega), emod_zero]
        · simp_arith [Go_ok]
          refine ⟨by omega, ?_⟩
          refine cKi (fun d : Int => dI d) (fun d => decide (d % com m (t :: r) = 0)) (fun d => d) (ys := rgI 1 m) (by rw [rgI_length]; omega) ?_ ?_
          · intro d hd
            unfold Item
            simp_arith [Go_ok]
            exact c0
          · simp_arith [Go_ok]
            exact Fr.mk d4 rfl (by omega)
  · rintro env S ⟨rest, rfl, hl, hd⟩
    simp_arith [Go_ok]
end QQ
end
section
set_option maxRecDepth 100000
set_option maxHeartbeats 1000000
/-! F0: tools of the first deck; places brought into arcs. -/
namespace QQ
open PySem DL
local macro_rules | `(tactic| simp_arith [$xs,*]) => `(tactic| simp only [eqL00, neL00, eqTi, neTi, eqLi, neLi, eqTp, neTp, eqLi0, neLi0, eqTi0, neTi0, eqLi1, inLi, notInLi, Go_ok, Go_exc, Go_bad, Br_t, Br_f, Br_not, xC_w, xV_w0, xV_ws, kB1_w, kB2_w, xBin_w, xT_w, xTr_w, asB_w, kAsB_w, truB_w, kTruB_w, kTruI_w, kTruN_w, kTruL_w, kTruT_w, kAndT_t, kAndT_f, kOrT_t, kOrT_f, kNotT_w, xAndT_w, 
  xOrT_w, xNotT_w, xYes_w, kOrD_w, kAndD_w, kOrD_t, kOrD_f, kAndD_t, kAndD_f, xOrD_w, xAndD_w, kNotB_w, xNot_w, kIfE_t, kIfE_f, xIf_w, xNil_w, kC1_w, kC2_w, xCons_w, kMut_w, xTup_w, xLst_w, xMut_w, kCB_w, xCB_w, kCall_w, 
  xCall_w, kNeg_w, xNeg_w, kCh1_w, kCh2_w, kCh4_t, kCh4_f, xChain_w, xNoPart_w, kPart_w, xPart_w, kSl1_w, kSl2_w, kSl3_w, xSl_w, xIsi_w, kBM_w, kBM2_w, xBM_w, tyD_L, kTup_0, kTup_1, kTup_2, kTup_3, kTup_4, kTup_5, kTup_6, 
  kTup_7, kTup_8, kLst_0, kLst_1, kLst_2, kLst_3, kLst_4, kLst_5, kLst_6, kLst_7, kLst_8, kIsi_int_NoneType, kIsi_int_bool, kIsi_int_int, kIsi_int_str, kIsi_int_list, kIsi_int_tuple, kIsi_bool_NoneType, kIsi_bool_bool, 
  kIsi_bool_int, kIsi_bool_str, kIsi_bool_list, kIsi_bool_tuple, kIsi_tuple_NoneType, kIsi_tuple_bool, kIsi_tuple_int, kIsi_tuple_str, kIsi_tuple_list, kIsi_tuple_tuple, kIsi_list_NoneType, kIsi_list_bool, kIsi_list_int, 
  kIsi_list_str, kIsi_list_list, kIsi_list_tuple, kIsi_str_NoneType, kIsi_str_bool, kIsi_str_int, kIsi_str_str, kIsi_str_list, kIsi_str_tuple, dAdd_w, dSub_w, dMul_w, dDiv_w, dMod_w, dPow_w, dCmp_w, dEqI_w, dNeI_w, dEqS_w, 
  dNeS_w, dAddT_w, dAddS_w, dAddL_w, dIsN_w, dIsNotN_w, isN_n, isN_i, isN_t, fLenL_w, fLenT_w, fAbs_w, fIntB_w, fMax2_w, fMin2_w, fMax_w, fMin_w, fSum_w, fSort_w, fSortT_w, fSSetT_w, fSSet_w, fAll_w, fTupleT_w, fTupleL_w, fListL_w, fListT_w, fRgT_w, 
  fRgL_w, fRgM_w, ixT0_w, ixT1_w, ixL0_w, ixL1_w, slT_w, slL_w, kNx_w, kEx_w, sk_nx, sk_rt, sk_bk, sk_ct, sk_xc, bk_rt, bk_nx, bkX_rt, bkX_nx, bkX_xc, xSeq_w, xPass_w, xBrk_w, xCnt_w, kDrop_w, xDrop_w, kRet_w, xRet_w, 
  xRetN_w, kIf_t, kIf_f, xIfS_w, kSet_w, xSet_w, kBd_w, Bd_nm, Bd_tp, Bd_tp3, kAsg_w, xAsg_w, kPar_w, kPar3_w, xPar_w, xPar3_w, kSto1_w, kSto2_w, xStore_w, kFor_w, xFor_w, xComp_w, xCompM_w, xWhile_w, kWh_t, kWh_f, xBody_w, xBodyX_w, kIt_w, kRv_w, kIx_w, 
  xIt_w, xRg1_w, xRg2_w, xRg3_w, xZip_w, xEnm_w, xEnB_w, xRev_w, iR1_w, iR2_w, iSeqL_w, iSeqT_w, iSeqS_w, iZipT_w, iZipL_w, zOk_l, zOk_r, lk_nx, lk_ct, lk_bk, lk_rt, lk_xc, env0, wipeE, List.map_cons, List.map_nil, List.set_cons_zero, 
  List.set_cons_succ, List.length_cons, List.length_nil, List.length_map, Nat.reduceAdd, Nat.reduceSub, Nat.zero_add, List.reduceReplicate, List.cons_append, List.nil_append, true_and, and_true, Bool.not_true, 
  Bool.not_false, decide_true, decide_false, Nat.reduceLeDiff, Int.reduceLT, Int.reduceLE, Int.reduceNeg, reduceIte, reduceCtorEq, Int.reduceToNat, Int.reducePow, Int.reduceAdd, Int.reduceSub, Int.reduceMul, implies_true, false_implies, forall_const, eq_self, and_self, Int.cast_ofNat_Int, Int.natCast_zero, Int.natCast_one, Int.reduceEq, $xs,*])
theorem rgSize_mul {m d c : Int} (hm : m = c * d) (d1 : 1 ≤ d) (c1 : 1 ≤ c) : Builtin.Range.rangeSize 0 m d = c := by
  have hpos : 1 * 1 ≤ c * d := Int.mul_le_mul c1 d1 (by omega) (by omega)
  unfold Builtin.Range.rangeSize
  rw [if_pos (by omega), if_pos (by omega), hm]
  have h1 : (c * d - 0 - 1) / d = c - 1 := by
    rw [show c * d - 0 - 1 = (d - 1) + (c - 1) * d by rw [Int.sub_mul]; omega, Int.add_mul_ediv_right _ _ (by omega), Int.ediv_eq_zero_of_lt (by omega) (by omega)]
    omega
  rw [h1]; omega
theorem rg3_mul {m d c : Int} (hm : m = c * d) (d1 : 1 ≤ d) (c1 : 1 ≤ c) : rg3 0 m d = (rgI 0 c).map fun k => k * d := by
  have e := rgSize_mul hm d1 c1
  unfold rg3 rgI
  rw [e, List.map_map, Int.sub_zero]
  refine List.map_congr_left fun n _ => ?_
  show 0 + (n : Int) * d = (0 + (n : Int)) * d
  rw [Int.zero_add, Int.zero_add]
theorem rg3_w {m d c : Int} {S : Sto} {Q : QI} {E : QX} (hm : m = c * d) (d1 : 1 ≤ d) (c1 : 1 ≤ c) (h1 : m ≤ 1000) (k : Q (((rgI 0 c).map fun k => k * d).map fun i => .py (.int i), none) S) : Go (iR3 [dI 0, dI m, dI d] S) Q E := by
  have hpos : 1 * 1 ≤ c * d := Int.mul_le_mul c1 d1 (by omega) (by omega)
  have hdm : 1 * d ≤ c * d := Int.mul_le_mul_of_nonneg_right c1 (by omega)
  have hcm : c * 1 ≤ c * d := Int.mul_le_mul_of_nonneg_left d1 (by omega)
  have e := rgSize_mul hm d1 c1
  have hs : Builtin.Range.small 0 m d = true := by
    unfold Builtin.Range.small Builtin.Range.rangeFitsLong
    rw [e, if_pos (by omega)]
    simp only [Bool.and_eq_true, Bool.or_eq_true, decide_eq_true_eq, beq_iff_eq]
    omega
  have : iR3 [dI 0, dI m, dI d] S = .ok ((rg3 0 m d).map fun i => .py (.int i), none) S := by
    show (if d ≠ 0 ∧ d.natAbs < 1073741824 ∧ Builtin.Range.small 0 m d = true then _ else _) = _
    rw [if_pos ⟨by omega, by omega, hs⟩]
  rw [this, rg3_mul hm d1 c1, Go_ok]
  exact k
section
variable {Q : QR D} {E : QX} {n : Nat} {T S : Sto} {m : Int}
theorem draw_w {l : Int} (h : Dk (n + 1) T S) (l0 : 0 < l) (l1 : l < 1073741824) (k : ∀ v S', 0 ≤ v → v < l → Dk n T S' → Q (dI v) S') : Go (f_draw [.loc 1, dI l] S) Q E := by
  obtain ⟨v, S', e, v0, v1, h'⟩ := draw_ok l h l0 l1
  exact Go.of e (k v S' v0 v1 h')
theorem distinct_w {many : Int} (h : Dk (n + many.toNat) T S) (h0 : 0 ≤ many) (h1 : many ≤ m) (h2 : m ≤ 1000000) (k : ∀ (xs : List Int) S', xs.Pairwise (· < ·) → (∀ x ∈ xs, 0 ≤ x ∧ x < m) → xs.length = many.toNat → Dk n T S' → Q (dL (xs.map .int)) S') : Go (f_distinct [.loc 1, dI m, dI many] S) Q E := by
  obtain ⟨xs, S', e, a, b, c, h'⟩ := distinct_ok m many h h0 h1 h2
  exact Go.of e (k xs S' a b c h')
theorem Dk.lst {o : SO} (h : Dk n (T ++ [o]) S) : S[T.length + 2]? = some o := by rw [h.get]; simp
theorem Dk.ty {xs : List D} (h : Dk n (T ++ [.lst xs]) S) : (tyD S (.loc (T.length + 2)) = some "list") = True := by
  simp [tyD, h.lst]
theorem Dk.app_w {xs : List D} {x : D} (h : Dk n (T ++ [.lst xs]) S) (hl : xs.length < 1000000) (q : ∀ S', Dk n (T ++ [.lst (xs ++ [x])]) S' → Q dN S') : Go (mAppend (.loc (T.length + 2)) [x] S) Q E := by
  refine Go.of (append_ok h.lst hl) (q _ ?_)
  have := h.set T.length (.lst (xs ++ [x]))
  have e : (T ++ [SO.lst xs]).set T.length (SO.lst (xs ++ [x])) = T ++ [SO.lst (xs ++ [x])] := by simp
  rw [e] at this
  exact this
theorem fLenM_w {j : Nat} {xs : List D} (h : S[j]? = some (.lst xs)) : Go (fLen [.loc j] S) Q E = Q (dI xs.length) S := by rw [fLenM h, Go_ok]
theorem Dk.finJ {k : Nat} {J : Sto} {p : PyData} (h : Dk k (T ++ J) S) (hq : ∀ S'', Dk k T S'' → Q (.py p) S'') : ∃ p' J k', D.py p = .py p' ∧ Dk k' (T ++ J) S ∧ ∀ S'', Dk k' T S'' → Q (.py p') S'' :=
  ⟨p, J, k, rfl, h, hq⟩
theorem tool_w (h : Dk (n + 200) T S) (m0 : 1 ≤ m) (m1 : m ≤ 60) (k : ∀ (t : List (Int × Int)) S', Tool1 m t → Dk n T S' → Q (dT (t.map pr)) S') : Go (f_tool [.loc 1, dI m] S) Q E := by
  have hdl := divs_len (m := m) (by omega)
  have hdpos : 0 < (divs m).length := List.length_pos_iff.mpr (List.ne_nil_of_mem (divs_self m0))
  refine h.go ?_
  simp_arith [m_tool]
  refine ⟨by omega, ?_⟩
  refine cKi (fun i : Int => dI i) (fun d => (m % d == 0) && decide (m / d ≤ 12)) (fun d => d) (ys := rgI 1 (m + 1)) (by rw [rgI_length]; omega) ?_ ?_
  · intro d hd
    have hd := rgI_mem.mp hd
    unfold Item
    simp_arith [Go_ok]
    refine ⟨by omega, ?_⟩
    unfold kAndT
    refine Br.dec (fun hz => ?_) (fun hz => ?_)
    · simp_arith [Go_ok]
      refine ⟨by omega, ?_⟩
      rw [hz]
      show _ = (true && _)
      rw [Bool.true_and]
      exact decide_eq_decide.mpr (by omega)
    · simp_arith [Go_ok]
      rw [beq_eq_false_iff_ne.mpr hz]
      rfl
  rw [List.map_id', show (rgI 1 (m + 1)).filter (fun d => (m % d == 0) && decide (m / d ≤ 12)) = divs m from rfl]
  simp_arith [Go_ok]
  refine draw_w (n := n + 199) h (by omega) (by omega) fun v1 S1 a0 a1 h1 => ?_
  simp_arith [ixLi_w (is := divs m) (i := v1) ⟨a0, a1⟩]
  have hd1 : (divs m).getD v1.toNat 0 ∈ divs m := by
    rw [List.getD_eq_getElem?_getD, List.getElem?_eq_getElem (by omega)]
    exact List.getElem_mem _
  refine draw_w (n := n + 198) h1 (by decide) (by decide) fun v2 S2 b0 b1 h2 => ?_
  generalize (divs m).getD v1.toNat 0 = x at hd1 ⊢
  obtain ⟨d, ed, hdm⟩ : ∃ d, ([m, x] : List Int).getD v2.toNat 0 = d ∧ d ∈ divs m := by
    rcases (by omega : v2 = 0 ∨ v2 = 1) with e | e <;> subst e
    · exact ⟨_, rfl, divs_self m0⟩
    · exact ⟨_, rfl, hd1⟩
  have ix : ∀ {Q : QR D} {E : QX} {S : Sto}, Go (dIxD (dL [.int m, .int x]) (dI v2) S) Q E = Q (dI d) S := fun {Q E S} => by
    have := ixLi_w (Q := Q) (E := E) (S := S) (is := [m, x]) (i := v2) ⟨b0, b1⟩
    rw [ed] at this
    exact this
  simp_arith [ix]
  obtain ⟨d0, dm, emd, c12⟩ := divs_mem hdm
  generalize hc : m / d = c at emd c12
  have c1 : 1 ≤ c := by
    have : 0 ≤ c := by rw [← hc]; exact Int.ediv_nonneg (by omega) (by omega)
    rcases (by omega : c = 0 ∨ 1 ≤ c) with e | e
    · rw [e] at emd; omega
    · exact e
  have q0 : 1 ≤ 12 * d / m := by
    refine (Int.le_ediv_iff_mul_le (by omega)).mpr ?_
    rw [Int.one_mul, emd]
    exact Int.mul_le_mul_of_nonneg_right c12 (by omega)
  obtain ⟨lim, elim, l0, l1, l2⟩ : ∃ lim : Int, (if 12 * d / m < d then 12 * d / m else d) = lim ∧ 1 ≤ lim ∧ lim ≤ d ∧ lim ≤ 12 * d / m := ⟨_, rfl, by split <;> omega, by split <;> omega, by split <;> omega⟩
  rw [elim]
  refine ⟨.inl trivial, by omega, draw_w (n := n + 197) h2 (by omega) (by omega) fun v3 S3 g0 g1 h3 => ?_⟩
  simp_arith [Go_ok]
  refine distinct_w (n := n + 100) (h3.mono (by omega)) (by omega) (by omega) (by omega) fun bs S4 pb rb lb h4 => ?_
  simp_arith [Go_ok]
  refine distinct_w (n := n + 20) (h4.mono (by omega)) (by omega) (by omega) (by omega) fun os S5 po ro lo h5 => ?_
  simp_arith [Go_ok]
  have p5 : S5.length = T.length + 2 := h5.len
  have h5' := h5.push (.lst [])
  rw [p5]
  refine draw_w (n := n + 19) h5' (by omega) (by omega) fun z S6 z0 z1 h6 => ?_
  simp_arith [Go_ok]
  have hmany : ((1 + v3).toNat : Int) * c ≤ 12 := by
    have a : (1 + v3) ≤ 12 * d / m := by omega
    have b : (1 + v3) * m ≤ 12 * d := (Int.le_ediv_iff_mul_le (by omega)).mp a
    rw [emd, ← Int.mul_assoc] at b
    have := Int.le_of_mul_le_mul_right b (by omega)
    rw [show ((1 + v3).toNat : Int) = 1 + v3 by omega]; exact this
  have ht := drawn_tool (z := z) emd d0 c1 pb po rb ro lb lo (by omega) hmany
  have hrowl : ∀ k, (row m z d bs os k).length = (1 + v3).toNat := fun k => by unfold row; rw [List.length_map, List.length_zip, lb, lo, Nat.min_self]
  have hlenall : ∀ l : List Int, (l.flatMap (row m z d bs os)).length = l.length * (1 + v3).toNat := fun l => by
    induction l with
    | nil => simp
    | cons x r ih => rw [List.flatMap_cons, List.length_append, ih, List.length_cons, hrowl, Nat.add_mul]; omega
  have hcd : c ≤ 60 := by
    have hcm : c * 1 ≤ c * d := Int.mul_le_mul_of_nonneg_left d0 (by omega)
    omega
  let V : List (Int × Int) → Envr → Sto → Prop := fun acc env S' => ∃ x9 x10, env = [some (.loc 1), some (dI m), some (dL (List.map PyData.int (divs m))), some (dI d), some (dI (1 + v3)), some (dL (List.map PyData.int bs)), some (dL (List.map PyData.int os)), some (D.loc (List.length T + 2)), some (dI z), x9, x10] ∧ Dk n (T ++ [.lst (acc.map fun p => .py (pr p))]) S'
  refine rg3_w emd d0 c1 (by omega) ?_
  unfold kFor
  refine fK (fun i : Int => dI (i * d)) (fun dn env S' => V (dn.flatMap (row m z d bs os)) env S') (ys := rgI 0 c) ⟨none, none, rfl, h6.mono (by omega)⟩ ?_ ?_ (by rw [List.map_map]; rfl)
  · rintro dn i r env S' e ⟨x9, x10, rfl, hd⟩
    have hdn : dn.length ≤ 60 := by
      have := congrArg List.length e
      rw [rgI_length, List.length_append, List.length_cons] at this
      omega
    have hacc : (dn.flatMap (row m z d bs os)).length ≤ 3600 := by
      rw [hlenall]
      exact Nat.le_trans (Nat.mul_le_mul hdn (show (1 + v3).toNat ≤ 60 by omega)) (by decide)
    obtain ⟨acc, eacc⟩ : ∃ acc, dn.flatMap (row m z d bs os) = acc := ⟨_, rfl⟩
    rw [eacc] at hd hacc
    simp_arith [m_tool_l2]
    refine ⟨by omega, ?_⟩
    have hzl : (bs.zip os).length = (1 + v3).toNat := by rw [List.length_zip, lb, lo, Nat.min_self]
    refine fK (fun j : Int => dI j) (fun dn env S' => ∃ x10, env = [some (.loc 1), some (dI m), some (dL (List.map PyData.int (divs m))), some (dI d), some (dI (1 + v3)), some (dL (List.map PyData.int bs)), some (dL (List.map PyData.int os)), some (D.loc (List.length T + 2)), some (dI z), some (dI (i * d)), x10] ∧ Dk n (T ++ [.lst ((acc ++ (row m z d bs os i).take dn.length).map fun p => .py (pr p))]) S') (ys := rgI 0 (1 + v3)) ⟨x10, rfl, by simpa using hd⟩ ?_ ?_
    · rintro dn2 j r2 env S2 e2 ⟨x10, rfl, hd2⟩
      have hj := List.getElem?_append_right (l₁ := dn2) (l₂ := j :: r2) (i := dn2.length) (Nat.le_refl _)
      rw [← e2, Nat.sub_self] at hj
      have hjl : dn2.length < (1 + v3).toNat := by
        have := congrArg List.length e2
        rw [rgI_length, List.length_append, List.length_cons] at this
        omega
      have ej : j = (dn2.length : Nat) := by
        unfold rgI at hj
        rw [List.getElem?_map, List.getElem?_range (by omega)] at hj
        simp at hj
        omega
      simp_arith [m_tool_l1, ixLi_w (is := bs) (i := j) (by omega), ixLi_w (is := os) (i := j) (by omega), hd2.ty]
      have hrow : (row m z d bs os i)[dn2.length]? = some (i * d + bs.getD j.toNat 0, (i * d + os.getD j.toNat 0 + z) % m) := by
        unfold row
        have hb : bs[dn2.length]? = some (bs.getD j.toNat 0) := by
          rw [ej, Int.toNat_natCast, List.getD_eq_getElem?_getD, List.getElem?_eq_getElem (by omega)]; rfl
        have ho : os[dn2.length]? = some (os.getD j.toNat 0) := by
          rw [ej, Int.toNat_natCast, List.getD_eq_getElem?_getD, List.getElem?_eq_getElem (by omega)]; rfl
        have hz : (bs.zip os)[dn2.length]? = some (bs.getD j.toNat 0, os.getD j.toNat 0) := List.getElem?_zip_eq_some.mpr ⟨hb, ho⟩
        rw [List.getElem?_map, hz]
        show some (bs.getD j.toNat 0 + i * d, (z + os.getD j.toNat 0 + i * d) % m) = _
        rw [Int.add_comm (bs.getD j.toNat 0), show z + os.getD j.toNat 0 + i * d = i * d + os.getD j.toNat 0 + z by omega]
      refine ⟨by omega, hd2.app_w (by rw [List.length_map, List.length_append, List.length_take]; omega) fun S4 hd4 => ?_⟩
      simp_arith [Go_ok]
      refine ⟨_, rfl, ?_⟩
      rw [List.length_append, List.length_singleton, List.take_add_one, hrow, ← List.append_assoc, List.map_append]
      exact hd4
    · rintro env S2 ⟨x10, rfl, hd2⟩
      simp_arith [Go_ok]
      refine ⟨_, _, rfl, ?_⟩
      show Dk n (T ++ [.lst (((dn ++ [i]).flatMap (row m z d bs os)).map fun p => .py (pr p))]) S2
      rw [List.flatMap_append, eacc, List.flatMap_singleton]
      rw [rgI_length, show (1 + v3 - 0).toNat = (row m z d bs os i).length by rw [hrowl]; congr 1; omega, List.take_length] at hd2
      exact hd2
  · rintro env S' ⟨x9, x10, rfl, hd⟩
    have p5 := hd.lst
    generalize (rgI 0 c).flatMap (row m z d bs os) = t at ht hd p5
    simp_arith [fLenM_w p5]
    unfold kIfE
    refine Br.dec (fun hl => ?_) (fun hl => ?_)
    · simp_arith [Go_ok]
      refine Go.of (fTupleM (xs := t.map pr) (by rw [List.map_map]; exact p5)) ?_
      simp_arith [Go_ok]
      exact hd.finJ (p := .tuple (t.map pr)) fun S'' h'' => k t S'' ⟨ht, fun p hp => by rw [hp] at hl; simp at hl⟩ h''
    · obtain ⟨p, rfl⟩ : ∃ p, t = [p] := by
        match t, ht.ne, hl with
        | [p], _, _ => exact ⟨p, rfl⟩
        | p :: q :: r, _, hl => simp at hl; omega
      have rg := ht.rg p (List.mem_singleton_self p)
      simp_arith [ixM_w (i := 0) (v := .py (pr p)) p5 (Int.le_refl 0) rfl, show pr p = .tuple [.int p.1, .int p.2] from rfl]
      exact hd.finJ (p := .tuple [.tuple [.int 0, .int p.2]]) fun S'' h'' => k [(0, p.2)] S'' ⟨one_tool rg.2.2.1 rg.2.2.2, fun p hp => by cases hp; rfl⟩ h''
end
end QQ
end
section
set_option maxRecDepth 100000
set_option maxHeartbeats 1000000
/-! F1: law 10. -/
namespace QQ
open PySem DL
local macro_rules | `(tactic| simp_arith [$xs,*]) => `(tactic| simp only [eqL00, neL00, eqTi, neTi, eqLi, neLi, eqTp, neTp, eqLi0, neLi0, eqTi0, neTi0, eqLi1, inLi, notInLi, Go_ok, Go_exc, Go_bad, Br_t, Br_f, Br_not, xC_w, xV_w0, xV_ws, kB1_w, kB2_w, xBin_w, xT_w, xTr_w, asB_w, kAsB_w, truB_w, kTruB_w, kTruI_w, kTruN_w, kTruL_w, kTruT_w, kAndT_t, kAndT_f, kOrT_t, kOrT_f, kNotT_w, xAndT_w, 
  xOrT_w, xNotT_w, xYes_w, kOrD_w, kAndD_w, kOrD_t, kOrD_f, kAndD_t, kAndD_f, xOrD_w, xAndD_w, kNotB_w, xNot_w, kIfE_t, kIfE_f, xIf_w, xNil_w, kC1_w, kC2_w, xCons_w, kMut_w, xTup_w, xLst_w, xMut_w, kCB_w, xCB_w, kCall_w, 
  xCall_w, kNeg_w, xNeg_w, kCh1_w, kCh2_w, kCh4_t, kCh4_f, xChain_w, xNoPart_w, kPart_w, xPart_w, kSl1_w, kSl2_w, kSl3_w, xSl_w, xIsi_w, kBM_w, kBM2_w, xBM_w, tyD_L, kTup_0, kTup_1, kTup_2, kTup_3, kTup_4, kTup_5, kTup_6, 
  kTup_7, kTup_8, kLst_0, kLst_1, kLst_2, kLst_3, kLst_4, kLst_5, kLst_6, kLst_7, kLst_8, kIsi_int_NoneType, kIsi_int_bool, kIsi_int_int, kIsi_int_str, kIsi_int_list, kIsi_int_tuple, kIsi_bool_NoneType, kIsi_bool_bool, 
  kIsi_bool_int, kIsi_bool_str, kIsi_bool_list, kIsi_bool_tuple, kIsi_tuple_NoneType, kIsi_tuple_bool, kIsi_tuple_int, kIsi_tuple_str, kIsi_tuple_list, kIsi_tuple_tuple, kIsi_list_NoneType, kIsi_list_bool, kIsi_list_int, 
  kIsi_list_str, kIsi_list_list, kIsi_list_tuple, kIsi_str_NoneType, kIsi_str_bool, kIsi_str_int, kIsi_str_str, kIsi_str_list, kIsi_str_tuple, dAdd_w, dSub_w, dMul_w, dDiv_w, dMod_w, dPow_w, dCmp_w, dEqI_w, dNeI_w, dEqS_w, 
  dNeS_w, dAddT_w, dAddS_w, dAddL_w, dIsN_w, dIsNotN_w, isN_n, isN_i, isN_t, fLenL_w, fLenT_w, fAbs_w, fIntB_w, fMax2_w, fMin2_w, fMax_w, fMin_w, fSum_w, fSort_w, fSortT_w, fSSetT_w, fSSet_w, fAll_w, fTupleT_w, fTupleL_w, fListL_w, fListT_w, fRgT_w, 
  fRgL_w, fRgM_w, ixT0_w, ixT1_w, ixL0_w, ixL1_w, slT_w, slL_w, kNx_w, kEx_w, sk_nx, sk_rt, sk_bk, sk_ct, sk_xc, bk_rt, bk_nx, bkX_rt, bkX_nx, bkX_xc, xSeq_w, xPass_w, xBrk_w, xCnt_w, kDrop_w, xDrop_w, kRet_w, xRet_w, 
  xRetN_w, kIf_t, kIf_f, xIfS_w, kSet_w, xSet_w, kBd_w, Bd_nm, Bd_tp, Bd_tp3, kAsg_w, xAsg_w, kPar_w, kPar3_w, xPar_w, xPar3_w, kSto1_w, kSto2_w, xStore_w, kFor_w, xFor_w, xComp_w, xCompM_w, xWhile_w, kWh_t, kWh_f, xBody_w, xBodyX_w, kIt_w, kRv_w, kIx_w, 
  xIt_w, xRg1_w, xRg2_w, xRg3_w, xZip_w, xEnm_w, xEnB_w, xRev_w, iR1_w, iR2_w, iSeqL_w, iSeqT_w, iSeqS_w, iZipT_w, iZipL_w, zOk_l, zOk_r, lk_nx, lk_ct, lk_bk, lk_rt, lk_xc, env0, wipeE, List.map_cons, List.map_nil, List.set_cons_zero, 
  List.set_cons_succ, List.length_cons, List.length_nil, List.length_map, Nat.reduceAdd, Nat.reduceSub, Nat.zero_add, List.reduceReplicate, List.cons_append, List.nil_append, true_and, and_true, Bool.not_true, 
  Bool.not_false, decide_true, decide_false, Nat.reduceLeDiff, Int.reduceLT, Int.reduceLE, Int.reduceNeg, reduceIte, reduceCtorEq, Int.reduceToNat, Int.reducePow, Int.reduceAdd, Int.reduceSub, Int.reduceMul, implies_true, false_implies, forall_const, eq_self, and_self, Int.cast_ofNat_Int, Int.natCast_zero, Int.natCast_one, Int.reduceEq, $xs,*])
section
variable {m : Int} {t : List (Int × Int)}
def brought (m : Int) (t : List (Int × Int)) (b L : Int) : List Int := (rgI 0 m).filter fun p => inArc m b L (tgt t p)
theorem brought_len (b L : Int) : ((brought m t b L).length : Int) = cnt m t b L := rfl
theorem brought_le (b L : Int) : (brought m t b L).length ≤ m.toNat := by
  have := List.length_filter_le (fun p => inArc m b L (tgt t p)) (rgI 0 m)
  rw [rgI_length, Int.sub_zero] at this
  exact this
theorem brought_into_eq {S : Sto} (h : Tool m t) (m0 : 1 ≤ m) (m1 : m ≤ 1000) {b L : Int} : f_brought_into [dI m, dT (t.map pr), dI b, dI L] S = .ok (dT ((brought m t b L).map .int)) S := by
  have hlen := h.len
  refine pure_eq ?_
  simp_arith [m_brought_into]
  refine ⟨by omega, ?_⟩
  refine cKi (fun i : Int => dI i) (fun p => inArc m b L (tgt t p)) (fun d => d) (ys := rgI 0 m) (by rw [rgI_length]; omega) ?_ ?_
  · intro p hp
    unfold Item
    simp_arith [Go_ok]
    refine Go.of (target_of_eq h.ne (by omega)) ?_
    simp_arith [Go_ok]
    exact ⟨by omega, rfl⟩
  · simp_arith [Go_ok]
    exact ⟨by simp [brought], [], by simp⟩
theorem divisor_eq {S : Sto} {a b : Int} (a0 : 0 < a) (b0 : 0 ≤ b) (b1 : b < 100000) : f_divisor [dI a, dI b] S = .ok (dI (Int.gcd a b)) S := by
  refine pure_eq ?_
  simp_arith [m_divisor]
  refine while_go (fun n env S' => ∃ x y : Int, env = [some (dI x), some (dI y)] ∧ S' = S ∧ 0 < x ∧ 0 ≤ y ∧ y.toNat = n ∧ Int.gcd x y = Int.gcd a b) 1000000 b.toNat _ _ (by omega) ⟨a, b, rfl, rfl, a0, b0, rfl, rfl⟩ ?_
  rintro n env S' ⟨x, y, rfl, rfl, x0, y0, rfl, e⟩
  simp_arith [Go_ok]
  unfold kWh
  refine Br.dec (fun h => ?_) (fun h => ?_)
  · simp_arith [m_divisor_l1]
    have r := Int.emod_lt_of_pos x h
    have r0 := Int.emod_nonneg x (show y ≠ 0 by omega)
    refine ⟨h, (x % y).toNat, by omega, y, x % y, rfl, h, r0, rfl, ?_⟩
    rw [← e]
    exact gcd_step x y
  · simp_arith [Go_ok]
    have : y = 0 := by omega
    subst this
    rw [Int.gcd_zero_right] at e
    rw [← e]
    exact ⟨by rw [Int.natAbs_of_nonneg (by omega)], [], by simp⟩
/-- whether a tool repeats -/
noncomputable def repB (m : Int) (t : List (Int × Int)) (d : Int) : Bool := @decide (Reps m t d) (Classical.propDecidable _)
theorem repB_iff {d : Int} : repB m t d = true ↔ Reps m t d := by
  unfold repB
  exact @decide_eq_true_iff _ (Classical.propDecidable _)
theorem repeats_eq {S : Sto} (h : Tool m t) (m0 : 1 ≤ m) (m1 : m ≤ 1000) {d : Int} : f_repeats [dI m, dT (t.map pr), dI d] S = .ok (dB (repB m t d)) S := by
  have hlen := h.len
  have tl := tabl_len (m := m) (t := t) (by omega)
  refine pure_eq ?_
  simp_arith [m_repeats]
  refine ⟨by omega, ?_⟩
  refine cKai (fun i : Int => dI i) (tgt t) (ys := rgI 0 m) (by rw [rgI_length]; omega) ?_ ?_
  · intro p hp
    unfold Item
    simp_arith [Go_ok]
    exact Go.of (target_of_eq h.ne (by omega)) ⟨rfl, rfl⟩
  have ll : ((rgI 0 m).map (tgt t)).length = m.toNat := by rw [List.length_map, rgI_length, Int.sub_zero]
  have gd : ∀ x : Int, 0 ≤ x → x < m → ((rgI 0 m).map (tgt t)).getD x.toNat 0 = tgt t x := fun x x0 x1 => by
    rw [List.getD_eq_getElem?_getD, List.getElem?_map, rgI_get (by omega)]
    show tgt t (0 + (x.toNat : Nat)) = _
    congr 1
    omega
  simp_arith [Go_ok]
  refine ⟨by omega, ?_⟩
  refine cKi (fun i : Int => dI i) (fun p => !decide (tgt t ((p + d) % m) = (tgt t p + d) % m)) (fun d => d) (ys := rgI 0 m) (by rw [rgI_length]; omega) ?_ ?_
  · intro p hp
    have hp := rgI_mem.mp hp
    have r1 := Int.emod_lt_of_pos (p + d) (show 0 < m by omega)
    have r0 := Int.emod_nonneg (p + d) (show m ≠ 0 by omega)
    unfold Item
    simp_arith [Go_ok]
    refine ⟨by omega, ?_⟩
    simp_arith [ixLi_w (is := (rgI 0 m).map (tgt t)) (i := (p + d) % m) ⟨r0, by rw [ll]; omega⟩, ixLi_w (is := (rgI 0 m).map (tgt t)) (i := p) ⟨hp.1, by rw [ll]; omega⟩]
    rw [gd _ r0 r1, gd _ hp.1 hp.2]
    exact ⟨by omega, rfl⟩
  · simp_arith [eqLi0]
    refine ⟨?_, [], by simp⟩
    refine congrArg (fun b => D.py (.bool b)) ?_
    rw [List.map_id', Bool.eq_iff_iff, List.isEmpty_iff, List.filter_eq_nil_iff]
    rw [repB_iff]
    unfold Reps
    refine ⟨fun h p p0 p1 => ?_, fun h p hp => ?_⟩
    · have := h p (rgI_mem.mpr ⟨p0, p1⟩)
      simpa using this
    · have hp := rgI_mem.mp hp
      simpa using h p hp.1 hp.2
theorem sum_cnt (h : Tool m t) (m0 : 1 ≤ m) {L : Int} (l0 : 0 ≤ L) (l1 : L ≤ m) : ((rgI 0 m).map fun b => cnt m t b L).sum = m * L := by
  obtain ⟨F, hF⟩ := h.lifts m0
  have hN := lowN_lift hF.lift m0
  rw [List.map_congr_left fun b _ => hF.cnt m0 (b := b) l0 l1]
  generalize lowN F = N at hN
  have e1 : ∀ (f : Int → Int) (k : Nat), ((rgI 0 k).map fun b => f (b + 1) - f b).sum = f k - f 0 := fun f k => by
    induction k with
    | zero => simp [rgI]
    | succ k ih =>
      have : rgI 0 ((k + 1 : Nat) : Int) = rgI 0 (k : Int) ++ [(k : Int)] := by
        unfold rgI
        rw [Int.sub_zero, Int.sub_zero, Int.toNat_natCast, Int.toNat_natCast, List.range_succ, List.map_append]
        simp
      rw [this, List.map_append, List.sum_append_int, ih]
      simp
      omega
  have e2 : ∀ k : Nat, ((rgI 0 m).map fun b => N (b + k) - N b).sum = m * k := fun k => by
    induction k with
    | zero => 
      have : ((rgI 0 m).map fun b => N (b + ((0 : Nat) : Int)) - N b) = (rgI 0 m).map fun _ => (0 : Int) := List.map_congr_left fun b _ => by simp
      rw [this]
      generalize rgI 0 m = l
      induction l with
      | nil => simp
      | cons x r ih => simpa using ih
    | succ k ih =>
      have s : ((rgI 0 m).map fun b => N (b + ((k + 1 : Nat) : Int)) - N b).sum = ((rgI 0 m).map fun b => N (b + k) - N b).sum + ((rgI 0 m).map fun b => N (b + 1 + k) - N (b + k)).sum := by
        generalize rgI 0 m = l
        induction l with
        | nil => rfl
        | cons x r ih =>
          simp only [List.map_cons, List.sum_cons]
          rw [ih, show x + ((k + 1 : Nat) : Int) = x + 1 + k by omega]
          omega
      rw [s, ih]
      have := e1 (fun b => N (b + k)) m.toNat
      rw [show ((m.toNat : Nat) : Int) = m by omega] at this
      rw [this]
      have hp := hN.per k
      rw [show m + (k : Int) = k + m by omega, hp, show (0 : Int) + k = k by omega, Int.natCast_add, Int.mul_add]
      simp
      omega
  have := e2 L.toNat
  rw [show ((L.toNat : Nat) : Int) = L by omega] at this
  exact this
end
section
variable {m : Int} {ts : List (List (Int × Int))}
theorem widS_ge (h : ∀ t ∈ ts, Tool m t) (ne : ts ≠ []) (m0 : 1 ≤ m) {L : Int} (l0 : 0 ≤ L) (l1 : L ≤ m) : L ≤ widS m ts L := by
  obtain ⟨t, ht⟩ := List.exists_mem_of_ne_nil ts ne
  have b : wid m t L ≤ widS m ts L := maxI_ge (List.mem_map.mpr ⟨t, ht, rfl⟩)
  have := wid_ge (h t ht) m0 l0 l1
  omega
theorem widS_full (h : ∀ t ∈ ts, Tool m t) (ne : ts ≠ []) (m0 : 1 ≤ m) : widS m ts m = m := by
  have := widS_ge h ne m0 (L := m) (by omega) (Int.le_refl _)
  have := widS_le (L := m) h ne (by omega)
  omega
theorem widS_mono (h : ∀ t ∈ ts, Tool m t) (ne : ts ≠ []) (m0 : 1 ≤ m) {L L' : Int} (l : L ≤ L') : widS m ts L ≤ widS m ts L' := maxI_le (by simp [ne]) fun x hx => by
  obtain ⟨t, ht, rfl⟩ := List.mem_map.mp hx
  exact Int.le_trans (wid_mono (h t ht) m0 l) (maxI_ge (List.mem_map.mpr ⟨t, ht, rfl⟩))
theorem lens_spec (h : ∀ t ∈ ts, Tool m t) (ne : ts ≠ []) (m0 : 1 ≤ m) (m1 : m ≤ 900) : ∀ (k : Nat) (g : Int), 0 ≤ g → g ≤ m → (m - g).toNat ≤ k → ∃ r l, lens m ts g = g :: r ∧ (g :: r).Pairwise (· < ·) ∧ (g :: r).getLast? = some l ∧ widS m ts l = l ∧ ∀ x ∈ g :: r, g ≤ x ∧ x ≤ m := by
  intro k
  induction k with
  | zero =>
    intro g g0 g1 hk
    have : g = m := by omega
    subst this
    have hf := widS_full h ne m0
    refine ⟨[], g, ?_, by simp, rfl, hf, fun x hx => by rw [List.mem_singleton.mp hx]; omega⟩
    rw [lens_step h ne (by omega) m1 g0, if_neg (by omega)]
  | succ k ih =>
    intro g g0 g1 hk
    have hge := widS_ge h ne m0 g0 g1
    have hle := widS_le (L := g) h ne (by omega)
    rw [lens_step h ne (by omega) m1 g0]
    by_cases hw : g < widS m ts g
    · rw [if_pos hw]
      obtain ⟨r, l, e, pw, la, lw, rg⟩ := ih (widS m ts g) (by omega) hle (by omega)
      rw [e]
      refine ⟨_, l, rfl, List.pairwise_cons.mpr ⟨fun x hx => by have := rg x hx; omega, pw⟩, by rw [List.getLast?_cons_cons]; exact la, lw, fun x hx => ?_⟩
      rcases List.mem_cons.mp hx with rfl | hx
      · omega
      · have := rg x hx; omega
    · rw [if_neg hw]
      exact ⟨[], g, rfl, by simp, rfl, by omega, fun x hx => by rw [List.mem_singleton.mp hx]; omega⟩
variable {Q : QR D} {E : QX} {n : Nat} {T S : Sto}
theorem tools_w (h : Dk (n + 1001) T S) (m0 : 1 ≤ m) (m1 : m ≤ 60) (k : ∀ (ts : List (List (Int × Int))) S', (∀ t ∈ ts, Tool1 m t) → ts ≠ [] → ts.length ≤ 4 → Dk n T S' → Q (dT (ts.map tT)) S') : Go (f_tools [.loc 1, dI m] S) Q E := by
  refine h.go ?_
  simp_arith [m_tools]
  refine draw_w (n := n + 1000) h (by decide) (by decide) fun q S1 q0 q1 h1 => ?_
  simp_arith [Go_ok]
  refine ⟨by omega, ?_⟩
  refine cKk (fun i : Int => dI i) tT (Tool1 m) 200 n (ys := rgI 0 (1 + q)) (by rw [rgI_length]; omega) (h1.mono (by rw [rgI_length]; omega)) ?_ ?_
  · intro y hy j S h
    simp_arith [Go_ok]
    exact tool_w h m0 m1 fun t S' ht hd => ⟨t, rfl, ht, hd⟩
  intro ts S3 lts hts d3
  rw [rgI_length, Int.sub_zero] at lts
  simp_arith [Go_ok]
  exact d3.fin fun S'' h'' => k ts S'' hts (fun e => by rw [e] at lts; simp at lts; omega) (by omega) h''
end
theorem pick3 {a b c i : Int} {P : Int → Prop} (i0 : 0 ≤ i) (ha : P a) (hb : P b) (hc : P c) : ∃ v, P v ∧ ∀ {Q : QR D} {E : QX} {S : Sto}, Go (dIxD (dL [.int a, .int b, .int c]) (dI (i % 3)) S) Q E = Q (dI v) S := by
  have r1 := Int.emod_lt_of_pos i (show (0 : Int) < 3 by decide)
  have r0 := Int.emod_nonneg i (show (3 : Int) ≠ 0 by decide)
  rcases (by omega : i % 3 = 0 ∨ i % 3 = 1 ∨ i % 3 = 2) with e | e | e <;> rw [e]
  · exact ⟨a, ha, fun {Q E S} => ixLi_w (is := [a, b, c]) (i := 0) (by simp)⟩
  · exact ⟨b, hb, fun {Q E S} => ixLi_w (is := [a, b, c]) (i := 1) (by simp)⟩
  · exact ⟨c, hc, fun {Q E S} => ixLi_w (is := [a, b, c]) (i := 2) (by simp)⟩
theorem law10_holds : ∀ ns : List Int, ns.length ≤ 63 → ∃ S', f_law10 [.scr ns] [] = .ok (dB true) S' := by
  intro ns hn
  refine law_end ?_
  obtain ⟨S0, e0, d0⟩ := deck_ok ns hn
  simp_arith [m_law10]
  refine Go.of e0 ?_
  simp_arith [Go_ok]
  refine fL (fun i : Int => dI i) (Fr ns 11) (ys := rgI 0 6) (Fr.mk d0 rfl (by rw [rgI_length]; decide)) ?_ ?_
  · rintro i hi j env S ⟨rest, rfl, hl, hd⟩
    have hi := rgI_mem.mp hi
    match rest, hl with
    | [x2, x3, x4, x5, x6, x7, x8, x9, x10, x11, x12], _ =>
      obtain ⟨v, hv, ev⟩ := pick3 (a := 5) (b := 13) (c := 24) (i := i) (P := fun v => 1 ≤ v ∧ v ≤ 24) hi.1 (by decide) (by decide) (by decide)
      simp_arith [m_law10_l2, ev]
      refine draw_w (n := j * 1000000 + 900000) (hd.mono (by omega)) (by omega) (by omega) fun m' S1 m0' m1' d1 => ?_
      obtain ⟨m, hm⟩ : ∃ m, 1 + m' = m := ⟨_, rfl⟩
      have m0 : 1 ≤ m := by omega
      have m1 : m ≤ 24 := by omega
      simp_arith [hm]
      refine tools_w (n := j * 1000000 + 800000) (d1.mono (by omega)) m0 (by omega) fun ts S2 hts ne lts d2 => ?_
      have ht' : ∀ t ∈ ts, Tool m t := fun t h => (hts t h).toTool
      simp_arith [Go_ok]
      refine ⟨by omega, ?_⟩
      refine cKai (fun i : Int => dI i) (widS m ts) (ys := rgI 1 (m + 1)) (by rw [rgI_length]; omega) ?_ ?_
      · intro L _
        unfold Item
        simp_arith [Go_ok]
        exact Go.of (width_of_eq ht' ne (by omega) m0) ⟨rfl, rfl⟩
      have wl : ((rgI 1 (m + 1)).map (widS m ts)).length = m.toNat := by rw [List.length_map, rgI_length]; congr 1; omega
      have wg : ∀ k : Int, 0 ≤ k → k < m → ((rgI 1 (m + 1)).map (widS m ts)).getD k.toNat 0 = widS m ts (k + 1) := fun k k0 k1 => by
        rw [List.getD_eq_getElem?_getD, List.getElem?_map, rgI_get (by omega)]
        show widS m ts (1 + (k.toNat : Nat)) = _
        congr 1
        omega
      have wlast : ∀ {Q E} {S : Sto}, Go (dIxD (dL (((rgI 1 (m + 1)).map (widS m ts)).map .int)) (dI (-1)) S) Q E = Q (dI m) S := fun {Q E S} => by
        rw [ixL1 (v := .int m), Go_ok]
        rw [List.getLast?_map, List.getLast?_eq_getElem?, wl, List.getElem?_map, rgI_get (by omega)]
        show some (PyData.int (widS m ts (1 + ((m.toNat - 1 : Nat) : Int)))) = _
        rw [show 1 + ((m.toNat - 1 : Nat) : Int) = m by omega, widS_full ht' ne m0]
      have wsort : (rgI 1 (m + 1)).map (widS m ts) = sortI ((rgI 1 (m + 1)).map (widS m ts)) := sortI_eq (List.Perm.refl _) (by
        rw [List.pairwise_map]
        exact (rgI_lt 1 (m + 1)).imp fun h => widS_mono ht' ne m0 (by omega))
      generalize (rgI 1 (m + 1)).map (widS m ts) = ws at wl wg wlast wsort
      simp_arith [wlast, ← wsort, neLi, decide_true]
      refine ⟨by omega, ?_⟩
      refine cKn (fun i : Int => dI i) (ys := rgI 0 m) (by rw [rgI_length]; omega) ?_ ?_
      · intro k hk
        have hk := rgI_mem.mp hk
        have := widS_ge ht' ne m0 (L := k + 1) (by omega) (by omega)
        unfold Item
        simp_arith [ixLi_w (is := ws) (i := k) ⟨hk.1, by rw [wl]; omega⟩]
        rw [wg k hk.1 hk.2]
        simp
        omega
      simp_arith [neL00]
      refine ⟨by omega, ?_⟩
      refine fK (fun i : Int => dI i) (fun a env S' => ∃ y6 y7 y8 y10, env = [some (.scr ns), some (.loc 1), some (dI i), some (dI m), some (dT (ts.map tT)), some (dL (ws.map .int)), y6, y7, y8, x9, y10, x11, x12] ∧ S' = S2) (ys := rgI 1 m) ⟨_, _, _, _, rfl, rfl⟩ ?_ ?_
      · rintro a L b env S' e ⟨y6, y7, y8, y10, rfl, rfl⟩
        have hL : L ∈ rgI 1 m := by rw [e]; simp
        have hL := rgI_mem.mp hL
        simp_arith [m_law10_l1]
        refine Go.of (divisor_eq (by omega) (by omega) (by omega)) ?_
        simp_arith [Go_ok]
        refine cK (fun t => D.py (tT t)) (fun t => !repB m t (Int.gcd m L)) tT (ys := ts) (by omega) ?_ ?_
        · intro t ht
          unfold Item
          simp_arith [Go_ok]
          refine Go.of (show f_repeats [dI m, .py (tT t), dI (Int.gcd m L)] S' = .ok (dB (repB m t (Int.gcd m L))) S' from repeats_eq (ht' t ht) m0 (by omega)) ?_
          simp_arith [Go_ok]
        simp_arith [ixLi_w (is := ws) (i := L - 1) ⟨by omega, by rw [wl]; omega⟩]
        rw [wg (L - 1) (by omega) (by omega), show L - 1 + 1 = L by omega]
        have key : decide (widS m ts L = L) = decide (ts.filter (fun t => !repB m t (Int.gcd m L)) = []) := by
          rw [decide_eq_decide, widS_iff ht' ne m0 (by omega) (by omega), (com_spec ht' m0).2.2, List.filter_eq_nil_iff]
          refine ⟨fun h t ht => ?_, fun h t ht => ?_⟩
          · obtain ⟨p1, p2, p3, p4⟩ := per_spec (ht' t ht) m0
            have := repB_iff.mpr ((p4 (Int.gcd m L)).mpr (Int.dvd_coe_gcd p3 (h t ht)))
            simp [this]
          · obtain ⟨p1, p2, p3, p4⟩ := per_spec (ht' t ht) m0
            have : repB m t (Int.gcd m L) = true := by simpa using h t ht
            exact Int.dvd_trans ((p4 _).mp (repB_iff.mp this)) (Int.gcd_dvd_right _ _)
        rw [show dL [] = dL (([] : List (List (Int × Int))).map tT) from rfl, show (List.map tT (ts.filter (fun t => !repB m t (Int.gcd m L)))) = _ from rfl, En.pr.tup.lst.dEq (by decide) (fun _ => by simp)]
        rw [← key]
        simp_arith [dNeB_w, decide_true]
        exact ⟨_, _, _, _, rfl⟩
      · rintro env S' ⟨y6, y7, y8, y10, rfl, rfl⟩
        simp_arith [Go_ok]
        refine draw_w (n := j * 1000000 + 700000) (d2.mono (by omega)) (by omega) (by omega) fun L' S3 l0 l1 d3 => ?_
        obtain ⟨L, hL⟩ : ∃ L, 1 + L' = L := ⟨_, rfl⟩
        obtain ⟨t, r, rfl⟩ : ∃ t r, ts = t :: r := by
          cases ts with
          | nil => exact absurd rfl ne
          | cons t r => exact ⟨t, r, rfl⟩
        have ht := ht' t List.mem_cons_self
        simp_arith [hL]
        refine ⟨by omega, ?_⟩
        refine cKai (fun i : Int => dI i) (fun b => cnt m t b L) (ys := rgI 0 m) (by rw [rgI_length]; omega) ?_ ?_
        · intro b _
          unfold Item
          simp_arith [Go_ok]
          refine Go.of (show f_brought_into [dI m, .py (tT t), dI b, dI L] S3 = _ from brought_into_eq ht m0 (by omega)) ?_
          simp_arith [brought_len]
        obtain ⟨rs, l, el, pw, la, lw, rg⟩ := lens_spec ht' ne m0 (by omega) 1000 L (by omega) (by omega) (by omega)
        simp_arith [sum_cnt ht m0 (L := L) (by omega) (by omega)]
        refine ⟨.inl (by omega), Go.of (show f_lengths_of [dI m, dT (tT t :: r.map tT), dI L] S3 = .ok (dT ((lens m (t :: r) L).map .int)) S3 from lengths_of_eq ht' ne (by omega) m0 (by omega) (by omega)) ?_⟩
        have easc : lens m (t :: r) L = asc (lens m (t :: r) L) := asc_eq (by rw [el]; exact pw) fun _ => Iff.rfl
        have hll : (lens m (t :: r) L).length ≤ 60 := by
          have := asc_len' (xs := lens m (t :: r) L) (a := 0) (b := m + 1) (by rw [el]; exact pw) (fun x hx => by rw [el] at hx; have := rg x hx; omega)
          omega
        have hix : ∀ {Q E} {S : Sto}, Go (dIxD (dT ((lens m (t :: r) L).map .int)) (dI 0) S) Q E = Q (dI L) S := fun {Q E S} => by
          rw [el]
          exact ixT0_w
        have hla : ∀ {Q E} {S : Sto}, Go (dIxD (dT ((lens m (t :: r) L).map .int)) (dI (-1)) S) Q E = Q (dI l) S := fun {Q E S} => by
          rw [ixT1 (v := .int l) (by rw [List.getLast?_map, el, la]; rfl), Go_ok]
        have lrg : L ≤ l ∧ l ≤ m := rg l (List.mem_of_getLast? la)
        have wl1 : ws.getD (l - 1).toNat 0 = l := by rw [wg (l - 1) (by omega) (by omega), show l - 1 + 1 = l by omega, lw]
        simp_arith [neLi, ← easc, decide_true, hix, hla, ixLi_w (is := ws) (i := l - 1) ⟨by omega, by rw [wl]; omega⟩, wl1]
        exact ⟨by omega, Fr.mk d3 rfl (by omega)⟩
  · rintro env S ⟨rest, rfl, hl, hd⟩
    simp_arith [Go_ok]
end QQ
end
section
set_option maxRecDepth 100000
set_option maxHeartbeats 1000000
/-! F2: places brought into arcs are arcs; pushes. -/
namespace QQ
open PySem DL
local macro_rules | `(tactic| simp_arith [$xs,*]) => `(tactic| simp only [eqL00, neL00, eqTi, neTi, eqLi, neLi, eqTp, neTp, eqLi0, neLi0, eqTi0, neTi0, eqLi1, inLi, notInLi, Go_ok, Go_exc, Go_bad, Br_t, Br_f, Br_not, xC_w, xV_w0, xV_ws, kB1_w, kB2_w, xBin_w, xT_w, xTr_w, asB_w, kAsB_w, truB_w, kTruB_w, kTruI_w, kTruN_w, kTruL_w, kTruT_w, kAndT_t, kAndT_f, kOrT_t, kOrT_f, kNotT_w, xAndT_w, 
  xOrT_w, xNotT_w, xYes_w, kOrD_w, kAndD_w, kOrD_t, kOrD_f, kAndD_t, kAndD_f, xOrD_w, xAndD_w, kNotB_w, xNot_w, kIfE_t, kIfE_f, xIf_w, xNil_w, kC1_w, kC2_w, xCons_w, kMut_w, xTup_w, xLst_w, xMut_w, kCB_w, xCB_w, kCall_w, 
  xCall_w, kNeg_w, xNeg_w, kCh1_w, kCh2_w, kCh4_t, kCh4_f, xChain_w, xNoPart_w, kPart_w, xPart_w, kSl1_w, kSl2_w, kSl3_w, xSl_w, xIsi_w, kBM_w, kBM2_w, xBM_w, tyD_L, kTup_0, kTup_1, kTup_2, kTup_3, kTup_4, kTup_5, kTup_6, 
  kTup_7, kTup_8, kLst_0, kLst_1, kLst_2, kLst_3, kLst_4, kLst_5, kLst_6, kLst_7, kLst_8, kIsi_int_NoneType, kIsi_int_bool, kIsi_int_int, kIsi_int_str, kIsi_int_list, kIsi_int_tuple, kIsi_bool_NoneType, kIsi_bool_bool, 
  kIsi_bool_int, kIsi_bool_str, kIsi_bool_list, kIsi_bool_tuple, kIsi_tuple_NoneType, kIsi_tuple_bool, kIsi_tuple_int, kIsi_tuple_str, kIsi_tuple_list, kIsi_tuple_tuple, kIsi_list_NoneType, kIsi_list_bool, kIsi_list_int, 
  kIsi_list_str, kIsi_list_list, kIsi_list_tuple, kIsi_str_NoneType, kIsi_str_bool, kIsi_str_int, kIsi_str_str, kIsi_str_list, kIsi_str_tuple, dAdd_w, dSub_w, dMul_w, dDiv_w, dMod_w, dPow_w, dCmp_w, dEqI_w, dNeI_w, dEqS_w, 
  dNeS_w, dAddT_w, dAddS_w, dAddL_w, dIsN_w, dIsNotN_w, isN_n, isN_i, isN_t, fLenL_w, fLenT_w, fAbs_w, fIntB_w, fMax2_w, fMin2_w, fMax_w, fMin_w, fSum_w, fSort_w, fSortT_w, fSSetT_w, fSSet_w, fAll_w, fTupleT_w, fTupleL_w, fListL_w, fListT_w, fRgT_w, 
  fRgL_w, fRgM_w, ixT0_w, ixT1_w, ixL0_w, ixL1_w, slT_w, slL_w, kNx_w, kEx_w, sk_nx, sk_rt, sk_bk, sk_ct, sk_xc, bk_rt, bk_nx, bkX_rt, bkX_nx, bkX_xc, xSeq_w, xPass_w, xBrk_w, xCnt_w, kDrop_w, xDrop_w, kRet_w, xRet_w, 
  xRetN_w, kIf_t, kIf_f, xIfS_w, kSet_w, xSet_w, kBd_w, Bd_nm, Bd_tp, Bd_tp3, kAsg_w, xAsg_w, kPar_w, kPar3_w, xPar_w, xPar3_w, kSto1_w, kSto2_w, xStore_w, kFor_w, xFor_w, xComp_w, xCompM_w, xWhile_w, kWh_t, kWh_f, xBody_w, xBodyX_w, kIt_w, kRv_w, kIx_w, 
  xIt_w, xRg1_w, xRg2_w, xRg3_w, xZip_w, xEnm_w, xEnB_w, xRev_w, iR1_w, iR2_w, iSeqL_w, iSeqT_w, iSeqS_w, iZipT_w, iZipL_w, zOk_l, zOk_r, lk_nx, lk_ct, lk_bk, lk_rt, lk_xc, env0, wipeE, List.map_cons, List.map_nil, List.set_cons_zero, 
  List.set_cons_succ, List.length_cons, List.length_nil, List.length_map, Nat.reduceAdd, Nat.reduceSub, Nat.zero_add, List.reduceReplicate, List.cons_append, List.nil_append, true_and, and_true, Bool.not_true, 
  Bool.not_false, decide_true, decide_false, Nat.reduceLeDiff, Int.reduceLT, Int.reduceLE, Int.reduceNeg, reduceIte, reduceCtorEq, Int.reduceToNat, Int.reducePow, Int.reduceAdd, Int.reduceSub, Int.reduceMul, implies_true, false_implies, forall_const, eq_self, and_self, Int.cast_ofNat_Int, Int.natCast_zero, Int.natCast_one, Int.reduceEq, $xs,*])
theorem _root_.DL.Go.by {α : Type} {r : Res α} {Q : QR α} {E : QX} {v : α} {S0 : Sto} (h : Go r (fun c S' => c = v ∧ S' = S0) nE) (q : Q v S0) : Go r Q E := by
  obtain ⟨d, S', e, rfl, rfl⟩ := h.ex
  exact Go.of e q
theorem _root_.DL.Br.cs {c : Bool} {P R : Prop} (h1 : c = true → P) (h2 : c = false → R) : Br c P R := by
  cases c
  · exact Br.no rfl (h2 rfl)
  · exact Br.yes rfl (h1 rfl)
theorem _root_.DL.Br.same {c : Bool} {P R : Prop} (h1 : c = true → R → P) (h2 : R) : Br c P R := Br.cs (fun h => h1 h h2) fun _ => h2
theorem _root_.DL.kIf_by {m1 m2 : SX} {env : Envr} {Q : QR Fl} {E : QX} {c : Bool} {S S0 : Sto} {v : Fl} (h1 : c = true → Go (m1 env S) (fun f S' => f = v ∧ S' = S0) nE) (h2 : c = false → Go (m2 env S) (fun f S' => f = v ∧ S' = S0) nE) (q : Q v S0) : kIf m1 m2 env Q E c S :=
  Br.cs (fun h => (h1 h).by q) fun h => (h2 h).by q
theorem _root_.DL.kIfE_by {m1 m2 : EX} {env : Envr} {Q : QR D} {E : QX} {c : Bool} {S S0 : Sto} {v : D} (h1 : c = true → Go (m1 env S) (fun f S' => f = v ∧ S' = S0) nE) (h2 : c = false → Go (m2 env S) (fun f S' => f = v ∧ S' = S0) nE) (q : Q v S0) : kIfE m1 m2 env Q E c S :=
  Br.cs (fun h => (h1 h).by q) fun h => (h2 h).by q
section
variable {m : Int} {t : List (Int × Int)}
/-- the places that are sent into an arc are an arc -/
theorem brought_arc (h : Tool m t) (m0 : 1 ≤ m) (b : Int) {L : Int} (l0 : 0 ≤ L) (l1 : L ≤ m) : ∃ N, ∀ p, 0 ≤ p → p < m → (inArc m b L (tgt t p) = true ↔ (p - N) % m < cnt m t b L) := by
  obtain ⟨F, hF⟩ := h.lifts m0
  refine ⟨lowN F b, fun p p0 p1 => ?_⟩
  have r := md (a := p - lowN F b) m0
  have e : (lowN F b + (p - lowN F b) % m) % m = p := by
    rw [Int.add_emod_emod, show lowN F b + (p - lowN F b) = p by omega, Int.emod_eq_of_lt p0 p1]
  have := hF.inArc m0 (b := b) (L := L) (p := lowN F b + (p - lowN F b) % m) (by omega) (by omega)
  rw [e] at this
  rcases this with h1 | h1
  · rw [h1, decide_eq_true_eq, hF.cnt m0 l0 l1]
    omega
  · omega
/-- no more places than the spread -/
theorem fits_len {xs : List Int} {v : Int} (m0 : 1 ≤ m) (nd : xs.Nodup) (rg : ∀ x ∈ xs, 0 ≤ x ∧ x < m) (f : Fits m xs v) : (xs.length : Int) ≤ max v 0 := by
  obtain ⟨b, b0, b1, hb⟩ := f
  have nd2 : (xs.map fun x => (x - b) % m).Nodup := by
    rw [List.nodup_iff_pairwise_ne, List.pairwise_map]
    refine (List.nodup_iff_pairwise_ne.mp nd).imp_of_mem fun {x y} hx hy ne e => ne ?_
    exact add_inj (k := -b) (rg x hx).1 (rg x hx).2 (rg y hy).1 (rg y hy).2 e
  have := asc_len' (xs := sortI (xs.map fun x => (x - b) % m)) (a := 0) (b := v) (sort_lt nd2) fun y hy => by
    rw [(sortI_perm _).mem_iff] at hy
    obtain ⟨x, hx, rfl⟩ := List.mem_map.mp hy
    have := hb x hx
    exact ⟨(md m0).1, by omega⟩
  rw [(sortI_perm _).length_eq, List.length_map] at this
  omega
theorem brought_mem {b L p : Int} : p ∈ brought m t b L ↔ (0 ≤ p ∧ p < m) ∧ inArc m b L (tgt t p) = true := by
  unfold brought
  rw [List.mem_filter, rgI_mem]
theorem brought_lt (b L : Int) : (brought m t b L).Pairwise (· < ·) := (rgI_lt 0 m).sublist List.filter_sublist
theorem brought_asc {b L : Int} (ne : brought m t b L ≠ []) : Asc m (brought m t b L) := ⟨brought_lt b L, fun p hp => (brought_mem.mp hp).1, ne⟩
theorem brought_sprd (h : Tool m t) (m0 : 1 ≤ m) {b L : Int} (l0 : 0 ≤ L) (l1 : L ≤ m) (ne : brought m t b L ≠ []) : sprd m (brought m t b L) = (brought m t b L).length := by
  have a := brought_asc ne
  have s := sprd_rg a
  refine Int.le_antisymm ?_ ?_
  · obtain ⟨N, hN⟩ := brought_arc h m0 b l0 l1
    refine sprd_least a ⟨N % m, (md m0).1, (md m0).2, fun x hx => ?_⟩
    have hx := brought_mem.mp hx
    have := (hN x hx.1.1 hx.1.2).mp hx.2
    rw [Int.sub_emod_emod, brought_len]
    omega
  · have := fits_len m0 ((brought_lt b L).imp fun h => by omega) a.rg (sprd_fits a)
    omega
/-- the places of an arc -/
def arcL (m b L : Int) : List Int := (rgI 0 L).map fun k => (b + k) % m
theorem arcL_mem (m0 : 1 ≤ m) {b L x : Int} (l1 : L ≤ m) (x0 : 0 ≤ x) (x1 : x < m) : x ∈ arcL m b L ↔ inArc m b L x = true := by
  unfold arcL inArc
  rw [List.mem_map, decide_eq_true_eq]
  refine ⟨fun ⟨k, hk, e⟩ => ?_, fun h => ⟨(x - b) % m, rgI_mem.mpr ⟨(md m0).1, h⟩, ?_⟩⟩
  · have hk := rgI_mem.mp hk
    rw [← e, Int.emod_sub_emod, show b + k - b = k by omega, Int.emod_eq_of_lt (by omega) (by omega)]
    omega
  · rw [Int.add_emod_emod, show b + (x - b) = x by omega, Int.emod_eq_of_lt x0 x1]
theorem inArc_rest (m0 : 1 ≤ m) {b L x : Int} (l0 : 0 ≤ L) (l1 : L ≤ m) : inArc m ((b + L) % m) (m - L) x = !inArc m b L x := by
  unfold inArc
  rw [Int.sub_emod_emod, ← decide_not, decide_eq_decide]
  have r := md (a := x - b) m0
  have e : (x - (b + L)) % m = ((x - b) % m - L) % m := by rw [Int.emod_sub_emod]; congr 1; omega
  rw [e]
  by_cases hc : (x - b) % m < L
  · rw [← Int.add_emod_right, Int.emod_eq_of_lt (by omega) (by omega)]
    omega
  · rw [Int.emod_eq_of_lt (by omega) (by omega)]
    omega
variable {S : Sto}
theorem push_place_eq (h : Tool m t) (m0 : 1 ≤ m) (m1 : m ≤ 1000) {k p : Int} : f_push_place [dI m, dT (t.map pr), dI k, dI p] S = .ok (dI (tgt t ((p + k) % m))) S := by
  have hlen := h.len
  refine pure_eq ?_
  simp_arith [m_push_place]
  refine ⟨by omega, Go.of (target_of_eq h.ne (by omega)) ?_⟩
  simp_arith [Go_ok]
  exact ⟨[], by simp⟩
def pushed (m : Int) (t : List (Int × Int)) (k : Int) (xs : List Int) : List Int := asc (xs.map fun p => tgt t ((p + k) % m))
theorem push_places_eq (h : Tool m t) (m0 : 1 ≤ m) (m1 : m ≤ 1000) {k : Int} {xs : List Int} (hl : xs.length < 64) : f_push_places [dI m, dT (t.map pr), dI k, dT (xs.map .int)] S = .ok (dT ((pushed m t k xs).map .int)) S := by
  refine pure_eq ?_
  simp_arith [m_push_places]
  refine cKai (fun i : Int => dI i) (fun p => tgt t ((p + k) % m)) (ys := xs) (by omega) ?_ ?_
  · intro p hp
    unfold Item
    simp_arith [Go_ok]
    exact Go.of (push_place_eq h m0 m1) ⟨rfl, rfl⟩
  · simp_arith [Go_ok]
    exact ⟨hl, by simp [pushed], [], by simp⟩
theorem pushed_mem {k : Int} {xs : List Int} {y : Int} : y ∈ pushed m t k xs ↔ ∃ x ∈ xs, tgt t ((x + k) % m) = y := by
  unfold pushed
  rw [asc_mem, List.mem_map]
theorem arc_eq (m0 : 1 ≤ m) (m1 : m ≤ 1000) {b L : Int} (l0 : 0 ≤ L) (l1 : L ≤ m) : f_arc [dI m, dI b, dI L] S = .ok (dL ((arcL m b L).map .int)) S := by
  refine pure_eq ?_
  simp_arith [m_arc]
  refine ⟨by omega, ?_⟩
  refine cKai (fun i : Int => dI i) (fun k => (b + k) % m) (ys := rgI 0 L) (by rw [rgI_length]; omega) ?_ ?_
  · intro p hp
    unfold Item
    simp_arith [Go_ok]
    omega
  · simp_arith [Go_ok]
    exact ⟨by simp [arcL], [], by simp⟩
end
theorem law09_holds : ∀ ns : List Int, ns.length ≤ 63 → ∃ S', f_law09 [.scr ns] [] = .ok (dB true) S' := by
  intro ns hn
  refine law_end ?_
  obtain ⟨S0, e0, d0⟩ := deck_ok ns hn
  simp_arith [m_law09]
  refine Go.of e0 ?_
  simp_arith [Go_ok]
  refine fL (fun i : Int => dI i) (Fr ns 15) (ys := rgI 0 9) (Fr.mk d0 rfl (by rw [rgI_length]; decide)) ?_ ?_
  · rintro i hi j env S ⟨rest, rfl, hl, hd⟩
    have hi := rgI_mem.mp hi
    match rest, hl with
    | [x2, x3, x4, x5, x6, x7, x8, x9, x10, x11, x12, x13, x14, x15, x16], _ =>
      obtain ⟨v, hv, ev⟩ := pick3 (a := 4) (b := 13) (c := 40) (i := i) (P := fun v => 1 ≤ v ∧ v ≤ 40) hi.1 (by decide) (by decide) (by decide)
      simp_arith [m_law09_l2, ev]
      refine draw_w (n := j * 1000000 + 900000) (hd.mono (by omega)) (by omega) (by omega) fun m' S1 m0' m1' d1 => ?_
      obtain ⟨m, hm⟩ : ∃ m, 1 + m' = m := ⟨_, rfl⟩
      have m0 : 1 ≤ m := by omega
      have m1 : m ≤ 40 := by omega
      simp_arith [hm]
      refine tool_w (n := j * 1000000 + 800000) (d1.mono (by omega)) m0 (by omega) fun t S2 ht1 d2 => ?_
      have ht := ht1.toTool
      simp_arith [Go_ok]
      refine fL (fun i : Int => dI i) (fun k env S' => ∃ y5 y6 y7 y8 y9 y10 y11 y12 y13 y14 y15 y16, env = [some (.scr ns), some (.loc 1), some (dI i), some (dI m), some (dT (t.map pr)), y5, y6, y7, y8, y9, y10, y11, y12, y13, y14, y15, y16] ∧ Dk (j * 1000000 + 3 * k) [] S') (ys := rgI 0 5) ⟨_, _, _, _, _, _, _, _, _, _, _, _, rfl, d2.mono (by rw [rgI_length]; omega)⟩ ?_ ?_
      · rintro k hk j2 env S' ⟨y5, y6, y7, y8, y9, y10, y11, y12, y13, y14, y15, y16, rfl, hd2⟩
        simp_arith [m_law09_l1]
        refine draw_w (n := j * 1000000 + 3 * j2 + 2) (hd2.mono (by omega)) (by omega) (by omega) fun b S3 b0 b1 d3 => ?_
        simp_arith [Go_ok]
        refine draw_w (n := j * 1000000 + 3 * j2 + 1) (d3.mono (by omega)) (by omega) (by omega) fun L' S4 l0 l1 d4 => ?_
        obtain ⟨L, hL⟩ : ∃ L, 1 + L' = L := ⟨_, rfl⟩
        simp_arith [hL]
        refine draw_w (n := j * 1000000 + 3 * j2) (d4.mono (by omega)) (by omega) (by omega) fun by_ S5 by0 by1 d5 => ?_
        have L0 : 1 ≤ L := by omega
        have L1 : L ≤ m := by omega
        simp_arith [Go_ok]
        refine Go.of (arc_eq m0 (by omega) (by omega) L1) ?_
        simp_arith [Go_ok]
        refine Go.of (brought_into_eq ht m0 (by omega)) ?_
        have bl := brought_le (m := m) (t := t) b L
        simp_arith [neTi0]
        unfold kAndT
        refine Br.same (fun h hr => ?_) ?_
        · have ne : brought m t b L ≠ [] := fun e => by rw [e] at h; simp at h
          refine Go.by (v := false) (S0 := S5) ?_ hr
          simp_arith [Go_ok]
          refine Go.of (spread_of_eq ne (by omega)) ?_
          simp_arith [brought_sprd ht m0 (by omega) L1 ne]
        simp_arith [Go_ok]
        obtain ⟨R, eR, mR⟩ : ∃ R : List Int, (if L < m then brought m t ((b + L) % m) (m - L) else []) = R ∧ R = (rgI 0 m).filter fun p => !inArc m b L (tgt t p) := ⟨_, rfl, by
          by_cases hc : L < m
          · rw [if_pos hc]
            exact List.filter_congr fun p _ => inArc_rest m0 (by omega) L1
          · rw [if_neg hc]
            refine (List.filter_eq_nil_iff.mpr fun p _ => ?_).symm
            have : inArc m b L (tgt t p) = true := decide_eq_true (by have := (md (a := tgt t p - b) m0).2; omega)
            simp [this]⟩
        have lR : R.length ≤ 40 := by
          have := List.length_filter_le (fun p => !inArc m b L (tgt t p)) (rgI 0 m)
          rw [← mR, rgI_length] at this
          omega
        refine kIf_by (S0 := S5) (v := .nx [some (.scr ns), some (.loc 1), some (dI i), some (dI m), some (dT (t.map pr)), some (dI k), some (dI b), some (dI L), some (dI by_), some (dL ((arcL m b L).map .int)), some (dT ((brought m t b L).map .int)), some (dT (R.map .int)), y12, y13, y14, y15, y16]) (fun hc => ?_) (fun hc => ?_) ?_
        · have hc := of_decide_eq_true hc
          simp_arith [Go_ok]
          refine ⟨by omega, Go.of (brought_into_eq ht m0 (by omega)) ?_⟩
          rw [if_pos hc] at eR
          simp_arith [eR]
        · have hc := of_decide_eq_false hc
          rw [if_neg hc] at eR
          simp_arith [← eR]
        simp_arith [← List.map_append]
        have esort : sortI (brought m t b L ++ R) = rgI 0 m := (sortI_eq (by rw [mR]; exact (List.filter_append_perm _ _).symm) ((rgI_lt 0 m).imp fun h => by omega)).symm
        have eback : sortI ((brought m t b L).map fun p => (p - by_) % m) = (rgI 0 m).filter fun p => decide (tgt t ((p + by_) % m) ∈ arcL m b L) := by
          refine pw_ext (sort_lt ?_) ((rgI_lt 0 m).sublist List.filter_sublist) fun z => ?_
          · rw [List.nodup_iff_pairwise_ne, List.pairwise_map]
            refine (brought_lt b L).imp_of_mem fun {x y} hx hy lt e => ?_
            have hx := (brought_mem.mp hx).1
            have hy := (brought_mem.mp hy).1
            have := add_inj (k := -by_) hx.1 hx.2 hy.1 hy.2 e
            omega
          · rw [(sortI_perm _).mem_iff, List.mem_map, List.mem_filter, rgI_mem, decide_eq_true_eq]
            refine ⟨fun ⟨x, hx, e⟩ => ?_, fun ⟨hz, ha⟩ => ⟨(z + by_) % m, ?_, ?_⟩⟩
            · have hx := brought_mem.mp hx
              have r := md (a := x - by_) m0
              rw [e] at r
              refine ⟨r, ?_⟩
              rw [← e, Int.emod_add_emod, show x - by_ + by_ = x by omega, Int.emod_eq_of_lt hx.1.1 hx.1.2]
              have tr := tgt_rg ht x
              exact (arcL_mem m0 L1 tr.1 tr.2).mpr hx.2
            · have tr := tgt_rg ht ((z + by_) % m)
              exact brought_mem.mpr ⟨md m0, (arcL_mem m0 L1 tr.1 tr.2).mp ha⟩
            · rw [Int.emod_sub_emod, show z + by_ - by_ = z by omega, Int.emod_eq_of_lt hz.1 hz.2]
        refine ⟨by omega, by rw [List.length_append]; omega, by omega, ?_⟩
        simp_arith [esort, neLi, decide_true]
        refine cKai (fun p : Int => dI p) (fun p => (p - by_) % m) (ys := brought m t b L) (by omega) ?_ ?_
        · intro p _
          unfold Item
          simp_arith [Go_ok]
          omega
        simp_arith [eback]
        refine ⟨by omega, ?_⟩
        refine cKi (fun i : Int => dI i) (fun p => decide (tgt t ((p + by_) % m) ∈ arcL m b L)) (fun p => p) (ys := rgI 0 m) (by rw [rgI_length]; omega) ?_ ?_
        · intro p _
          unfold Item
          simp_arith [Go_ok]
          refine Go.of (push_place_eq ht m0 (by omega)) ?_
          simp_arith [inLi]
        rw [List.map_id']
        simp_arith [neLi, decide_true]
        obtain ⟨sent, hs⟩ : ∃ sent, (if brought m t b L = [] then [] else pushed m t 0 (brought m t b L)) = sent := ⟨_, rfl⟩
        have hsm : ∀ x ∈ sent, x ∈ arcL m b L := fun x hx => by
          rw [← hs] at hx
          by_cases hc : brought m t b L = []
          · rw [if_pos hc] at hx; cases hx
          · rw [if_neg hc] at hx
            obtain ⟨y, hy, e⟩ := pushed_mem.mp hx
            have hy := brought_mem.mp hy
            rw [Int.add_zero, Int.emod_eq_of_lt hy.1.1 hy.1.2] at e
            have tr := tgt_rg ht y
            rw [← e]
            exact (arcL_mem m0 L1 tr.1 tr.2).mpr hy.2
        have hsl : sent.length ≤ 1000 := by
          rw [← hs]
          by_cases hc : brought m t b L = []
          · rw [if_pos hc]; simp
          · rw [if_neg hc]
            have := asc_len' (xs := pushed m t 0 (brought m t b L)) (a := 0) (b := m) (asc_pw _) fun x hx => by
              obtain ⟨y, hy, e⟩ := pushed_mem.mp hx
              rw [← e]
              exact tgt_rg ht _
            omega
        refine kIfE_by (S0 := S5) (v := dT (sent.map .int)) (fun hc => ?_) (fun hc => ?_) ?_
        · have hc : ¬ brought m t b L = [] := fun e => by rw [e] at hc; simp at hc
          rw [if_neg hc] at hs
          simp_arith [Go_ok]
          refine Go.of (push_places_eq ht m0 (by omega) (by omega)) ?_
          rw [hs]
          exact ⟨rfl, rfl⟩
        · have hc : brought m t b L = [] := by simpa using hc
          rw [if_pos hc] at hs
          rw [← hs]
          simp_arith [Go_ok]
        simp_arith [Go_ok]
        refine cKn (fun i : Int => dI i) (ys := sent) (by omega) ?_ ?_ (by rw [List.map_map]; rfl)
        · intro x hx
          unfold Item
          simp_arith [notInLi, hsm x hx, decide_true]
        simp_arith [neL00]
        exact ⟨_, _, _, _, _, _, _, _, _, _, _, _, rfl, d5⟩
      · rintro env S' ⟨y5, y6, y7, y8, y9, y10, y11, y12, y13, y14, y15, y16, rfl, hd2⟩
        simp_arith [Go_ok]
        exact Fr.mk hd2 rfl (by omega)
  · rintro env S ⟨rest, rfl, hl, hd⟩
    simp_arith [Go_ok]
end QQ
end
section
set_option maxRecDepth 100000
set_option maxHeartbeats 1000000
/-! J16: targets by a dict; law 2. -/
namespace QQ
open PySem DL
local macro_rules | `(tactic| simp_arith [$xs,*]) => `(tactic| simp only [eqL00, neL00, eqTi, neTi, eqLi, neLi, eqTp, neTp, eqLi0, neLi0, eqTi0, neTi0, eqLi1, inLi, notInLi, Go_ok, Go_exc, Go_bad, Br_t, Br_f, Br_not, xC_w, xV_w0, xV_ws, kB1_w, kB2_w, xBin_w, xT_w, xTr_w, asB_w, kAsB_w, truB_w, kTruB_w, kTruI_w, kTruN_w, kTruL_w, kTruT_w, kAndT_t, kAndT_f, kOrT_t, kOrT_f, kNotT_w, xAndT_w, 
  xOrT_w, xNotT_w, xYes_w, kOrD_w, kAndD_w, kOrD_t, kOrD_f, kAndD_t, kAndD_f, xOrD_w, xAndD_w, kNotB_w, xNot_w, kIfE_t, kIfE_f, xIf_w, xNil_w, kC1_w, kC2_w, xCons_w, kMut_w, xTup_w, xLst_w, xMut_w, kCB_w, xCB_w, kCall_w, 
  xCall_w, kNeg_w, xNeg_w, kCh1_w, kCh2_w, kCh4_t, kCh4_f, xChain_w, xNoPart_w, kPart_w, xPart_w, kSl1_w, kSl2_w, kSl3_w, xSl_w, xIsi_w, kBM_w, kBM2_w, xBM_w, tyD_L, kTup_0, kTup_1, kTup_2, kTup_3, kTup_4, kTup_5, kTup_6, 
  kTup_7, kTup_8, kLst_0, kLst_1, kLst_2, kLst_3, kLst_4, kLst_5, kLst_6, kLst_7, kLst_8, kIsi_int_NoneType, kIsi_int_bool, kIsi_int_int, kIsi_int_str, kIsi_int_list, kIsi_int_tuple, kIsi_bool_NoneType, kIsi_bool_bool, 
  kIsi_bool_int, kIsi_bool_str, kIsi_bool_list, kIsi_bool_tuple, kIsi_tuple_NoneType, kIsi_tuple_bool, kIsi_tuple_int, kIsi_tuple_str, kIsi_tuple_list, kIsi_tuple_tuple, kIsi_list_NoneType, kIsi_list_bool, kIsi_list_int, 
  kIsi_list_str, kIsi_list_list, kIsi_list_tuple, kIsi_str_NoneType, kIsi_str_bool, kIsi_str_int, kIsi_str_str, kIsi_str_list, kIsi_str_tuple, dAdd_w, dSub_w, dMul_w, dDiv_w, dMod_w, dPow_w, dCmp_w, dEqI_w, dNeI_w, dEqS_w, 
  dNeS_w, dAddT_w, dAddS_w, dAddL_w, dIsN_w, dIsNotN_w, isN_n, isN_i, isN_t, fLenL_w, fLenT_w, fAbs_w, fIntB_w, fMax2_w, fMin2_w, fMax_w, fMin_w, fSum_w, fSort_w, fSortT_w, fSSetT_w, fSSet_w, fAll_w, fTupleT_w, fTupleL_w, fListL_w, fListT_w, fRgT_w, 
  fRgL_w, fRgM_w, ixT0_w, ixT1_w, ixL0_w, ixL1_w, slT_w, slL_w, kNx_w, kEx_w, sk_nx, sk_rt, sk_bk, sk_ct, sk_xc, bk_rt, bk_nx, bkX_rt, bkX_nx, bkX_xc, xSeq_w, xPass_w, xBrk_w, xCnt_w, kDrop_w, xDrop_w, kRet_w, xRet_w, 
  xRetN_w, kIf_t, kIf_f, xIfS_w, kSet_w, xSet_w, kBd_w, Bd_nm, Bd_tp, Bd_tp3, kAsg_w, xAsg_w, kPar_w, kPar3_w, xPar_w, xPar3_w, kSto1_w, kSto2_w, xStore_w, kFor_w, xFor_w, xComp_w, xCompM_w, xWhile_w, kWh_t, kWh_f, xBody_w, xBodyX_w, kIt_w, kRv_w, kIx_w, 
  xIt_w, xRg1_w, xRg2_w, xRg3_w, xZip_w, xEnm_w, xEnB_w, xRev_w, iR1_w, iR2_w, iSeqL_w, iSeqT_w, iSeqS_w, iZipT_w, iZipL_w, zOk_l, zOk_r, lk_nx, lk_ct, lk_bk, lk_rt, lk_xc, env0, wipeE, List.map_cons, List.map_nil, List.set_cons_zero, 
  List.set_cons_succ, List.length_cons, List.length_nil, List.length_map, Nat.reduceAdd, Nat.reduceSub, Nat.zero_add, List.reduceReplicate, List.cons_append, List.nil_append, true_and, and_true, Bool.not_true, 
  Bool.not_false, decide_true, decide_false, Nat.reduceLeDiff, Int.reduceLT, Int.reduceLE, Int.reduceNeg, reduceIte, reduceCtorEq, Int.reduceToNat, Int.reducePow, Int.reduceAdd, Int.reduceSub, Int.reduceMul, implies_true, false_implies, forall_const, eq_self, and_self, Int.cast_ofNat_Int, Int.natCast_zero, Int.natCast_one, Int.reduceEq, $xs,*])
/-- a tool as a dict -/
def dicD (t : List (Int × Int)) : PyData := .dict (t.map fun q => (.int q.1, .int q.2))
theorem prsB_pr {t : List (Int × Int)} (ne : t ≠ []) : prsB (t.map pr) = true := by
  unfold prsB
  rw [Bool.and_eq_true, List.all_eq_true]
  refine ⟨by cases t with | nil => exact absurd rfl ne | cons _ _ => rfl, fun x hx => ?_⟩
  obtain ⟨q, _, rfl⟩ := List.mem_map.mp hx
  rfl
theorem kPairs_pr : ∀ t : List (Int × Int), kPairs (t.map pr) = some (t.map fun q => (Sum.inl q.1, PyData.int q.2))
  | [] => rfl
  | q :: t => by
    show (match kOf (.int q.1) with | some k => (kPairs (t.map pr)).map ((k, PyData.int q.2) :: ·) | none => none) = _
    rw [kPairs_pr t]
    rfl
theorem mergeG_new {β : Type} : ∀ (kvs acc : List (L2.Key × β)), (∀ a ∈ acc, ∀ k ∈ kvs, a.1 ≠ k.1) → kvs.Pairwise (fun a b => a.1 ≠ b.1) → mergeG acc kvs = acc ++ kvs
  | [], acc, _, _ => by simp [mergeG]
  | k :: kvs, acc, h, hp => by
    obtain ⟨h1, h2⟩ := List.pairwise_cons.mp hp
    have e : putG acc k.1 k.2 = acc ++ [k] := by
      unfold putG
      rw [if_neg]
      simp only [List.any_eq_true, decide_eq_true_eq, not_exists, not_and]
      exact fun a ha => h a ha k List.mem_cons_self
    show mergeG (putG acc k.1 k.2) kvs = _
    rw [e, mergeG_new kvs (acc ++ [k]) (fun a ha b hb => ?_) h2, List.append_assoc]
    · rfl
    · rcases List.mem_append.mp ha with ha | ha
      · exact h a ha b (List.mem_cons_of_mem _ hb)
      · rw [List.mem_singleton.mp ha]; exact h1 b hb
theorem fDicT_eq {t : List (Int × Int)} (h : t.Pairwise fun a b => a.1 < b.1) (ne : t ≠ []) {S : Sto} : fDicT [dT (t.map pr)] S = .ok (.py (dicD t)) S := by
  unfold fDicT
  simp only [prsB_pr ne, if_true, kPairs_pr]
  rw [mergeG_new _ [] (fun a ha => absurd ha List.not_mem_nil) (List.pairwise_map.mpr (h.imp fun h e => by injection e with e; omega))]
  simp [dicP, dicD, keyPy, List.map_map]
theorem valP_no {x : Int} : ∀ {t : List (Int × Int)}, (∀ q ∈ t, q.1 ≠ x) → valP (t.map fun q => (.int q.1, .int q.2)) (.inl x) = none
  | [], _ => rfl
  | q :: t, h => by
    show (if kOf (.int q.1) = some (.inl x) then _ else _) = _
    rw [if_neg (fun e => h q List.mem_cons_self (by injection e with e; injection e)), valP_no fun z hz => h z (List.mem_cons_of_mem _ hz)]
theorem valP_at : ∀ {t : List (Int × Int)} {q : Int × Int}, t.Pairwise (fun a b => a.1 < b.1) → q ∈ t → valP (t.map fun q => (.int q.1, .int q.2)) (.inl q.1) = some (.int q.2)
  | z :: t, q, h, hq => by
    obtain ⟨h1, h2⟩ := List.pairwise_cons.mp h
    show (if kOf (.int z.1) = some (.inl q.1) then _ else _) = _
    rcases List.mem_cons.mp hq with rfl | hq
    · rw [if_pos (show kOf (.int q.1) = some (.inl q.1) from rfl)]
    · have := h1 q hq
      rw [if_neg (fun e => by injection e with e; injection e with e; omega), valP_at h2 hq]
section
variable {Q : QR D} {E : QX} {S : Sto} {m : Int} {t : List (Int × Int)}
theorem fDicT_w (h : t.Pairwise fun a b => a.1 < b.1) (ne : t ≠ []) : Go (fDicT [dT (t.map pr)] S) Q E = Q (.py (dicD t)) S := by rw [fDicT_eq h ne, Go_ok]
theorem notInD_w (h : t.Pairwise fun a b => a.1 < b.1) {x : Int} : Go (dNotIn (dI x) (.py (dicD t)) S) Q E = Q (dB (decide (∀ q ∈ t, q.1 ≠ x))) S := by
  have e : dNotIn (dI x) (.py (dicD t)) S = .ok (dB (true != (valP (t.map fun q => (.int q.1, .int q.2)) (.inl x)).isSome)) S := rfl
  rw [e, Go_ok]
  by_cases hx : ∀ q ∈ t, q.1 ≠ x
  · rw [valP_no hx, decide_eq_true hx]; rfl
  · rw [decide_eq_false hx]
    simp only [Classical.not_forall, Classical.not_not] at hx
    obtain ⟨q, hq, rfl⟩ := hx
    rw [valP_at h hq]; rfl
theorem dicAt_w (h : t.Pairwise fun a b => a.1 < b.1) {q : Int × Int} (hq : q ∈ t) : Go (dIxD (.py (dicD t)) (dI q.1) S) Q E = Q (dI q.2) S := by
  have e : dIxD (.py (dicD t)) (dI q.1) S = (match valP (t.map fun q => (.int q.1, .int q.2)) (.inl q.1) with | some d => .ok (.py d) S | none => .bad) := rfl
  rw [e, valP_at h hq, Go_ok]
theorem target3_eq (h : Tool m t) (m0 : 1 ≤ m) (m1 : m ≤ 1000) {p : Int} (p0 : 0 ≤ p) (p1 : p < m) : f_target_3 [dI m, dT (t.map pr), dI p] S = .ok (dI (tgt t p)) S := by
  refine pure_eq ?_
  simp_arith [m_target_3, fDicT_w h.lt h.ne]
  obtain ⟨n0, hn0, i0⟩ : ∃ n0, n0 < 1000000 ∧ (((∃ z ∈ t, z.1 ≤ p) ∧ n0 = p.toNat) ∨ ((∀ z ∈ t, p < z.1) ∧ n0 = (p + m).toNat)) := by
    by_cases hz : ∃ z ∈ t, z.1 ≤ p
    · exact ⟨p.toNat, by omega, .inl ⟨hz, rfl⟩⟩
    · exact ⟨(p + m).toNat, by omega, .inr ⟨fun z hzt => Int.not_le.mp fun l => hz ⟨z, hzt, l⟩, rfl⟩⟩
  refine while_go (fun n env S' => ∃ x : Int, env = [some (dI m), some (dT (t.map pr)), some (dI x), some (.py (dicD t))] ∧ S' = S ∧ 0 ≤ x ∧ x < m ∧ tgt t x = tgt t p ∧ (((∃ z ∈ t, z.1 ≤ x) ∧ n = x.toNat) ∨ ((∀ z ∈ t, x < z.1) ∧ n = (x + m).toNat))) 1000000 n0 _ _ hn0 ⟨p, rfl, rfl, p0, p1, rfl, i0⟩ ?_
  rintro n env S' ⟨x, rfl, rfl, x0, x1, ex, mu⟩
  simp_arith [notInD_w h.lt]
  unfold kWh
  refine Br.dec (fun hx => ?_) (fun hx => ?_)
  · simp_arith [m_target_3_l1]
    refine ⟨by omega, ?_⟩
    by_cases hz : x = 0
    · subst hz
      rw [prev_zero m0]
      have hm : ∃ z ∈ t, z.1 ≤ m - 1 := by
        obtain ⟨z, hz⟩ := List.exists_mem_of_ne_nil t h.ne
        exact ⟨z, hz, by have := h.rg z hz; omega⟩
      refine ⟨(m - 1).toNat, ?_, m - 1, rfl, by omega, by omega, by rw [← tgt_over h hx]; exact ex, .inl ⟨hm, rfl⟩⟩
      rcases mu with ⟨⟨z, hz, l⟩, _⟩ | ⟨_, e⟩
      · have := h.rg z hz
        have := hx z hz
        omega
      · omega
    · rw [prev_eq (by omega) x1]
      refine ⟨n - 1, by omega, x - 1, rfl, by omega, by omega, by rw [← tgt_back hx]; exact ex, ?_⟩
      rcases mu with ⟨⟨z, hz, l⟩, e⟩ | ⟨hn, e⟩
      · exact .inl ⟨⟨z, hz, by have := hx z hz; omega⟩, by omega⟩
      · exact .inr ⟨fun z hz => by have := hn z hz; omega, by omega⟩
  · simp only [Classical.not_forall, Classical.not_not] at hx
    obtain ⟨q, hq, rfl⟩ := hx
    simp_arith [dicAt_w h.lt hq]
    refine ⟨?_, [], by simp⟩
    rw [← ex, tgt_at h.lt hq (Int.le_refl _) fun z _ l => l]
theorem targets_sm (h : Tool m t) (m0 : 1 ≤ m) (m1 : m ≤ 60) : Sm 1 700 (.list (((rgI 0 m).map (tgt t)).map .int)) := (Sm.list (sm_ints fun x hx => by
  obtain ⟨p, _, rfl⟩ := List.mem_map.mp hx
  have := tgt_rg h p
  omega)).mono (by decide) (by rw [List.length_map, List.length_map, rgI_length]; omega)
end
theorem law02_holds : ∀ ns : List Int, ns.length ≤ 63 → ∃ S', f_law02 [.scr ns] [] = .ok (dB true) S' := by
  intro ns hn
  refine law_end ?_
  obtain ⟨S0, e0, d0⟩ := deck_ok ns hn
  simp_arith [m_law02]
  refine Go.of e0 ?_
  simp_arith [Go_ok]
  refine fL (fun i : Int => dI i) (Fr ns 6) (ys := rgI 0 9) (Fr.mk d0 rfl (by rw [rgI_length]; decide)) ?_ ?_
  · rintro i hi j env S ⟨rest, rfl, hl, hd⟩
    have hi := rgI_mem.mp hi
    match rest, hl with
    | [x2, x3, x4, x5, x6, x7], _ =>
      obtain ⟨v, hv, ev⟩ := pick3 (a := 4) (b := 13) (c := 60) (i := i) (P := fun v => 1 ≤ v ∧ v ≤ 60) hi.1 (by decide) (by decide) (by decide)
      simp_arith [m_law02_l1, ev]
      refine draw_w (n := j * 1000000 + 900000) (hd.mono (by omega)) (by omega) (by omega) fun m' S1 m0' m1' d1 => ?_
      obtain ⟨m, hm⟩ : ∃ m, 1 + m' = m := ⟨_, rfl⟩
      have m0 : 1 ≤ m := by omega
      have m1 : m ≤ 60 := by omega
      simp_arith [hm]
      refine tool_w (n := j * 1000000 + 800000) (d1.mono (by omega)) m0 (by omega) fun t S2 ht1 d2 => ?_
      have ht := ht1.toTool
      have hlen := ht.len
      have hrep := ok_tool ht (m := m) (by omega)
      have hdue := (targets_sm ht m0 m1).ok (by decide) (by decide)
      simp_arith [fRepr_w hrep]
      refine ⟨by omega, ?_⟩
      refine cKai (fun i : Int => dI i) (tgt t) (ys := rgI 0 m) (by rw [rgI_length]; omega) ?_ ?_
      · intro p hp
        have hp := rgI_mem.mp hp
        unfold Item
        simp_arith [Go_ok]
        exact Go.of (target3_eq ht m0 (by omega) hp.1 hp.2) ⟨rfl, rfl⟩
      simp_arith [Go_ok]
      refine ⟨by omega, ?_⟩
      refine cKai (fun i : Int => dI i) (tgt t) (ys := rgI 0 m) (by rw [rgI_length]; omega) ?_ ?_
      · intro p hp
        unfold Item
        simp_arith [Go_ok]
        exact Go.of (target_of_eq ht.ne (by omega)) ⟨rfl, rfl⟩
      simp_arith [Go_ok]
      refine Go.of (same_ok hdue) ?_
      simp_arith [Go_ok]
      refine ⟨by omega, ?_⟩
      refine cKai (fun i : Int => dI i) (tgt t) (ys := rgI 0 m) (by rw [rgI_length]; omega) ?_ ?_
      · intro p hp
        unfold Item
        simp_arith [Go_ok]
        exact Go.of (target_of_eq ht.ne (by omega)) ⟨rfl, rfl⟩
      simp_arith [Go_ok]
      refine Go.of (same_ok hdue) ?_
      simp_arith [fRepr_w hrep, beq_self_eq_true]
      exact Fr.mk d2 rfl (by omega)
  · rintro env S ⟨rest, rfl, hl, hd⟩
    simp_arith [Go_ok]
end QQ
end
section
set_option maxRecDepth 100000
set_option maxHeartbeats 1000000
/-! J17: law 6. -/
namespace QQ
open PySem DL
local macro_rules | `(tactic| simp_arith [$xs,*]) => `(tactic| simp only [eqL00, neL00, eqTi, neTi, eqLi, neLi, eqTp, neTp, eqLi0, neLi0, eqTi0, neTi0, eqLi1, inLi, notInLi, Go_ok, Go_exc, Go_bad, Br_t, Br_f, Br_not, xC_w, xV_w0, xV_ws, kB1_w, kB2_w, xBin_w, xT_w, xTr_w, asB_w, kAsB_w, truB_w, kTruB_w, kTruI_w, kTruN_w, kTruL_w, kTruT_w, kAndT_t, kAndT_f, kOrT_t, kOrT_f, kNotT_w, xAndT_w, 
  xOrT_w, xNotT_w, xYes_w, kOrD_w, kAndD_w, kOrD_t, kOrD_f, kAndD_t, kAndD_f, xOrD_w, xAndD_w, kNotB_w, xNot_w, kIfE_t, kIfE_f, xIf_w, xNil_w, kC1_w, kC2_w, xCons_w, kMut_w, xTup_w, xLst_w, xMut_w, kCB_w, xCB_w, kCall_w, 
  xCall_w, kNeg_w, xNeg_w, kCh1_w, kCh2_w, kCh4_t, kCh4_f, xChain_w, xNoPart_w, kPart_w, xPart_w, kSl1_w, kSl2_w, kSl3_w, xSl_w, xIsi_w, kBM_w, kBM2_w, xBM_w, tyD_L, kTup_0, kTup_1, kTup_2, kTup_3, kTup_4, kTup_5, kTup_6, 
  kTup_7, kTup_8, kLst_0, kLst_1, kLst_2, kLst_3, kLst_4, kLst_5, kLst_6, kLst_7, kLst_8, kIsi_int_NoneType, kIsi_int_bool, kIsi_int_int, kIsi_int_str, kIsi_int_list, kIsi_int_tuple, kIsi_bool_NoneType, kIsi_bool_bool, 
  kIsi_bool_int, kIsi_bool_str, kIsi_bool_list, kIsi_bool_tuple, kIsi_tuple_NoneType, kIsi_tuple_bool, kIsi_tuple_int, kIsi_tuple_str, kIsi_tuple_list, kIsi_tuple_tuple, kIsi_list_NoneType, kIsi_list_bool, kIsi_list_int, 
  kIsi_list_str, kIsi_list_list, kIsi_list_tuple, kIsi_str_NoneType, kIsi_str_bool, kIsi_str_int, kIsi_str_str, kIsi_str_list, kIsi_str_tuple, dAdd_w, dSub_w, dMul_w, dDiv_w, dMod_w, dPow_w, dCmp_w, dEqI_w, dNeI_w, dEqS_w, 
  dNeS_w, dAddT_w, dAddS_w, dAddL_w, dIsN_w, dIsNotN_w, isN_n, isN_i, isN_t, fLenL_w, fLenT_w, fAbs_w, fIntB_w, fMax2_w, fMin2_w, fMax_w, fMin_w, fSum_w, fSort_w, fSortT_w, fSSetT_w, fSSet_w, fAll_w, fTupleT_w, fTupleL_w, fListL_w, fListT_w, fRgT_w, 
  fRgL_w, fRgM_w, ixT0_w, ixT1_w, ixL0_w, ixL1_w, slT_w, slL_w, kNx_w, kEx_w, sk_nx, sk_rt, sk_bk, sk_ct, sk_xc, bk_rt, bk_nx, bkX_rt, bkX_nx, bkX_xc, xSeq_w, xPass_w, xBrk_w, xCnt_w, kDrop_w, xDrop_w, kRet_w, xRet_w, 
  xRetN_w, kIf_t, kIf_f, xIfS_w, kSet_w, xSet_w, kBd_w, Bd_nm, Bd_tp, Bd_tp3, kAsg_w, xAsg_w, kPar_w, kPar3_w, xPar_w, xPar3_w, kSto1_w, kSto2_w, xStore_w, kFor_w, xFor_w, xComp_w, xCompM_w, xWhile_w, kWh_t, kWh_f, xBody_w, xBodyX_w, kIt_w, kRv_w, kIx_w, 
  xIt_w, xRg1_w, xRg2_w, xRg3_w, xZip_w, xEnm_w, xEnB_w, xRev_w, iR1_w, iR2_w, iSeqL_w, iSeqT_w, iSeqS_w, iZipT_w, iZipL_w, zOk_l, zOk_r, lk_nx, lk_ct, lk_bk, lk_rt, lk_xc, env0, wipeE, List.map_cons, List.map_nil, List.set_cons_zero, 
  List.set_cons_succ, List.length_cons, List.length_nil, List.length_map, Nat.reduceAdd, Nat.reduceSub, Nat.zero_add, List.reduceReplicate, List.cons_append, List.nil_append, true_and, and_true, Bool.not_true, 
  Bool.not_false, decide_true, decide_false, Nat.reduceLeDiff, Int.reduceLT, Int.reduceLE, Int.reduceNeg, reduceIte, reduceCtorEq, Int.reduceToNat, Int.reducePow, Int.reduceAdd, Int.reduceSub, Int.reduceMul, implies_true, false_implies, forall_const, eq_self, and_self, Int.cast_ofNat_Int, Int.natCast_zero, Int.natCast_one, Int.reduceEq, $xs,*])
theorem sm_places {m : Int} {xs : List Int} (h : xs.length ≤ 60) (hr : ∀ x ∈ xs, 0 ≤ x ∧ x < 61) : Sm 1 700 (.tuple (xs.map .int)) := (Sm.tuple (sm_ints fun x hx => by
  have := hr x hx
  omega)).mono (by decide) (by rw [List.length_map]; omega)
theorem law06_holds : ∀ ns : List Int, ns.length ≤ 63 → ∃ S', f_law06 [.scr ns] [] = .ok (dB true) S' := by
  intro ns hn
  refine law_end ?_
  obtain ⟨S0, e0, d0⟩ := deck_ok ns hn
  simp_arith [m_law06]
  refine Go.of e0 ?_
  simp_arith [Go_ok]
  refine fL (fun i : Int => dI i) (Fr ns 13) (ys := rgI 0 9) (Fr.mk d0 rfl (by rw [rgI_length]; decide)) ?_ ?_
  · rintro i hi j env S ⟨rest, rfl, hl, hd⟩
    have hi := rgI_mem.mp hi
    match rest, hl with
    | [x2, x3, x4, x5, x6, x7, x8, x9, x10, x11, x12, x13, x14], _ =>
      obtain ⟨v, hv, ev⟩ := pick3 (a := 4) (b := 13) (c := 60) (i := i) (P := fun v => 1 ≤ v ∧ v ≤ 60) hi.1 (by decide) (by decide) (by decide)
      simp_arith [m_law06_l2, ev]
      refine draw_w (n := j * 1000000 + 900000) (hd.mono (by omega)) (by omega) (by omega) fun m' S1 m0' m1' d1 => ?_
      obtain ⟨m, hm⟩ : ∃ m, 1 + m' = m := ⟨_, rfl⟩
      have m0 : 1 ≤ m := by omega
      have m1 : m ≤ 60 := by omega
      simp_arith [hm]
      refine tool_w (n := j * 1000000 + 800000) (d1.mono (by omega)) m0 (by omega) fun t S2 ht1 d2 => ?_
      have ht := ht1.toTool
      have hlen := ht.len
      have hrep := ok_tool ht (m := m) (by omega)
      simp_arith [fRepr_w hrep]
      refine ⟨by omega, ?_⟩
      refine cKai (fun i : Int => dI i) (tgt t) (ys := rgI 0 m) (by rw [rgI_length]; omega) ?_ ?_
      · intro p hp
        have hp := rgI_mem.mp hp
        unfold Item
        simp_arith [Go_ok]
        exact Go.of (target3_eq ht m0 (by omega) hp.1 hp.2) ⟨rfl, rfl⟩
      simp_arith [Go_ok]
      refine draw_w (n := j * 1000000 + 700000) (d2.mono (by omega)) (by omega) (by omega) fun a S3 a0 a1 d3 => ?_
      simp_arith [Go_ok]
      refine draw_w (n := j * 1000000 + 600000) (d3.mono (by omega)) (by omega) (by omega) fun b S4 b0 b1 d4 => ?_
      obtain ⟨mx, hmx, mx0, mx1⟩ : ∃ mx : Int, (if m - 1 > 1 then m - 1 else 1) = mx ∧ 1 ≤ mx ∧ mx ≤ m := ⟨_, rfl, by split <;> omega, by split <;> omega⟩
      simp_arith [hmx]
      refine fL (fun i : Int => dI i) (fun k env S' => ∃ y7 y8 y9 y10 y11 y12 y13 y14, env = [some (.scr ns), some (.loc 1), some (dI i), some (dI m), some (dT (t.map pr)), some (dS (PyData.shown (.tuple (t.map pr)))), some (dL (((rgI 0 m).map (tgt t)).map .int)), y7, y8, y9, y10, y11, y12, y13, y14] ∧ Dk (j * 1000000 + 3 * k) [] S') (ys := [1, m, 1 + a, mx, 1 + b]) ⟨_, _, _, _, _, _, _, _, rfl, d4.mono (by simp)⟩ ?_ ?_
      · rintro L hL j2 env S' ⟨y7, y8, y9, y10, y11, y12, y13, y14, rfl, hd2⟩
        have hL : 1 ≤ L ∧ L ≤ m := by
          simp only [List.mem_cons, List.not_mem_nil, or_false] at hL
          omega
        simp_arith [m_law06_l1]
        refine draw_w (n := j * 1000000 + 3 * j2) (hd2.mono (by omega)) (by omega) (by omega) fun b S3 b0 b1 d5 => ?_
        simp_arith [Go_ok]
        refine ⟨by omega, ?_⟩
        refine cKai (fun i : Int => dI i) (fun k => (b + k) % m) (ys := rgI 0 L) (by rw [rgI_length]; omega) ?_ ?_
        · intro p hp
          unfold Item
          simp_arith [Go_ok]
          omega
        rw [show (rgI 0 L).map (fun k => (b + k) % m) = arcL m b L from rfl]
        simp_arith [Go_ok]
        refine ⟨by omega, ?_⟩
        refine cKi (fun i : Int => dI i) (fun p => decide (tgt t p ∈ arcL m b L)) (fun p => p) (ys := rgI 0 m) (by rw [rgI_length]; omega) ?_ ?_
        · intro p hp
          have hp := rgI_mem.mp hp
          unfold Item
          simp_arith [ixLi_w (is := (rgI 0 m).map (tgt t)) (i := p) ⟨hp.1, by rw [List.length_map, rgI_length]; omega⟩]
          rw [List.getD_eq_getElem?_getD, List.getElem?_map, rgI_get (by omega)]
          show decide (tgt t (0 + (p.toNat : Nat)) ∈ arcL m b L) = _
          rw [show (0 : Int) + (p.toNat : Nat) = p by omega]
        have eb : (rgI 0 m).filter (fun p => decide (tgt t p ∈ arcL m b L)) = brought m t b L := List.filter_congr fun p _ => by
          have tr := tgt_rg ht p
          have := arcL_mem m0 (b := b) hL.2 tr.1 tr.2
          by_cases h : inArc m b L (tgt t p) = true
          · rw [h, decide_eq_true (this.mpr h)]
          · rw [decide_eq_false (fun z => h (this.mp z))]
            simpa using h
        rw [List.map_id', eb]
        have bl := brought_le (m := m) (t := t) b L
        have sm := sm_places (m := m) (xs := brought m t b L) (by omega) fun x hx => by
          have := (brought_mem.mp hx).1
          omega
        have ok2 : reprOk (.list [.tuple ((brought m t b L).map .int), .tuple ((brought m t b L).map .int)]) := (Sm.lst2 sm sm).ok (by decide) (by decide)
        simp_arith [Go_ok]
        refine cKa (fun i : Int => dI i) (fun _ => .tuple ((brought m t b L).map .int)) (ys := rgI 0 2) (by decide) ?_ ?_
        · intro p hp
          unfold Item
          simp_arith [Go_ok]
          exact Go.of (brought_into_eq ht m0 (by omega)) ⟨rfl, rfl⟩
        simp_arith [show (rgI 0 2).map (fun _ : Int => PyData.tuple ((brought m t b L).map .int)) = [.tuple ((brought m t b L).map .int), .tuple ((brought m t b L).map .int)] from rfl]
        refine Go.of (same_ok ok2) ?_
        simp_arith [fRepr_w hrep, beq_self_eq_true]
        exact ⟨_, _, _, _, _, _, _, _, rfl, d5⟩
      · rintro env S' ⟨y7, y8, y9, y10, y11, y12, y13, y14, rfl, hd2⟩
        simp_arith [Go_ok]
        exact Fr.mk hd2 rfl (by omega)
  · rintro env S ⟨rest, rfl, hl, hd⟩
    simp_arith [Go_ok]
end QQ
end
section
set_option maxRecDepth 100000
set_option maxHeartbeats 1000000
/-! J18: law 3. -/
namespace QQ
open PySem DL
local macro_rules | `(tactic| simp_arith [$xs,*]) => `(tactic| simp only [eqL00, neL00, eqTi, neTi, eqLi, neLi, eqTp, neTp, eqLi0, neLi0, eqTi0, neTi0, eqLi1, inLi, notInLi, Go_ok, Go_exc, Go_bad, Br_t, Br_f, Br_not, xC_w, xV_w0, xV_ws, kB1_w, kB2_w, xBin_w, xT_w, xTr_w, asB_w, kAsB_w, truB_w, kTruB_w, kTruI_w, kTruN_w, kTruL_w, kTruT_w, kAndT_t, kAndT_f, kOrT_t, kOrT_f, kNotT_w, xAndT_w, 
  xOrT_w, xNotT_w, xYes_w, kOrD_w, kAndD_w, kOrD_t, kOrD_f, kAndD_t, kAndD_f, xOrD_w, xAndD_w, kNotB_w, xNot_w, kIfE_t, kIfE_f, xIf_w, xNil_w, kC1_w, kC2_w, xCons_w, kMut_w, xTup_w, xLst_w, xMut_w, kCB_w, xCB_w, kCall_w, 
  xCall_w, kNeg_w, xNeg_w, kCh1_w, kCh2_w, kCh4_t, kCh4_f, xChain_w, xNoPart_w, kPart_w, xPart_w, kSl1_w, kSl2_w, kSl3_w, xSl_w, xIsi_w, kBM_w, kBM2_w, xBM_w, tyD_L, kTup_0, kTup_1, kTup_2, kTup_3, kTup_4, kTup_5, kTup_6, 
  kTup_7, kTup_8, kLst_0, kLst_1, kLst_2, kLst_3, kLst_4, kLst_5, kLst_6, kLst_7, kLst_8, kIsi_int_NoneType, kIsi_int_bool, kIsi_int_int, kIsi_int_str, kIsi_int_list, kIsi_int_tuple, kIsi_bool_NoneType, kIsi_bool_bool, 
  kIsi_bool_int, kIsi_bool_str, kIsi_bool_list, kIsi_bool_tuple, kIsi_tuple_NoneType, kIsi_tuple_bool, kIsi_tuple_int, kIsi_tuple_str, kIsi_tuple_list, kIsi_tuple_tuple, kIsi_list_NoneType, kIsi_list_bool, kIsi_list_int, 
  kIsi_list_str, kIsi_list_list, kIsi_list_tuple, kIsi_str_NoneType, kIsi_str_bool, kIsi_str_int, kIsi_str_str, kIsi_str_list, kIsi_str_tuple, dAdd_w, dSub_w, dMul_w, dDiv_w, dMod_w, dPow_w, dCmp_w, dEqI_w, dNeI_w, dEqS_w, 
  dNeS_w, dAddT_w, dAddS_w, dAddL_w, dIsN_w, dIsNotN_w, isN_n, isN_i, isN_t, fLenL_w, fLenT_w, fAbs_w, fIntB_w, fMax2_w, fMin2_w, fMax_w, fMin_w, fSum_w, fSort_w, fSortT_w, fSSetT_w, fSSet_w, fAll_w, fTupleT_w, fTupleL_w, fListL_w, fListT_w, fRgT_w, 
  fRgL_w, fRgM_w, ixT0_w, ixT1_w, ixL0_w, ixL1_w, slT_w, slL_w, kNx_w, kEx_w, sk_nx, sk_rt, sk_bk, sk_ct, sk_xc, bk_rt, bk_nx, bkX_rt, bkX_nx, bkX_xc, xSeq_w, xPass_w, xBrk_w, xCnt_w, kDrop_w, xDrop_w, kRet_w, xRet_w, 
  xRetN_w, kIf_t, kIf_f, xIfS_w, kSet_w, xSet_w, kBd_w, Bd_nm, Bd_tp, Bd_tp3, kAsg_w, xAsg_w, kPar_w, kPar3_w, xPar_w, xPar3_w, kSto1_w, kSto2_w, xStore_w, kFor_w, xFor_w, xComp_w, xCompM_w, xWhile_w, kWh_t, kWh_f, xBody_w, xBodyX_w, kIt_w, kRv_w, kIx_w, 
  xIt_w, xRg1_w, xRg2_w, xRg3_w, xZip_w, xEnm_w, xEnB_w, xRev_w, iR1_w, iR2_w, iSeqL_w, iSeqT_w, iSeqS_w, iZipT_w, iZipL_w, zOk_l, zOk_r, lk_nx, lk_ct, lk_bk, lk_rt, lk_xc, env0, wipeE, List.map_cons, List.map_nil, List.set_cons_zero, 
  List.set_cons_succ, List.length_cons, List.length_nil, List.length_map, Nat.reduceAdd, Nat.reduceSub, Nat.zero_add, List.reduceReplicate, List.cons_append, List.nil_append, true_and, and_true, Bool.not_true, 
  Bool.not_false, decide_true, decide_false, Nat.reduceLeDiff, Int.reduceLT, Int.reduceLE, Int.reduceNeg, reduceIte, reduceCtorEq, Int.reduceToNat, Int.reducePow, Int.reduceAdd, Int.reduceSub, Int.reduceMul, implies_true, false_implies, forall_const, eq_self, and_self, Int.cast_ofNat_Int, Int.natCast_zero, Int.natCast_one, Int.reduceEq, $xs,*])
section
variable {Q : QR D} {E : QX} {n : Nat} {T S : Sto} {m : Int}
theorem places_w (h : Dk (n + 200) T S) (m0 : 1 ≤ m) (m1 : m ≤ 60) (k : ∀ (xs : List Int) S', Asc m xs → Dk n T S' → Q (dT (xs.map .int)) S') : Go (f_places [.loc 1, dI m] S) Q E := by
  obtain ⟨xs, S', e, a, d⟩ := places_ok m h m0 m1
  exact Go.of e (k xs S' a d)
end
theorem sm_placesL {m : Int} {xs : List Int} (h : xs.length ≤ 60) (hr : ∀ x ∈ xs, 0 ≤ x ∧ x < 61) : Sm 1 700 (.list (xs.map .int)) := (Sm.list (sm_ints fun x hx => by
  have := hr x hx
  omega)).mono (by decide) (by rw [List.length_map]; omega)
theorem law03_holds : ∀ ns : List Int, ns.length ≤ 63 → ∃ S', f_law03 [.scr ns] [] = .ok (dB true) S' := by
  intro ns hn
  refine law_end ?_
  obtain ⟨S0, e0, d0⟩ := deck_ok ns hn
  simp_arith [m_law03]
  refine Go.of e0 ?_
  simp_arith [Go_ok]
  refine fL (fun i : Int => dI i) (Fr ns 10) (ys := rgI 0 9) (Fr.mk d0 rfl (by rw [rgI_length]; decide)) ?_ ?_
  · rintro i hi j env S ⟨rest, rfl, hl, hd⟩
    have hi := rgI_mem.mp hi
    match rest, hl with
    | [x2, x3, x4, x5, x6, x7, x8, x9, x10, x11], _ =>
      obtain ⟨v, hv, ev⟩ := pick3 (a := 4) (b := 13) (c := 60) (i := i) (P := fun v => 1 ≤ v ∧ v ≤ 60) hi.1 (by decide) (by decide) (by decide)
      simp_arith [m_law03_l2, ev]
      refine draw_w (n := j * 1000000 + 900000) (hd.mono (by omega)) (by omega) (by omega) fun m' S1 m0' m1' d1 => ?_
      obtain ⟨m, hm⟩ : ∃ m, 1 + m' = m := ⟨_, rfl⟩
      have m0 : 1 ≤ m := by omega
      have m1 : m ≤ 60 := by omega
      simp_arith [hm]
      refine tool_w (n := j * 1000000 + 800000) (d1.mono (by omega)) m0 (by omega) fun t S2 ht1 d2 => ?_
      have ht := ht1.toTool
      have hlen := ht.len
      simp_arith [Go_ok]
      refine places_w (n := j * 1000000 + 700000) (d2.mono (by omega)) m0 (by omega) fun xs S3 ax d3 => ?_
      have xl := asc_len' (xs := xs) (a := 0) (b := m) ax.lt ax.rg
      have sx := sm_places (m := m) (xs := xs) (by omega) fun x hx => by
        have := ax.rg x hx
        omega
      have hrep : reprOk (.list [.tuple (t.map pr), .tuple (xs.map .int)]) := (Sm.lst2 (sm_tool ht (by omega)) (sx.mono (by decide) (Nat.le_refl _))).ok (by decide) (by decide)
      simp_arith [Go_ok]
      refine ⟨by omega, ?_⟩
      refine draw_w (n := j * 1000000 + 600000) (d3.mono (by omega)) (by omega) (by omega) fun st S4 st0 st1 d4 => ?_
      simp_arith [Go_ok]
      refine ⟨by decide, by decide, by decide, .inl ⟨by omega, by omega⟩, ?_⟩
      refine fK (fun i : Int => dI i) (fun a env S' => ∃ y7 y8 y9 y10 y11, env = [some (.scr ns), some (.loc 1), some (dI i), some (dI m), some (dT (t.map pr)), some (dT (xs.map .int)), some (dI (st - m)), y7, y8, y9, y10, y11] ∧ S' = S4) (ys := [st - m, 0, st - m - m, 999999999999999999999999999999, -999999999999999999999999999999, m * 100000000000000000000 + (st - m)]) ⟨_, _, _, _, _, rfl, rfl⟩ ?_ ?_
      · rintro a by_ b env S' e ⟨y7, y8, y9, y10, y11, rfl, rfl⟩
        simp_arith [m_law03_l1, fRepr_w hrep]
        refine cKai (fun i : Int => dI i) (fun p => tgt t ((p + by_) % m)) (ys := xs) (by omega) ?_ ?_
        · intro p hp
          unfold Item
          simp_arith [Go_ok]
          refine ⟨by omega, ?_⟩
          exact Go.of (target3_eq ht m0 (by omega) (md m0).1 (md m0).2) ⟨rfl, rfl⟩
        have hs : reprOk (.list ((xs.map fun p => tgt t ((p + by_) % m)).map .int)) := (sm_placesL (m := m) (by rw [List.length_map]; omega) fun x hx => by
          obtain ⟨p, _, rfl⟩ := List.mem_map.mp hx
          have := tgt_rg ht ((p + by_) % m)
          omega).ok (by decide) (by decide)
        simp_arith [Go_ok]
        refine cKai (fun i : Int => dI i) (fun p => tgt t ((p + by_) % m)) (ys := xs) (by omega) ?_ ?_
        · intro p hp
          unfold Item
          simp_arith [Go_ok]
          exact Go.of (push_place_eq ht m0 (by omega)) ⟨rfl, rfl⟩
        simp_arith [Go_ok]
        refine Go.of (same_ok hs) ?_
        simp_arith [Go_ok]
        refine ⟨by omega, ?_⟩
        rw [show asc (xs.map fun p => tgt t ((p + by_) % m)) = pushed m t by_ xs from rfl]
        have pl := asc_len' (xs := pushed m t by_ xs) (a := 0) (b := m) (asc_pw _) fun x hx => by
          obtain ⟨y, hy, e⟩ := pushed_mem.mp hx
          rw [← e]
          exact tgt_rg ht _
        have sp := sm_places (m := m) (xs := pushed m t by_ xs) (by omega) fun x hx => by
          obtain ⟨y, hy, e⟩ := pushed_mem.mp hx
          have := tgt_rg ht ((y + by_) % m)
          omega
        have ok2 : reprOk (.list [.tuple ((pushed m t by_ xs).map .int), .tuple ((pushed m t by_ xs).map .int)]) := (Sm.lst2 sp sp).ok (by decide) (by decide)
        refine cKa (fun i : Int => dI i) (fun _ => .tuple ((pushed m t by_ xs).map .int)) (ys := rgI 0 2) (by decide) ?_ ?_
        · intro p hp
          unfold Item
          simp_arith [Go_ok]
          exact Go.of (push_places_eq ht m0 (by omega) (by omega)) ⟨rfl, rfl⟩
        simp_arith [show (rgI 0 2).map (fun _ : Int => PyData.tuple ((pushed m t by_ xs).map .int)) = [.tuple ((pushed m t by_ xs).map .int), .tuple ((pushed m t by_ xs).map .int)] from rfl]
        refine Go.of (same_ok ok2) ?_
        simp_arith [fRepr_w hrep, beq_self_eq_true]
        exact ⟨_, _, _, _, _, rfl⟩
      · rintro env S' ⟨y7, y8, y9, y10, y11, rfl, rfl⟩
        simp_arith [Go_ok]
        exact Fr.mk d4 rfl (by omega)
  · rintro env S ⟨rest, rfl, hl, hd⟩
    simp_arith [Go_ok]
end QQ
end
section
set_option maxRecDepth 100000
set_option maxHeartbeats 1000000
/-! J19: law 7. -/
namespace QQ
open PySem DL
local macro_rules | `(tactic| simp_arith [$xs,*]) => `(tactic| simp only [eqL00, neL00, eqTi, neTi, eqLi, neLi, eqTp, neTp, eqLi0, neLi0, eqTi0, neTi0, eqLi1, inLi, notInLi, Go_ok, Go_exc, Go_bad, Br_t, Br_f, Br_not, xC_w, xV_w0, xV_ws, kB1_w, kB2_w, xBin_w, xT_w, xTr_w, asB_w, kAsB_w, truB_w, kTruB_w, kTruI_w, kTruN_w, kTruL_w, kTruT_w, kAndT_t, kAndT_f, kOrT_t, kOrT_f, kNotT_w, xAndT_w, 
  xOrT_w, xNotT_w, xYes_w, kOrD_w, kAndD_w, kOrD_t, kOrD_f, kAndD_t, kAndD_f, xOrD_w, xAndD_w, kNotB_w, xNot_w, kIfE_t, kIfE_f, xIf_w, xNil_w, kC1_w, kC2_w, xCons_w, kMut_w, xTup_w, xLst_w, xMut_w, kCB_w, xCB_w, kCall_w, 
  xCall_w, kNeg_w, xNeg_w, kCh1_w, kCh2_w, kCh4_t, kCh4_f, xChain_w, xNoPart_w, kPart_w, xPart_w, kSl1_w, kSl2_w, kSl3_w, xSl_w, xIsi_w, kBM_w, kBM2_w, xBM_w, tyD_L, kTup_0, kTup_1, kTup_2, kTup_3, kTup_4, kTup_5, kTup_6, 
  kTup_7, kTup_8, kLst_0, kLst_1, kLst_2, kLst_3, kLst_4, kLst_5, kLst_6, kLst_7, kLst_8, kIsi_int_NoneType, kIsi_int_bool, kIsi_int_int, kIsi_int_str, kIsi_int_list, kIsi_int_tuple, kIsi_bool_NoneType, kIsi_bool_bool, 
  kIsi_bool_int, kIsi_bool_str, kIsi_bool_list, kIsi_bool_tuple, kIsi_tuple_NoneType, kIsi_tuple_bool, kIsi_tuple_int, kIsi_tuple_str, kIsi_tuple_list, kIsi_tuple_tuple, kIsi_list_NoneType, kIsi_list_bool, kIsi_list_int, 
  kIsi_list_str, kIsi_list_list, kIsi_list_tuple, kIsi_str_NoneType, kIsi_str_bool, kIsi_str_int, kIsi_str_str, kIsi_str_list, kIsi_str_tuple, dAdd_w, dSub_w, dMul_w, dDiv_w, dMod_w, dPow_w, dCmp_w, dEqI_w, dNeI_w, dEqS_w, 
  dNeS_w, dAddT_w, dAddS_w, dAddL_w, dIsN_w, dIsNotN_w, isN_n, isN_i, isN_t, fLenL_w, fLenT_w, fAbs_w, fIntB_w, fMax2_w, fMin2_w, fMax_w, fMin_w, fSum_w, fSort_w, fSortT_w, fSSetT_w, fSSet_w, fAll_w, fTupleT_w, fTupleL_w, fListL_w, fListT_w, fRgT_w, 
  fRgL_w, fRgM_w, ixT0_w, ixT1_w, ixL0_w, ixL1_w, slT_w, slL_w, kNx_w, kEx_w, sk_nx, sk_rt, sk_bk, sk_ct, sk_xc, bk_rt, bk_nx, bkX_rt, bkX_nx, bkX_xc, xSeq_w, xPass_w, xBrk_w, xCnt_w, kDrop_w, xDrop_w, kRet_w, xRet_w, 
  xRetN_w, kIf_t, kIf_f, xIfS_w, kSet_w, xSet_w, kBd_w, Bd_nm, Bd_tp, Bd_tp3, kAsg_w, xAsg_w, kPar_w, kPar3_w, xPar_w, xPar3_w, kSto1_w, kSto2_w, xStore_w, kFor_w, xFor_w, xComp_w, xCompM_w, xWhile_w, kWh_t, kWh_f, xBody_w, xBodyX_w, kIt_w, kRv_w, kIx_w, 
  xIt_w, xRg1_w, xRg2_w, xRg3_w, xZip_w, xEnm_w, xEnB_w, xRev_w, iR1_w, iR2_w, iSeqL_w, iSeqT_w, iSeqS_w, iZipT_w, iZipL_w, zOk_l, zOk_r, lk_nx, lk_ct, lk_bk, lk_rt, lk_xc, env0, wipeE, List.map_cons, List.map_nil, List.set_cons_zero, 
  List.set_cons_succ, List.length_cons, List.length_nil, List.length_map, Nat.reduceAdd, Nat.reduceSub, Nat.zero_add, List.reduceReplicate, List.cons_append, List.nil_append, true_and, and_true, Bool.not_true, 
  Bool.not_false, decide_true, decide_false, Nat.reduceLeDiff, Int.reduceLT, Int.reduceLE, Int.reduceNeg, reduceIte, reduceCtorEq, Int.reduceToNat, Int.reducePow, Int.reduceAdd, Int.reduceSub, Int.reduceMul, implies_true, false_implies, forall_const, eq_self, and_self, Int.cast_ofNat_Int, Int.natCast_zero, Int.natCast_one, Int.reduceEq, $xs,*])
section
variable {Q : QR D} {E : QX} {S : Sto} {m : Int} {ts : List (List (Int × Int))}
theorem fRgL2_w {i j : Int} : Go (fRgL2 [dI i, dI j] S) Q E = ((-1000000 ≤ i ∧ i ≤ 1000000 ∧ -1000000 ≤ j ∧ j ≤ 1000000 ∧ j - i ≤ 1000000) ∧ Q (dL ((rgI i j).map .int)) S) := by
  rw [show fRgL2 [dI i, dI j] S = if -1000000 ≤ i ∧ i ≤ 1000000 ∧ -1000000 ≤ j ∧ j ≤ 1000000 ∧ j - i ≤ 1000000 then .ok (dL ((rgI i j).map .int)) S else .bad from rfl, Go_ifb, Go_ok]
theorem sm_tools (h : ∀ t ∈ ts, Tool m t) (hl : ts.length ≤ 4) (m1 : m ≤ 1000) : Sm 3 1200 (.tuple (ts.map tT)) := (Sm.tuple (n := 2) (w := 289) (xs := ts.map tT) fun d hd => by
  obtain ⟨t, ht, rfl⟩ := List.mem_map.mp hd
  exact sm_tool (h t ht) m1).mono (by decide) (by rw [List.length_map]; omega)
theorem widS_at (h : ∀ t ∈ ts, Tool m t) (ne : ts ≠ []) {L : Int} : ∃ t ∈ ts, widS m ts L = wid m t L := by
  obtain ⟨h1, _⟩ := maxI_spec (ns := ts.map fun t => wid m t L) (by simp [ne])
  obtain ⟨t, ht, e⟩ := List.mem_map.mp h1
  exact ⟨t, ht, e.symm⟩
theorem widS_up {t : List (Int × Int)} (ht : t ∈ ts) {L : Int} : wid m t L ≤ widS m ts L := maxI_ge (List.mem_map.mpr ⟨t, ht, rfl⟩)
theorem width2_eq (h : ∀ t ∈ ts, Tool m t) (ne : ts ≠ []) (hl : ts.length ≤ 1000) (m0 : 1 ≤ m) (m1 : m ≤ 1000) {L : Int} : f_width_2 [dI m, dT (ts.map tT), dI L] S = .ok (dI (widS m ts L)) S := by
  refine pure_eq ?_
  simp_arith [m_width_2]
  refine fK (fun t => D.py (tT t)) (fun a env S' => ∃ (f : Int) (y4 y5 y6 y7 y8 : Option D), env = [some (dI m), some (dT (ts.map tT)), some (dI L), some (dI f), y4, y5, y6, y7, y8] ∧ S' = S ∧ (∀ t ∈ a, wid m t L ≤ f) ∧ 0 ≤ f ∧ f ≤ widS m ts L) (ys := ts) ⟨0, _, _, _, _, _, rfl, rfl, (fun x h => absurd h List.not_mem_nil), by omega, ?_⟩ ?_ ?_
  · obtain ⟨t, ht, e⟩ := widS_at h ne (L := L)
    rw [e]
    exact wid_nn (h t ht).ne
  · rintro a t b env S' e ⟨f, y4, y5, y6, y7, y8, rfl, rfl, ha, f0, f1⟩
    have htm : t ∈ ts := by rw [e]; simp
    have ht := h t htm
    have hlen := ht.len
    simp_arith [m_width_2_l2]
    refine ⟨by omega, ?_⟩
    refine cKai (fun i : Int => dI i) (tgt t) (ys := rgI 0 m) (by rw [rgI_length]; omega) ?_ ?_
    · intro p hp
      have hp := rgI_mem.mp hp
      unfold Item
      simp_arith [Go_ok]
      exact Go.of (show f_target_3 [dI m, .py (tT t), dI p] S' = _ from target3_eq ht m0 m1 hp.1 hp.2) ⟨rfl, rfl⟩
    simp_arith [Go_ok]
    refine ⟨by omega, ?_⟩
    refine fK (fun i : Int => dI i) (fun bs env S2 => ∃ (f' : Int) (y6 y7 y8 : Option D), env = [some (dI m), some (dT (ts.map tT)), some (dI L), some (dI f'), some (.py (tT t)), some (dL (((rgI 0 m).map (tgt t)).map .int)), y6, y7, y8] ∧ S2 = S' ∧ f ≤ f' ∧ (∀ x ∈ bs, cnt m t x L ≤ f') ∧ f' ≤ widS m ts L) (ys := rgI 0 m) ⟨f, _, _, _, rfl, rfl, Int.le_refl _, (fun x h => absurd h List.not_mem_nil), f1⟩ ?_ ?_
    · rintro bs x cs env S2 e2 ⟨f', y6, y7, y8, rfl, rfl, g0, g1, g2⟩
      simp_arith [m_width_2_l1]
      refine cKi (fun i : Int => dI i) (fun y => inArc m x L y) (fun y => y) (ys := (rgI 0 m).map (tgt t)) (by rw [List.length_map, rgI_length]; omega) ?_ ?_
      · intro y hy
        unfold Item
        simp_arith [Go_ok]
        exact ⟨by omega, rfl⟩
      have ec : ((((((rgI 0 m).map (tgt t)).filter fun y => inArc m x L y).map fun y => y).length : Nat) : Int) = cnt m t x L := by
        rw [List.length_map, List.filter_map, List.length_map]
        rfl
      simp_arith [List.length_map]
      rw [List.length_map] at ec
      rw [ec]
      have up : cnt m t x L ≤ widS m ts L := Int.le_trans (cnt_wid ht m0 x L) (widS_up htm)
      by_cases hc : cnt m t x L > f'
      · rw [if_pos hc]
        refine ⟨_, _, _, _, rfl, by omega, fun z hz => ?_, up⟩
        rcases List.mem_append.mp hz with hz | hz
        · have := g1 z hz; omega
        · rw [List.mem_singleton.mp hz]; omega
      · rw [if_neg hc]
        refine ⟨_, _, _, _, rfl, by omega, fun z hz => ?_, g2⟩
        rcases List.mem_append.mp hz with hz | hz
        · exact g1 z hz
        · rw [List.mem_singleton.mp hz]; omega
    · rintro env S2 ⟨f', y6, y7, y8, rfl, rfl, g0, g1, g2⟩
      simp_arith [Go_ok]
      refine ⟨f', _, _, _, _, _, rfl, fun z hz => ?_, by omega, g2⟩
      rcases List.mem_append.mp hz with hz | hz
      · have := ha z hz; omega
      · rw [List.mem_singleton.mp hz]
        obtain ⟨q, hq, eq⟩ := wid_at ht L
        have r := ht.rg q hq
        rw [eq]
        exact g1 q.2 (rgI_mem.mpr ⟨r.2.2.1, r.2.2.2⟩)
  · rintro env S' ⟨f, y4, y5, y6, y7, y8, rfl, rfl, ha, f0, f1⟩
    simp_arith [Go_ok]
    refine ⟨?_, [], by simp⟩
    obtain ⟨t, ht, e⟩ := widS_at h ne (L := L)
    have := ha t ht
    rw [show f = widS m ts L by omega]
end
theorem law07_holds : ∀ ns : List Int, ns.length ≤ 63 → ∃ S', f_law07 [.scr ns] [] = .ok (dB true) S' := by
  intro ns hn
  refine law_end ?_
  obtain ⟨S0, e0, d0⟩ := deck_ok ns hn
  simp_arith [m_law07]
  refine Go.of e0 ?_
  simp_arith [Go_ok]
  refine fL (fun i : Int => dI i) (Fr ns 9) (ys := rgI 0 6) (Fr.mk d0 rfl (by rw [rgI_length]; decide)) ?_ ?_
  · rintro i hi j env S ⟨rest, rfl, hl, hd⟩
    have hi := rgI_mem.mp hi
    match rest, hl with
    | [x2, x3, x4, x5, x6, x7, x8, x9, x10], _ =>
      obtain ⟨v, hv, ev⟩ := pick3 (a := 5) (b := 13) (c := 40) (i := i) (P := fun v => 1 ≤ v ∧ v ≤ 40) hi.1 (by decide) (by decide) (by decide)
      simp_arith [m_law07_l2, ev]
      refine draw_w (n := j * 1000000 + 900000) (hd.mono (by omega)) (by omega) (by omega) fun m' S1 m0' m1' d1 => ?_
      obtain ⟨m, hm⟩ : ∃ m, 1 + m' = m := ⟨_, rfl⟩
      have m0 : 1 ≤ m := by omega
      have m1 : m ≤ 40 := by omega
      simp_arith [hm]
      refine tools_w (n := j * 1000000 + 800000) (d1.mono (by omega)) m0 (by omega) fun ts S2 hts ne lts d2 => ?_
      have ht' : ∀ t ∈ ts, Tool m t := fun t h => (hts t h).toTool
      have hrep := (sm_tools ht' lts (by omega)).ok (by decide) (by decide)
      simp_arith [Go_ok]
      refine draw_w (n := j * 1000000 + 700000) (d2.mono (by omega)) (by omega) (by omega) fun a S3 a0 a1 d3 => ?_
      simp_arith [Go_ok]
      refine draw_w (n := j * 1000000 + 600000) (d3.mono (by omega)) (by omega) (by omega) fun b S4 b0 b1 d4 => ?_
      obtain ⟨mx, hmx, mx0, mx1⟩ : ∃ mx : Int, (if m - 1 > 1 then m - 1 else 1) = mx ∧ 1 ≤ mx ∧ mx ≤ m := ⟨_, rfl, by split <;> omega, by split <;> omega⟩
      simp_arith [hmx, fRepr_w hrep]
      obtain ⟨R, hR, rR, lR⟩ : ∃ R : List Int, (if m < 7 then rgI 1 (m + 1) else [1, m, mx, 1 + a, 1 + b]) = R ∧ (∀ x ∈ R, 1 ≤ x ∧ x ≤ m) ∧ R.length ≤ 60 := by
        refine ⟨_, rfl, ?_, ?_⟩
        · split
          · intro x hx
            have := rgI_mem.mp hx
            omega
          · intro x hx
            simp only [List.mem_cons, List.not_mem_nil, or_false] at hx
            omega
        · split
          · rw [rgI_length]; omega
          · simp
      refine kIf_by (S0 := S4) (v := .nx [some (.scr ns), some (.loc 1), some (dI i), some (dI m), some (dT (ts.map tT)), some (dL (R.map .int)), some (dS (PyData.shown (.tuple (ts.map tT)))), x7, x8, x9, x10]) (fun hc => ?_) (fun hc => ?_) ?_
      · have hc := of_decide_eq_true hc
        rw [if_pos hc] at hR
        simp_arith [fRgL2_w, hR]
        omega
      · have hc := of_decide_eq_false hc
        rw [if_neg hc] at hR
        simp_arith [← hR]
      simp_arith [Go_ok]
      refine fK (fun i : Int => dI i) (fun k env S' => ∃ y7 y8 y9 y10, env = [some (.scr ns), some (.loc 1), some (dI i), some (dI m), some (dT (ts.map tT)), some (dL (R.map .int)), some (dS (PyData.shown (.tuple (ts.map tT)))), y7, y8, y9, y10] ∧ S' = S4) (ys := R) ⟨_, _, _, _, rfl, rfl⟩ ?_ ?_
      · rintro k L b env S' e ⟨y7, y8, y9, y10, rfl, rfl⟩
        simp_arith [m_law07_l1]
        refine Go.of (width2_eq ht' ne (by omega) m0 (by omega)) ?_
        simp_arith [Go_ok]
        refine cKa (fun i : Int => dI i) (fun _ => .int (widS m ts L)) (ys := rgI 0 2) (by decide) ?_ ?_
        · intro p hp
          unfold Item
          simp_arith [Go_ok]
          exact Go.of (width_of_eq ht' ne (by omega) m0) ⟨rfl, rfl⟩
        have w1 := widS_le (L := L) ht' ne (by omega)
        obtain ⟨t, htm, et⟩ := widS_at ht' ne (L := L)
        have w0 : 0 ≤ widS m ts L := by rw [et]; exact wid_nn (ht' t htm).ne
        have sw := sm_int (i := widS m ts L) (by omega) (by omega)
        have ok2 : reprOk (.list [.int (widS m ts L), .int (widS m ts L)]) := (Sm.lst2 sw sw).ok (by decide) (by decide)
        simp_arith [show (rgI 0 2).map (fun _ : Int => PyData.int (widS m ts L)) = [.int (widS m ts L), .int (widS m ts L)] from rfl]
        refine Go.of (same_ok ok2) ?_
        simp_arith [fRepr_w hrep, beq_self_eq_true]
        exact ⟨_, _, _, _, rfl⟩
      · rintro env S' ⟨y7, y8, y9, y10, rfl, rfl⟩
        simp_arith [Go_ok]
        exact Fr.mk d4 rfl (by omega)
  · rintro env S ⟨rest, rfl, hl, hd⟩
    simp_arith [Go_ok]
end QQ
end
section
set_option maxRecDepth 100000
set_option maxHeartbeats 1000000
/-! J20: law 8. -/
namespace QQ
open PySem DL
local macro_rules | `(tactic| simp_arith [$xs,*]) => `(tactic| simp only [eqL00, neL00, eqTi, neTi, eqLi, neLi, eqTp, neTp, eqLi0, neLi0, eqTi0, neTi0, eqLi1, inLi, notInLi, Go_ok, Go_exc, Go_bad, Br_t, Br_f, Br_not, xC_w, xV_w0, xV_ws, kB1_w, kB2_w, xBin_w, xT_w, xTr_w, asB_w, kAsB_w, truB_w, kTruB_w, kTruI_w, kTruN_w, kTruL_w, kTruT_w, kAndT_t, kAndT_f, kOrT_t, kOrT_f, kNotT_w, xAndT_w, 
  xOrT_w, xNotT_w, xYes_w, kOrD_w, kAndD_w, kOrD_t, kOrD_f, kAndD_t, kAndD_f, xOrD_w, xAndD_w, kNotB_w, xNot_w, kIfE_t, kIfE_f, xIf_w, xNil_w, kC1_w, kC2_w, xCons_w, kMut_w, xTup_w, xLst_w, xMut_w, kCB_w, xCB_w, kCall_w, 
  xCall_w, kNeg_w, xNeg_w, kCh1_w, kCh2_w, kCh4_t, kCh4_f, xChain_w, xNoPart_w, kPart_w, xPart_w, kSl1_w, kSl2_w, kSl3_w, xSl_w, xIsi_w, kBM_w, kBM2_w, xBM_w, tyD_L, kTup_0, kTup_1, kTup_2, kTup_3, kTup_4, kTup_5, kTup_6, 
  kTup_7, kTup_8, kLst_0, kLst_1, kLst_2, kLst_3, kLst_4, kLst_5, kLst_6, kLst_7, kLst_8, kIsi_int_NoneType, kIsi_int_bool, kIsi_int_int, kIsi_int_str, kIsi_int_list, kIsi_int_tuple, kIsi_bool_NoneType, kIsi_bool_bool, 
  kIsi_bool_int, kIsi_bool_str, kIsi_bool_list, kIsi_bool_tuple, kIsi_tuple_NoneType, kIsi_tuple_bool, kIsi_tuple_int, kIsi_tuple_str, kIsi_tuple_list, kIsi_tuple_tuple, kIsi_list_NoneType, kIsi_list_bool, kIsi_list_int, 
  kIsi_list_str, kIsi_list_list, kIsi_list_tuple, kIsi_str_NoneType, kIsi_str_bool, kIsi_str_int, kIsi_str_str, kIsi_str_list, kIsi_str_tuple, dAdd_w, dSub_w, dMul_w, dDiv_w, dMod_w, dPow_w, dCmp_w, dEqI_w, dNeI_w, dEqS_w, 
  dNeS_w, dAddT_w, dAddS_w, dAddL_w, dIsN_w, dIsNotN_w, isN_n, isN_i, isN_t, fLenL_w, fLenT_w, fAbs_w, fIntB_w, fMax2_w, fMin2_w, fMax_w, fMin_w, fSum_w, fSort_w, fSortT_w, fSSetT_w, fSSet_w, fAll_w, fTupleT_w, fTupleL_w, fListL_w, fListT_w, fRgT_w, 
  fRgL_w, fRgM_w, ixT0_w, ixT1_w, ixL0_w, ixL1_w, slT_w, slL_w, kNx_w, kEx_w, sk_nx, sk_rt, sk_bk, sk_ct, sk_xc, bk_rt, bk_nx, bkX_rt, bkX_nx, bkX_xc, xSeq_w, xPass_w, xBrk_w, xCnt_w, kDrop_w, xDrop_w, kRet_w, xRet_w, 
  xRetN_w, kIf_t, kIf_f, xIfS_w, kSet_w, xSet_w, kBd_w, Bd_nm, Bd_tp, Bd_tp3, kAsg_w, xAsg_w, kPar_w, kPar3_w, xPar_w, xPar3_w, kSto1_w, kSto2_w, xStore_w, kFor_w, xFor_w, xComp_w, xCompM_w, xWhile_w, kWh_t, kWh_f, xBody_w, xBodyX_w, kIt_w, kRv_w, kIx_w, 
  xIt_w, xRg1_w, xRg2_w, xRg3_w, xZip_w, xEnm_w, xEnB_w, xRev_w, iR1_w, iR2_w, iSeqL_w, iSeqT_w, iSeqS_w, iZipT_w, iZipL_w, zOk_l, zOk_r, lk_nx, lk_ct, lk_bk, lk_rt, lk_xc, env0, wipeE, List.map_cons, List.map_nil, List.set_cons_zero, 
  List.set_cons_succ, List.length_cons, List.length_nil, List.length_map, Nat.reduceAdd, Nat.reduceSub, Nat.zero_add, List.reduceReplicate, List.cons_append, List.nil_append, true_and, and_true, Bool.not_true, 
  Bool.not_false, decide_true, decide_false, Nat.reduceLeDiff, Int.reduceLT, Int.reduceLE, Int.reduceNeg, reduceIte, reduceCtorEq, Int.reduceToNat, Int.reducePow, Int.reduceAdd, Int.reduceSub, Int.reduceMul, implies_true, false_implies, forall_const, eq_self, and_self, Int.cast_ofNat_Int, Int.natCast_zero, Int.natCast_one, Int.reduceEq, $xs,*])
section
variable {Q : QR D} {E : QX} {S : Sto} {m g : Int} {ts : List (List (Int × Int))}
theorem lastT_w {fs : List Int} {x : Int} : Go (dIxD (dT ((fs ++ [x]).map .int)) (dI (-1)) S) Q E = Q (dI x) S := by
  rw [ixT1 (v := .int x) (by simp), Go_ok]
theorem due3_eq (h : ∀ t ∈ ts, Tool m t) (ne : ts ≠ []) (hl : ts.length ≤ 1000) (m0 : 1 ≤ m) (m1 : m ≤ 900) (g0 : 0 ≤ g) (g1 : g ≤ m) : f_due_3 [dI m, dT (ts.map tT), dI g] S = .ok (dT ((lens m ts g).map .int)) S := by
  refine pure_eq ?_
  simp_arith [m_due_3]
  refine Go.of (width2_eq h ne hl m0 (by omega)) ?_
  simp_arith [Go_ok]
  refine while_go (fun n env S' => ∃ (fs : List Int) (x : Int), env = [some (dI m), some (dT (ts.map tT)), some (dI g), some (dT ((fs ++ [x]).map .int)), some (dI (widS m ts x))] ∧ S' = S ∧ 0 ≤ x ∧ x ≤ m ∧ fs.length ≤ x ∧ n = (m - x).toNat ∧ fs ++ lens m ts x = lens m ts g) 1000000 (m - g).toNat _ _ (by omega) ⟨[], g, rfl, rfl, g0, g1, by simpa using g0, rfl, rfl⟩ ?_
  rintro n env S' ⟨fs, x, rfl, rfl, x0, xm, hfs, rfl, e⟩
  have hw := widS_le (L := x) h ne (show 0 ≤ m by omega)
  have hge := widS_ge h ne m0 x0 xm
  have hfull := widS_full h ne m0
  have hs := lens_step h ne (show 0 ≤ m by omega) m1 x0
  simp_arith [lastT_w]
  unfold kAndT
  refine Br.dec (fun hlt => ?_) (fun hlt => ?_)
  · simp_arith [lastT_w]
    unfold kWh
    by_cases hne : widS m ts x = x
    · refine Br.no (by simp [hne]) ?_
      rw [if_neg (by omega)] at hs
      simp_arith [Go_ok]
      rw [← e, hs]
      exact ⟨rfl, [], by simp⟩
    · refine Br.yes (by simp [hne]) ?_
      rw [if_pos (by omega)] at hs
      simp_arith [m_due_3_l1]
      refine ⟨by simp; omega, ?_⟩
      refine Go.of (width2_eq h ne hl m0 (by omega)) ?_
      simp_arith [Go_ok]
      exact ⟨_, by omega, fs ++ [x], widS m ts x, by simp, by omega, by omega, by simp; omega, rfl, by rw [List.append_assoc, List.singleton_append, ← hs, e]⟩
  · have : x = m := by omega
    subst this
    rw [if_neg (by omega)] at hs
    simp_arith [Go_ok]
    rw [← e, hs]
    exact ⟨rfl, [], by simp⟩
end
theorem law08_holds : ∀ ns : List Int, ns.length ≤ 63 → ∃ S', f_law08 [.scr ns] [] = .ok (dB true) S' := by
  intro ns hn
  refine law_end ?_
  obtain ⟨S0, e0, d0⟩ := deck_ok ns hn
  simp_arith [m_law08]
  refine Go.of e0 ?_
  simp_arith [Go_ok]
  refine fL (fun i : Int => dI i) (Fr ns 9) (ys := rgI 0 6) (Fr.mk d0 rfl (by rw [rgI_length]; decide)) ?_ ?_
  · rintro i hi j env S ⟨rest, rfl, hl, hd⟩
    have hi := rgI_mem.mp hi
    match rest, hl with
    | [x2, x3, x4, x5, x6, x7, x8, x9, x10], _ =>
      obtain ⟨v, hv, ev⟩ := pick3 (a := 5) (b := 13) (c := 24) (i := i) (P := fun v => 1 ≤ v ∧ v ≤ 24) hi.1 (by decide) (by decide) (by decide)
      simp_arith [m_law08_l2, ev]
      refine draw_w (n := j * 1000000 + 900000) (hd.mono (by omega)) (by omega) (by omega) fun m' S1 m0' m1' d1 => ?_
      obtain ⟨m, hm⟩ : ∃ m, 1 + m' = m := ⟨_, rfl⟩
      have m0 : 1 ≤ m := by omega
      have m1 : m ≤ 24 := by omega
      simp_arith [hm]
      refine tools_w (n := j * 1000000 + 800000) (d1.mono (by omega)) m0 (by omega) fun ts S2 hts ne lts d2 => ?_
      have ht' : ∀ t ∈ ts, Tool m t := fun t h => (hts t h).toTool
      have hrep := (sm_tools ht' lts (by omega)).ok (by decide) (by decide)
      simp_arith [Go_ok]
      refine draw_w (n := j * 1000000 + 700000) (d2.mono (by omega)) (by omega) (by omega) fun a S3 a0 a1 d3 => ?_
      simp_arith [fRepr_w hrep]
      obtain ⟨R, hR, rR, lR⟩ : ∃ R : List Int, (if m < 6 then rgI 1 (m + 1) else [1, m, 1 + a]) = R ∧ (∀ x ∈ R, 1 ≤ x ∧ x ≤ m) ∧ R.length ≤ 60 := by
        refine ⟨_, rfl, ?_, ?_⟩
        · split
          · intro x hx
            have := rgI_mem.mp hx
            omega
          · intro x hx
            simp only [List.mem_cons, List.not_mem_nil, or_false] at hx
            omega
        · split
          · rw [rgI_length]; omega
          · simp
      refine kIf_by (S0 := S3) (v := .nx [some (.scr ns), some (.loc 1), some (dI i), some (dI m), some (dT (ts.map tT)), some (dL (R.map .int)), some (dS (PyData.shown (.tuple (ts.map tT)))), x7, x8, x9, x10]) (fun hc => ?_) (fun hc => ?_) ?_
      · have hc := of_decide_eq_true hc
        rw [if_pos hc] at hR
        simp_arith [fRgL2_w, hR]
        omega
      · have hc := of_decide_eq_false hc
        rw [if_neg hc] at hR
        simp_arith [← hR]
      simp_arith [Go_ok]
      refine fK (fun i : Int => dI i) (fun k env S' => ∃ y7 y8 y9 y10, env = [some (.scr ns), some (.loc 1), some (dI i), some (dI m), some (dT (ts.map tT)), some (dL (R.map .int)), some (dS (PyData.shown (.tuple (ts.map tT)))), y7, y8, y9, y10] ∧ S' = S3) (ys := R) ⟨_, _, _, _, rfl, rfl⟩ ?_ ?_
      · rintro k G b env S' e ⟨y7, y8, y9, y10, rfl, rfl⟩
        have hG := rR G (by rw [e]; simp)
        simp_arith [m_law08_l1]
        refine Go.of (due3_eq ht' ne (by omega) m0 (by omega) (by omega) (by omega)) ?_
        simp_arith [Go_ok]
        refine cKa (fun i : Int => dI i) (fun _ => .tuple ((lens m ts G).map .int)) (ys := rgI 0 2) (by decide) ?_ ?_
        · intro p hp
          unfold Item
          simp_arith [Go_ok]
          exact Go.of (lengths_of_eq ht' ne (by omega) m0 (by omega) (by omega)) ⟨rfl, rfl⟩
        obtain ⟨r, l, el, pw, _, _, rg⟩ := lens_spec ht' ne m0 (by omega) (m - G).toNat G (by omega) (by omega) (Nat.le_refl _)
        rw [← el] at pw rg
        have ll := asc_len' (xs := lens m ts G) (a := 0) (b := m + 1) pw fun x hx => by have := rg x hx; omega
        have sw := sm_places (m := m) (xs := lens m ts G) (by omega) fun x hx => by have := rg x hx; omega
        have ok2 : reprOk (.list [.tuple ((lens m ts G).map .int), .tuple ((lens m ts G).map .int)]) := (Sm.lst2 sw sw).ok (by decide) (by decide)
        simp_arith [show (rgI 0 2).map (fun _ : Int => PyData.tuple ((lens m ts G).map .int)) = [.tuple ((lens m ts G).map .int), .tuple ((lens m ts G).map .int)] from rfl]
        refine Go.of (same_ok ok2) ?_
        simp_arith [fRepr_w hrep, beq_self_eq_true]
        exact ⟨_, _, _, _, rfl⟩
      · rintro env S' ⟨y7, y8, y9, y10, rfl, rfl⟩
        simp_arith [Go_ok]
        exact Fr.mk d3 rfl (by omega)
  · rintro env S ⟨rest, rfl, hl, hd⟩
    simp_arith [Go_ok]
end QQ
end
section
set_option maxRecDepth 100000
set_option maxHeartbeats 4000000
namespace K08
open PySem PySem.Spec PyProof.Rows L2 DL QQ
def top (i : Nat) : Stmt := PySem.Challenge.pw_blindpush_k08_lengths_of_goals.main.body.getD i (.Pass ⟨0, 0, 0, 0⟩)
abbrev s_deck : Stmt := top 6
abbrev s_draw : Stmt := top 7
abbrev s_distinct : Stmt := top 8
abbrev s_tool : Stmt := top 9
abbrev s_tools : Stmt := top 12
abbrev s_target : Stmt := top 11
abbrev s_width : Stmt := top 13
abbrev s_due : Stmt := top 14
abbrev s_arc_sizes : Stmt := top 1
abbrev s_tool_width : Stmt := top 2
abbrev s_width_of : Stmt := top 3
abbrev s_lengths_of : Stmt := top 4
abbrev s_same : Stmt := top 10
abbrev s_law : Stmt := top 15
structure Txt (K : PySem.W.Frag) (mg : Str → Option Value) : Prop where
  z_abs : mg "abs" = none
  z_dict : mg "dict" = none
  z_len : mg "len" = none
  z_list : mg "list" = none
  z_max : mg "max" = none
  z_min : mg "min" = none
  z_range : mg "range" = none
  z_repr : mg "repr" = none
  z_sorted : mg "sorted" = none
  z_sum : mg "sum" = none
  z_tuple : mg "tuple" = none
  z_zip : mg "zip" = none
section
variable {P : Program} {w : World} {K : PySem.W.Frag} {mg : Str → Option Value} {base : Heap} {g : G}
theorem sc_deck : FnScope ["_law_script", "_law_cell"] ["_law_script"] (defScope s_deck) := ⟨rfl, rfl, rfl, by decide +kernel, rfl, by decide +kernel, by decide +kernel⟩
theorem c_deck (hK : g.K = K) (T : Txt K mg) (F : FunAt K mg "_law_deck" s_deck ["_law_script"])  : Cal P w K mg base g 1 1 "_law_deck" f_deck :=
  have sc := sc_deck
  Cal.shut (Cal.trim (cal_of (k := 0) hK F sc fun f cdv A outer s H E hg hr =>
    have hu := hr.units
    have hu1 := unit1 hr
    have hu2 := unit65 hr
    (dss_one (ds_ret (de_mut (da_cons (de_compM rfl sc.nd (di_seq (de_sl (dv 0) do_none (do_some de_int))) (own := [("_law_cell", 1)]) (blkOk_by (by kernel_rfl)) (by decide) (fun _ _ _ _ _ => (dg_nm (i := 1) sc.nd rfl (Or.inl rfl))) (fun _ _ _ _ _ => dts_nil) (fun _ _ _ _ _ => (dcAbs T.z_abs (da_cons (dv 1) da_nil)))) (da_cons de_int da_nil)))))))
theorem sc_draw : FnScope ["_law_deck_here", "_law_limit", "_law_cell", "_law_index"] ["_law_deck_here", "_law_limit"] (defScope s_draw) := ⟨rfl, rfl, rfl, by decide +kernel, rfl, by decide +kernel, by decide +kernel⟩
theorem c_draw (hK : g.K = K) (T : Txt K mg) (F : FunAt K mg "_law_draw" s_draw ["_law_deck_here", "_law_limit"])  : Cal P w K mg base g 1 2 "_law_draw" f_draw :=
  have sc := sc_draw
  Cal.shut (Cal.trim (cal_of (k := 0) hK F sc fun f cdv A outer s H E hg hr =>
    have hu := hr.units
    have hu1 := unit1 hr
    have hu2 := unit65 hr
    (dss_cons (ds_store (dv 0) de_int (de_op opAdd (dix hu1 (dv 0) de_int) de_int)) (dss_cons (ds_asg (dg_tp rfl (dgs_cons (dg_nm (i := 2) sc.nd rfl (Or.inl rfl)) (dgs_cons (dg_nm (i := 3) sc.nd rfl (Or.inl rfl)) dgs_nil))) (de_tup (da_cons de_int (da_cons (de_neg de_int) da_nil)))) (dss_cons (ds_if (dt_cmp opGt (dcLen T.z_len (da_cons (dix hu1 (dv 0) de_int) da_nil)) de_int (by rfl)) (dss_cons (ds_set (i := 3) sc.nd rfl (Or.inl rfl) (de_op opMod (dix hu1 (dv 0) de_int) (dcLen T.z_len (da_cons (dix hu1 (dv 0) de_int) da_nil)))) (dss_one (ds_set (i := 2) sc.nd rfl (Or.inl rfl) (dix hu1 (dix hu1 (dv 0) de_int) (dv 3))))) dss_nil) (dss_cons (ds_if (dt_cmp opGe (dv 2) (de_op opPow de_int de_int) (by rfl)) (dss_cons (ds_store (dix hu1 (dv 0) de_int) (dv 3) (de_op opDiv (dv 2) (dv 1))) (dss_one (ds_ret (de_op opMod (dv 2) (dv 1))))) dss_nil) (dss_one (ds_ret (de_op opMod (de_op opDiv (de_op opMod (de_op opPow (de_op opAdd (de_op opAdd (de_op opMod (dv 2) de_int) (de_op opMul de_int (dix hu1 (dv 0) de_int))) de_int) de_int) de_int) de_int) (dv 1))))))))))
theorem sc_distinct : FnScope ["_law_deck_here", "_law_m", "_law_many", "_law_left", "_law_k"] ["_law_deck_here", "_law_m", "_law_many"] (defScope s_distinct) := ⟨rfl, rfl, rfl, by decide +kernel, rfl, by decide +kernel, by decide +kernel⟩
theorem c_distinct (hK : g.K = K) (T : Txt K mg) (F : FunAt K mg "_law_distinct" s_distinct ["_law_deck_here", "_law_m", "_law_many"]) (h_draw : Cal P w K mg base g 1 2 "_law_draw" f_draw) : Cal P w K mg base g 2 3 "_law_distinct" f_distinct :=
  have sc := sc_distinct
  Cal.shut (Cal.trim (cal_of (k := 1) hK F sc fun f cdv A outer s H E hg hr =>
    have hu := hr.units
    have hu1 := unit1 hr
    have hu2 := unit65 hr
    (dss_cons (ds_set (i := 3) sc.nd rfl (Or.inr rfl) (de_rgM rfl rfl T.z_list rfl T.z_range (dv 1))) (dss_one (ds_ret (dcSort T.z_sorted (da_cons (de_comp rfl sc.nd (di_rg1 rfl T.z_range (da_cons (dv 2) da_nil)) (own := [("_law_k", 4)]) (blkOk_by (by kernel_rfl)) (by decide) (fun _ _ _ _ _ => (dg_nm (i := 4) sc.nd rfl (Or.inl rfl))) (fun _ _ _ _ _ => dts_nil) (fun _ _ _ _ _ => (dmPopAt (dv 3) (da_cons (dcall (h_draw.mono (by decide)) hg hr rfl (da_cons (dv 0) (da_cons (dcLen T.z_len (da_cons (dv 3) da_nil)) da_nil))) da_nil)))) da_nil)))))))
theorem sc_tool : FnScope ["_law_deck_here", "_law_m", "_law_steps", "_law_d", "_law_many", "_law_begins", "_law_targets", "_law_found", "_law_shift", "_law_block", "_law_k"] ["_law_deck_here", "_law_m"] (defScope s_tool) := ⟨rfl, rfl, rfl, by decide +kernel, rfl, by decide +kernel, by decide +kernel⟩
theorem c_tool (hK : g.K = K) (T : Txt K mg) (F : FunAt K mg "_law_tool" s_tool ["_law_deck_here", "_law_m"]) (h_draw : Cal P w K mg base g 1 2 "_law_draw" f_draw) (h_distinct : Cal P w K mg base g 2 3 "_law_distinct" f_distinct) : Cal P w K mg base g 3 2 "_law_tool" f_tool :=
  have sc := sc_tool
  Cal.shut (Cal.trim (cal_of (k := 2) hK F sc fun f cdv A outer s H E hg hr =>
    have hu := hr.units
    have hu1 := unit1 hr
    have hu2 := unit65 hr
    (dss_cons (ds_setLc (i := 2) rfl sc.nd rfl rfl rfl (di_rg2 rfl T.z_range (da_cons de_int (da_cons (de_op opAdd (dv 1) de_int) da_nil))) (own := [("_law_d", 3)]) (blkOk_by (by kernel_rfl)) (by decide) (fun _ _ _ _ _ => (dg_nm (i := 3) sc.nd rfl (Or.inl rfl))) (fun _ _ _ _ _ => (dts_one (dt_w (dw_and (dt_cmp (opEq hu) (de_op opMod (dv 1) (dv 3)) de_int (by rfl)) (dw_and1 (dt_cmp opLt (de_op opDiv (dv 1) (dv 3)) de_int (by rfl))))))) (fun _ _ _ _ _ => (dv 3))) (dss_cons (ds_set (i := 3) sc.nd rfl (Or.inl rfl) (dix hu1 (de_lst (da_cons (dv 1) (da_cons (dix hu1 (dv 2) (dcall (h_draw.mono (by decide)) hg hr rfl (da_cons (dv 0) (da_cons (dcLen T.z_len (da_cons (dv 2) da_nil)) da_nil)))) da_nil))) (dcall (h_draw.mono (by decide)) hg hr rfl (da_cons (dv 0) (da_cons de_int da_nil))))) (dss_cons (ds_set (i := 4) sc.nd rfl (Or.inl rfl) (de_op opAdd de_int (dcall (h_draw.mono (by decide)) hg hr rfl (da_cons (dv 0) (da_cons (dcMin2 rfl T.z_min (da_cons (dv 3) (da_cons (de_op opDiv (de_op opMul de_int (dv 3)) (dv 1)) da_nil))) da_nil))))) (dss_cons (ds_par3 (i := 5) (j := 6) (m := 7) rfl sc.nd rfl rfl rfl (by decide) (by decide) (by decide) rfl rfl rfl (da_cons (dcall (h_distinct.mono (by decide)) hg hr rfl (da_cons (dv 0) (da_cons (dv 3) (da_cons (dv 4) da_nil)))) (da_cons (dcall (h_distinct.mono (by decide)) hg hr rfl (da_cons (dv 0) (da_cons (dv 3) (da_cons (dv 4) da_nil)))) (da_cons (de_mut da_nil) da_nil))) rfl) (dss_cons (ds_set (i := 8) sc.nd rfl (Or.inl rfl) (dcall (h_draw.mono (by decide)) hg hr rfl (da_cons (dv 0) (da_cons (dv 1) da_nil)))) (dss_cons (ds_for PassesOwn.never rfl (di_rg3 rfl T.z_range (da_cons de_int (da_cons (dv 1) (da_cons (dv 3) da_nil)))) (dg_nm (i := 9) sc.nd rfl (Or.inl rfl)) (dss_one (ds_for PassesOwn.never rfl (di_rg1 rfl T.z_range (da_cons (dv 4) da_nil)) (dg_nm (i := 10) sc.nd rfl (Or.inl rfl)) (dss_one (ds_expr (dmAppend (dv 7) (da_cons (de_tup (da_cons (de_op opAdd (dv 9) (dix hu1 (dv 5) (dv 10))) (da_cons (de_op opMod (de_op opAdd (de_op opAdd (dv 9) (dix hu1 (dv 6) (dv 10))) (dv 8)) (dv 1)) da_nil))) da_nil))))))) (dss_one (ds_ret (de_if (dt_cmp opGt (dcLen T.z_len (da_cons (dv 7) da_nil)) de_int (by rfl)) (dcTuple T.z_tuple (da_cons (dv 7) da_nil)) (de_tup (da_cons (de_tup (da_cons de_int (da_cons (dix hu1 (dix hu1 (dv 7) de_int) de_int) da_nil))) da_nil)))))))))))))
theorem sc_tools : FnScope ["_law_deck_here", "_law_m", "_law_k"] ["_law_deck_here", "_law_m"] (defScope s_tools) := ⟨rfl, rfl, rfl, by decide +kernel, rfl, by decide +kernel, by decide +kernel⟩
theorem c_tools (hK : g.K = K) (T : Txt K mg) (F : FunAt K mg "_law_tools" s_tools ["_law_deck_here", "_law_m"]) (h_draw : Cal P w K mg base g 1 2 "_law_draw" f_draw) (h_tool : Cal P w K mg base g 3 2 "_law_tool" f_tool) : Cal P w K mg base g 4 2 "_law_tools" f_tools :=
  have sc := sc_tools
  Cal.shut (Cal.trim (cal_of (k := 3) hK F sc fun f cdv A outer s H E hg hr =>
    have hu := hr.units
    have hu1 := unit1 hr
    have hu2 := unit65 hr
    (dss_one (ds_ret (dcTuple T.z_tuple (da_cons (de_comp rfl sc.nd (di_rg1 rfl T.z_range (da_cons (de_op opAdd de_int (dcall (h_draw.mono (by decide)) hg hr rfl (da_cons (dv 0) (da_cons de_int da_nil)))) da_nil)) (own := [("_law_k", 2)]) (blkOk_by (by kernel_rfl)) (by decide) (fun _ _ _ _ _ => (dg_nm (i := 2) sc.nd rfl (Or.inl rfl))) (fun _ _ _ _ _ => dts_nil) (fun _ _ _ _ _ => (dcall (h_tool.mono (by decide)) hg hr rfl (da_cons (dv 0) (da_cons (dv 1) da_nil))))) da_nil))))))
theorem sc_target : FnScope ["_law_m", "_law_tool_here", "_law_place", "_law_targets"] ["_law_m", "_law_tool_here", "_law_place"] (defScope s_target) := ⟨rfl, rfl, rfl, by decide +kernel, rfl, by decide +kernel, by decide +kernel⟩
theorem c_target (hK : g.K = K) (T : Txt K mg) (F : FunAt K mg "_law_target" s_target ["_law_m", "_law_tool_here", "_law_place"])  : Cal P w K mg base g 1 3 "_law_target" f_target_3 :=
  have sc := sc_target
  Cal.shut (Cal.trim (cal_of (k := 0) hK F sc fun f cdv A outer s H E hg hr =>
    have hu := hr.units
    have hu1 := unit1 hr
    have hu2 := unit65 hr
    (dss_cons (ds_set (i := 3) sc.nd rfl (Or.inl rfl) (dcDict rfl T.z_dict (da_cons (dv 1) da_nil))) (dss_cons (ds_while 1000000 PassesOwn.never (dt_cmp (opNotIn hu2) (dv 2) (dv 3) (by rfl)) (dss_one (ds_set (i := 2) sc.nd rfl (Or.inl rfl) (de_op opMod (de_op opSub (dv 2) de_int) (dv 0))))) (dss_one (ds_ret (dix hu1 (dv 3) (dv 2))))))))
theorem sc_width : FnScope ["_law_m", "_law_tools_here", "_law_length", "_law_found", "_law_tool_here", "_law_targets", "_law_begin", "_law_place", "_law_target_here"] ["_law_m", "_law_tools_here", "_law_length"] (defScope s_width) := ⟨rfl, rfl, rfl, by decide +kernel, rfl, by decide +kernel, by decide +kernel⟩
theorem c_width (hK : g.K = K) (T : Txt K mg) (F : FunAt K mg "_law_width" s_width ["_law_m", "_law_tools_here", "_law_length"]) (h_target : Cal P w K mg base g 1 3 "_law_target" f_target_3) : Cal P w K mg base g 2 3 "_law_width" f_width_2 :=
  have sc := sc_width
  Cal.shut (Cal.trim (cal_of (k := 1) hK F sc fun f cdv A outer s H E hg hr =>
    have hu := hr.units
    have hu1 := unit1 hr
    have hu2 := unit65 hr
    (dss_cons (ds_set (i := 3) sc.nd rfl (Or.inl rfl) de_int) (dss_cons (ds_for PassesOwn.never rfl (di_seq (dv 1)) (dg_nm (i := 4) sc.nd rfl (Or.inr rfl)) (dss_cons (ds_setLc (i := 5) rfl sc.nd rfl rfl rfl (di_rg1 rfl T.z_range (da_cons (dv 0) da_nil)) (own := [("_law_place", 7)]) (blkOk_by (by kernel_rfl)) (by decide) (fun _ _ _ _ _ => (dg_nm (i := 7) sc.nd rfl (Or.inl rfl))) (fun _ _ _ _ _ => dts_nil) (fun _ _ _ _ _ => (dcall (h_target.mono (by decide)) hg hr rfl (da_cons (dv 0) (da_cons (dv 4) (da_cons (dv 7) da_nil)))))) (dss_one (ds_for PassesOwn.never rfl (di_rg1 rfl T.z_range (da_cons (dv 0) da_nil)) (dg_nm (i := 6) sc.nd rfl (Or.inr rfl)) (dss_one (ds_set (i := 3) sc.nd rfl (Or.inl rfl) (dcMax2 rfl T.z_max (da_cons (dv 3) (da_cons (dcLen T.z_len (da_cons (de_comp rfl sc.nd (di_seq (dv 5)) (own := [("_law_target_here", 8)]) (blkOk_by (by kernel_rfl)) (by decide) (fun _ _ _ _ _ => (dg_nm (i := 8) sc.nd rfl (Or.inl rfl))) (fun _ _ _ _ _ => (dts_one (dt_cmp opLt (de_op opMod (de_op opSub (dv 8) (dv 6)) (dv 0)) (dv 2) (by rfl)))) (fun _ _ _ _ _ => (dv 8))) da_nil)) da_nil))))))))) (dss_one (ds_ret (dv 3)))))))
theorem sc_due : FnScope ["_law_m", "_law_tools_here", "_law_goal", "_law_found", "_law_width_here"] ["_law_m", "_law_tools_here", "_law_goal"] (defScope s_due) := ⟨rfl, rfl, rfl, by decide +kernel, rfl, by decide +kernel, by decide +kernel⟩
theorem c_due (hK : g.K = K) (T : Txt K mg) (F : FunAt K mg "_law_due" s_due ["_law_m", "_law_tools_here", "_law_goal"]) (h_width : Cal P w K mg base g 2 3 "_law_width" f_width_2) : Cal P w K mg base g 3 3 "_law_due" f_due_3 :=
  have sc := sc_due
  Cal.shut (Cal.trim (cal_of (k := 2) hK F sc fun f cdv A outer s H E hg hr =>
    have hu := hr.units
    have hu1 := unit1 hr
    have hu2 := unit65 hr
    (dss_cons (ds_par (i := 3) (j := 4) rfl sc.nd rfl rfl (by decide) rfl rfl (da_cons (de_tup (da_cons (dv 2) da_nil)) (da_cons (dcall (h_width.mono (by decide)) hg hr rfl (da_cons (dv 0) (da_cons (dv 1) (da_cons (dv 2) da_nil)))) da_nil)) rfl) (dss_cons (ds_while 1000000 PassesOwn.never (dt_w (dw_and (dt_cmp opLt (dix hu1 (dv 3) (de_neg de_int)) (dv 0) (by rfl)) (dw_and1 (dt_cmp (opNe hu) (dv 4) (dix hu1 (dv 3) (de_neg de_int)) (by rfl))))) (dss_cons (ds_set (i := 3) sc.nd rfl (Or.inl rfl) (de_op opAdd (dv 3) (de_tup (da_cons (dv 4) da_nil)))) (dss_one (ds_set (i := 4) sc.nd rfl (Or.inl rfl) (dcall (h_width.mono (by decide)) hg hr rfl (da_cons (dv 0) (da_cons (dv 1) (da_cons (dv 4) da_nil)))))))) (dss_one (ds_ret (dv 3)))))))
theorem sc_arc_sizes : FnScope ["m", "tool", "begins", "ends", "begin", "target", "end"] ["m", "tool"] (defScope s_arc_sizes) := ⟨rfl, rfl, rfl, by decide +kernel, rfl, by decide +kernel, by decide +kernel⟩
theorem c_arc_sizes (hK : g.K = K) (T : Txt K mg) (F : FunAt K mg "arc_sizes" s_arc_sizes ["m", "tool"])  : Cal P w K mg base g 1 2 "arc_sizes" f_arc_sizes :=
  have sc := sc_arc_sizes
  Cal.shut (Cal.trim (cal_of (k := 0) hK F sc fun f cdv A outer s H E hg hr =>
    have hu := hr.units
    have hu1 := unit1 hr
    have hu2 := unit65 hr
    (dss_cons (ds_setLc (i := 2) rfl sc.nd rfl rfl rfl (di_seq (dv 1)) (own := [("begin", 4), ("target", 5)]) (blkOk_by (by kernel_rfl)) (by decide) (fun _ _ _ _ _ => (dg_tp rfl (dgs_cons (dg_nm (i := 4) sc.nd rfl (Or.inl rfl)) (dgs_cons (dg_nm (i := 5) sc.nd rfl (Or.inl rfl)) dgs_nil)))) (fun _ _ _ _ _ => dts_nil) (fun _ _ _ _ _ => (dv 4))) (dss_cons (ds_set (i := 3) sc.nd rfl (Or.inl rfl) (de_op opAdd (de_sl (dv 2) (do_some de_int) do_none) (de_lst (da_cons (de_op opAdd (dix hu1 (dv 2) de_int) (dv 0)) da_nil)))) (dss_one (ds_ret (de_comp rfl sc.nd (di_zip rfl T.z_zip (da_cons (dv 1) (da_cons (dv 3) da_nil))) (own := [("end", 6), ("begin", 4), ("target", 5)]) (blkOk_by (by kernel_rfl)) (by decide) (fun _ _ _ _ _ => (dg_tp rfl (dgs_cons (dg_tp rfl (dgs_cons (dg_nm (i := 4) sc.nd rfl (Or.inl rfl)) (dgs_cons (dg_nm (i := 5) sc.nd rfl (Or.inl rfl)) dgs_nil))) (dgs_cons (dg_nm (i := 6) sc.nd rfl (Or.inl rfl)) dgs_nil)))) (fun _ _ _ _ _ => dts_nil) (fun _ _ _ _ _ => (de_tup (da_cons (de_op opSub (dv 6) (dv 4)) (da_cons (dv 5) da_nil)))))))))))
theorem sc_tool_width : FnScope ["m", "tool", "length", "sizes", "counts", "begin", "first", "size", "target"] ["m", "tool", "length"] (defScope s_tool_width) := ⟨rfl, rfl, rfl, by decide +kernel, rfl, by decide +kernel, by decide +kernel⟩
theorem c_tool_width (hK : g.K = K) (T : Txt K mg) (F : FunAt K mg "tool_width" s_tool_width ["m", "tool", "length"]) (h_arc_sizes : Cal P w K mg base g 1 2 "arc_sizes" f_arc_sizes) : Cal P w K mg base g 2 3 "tool_width" f_tool_width :=
  have sc := sc_tool_width
  Cal.shut (Cal.trim (cal_of (k := 1) hK F sc fun f cdv A outer s H E hg hr =>
    have hu := hr.units
    have hu1 := unit1 hr
    have hu2 := unit65 hr
    (dss_cons (ds_set (i := 3) sc.nd rfl (Or.inl rfl) (dcall (h_arc_sizes.mono (by decide)) hg hr rfl (da_cons (dv 0) (da_cons (dv 1) da_nil)))) (dss_cons (ds_set (i := 4) sc.nd rfl (Or.inl rfl) (de_mut da_nil)) (dss_cons (ds_for PassesOwn.never rfl (di_seq (dv 1)) (dg_tp rfl (dgs_cons (dg_nm (i := 5) sc.nd rfl (Or.inl rfl)) (dgs_cons (dg_nm (i := 6) sc.nd rfl (Or.inr rfl)) dgs_nil))) (dss_one (ds_expr (dmAppend (dv 4) (da_cons (dcSum rfl T.z_sum (da_cons (de_comp rfl sc.nd (di_seq (dv 3)) (own := [("size", 7), ("target", 8)]) (blkOk_by (by kernel_rfl)) (by decide) (fun _ _ _ _ _ => (dg_tp rfl (dgs_cons (dg_nm (i := 7) sc.nd rfl (Or.inl rfl)) (dgs_cons (dg_nm (i := 8) sc.nd rfl (Or.inl rfl)) dgs_nil)))) (fun _ _ _ _ _ => (dts_one (dt_cmp opLt (de_op opMod (de_op opSub (dv 8) (dv 6)) (dv 0)) (dv 2) (by rfl)))) (fun _ _ _ _ _ => (dv 7))) da_nil)) da_nil))))) (dss_one (ds_ret (dcMax rfl hu2 T.z_max (da_cons (dv 4) da_nil)))))))))
theorem sc_width_of : FnScope ["m", "tools", "length", "tool"] ["m", "tools", "length"] (defScope s_width_of) := ⟨rfl, rfl, rfl, by decide +kernel, rfl, by decide +kernel, by decide +kernel⟩
theorem c_width_of (hK : g.K = K) (T : Txt K mg) (F : FunAt K mg "width_of" s_width_of ["m", "tools", "length"]) (h_tool_width : Cal P w K mg base g 2 3 "tool_width" f_tool_width) : Cal P w K mg base g 3 3 "width_of" f_width_of :=
  have sc := sc_width_of
  Cal.shut (Cal.trim (cal_of (k := 2) hK F sc fun f cdv A outer s H E hg hr =>
    have hu := hr.units
    have hu1 := unit1 hr
    have hu2 := unit65 hr
    (dss_one (ds_ret (dcMax rfl hu2 T.z_max (da_cons (de_comp rfl sc.nd (di_seq (dv 1)) (own := [("tool", 3)]) (blkOk_by (by kernel_rfl)) (by decide) (fun _ _ _ _ _ => (dg_nm (i := 3) sc.nd rfl (Or.inl rfl))) (fun _ _ _ _ _ => dts_nil) (fun _ _ _ _ _ => (dcall (h_tool_width.mono (by decide)) hg hr rfl (da_cons (dv 0) (da_cons (dv 3) (da_cons (dv 2) da_nil)))))) da_nil))))))
theorem sc_lengths_of : FnScope ["m", "tools", "goal", "found", "width"] ["m", "tools", "goal"] (defScope s_lengths_of) := ⟨rfl, rfl, rfl, by decide +kernel, rfl, by decide +kernel, by decide +kernel⟩
theorem c_lengths_of (hK : g.K = K) (T : Txt K mg) (F : FunAt K mg "lengths_of" s_lengths_of ["m", "tools", "goal"]) (h_width_of : Cal P w K mg base g 3 3 "width_of" f_width_of) : Cal P w K mg base g 4 3 "lengths_of" f_lengths_of :=
  have sc := sc_lengths_of
  Cal.shut (Cal.trim (cal_of (k := 3) hK F sc fun f cdv A outer s H E hg hr =>
    have hu := hr.units
    have hu1 := unit1 hr
    have hu2 := unit65 hr
    (dss_cons (ds_set (i := 3) sc.nd rfl (Or.inl rfl) (de_mut (da_cons (dv 2) da_nil))) (dss_cons (ds_set (i := 4) sc.nd rfl (Or.inl rfl) (dcall (h_width_of.mono (by decide)) hg hr rfl (da_cons (dv 0) (da_cons (dv 1) (da_cons (dv 2) da_nil))))) (dss_cons (ds_while 1000000 PassesOwn.never (dt_cmp opGt (dv 4) (dix hu1 (dv 3) (de_neg de_int)) (by rfl)) (dss_cons (ds_expr (dmAppend (dv 3) (da_cons (dv 4) da_nil))) (dss_one (ds_set (i := 4) sc.nd rfl (Or.inl rfl) (dcall (h_width_of.mono (by decide)) hg hr rfl (da_cons (dv 0) (da_cons (dv 1) (da_cons (dv 4) da_nil)))))))) (dss_one (ds_ret (dcTuple T.z_tuple (da_cons (dv 3) da_nil)))))))))
theorem sc_same : FnScope ["_law_value", "_law_due_here"] ["_law_value", "_law_due_here"] (defScope s_same) := ⟨rfl, rfl, rfl, by decide +kernel, rfl, by decide +kernel, by decide +kernel⟩
theorem c_same (hK : g.K = K) (T : Txt K mg) (F : FunAt K mg "_law_same" s_same ["_law_value", "_law_due_here"])  : Cal P w K mg base g 1 2 "_law_same" f_same :=
  have sc := sc_same
  Cal.shut (Cal.trim (cal_of (k := 0) hK F sc fun f cdv A outer s H E hg hr =>
    have hu := hr.units
    have hu1 := unit1 hr
    have hu2 := unit65 hr
    (dss_one (ds_ret (de_cmp (opEq hu) (dcRepr hg hu T.z_repr (da_cons (dv 0) da_nil)) (dcRepr hg hu T.z_repr (da_cons (dv 1) da_nil)) (by rfl))))))
theorem sc_law : FnScope ["_law_script", "_law_deck_here", "_law_turn", "_law_m", "_law_tools_here", "_law_goals", "_law_before", "_law_goal", "_law_due_here", "_law_found", "_law_again"] ["_law_script"] (defScope s_law) := ⟨rfl, rfl, rfl, by decide +kernel, rfl, by decide +kernel, by decide +kernel⟩
theorem c_law {f : Addr} {fd : FuncData} (hK : g.K = K) (T : Txt K mg) (F : Fun K "law" "law" s_law f fd) (h_deck : Cal P w K mg base g 1 1 "_law_deck" f_deck) (h_draw : Cal P w K mg base g 1 2 "_law_draw" f_draw) (h_tools : Cal P w K mg base g 4 2 "_law_tools" f_tools) (h_due : Cal P w K mg base g 3 3 "_law_due" f_due_3) (h_lengths_of : Cal P w K mg base g 4 3 "lengths_of" f_lengths_of) (h_same : Cal P w K mg base g 1 2 "_law_same" f_same) : FnG P w K mg base CX0 5 f fd ["_law_script"] (spD g f_law08 1) :=
  have sc := sc_law
  FnG.shut (FnG.trim (fun_okD (k := 4) hK F sc fun cdv A outer s H E hg hr =>
    have hu := hr.units
    have hu1 := unit1 hr
    have hu2 := unit65 hr
    (dss_cons (ds_set (i := 1) sc.nd rfl (Or.inl rfl) (dcall (h_deck.mono (by decide)) hg hr rfl (da_cons (dv 0) da_nil))) (dss_cons (ds_for PassesOwn.never rfl (di_rg1 rfl T.z_range (da_cons de_int da_nil)) (dg_nm (i := 2) sc.nd rfl (Or.inl rfl)) (dss_cons (ds_set (i := 3) sc.nd rfl (Or.inr rfl) (de_op opAdd de_int (dcall (h_draw.mono (by decide)) hg hr rfl (da_cons (dv 1) (da_cons (dix hu1 (de_lst (da_cons de_int (da_cons de_int (da_cons de_int da_nil)))) (de_op opMod (dv 2) de_int)) da_nil))))) (dss_cons (ds_set (i := 4) sc.nd rfl (Or.inr rfl) (dcall (h_tools.mono (by decide)) hg hr rfl (da_cons (dv 1) (da_cons (dv 3) da_nil)))) (dss_cons (ds_par (i := 5) (j := 6) rfl sc.nd rfl rfl (by decide) rfl rfl (da_cons (de_lst (da_cons de_int (da_cons (dv 3) (da_cons (de_op opAdd de_int (dcall (h_draw.mono (by decide)) hg hr rfl (da_cons (dv 1) (da_cons (dv 3) da_nil)))) da_nil)))) (da_cons (dcRepr hg hu T.z_repr (da_cons (dv 4) da_nil)) da_nil)) rfl) (dss_cons (ds_if (dt_cmp opLt (dv 3) de_int (by rfl)) (dss_one (ds_set (i := 5) sc.nd rfl (Or.inl rfl) (de_rgL2 rfl rfl T.z_list rfl T.z_range de_int (de_op opAdd (dv 3) de_int)))) dss_nil) (dss_one (ds_for PassesOwn.never rfl (di_seq (dv 5)) (dg_nm (i := 7) sc.nd rfl (Or.inr rfl)) (dss_cons (ds_set (i := 8) sc.nd rfl (Or.inl rfl) (dcall (h_due.mono (by decide)) hg hr rfl (da_cons (dv 3) (da_cons (dv 4) (da_cons (dv 7) da_nil))))) (dss_cons (ds_setLc (i := 9) rfl sc.nd rfl rfl rfl (di_rg1 rfl T.z_range (da_cons de_int da_nil)) (own := [("_law_again", 10)]) (blkOk_by (by kernel_rfl)) (by decide) (fun _ _ _ _ _ => (dg_nm (i := 10) sc.nd rfl (Or.inl rfl))) (fun _ _ _ _ _ => dts_nil) (fun _ _ _ _ _ => (dcall (h_lengths_of.mono (by decide)) hg hr rfl (da_cons (dv 3) (da_cons (dv 4) (da_cons (dv 7) da_nil)))))) (dss_one (ds_if (dt_w (dw_or (dt_not (dt_truth (dcall (h_same.mono (by decide)) hg hr rfl (da_cons (dv 9) (da_cons (de_lst (da_cons (dv 8) (da_cons (dv 8) da_nil))) da_nil))))) (dw_or1 (dt_cmp (opNe hu) (dcRepr hg hu T.z_repr (da_cons (dv 4) da_nil)) (dv 6) (by rfl))))) (dss_one (ds_ret de_bl)) dss_nil))))))))))) (dss_one (ds_ret de_bl))))))
end
theorem all_mk {l : PySem.W.OpenLaw} {w : World} {K : PySem.W.Frag} {h : Heap} {mg : Str → Option Value} {fa fl : Addr} {cl : Nat → Addr} (G : h.Ns mainGlobals mg) (X : K.In h) (hfa : mg "law" = some (.ref fa))
    {od an : Option Addr} {sl : Array (Option Value)} {oc kV dc pm cd ct : Value} (al : PySem.W.nsIn K mainGlobals "law" = some (some (.ref fl)))
    (ll : K.lookup fl = some ⟨oc, od, .func (PySem.W.fnOf "law" "law" (defArgs s_law) (defBody s_law) (defScope s_law) .none kV dc pm an cd ct), sl⟩) (c : PySem.W.codeIn K cd "law" = true) (k : PySem.W.keepIn K (.ref fl) = true) (T : Txt K mg)
    (F_deck : FunAt K mg "_law_deck" s_deck ["_law_script"])
    (F_draw : FunAt K mg "_law_draw" s_draw ["_law_deck_here", "_law_limit"])
    (F_distinct : FunAt K mg "_law_distinct" s_distinct ["_law_deck_here", "_law_m", "_law_many"])
    (F_tool : FunAt K mg "_law_tool" s_tool ["_law_deck_here", "_law_m"])
    (F_tools : FunAt K mg "_law_tools" s_tools ["_law_deck_here", "_law_m"])
    (F_target : FunAt K mg "_law_target" s_target ["_law_m", "_law_tool_here", "_law_place"])
    (F_width : FunAt K mg "_law_width" s_width ["_law_m", "_law_tools_here", "_law_length"])
    (F_due : FunAt K mg "_law_due" s_due ["_law_m", "_law_tools_here", "_law_goal"])
    (F_arc_sizes : FunAt K mg "arc_sizes" s_arc_sizes ["m", "tool"])
    (F_tool_width : FunAt K mg "tool_width" s_tool_width ["m", "tool", "length"])
    (F_width_of : FunAt K mg "width_of" s_width_of ["m", "tools", "length"])
    (F_lengths_of : FunAt K mg "lengths_of" s_lengths_of ["m", "tools", "goal"])
    (F_same : FunAt K mg "_law_same" s_same ["_law_value", "_law_due_here"])
    : ∃ fd : FuncData, (∀ (s : Shared) (v : Value), BindsTo s fd ⟨[v], []⟩ [("_law_script", v)]) ∧ ∀ base : Heap, K.In base → base.Ns mainGlobals mg → FnG l.prog w K mg base CX0 5 fa fd ["_law_script"] (spD ⟨K, cl⟩ f_law08 1) := by
  have e := hfa.symm.trans (PySem.W.mg_of X G al)
  cases e
  refine ⟨PySem.W.fnOf "law" "law" (defArgs s_law) (defBody s_law) (defScope s_law) .none kV dc pm an cd ct, fun s v => .of_eq rfl, fun base _ _ => ?_⟩
  have h_deck := c_deck (P := l.prog) (w := w) (base := base) (g := ⟨K, cl⟩) rfl T F_deck 
  have h_draw := c_draw (P := l.prog) (w := w) (base := base) (g := ⟨K, cl⟩) rfl T F_draw 
  have h_distinct := c_distinct (P := l.prog) (w := w) (base := base) (g := ⟨K, cl⟩) rfl T F_distinct h_draw
  have h_tool := c_tool (P := l.prog) (w := w) (base := base) (g := ⟨K, cl⟩) rfl T F_tool h_draw h_distinct
  have h_tools := c_tools (P := l.prog) (w := w) (base := base) (g := ⟨K, cl⟩) rfl T F_tools h_draw h_tool
  have h_target := c_target (P := l.prog) (w := w) (base := base) (g := ⟨K, cl⟩) rfl T F_target 
  have h_width := c_width (P := l.prog) (w := w) (base := base) (g := ⟨K, cl⟩) rfl T F_width h_target
  have h_due := c_due (P := l.prog) (w := w) (base := base) (g := ⟨K, cl⟩) rfl T F_due h_width
  have h_arc_sizes := c_arc_sizes (P := l.prog) (w := w) (base := base) (g := ⟨K, cl⟩) rfl T F_arc_sizes 
  have h_tool_width := c_tool_width (P := l.prog) (w := w) (base := base) (g := ⟨K, cl⟩) rfl T F_tool_width h_arc_sizes
  have h_width_of := c_width_of (P := l.prog) (w := w) (base := base) (g := ⟨K, cl⟩) rfl T F_width_of h_tool_width
  have h_lengths_of := c_lengths_of (P := l.prog) (w := w) (base := base) (g := ⟨K, cl⟩) rfl T F_lengths_of h_width_of
  have h_same := c_same (P := l.prog) (w := w) (base := base) (g := ⟨K, cl⟩) rfl T F_same 
  exact c_law rfl T (fun_mk (st := s_law) ll c k) h_deck h_draw h_tools h_due h_lengths_of h_same
end K08
end
open PySem PySem.W PyProof.Rows in
set_option maxRecDepth 100000 in
set_option maxHeartbeats 0 in
theorem PySem.Challenge.cw_blindpush_k08_lengths_of_goals_holds : PySem.Challenge.rw_blindpush_k08_lengths_of_goals.Holds := by
  w_on; o_law; k_head; (case hw => w_witness2)
  k_fill
  refine DL.walkG (l := PySem.Challenge.rw_blindpush_k08_lengths_of_goals) (cl := fun _ _ _ => 0) (k := 5) (x := "_law_script") (fx := QQ.f_law08) rfl rfl ⟨rfl, by decide, by decide⟩ (fun w h Y => PySem.W.kIn_of Y) ?F QQ.law08_holds
  case F =>
    intro w mg fa h KX G hmg
    refine' K08.all_mk G KX hmg ?al ?ll ?cc ?kk ⟨(PySem.W.mg_none_of KX G ?z_abs), (PySem.W.mg_none_of KX G ?z_dict), (PySem.W.mg_none_of KX G ?z_len), (PySem.W.mg_none_of KX G ?z_list), (PySem.W.mg_none_of KX G ?z_max), (PySem.W.mg_none_of KX G ?z_min), (PySem.W.mg_none_of KX G ?z_range), (PySem.W.mg_none_of KX G ?z_repr), (PySem.W.mg_none_of KX G ?z_sorted), (PySem.W.mg_none_of KX G ?z_sum), (PySem.W.mg_none_of KX G ?z_tuple), (PySem.W.mg_none_of KX G ?z_zip)⟩
      (DL.funAt_of (st := K08.s_deck) G KX ?a_deck ?l_deck ?c_deck ?k_deck (fun _ _ _ _ _ _ us hl => match us, hl with | [_], _ => rfl))
      (DL.funAt_of (st := K08.s_draw) G KX ?a_draw ?l_draw ?c_draw ?k_draw (fun _ _ _ _ _ _ us hl => match us, hl with | [_, _], _ => rfl))
      (DL.funAt_of (st := K08.s_distinct) G KX ?a_distinct ?l_distinct ?c_distinct ?k_distinct (fun _ _ _ _ _ _ us hl => match us, hl with | [_, _, _], _ => rfl))
      (DL.funAt_of (st := K08.s_tool) G KX ?a_tool ?l_tool ?c_tool ?k_tool (fun _ _ _ _ _ _ us hl => match us, hl with | [_, _], _ => rfl))
      (DL.funAt_of (st := K08.s_tools) G KX ?a_tools ?l_tools ?c_tools ?k_tools (fun _ _ _ _ _ _ us hl => match us, hl with | [_, _], _ => rfl))
      (DL.funAt_of (st := K08.s_target) G KX ?a_target ?l_target ?c_target ?k_target (fun _ _ _ _ _ _ us hl => match us, hl with | [_, _, _], _ => rfl))
      (DL.funAt_of (st := K08.s_width) G KX ?a_width ?l_width ?c_width ?k_width (fun _ _ _ _ _ _ us hl => match us, hl with | [_, _, _], _ => rfl))
      (DL.funAt_of (st := K08.s_due) G KX ?a_due ?l_due ?c_due ?k_due (fun _ _ _ _ _ _ us hl => match us, hl with | [_, _, _], _ => rfl))
      (DL.funAt_of (st := K08.s_arc_sizes) G KX ?a_arc_sizes ?l_arc_sizes ?c_arc_sizes ?k_arc_sizes (fun _ _ _ _ _ _ us hl => match us, hl with | [_, _], _ => rfl))
      (DL.funAt_of (st := K08.s_tool_width) G KX ?a_tool_width ?l_tool_width ?c_tool_width ?k_tool_width (fun _ _ _ _ _ _ us hl => match us, hl with | [_, _, _], _ => rfl))
      (DL.funAt_of (st := K08.s_width_of) G KX ?a_width_of ?l_width_of ?c_width_of ?k_width_of (fun _ _ _ _ _ _ us hl => match us, hl with | [_, _, _], _ => rfl))
      (DL.funAt_of (st := K08.s_lengths_of) G KX ?a_lengths_of ?l_lengths_of ?c_lengths_of ?k_lengths_of (fun _ _ _ _ _ _ us hl => match us, hl with | [_, _, _], _ => rfl))
      (DL.funAt_of (st := K08.s_same) G KX ?a_same ?l_same ?c_same ?k_same (fun _ _ _ _ _ _ us hl => match us, hl with | [_, _], _ => rfl))
    (case z_abs => k_is)
    (case z_dict => k_is)
    (case z_len => k_is)
    (case z_list => k_is)
    (case z_max => k_is)
    (case z_min => k_is)
    (case z_range => k_is)
    (case z_repr => k_is)
    (case z_sorted => k_is)
    (case z_sum => k_is)
    (case z_tuple => k_is)
    (case z_zip => k_is)
    (case al => k_is)
    (case ll => k_is)
    (case cc => k_is)
    (case kk => k_is)
    (case a_deck => k_is)
    (case l_deck => k_is)
    (case c_deck => k_is)
    (case k_deck => k_is)
    (case a_draw => k_is)
    (case l_draw => k_is)
    (case c_draw => k_is)
    (case k_draw => k_is)
    (case a_distinct => k_is)
    (case l_distinct => k_is)
    (case c_distinct => k_is)
    (case k_distinct => k_is)
    (case a_tool => k_is)
    (case l_tool => k_is)
    (case c_tool => k_is)
    (case k_tool => k_is)
    (case a_tools => k_is)
    (case l_tools => k_is)
    (case c_tools => k_is)
    (case k_tools => k_is)
    (case a_target => k_is)
    (case l_target => k_is)
    (case c_target => k_is)
    (case k_target => k_is)
    (case a_width => k_is)
    (case l_width => k_is)
    (case c_width => k_is)
    (case k_width => k_is)
    (case a_due => k_is)
    (case l_due => k_is)
    (case c_due => k_is)
    (case k_due => k_is)
    (case a_arc_sizes => k_is)
    (case l_arc_sizes => k_is)
    (case c_arc_sizes => k_is)
    (case k_arc_sizes => k_is)
    (case a_tool_width => k_is)
    (case l_tool_width => k_is)
    (case c_tool_width => k_is)
    (case k_tool_width => k_is)
    (case a_width_of => k_is)
    (case l_width_of => k_is)
    (case c_width_of => k_is)
    (case k_width_of => k_is)
    (case a_lengths_of => k_is)
    (case l_lengths_of => k_is)
    (case c_lengths_of => k_is)
    (case k_lengths_of => k_is)
    (case a_same => k_is)
    (case l_same => k_is)
    (case c_same => k_is)
    (case k_same => k_is)
