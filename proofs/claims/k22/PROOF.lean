import PyProof.Rows.All
import Wide.All
import OpenK.AllK
import Wide.FinOn
import HandS.Base
import HandS.Call
import HandS.Exc
import HandS.List
import HandS.Comp
import HandS.Ends
import HandS.Dict
import HandS.Iter
import HandS.Text
import HandS.Words
import HandS.WordsList
import HandS.Wide
import HandS.Deep
import HandS.IsInst
import HandS.Style
import HandS.Defaults
import HandS.Star
import HandS.ClsMeth
import HandS.Property
import HandS.MakeKw
import HandS.MakeKwOnly
import HandS.RaiseMore
import HandS.Flow
import HandS.Zip
import PyProof.ReprRoads
import HandS.OwnEq
import HandS.FStr
import KE.GoesEnum
import HandS.WideBits
import HandS.TryMany
import HandS.TryOnly
import KE.KExcPX
import KE.KExcIs
import KE.KOpsOwn
import HandS.HotCalls
import HandS.SetFor
import HandS.Strs
import HandS.SortInts
import PyProof.FitsInt
import PyProof.Rows.RegStrFacts
import PyProof.Rows.ReprOcc
import OpenK.KCls
import HandS.Head0
import HandS.Head1
import HandS.Head2
import HandS.HeadHook1
import HandS.HeadHook2
import PySem.Challenge.RW_copyways_k22_ways_of_many_copies_counted
set_option Elab.async false
set_option linter.all false
set_option maxRecDepth 100000
set_option maxHeartbeats 4000000
namespace PV
open PySem PySem.Spec PyProof.Rows L2

/-! ### data -/
/-- a value without addresses: frozen lists, tuples and instances are data; ref: a mutable object, by its number; cl: a class of the text, by its number; ty: a built-in type -/
inductive D where
  | non | bl (b : Bool) | int (i : Int) | str (x : Str)
  | tup (xs : List D) | lst (xs : List D) | arg (xs : List D) | argT (xs : List D)
  | dic (kvs : List (Key × D))
  | ins (c : Nat) (fs : List (Str × D))
  | ref (i : Nat)
  | cl (c : Nat)
  | ty (n : String)
  | exn (c : Nat)

/-- a mutable object -/
inductive Cell where
  | lst (xs : List D)
  | ins (c : Nat) (fs : List (Str × D))
  | dead

/-- an exception of class C stands at a, it has no dict of its own -/
def exPhi (C a : Addr) : Heap → Prop := fun h => ∃ o vs, h.get? a = some o ∧ o.cls = .ref C ∧ o.dict = none ∧ o.data = .fields vs
/-- what is known of addresses: the frozen objects, the cells' places, what is pinned (a list that is being made) -/
structure Wd where
  G : Hp
  r : List Addr
  pn : List (Addr × HO)

structure Wd.le (A B : Wd) : Prop where
  g : ∀ a o, A.G a = some o → B.G a = some o
  r : ∀ (i : Nat) (a : Addr), A.r[i]? = some a → B.r[i]? = some a
  p : B.pn = A.pn
theorem Wd.le.refl (A : Wd) : A.le A := ⟨fun _ _ h => h, fun _ _ h => h, rfl⟩
theorem Wd.le.trans {A B C : Wd} (x : A.le B) (y : B.le C) : A.le C := ⟨fun a o h => y.g a o (x.g a o h), fun i a h => y.r i a (x.r i a h), y.p.trans x.p⟩

section
variable (K : PySem.W.Frag) (cm : Nat → Addr) (W : Wd)
mutual
inductive Rp : D → V → Prop
  | non : Rp .non .non
  | bl (b : Bool) : Rp (.bl b) (.bl b)
  | int (i : Int) : Rp (.int i) (.int i)
  | str (x : Str) : Rp (.str x) (.str x)
  | tup {ds : List D} {a : Addr} {xs : List V} : W.G a = some (.tup xs) → Rps ds xs → Rp (.tup ds) (.ref a)
  | lst {ds : List D} {a : Addr} {xs : List V} : W.G a = some (.lst xs) → Rps ds xs → Rp (.lst ds) (.ref a)
  | arg {ds : List D} {a : Addr} {xs : List V} : SqL K W.G a xs → Rps ds xs → Rp (.arg ds) (.ref a)
  | argT {ds : List D} {a : Addr} {xs : List V} : SqT K W.G a xs → Rps ds xs → Rp (.argT ds) (.ref a)
  | dic {ds : List (Key × D)} {a : Addr} {xs : List (Key × V)} : W.G a = some (.dK xs) → Rpk ds xs → Rp (.dic ds) (.ref a)
  | ins {c : Nat} {fs : List (Str × D)} {a dx : Addr} {vs : List (Str × V)} : W.G a = some (.ins (cm c) dx vs) → Rpf fs vs → Rp (.ins c fs) (.ref a)
  | ref {i : Nat} {a : Addr} : W.r[i]? = some a → Rp (.ref i) (.ref a)
  | cl (c : Nat) : Rp (.cl c) (.ref (cm c))
  | ty (n : String) : Rp (.ty n) (.ty n)
  | exn {c : Nat} {a : Addr} : W.G a = some (.ext (exPhi (cm c) a)) → Rp (.exn c) (.ref a)
inductive Rps : List D → List V → Prop
  | nil : Rps [] []
  | cons {d : D} {v : V} {ds : List D} {vs : List V} : Rp d v → Rps ds vs → Rps (d :: ds) (v :: vs)
inductive Rpf : List (Str × D) → List (Str × V) → Prop
  | nil : Rpf [] []
  | cons {k : Str} {d : D} {v : V} {ds : List (Str × D)} {vs : List (Str × V)} : Rp d v → Rpf ds vs → Rpf ((k, d) :: ds) ((k, v) :: vs)
inductive Rpk : List (Key × D) → List (Key × V) → Prop
  | nil : Rpk [] []
  | cons {k : Key} {d : D} {v : V} {ds : List (Key × D)} {vs : List (Key × V)} : Rp d v → Rpk ds vs → Rpk ((k, d) :: ds) ((k, v) :: vs)
end
end

section
variable {K : PySem.W.Frag} {cm : Nat → Addr} {W W' : Wd} {H H' : Hp}
theorem rd_le {G G' : Hp} (g : ∀ a o, G a = some o → G' a = some o) {a : Addr} {u : HO} (h : Rd G a u) : Rd G' a u := by
  rcases h with h | ⟨o, h⟩
  · exact .inl (g _ _ h)
  · exact .inr ⟨o, g _ _ h⟩
theorem sqL_le {G G' : Hp} (g : ∀ a o, G a = some o → G' a = some o) {a : Addr} {xs : List V} (h : SqL K G a xs) : SqL K G' a xs := by
  rcases h with h | h
  · exact .inl (rd_le g h)
  · exact .inr h
theorem sqT_le {G G' : Hp} (g : ∀ a o, G a = some o → G' a = some o) {a : Addr} {xs : List V} (h : SqT K G a xs) : SqT K G' a xs := by
  rcases h with h | h
  · exact .inl (rd_le g h)
  · exact .inr h
mutual
theorem Rp.up' (lg : ∀ a o, W.G a = some o → W'.G a = some o) (lr : ∀ (i : Nat) (a : Addr), W.r[i]? = some a → W'.r[i]? = some a) : ∀ {d : D} {v : V}, Rp K cm W d v → Rp K cm W' d v
  | _, _, .non => .non
  | _, _, .bl b => .bl b
  | _, _, .int b => .int b
  | _, _, .str b => .str b
  | _, _, .tup h r => .tup (lg _ _ h) (Rps.up' lg lr r)
  | _, _, .argT h r => .argT (sqT_le lg h) (Rps.up' lg lr r)
  | _, _, .lst h r => .lst (lg _ _ h) (Rps.up' lg lr r)
  | _, _, .arg h r => .arg (sqL_le lg h) (Rps.up' lg lr r)
  | _, _, .dic h r => .dic (lg _ _ h) (Rpk.up' lg lr r)
  | _, _, .ins h r => .ins (lg _ _ h) (Rpf.up' lg lr r)
  | _, _, .ref h => .ref (lr _ _ h)
  | _, _, .cl c => .cl c
  | _, _, .ty c => .ty c
  | _, _, .exn h => .exn (lg _ _ h)
theorem Rps.up' (lg : ∀ a o, W.G a = some o → W'.G a = some o) (lr : ∀ (i : Nat) (a : Addr), W.r[i]? = some a → W'.r[i]? = some a) : ∀ {d : List D} {v : List V}, Rps K cm W d v → Rps K cm W' d v
  | _, _, .nil => .nil
  | _, _, .cons h r => .cons (Rp.up' lg lr h) (Rps.up' lg lr r)
theorem Rpf.up' (lg : ∀ a o, W.G a = some o → W'.G a = some o) (lr : ∀ (i : Nat) (a : Addr), W.r[i]? = some a → W'.r[i]? = some a) : ∀ {d : List (Str × D)} {v : List (Str × V)}, Rpf K cm W d v → Rpf K cm W' d v
  | _, _, .nil => .nil
  | _, _, .cons h r => .cons (Rp.up' lg lr h) (Rpf.up' lg lr r)
theorem Rpk.up' (lg : ∀ a o, W.G a = some o → W'.G a = some o) (lr : ∀ (i : Nat) (a : Addr), W.r[i]? = some a → W'.r[i]? = some a) : ∀ {d : List (Key × D)} {v : List (Key × V)}, Rpk K cm W d v → Rpk K cm W' d v
  | _, _, .nil => .nil
  | _, _, .cons h r => .cons (Rp.up' lg lr h) (Rpk.up' lg lr r)
end

theorem Rp.up (le : W.le W') {d : D} {v : V} (h : Rp K cm W d v) : Rp K cm W' d v := h.up' le.g le.r
theorem Rps.up (le : W.le W') {d : List D} {v : List V} (h : Rps K cm W d v) : Rps K cm W' d v := h.up' le.g le.r
theorem Rpf.up (le : W.le W') {d : List (Str × D)} {v : List (Str × V)} (h : Rpf K cm W d v) : Rpf K cm W' d v := h.up' le.g le.r
theorem Rpk.up (le : W.le W') {d : List (Key × D)} {v : List (Key × V)} (h : Rpk K cm W d v) : Rpk K cm W' d v := h.up' le.g le.r

theorem Rps.length : ∀ {ds : List D} {vs : List V}, Rps K cm W ds vs → ds.length = vs.length
  | _, _, .nil => rfl
  | _, _, .cons _ t => by simp [Rps.length t]
theorem Rps.get : ∀ {ds : List D} {vs : List V} {i : Nat} {d : D}, Rps K cm W ds vs → ds[i]? = some d → ∃ v, vs[i]? = some v ∧ Rp K cm W d v
  | _, _, i, _, .nil, e => by simp at e
  | _, _, 0, _, .cons h _, e => by simp at e; subst e; exact ⟨_, rfl, h⟩
  | _, _, i + 1, d, .cons _ t, e => by
    obtain ⟨v, h1, h2⟩ := Rps.get (i := i) (d := d) t (by simpa using e)
    exact ⟨v, by simpa using h1, h2⟩
theorem Rps.get' : ∀ {ds : List D} {vs : List V} {i : Nat} {v : V}, Rps K cm W ds vs → vs[i]? = some v → ∃ d, ds[i]? = some d ∧ Rp K cm W d v
  | _, _, i, _, .nil, e => by simp at e
  | _, _, 0, _, .cons h _, e => by simp at e; subst e; exact ⟨_, rfl, h⟩
  | _, _, i + 1, d, .cons _ t, e => by
    obtain ⟨v, h1, h2⟩ := Rps.get' (i := i) (v := d) t (by simpa using e)
    exact ⟨v, by simpa using h1, h2⟩
theorem Rps.app : ∀ {ds es : List D} {vs us : List V}, Rps K cm W ds vs → Rps K cm W es us → Rps K cm W (ds ++ es) (vs ++ us)
  | _, _, _, _, .nil, s => s
  | _, _, _, _, .cons h t, s => .cons h (Rps.app t s)
theorem Rps.set {d : D} {v : V} (r : Rp K cm W d v) : ∀ {ds : List D} {vs : List V} (i : Nat), Rps K cm W ds vs → Rps K cm W (ds.set i d) (vs.set i v)
  | _, _, _, .nil => .nil
  | _, _, 0, .cons _ t => .cons r t
  | _, _, i + 1, .cons q t => .cons q (Rps.set r i t)
theorem Rps.take : ∀ {ds : List D} {vs : List V} (n : Nat), Rps K cm W ds vs → Rps K cm W (ds.take n) (vs.take n)
  | _, _, 0, _ => by simp; exact .nil
  | _, _, _ + 1, .nil => .nil
  | _, _, n + 1, .cons r t => .cons r (Rps.take n t)
theorem Rps.drop : ∀ {ds : List D} {vs : List V} (n : Nat), Rps K cm W ds vs → Rps K cm W (ds.drop n) (vs.drop n)
  | _, _, 0, r => r
  | _, _, _ + 1, .nil => .nil
  | _, _, n + 1, .cons _ t => Rps.drop n t
theorem Rps.rev : ∀ {ds : List D} {vs : List V}, Rps K cm W ds vs → Rps K cm W ds.reverse vs.reverse
  | _, _, .nil => .nil
  | _, _, .cons h t => by
    rw [List.reverse_cons, List.reverse_cons]
    exact (Rps.rev t).app (.cons h .nil)
theorem Rps.dropLast {ds : List D} {vs : List V} (h : Rps K cm W ds vs) : Rps K cm W ds.dropLast vs.dropLast := by
  rw [List.dropLast_eq_take, List.dropLast_eq_take, h.length]
  exact h.take _
theorem Rps.ints : ∀ {ns : List Int} {vs : List V}, Rps K cm W (ns.map D.int) vs → vs = ns.map V.int
  | [], _, .nil => rfl
  | n :: ns, _, .cons h t => by
    cases h
    rw [Rps.ints t]; rfl
theorem Rps.bls : ∀ {ns : List Bool} {vs : List V}, Rps K cm W (ns.map D.bl) vs → vs = ns.map V.bl
  | [], _, .nil => rfl
  | n :: ns, _, .cons h t => by
    cases h
    rw [Rps.bls t]; rfl
theorem Rps.strs : ∀ {ns : List Str} {vs : List V}, Rps K cm W (ns.map D.str) vs → vs = ns.map V.str
  | [], _, .nil => rfl
  | n :: ns, _, .cons h t => by
    cases h
    rw [Rps.strs t]; rfl
theorem Rpf.look : ∀ {ds : List (Str × D)} {vs : List (Str × V)} {f : Str} {d : D}, Rpf K cm W ds vs → ds.lookup f = some d → ∃ v, vs.lookup f = some v ∧ Rp K cm W d v
  | _, _, _, _, .nil, e => by simp at e
  | (k, x) :: ds, (_, v) :: vs, f, d, .cons h t, e => by
    rw [List.lookup_cons] at e
    rw [List.lookup_cons]
    cases q : (f == k) with
    | true => rw [q] at e; simp at e; subst e; exact ⟨v, rfl, h⟩
    | false => rw [q] at e; exact Rpf.look t e
theorem Rpf.look_none : ∀ {ds : List (Str × D)} {vs : List (Str × V)} {f : Str}, Rpf K cm W ds vs → ds.lookup f = none → vs.lookup f = none
  | _, _, _, .nil, _ => rfl
  | (k, x) :: ds, (_, v) :: vs, f, .cons h t, e => by
    rw [List.lookup_cons] at e
    rw [List.lookup_cons]
    cases q : (f == k) with
    | true => rw [q] at e; simp at e
    | false => rw [q] at e; exact Rpf.look_none t e
theorem Rpf.length : ∀ {ds : List (Str × D)} {vs : List (Str × V)}, Rpf K cm W ds vs → ds.length = vs.length
  | _, _, .nil => rfl
  | _, _, .cons _ t => by simp [Rpf.length t]
theorem Rpk.length : ∀ {ds : List (Key × D)} {vs : List (Key × V)}, Rpk K cm W ds vs → ds.length = vs.length
  | _, _, .nil => rfl
  | _, _, .cons _ t => by simp [Rpk.length t]

/-- a field put -/
def putD (f : Str) (d : D) : List (Str × D) → List (Str × D)
  | [] => [(f, d)]
  | (k, x) :: r => if k = f then (k, d) :: r else (k, x) :: putD f d r
theorem Rpf.put {f : Str} {d : D} {v : V} (h : Rp K cm W d v) : ∀ {ds : List (Str × D)} {vs : List (Str × V)}, Rpf K cm W ds vs → Rpf K cm W (putD f d ds) (putF f v vs)
  | _, _, .nil => .cons h .nil
  | (k, x) :: ds, (_, y) :: vs, .cons q t => by
    show Rpf K cm W (if k = f then (k, d) :: ds else (k, x) :: putD f d ds) (if k = f then (k, v) :: vs else (k, y) :: putF f v vs)
    by_cases e : k = f
    · rw [if_pos e, if_pos e]; exact .cons h t
    · rw [if_neg e, if_neg e]; exact .cons q (Rpf.put h t)

/-! ### cells against the heap -/
variable (K cm W) in
def CellAt (g : Option HO) (c : Cell) (o : Option HO) : Prop := match c with
  | .lst ds => g = none ∧ ∃ xs, o = some (.lst xs) ∧ Rps K cm W ds xs
  | .ins c fs => g = none ∧ ∃ dx vs, o = some (.ins (cm c) dx vs) ∧ Rpf K cm W fs vs
  | .dead => True
theorem CellAt.up' (lg : ∀ a o, W.G a = some o → W'.G a = some o) (lr : ∀ (i : Nat) (a : Addr), W.r[i]? = some a → W'.r[i]? = some a) {g : Option HO} {c : Cell} {o : Option HO} (h : CellAt K cm W g c o) : CellAt K cm W' g c o := by
  cases c with
  | lst ds => obtain ⟨a, xs, e, r⟩ := h; exact ⟨a, xs, e, r.up' lg lr⟩
  | ins c fs => obtain ⟨a, dx, vs, e, r⟩ := h; exact ⟨a, dx, vs, e, r.up' lg lr⟩
  | dead => trivial
theorem CellAt.up (le : W.le W') {g : Option HO} {c : Cell} {o : Option HO} (h : CellAt K cm W g c o) : CellAt K cm W' g c o := h.up' le.g le.r

variable (K cm) in
structure Rel (W : Wd) (cs : List Cell) (H : Hp) : Prop where
  sub : ∀ a o, W.G a = some o → H a = some o
  len : W.r.length = cs.length
  nd : W.r.Nodup
  ex : ∀ a, a ∈ W.r → ∃ o, H a = some o
  cel : ∀ (i : Nat) (a : Addr) (c : Cell), W.r[i]? = some a → cs[i]? = some c → CellAt K cm W (W.G a) c (H a)
  pin : ∀ p, p ∈ W.pn → H p.1 = some p.2 ∧ W.G p.1 = none ∧ p.1 ∉ W.r

/-- something untracked is laid at a free place -/
theorem Rel.junk {cs : List Cell} (R : Rel K cm W cs H) {p : Addr} {o : HO} (hp : H p = none) : Rel K cm W cs (upd H p o) := by
  have ne : ∀ a u, H a = some u → a ≠ p := fun a u e => ne_of_none e hp
  refine ⟨fun a u e => ?_, R.len, R.nd, fun a h => ?_, fun i a c h1 h2 => ?_, fun q hq => ?_⟩
  · have := R.sub a u e
    rw [upd_ne (ne a u this)]; exact this
  · obtain ⟨u, e⟩ := R.ex a h
    exact ⟨u, by rw [upd_ne (ne a u e)]; exact e⟩
  · obtain ⟨u, e⟩ := R.ex a (List.mem_of_getElem? h1)
    rw [upd_ne (ne a u e)]; exact R.cel i a c h1 h2
  · obtain ⟨e1, e2, e3⟩ := R.pin q hq
    exact ⟨by rw [upd_ne (ne _ _ e1)]; exact e1, e2, e3⟩
theorem le_upd {W : Wd} {p : Addr} {o : HO} (hp : W.G p = none) : W.le ⟨upd W.G p o, W.r, W.pn⟩ := ⟨fun a u e => by
  show upd W.G p o a = some u
  rw [upd_ne (ne_of_none e hp)]; exact e, fun _ _ h => h, rfl⟩
theorem Rel.gfree {cs : List Cell} (R : Rel K cm W cs H) {p : Addr} (hp : H p = none) : W.G p = none := by
  cases e : W.G p with
  | none => rfl
  | some o => have := R.sub p o e; rw [hp] at this; cases this
/-- a frozen object is laid at a free place -/
theorem Rel.newG {cs : List Cell} (R : Rel K cm W cs H) {p : Addr} (o : HO) (hp : H p = none) : W.le ⟨upd W.G p o, W.r, W.pn⟩ ∧ Rel K cm ⟨upd W.G p o, W.r, W.pn⟩ cs (upd H p o) := by
  have gp := R.gfree hp
  have le : W.le ⟨upd W.G p o, W.r, W.pn⟩ := le_upd gp
  have R2 := R.junk (o := o) hp
  refine ⟨le, ⟨fun a u e => ?_, R2.len, R2.nd, R2.ex, fun i a c h1 h2 => ?_, fun q hq => ?_⟩⟩
  · by_cases q : a = p
    · subst q
      have e' : upd W.G a o a = some u := e
      rw [upd_same] at e' ⊢; exact e'
    · have e' : upd W.G p o a = some u := e
      rw [upd_ne q] at e'
      exact R2.sub a u e'
  · have h1' : W.r[i]? = some a := h1
    obtain ⟨u, e⟩ := R.ex a (List.mem_of_getElem? h1')
    have q : a ≠ p := ne_of_none e hp
    show CellAt K cm _ (upd W.G p o a) c _
    rw [upd_ne q]
    exact (R2.cel i a c h1' h2).up le
  · have hq' : q ∈ W.pn := hq
    obtain ⟨e1, e2, e3⟩ := R2.pin q hq'
    refine ⟨e1, ?_, e3⟩
    show upd W.G p o q.1 = none
    rw [upd_ne (ne_of_none (R.pin q hq').1 hp)]; exact e2
/-- a new cell is laid at a free place -/
theorem Rel.newC {cs : List Cell} (R : Rel K cm W cs H) {p : Addr} {c : Cell} {o : HO} (hp : H p = none) (hc : CellAt K cm W none c (some o)) : W.le ⟨W.G, W.r ++ [p], W.pn⟩ ∧ Rel K cm ⟨W.G, W.r ++ [p], W.pn⟩ (cs ++ [c]) (upd H p o) ∧ (W.r ++ [p])[cs.length]? = some p := by
  have gp := R.gfree hp
  have le : W.le ⟨W.G, W.r ++ [p], W.pn⟩ := ⟨fun _ _ h => h, fun i a h => by
    show (W.r ++ [p])[i]? = some a
    rw [List.getElem?_append_left (List.getElem?_eq_some_iff.mp h).1]; exact h, rfl⟩
  have R2 := R.junk (o := o) hp
  refine ⟨le, ⟨R2.sub, ?_, ?_, fun a h => ?_, fun i a c' h1 h2 => ?_, fun q hq => ?_⟩, ?_⟩
  · show (W.r ++ [p]).length = _
    rw [List.length_append, List.length_append, R.len]; rfl
  · show (W.r ++ [p]).Nodup
    rw [List.nodup_append]
    refine ⟨R.nd, by simp, fun a ha b hb => ?_⟩
    obtain ⟨u, e⟩ := R.ex a ha
    have : b = p := by simpa using hb
    rw [this]; exact ne_of_none e hp
  · have h' : a ∈ W.r ++ [p] := h
    rcases List.mem_append.mp h' with z | z
    · exact R2.ex a z
    · have : a = p := by simpa using z
      rw [this]; exact ⟨o, upd_same⟩
  · have h1' : (W.r ++ [p])[i]? = some a := h1
    by_cases hi : i < W.r.length
    · rw [List.getElem?_append_left hi] at h1'
      rw [List.getElem?_append_left (by rw [← R.len]; exact hi)] at h2
      exact (R2.cel i a c' h1' h2).up le
    · have hi' : i = W.r.length := by
        have := (List.getElem?_eq_some_iff.mp h1').1
        rw [List.length_append] at this
        simp at this; omega
      subst hi'
      rw [List.getElem?_append_right (Nat.le_refl _)] at h1'
      rw [R.len, List.getElem?_append_right (Nat.le_refl _)] at h2
      simp at h1' h2
      subst h1' h2
      show CellAt K cm _ (W.G p) c _
      rw [gp, upd_same]
      exact hc.up le
  · have hq' : q ∈ W.pn := hq
    obtain ⟨e1, e2, e3⟩ := R2.pin q hq'
    refine ⟨e1, e2, ?_⟩
    show q.1 ∉ W.r ++ [p]
    intro z
    rcases List.mem_append.mp z with z | z
    · exact e3 z
    · exact ne_of_none (R.pin q hq').1 hp (by simpa using z)
  · rw [← R.len, List.getElem?_append_right (Nat.le_refl _)]; simp
/-- a cell is written -/
theorem Rel.setC {cs : List Cell} (R : Rel K cm W cs H) {i : Nat} {a : Addr} {c c' : Cell} {o : HO} (hi : W.r[i]? = some a) (hc : cs[i]? = some c) (hd : c ≠ .dead) (hc' : CellAt K cm W none c' (some o)) : W.G a = none ∧ Rel K cm W (cs.set i c') (upd H a o) := by
  have g0 : W.G a = none := by
    have := R.cel i a c hi hc
    cases c with
    | lst ds => exact this.1
    | ins c fs => exact this.1
    | dead => exact absurd rfl hd
  have ne : ∀ b u, W.G b = some u → b ≠ a := fun b u e z => by rw [z, g0] at e; cases e
  refine ⟨g0, ⟨fun b u e => ?_, ?_, R.nd, fun b h => ?_, fun j b c2 h1 h2 => ?_, fun q hq => ?_⟩⟩
  · rw [upd_ne (ne b u e)]; exact R.sub b u e
  · rw [List.length_set]; exact R.len
  · by_cases q : b = a
    · rw [q]; exact ⟨o, upd_same⟩
    · rw [upd_ne q]; exact R.ex b h
  · by_cases q : j = i
    · subst q
      have lt : j < cs.length := (List.getElem?_eq_some_iff.mp hc).1
      rw [List.getElem?_set_self lt] at h2
      cases h2
      rw [hi] at h1; cases h1
      rw [g0, upd_same]; exact hc'
    · rw [List.getElem?_set_ne (Ne.symm q)] at h2
      have nb : b ≠ a := fun z => by
        subst z
        obtain ⟨l1, e1⟩ := List.getElem?_eq_some_iff.mp h1
        obtain ⟨l2, e2⟩ := List.getElem?_eq_some_iff.mp hi
        exact q ((List.getElem_inj R.nd).mp (e1.trans e2.symm))
      rw [upd_ne nb]; exact R.cel j b c2 h1 h2
  · obtain ⟨e1, e2, e3⟩ := R.pin q hq
    exact ⟨by rw [upd_ne fun z => e3 (by rw [z]; exact List.mem_of_getElem? hi)]; exact e1, e2, e3⟩
/-- a cell is frozen -/
theorem Rel.frz {cs : List Cell} (R : Rel K cm W cs H) {i : Nat} {a : Addr} {c : Cell} {o : HO} (hi : W.r[i]? = some a) (hc : cs[i]? = some c) (hd : c ≠ .dead) (ho : H a = some o) : W.le ⟨upd W.G a o, W.r, W.pn⟩ ∧ Rel K cm ⟨upd W.G a o, W.r, W.pn⟩ (cs.set i .dead) H := by
  have g0 : W.G a = none := by
    have := R.cel i a c hi hc
    cases c with
    | lst ds => exact this.1
    | ins c fs => exact this.1
    | dead => exact absurd rfl hd
  have le : W.le ⟨upd W.G a o, W.r, W.pn⟩ := le_upd g0
  refine ⟨le, ⟨fun b u e => ?_, ?_, R.nd, R.ex, fun j b c2 h1 h2 => ?_, fun q hq => ?_⟩⟩
  · have e' : upd W.G a o b = some u := e
    by_cases q : b = a
    · subst q
      rw [upd_same] at e'; rw [ho]; exact e'
    · rw [upd_ne q] at e'; exact R.sub b u e'
  · rw [List.length_set]; exact R.len
  · have h1' : W.r[j]? = some b := h1
    by_cases q : j = i
    · subst q
      have lt : j < cs.length := (List.getElem?_eq_some_iff.mp hc).1
      rw [List.getElem?_set_self lt] at h2
      cases h2
      trivial
    · rw [List.getElem?_set_ne (Ne.symm q)] at h2
      have nb : b ≠ a := fun z => by
        subst z
        obtain ⟨l1, e1⟩ := List.getElem?_eq_some_iff.mp h1'
        obtain ⟨l2, e2⟩ := List.getElem?_eq_some_iff.mp hi
        exact q ((List.getElem_inj R.nd).mp (e1.trans e2.symm))
      show CellAt K cm _ (upd W.G a o b) c2 _
      rw [upd_ne nb]
      exact (R.cel j b c2 h1' h2).up le
  · have hq' : q ∈ W.pn := hq
    obtain ⟨e1, e2, e3⟩ := R.pin q hq'
    refine ⟨e1, ?_, e3⟩
    show upd W.G a o q.1 = none
    rw [upd_ne fun z => e3 (by rw [z]; exact List.mem_of_getElem? hi)]; exact e2
end

section
variable {K : PySem.W.Frag} {cm : Nat → Addr} {W : Wd} {H : Hp} {cs : List Cell}
/-- W with a pin more -/
def Wd.pinned (W : Wd) (a : Addr) (o : HO) : Wd := ⟨W.G, W.r, (a, o) :: W.pn⟩
theorem Rel.pinUp (R : Rel K cm W cs H) {a : Addr} {o : HO} (ha : H a = none) : Rel K cm (W.pinned a o) cs (upd H a o) := by
  have R2 := R.junk (o := o) ha
  refine ⟨R2.sub, R2.len, R2.nd, R2.ex, fun i b c h1 h2 => CellAt.up' (W := W) (W' := W.pinned a o) (fun _ _ h => h) (fun _ _ h => h) (R2.cel i b c h1 h2), fun q hq => ?_⟩
  rcases List.mem_cons.mp (show q ∈ (a, o) :: W.pn from hq) with e | e
  · subst e
    exact ⟨upd_same, R.gfree ha, fun z => by
      obtain ⟨u, e⟩ := R.ex _ z
      rw [ha] at e; cases e⟩
  · exact R2.pin q e
theorem Rel.pinSet {a : Addr} {o o' : HO} (hn : ∀ p ∈ W.pn, p.1 ≠ a) (R : Rel K cm (W.pinned a o) cs H) : Rel K cm (W.pinned a o') cs (upd H a o') := by
  obtain ⟨e1, e2, e3⟩ := R.pin (a, o) (List.mem_cons_self)
  have e2' : W.G a = none := e2
  have e3' : a ∉ W.r := e3
  refine ⟨fun b u e => ?_, R.len, R.nd, fun b h => ?_, fun i b c h1 h2 => ?_, fun q hq => ?_⟩
  · have e' : W.G b = some u := e
    rw [upd_ne (ne_of_none e' e2')]; exact R.sub b u e
  · have h' : b ∈ W.r := h
    rw [upd_ne fun z => e3' (by rw [← z]; exact h')]; exact R.ex b h
  · have h1' : W.r[i]? = some b := h1
    rw [upd_ne fun z => e3' (by rw [← z]; exact List.mem_of_getElem? h1')]
    exact CellAt.up' (W := W.pinned a o) (W' := W.pinned a o') (fun _ _ h => h) (fun _ _ h => h) (R.cel i b c h1 h2)
  · rcases List.mem_cons.mp (show q ∈ (a, o') :: W.pn from hq) with e | e
    · subst e
      exact ⟨upd_same, e2, e3⟩
    · obtain ⟨x1, x2, x3⟩ := R.pin q (List.mem_cons_of_mem _ e)
      exact ⟨by rw [upd_ne (hn q e)]; exact x1, x2, x3⟩
theorem Rel.unpin {a : Addr} {o : HO} (R : Rel K cm (W.pinned a o) cs H) : Rel K cm W cs H :=
  ⟨R.sub, R.len, R.nd, R.ex, fun i b c h1 h2 => CellAt.up' (W := W.pinned a o) (W' := W) (fun _ _ h => h) (fun _ _ h => h) (R.cel i b c h1 h2), fun q hq => R.pin q (List.mem_cons_of_mem _ hq)⟩
/-- what was pinned is frozen -/
theorem Rel.pinG {a : Addr} {o : HO} (hn : ∀ p ∈ W.pn, p.1 ≠ a) (R : Rel K cm (W.pinned a o) cs H) : W.le ⟨upd W.G a o, W.r, W.pn⟩ ∧ Rel K cm ⟨upd W.G a o, W.r, W.pn⟩ cs H := by
  obtain ⟨e1, e2, e3⟩ := R.pin (a, o) (List.mem_cons_self)
  have e2' : W.G a = none := e2
  have e3' : a ∉ W.r := e3
  have le : W.le ⟨upd W.G a o, W.r, W.pn⟩ := le_upd e2'
  refine ⟨le, ⟨fun b u e => ?_, R.len, R.nd, R.ex, fun i b c h1 h2 => ?_, fun q hq => ?_⟩⟩
  · have e' : upd W.G a o b = some u := e
    by_cases z : b = a
    · subst z
      rw [upd_same] at e'; cases e'; exact e1
    · rw [upd_ne z] at e'; exact R.sub b u e'
  · have h1' : W.r[i]? = some b := h1
    show CellAt K cm _ (upd W.G a o b) c _
    rw [upd_ne fun z => e3' (by rw [← z]; exact List.mem_of_getElem? h1')]
    exact CellAt.up' (W := W.pinned a o) (W' := ⟨upd W.G a o, W.r, W.pn⟩) le.g le.r (R.cel i b c h1 h2)
  · have hq' : q ∈ W.pn := hq
    obtain ⟨x1, x2, x3⟩ := R.pin q (List.mem_cons_of_mem _ hq')
    exact ⟨x1, by show upd W.G a o q.1 = none; rw [upd_ne (hn q hq')]; exact x2, x3⟩
/-- .. or becomes a cell -/
theorem Rel.pinC {a : Addr} {o : HO} {c : Cell} (hn : ∀ p ∈ W.pn, p.1 ≠ a) (R : Rel K cm (W.pinned a o) cs H) (hc : CellAt K cm W none c (some o)) :
    W.le ⟨W.G, W.r ++ [a], W.pn⟩ ∧ Rel K cm ⟨W.G, W.r ++ [a], W.pn⟩ (cs ++ [c]) H ∧ (W.r ++ [a])[cs.length]? = some a := by
  obtain ⟨e1, e2, e3⟩ := R.pin (a, o) (List.mem_cons_self)
  have e2' : W.G a = none := e2
  have e3' : a ∉ W.r := e3
  have hl : W.r.length = cs.length := R.len
  have le : W.le ⟨W.G, W.r ++ [a], W.pn⟩ := ⟨fun _ _ h => h, fun i b h => by
    show (W.r ++ [a])[i]? = some b
    rw [List.getElem?_append_left (List.getElem?_eq_some_iff.mp h).1]; exact h, rfl⟩
  refine ⟨le, ⟨R.sub, ?_, ?_, fun b h => ?_, fun i b c' h1 h2 => ?_, fun q hq => ?_⟩, ?_⟩
  · show (W.r ++ [a]).length = _
    rw [List.length_append, List.length_append, hl]; rfl
  · show (W.r ++ [a]).Nodup
    rw [List.nodup_append]
    refine ⟨R.nd, by simp, fun x hx y hy z => ?_⟩
    have : y = a := by simpa using hy
    exact e3' (by rw [← this, ← z]; exact hx)
  · rcases List.mem_append.mp (show b ∈ W.r ++ [a] from h) with z | z
    · exact R.ex b z
    · have : b = a := by simpa using z
      rw [this]; exact ⟨o, e1⟩
  · have h1' : (W.r ++ [a])[i]? = some b := h1
    by_cases hi : i < W.r.length
    · rw [List.getElem?_append_left hi] at h1'
      rw [List.getElem?_append_left (by rw [← hl]; exact hi)] at h2
      exact CellAt.up' (W := W.pinned a o) (W' := ⟨W.G, W.r ++ [a], W.pn⟩) le.g le.r (R.cel i b c' h1' h2)
    · have hi' : i = W.r.length := by
        have := (List.getElem?_eq_some_iff.mp h1').1
        rw [List.length_append] at this
        simp at this; omega
      subst hi'
      rw [List.getElem?_append_right (Nat.le_refl _)] at h1'
      rw [hl, List.getElem?_append_right (Nat.le_refl _)] at h2
      simp at h1' h2
      subst h1' h2
      show CellAt K cm _ (W.G a) c (H a)
      rw [e2', show H a = some o from e1]
      exact hc.up' le.g le.r
  · have hq' : q ∈ W.pn := hq
    obtain ⟨x1, x2, x3⟩ := R.pin q (List.mem_cons_of_mem _ hq')
    refine ⟨x1, x2, ?_⟩
    show q.1 ∉ W.r ++ [a]
    intro z
    rcases List.mem_append.mp z with z | z
    · exact x3 z
    · exact hn q hq' (by simpa using z)
  · rw [← hl, List.getElem?_append_right (Nat.le_refl _)]; simp
end

/-! ### names -/
abbrev Sd := List (Option D)
section
variable {K : PySem.W.Frag} {cm : Nat → Addr} {W W' : Wd}
variable (K cm W) in
structure En (σd : Sd) (σ : L2.St) : Prop where
  len : σd.length = σ.length
  at_ : ∀ (i : Nat) (d : D), σd[i]? = some (some d) → ∃ v, σ[i]? = some (some v) ∧ Rp K cm W d v
theorem En.up (le : W.le W') {σd : Sd} {σ : L2.St} (h : En K cm W σd σ) : En K cm W' σd σ := ⟨h.len, fun i d e => let ⟨v, a, b⟩ := h.at_ i d e; ⟨v, a, b.up le⟩⟩
theorem En.set {σd : Sd} {σ : L2.St} (h : En K cm W σd σ) {d : D} {v : V} (i : Nat) (r : Rp K cm W d v) : En K cm W (σd.set i (some d)) (σ.set i (some v)) := by
  refine ⟨by rw [List.length_set, List.length_set]; exact h.len, fun j d' e => ?_⟩
  by_cases q : j = i
  · subst q
    have lt : j < σd.length := by
      have := (List.getElem?_eq_some_iff.mp e).1
      rw [List.length_set] at this; exact this
    rw [List.getElem?_set_self lt] at e
    cases e
    exact ⟨v, List.getElem?_set_self (by rw [← h.len]; exact lt), r⟩
  · rw [List.getElem?_set_ne (Ne.symm q)] at e ⊢
    exact h.at_ j d' e
/-- what is forgotten does no harm -/
theorem En.weak {σd σd' : Sd} {σ : L2.St} (h : En K cm W σd σ) (hl : σd'.length = σd.length) (w : ∀ (i : Nat) (d : D), σd'[i]? = some (some d) → σd[i]? = some (some d)) : En K cm W σd' σ :=
  ⟨hl.trans h.len, fun i d e => h.at_ i d (w i d e)⟩
end

/-! ### results -/
/-- by values: nothing is raised -/
abbrev Rs (α : Type) := Option (α × List Cell)
/-- an exception: its class, its own fields -/
abbrev Xc := Nat × List (Str × D)
/-- of an expression: a value, or an exception; no: nothing is said -/
inductive Out (α : Type) where
  | ok (a : α) (cs : List Cell) | ex (x : Xc) (cs : List Cell) | no
def Out.bind {α β : Type} (r : Out α) (k : α → List Cell → Out β) : Out β := match r with
  | .ok a c => k a c
  | .ex x c => .ex x c
  | .no => .no
@[simp] theorem Out.bind_ok {α β : Type} {a : α} {c : List Cell} {k : α → List Cell → Out β} : Out.bind (.ok a c) k = k a c := rfl
@[simp] theorem Out.bind_ex {α β : Type} {a : Xc} {c : List Cell} {k : α → List Cell → Out β} : Out.bind (.ex a c) k = .ex a c := rfl
@[simp] theorem Out.bind_no {α β : Type} {k : α → List Cell → Out β} : Out.bind (.no : Out α) k = .no := rfl
def up {α : Type} (r : Rs α) : Out α := match r with
  | some (a, c) => .ok a c
  | none => .no
@[simp] theorem up_some {α : Type} {a : α} {c : List Cell} : up (some (a, c)) = .ok a c := rfl
@[simp] theorem up_none {α : Type} : up (none : Rs α) = .no := rfl

abbrev Fe := Sd → List Cell → Out D
abbrev Ft := Sd → List Cell → Out Bool
abbrev Fa := Sd → List Cell → Out (List D)
inductive Sr where
  | nx (σ : Sd) (cs : List Cell) | rt (d : D) (cs : List Cell) | bk (σ : Sd) (cs : List Cell) | ct (σ : Sd) (cs : List Cell) | ex (x : Xc) (σ : Sd) (cs : List Cell) | no
abbrev Fs := Sd → List Cell → Sr

section
variable (K : PySem.W.Frag) (cm : Nat → Addr) (Y : WX) (σ : L2.St)
def Post (W : Wd) (r : Rs D) (Q : VK) : Prop := ∃ d cs, r = some (d, cs) ∧ ∀ W' H' v, W.le W' → Rel K cm W' cs H' → Rp K cm W' d v → Q v H'
/-- an exception's own dict -/
def Pay (W : Wd) (fs : List (Str × D)) (dd : Option Addr) (H : Hp) : Prop := (fs = [] ∧ dd = none) ∨ fs ≠ [] ∧ ∃ a vs, dd = some a ∧ H a = some (.xd vs) ∧ Rpf K cm W fs vs
def Wish (W : Wd) (x : Xc) (cs : List Cell) : Prop := ∀ W' H' dd, W.le W' → Rel K cm W' cs H' → Pay K cm W' x.2 dd H' → Y (.ref (cm x.1)) dd σ H'
def PostE (W : Wd) (r : Out D) (Q : VK) : Prop := match r with
  | .ok d cs => ∀ W' H' v, W.le W' → Rel K cm W' cs H' → Rp K cm W' d v → Q v H'
  | .ex x cs => Wish K cm Y σ W x cs
  | .no => False
def PostB (W : Wd) (r : Out Bool) (Q : Bool → Hp → Prop) : Prop := match r with
  | .ok d cs => ∀ W' H', W.le W' → Rel K cm W' cs H' → Q d H'
  | .ex x cs => Wish K cm Y σ W x cs
  | .no => False
def PostA (W : Wd) (r : Out (List D)) (Q : List V → Hp → Prop) : Prop := match r with
  | .ok d cs => ∀ W' H' v, W.le W' → Rel K cm W' cs H' → Rps K cm W' d v → Q v H'
  | .ex x cs => Wish K cm Y σ W x cs
  | .no => False
end
section
variable (K : PySem.W.Frag) (cm : Nat → Addr) (Y : WX)
def PostS (W : Wd) (r : Sr) (E : Ends) : Prop := match r with
  | .nx σd cs => ∀ W' H' σ, W.le W' → Rel K cm W' cs H' → En K cm W' σd σ → E.nx σ H'
  | .bk σd cs => ∀ W' H' σ, W.le W' → Rel K cm W' cs H' → En K cm W' σd σ → E.bk σ H'
  | .ct σd cs => ∀ W' H' σ, W.le W' → Rel K cm W' cs H' → En K cm W' σd σ → E.ct σ H'
  | .rt d cs => ∀ W' H' v, W.le W' → Rel K cm W' cs H' → Rp K cm W' d v → E.rt v H'
  | .ex x σd cs => ∀ W' H' σ dd, W.le W' → Rel K cm W' cs H' → En K cm W' σd σ → Pay K cm W' x.2 dd H' → Y (.ref (cm x.1)) dd σ H'
  | .no => False
/-- THE READING of a function; Y: what is wanted of an exception -/
def tE (f : Fe) : TE := fun σ H Q => ∃ W σd cs, Rel K cm W cs H ∧ En K cm W σd σ ∧ PostE K cm Y σ W (f σd cs) Q
def tT (f : Ft) : TT := fun σ H Q => ∃ W σd cs, Rel K cm W cs H ∧ En K cm W σd σ ∧ PostB K cm Y σ W (f σd cs) Q
def tA (f : Fa) : TA := fun σ H Q => ∃ W σd cs, Rel K cm W cs H ∧ En K cm W σd σ ∧ PostA K cm Y σ W (f σd cs) Q
def tS (f : Fs) : TS := fun E σ H => ∃ W σd cs, Rel K cm W cs H ∧ En K cm W σd σ ∧ PostS K cm Y W (f σd cs) E
end
section
variable {K : PySem.W.Frag} {cm : Nat → Addr} {Y : WX} {σ : L2.St} {W W1 : Wd}
theorem Post.up (le : W.le W1) {r : Rs D} {Q : VK} (h : Post K cm W r Q) : Post K cm W1 r Q := let ⟨d, cs, e, k⟩ := h; ⟨d, cs, e, fun W' H' v l => k W' H' v (le.trans l)⟩
theorem Wish.up (le : W.le W1) {x : Xc} {cs : List Cell} (h : Wish K cm Y σ W x cs) : Wish K cm Y σ W1 x cs := fun W' H' dd l => h W' H' dd (le.trans l)
theorem PostE.up (le : W.le W1) {r : Out D} {Q : VK} (h : PostE K cm Y σ W r Q) : PostE K cm Y σ W1 r Q := by
  cases r with
  | ok d cs => exact fun W' H' v l => h W' H' v (le.trans l)
  | ex x cs => exact Wish.up le h
  | no => exact h
theorem PostB.up (le : W.le W1) {r : Out Bool} {Q : Bool → Hp → Prop} (h : PostB K cm Y σ W r Q) : PostB K cm Y σ W1 r Q := by
  cases r with
  | ok d cs => exact fun W' H' l => h W' H' (le.trans l)
  | ex x cs => exact Wish.up le h
  | no => exact h
theorem PostA.up (le : W.le W1) {r : Out (List D)} {Q : List V → Hp → Prop} (h : PostA K cm Y σ W r Q) : PostA K cm Y σ W1 r Q := by
  cases r with
  | ok d cs => exact fun W' H' v l => h W' H' v (le.trans l)
  | ex x cs => exact Wish.up le h
  | no => exact h
theorem PostS.up (le : W.le W1) {r : Sr} {E : Ends} (h : PostS K cm Y W r E) : PostS K cm Y W1 r E := by
  cases r with
  | nx σ cs => exact fun W' H' v l => h W' H' v (le.trans l)
  | bk σ cs => exact fun W' H' v l => h W' H' v (le.trans l)
  | ct σ cs => exact fun W' H' v l => h W' H' v (le.trans l)
  | rt σ cs => exact fun W' H' v l => h W' H' v (le.trans l)
  | ex x σ cs => exact fun W' H' v dd l => h W' H' v dd (le.trans l)
  | no => exact h
theorem Post.here {d : D} {cs : List Cell} {H : Hp} {v : V} {Q : VK} (h : Post K cm W (some (d, cs)) Q) (R : Rel K cm W cs H) (r : Rp K cm W d v) : Q v H := by
  obtain ⟨d', cs', e, k⟩ := h
  cases e
  exact k W H v (.refl W) R r
theorem PostE.here {d : D} {cs : List Cell} {H : Hp} {v : V} {Q : VK} (h : PostE K cm Y σ W (.ok d cs) Q) (R : Rel K cm W cs H) (r : Rp K cm W d v) : Q v H := h W H v (.refl W) R r
theorem PostB.here {d : Bool} {cs : List Cell} {H : Hp} {Q : Bool → Hp → Prop} (h : PostB K cm Y σ W (.ok d cs) Q) (R : Rel K cm W cs H) : Q d H := h W H (.refl W) R
theorem PostA.here {d : List D} {cs : List Cell} {H : Hp} {v : List V} {Q : List V → Hp → Prop} (h : PostA K cm Y σ W (.ok d cs) Q) (R : Rel K cm W cs H) (r : Rps K cm W d v) : Q v H := h W H v (.refl W) R r
theorem Post.ne {r : Rs D} {Q : VK} (h : Post K cm W r Q) : r ≠ none := by obtain ⟨d, cs, e, _⟩ := h; rw [e]; simp
/-- a value-level result as an expression's -/
theorem PostE.down {r : Rs D} {Q : VK} (h : PostE K cm Y σ W (PV.up r) Q) : Post K cm W r Q := by
  cases r with
  | none => exact h.elim
  | some p => obtain ⟨d, cs⟩ := p; exact ⟨d, cs, rfl, h⟩
/-- a result of any kind that is asked: what it says of exceptions -/
structure Asks (K : PySem.W.Frag) (cm : Nat → Addr) (Y : WX) (σ : L2.St) (W : Wd) {β : Type} (P : Out β → Prop) : Prop where
  no : ¬ P .no
  ex : ∀ x c, P (.ex x c) → Wish K cm Y σ W x c
theorem asksE {Q : VK} : Asks K cm Y σ W (fun r => PostE K cm Y σ W r Q) := ⟨fun h => h, fun _ _ h => h⟩
theorem asksB {Q : Bool → Hp → Prop} : Asks K cm Y σ W (fun r => PostB K cm Y σ W r Q) := ⟨fun h => h, fun _ _ h => h⟩
theorem asksA {Q : List V → Hp → Prop} : Asks K cm Y σ W (fun r => PostA K cm Y σ W r Q) := ⟨fun h => h, fun _ _ h => h⟩
/-- FIRST f, then whatever follows -/
theorem tE_go {f : Fe} {H : Hp} {σd : Sd} {cs : List Cell} {β : Type} {k : D → List Cell → Out β} {P : Out β → Prop} (R : Rel K cm W cs H) (E : En K cm W σd σ) {Q : VK}
    (hP : Asks K cm Y σ W P) (h : P (Out.bind (f σd cs) k)) (go : ∀ d c1, f σd cs = .ok d c1 → P (k d c1) → ∀ W' H' v, W.le W' → Rel K cm W' c1 H' → En K cm W' σd σ → Rp K cm W' d v → Q v H') : tE K cm Y f σ H Q := by
  refine ⟨W, σd, cs, R, E, ?_⟩
  cases e : f σd cs with
  | no => rw [e] at h; exact (hP.no h).elim
  | ex x c => rw [e] at h; exact hP.ex x c h
  | ok d c1 => rw [e] at h; exact fun W' H' v l R' r => go d c1 e h W' H' v l R' (E.up l) r
theorem tT_go {f : Ft} {H : Hp} {σd : Sd} {cs : List Cell} {β : Type} {k : Bool → List Cell → Out β} {P : Out β → Prop} (R : Rel K cm W cs H) (E : En K cm W σd σ) {Q : Bool → Hp → Prop}
    (hP : Asks K cm Y σ W P) (h : P (Out.bind (f σd cs) k)) (go : ∀ d c1, f σd cs = .ok d c1 → P (k d c1) → ∀ W' H', W.le W' → Rel K cm W' c1 H' → En K cm W' σd σ → Q d H') : tT K cm Y f σ H Q := by
  refine ⟨W, σd, cs, R, E, ?_⟩
  cases e : f σd cs with
  | no => rw [e] at h; exact (hP.no h).elim
  | ex x c => rw [e] at h; exact hP.ex x c h
  | ok d c1 => rw [e] at h; exact fun W' H' l R' => go d c1 e h W' H' l R' (E.up l)
theorem tA_go {f : Fa} {H : Hp} {σd : Sd} {cs : List Cell} {β : Type} {k : List D → List Cell → Out β} {P : Out β → Prop} (R : Rel K cm W cs H) (E : En K cm W σd σ) {Q : List V → Hp → Prop}
    (hP : Asks K cm Y σ W P) (h : P (Out.bind (f σd cs) k)) (go : ∀ d c1, f σd cs = .ok d c1 → P (k d c1) → ∀ W' H' v, W.le W' → Rel K cm W' c1 H' → En K cm W' σd σ → Rps K cm W' d v → Q v H') : tA K cm Y f σ H Q := by
  refine ⟨W, σd, cs, R, E, ?_⟩
  cases e : f σd cs with
  | no => rw [e] at h; exact (hP.no h).elim
  | ex x c => rw [e] at h; exact hP.ex x c h
  | ok d c1 => rw [e] at h; exact fun W' H' v l R' r => go d c1 e h W' H' v l R' (E.up l) r
end

/-! ### the judgements -/
section
variable (X : Cx) (cm : Nat → Addr) (Y : WX)
abbrev FE (e : Expr) (f : Fe) : Prop := PE X e (tE X.K cm Y f)
abbrev FT (e : Expr) (f : Ft) : Prop := PT X e (tT X.K cm Y f)
abbrev FW (e : Expr) (f : Ft) : Prop := PW X e (tT X.K cm Y f)
abbrev FA (es : List Expr) (f : Fa) : Prop := PA X es (tA X.K cm Y f)
abbrev FS (st : Stmt) (f : Fs) : Prop := PS X st (tS X.K cm Y f)
abbrev FSs (st : List Stmt) (f : Fs) : Prop := PSs X st (tS X.K cm Y f)
end
section
variable {X : Cx} {cm : Nat → Addr}
theorem PE.weak {e : Expr} {t t' : TE} (h : PE X e t) (m : ∀ σ H Q, t' σ H Q → t σ H Q) : PE X e t' := ⟨fun pins s σ H Q I q => h.run pins s σ H Q I (m σ H Q q)⟩
theorem PT.weak {e : Expr} {t t' : TT} (h : PT X e t) (m : ∀ σ H Q, t' σ H Q → t σ H Q) : PT X e t' := ⟨fun pins s σ H Q I q => h.run pins s σ H Q I (m σ H Q q)⟩
theorem PW.weak {e : Expr} {t t' : TT} (h : PW X e t) (m : ∀ σ H Q, t' σ H Q → t σ H Q) : PW X e t' := ⟨fun wh pins s σ H Q I q => h.run wh pins s σ H Q I (m σ H Q q)⟩
theorem PA.weak {e : List Expr} {t t' : TA} (h : PA X e t) (m : ∀ σ H Q, t' σ H Q → t σ H Q) : PA X e t' := ⟨fun pos pins s σ H Q I q => h.run pos pins s σ H Q I (m σ H Q q)⟩
theorem PS.weak {e : Stmt} {t t' : TS} (h : PS X e t) (m : ∀ E σ H, t' E σ H → t E σ H) : PS X e t' := ⟨fun pins s σ H E I q => h.run pins s σ H E I (m E σ H q)⟩
theorem PSs.weak {e : List Stmt} {t t' : TS} (h : PSs X e t) (m : ∀ E σ H, t' E σ H → t E σ H) : PSs X e t' := ⟨fun pins s σ H E I q => h.run pins s σ H E I (m E σ H q)⟩
end
end PV

namespace PV
open PySem PySem.Spec PyProof.Rows L2

/-! ### what a datum is -/
def lstOf (cs : List Cell) : D → Option (List D)
  | .lst xs => some xs
  | .ref i => match cs[i]? with
    | some (.lst xs) => some xs
    | _ => none
  | _ => none
/-- a list or a tuple, read -/
def seqOf (cs : List Cell) : D → Option (List D)
  | .lst xs => some xs
  | .tup xs => some xs
  | .arg xs => some xs
  | .argT xs => some xs
  | .ref i => match cs[i]? with
    | some (.lst xs) => some xs
    | _ => none
  | _ => none
/-- a list is made: frozen, or a new cell -/
def mkL (fz : Bool) (ds : List D) (cs : List Cell) : Rs D := if fz = true then some (.lst ds, cs) else some (.ref cs.length, cs ++ [.lst ds])
@[simp] theorem mkL_t (ds : List D) (cs : List Cell) : mkL true ds cs = some (.lst ds, cs) := rfl
@[simp] theorem mkL_f (ds : List D) (cs : List Cell) : mkL false ds cs = some (.ref cs.length, cs ++ [.lst ds]) := rfl
mutual
def toP0 : D → Option PyData
  | .non => some .none
  | .bl b => some (.bool b)
  | .int i => some (.int i)
  | .str x => some (.str x)
  | .tup xs => (toP0s xs).map .tuple
  | .lst xs => (toP0s xs).map .list
  | .arg xs => (toP0s xs).map .list
  | .argT xs => (toP0s xs).map .tuple
  | _ => none
def toP0s : List D → Option (List PyData)
  | [] => some []
  | d :: ds => match toP0 d, toP0s ds with
    | some p, some ps => some (p :: ps)
    | _, _ => none
end
def toP (cs : List Cell) : D → Option PyData
  | .ref i => match cs[i]? with
    | some (.lst xs) => (toP0s xs).map .list
    | _ => none
  | d => toP0 d

section
variable {K : PySem.W.Frag} {cm : Nat → Addr} {W : Wd} {H : Hp} {cs : List Cell}
theorem lst_of (R : Rel K cm W cs H) {d : D} {v : V} {ds : List D} (r : Rp K cm W d v) (h : lstOf cs d = some ds) : ∃ a xs, v = .ref a ∧ H a = some (.lst xs) ∧ Rps K cm W ds xs := by
  cases r with
  | lst g q => cases h; exact ⟨_, _, rfl, R.sub _ _ g, q⟩
  | @ref i a e =>
    have h' : (match cs[i]? with | some (.lst xs) => some xs | _ => none) = some ds := h
    split at h'
    · rename_i xs ec
      cases h'
      obtain ⟨_, ys, e2, q⟩ := R.cel i a _ e ec
      exact ⟨a, ys, rfl, e2, q⟩
    · cases h'
  | _ => cases h
theorem seq_of (R : Rel K cm W cs H) {d : D} {v : V} {ds : List D} (r : Rp K cm W d v) (h : seqOf cs d = some ds) : ∃ a xs, v = .ref a ∧ (SqL K H a xs ∨ SqT K H a xs) ∧ Rps K cm W ds xs := by
  cases r with
  | lst g q => cases h; exact ⟨_, _, rfl, .inl (SqL.of (R.sub _ _ g)), q⟩
  | tup g q => cases h; exact ⟨_, _, rfl, .inr (SqT.of (R.sub _ _ g)), q⟩
  | argT g q => cases h; exact ⟨_, _, rfl, .inr (sqT_le R.sub g), q⟩
  | arg g q => cases h; exact ⟨_, _, rfl, .inl (sqL_le R.sub g), q⟩
  | @ref i a e =>
    have h' : (match cs[i]? with | some (.lst xs) => some xs | _ => none) = some ds := h
    split at h'
    · rename_i xs ec
      cases h'
      obtain ⟨_, ys, e2, q⟩ := R.cel i a _ e ec
      exact ⟨a, ys, rfl, .inl (SqL.of e2), q⟩
    · cases h'
  | _ => cases h
theorem Post.mkL {fz : Bool} {ds : List D} {xs : List V} {Q : VK} (P : Post K cm W (mkL fz ds cs) Q) (R : Rel K cm W cs H) (r : Rps K cm W ds xs) : ∀ p, H p = none → Q (.ref p) (upd H p (.lst xs)) := fun p hp => by
  obtain ⟨d, c, e, k⟩ := P
  cases fz with
  | true =>
    cases e
    obtain ⟨le, R'⟩ := R.newG (.lst xs) hp
    exact k _ _ _ le R' (.lst upd_same (r.up le))
  | false =>
    cases e
    obtain ⟨le, R', e⟩ := R.newC (c := .lst ds) (o := .lst xs) hp ⟨rfl, xs, rfl, r⟩
    exact k _ _ _ le R' (.ref e)
theorem Post.mkT {ds : List D} {xs : List V} {Q : VK} (P : Post K cm W (some (.tup ds, cs)) Q) (R : Rel K cm W cs H) (r : Rps K cm W ds xs) : ∀ p, H p = none → Q (.ref p) (upd H p (.tup xs)) := fun p hp => by
  obtain ⟨d, c, e, k⟩ := P
  cases e
  obtain ⟨le, R'⟩ := R.newG (.tup xs) hp
  exact k _ _ _ le R' (.tup upd_same (r.up le))
mutual
theorem toP0_ok (g : ∀ a o, W.G a = some o → H a = some o) : ∀ {d : D} {v : V} {p : PyData}, Rp K cm W d v → toP0 d = some p → Dp K H v p
  | _, _, _, .non, e => by simp only [toP0] at e; cases e; exact .non
  | _, _, _, .bl b, e => by simp only [toP0] at e; cases e; exact .bl b
  | _, _, _, .int b, e => by simp only [toP0] at e; cases e; exact .int b
  | _, _, _, .str b, e => by simp only [toP0] at e; cases e; exact .str b
  | _, _, _, .tup (ds := ds) h r, e => by
    simp only [toP0] at e
    cases q : toP0s ds with
    | none => rw [q] at e; cases e
    | some ps => rw [q] at e; cases e; exact .tup (SqT.of (g _ _ h)) (toP0s_ok g r q)
  | _, _, _, .lst (ds := ds) h r, e => by
    simp only [toP0] at e
    cases q : toP0s ds with
    | none => rw [q] at e; cases e
    | some ps => rw [q] at e; cases e; exact .lst (SqL.of (g _ _ h)) (toP0s_ok g r q)
  | _, _, _, .arg (ds := ds) h r, e => by
    simp only [toP0] at e
    cases q : toP0s ds with
    | none => rw [q] at e; cases e
    | some ps => rw [q] at e; cases e; exact .lst (sqL_le g h) (toP0s_ok g r q)
  | _, _, _, .argT (ds := ds) h r, e => by
    simp only [toP0] at e
    cases q : toP0s ds with
    | none => rw [q] at e; cases e
    | some ps => rw [q] at e; cases e; exact .tup (sqT_le g h) (toP0s_ok g r q)
  | _, _, _, .dic h r, e => by simp only [toP0] at e; cases e
  | _, _, _, .ins h r, e => by simp only [toP0] at e; cases e
  | _, _, _, .ref h, e => by simp only [toP0] at e; cases e
  | _, _, _, .cl c, e => by simp only [toP0] at e; cases e
  | _, _, _, .ty c, e => by simp only [toP0] at e; cases e
theorem toP0s_ok (g : ∀ a o, W.G a = some o → H a = some o) : ∀ {ds : List D} {vs : List V} {ps : List PyData}, Rps K cm W ds vs → toP0s ds = some ps → DpAll K H vs ps
  | _, _, _, .nil, e => by simp only [toP0s] at e; cases e; exact .nil
  | _, _, _, .cons (d := d) (ds := ds) h r, e => by
    simp only [toP0s] at e
    cases q : toP0 d with
    | none => rw [q] at e; cases e
    | some p =>
      cases q2 : toP0s ds with
      | none => rw [q, q2] at e; cases e
      | some ps => rw [q, q2] at e; cases e; exact .cons (toP0_ok g h q) (toP0s_ok g r q2)
end
theorem toP_ok (R : Rel K cm W cs H) {d : D} {v : V} {p : PyData} (r : Rp K cm W d v) (e : toP cs d = some p) : Dp K H v p := by
  cases d with
  | ref i =>
    have h' : (match cs[i]? with | some (.lst xs) => (toP0s xs).map PyData.list | _ => none) = some p := e
    split at h'
    · rename_i xs ec
      cases q : toP0s xs with
      | none => rw [q] at h'; cases h'
      | some ps =>
        rw [q] at h'; cases h'
        cases r with
        | @ref _ a ei =>
          obtain ⟨_, ys, e2, q2⟩ := R.cel i a _ ei ec
          exact .lst (SqL.of e2) (toP0s_ok R.sub q2 q)
    · cases h'
  | non => exact toP0_ok R.sub r e
  | bl b => exact toP0_ok R.sub r e
  | int b => exact toP0_ok R.sub r e
  | str b => exact toP0_ok R.sub r e
  | exn b => exact toP0_ok R.sub r e
  | tup b => exact toP0_ok R.sub r e
  | lst b => exact toP0_ok R.sub r e
  | arg b => exact toP0_ok R.sub r e
  | argT b => exact toP0_ok R.sub r e
  | dic b => exact toP0_ok R.sub r e
  | ins c b => exact toP0_ok R.sub r e
  | cl b => exact toP0_ok R.sub r e
  | ty b => exact toP0_ok R.sub r e
end

/-! ### by values -/
section
variable (K : PySem.W.Frag) (cm : Nat → Addr)
abbrev G2 := D → D → List Cell → Rs D
def rO1 (g : D → List Cell → Rs D) : V → Hp → VK → Prop := fun x H Q => ∃ W dx cs, Rel K cm W cs H ∧ Rp K cm W dx x ∧ Post K cm W (g dx cs) Q
def rO2 (g : G2) : R2 := fun x y H Q => ∃ W dx dy cs, Rel K cm W cs H ∧ Rp K cm W dx x ∧ Rp K cm W dy y ∧ Post K cm W (g dx dy cs) Q
def rCa (g : List D → List Cell → Rs D) : List V → Hp → VK → Prop := fun xs H Q => ∃ W ds cs, Rel K cm W cs H ∧ Rps K cm W ds xs ∧ Post K cm W (g ds cs) Q
def rMt (g : D → List D → List Cell → Rs D) : V → List V → Hp → VK → Prop := fun x xs H Q => ∃ W d ds cs, Rel K cm W cs H ∧ Rp K cm W d x ∧ Rps K cm W ds xs ∧ Post K cm W (g d ds cs) Q
end
def fOp2 (g : G2) (fa fb : Fe) : Fe := fun σ cs => (fa σ cs).bind fun x c1 => (fb σ c1).bind fun y c2 => up (g x y c2)
def fOp1 (g : D → List Cell → Rs D) (fa : Fe) : Fe := fun σ cs => (fa σ cs).bind fun d c => up (g d c)
def fTst (f : Fe) : Ft := fun σ cs => (f σ cs).bind fun d c => match d with
  | .bl b => .ok b c
  | _ => .no
def fVar (i : Nat) : Fe := fun σ cs => match σ[i]? with
  | some (some d) => .ok d cs
  | _ => .no
def fC (d : D) : Fe := fun _ cs => .ok d cs
section
variable {X : Cx} {cm : Nat → Addr} {Y : WX} {e a b c : Expr} {fa fb fc f : Fe} {pos : Pos}

theorem fe_var {i : Nat} {x : Str} (h : PE X (.Name x pos) (tVar i)) : FE X cm Y (.Name x pos) (fVar i) := PE.weak h fun σ H Q ⟨W, σd, cs, R, E, P⟩ => by
  unfold fVar at P
  split at P
  · rename_i d' hd
    obtain ⟨v, hv, r⟩ := E.at_ _ _ hd
    exact ⟨v, hv, P.here R r⟩
  · exact P.elim
theorem fv (i : Nat) {x : Str} (hN : X.N[i]? = some x := by rfl) (hv : Vis X.env.scope x := by first | exact Or.inl rfl | exact Or.inr (Or.inl rfl) | exact Or.inr (Or.inr rfl)) (hd : (x == ("__debug__" : Str)) = false := by decide)
    (hcd : (x == ("__classdict__" : Str)) = false := by decide) : FE X cm Y (.Name x pos) (fVar i) := fe_var (pe_var hN hv hd hcd)
theorem fe_c {v : V} {d : D} (h : PE X e (tC v)) (r : ∀ W, Rp X.K cm W d v) : FE X cm Y e (fC d) := PE.weak h fun σ H Q ⟨W, σd, cs, R, E, P⟩ => P.here R (r W)
theorem fe_int {i j} : FE X cm Y (.Constant (.int i) j pos) (fC (.int i)) := fe_c pe_int fun _ => .int i
theorem fe_bl {i j} : FE X cm Y (.Constant (.bool i) j pos) (fC (.bl i)) := fe_c pe_bl fun _ => .bl i
theorem fe_non {j} : FE X cm Y (.Constant .none j pos) (fC .non) := fe_c pe_non fun _ => .non
theorem fe_str {i j} : FE X cm Y (.Constant (.str i) j pos) (fC (.str i)) := fe_c pe_str fun _ => .str i
/-- a module's constant -/
theorem fe_glob {x : Str} {v : V} {u : Value} (d : D) (hg : Gl X x) (hm : X.mg x = some u) (r : RelV v u) (rd : ∀ W, Rp X.K cm W d v) (hd : (x == ("__debug__" : Str)) = false := by decide) : FE X cm Y (.Name x pos) (fC d) := fe_c (pe_glob hg hm r hd) rd
theorem fe_gcl {x : Str} (c : Nat) (hm : X.mg x = some (.ref (cm c))) (hg : Gl X x := by rfl) (hd : (x == ("__debug__" : Str)) = false := by decide) : FE X cm Y (.Name x pos) (fC (.cl c)) := fe_glob (v := .ref (cm c)) (.cl c) hg hm rfl (fun _ => .cl c) hd
theorem fe_gint {x : Str} (n : Int) {t : Tok} (hm : X.mg x = some (.int n t)) (hg : Gl X x := by rfl) (hd : (x == ("__debug__" : Str)) = false := by decide) : FE X cm Y (.Name x pos) (fC (.int n)) := fe_glob (v := .int n) (.int n) hg hm ⟨_, rfl⟩ (fun _ => .int n) hd
theorem fe_gstr {x : Str} (n : Str) {t : Tok} (hm : X.mg x = some (.str n t)) (hg : Gl X x := by rfl) (hd : (x == ("__debug__" : Str)) = false := by decide) : FE X cm Y (.Name x pos) (fC (.str n)) := fe_glob (v := .str n) (.str n) hg hm ⟨_, rfl⟩ (fun _ => .str n) hd
/-- a built-in type's name as a value -/
theorem fe_ty {x : Str} (n : String) (hm : X.mg x = none) (hv : bootBuiltins x = some (.type n)) (hg : Gl X x := by rfl) (hn : x ≠ "__name__" := by decide) (hd : (x == ("__debug__" : Str)) = false := by decide) : FE X cm Y (.Name x pos) (fC (.ty n)) :=
  fe_c (pe_bltn hg hm hv (v := .ty n) rfl hn hd) fun _ => .ty n

theorem two_go {K : PySem.W.Frag} {g : G2} {σ : L2.St} {H : Hp} {Q : VK} (m : tE K cm Y (fOp2 g fa fb) σ H Q) : tOp (rO2 K cm g) (tE K cm Y fa) (tE K cm Y fb) σ H Q := by
  obtain ⟨W, σd, cs, R, E, h⟩ := m
  refine tE_go R E asksE h fun d c1 _ h1 W1 H1 v l1 R1 E1 r1 => ?_
  refine tE_go R1 E1 asksE (h1.up l1) fun d2 c2 _ h2 W2 H2 v2 l2 R2 E2 r2 => ?_
  exact ⟨W2, d, d2, c2, R2, r1.up l2, r2, (PostE.down h2).up l2⟩
theorem fe_op {op : Operator} {g : G2} (ho : OpR X (binaryOp op) (rO2 X.K cm g)) (ha : FE X cm Y a fa) (hb : FE X cm Y b fb) : FE X cm Y (.BinOp a op b pos) (fOp2 g fa fb) := PE.weak (pe_op ho ha hb) fun _ _ _ => two_go
theorem fe_un {op : UnaryOp} {g : D → List Cell → Rs D} (ho : UnR X (unaryOp op) (rO1 X.K cm g)) (ha : FE X cm Y a fa) : FE X cm Y (.UnaryOp op a pos) (fOp1 g fa) := PE.weak (pe_un ho ha) fun σ H Q ⟨W, σd, cs, R, E, h⟩ =>
  tE_go R E asksE h fun d c1 _ h1 W1 H1 v l1 R1 E1 r1 => ⟨W1, d, c1, R1, r1, (PostE.down h1).up l1⟩
theorem fe_cmp {op : CmpOp} {g : G2} (ho : OpR X (compareOp op) (rO2 X.K cm g)) (ha : FE X cm Y a fa) (hb : FE X cm Y b fb) (hm : behindInMarks op b = false) : FE X cm Y (.Compare a [op] [b] pos) (fOp2 g fa fb) := PE.weak (pe_cmpR ho ha hb hm) fun _ _ _ => two_go
theorem tst_go {t : TE} {σ : L2.St} {H : Hp} {Q : Bool → Hp → Prop} {K : PySem.W.Frag} (m : tT K cm Y (fTst f) σ H Q) (k : ∀ Q, tE K cm Y f σ H Q → t σ H Q) : tTest t σ H Q := by
  obtain ⟨W, σd, cs, R, E, h⟩ := m
  refine k _ (tE_go R E asksB h fun d c1 _ h1 W1 H1 v l1 R1 E1 r1 => ?_)
  cases r1 with
  | bl b => exact ⟨b, rfl, (h1.up l1).here R1⟩
  | _ => exact h1.elim
theorem ft_cmp {op : CmpOp} {g : G2} (ho : OpR X (compareOp op) (rO2 X.K cm g)) (ha : FE X cm Y a fa) (hb : FE X cm Y b fb) (hm : behindInMarks op b = false) : FT X cm Y (.Compare a [op] [b] pos) (fTst (fOp2 g fa fb)) :=
  PT.weak (pt_cmpR ho ha hb hm) fun _ _ _ m => tst_go m fun _ => two_go
def fChain (g g' : G2) (fa fb fc : Fe) : Fe := fun σ cs => (fa σ cs).bind fun x c1 => (fb σ c1).bind fun y c2 => (up (g x y c2)).bind fun z c3 => match z with
  | .bl true => (fc σ c3).bind fun w c4 => up (g' y w c4)
  | .bl false => .ok (.bl false) c3
  | _ => .no
theorem chain_go {K : PySem.W.Frag} {g g' : G2} {σ : L2.St} {H : Hp} {Q : VK} (m : tE K cm Y (fChain g g' fa fb fc) σ H Q) : tChain (rO2 K cm g) (rO2 K cm g') (tE K cm Y fa) (tE K cm Y fb) (tE K cm Y fc) σ H Q := by
  obtain ⟨W, σd, cs, R, E, h⟩ := m
  refine tE_go R E asksE h fun d c1 _ h1 W1 H1 v l1 R1 E1 r1 => ?_
  refine tE_go R1 E1 asksE (h1.up l1) fun d2 c2 _ h2 W2 H2 v2 l2 R2 E2 r2 => ?_
  cases e3 : g d d2 c2 with
  | none => rw [e3] at h2; exact h2.elim
  | some p =>
    obtain ⟨z, c3⟩ := p
    rw [e3] at h2
    refine ⟨W2, d, d2, c2, R2, r1.up l2, r2, z, c3, e3, fun W3 H3 v3 l3 R3 r3 => ?_⟩
    have h3 := (h2.up l2).up l3
    cases r3 with
    | bl k =>
      refine ⟨k, rfl, ?_⟩
      cases k with
      | false => exact iteF (h3.here R3 (.bl false))
      | true =>
        refine iteT (tE_go R3 (E2.up l3) asksE h3 fun d4 c4 _ h4 W4 H4 v4 l4 R4 E4 r4 => ?_)
        exact ⟨W4, d2, d4, c4, R4, (r2.up l3).up l4, r4, (PostE.down h4).up l4⟩
    | _ => exact h3.elim
theorem fe_chain {op op' : CmpOp} {g g' : G2} (ho : OpR X (compareOp op) (rO2 X.K cm g)) (ho' : OpR X (compareOp op') (rO2 X.K cm g')) (ha : FE X cm Y a fa) (hb : FE X cm Y b fb) (hc : FE X cm Y c fc)
    (hm : lastMarks [op, op'] [b, c] = false := by with_unfolding_all rfl) : FE X cm Y (.Compare a [op, op'] [b, c] pos) (fChain g g' fa fb fc) := PE.weak (pe_chain ho ho' ha hb hc hm) fun _ _ _ => chain_go
theorem ft_chain {op op' : CmpOp} {g g' : G2} (ho : OpR X (compareOp op) (rO2 X.K cm g)) (ho' : OpR X (compareOp op') (rO2 X.K cm g')) (ha : FE X cm Y a fa) (hb : FE X cm Y b fb) (hc : FE X cm Y c fc)
    (hm : lastMarks [op, op'] [b, c] = false := by with_unfolding_all rfl) : FT X cm Y (.Compare a [op, op'] [b, c] pos) (fTst (fChain g g' fa fb fc)) := PT.weak (pt_chain ho ho' ha hb hc hm) fun _ _ _ m => tst_go m fun _ => chain_go

/-! ### truth, and, or, not, if -/
def dTru (cs : List Cell) : D → Option Bool
  | .non => some false
  | .bl b => some b
  | .int i => some (i != 0)
  | .str x => if x.length ≤ sizeLine then some ((x.length : Int) != 0) else none
  | d => (seqOf cs d).map fun xs => !xs.isEmpty
theorem tru_of {K : PySem.W.Frag} {W : Wd} {H : Hp} {cs : List Cell} (R : Rel K cm W cs H) {d : D} {v : V} {k : Bool} (r : Rp K cm W d v) (h : dTru cs d = some k) : TruV K v H k := by
  have sq : ∀ {ds : List D}, seqOf cs d = some ds → k = !ds.isEmpty → TruV K v H k := fun {ds} e ek => by
    obtain ⟨a, xs, rfl, q, rr⟩ := seq_of R r e
    have : (!ds.isEmpty) = !xs.isEmpty := by cases rr <;> rfl
    rw [this] at ek
    rcases q with q | q
    · exact .inl ⟨xs, q, ek⟩
    · exact .inr (.inl ⟨xs, q, ek⟩)
  have fin : (seqOf cs d).map (fun xs => !xs.isEmpty) = some k → TruV K v H k := fun e => by
    cases q : seqOf cs d with
    | none => rw [q] at e; cases e
    | some ds => rw [q] at e; cases e; exact sq q rfl
  cases d with
  | non => cases h; cases r; rfl
  | bl b => cases h; cases r; rfl
  | int b => cases h; cases r; rfl
  | str x =>
    cases r
    simp only [dTru] at h
    split at h
    · rename_i hl; cases h; exact ⟨hl, rfl⟩
    · cases h
  | tup xs => exact fin h
  | lst xs => exact fin h
  | arg xs => exact fin h
  | argT xs => exact fin h
  | dic xs => exact fin h
  | ins c xs => exact fin h
  | ref i => exact fin h
  | cl c => exact fin h
  | ty n => exact fin h
  | exn n => exact fin h
def fTru (f : Fe) : Ft := fun σ cs => (f σ cs).bind fun d c => match dTru c d with
  | some k => .ok k c
  | none => .no
theorem ft_truth (ha : FE X cm Y a fa) (he : ∀ whole, isTrue a X.env whole = (do let v ← whole; standAt a.pos; holding [v] (truthy v)) := by intro _; rfl) : FT X cm Y a (fTru fa) := PT.weak (pt_truth ha he) fun σ H Q ⟨W, σd, cs, R, E, h⟩ =>
  tE_go R E asksB h fun d c1 _ h1 W1 H1 v l1 R1 E1 r1 => by
    cases e : dTru c1 d with
    | none => rw [e] at h1; exact h1.elim
    | some k => rw [e] at h1; exact ⟨k, tru_of R1 r1 e, (h1.up l1).here R1⟩
variable {ta tb tc : Ft} {rest : List Expr}
def fAnd (s t : Ft) : Ft := fun σ cs => (s σ cs).bind fun c c1 => if c = true then t σ c1 else .ok false c1
def fOr (s t : Ft) : Ft := fun σ cs => (s σ cs).bind fun c c1 => if c = true then .ok true c1 else t σ c1
def fNot (s : Ft) : Ft := fun σ cs => (s σ cs).bind fun c c1 => Out.ok (!c) c1
theorem fw_and1 (ha : FT X cm Y a ta) : FW X cm Y (.BoolOp .And [a] pos) ta := pw_and1 ha
theorem fw_or1 (ha : FT X cm Y a ta) : FW X cm Y (.BoolOp .Or [a] pos) ta := pw_or1 ha
theorem fw_and (ha : FT X cm Y a ta) (hb : FW X cm Y (.BoolOp .And (b :: rest) pos) tb) : FW X cm Y (.BoolOp .And (a :: b :: rest) pos) (fAnd ta tb) := PW.weak (pw_and ha hb) fun σ H Q ⟨W, σd, cs, R, E, h⟩ =>
  tT_go R E asksB h fun d c1 _ h1 W1 H1 l1 R1 E1 => by
    cases d with
    | true => exact iteT ⟨W1, σd, c1, R1, E1, h1.up l1⟩
    | false => exact iteF ((h1.up l1).here R1)
theorem fw_or (ha : FT X cm Y a ta) (hb : FW X cm Y (.BoolOp .Or (b :: rest) pos) tb) : FW X cm Y (.BoolOp .Or (a :: b :: rest) pos) (fOr ta tb) := PW.weak (pw_or ha hb) fun σ H Q ⟨W, σd, cs, R, E, h⟩ =>
  tT_go R E asksB h fun d c1 _ h1 W1 H1 l1 R1 E1 => by
    cases d with
    | true => exact iteT ((h1.up l1).here R1)
    | false => exact iteF ⟨W1, σd, c1, R1, E1, h1.up l1⟩
theorem ft_w (h : FW X cm Y a ta) : FT X cm Y a ta := h.pt
theorem ft_not (ha : FT X cm Y a ta) : FT X cm Y (.UnaryOp .Not a pos) (fNot ta) := PT.weak (pt_not ha) fun σ H Q ⟨W, σd, cs, R, E, h⟩ =>
  tT_go R E asksB h fun d c1 _ h1 W1 H1 l1 R1 E1 => (h1.up l1).here R1
/-- .. as values, of truth values -/
def fAndV (fa fb : Fe) : Fe := fun σ cs => (fa σ cs).bind fun d c1 => match d with
  | .bl true => fb σ c1
  | .bl false => .ok (.bl false) c1
  | _ => .no
def fOrV (fa fb : Fe) : Fe := fun σ cs => (fa σ cs).bind fun d c1 => match d with
  | .bl false => fb σ c1
  | .bl true => .ok (.bl true) c1
  | _ => .no
theorem fe_one {op} (h : FE X cm Y a fa) : FE X cm Y (.BoolOp op [a] pos) fa := pe_one h
theorem fe_and (ha : FE X cm Y a fa) (hb : FE X cm Y (.BoolOp .And (b :: rest) pos) fb) : FE X cm Y (.BoolOp .And (a :: b :: rest) pos) (fAndV fa fb) := PE.weak (pe_and ha hb) fun σ H Q ⟨W, σd, cs, R, E, h⟩ =>
  tE_go R E asksE h fun d c1 _ h1 W1 H1 v l1 R1 E1 r1 => by
    cases r1 with
    | bl k =>
      cases k with
      | true => exact ⟨true, rfl, iteT ⟨W1, σd, c1, R1, E1, h1.up l1⟩⟩
      | false => exact ⟨false, rfl, iteF ((h1.up l1).here R1 (.bl false))⟩
    | _ => exact h1.elim
theorem fe_or (ha : FE X cm Y a fa) (hb : FE X cm Y (.BoolOp .Or (b :: rest) pos) fb) : FE X cm Y (.BoolOp .Or (a :: b :: rest) pos) (fOrV fa fb) := PE.weak (pe_or ha hb) fun σ H Q ⟨W, σd, cs, R, E, h⟩ =>
  tE_go R E asksE h fun d c1 _ h1 W1 H1 v l1 R1 E1 r1 => by
    cases r1 with
    | bl k =>
      cases k with
      | false => exact ⟨false, rfl, iteF ⟨W1, σd, c1, R1, E1, h1.up l1⟩⟩
      | true => exact ⟨true, rfl, iteT ((h1.up l1).here R1 (.bl true))⟩
    | _ => exact h1.elim
def fNotV (fa : Fe) : Fe := fun σ cs => (fa σ cs).bind fun d c1 => match d with
  | .bl k => .ok (.bl (!k)) c1
  | _ => .no
theorem fe_not (ha : FE X cm Y a fa) : FE X cm Y (.UnaryOp .Not a pos) (fNotV fa) := PE.weak (pe_not ha) fun σ H Q ⟨W, σd, cs, R, E, h⟩ =>
  tE_go R E asksE h fun d c1 _ h1 W1 H1 v l1 R1 E1 r1 => by
    cases r1 with
    | bl k => exact ⟨k, rfl, (h1.up l1).here R1 (.bl _)⟩
    | _ => exact h1.elim
def fIfE (t : Ft) (fa fb : Fe) : Fe := fun σ cs => (t σ cs).bind fun c c1 => if c = true then fa σ c1 else fb σ c1
theorem fe_if (hc : FT X cm Y c tc) (ha : FE X cm Y a fa) (hb : FE X cm Y b fb) : FE X cm Y (.IfExp c a b pos) (fIfE tc fa fb) := PE.weak (pe_ifExp hc ha hb) fun σ H Q ⟨W, σd, cs, R, E, h⟩ =>
  tT_go R E asksE h fun d c1 _ h1 W1 H1 l1 R1 E1 => by
    cases d with
    | true => exact iteT ⟨W1, σd, c1, R1, E1, h1.up l1⟩
    | false => exact iteF ⟨W1, σd, c1, R1, E1, h1.up l1⟩
/-- two rules for one expression: the second where the first says nothing -/
def fAlt (f g : Fe) : Fe := fun σ cs => match f σ cs with
  | .no => g σ cs
  | r => r
theorem fe_alt (h : FE X cm Y e fa) (h' : FE X cm Y e fb) : FE X cm Y e (fAlt fa fb) := ⟨fun pins s σ H Q I ⟨W, σd, cs, R, E, P⟩ => by
  unfold fAlt at P
  cases q : fa σd cs with
  | ok d c => rw [q] at P; exact h.run pins s σ H Q I ⟨W, σd, cs, R, E, by rw [q]; exact P⟩
  | ex d c => rw [q] at P; exact h.run pins s σ H Q I ⟨W, σd, cs, R, E, by rw [q]; exact P⟩
  | no => rw [q] at P; exact h'.run pins s σ H Q I ⟨W, σd, cs, R, E, P⟩⟩
/-- a fresh cell is frozen as it comes -/
def frzD (d : D) (cs : List Cell) : Rs D := match d with
  | .ref i => match cs[i]? with
    | some (.lst xs) => some (.lst xs, cs.set i .dead)
    | some (.ins c fs) => some (.ins c fs, cs.set i .dead)
    | _ => none
  | _ => none
theorem frz_go {K : PySem.W.Frag} {W : Wd} {H : Hp} {cs : List Cell} (R : Rel K cm W cs H) {d : D} {v : V} {Q : VK} (r : Rp K cm W d v) (P : Post K cm W (frzD d cs) Q) : Q v H := by
  cases r with
  | @ref i a e =>
    have P' : Post K cm W (match cs[i]? with
      | some (.lst xs) => some (D.lst xs, cs.set i .dead)
      | some (.ins c fs) => some (.ins c fs, cs.set i .dead)
      | _ => none) Q := P
    split at P'
    · rename_i xs ec
      obtain ⟨_, ys, e2, q⟩ := R.cel i a _ e ec
      obtain ⟨le, R2⟩ := R.frz e ec (by simp) e2
      obtain ⟨_, _, e3, k⟩ := P'
      cases e3
      exact k _ _ _ le R2 (.lst upd_same (q.up le))
    · rename_i c fs ec
      obtain ⟨_, dx, ys, e2, q⟩ := R.cel i a _ e ec
      obtain ⟨le, R2⟩ := R.frz e ec (by simp) e2
      obtain ⟨_, _, e3, k⟩ := P'
      cases e3
      exact k _ _ _ le R2 (.ins upd_same (q.up le))
    · exact absurd rfl P'.ne
  | _ => exact absurd rfl P.ne
def fFrz (f : Fe) : Fe := fun σ cs => (f σ cs).bind fun d c => up (frzD d c)
theorem fe_frz (h : FE X cm Y e fa) : FE X cm Y e (fFrz fa) := PE.weak h fun σ H Q ⟨W, σd, cs, R, E, h⟩ =>
  tE_go R E asksE h fun d c1 _ h1 W1 H1 v l1 R1 E1 r1 => frz_go R1 r1 ((PostE.down h1).up l1)
end
end PV

namespace PV
open PySem PySem.Spec PyProof.Rows L2
section
variable {X : Cx} {cm : Nat → Addr}

/-! ### operators -/
def mulOk (i j : Int) : Prop := i.natAbs.log2 + j.natAbs.log2 < 1000000 ∨ ((-(2 ^ 64) < i ∧ i < 2 ^ 64) ∨ (-(2 ^ 64) < j ∧ j < 2 ^ 64))
instance (i j : Int) : Decidable (mulOk i j) := by unfold mulOk; infer_instance
def powOk (i j : Int) : Prop := 0 ≤ j ∧ j ≤ 1000 ∧ i.natAbs.log2 < 100000
instance (i j : Int) : Decidable (powOk i j) := by unfold powOk; infer_instance
def divOk (j : Int) : Prop := 0 < j ∧ j.natAbs.log2 < 9000
instance (j : Int) : Decidable (divOk j) := by unfold divOk; infer_instance
def dAdd (fz : Bool) : G2 := fun x y cs => match x, y with
  | .int i, .int j => some (.int (i + j), cs)
  | .str i, .str j => if i.length + j.length ≤ sizeLine then some (.str (i ++ j), cs) else none
  | .tup (a :: xs), .tup ys => if (a :: xs).length + ys.length ≤ sizeLine then some (.tup ((a :: xs) ++ ys), cs) else none
  | x, y => match lstOf cs x, lstOf cs y with
    | some xs, some ys => if xs.length + ys.length ≤ sizeLine then mkL fz (xs ++ ys) cs else none
    | _, _ => none
theorem postLists {W : Wd} {H : Hp} {cs : List Cell} {fz : Bool} {Q : VK} (R : Rel X.K cm W cs H) {dx dy : D} {x y : V} (r1 : Rp X.K cm W dx x) (r2 : Rp X.K cm W dy y)
    (P : Post X.K cm W (match lstOf cs dx, lstOf cs dy with
    | some xs, some ys => if xs.length + ys.length ≤ sizeLine then PV.mkL fz (xs ++ ys) cs else none
    | _, _ => none) Q) : rCat x y H Q := by
  split at P
  · rename_i xs ys e1 e2
    split at P
    · rename_i hl
      obtain ⟨l, vs, rfl, h1, q1⟩ := lst_of R r1 e1
      obtain ⟨b, us, rfl, h2, q2⟩ := lst_of R r2 e2
      exact ⟨l, b, vs, us, rfl, rfl, h1, h2, by rw [← q1.length, ← q2.length]; exact hl, P.mkL R (q1.app q2)⟩
    · exact absurd rfl P.ne
  · exact absurd rfl P.ne
theorem op_dAdd (fz : Bool) : OpR X (binaryOp .Add) (rO2 X.K cm (dAdd fz)) := by
  intro pins s σ H x y v u Q I rx ry h
  obtain ⟨W, dx, dy, cs, R, r1, r2, P⟩ := h
  have lists : Post X.K cm W (match lstOf cs dx, lstOf cs dy with
    | some xs, some ys => if xs.length + ys.length ≤ sizeLine then mkL fz (xs ++ ys) cs else none
    | _, _ => none) Q → wpAny (model X.prog X.w) X.A (binaryOp .Add v u) (EP X pins σ Q) X.xe s := fun P => op_cat pins s σ H x y v u Q I rx ry (postLists R r1 r2 P)
  unfold dAdd at P
  split at P
  · cases r1; cases r2
    exact op_add pins s σ H _ _ v u Q I rx ry ⟨_, _, rfl, rfl, P.here R (.int _)⟩
  · cases r1; cases r2
    split at P
    · rename_i hl
      exact op_add_str pins s σ H _ _ v u Q I rx ry ⟨_, _, rfl, rfl, hl, P.here R (.str _)⟩
    · exact absurd rfl P.ne
  · rename_i a xs ys
    split at P
    · rename_i hl
      cases r1 with
      | tup g1 q1 =>
        cases r2 with
        | tup g2 q2 =>
          have ne : ∀ {us : List V}, Rps X.K cm W (a :: xs) us → us ≠ [] := fun h z => by subst z; cases h
          refine op_catT pins s σ H _ _ v u Q I rx ry ⟨_, _, _, _, rfl, rfl, SqT.of (R.sub _ _ g1), SqT.of (R.sub _ _ g2), ne q1, by rw [← q1.length, ← q2.length]; exact hl, fun z => ?_, fun z => ?_⟩
          · subst z
            cases q2
            rw [List.append_nil] at P
            exact P.here R (.tup g1 q1)
          · exact P.mkT R (q1.app q2)
    · exact absurd rfl P.ne
  · exact lists P
def dSub : G2 := fun x y cs => match x, y with
  | .int i, .int j => some (.int (i - j), cs)
  | _, _ => none
theorem op_dSub : OpR X (binaryOp .Sub) (rO2 X.K cm dSub) := by
  intro pins s σ H x y v u Q I rx ry h
  obtain ⟨W, dx, dy, cs, R, r1, r2, P⟩ := h
  unfold dSub at P
  split at P
  · cases r1; cases r2
    exact op_sub pins s σ H _ _ v u Q I rx ry ⟨_, _, rfl, rfl, P.here R (.int _)⟩
  · exact absurd rfl P.ne
def rep {α : Type} (k : Nat) (xs : List α) : List α := (List.replicate k xs).flatten
theorem Rps.rep {K : PySem.W.Frag} {W : Wd} {ds : List D} {xs : List V} (r : Rps K cm W ds xs) : ∀ k, Rps K cm W (rep k ds) (rep k xs)
  | 0 => .nil
  | k + 1 => by
    show Rps K cm W ((List.replicate (k + 1) ds).flatten) ((List.replicate (k + 1) xs).flatten)
    rw [List.replicate_succ, List.replicate_succ, List.flatten_cons, List.flatten_cons]
    exact r.app (Rps.rep r k)
def dMul (fz : Bool) : G2 := fun x y cs => match x, y with
  | .int i, .int j => if mulOk i j then some (.int (i * j), cs) else none
  | x, .int k => match lstOf cs x with
    | some xs => if -(2 ^ 63) ≤ k ∧ k < 2 ^ 63 ∧ xs.length * k.toNat ≤ sizeLine then mkL fz (rep k.toNat xs) cs else none
    | none => none
  | _, _ => none
theorem mul_ok {i j : Int} (h : mulOk i j) : IntMulOk i j := by
  rcases h with h | h
  · exact CMulW.ok h
  · exact CMul.ok h
theorem op_dMul (fz : Bool) : OpR X (binaryOp .Mult) (rO2 X.K cm (dMul fz)) := by
  intro pins s σ H x y v u Q I rx ry h
  obtain ⟨W, dx, dy, cs, R, r1, r2, P⟩ := h
  unfold dMul at P
  split at P
  · cases r1; cases r2
    split at P
    · rename_i hm
      obtain ⟨t, rfl⟩ := rx
      obtain ⟨t', rfl⟩ := ry
      exact mul_int ⟨.int _, H, I.tok _, ⟨_, rfl⟩, P.here R (.int _)⟩ (mul_ok hm)
    · exact absurd rfl P.ne
  · split at P
    · rename_i xs e
      split at P
      · rename_i hl
        cases r2
        obtain ⟨l, vs, rfl, h1, q1⟩ := lst_of R r1 e
        exact op_rep pins s σ H _ _ v u Q I rx ry ⟨l, _, vs, rfl, rfl, h1, hl.1, hl.2.1, by rw [← q1.length]; exact hl.2.2, P.mkL R (q1.rep _)⟩
      · exact absurd rfl P.ne
    · exact absurd rfl P.ne
  · exact absurd rfl P.ne
def dFdiv : G2 := fun x y cs => match x, y with
  | .int i, .int j => if divOk j then some (.int (i / j), cs) else none
  | _, _ => none
theorem op_dFdiv : OpR X (binaryOp .FloorDiv) (rO2 X.K cm dFdiv) := by
  intro pins s σ H x y v u Q I rx ry h
  obtain ⟨W, dx, dy, cs, R, r1, r2, P⟩ := h
  unfold dFdiv at P
  split at P
  · cases r1; cases r2
    split at P
    · rename_i hm
      exact op_fdivW pins s σ H _ _ v u Q I rx ry ⟨_, _, rfl, rfl, hm, P.here R (.int _)⟩
    · exact absurd rfl P.ne
  · exact absurd rfl P.ne
def dMod : G2 := fun x y cs => match x, y with
  | .int i, .int j => if 0 < j then some (.int (i % j), cs) else none
  | _, _ => none
theorem op_dMod : OpR X (binaryOp .Mod) (rO2 X.K cm dMod) := by
  intro pins s σ H x y v u Q I rx ry h
  obtain ⟨W, dx, dy, cs, R, r1, r2, P⟩ := h
  unfold dMod at P
  split at P
  · cases r1; cases r2
    split at P
    · rename_i hm
      exact op_mod pins s σ H _ _ v u Q I rx ry ⟨_, _, rfl, rfl, hm, P.here R (.int _)⟩
    · exact absurd rfl P.ne
  · exact absurd rfl P.ne
def dPow : G2 := fun x y cs => match x, y with
  | .int i, .int j => if powOk i j then some (.int (i ^ j.toNat), cs) else none
  | _, _ => none
theorem bits_le (i : Int) : Builtin.Int.intBits i ≤ i.natAbs.log2 + 1 := by
  unfold Builtin.Int.intBits
  split <;> omega
theorem op_dPow : OpR X (binaryOp .Pow) (rO2 X.K cm dPow) := by
  intro pins s σ H x y v u Q I rx ry h
  obtain ⟨W, dx, dy, cs, R, r1, r2, P⟩ := h
  unfold dPow at P
  split at P
  · rename_i i j
    cases r1; cases r2
    split at P
    · rename_i hm
      obtain ⟨t, rfl⟩ := rx
      obtain ⟨t', rfl⟩ := ry
      refine pow_int hm.1 ?_ ⟨.int _, H, I.tok _, ⟨_, rfl⟩, P.here R (.int _)⟩
      have h1 := bits_le i
      have h2 := hm.2.2
      have h3 : ((Builtin.Int.intBits i : Nat) : Int) ≤ 100000 := by omega
      have h4 : ((Builtin.Int.intBits i : Nat) : Int) * j ≤ 100000 * 1000 := Int.mul_le_mul h3 hm.2.1 hm.1 (by omega)
      exact Int.le_trans h4 (by decide)
    · exact absurd rfl P.ne
  · exact absurd rfl P.ne
def dBand : G2 := fun x y cs => match x, y with
  | .int i, .int j => some (.int (Builtin.bitAnd i j), cs)
  | _, _ => none
theorem op_dBand : OpR X (binaryOp .BitAnd) (rO2 X.K cm dBand) := by
  intro pins s σ H x y v u Q I rx ry h
  obtain ⟨W, dx, dy, cs, R, r1, r2, P⟩ := h
  unfold dBand at P
  split at P
  · cases r1; cases r2
    exact op_and pins s σ H _ _ v u Q I rx ry ⟨_, _, rfl, rfl, P.here R (.int _)⟩
  · exact absurd rfl P.ne
def dShr : G2 := fun x y cs => match x, y with
  | .int i, .int j => if 0 ≤ j then some (.int (i / 2 ^ j.toNat), cs) else none
  | _, _ => none
theorem op_dShr : OpR X (binaryOp .RShift) (rO2 X.K cm dShr) := by
  intro pins s σ H x y v u Q I rx ry h
  obtain ⟨W, dx, dy, cs, R, r1, r2, P⟩ := h
  unfold dShr at P
  split at P
  · cases r1; cases r2
    split at P
    · rename_i hm
      exact op_shr pins s σ H _ _ v u Q I rx ry ⟨_, _, rfl, rfl, hm, P.here R (.int _)⟩
    · exact absurd rfl P.ne
  · exact absurd rfl P.ne
def dNeg : D → List Cell → Rs D := fun x cs => match x with
  | .int i => some (.int (-i), cs)
  | _ => none
theorem op_dNeg : UnR X (unaryOp .USub) (rO1 X.K cm dNeg) := by
  intro pins s σ H x v Q I rx h
  obtain ⟨W, dx, cs, R, r1, P⟩ := h
  unfold dNeg at P
  split at P
  · cases r1
    exact un_neg pins s σ H _ v Q I rx ⟨_, rfl, P.here R (.int _)⟩
  · exact absurd rfl P.ne

/-! ### comparisons -/
def dCmp (p : Int → Int → Bool) : G2 := fun x y cs => match x, y with
  | .int i, .int j => some (.bl (p i j), cs)
  | _, _ => none
theorem cmp_of {op : CmpOp} {p : Int → Int → Bool} (ho : OpR X (compareOp op) (rI0 fun i j => .bl (p i j))) : OpR X (compareOp op) (rO2 X.K cm (dCmp p)) := by
  intro pins s σ H x y v u Q I rx ry h
  obtain ⟨W, dx, dy, cs, R, r1, r2, P⟩ := h
  unfold dCmp at P
  split at P
  · cases r1; cases r2
    exact ho pins s σ H _ _ v u Q I rx ry ⟨_, _, rfl, rfl, P.here R (.bl _)⟩
  · exact absurd rfl P.ne
abbrev dLt : G2 := dCmp fun i j => decide (i < j)
abbrev dLe : G2 := dCmp fun i j => decide (i ≤ j)
abbrev dGt : G2 := dCmp fun i j => decide (j < i)
abbrev dGe : G2 := dCmp fun i j => decide (j ≤ i)
theorem op_dLt : OpR X (compareOp .Lt) (rO2 X.K cm dLt) := cmp_of op_lt
theorem op_dLe : OpR X (compareOp .LtE) (rO2 X.K cm dLe) := cmp_of op_le
theorem op_dGt : OpR X (compareOp .Gt) (rO2 X.K cm dGt) := cmp_of op_gt
theorem op_dGe : OpR X (compareOp .GtE) (rO2 X.K cm dGe) := cmp_of op_ge
/-- == of data -/
def dEq (neg : Bool) : G2 := fun x y cs => match toP cs x, toP cs y with
  | some p, some q => if SeqAt.shaped p = true ∧ SeqAt.shaped q = true then some (.bl (if neg then !PyData.eqv p q else PyData.eqv p q), cs) else none
  | _, _ => none
theorem op_dEq (hu : X.A.units + 64 < cLine) : OpR X (compareOp .Eq) (rO2 X.K cm (dEq false)) := by
  intro pins s σ H x y v u Q I rx ry h
  obtain ⟨W, dx, dy, cs, R, r1, r2, P⟩ := h
  unfold dEq at P
  split at P
  · rename_i p q e1 e2
    split at P
    · rename_i hs
      exact op_eqD hu pins s σ H _ _ v u Q I rx ry ⟨p, q, toP_ok R r1 e1, toP_ok R r2 e2, hs.1, hs.2, P.here R (.bl _)⟩
    · exact absurd rfl P.ne
  · exact absurd rfl P.ne
theorem op_dNe (hu : X.A.units + 64 < cLine) : OpR X (compareOp .NotEq) (rO2 X.K cm (dEq true)) := by
  intro pins s σ H x y v u Q I rx ry h
  obtain ⟨W, dx, dy, cs, R, r1, r2, P⟩ := h
  unfold dEq at P
  split at P
  · rename_i p q e1 e2
    split at P
    · rename_i hs
      exact op_neD hu pins s σ H _ _ v u Q I rx ry ⟨p, q, toP_ok R r1 e1, toP_ok R r2 e2, hs.1, hs.2, P.here R (.bl _)⟩
    · exact absurd rfl P.ne
  · exact absurd rfl P.ne
def isNon : D → Bool
  | .non => true
  | _ => false
theorem isNon_of {K : PySem.W.Frag} {W : Wd} {d : D} {v : V} (r : Rp K cm W d v) : decide (v = V.non) = isNon d := by
  cases r <;> rfl
/-- is, is not: of None, of truth values -/
def dIs (neg : Bool) : G2 := fun x y cs => match x, y with
  | x, .non => some (.bl (if neg then !isNon x else isNon x), cs)
  | .bl a, .bl b => some (.bl (if neg then !decide (a = b) else decide (a = b)), cs)
  | _, _ => none
theorem op_dIs : OpR X (compareOp .Is) (rO2 X.K cm (dIs false)) := by
  intro pins s σ H x y v u Q I rx ry h
  obtain ⟨W, dx, dy, cs, R, r1, r2, P⟩ := h
  unfold dIs at P
  split at P
  · cases r2
    exact op_isN pins s σ H _ _ v u Q I rx ry ⟨rfl, by rw [isNon_of r1]; exact P.here R (.bl _)⟩
  · cases r1; cases r2
    exact op_isBl pins s σ H _ _ v u Q I rx ry ⟨_, _, rfl, rfl, P.here R (.bl _)⟩
  · exact absurd rfl P.ne
theorem op_dIsNot : OpR X (compareOp .IsNot) (rO2 X.K cm (dIs true)) := by
  intro pins s σ H x y v u Q I rx ry h
  obtain ⟨W, dx, dy, cs, R, r1, r2, P⟩ := h
  unfold dIs at P
  split at P
  · cases r2
    exact op_notN pins s σ H _ _ v u Q I rx ry ⟨rfl, by rw [isNon_of r1]; exact P.here R (.bl _)⟩
  · cases r1; cases r2
    exact op_notBl pins s σ H _ _ v u Q I rx ry ⟨_, _, rfl, rfl, P.here R (.bl _)⟩
  · exact absurd rfl P.ne
/-- in, not in, of a list of data; of a tuple of flat data -/
def flatD : D → Option V
  | .non => some .non
  | .bl b => some (.bl b)
  | .int i => some (.int i)
  | .str x => some (.str x)
  | _ => none
def flatDs : List D → Option (List V)
  | [] => some []
  | d :: ds => match flatD d, flatDs ds with
    | some v, some vs => some (v :: vs)
    | _, _ => none
theorem flatD_of {K : PySem.W.Frag} {W : Wd} {d : D} {v w : V} (r : Rp K cm W d v) (e : flatD d = some w) : v = w ∧ flatV w = true := by
  cases r <;> first | (cases e; exact ⟨rfl, rfl⟩) | cases e
theorem flatDs_of {K : PySem.W.Frag} {W : Wd} : ∀ {ds : List D} {vs ws : List V}, Rps K cm W ds vs → flatDs ds = some ws → vs = ws ∧ ws.all flatV = true
  | _, _, _, .nil, e => by cases e; exact ⟨rfl, rfl⟩
  | d :: ds, _, _, .cons h r, e => by
    unfold flatDs at e
    split at e
    · rename_i v vs e1 e2
      cases e
      obtain ⟨a, b⟩ := flatD_of h e1
      obtain ⟨c, f⟩ := flatDs_of r e2
      subst a c
      exact ⟨rfl, by rw [List.all_cons, b, f]; rfl⟩
    · cases e
def dIn (neg : Bool) : G2 := fun x y cs => match y with
  | .tup ys => match flatD x, flatDs ys with
    | some v, some vs => some (.bl (if neg then !inV v vs else inV v vs), cs)
    | _, _ => none
  | y => match toP cs x, toP cs y with
    | some d, some (.list ds) => if SeqAt.shaped d = true ∧ SeqAt.shaped (.list ds) = true then some (.bl (if neg then !ds.any (fun z => PyData.eqv z d) else ds.any fun z => PyData.eqv z d), cs) else none
    | _, _ => none
theorem op_dIn (hu : X.A.units + 65 < cLine) : OpR X (compareOp .In) (rO2 X.K cm (dIn false)) := by
  intro pins s σ H x y v u Q I rx ry h
  obtain ⟨W, dx, dy, cs, R, r1, r2, P⟩ := h
  unfold dIn at P
  split at P
  · split at P
    · rename_i w ws e1 e2
      cases r2 with
      | tup g q =>
        obtain ⟨a, b⟩ := flatD_of r1 e1
        obtain ⟨c, f⟩ := flatDs_of q e2
        subst a c
        exact op_in_seq pins s σ H _ _ v u Q I rx ry ⟨_, _, rfl, .inr (SqT.of (R.sub _ _ g)), b, f, P.here R (.bl _)⟩
    · exact absurd rfl P.ne
  · split at P
    · rename_i d ds e1 e2
      split at P
      · rename_i hs
        exact op_inD hu pins s σ H _ _ v u Q I rx ry ⟨d, ds, toP_ok R r1 e1, toP_ok R r2 e2, hs.1, hs.2, P.here R (.bl _)⟩
      · exact absurd rfl P.ne
    · exact absurd rfl P.ne
theorem op_dNotIn (hu : X.A.units + 65 < cLine) : OpR X (compareOp .NotIn) (rO2 X.K cm (dIn true)) := by
  intro pins s σ H x y v u Q I rx ry h
  obtain ⟨W, dx, dy, cs, R, r1, r2, P⟩ := h
  unfold dIn at P
  split at P
  · split at P
    · rename_i w ws e1 e2
      cases r2 with
      | tup g q =>
        obtain ⟨a, b⟩ := flatD_of r1 e1
        obtain ⟨c, f⟩ := flatDs_of q e2
        subst a c
        exact op_notIn_seq pins s σ H _ _ v u Q I rx ry ⟨_, _, rfl, .inr (SqT.of (R.sub _ _ g)), b, f, P.here R (.bl _)⟩
    · exact absurd rfl P.ne
  · split at P
    · rename_i d ds e1 e2
      split at P
      · rename_i hs
        exact op_notInD hu pins s σ H _ _ v u Q I rx ry ⟨d, ds, toP_ok R r1 e1, toP_ok R r2 e2, hs.1, hs.2, P.here R (.bl _)⟩
      · exact absurd rfl P.ne
    · exact absurd rfl P.ne

/-! ### subscripts, slices -/
def ixD {α : Type} (xs : List α) (i : Int) : Option α := atI xs i
theorem atI_rps {K : PySem.W.Frag} {W : Wd} {ds : List D} {vs : List V} (r : Rps K cm W ds vs) {i : Int} {d : D} (h : atI ds i = some d) : ∃ v, atI vs i = some v ∧ Rp K cm W d v := by
  unfold atI at h ⊢
  rw [← r.length]
  cases e : ixN ds.length i with
  | none => rw [e] at h; cases h
  | some j =>
    rw [e] at h
    obtain ⟨v, h1, h2⟩ := r.get (show ds[j]? = some d from h)
    exact ⟨v, h1, h2⟩
def dIx : G2 := fun x y cs => match y with
  | .int i => match x with
    | .str z => if z.length ≤ sizeLine then (atI z.cps.toList i).map fun c => (.str ⟨#[c]⟩, cs) else none
    | x => match seqOf cs x with
      | some xs => (atI xs i).map fun d => (d, cs)
      | none => none
  | _ => none
theorem ix_d : IxR X (rO2 X.K cm dIx) := by
  intro value slice pins s σ H x y v u Q I rx ry h hs
  obtain ⟨W, dx, dy, cs, R, r1, r2, P⟩ := h
  unfold dIx at P
  split at P
  · rename_i i
    cases r2
    split at P
    · rename_i z
      cases r1
      split at P
      · rename_i hl
        cases e : atI z.cps.toList i with
        | none => rw [e] at P; exact absurd rfl P.ne
        | some c =>
          rw [e] at P
          exact ix_str value slice pins s σ H _ _ v u Q I rx ry ⟨z, i, c, rfl, rfl, hl, e, P.here R (.str _)⟩ hs
      · exact absurd rfl P.ne
    · split at P
      · rename_i xs e
        obtain ⟨a, vs, rfl, hq, rr⟩ := seq_of R r1 e
        cases e2 : atI xs i with
        | none => rw [e2] at P; exact absurd rfl P.ne
        | some d =>
          rw [e2] at P
          obtain ⟨w, h1, h2⟩ := atI_rps rr e2
          rcases hq with hq | hq
          · exact ix_list value slice pins s σ H _ _ v u Q I rx ry ⟨a, vs, i, w, rfl, rfl, hq, h1, P.here R h2⟩ hs
          · exact ix_tup value slice pins s σ H _ _ v u Q I rx ry ⟨a, vs, i, w, rfl, rfl, hq, h1, P.here R h2⟩ hs
      · exact absurd rfl P.ne
  · exact absurd rfl P.ne
variable {Y : WX} {a b e : Expr} {fa fb fe fl fh : Fe} {pos p2 : Pos}
theorem fe_ix (ha : FE X cm Y a fa) (hb : FE X cm Y b fb) (hs : PlainIx b := by intro _ _; rfl) : FE X cm Y (.Subscript a b pos) (fOp2 dIx fa fb) := PE.weak (pe_ix ix_d ha hb hs) fun _ _ _ => two_go
abbrev Fo := Sd → List Cell → Out (Option Int)
def oNone : Fo := fun _ cs => .ok none cs
def oSome (f : Fe) : Fo := fun σ cs => (f σ cs).bind fun d c => match d with
  | .int i => .ok (some i) c
  | _ => .no
def PostO (K : PySem.W.Frag) (cm : Nat → Addr) (Y : WX) (σ : L2.St) (W : Wd) (r : Out (Option Int)) (Q : Option Int → Hp → Prop) : Prop := match r with
  | .ok d cs => ∀ W' H', W.le W' → Rel K cm W' cs H' → Q d H'
  | .ex x cs => Wish K cm Y σ W x cs
  | .no => False
theorem asksO {K : PySem.W.Frag} {W : Wd} {σ : L2.St} {Q : Option Int → Hp → Prop} : Asks K cm Y σ W (fun r => PostO K cm Y σ W r Q) := ⟨fun h => h, fun _ _ h => h⟩
theorem PostO.up {K : PySem.W.Frag} {W W1 : Wd} {σ : L2.St} (le : W.le W1) {r : Out (Option Int)} {Q : Option Int → Hp → Prop} (h : PostO K cm Y σ W r Q) : PostO K cm Y σ W1 r Q := by
  cases r with
  | ok d cs => exact fun W' H' l => h W' H' (le.trans l)
  | ex x cs => exact Wish.up le h
  | no => exact h
def tO (K : PySem.W.Frag) (cm : Nat → Addr) (Y : WX) (f : Fo) : L2.St → Hp → (Option Int → Hp → Prop) → Prop := fun σ H Q => ∃ W σd cs, Rel K cm W cs H ∧ En K cm W σd σ ∧ PostO K cm Y σ W (f σd cs) Q
theorem tO_go {K : PySem.W.Frag} {W : Wd} {σ : L2.St} {f : Fo} {H : Hp} {σd : Sd} {cs : List Cell} {β : Type} {k : Option Int → List Cell → Out β} {P : Out β → Prop} (R : Rel K cm W cs H) (E : En K cm W σd σ) {Q : Option Int → Hp → Prop}
    (hP : Asks K cm Y σ W P) (h : P (Out.bind (f σd cs) k)) (go : ∀ d c1, f σd cs = .ok d c1 → P (k d c1) → ∀ W' H', W.le W' → Rel K cm W' c1 H' → En K cm W' σd σ → Q d H') : tO K cm Y f σ H Q := by
  refine ⟨W, σd, cs, R, E, ?_⟩
  cases e : f σd cs with
  | no => rw [e] at h; exact (hP.no h).elim
  | ex x c => rw [e] at h; exact hP.ex x c h
  | ok d c1 => rw [e] at h; exact fun W' H' l R' => go d c1 e h W' H' l R' (E.up l)
theorem PO.weak {o : Option Expr} {t t' : L2.St → Hp → (Option Int → Hp → Prop) → Prop} (h : PO X o t) (m : ∀ σ H Q, t' σ H Q → t σ H Q) : PO X o t' := ⟨fun pins s σ H Q I q => h.run pins s σ H Q I (m σ H Q q)⟩
theorem fo_none : PO X none (tO X.K cm Y oNone) := PO.weak po_none fun σ H Q ⟨W, σd, cs, R, E, P⟩ => P W H (.refl W) R
theorem fo_some (h : FE X cm Y e fe) : PO X (some e) (tO X.K cm Y (oSome fe)) := PO.weak (po_some h) fun σ H Q ⟨W, σd, cs, R, E, P⟩ => by
  refine tE_go R E asksO P fun d c1 _ h1 W1 H1 v l1 R1 E1 r1 => ?_
  cases r1 with
  | int i => exact ⟨i, rfl, (h1.up l1) W1 H1 (.refl W1) R1⟩
  | _ => exact h1.elim
def cut {α : Type} (xs : List α) (lo hi : Option Int) : List α := (xs.drop (HT.sIx xs.length 0 lo)).take (HT.sIx xs.length xs.length hi - HT.sIx xs.length 0 lo)
theorem Rps.cut {K : PySem.W.Frag} {W : Wd} {ds : List D} {vs : List V} (r : Rps K cm W ds vs) (lo hi : Option Int) : Rps K cm W (cut ds lo hi) (cutV vs lo hi) := by
  unfold PV.cut cutV
  rw [r.length]
  exact (r.drop _).take _
/-- x[lo:hi] -/
def dSl (fz : Bool) (x : D) (lo hi : Option Int) (cs : List Cell) : Rs D := match x with
  | .str z => if z.length ≤ sizeLine then some (.str (cutS z lo hi), cs) else none
  | .tup xs => if HT.sIx xs.length 0 lo = 0 ∧ HT.sIx xs.length xs.length hi = xs.length then none else some (.tup (cut xs lo hi), cs)
  | .argT _ => none
  | x => match seqOf cs x with
    | some xs => mkL fz (cut xs lo hi) cs
    | none => none
def fSl (fz : Bool) (f : Fe) (lo hi : Fo) : Fe := fun σ cs => (f σ cs).bind fun x c1 => (lo σ c1).bind fun l c2 => (hi σ c2).bind fun u c3 => up (dSl fz x l u c3)
theorem sl_d {W : Wd} (fz : Bool) : SlR X (fun x lo hi H Q => ∃ W d cs, Rel X.K cm W cs H ∧ Rp X.K cm W d x ∧ Post X.K cm W (dSl fz d lo hi cs) Q) := by
  intro pins s σ H x v vl vu lo hi sl Q I rx hs pl pu h
  obtain ⟨W, d, cs, R, r, P⟩ := h
  unfold dSl at P
  split at P
  · rename_i z
    cases r
    split at P
    · rename_i hl
      exact sl_str pins s σ H _ v vl vu lo hi sl Q I rx hs pl pu ⟨z, rfl, hl, P.here R (.str _)⟩
    · exact absurd rfl P.ne
  · rename_i xs
    split at P
    · exact absurd rfl P.ne
    · rename_i hn
      cases r with
      | tup g q =>
        refine sl_tup pins s σ H _ v vl vu lo hi sl Q I rx hs pl pu ⟨_, _, rfl, SqT.of (R.sub _ _ g), ?_, P.mkT R (q.cut lo hi)⟩
        rw [← q.length]; exact hn
  · exact absurd rfl P.ne
  · rename_i d _ nt nt2
    split at P
    · rename_i xs e
      obtain ⟨a, vs, rfl, hq, rr⟩ := seq_of R r e
      rcases hq with hq | hq
      · exact sl_list pins s σ H _ v vl vu lo hi sl Q I rx hs pl pu ⟨a, vs, rfl, hq, P.mkL R (rr.cut lo hi)⟩
      · exfalso
        -- a tuple is caught above
        cases r with
        | tup g q => exact nt _ rfl
        | argT g q => exact nt2 _ rfl
        | lst g q => 
          have e1 := I.tuple hq
          obtain ⟨its, _, ⟨o, e1, c1, _⟩, _⟩ := e1
          obtain ⟨its2, _, ⟨o2, _, e2, c2, _⟩, _⟩ := I.list (SqL.of (R.sub _ _ g))
          rw [e1] at e2; cases e2
          rw [c1] at c2; exact absurd (Value.type.inj c2) (by decide)
        | arg g q =>
          obtain ⟨its, _, ⟨o, e1, c1, _⟩, _⟩ := I.tuple hq
          obtain ⟨its2, _, ⟨o2, _, e2, c2, _⟩, _⟩ := I.list (sqL_le R.sub g)
          rw [e1] at e2; cases e2
          rw [c1] at c2; exact absurd (Value.type.inj c2) (by decide)
        | @ref i a ei =>
          have h' : (match cs[i]? with | some (.lst xs) => some xs | _ => none) = some xs := e
          split at h'
          · rename_i ys ec
            obtain ⟨_, zs, e3, _⟩ := R.cel i a _ ei ec
            obtain ⟨its, _, ⟨o, e1, c1, _⟩, _⟩ := I.tuple hq
            obtain ⟨its2, _, ⟨o2, _, e2, c2, _⟩, _⟩ := I.list (SqL.of e3)
            rw [e1] at e2; cases e2
            rw [c1] at c2; exact absurd (Value.type.inj c2) (by decide)
          · cases h'
        | _ => cases e
    · exact absurd rfl P.ne
theorem fe_slice (fz : Bool) {lo hi : Option Expr} {ol oh : Fo} (he : FE X cm Y e fe) (hl : PO X lo (tO X.K cm Y ol)) (hh : PO X hi (tO X.K cm Y oh)) : FE X cm Y (.Subscript e (.Slice lo hi none p2) pos) (fSl fz fe ol oh) :=
  PE.weak (pe_slice (sl_d (W := ⟨fun _ => none, [], []⟩) fz) he hl hh) fun σ H Q ⟨W, σd, cs, R, E, h⟩ => by
    refine tE_go R E asksE h fun d c1 _ h1 W1 H1 v l1 R1 E1 r1 => ?_
    refine tO_go R1 E1 asksE (h1.up l1) fun o c2 _ h2 W2 H2 l2 R2 E2 => ?_
    refine tO_go R2 E2 asksE (h2.up l2) fun o3 c3 _ h3 W3 H3 l3 R3 E3 => ?_
    exact ⟨W3, d, c3, R3, (r1.up l2).up l3, (PostE.down h3).up l3⟩

/-! ### argument lists, displays -/
variable {es : List Expr} {gs : Fa}
def aNil : Fa := fun _ cs => .ok [] cs
def aCons (f : Fe) (g : Fa) : Fa := fun σ cs => (f σ cs).bind fun d c1 => (g σ c1).bind fun ds c2 => Out.ok (d :: ds) c2
theorem fa_nil : FA X cm Y [] aNil := PA.weak pa_nil fun σ H Q ⟨W, σd, cs, R, E, P⟩ => P.here R .nil
theorem fa_cons (ha : FE X cm Y e fe) (hr : FA X cm Y es gs) (hs : starEach (e :: es) X.env = (false, eval e X.env) :: starEach es X.env := by rfl) : FA X cm Y (e :: es) (aCons fe gs) := PA.weak (pa_cons ha hr hs) fun σ H Q ⟨W, σd, cs, R, E, h⟩ => by
  refine tE_go R E asksA h fun d c1 _ h1 W1 H1 v l1 R1 E1 r1 => ?_
  refine tA_go R1 E1 asksA (h1.up l1) fun d2 c2 _ h2 W2 H2 v2 l2 R2 E2 r2 => ?_
  exact (h2.up l2).here R2 (.cons (r1.up l2) r2)
def fTup (g : Fa) : Fe := fun σ cs => (g σ cs).bind fun ds c => if ds.length ≤ sizeLine then .ok (.tup ds) c else .no
theorem fe_tup {x1} (h : FA X cm Y es gs) : FE X cm Y (.Tuple es x1 pos) (fTup gs) := PE.weak (pe_tup h) fun σ H Q ⟨W, σd, cs, R, E, h⟩ => by
  refine tA_go R E asksE h fun d c1 _ h1 W1 H1 v l1 R1 E1 r1 => ?_
  split at h1
  · rename_i hl
    exact ⟨by rw [← r1.length]; exact hl, (PostE.down (r := some (.tup d, c1)) (h1.up l1)).mkT R1 r1⟩
  · exact h1.elim
def fLst (fz : Bool) (g : Fa) : Fe := fun σ cs => (g σ cs).bind fun ds c => if ds.length ≤ sizeLine then up (mkL fz ds c) else .no
theorem fe_lst (fz : Bool) (h : FA X cm Y es gs) : FE X cm Y (.List es pos) (fLst fz gs) := PE.weak (pe_lst h) fun σ H Q ⟨W, σd, cs, R, E, h⟩ => by
  refine tA_go R E asksE h fun d c1 _ h1 W1 H1 v l1 R1 E1 r1 => ?_
  split at h1
  · rename_i hl
    exact ⟨by rw [← r1.length]; exact hl, (PostE.down (h1.up l1)).mkL R1 r1⟩
  · exact h1.elim

/-! ### calls of built-ins -/
abbrev GC := List D → List Cell → Rs D
def fCB (g : GC) (fa : Fa) : Fe := fun σ cs => (fa σ cs).bind fun d c => up (g d c)
theorem cb_go {K : PySem.W.Frag} {g : GC} {σ : L2.St} {H : Hp} {Q : VK} (m : tE K cm Y (fCB g gs) σ H Q) : tCB (rCa K cm g) (tA K cm Y gs) σ H Q := by
  obtain ⟨W, σd, cs, R, E, h⟩ := m
  exact tA_go R E asksE h fun d c1 _ h1 W1 H1 v l1 R1 E1 r1 => ⟨W1, d, c1, R1, r1, (PostE.down h1).up l1⟩
theorem fe_callB {g : GC} {id : String} {x : Str} {p : Pos} (hc : CallR X (.builtin id) (rCa X.K cm g)) (hm : X.mg x = none) (hv : bootBuiltins x = some (.builtin id)) (ha : FA X cm Y (e :: es) gs) (hg : Gl X x := by rfl) (hn : x ≠ "__name__" := by decide) (hdb : (x == ("__debug__" : Str)) = false := by decide)
    (he : starEach (e :: es) X.env = (false, eval e X.env) :: starEach es X.env := by rfl) (hpl : (backTo pos (starEach es X.env)).any (·.1) = false := by rfl) : FE X cm Y (.Call (.Name x p) (e :: es) [] pos) (fCB g gs) := PE.weak (pe_callB hc hg hm hv ha hn hdb he hpl) fun _ _ _ => cb_go
theorem fe_callTy {g : GC} {T : String} {x : Str} {p : Pos} (hc : CallR X (.type T) (rCa X.K cm g)) (hm : X.mg x = none) (hv : bootBuiltins x = some (.type T)) (ha : FA X cm Y (e :: es) gs) (hg : Gl X x := by rfl) (hn : x ≠ "__name__" := by decide) (hdb : (x == ("__debug__" : Str)) = false := by decide)
    (he : starEach (e :: es) X.env = (false, eval e X.env) :: starEach es X.env := by rfl) (hpl : (backTo pos (starEach es X.env)).any (·.1) = false := by rfl) : FE X cm Y (.Call (.Name x p) (e :: es) [] pos) (fCB g gs) := PE.weak (pe_callTy hc hg hm hv ha hn hdb he hpl) fun _ _ _ => cb_go
section
theorem Rps.one {K : PySem.W.Frag} {W : Wd} {d : D} {vs : List V} (r : Rps K cm W [d] vs) : ∃ v, vs = [v] ∧ Rp K cm W d v := by
  cases r with | cons h t => cases t; exact ⟨_, rfl, h⟩
theorem Rps.two {K : PySem.W.Frag} {W : Wd} {d d' : D} {vs : List V} (r : Rps K cm W [d, d'] vs) : ∃ v w, vs = [v, w] ∧ Rp K cm W d v ∧ Rp K cm W d' w := by
  cases r with | cons h t => cases t with | cons h2 t => cases t; exact ⟨_, _, rfl, h, h2⟩
def dLen : GC := fun ds cs => match ds with
  | [.str x] => if x.length ≤ sizeLine then some (.int x.length, cs) else none
  | [d] => (seqOf cs d).map fun xs => (.int xs.length, cs)
  | _ => none
theorem call_dLen : CallR X (.builtin "len") (rCa X.K cm dLen) := by
  intro pins s σ H xs us Q I rx h
  obtain ⟨W, ds, cs, R, r, P⟩ := h
  unfold dLen at P
  split at P
  · split at P
    · rename_i hl
      obtain ⟨v, rfl, q1⟩ := r.one
      cases q1
      exact call_len_str pins s σ H _ us Q I rx ⟨_, rfl, hl, P.here R (.int _)⟩
    · exact absurd rfl P.ne
  · rename_i d _
    obtain ⟨v, rfl, q1⟩ := r.one
    cases e : seqOf cs d with
    | none => rw [e] at P; exact absurd rfl P.ne
    | some ys =>
      rw [e] at P
      obtain ⟨a, vs, rfl, hq, rr⟩ := seq_of R q1 e
      exact call_len_seq pins s σ H _ us Q I rx ⟨a, vs, rfl, hq, by rw [← rr.length]; exact P.here R (.int _)⟩
  · exact absurd rfl P.ne
def dAbs : GC := fun ds cs => match ds with
  | [.int i] => some (.int (if i < 0 then -i else i), cs)
  | _ => none
theorem call_dAbs : CallR X (.builtin "abs") (rCa X.K cm dAbs) := by
  intro pins s σ H xs us Q I rx h
  obtain ⟨W, ds, cs, R, r, P⟩ := h
  unfold dAbs at P
  split at P
  · obtain ⟨v, rfl, q1⟩ := r.one
    cases q1
    exact call_abs pins s σ H _ us Q I rx ⟨_, rfl, P.here R (.int _)⟩
  · exact absurd rfl P.ne
def isI : D → Option Int
  | .int i => some i
  | _ => none
def isB : D → Option Bool
  | .bl i => some i
  | _ => none
theorem isI_eq {d : D} {i : Int} (h : isI d = some i) : d = .int i := by
  cases d <;> first | (cases h; rfl) | cases h
theorem isB_eq {d : D} {i : Bool} (h : isB d = some i) : d = .bl i := by
  cases d <;> first | (cases h; rfl) | cases h
/-- a list of ints -/
def intsOf : List D → Option (List Int)
  | [] => some []
  | d :: r => match isI d, intsOf r with
    | some i, some l => some (i :: l)
    | _, _ => none
theorem intsOf_eq : ∀ {ds : List D} {ns : List Int}, intsOf ds = some ns → ds = ns.map D.int
  | [], _, e => by cases e; rfl
  | d :: r, ns, e => by
    unfold intsOf at e
    split at e
    · rename_i i l e1 e2
      cases e
      rw [isI_eq e1, intsOf_eq e2]; rfl
    · cases e
def blsOf : List D → Option (List Bool)
  | [] => some []
  | d :: r => match isB d, blsOf r with
    | some i, some l => some (i :: l)
    | _, _ => none
theorem blsOf_eq : ∀ {ds : List D} {ns : List Bool}, blsOf ds = some ns → ds = ns.map D.bl
  | [], _, e => by cases e; rfl
  | d :: r, ns, e => by
    unfold blsOf at e
    split at e
    · rename_i i l e1 e2
      cases e
      rw [isB_eq e1, blsOf_eq e2]; rfl
    · cases e
theorem intsOf_map : ∀ ns : List Int, intsOf (ns.map D.int) = some ns
  | [] => rfl
  | n :: ns => by simp only [List.map_cons, intsOf, isI, intsOf_map ns]
theorem blsOf_map : ∀ ns : List Bool, blsOf (ns.map D.bl) = some ns
  | [] => rfl
  | n :: ns => by simp only [List.map_cons, blsOf, isB, blsOf_map ns]
/-- a list (no tuple) that is read -/
def rdL (cs : List Cell) : D → Option (List D)
  | .lst xs => some xs
  | .arg xs => some xs
  | .ref i => match cs[i]? with
    | some (.lst xs) => some xs
    | _ => none
  | _ => none
theorem rdL_of {K : PySem.W.Frag} {W : Wd} {H : Hp} {cs : List Cell} (R : Rel K cm W cs H) {d : D} {v : V} {ds : List D} (r : Rp K cm W d v) (h : rdL cs d = some ds) : ∃ a xs, v = .ref a ∧ SqL K H a xs ∧ Rps K cm W ds xs := by
  cases r with
  | lst g q => cases h; exact ⟨_, _, rfl, SqL.of (R.sub _ _ g), q⟩
  | arg g q => cases h; exact ⟨_, _, rfl, sqL_le R.sub g, q⟩
  | @ref i a e =>
    have h' : (match cs[i]? with | some (.lst xs) => some xs | _ => none) = some ds := h
    split at h'
    · rename_i xs ec
      cases h'
      obtain ⟨_, ys, e2, q⟩ := R.cel i a _ e ec
      exact ⟨a, ys, rfl, SqL.of e2, q⟩
    · cases h'
  | _ => cases h
def intsAt (cs : List Cell) (d : D) : Option (List Int) := (rdL cs d).bind intsOf
theorem intsAt_of {K : PySem.W.Frag} {W : Wd} {H : Hp} {cs : List Cell} (R : Rel K cm W cs H) {d : D} {v : V} {ns : List Int} (r : Rp K cm W d v) (h : intsAt cs d = some ns) : ∃ a, v = .ref a ∧ SqL K H a (ns.map V.int) := by
  unfold intsAt at h
  cases e : rdL cs d with
  | none => rw [e] at h; cases h
  | some ds =>
    rw [e] at h
    obtain ⟨a, xs, rfl, hq, rr⟩ := rdL_of R r e
    rw [intsOf_eq h] at rr
    rw [rr.ints] at hq
    exact ⟨a, rfl, hq⟩
def maxL : List Int → Int
  | [] => 0
  | [a] => a
  | a :: r => if a ≤ maxL r then maxL r else a
def minL : List Int → Int
  | [] => 0
  | [a] => a
  | a :: r => if minL r ≤ a then minL r else a
theorem maxL_le : ∀ {ns : List Int} {y : Int}, y ∈ ns → y ≤ maxL ns
  | [a], y, h => by simp at h; subst h; exact Int.le_refl _
  | a :: b :: r, y, h => by
    show y ≤ if a ≤ maxL (b :: r) then maxL (b :: r) else a
    rcases List.mem_cons.mp h with e | h
    · subst e; split <;> omega
    · have := maxL_le h
      split <;> omega
theorem maxL_mem : ∀ {ns : List Int}, ns ≠ [] → maxL ns ∈ ns
  | [a], _ => by simp [maxL]
  | a :: b :: r, _ => by
    show (if a ≤ maxL (b :: r) then maxL (b :: r) else a) ∈ _
    split
    · exact List.mem_cons_of_mem _ (maxL_mem (by simp))
    · simp
theorem minL_le : ∀ {ns : List Int} {y : Int}, y ∈ ns → minL ns ≤ y
  | [a], y, h => by simp at h; subst h; exact Int.le_refl _
  | a :: b :: r, y, h => by
    show (if minL (b :: r) ≤ a then minL (b :: r) else a) ≤ y
    rcases List.mem_cons.mp h with e | h
    · subst e; split <;> omega
    · have := minL_le h
      split <;> omega
theorem minL_mem : ∀ {ns : List Int}, ns ≠ [] → minL ns ∈ ns
  | [a], _ => by simp [minL]
  | a :: b :: r, _ => by
    show (if minL (b :: r) ≤ a then minL (b :: r) else a) ∈ _
    split
    · exact List.mem_cons_of_mem _ (minL_mem (by simp))
    · simp
def dMax : GC := fun ds cs => match ds with
  | [.int i, .int j] => some (.int (if j > i then j else i), cs)
  | [d] => match intsAt cs d with
    | some (n :: ns) => some (.int (maxL (n :: ns)), cs)
    | _ => none
  | _ => none
theorem call_dMax (hc : X.calm = true) : CallR X (.builtin "max") (rCa X.K cm dMax) := by
  intro pins s σ H xs us Q I rx h
  obtain ⟨W, ds, cs, R, r, P⟩ := h
  unfold dMax at P
  split at P
  · obtain ⟨v, w, rfl, q1, q2⟩ := r.two
    cases q1; cases q2
    exact call_max2 hc pins s σ H _ us Q I rx ⟨_, _, rfl, P.here R (.int _)⟩
  · obtain ⟨v, rfl, q1⟩ := r.one
    split at P
    · rename_i n ns e
      obtain ⟨a, rfl, hq⟩ := intsAt_of R q1 e
      refine cr_max hc pins s σ H _ us Q I rx ⟨a, _, rfl, hq, by simp, fun m hm hle => ?_⟩
      have e2 : m = maxL (n :: ns) := Int.le_antisymm (maxL_le hm) (hle _ (maxL_mem (by simp)))
      subst e2
      exact P.here R (.int _)
    · exact absurd rfl P.ne
  · exact absurd rfl P.ne
def dMin : GC := fun ds cs => match ds with
  | [.int i, .int j] => some (.int (if j < i then j else i), cs)
  | [d] => match intsAt cs d with
    | some (n :: ns) => some (.int (minL (n :: ns)), cs)
    | _ => none
  | _ => none
theorem call_dMin (hc : X.calm = true) : CallR X (.builtin "min") (rCa X.K cm dMin) := by
  intro pins s σ H xs us Q I rx h
  obtain ⟨W, ds, cs, R, r, P⟩ := h
  unfold dMin at P
  split at P
  · obtain ⟨v, w, rfl, q1, q2⟩ := r.two
    cases q1; cases q2
    exact call_min2 hc pins s σ H _ us Q I rx ⟨_, _, rfl, P.here R (.int _)⟩
  · obtain ⟨v, rfl, q1⟩ := r.one
    split at P
    · rename_i n ns e
      obtain ⟨a, rfl, hq⟩ := intsAt_of R q1 e
      refine cr_min hc pins s σ H _ us Q I rx ⟨a, _, rfl, hq, by simp, fun m hm hle => ?_⟩
      have e2 : m = minL (n :: ns) := Int.le_antisymm (hle _ (minL_mem (by simp))) (minL_le hm)
      subst e2
      exact P.here R (.int _)
    · exact absurd rfl P.ne
  · exact absurd rfl P.ne
def dAll : GC := fun ds cs => match ds with
  | [d] => match (rdL cs d).bind blsOf with
    | some bs => some (.bl (bs.all id), cs)
    | none => none
  | _ => none
theorem blsAt_of {K : PySem.W.Frag} {W : Wd} {H : Hp} {cs : List Cell} (R : Rel K cm W cs H) {d : D} {v : V} {ns : List Bool} (r : Rp K cm W d v) (h : (rdL cs d).bind blsOf = some ns) : ∃ a, v = .ref a ∧ SqL K H a (ns.map V.bl) := by
  cases e : rdL cs d with
  | none => rw [e] at h; cases h
  | some ds =>
    rw [e] at h
    obtain ⟨a, xs, rfl, hq, rr⟩ := rdL_of R r e
    rw [blsOf_eq h] at rr
    rw [rr.bls] at hq
    exact ⟨a, rfl, hq⟩
theorem call_dAll (hc : X.calm = true) : CallR X (.builtin "all") (rCa X.K cm dAll) := by
  intro pins s σ H xs us Q I rx h
  obtain ⟨W, ds, cs, R, r, P⟩ := h
  unfold dAll at P
  split at P
  · obtain ⟨v, rfl, q1⟩ := r.one
    split at P
    · rename_i bs e
      obtain ⟨a, rfl, hq⟩ := blsAt_of R q1 e
      exact cr_all hc pins s σ H _ us Q I rx ⟨a, _, rfl, hq, P.here R (.bl _)⟩
    · exact absurd rfl P.ne
  · exact absurd rfl P.ne
def dAny : GC := fun ds cs => match ds with
  | [d] => match (rdL cs d).bind blsOf with
    | some bs => some (.bl (bs.any id), cs)
    | none => none
  | _ => none
theorem call_dAny (hc : X.calm = true) : CallR X (.builtin "any") (rCa X.K cm dAny) := by
  intro pins s σ H xs us Q I rx h
  obtain ⟨W, ds, cs, R, r, P⟩ := h
  unfold dAny at P
  split at P
  · obtain ⟨v, rfl, q1⟩ := r.one
    split at P
    · rename_i bs e
      obtain ⟨a, rfl, hq⟩ := blsAt_of R q1 e
      exact cr_any hc pins s σ H _ us Q I rx ⟨a, _, rfl, hq, P.here R (.bl _)⟩
    · exact absurd rfl P.ne
  · exact absurd rfl P.ne
def dSum : GC := fun ds cs => match ds with
  | [d] => match intsAt cs d with
    | some ns => some (.int ns.sum, cs)
    | none => none
  | _ => none
theorem call_dSum (hc : X.calm = true) : CallR X (.builtin "sum") (rCa X.K cm dSum) := by
  intro pins s σ H xs us Q I rx h
  obtain ⟨W, ds, cs, R, r, P⟩ := h
  unfold dSum at P
  split at P
  · obtain ⟨v, rfl, q1⟩ := r.one
    split at P
    · rename_i bs e
      obtain ⟨a, rfl, hq⟩ := intsAt_of R q1 e
      exact cr_sum hc pins s σ H _ us Q I rx ⟨a, _, rfl, hq, P.here R (.int _)⟩
    · exact absurd rfl P.ne
  · exact absurd rfl P.ne
def dInt : GC := fun ds cs => match ds with
  | [.int i] => some (.int i, cs)
  | [.bl k] => some (.int (if k then 1 else 0), cs)
  | _ => none
theorem call_dInt : CallR X (.type "int") (rCa X.K cm dInt) := by
  intro pins s σ H xs us Q I rx h
  obtain ⟨W, ds, cs, R, r, P⟩ := h
  unfold dInt at P
  split at P
  · obtain ⟨v, rfl, q1⟩ := r.one
    cases q1
    exact call_int1 pins s σ H _ us Q I rx (.inl ⟨_, rfl, P.here R (.int _)⟩)
  · obtain ⟨v, rfl, q1⟩ := r.one
    cases q1
    exact call_int1 pins s σ H _ us Q I rx (.inr ⟨_, rfl, P.here R (.int _)⟩)
  · exact absurd rfl P.ne
/-- list(xs) -/
def dList (fz : Bool) : GC := fun ds cs => match ds with
  | [d] => match seqOf cs d with
    | some xs => mkL fz xs cs
    | none => none
  | _ => none
theorem call_dList (fz : Bool) : CallR X (.type "list") (rCa X.K cm (dList fz)) := by
  intro pins s σ H xs us Q I rx h
  obtain ⟨W, ds, cs, R, r, P⟩ := h
  unfold dList at P
  split at P
  · obtain ⟨v, rfl, q1⟩ := r.one
    split at P
    · rename_i ys e
      obtain ⟨a, vs, rfl, hq, rr⟩ := seq_of R q1 e
      exact call_list_of pins s σ H _ us Q I rx ⟨a, vs, rfl, hq, P.mkL R rr⟩
    · exact absurd rfl P.ne
  · exact absurd rfl P.ne
/-- tuple(xs) -/
def dTuple : GC := fun ds cs => match ds with
  | [.tup xs] => some (.tup xs, cs)
  | [d] => match rdL cs d with
    | some xs => some (.tup xs, cs)
    | none => none
  | _ => none
theorem call_dTuple : CallR X (.type "tuple") (rCa X.K cm dTuple) := by
  intro pins s σ H xs us Q I rx h
  obtain ⟨W, ds, cs, R, r, P⟩ := h
  unfold dTuple at P
  split at P
  · obtain ⟨v, rfl, q1⟩ := r.one
    cases q1 with
    | tup g q => exact call_tuple_of pins s σ H _ us Q I rx ⟨_, _, rfl, .inr ⟨SqT.of (R.sub _ _ g), P.here R (.tup g q)⟩⟩
  · obtain ⟨v, rfl, q1⟩ := r.one
    split at P
    · rename_i ys e
      obtain ⟨a, vs, rfl, hq, rr⟩ := rdL_of R q1 e
      exact call_tuple_of pins s σ H _ us Q I rx ⟨a, vs, rfl, .inl ⟨hq, P.mkT R rr⟩⟩
    · exact absurd rfl P.ne
  · exact absurd rfl P.ne
/-- repr of data -/
def rpOk : PyData → Bool
  | .int _ | .list _ | .tuple _ => true
  | _ => false
def dRepr : GC := fun ds cs => match ds with
  | [d] => match toP cs d with
    | some p => if rpOk p = true ∧ p.showable = true ∧ p.hasDict = false ∧ p.depth ≤ 100 ∧ p.shown.length ≤ sizeLine then some (.str p.shown, cs) else none
    | none => none
  | _ => none
end
end
end PV

namespace PV
open PySem PySem.Spec PyProof.Rows L2

/-! ### defs -/
section
variable (K : PySem.W.Frag) (cm : Nat → Addr)
/-- a call's end -/
def PostF (W : Wd) (r : Out D) (Q : VK) (E : XK) : Prop := match r with
  | .ok d cs => ∀ W' H' v, W.le W' → Rel K cm W' cs H' → Rp K cm W' d v → Q v H'
  | .ex x cs => ∀ W' H' dd, W.le W' → Rel K cm W' cs H' → Pay K cm W' x.2 dd H' → E (.ref (cm x.1)) dd H'
  | .no => False
end
/-- the def at f, its parameters bound, does what F says -/
def FnB (P : Program) (w : World) (K : PySem.W.Frag) (mg : Str → Option Value) (base : Heap) (cm : Nat → Addr) (k : Nat) (f : Addr) (fd : FuncData) (ps : List Str) (F : List D → List Cell → Out D) : Prop :=
  ∀ (A : Around) (outer : List Env) (s : Shared) (H : Hp) (args : Args) (us : List Value) (vs : List V) (Q : VK) (E : XK) (W : Wd) (ds : List D) (cs : List Cell),
    Room k A → A.guards = some [] → Env0 P w K mg base A outer s H → BindsTo s fd args (ps.zip us) → Vals vs us → vs.length = ps.length → Rel K cm W cs H → Rps K cm W ds vs → PostF K cm W (F ds cs) Q E →
      codeAny (model P w) A (.call (.ref f) args) (CR (L2.CX P w) outer P w H s Q E) s
/-- a def's function, of its body's -/
def runDef (n N : Nat) (fb : Fs) : List D → List Cell → Out D := fun ds cs => if ds.length = n then match fb (ds.map some ++ List.replicate (N - n) none) cs with
  | .nx _ c => .ok .non c
  | .rt d c => .ok d c
  | .ex x _ c => .ex x c
  | _ => .no
  else .no
theorem start_en {K : PySem.W.Frag} {cm : Nat → Addr} {W : Wd} {ds : List D} {vs : List V} (r : Rps K cm W ds vs) (N : List Str) (hl : vs.length ≤ N.length) : En K cm W (ds.map some ++ List.replicate (N.length - ds.length) none) (L2.start N vs) := by
  have e := r.length
  unfold L2.start
  refine ⟨by simp [e], fun i d h => ?_⟩
  by_cases hi : i < ds.length
  · rw [List.getElem?_append_left (by simpa using hi), List.getElem?_map] at h
    cases q : ds[i]? with
    | none => rw [q] at h; cases h
    | some d' =>
      rw [q] at h; cases h
      obtain ⟨v, h1, h2⟩ := r.get q
      refine ⟨v, ?_, h2⟩
      rw [List.getElem?_append_left (by simpa [← e] using hi), List.getElem?_map, h1]; rfl
  · rw [List.getElem?_append_right (by simpa using Nat.le_of_not_lt hi), List.getElem?_replicate] at h
    split at h <;> cases h
section
variable {P : Program} {w : World} {K : PySem.W.Frag} {mg : Str → Option Value} {base : Heap} {cm : Nat → Addr}
/-- what is wanted of exceptions within a def -/
abbrev yOf (E : XK) : WX := fun c d _ H => E c d H
theorem PostF.toS {W : Wd} {r : Sr} {Q : VK} {E : XK} (h : PostF K cm W (match r with
  | .nx _ c => .ok .non c
  | .rt d c => .ok d c
  | .ex x _ c => .ex x c
  | _ => .no) Q E) : PostS K cm (yOf E) W r { nx := fun _ H' => Q .non H', rt := Q } := by
  cases r with
  | nx σ c => exact fun W' H' σ l R _ => h W' H' .non l R .non
  | rt d c => exact h
  | ex x σ c => exact fun W' H' σ dd l R _ p => h W' H' dd l R p
  | bk σ c => exact h.elim
  | ct σ c => exact h.elim
  | no => exact h.elim
/-- THE RULE for a def -/
theorem fn_body {x qual : Str} {params : Arguments} {body : List Stmt} {scope : Scope} {dvs : List V} {kws : List (Str × V)} {f : Addr} {fd : FuncData} {N ps : List Str} {k : Nat} {fb : Fs} (F : FunD K x qual params body scope dvs kws f fd) (S : FnScope N ps scope)
    (hb : ∀ (cdv : Value) (A : Around) (outer : List Env) (s : Shared) (H : Hp) (E : XK), Room k (A.deeper (envOfC qual scope s.heap.objs.size f cdv)) → (A.deeper (envOfC qual scope s.heap.objs.size f cdv)).guards = some [] →
      FSs (cxOf (L2.CX P w) P w K mg base N qual scope f cdv A outer s H E) cm (yOf E) body fb) : FnB P w K mg base cm (k + 1) f fd ps (runDef ps.length N.length fb) := by
  intro A outer s H args us vs Q E W ds cs hr hg e0 hbi rv hl R r h
  obtain ⟨oc, od, dV, kV, doc, pm, an, cdv, ct, osl, rfl, lk, hcd, _, _⟩ := F.ex
  have hpl : ps.length ≤ N.length := by have := congrArg List.length S.pre; rw [List.length_take] at this; omega
  have hd : ds.length = ps.length := by rw [r.length]; exact hl
  refine StX.run_bnd (G := fun xs H2 => xs = vs ∧ H2 = H) lk hcd S hr e0 (fun A' Ex Q' go => ?_) fun s2 H2 xs g hr2 => ?_
  · exact hbi _ _ _ _ (go s H vs us e0 Un.refl rfl (fun _ _ z => z) rv hl ⟨rfl, rfl⟩)
  · obtain ⟨rfl, rfl⟩ := g
    refine ⟨_, hb cdv A outer s2 H2 E hr2 hg, W, _, cs, R, start_en r N (by rw [hl]; exact hpl), ?_⟩
    unfold runDef at h
    rw [if_pos hd] at h
    rw [hd]
    exact h.toS
theorem FnB.mono {j k : Nat} {f : Addr} {fd : FuncData} {ps : List Str} {F : List D → List Cell → Out D} (h : FnB P w K mg base cm j f fd ps F) (l : j ≤ k) : FnB P w K mg base cm k f fd ps F :=
  fun A outer s H args us vs Q E W ds cs hr => h A outer s H args us vs Q E W ds cs (hr.mono l)
end

/-! ### what may be called -/
abbrev Fk := List D → List D → List Cell → Out D
/-- the value v, called with positional values and keywords named ks, does what F says -/
structure Cal (X : Cx) (cm : Nat → Addr) (Y : WX) (v : Value) (ks : List Str) (F : Fk) : Prop where
  kp : PySem.W.keepIn X.K v = true
  run : ∀ (pins : List (Addr × Obj)) (s : Shared) (σ : L2.St) (H : Hp) (us ws : List Value) (vs zs : List V) (Q : VK) (W : Wd) (ds es : List D) (cs : List Cell), Inv X pins σ H s → Vals vs us → Vals zs ws → zs.length = ks.length →
    Rel X.K cm W cs H → Rps X.K cm W ds vs → Rps X.K cm W es zs → PostE X.K cm Y σ W (F ds es cs) Q → wpAny (model X.prog X.w) X.A (call v us (ks.zip ws)) (EP X pins σ Q) X.xe s
/-- how arguments come to parameters -/
structure Arg (K : PySem.W.Frag) (cm : Nat → Addr) (fd : FuncData) (ps : List Str) (n : Nat) (ks : List Str) (g : List D → List D → List D) : Prop where
  to : ∃ (gv : List Value → List Value → List Value) (gV : List V → List V → List V), (∀ (s : Shared) (us ws : List Value), K.In s.heap → us.length = n → ws.length = ks.length → BindsTo s fd ⟨us, ks.zip ws⟩ (ps.zip (gv us ws))) ∧
    (∀ {vs us zs ws}, Vals vs us → Vals zs ws → Vals (gV vs zs) (gv us ws)) ∧ ∀ {W ds vs es zs}, Rps K cm W ds vs → Rps K cm W es zs → Rps K cm W (g ds es) (gV vs zs)
section
variable {X : Cx} {cm : Nat → Addr} {Y : WX} {k n : Nat} {f C : Addr} {fd : FuncData} {ps ks : List Str} {F : List D → List Cell → Out D} {g : List D → List D → List D}
def fnK (n m l : Nat) (F : List D → List Cell → Out D) (g : List D → List D → List D) : Fk := fun ds es cs => if ds.length = n ∧ (g ds es).length = l then F (g ds es) cs else .no
theorem PostE.toF {K : PySem.W.Frag} {W : Wd} {σ : L2.St} {r : Out D} {Q : VK} (h : PostE K cm Y σ W r Q) : PostF K cm W r Q fun c d H => Y c d σ H := by
  cases r with
  | ok d cs => exact h
  | ex x cs => exact h
  | no => exact h
theorem run_def {pins : List (Addr × Obj)} {s : Shared} {σ : L2.St} {H : Hp} {us ws : List Value} {vs zs : List V} {Q : VK} {W : Wd} {ds es : List D} {cs : List Cell} {A : Around}
    (B : FnB X.prog X.w X.K X.mg X.base cm k f fd ps F) (a : Arg X.K cm fd ps n ks g) (hr : Room k A) (hg : A.guards = some []) (hA : A.frames = some X.stack) (tk : Takes X Y) (I : Inv X pins σ H s) (r : Vals vs us) (rz : Vals zs ws) (hz : zs.length = ks.length)
    (R : Rel X.K cm W cs H) (q : Rps X.K cm W ds vs) (qz : Rps X.K cm W es zs) (h : PostE X.K cm Y σ W (fnK n ks.length ps.length F g ds es cs) Q) :
    codeAny (model X.prog X.w) A (.call (.ref f) ⟨us, ks.zip ws⟩) (fun r s' => match r with
      | .ok (.ret u) => EP X pins σ Q u s'
      | .ok _ => False
      | .error e => X.xe e s') s := by
  obtain ⟨gv, gV, b1, b2, b3⟩ := a.to
  unfold fnK at h
  split at h
  · rename_i hl
    have e0 := I.env0
    have e1 : Env0 X.prog X.w X.K X.mg X.base A X.stack s H := ⟨hA, e0.mod, e0.bs, e0.bsz, e0.funs, e0.frf, e0.hok, e0.bare⟩
    refine codeAny_mono (B A X.stack s H ⟨us, ks.zip ws⟩ (gv us ws) (gV vs zs) Q _ W (g ds es) cs hr hg e1 (b1 s us ws I.kIn ?_ ?_) (b2 r rz) ?_ R (b3 q qz) (PostE.toF h)) fun rr s' hq => ?_
    · rw [← r.length, ← q.length]; exact hl.1
    · rw [← rz.length]; exact hz
    · rw [← (b3 q qz).length]; exact hl.2
    · cases rr with
      | error e => exact tk e s' (XE.of_call I (fun _ _ _ z => z) hq)
      | ok fl =>
        cases fl with
        | ret u => exact I.after hq
        | next => exact hq.elim
        | brk => exact hq.elim
        | cont => exact hq.elim
  · exact h.elim
/-- a def -/
theorem cal_fn (B : FnB X.prog X.w X.K X.mg X.base cm k f fd ps F) (a : Arg X.K cm fd ps n ks g) (hr : Room k X.A) (hg : X.A.guards = some []) (tk : Takes X Y) (kp : PySem.W.keepIn X.K (.ref f) = true) : Cal X cm Y (.ref f) ks (fnK n ks.length ps.length F g) :=
  ⟨kp, fun pins s σ H us ws vs zs Q W ds es cs I r rz hz R q qz h => wpAny_call (codeAny_mono (run_def B a hr hg I.ok.frames tk I r rz hz R q qz h) fun rr s' hq => by
    cases rr with
    | error e => exact hq
    | ok fl => cases fl <;> exact hq)⟩
/-- a class with __init__: fz: its instance is frozen behind it -/
def mkK (c : Nat) (fz : Bool) (F : Fk) : Fk := fun ds es cs => (F (.ref cs.length :: ds) es (cs ++ [.ins c []])).bind fun d c1 => match d with
  | .non => if fz = true then up (frzD (.ref cs.length) c1) else .ok (.ref cs.length) c1
  | _ => .no
theorem cal_make {c : Nat} (fz : Bool) (M : Mk X.K (cm c) f) (B : FnB X.prog X.w X.K X.mg X.base cm k f fd ps F) (a : Arg X.K cm fd ps n ks g) (hr : Room (k + 1) X.A) (hg : X.A.guards = some []) (tk : Takes X Y) :
    Cal X cm Y (.ref (cm c)) ks (mkK c fz (fnK n ks.length ps.length F g)) := by
  refine ⟨M.kp, fun pins s σ H us ws vs zs Q W ds es cs I r rz hz R q qz h => ?_⟩
  have I2 := Inv.made (C := cm c) I
  have R1 := R.junk (p := s.heap.objs.size) (o := .own (s.heap.objs.size + 1)) (I.hok.fresh (Nat.le_refl _))
  have hf : upd H s.heap.objs.size (.own (s.heap.objs.size + 1)) (s.heap.objs.size + 1) = none := by
    rw [upd_ne (Nat.succ_ne_self _)]
    exact I.hok.fresh (Nat.le_succ _)
  obtain ⟨le, R2, e⟩ := R1.newC (c := .ins c []) (o := .ins (cm c) s.heap.objs.size []) hf ⟨rfl, _, _, rfl, .nil⟩
  refine wpAny_call (make_map (f := f) I.kIn M.makes M.init (beq_iff_eq.mp M.fn) (codeAny_mono (run_def (A := X.A.under (.builtin "type.__call__" ⟨.ref (cm c) :: us, ks.zip ws⟩)) (us := .ref (s.heap.objs.size + 1) :: us) (vs := .ref (s.heap.objs.size + 1) :: vs) (Y := Y)
    (ds := .ref cs.length :: ds) (Q := fun v H2 => v = .non ∧ Q (.ref (s.heap.objs.size + 1)) H2) B a (hr.make (cm c) us _) ?_ ?_ tk I2 (.cons rfl r) rz hz R2 (.cons (.ref e) (q.up le)) (qz.up le) ?_) fun rr s' hq => ?_))
  · first
      | exact hg
      | (simp [Around.under, Code.guards, Code.isGuard, guardIds, pushGuards, hg])
  · have := (I.env0.make (cm c) us (ks.zip ws)).frames
    exact this
  · unfold mkK at h
    cases q1 : fnK n ks.length ps.length F g (.ref cs.length :: ds) es (cs ++ [.ins c []]) with
    | no => rw [q1] at h; exact h.elim
    | ex x c1 => rw [q1] at h; exact Wish.up le h
    | ok d c1 =>
      rw [q1] at h
      intro W' H' v l R' r'
      cases r' with
      | non =>
        refine ⟨rfl, ?_⟩
        have h' : PostE X.K cm Y σ W (if fz = true then up (frzD (.ref cs.length) c1) else .ok (.ref cs.length) c1) Q := h
        cases fz with
        | true =>
          rw [if_pos rfl] at h'
          exact frz_go R' (.ref (l.r _ _ e)) ((PostE.down h').up (le.trans l))
        | false =>
          rw [if_neg Bool.false_ne_true] at h'
          exact h' W' H' _ (le.trans l) R' (.ref (l.r _ _ e))
      | _ => exact h.elim
  · cases rr with
    | error e => exact hq
    | ok fl =>
      cases fl with
      | ret u =>
        obtain ⟨v, H', I3, rv, ev, q3⟩ := hq
        subst ev
        exact ⟨rv, ⟨.ref (s.heap.objs.size + 1), H', I3, rfl, q3⟩⟩
      | next => exact hq
      | brk => exact hq
      | cont => exact hq
end

/-! ### calls -/
abbrev FKw (X : Cx) (cm : Nat → Addr) (Y : WX) (kws : List Keyword) (f : Fa) : Prop := PK X kws (tA X.K cm Y f)
def fCall (F : Fk) (ga gk : Fa) : Fe := fun σ cs => (ga σ cs).bind fun ds c1 => (gk σ c1).bind fun es c2 => F ds es c2
section
variable {X : Cx} {cm : Nat → Addr} {Y : WX} {v : Value} {ks : List Str} {F : Fk} {x : Str} {e : Expr} {es : List Expr} {kws : List Keyword} {p pos kpos : Pos} {ga gk : Fa} {fe : Fe}
theorem PK.weak {kws : List Keyword} {t t' : TA} (h : PK X kws t) (m : ∀ σ H Q, t' σ H Q → t σ H Q) : PK X kws t' := ⟨fun pos pins s σ H Q I q => h.run pos pins s σ H Q I (m σ H Q q)⟩
theorem fk_nil : FKw X cm Y [] aNil := PK.weak pk_nil fun σ H Q ⟨W, σd, cs, R, E, P⟩ => P.here R .nil
theorem fk_cons {nm : Option Str} (ha : FE X cm Y e fe) (hr : FKw X cm Y kws gk) : FKw X cm Y (⟨nm, e, kpos⟩ :: kws) (aCons fe gk) := PK.weak (pk_cons ha hr) fun σ H Q ⟨W, σd, cs, R, E, h⟩ => by
  refine tE_go R E asksA h fun d c1 _ h1 W1 H1 v l1 R1 E1 r1 => ?_
  refine tA_go R1 E1 asksA (h1.up l1) fun d2 c2 _ h2 W2 H2 v2 l2 R2 E2 r2 => ?_
  exact (h2.up l2).here R2 (.cons (r1.up l2) r2)
/-- f(e, ..) -/
theorem fe_call (c : Cal X cm Y v [] F) (hm : X.mg x = some v) (ha : FA X cm Y (e :: es) ga) (hg : Gl X x := by rfl) (hdb : (x == ("__debug__" : Str)) = false := by decide)
    (he : starEach (e :: es) X.env = (false, eval e X.env) :: starEach es X.env := by rfl) (hpl : (backTo pos (starEach es X.env)).any (·.1) = false := by rfl) : FE X cm Y (.Call (.Name x p) (e :: es) [] pos) (fCall F ga aNil) := by
  refine ⟨fun pins s σ H Q I ⟨W, σd, cs, R, E, h⟩ => ?_⟩
  refine wpAny_Call_Name_kw (ld_glob I hg hm ?_ hdb)
  have t := tA_go (Q := fun vs H1 => ∃ W1 ds c1, Rel X.K cm W1 c1 H1 ∧ Rps X.K cm W1 ds vs ∧ PostE X.K cm Y σ W1 (F ds [] c1) Q) R E asksE h fun d c1 _ h1 W1 H1 v l1 R1 E1 r1 => ⟨W1, d, c1, R1, r1, h1.up l1⟩
  refine PySem.W.callWith_K (h₀ := X.base) I.ok.mod.kin c.kp (thn (ha.run pos pins s σ H _ I t) fun us s1 ⟨vs, H1, I1, rv, W1, ds, c1, R1, r1, h1⟩ => ⟨I1.kIn, ?_⟩) he hpl
  exact c.run pins s1 σ H1 us [] vs [] Q W1 ds [] c1 I1 rv .nil rfl R1 r1 .nil h1
/-- f() -/
theorem fe_call0 (c : Cal X cm Y v [] F) (hm : X.mg x = some v) (hg : Gl X x := by rfl) (hdb : (x == ("__debug__" : Str)) = false := by decide) : FE X cm Y (.Call (.Name x p) [] [] pos) (fCall F aNil aNil) := by
  refine ⟨fun pins s σ H Q I ⟨W, σd, cs, R, E, h⟩ => ?_⟩
  refine wpAny_Call_Name_kw (ld_glob I hg hm ?_ hdb)
  exact PySem.W.callWith_K0 I.kIn c.kp (c.run pins s σ H [] [] [] [] Q W [] [] cs I .nil .nil rfl R .nil .nil h)
/-- f(e, .., k = v, ..) -/
theorem fe_callK (c : Cal X cm Y v ks F) (hm : X.mg x = some v) (ha : FA X cm Y (e :: es) ga) (hk : FKw X cm Y kws gk) (hlen : ks.length = kws.length := by rfl) (hg : Gl X x := by rfl) (hdb : (x == ("__debug__" : Str)) = false := by decide)
    (hall : (backToKw pos (keywordEach kws X.env)).all (·.1.isSome) = true := by rfl) (hks : (backToKw pos (keywordEach kws X.env)).filterMap (·.1) = ks := by rfl)
    (he : starEach (e :: es) X.env = (false, eval e X.env) :: starEach es X.env := by rfl) (hpl : ((backTo pos (starEach (e :: es) X.env)).any (·.1) || (backToKw pos (keywordEach kws X.env)).any (·.1.isNone)) = false := by rfl) :
    FE X cm Y (.Call (.Name x p) (e :: es) kws pos) (fCall (fun ds es cs => if es.length = ks.length then F ds es cs else .no) ga gk) := by
  refine ⟨fun pins s σ H Q I ⟨W, σd, cs, R, E, h⟩ => ?_⟩
  refine wpAny_Call_Name_kw (ld_glob I hg hm ?_ hdb)
  have t := tA_go (Q := fun vs H1 => ∃ W1 ds, Rps X.K cm W1 ds vs ∧ tA X.K cm Y gk σ H1 fun zs H2 => ∃ W2 es c2, W1.le W2 ∧ Rel X.K cm W2 c2 H2 ∧ Rps X.K cm W2 es zs ∧ PostE X.K cm Y σ W2 (if es.length = ks.length then F ds es c2 else .no) Q) R E asksE h
    fun d c1 _ h1 W1 H1 v l1 R1 E1 r1 => ⟨W1, d, r1, tA_go R1 E1 asksE (h1.up l1) fun d2 c2 _ h2 W2 H2 v2 l2 R2 E2 r2 => ⟨W2, d2, c2, l2, R2, r2, h2.up l2⟩⟩
  refine PySem.W.callWith_KW (h₀ := X.base) I.ok.mod.kin c.kp hall (thn (ha.run pos pins s σ H _ I t) fun us s1 ⟨vs, H1, I1, rv, W1, ds, r1, t1⟩ => ?_) hpl he
  refine thn (hk.run pos pins s1 σ H1 _ I1 t1) fun ws s2 ⟨zs, H2, I2, rz, W2, es2, c2, l2, R2, r2, h2⟩ => ⟨I2.kIn, ?_⟩
  rw [hks]
  split at h2
  · rename_i hl
    exact c.run pins s2 σ H2 us ws vs zs Q W2 ds es2 c2 I2 rv rz (by rw [← r2.length]; exact hl) R2 (r1.up l2) r2 h2
  · exact h2.elim
/-- f(k = v, ..) -/
theorem fe_callK0 (c : Cal X cm Y v ks F) (hm : X.mg x = some v) (hk : FKw X cm Y kws gk) (hg : Gl X x := by rfl) (hdb : (x == ("__debug__" : Str)) = false := by decide)
    (hall : (backToKw pos (keywordEach kws X.env)).all (·.1.isSome) = true := by rfl) (hks : (backToKw pos (keywordEach kws X.env)).filterMap (·.1) = ks := by rfl)
    (hpl : ((backTo pos (starEach [] X.env)).any (·.1) || (backToKw pos (keywordEach kws X.env)).any (·.1.isNone)) = false := by rfl) :
    FE X cm Y (.Call (.Name x p) [] kws pos) (fCall (fun ds es cs => if es.length = ks.length then F ds es cs else .no) aNil gk) := by
  refine ⟨fun pins s σ H Q I ⟨W, σd, cs, R, E, h⟩ => ?_⟩
  refine wpAny_Call_Name_kw (ld_glob I hg hm ?_ hdb)
  have t := tA_go (Q := fun zs H2 => ∃ W2 es c2, Rel X.K cm W2 c2 H2 ∧ Rps X.K cm W2 es zs ∧ PostE X.K cm Y σ W2 (if es.length = ks.length then F [] es c2 else .no) Q) R E asksE (show PostE X.K cm Y σ W ((gk σd cs).bind fun es c2 => if es.length = ks.length then F [] es c2 else .no) Q from h) fun d2 c2 _ h2 W2 H2 v2 l2 R2 E2 r2 => ⟨W2, d2, c2, R2, r2, h2.up l2⟩
  refine PySem.W.callWith_KW0 (h₀ := X.base) I.ok.mod.kin c.kp hall ?_ hpl
  refine thn (hk.run pos pins s σ H _ I t) fun ws s2 ⟨zs, H2, I2, rz, W2, es2, c2, R2, r2, h2⟩ => ⟨I2.kIn, ?_⟩
  rw [hks]
  split at h2
  · rename_i hl
    exact c.run pins s2 σ H2 [] ws [] zs Q W2 [] es2 c2 I2 .nil rz (by rw [← r2.length]; exact hl) R2 .nil r2 h2
  · exact h2.elim

/-! ### fields, properties, methods of instances -/
/-- the class and the fields of an instance -/
def insOf (cs : List Cell) : D → Option (Nat × List (Str × D))
  | .ins c fs => some (c, fs)
  | .ref i => match cs[i]? with
    | some (.ins c fs) => some (c, fs)
    | _ => none
  | _ => none
theorem ins_of {K : PySem.W.Frag} {W : Wd} {H : Hp} {cs : List Cell} (R : Rel K cm W cs H) {d : D} {v : V} {c : Nat} {fs : List (Str × D)} (r : Rp K cm W d v) (h : insOf cs d = some (c, fs)) : ∃ a dx vs, v = .ref a ∧ H a = some (.ins (cm c) dx vs) ∧ Rpf K cm W fs vs := by
  cases r with
  | ins g q => cases h; exact ⟨_, _, _, rfl, R.sub _ _ g, q⟩
  | @ref i a e =>
    have h' : (match cs[i]? with | some (.ins c fs) => some (c, fs) | _ => none) = some (c, fs) := h
    split at h'
    · rename_i c2 fs2 ec
      cases h'
      obtain ⟨_, dx, ys, e2, q⟩ := R.cel i a _ e ec
      exact ⟨a, dx, ys, rfl, e2, q⟩
    · cases h'
  | _ => cases h
variable {o : Expr} {fo : Fe} {f m : Str} {apos : Pos}
def fFld (cl : List Nat) (f : Str) (fo : Fe) : Fe := fun σ cs => (fo σ cs).bind fun d c1 => match insOf c1 d with
  | some (c, fs) => if cl.contains c = true then match fs.lookup f with
    | some v => .ok v c1
    | none => .no
    else .no
  | none => .no
theorem fe_fld (cl : List Nat) (h : ∀ c ∈ cl, Cls X.K (cm c) ∧ NoAttr X.K (cm c) f) (he : FE X cm Y o fo) (hb : attributeBase o f X.env (eval o X.env) = eval o X.env := by rfl) : FE X cm Y (.Attribute o f pos) (fFld cl f fo) := PE.weak (pe_fld he hb) fun σ H Q ⟨W, σd, cs, R, E, P⟩ => by
  refine tE_go R E asksE P fun d c1 _ h1 W1 H1 v l1 R1 E1 r1 => ?_
  split at h1
  · rename_i c fs e1
    split at h1
    · rename_i hc
      split at h1
      · rename_i z e2
        obtain ⟨a, dx, vs, rfl, h2, q⟩ := ins_of R1 r1 e1
        obtain ⟨y, h3, r3⟩ := q.look e2
        obtain ⟨k1, k2⟩ := h c (by simpa using hc)
        exact ⟨a, cm c, dx, vs, y, rfl, h2, k1, k2, h3, (h1.up l1).here R1 r3⟩
      · exact h1.elim
    · exact h1.elim
  · exact h1.elim
/-- e.f = v, of a cell -/
def sFldD (cl : List Nat) (f : Str) (fo fv : Fe) : Fs := fun σ cs => match (fv σ cs).bind fun v c1 => (fo σ c1).bind fun d c2 => match d with
  | .ref i => match c2[i]? with
    | some (.ins c fs) => if cl.contains c = true ∧ fs.length < 1000 then .ok D.non (c2.set i (.ins c (putD f v fs))) else .no
    | _ => .no
  | _ => .no with
  | .ok _ c => .nx σ c
  | .ex x c => .ex x σ c
  | .no => .no
/-- a property, by its getter -/
def noX (r : Out D) : Out D := match r with
  | .ex _ _ => .no
  | r => r
@[simp] theorem noX_ok (d : D) (c : List Cell) : noX (.ok d c) = .ok d c := rfl
def fProp (c : Nat) (F : List D → List Cell → Out D) (fo : Fe) : Fe := fun σ cs => (fo σ cs).bind fun d c1 => match insOf c1 d with
  | some (c', _) => if c' = c then noX (F [d] c1) else .no
  | none => .no
theorem noX_y {K : PySem.W.Frag} {W : Wd} {σ : L2.St} {r : Out D} {Q : VK} (h : PostE K cm Y σ W (noX r) Q) : PostE K cm (fun _ _ _ _ => False) σ W r Q := by
  cases r with
  | ok d c => exact h
  | ex x c => exact h.elim
  | no => exact h.elim
theorem takes_none {X : Cx} : Takes X.nox (fun _ _ _ _ => False) := fun _ _ ⟨_, _, _, _, _, _, _, _, _, _, _, _, _, _, _, _, w⟩ => w.elim
theorem fe_prop {c k : Nat} {pa g : Addr} {fd : FuncData} {G : List D → List Cell → Out D} (he : FE X cm Y o fo) (hc : Cls X.K (cm c)) (hp : PropOf X.K (cm c) f pa g) (B : FnB X.prog X.w X.K X.mg X.base cm k g fd ["self"] G)
    (a : Arg X.K cm fd ["self"] 1 [] (fun ds _ => ds)) (hr : Room (k + 1) X.A) (hg : X.A.guards = some []) (hb : attributeBase o f X.env (eval o X.env) = eval o X.env := by rfl) : FE X cm Y (.Attribute o f pos) (fProp c G fo) := by
  refine ⟨fun pins s σ H Q I ⟨W, σd, cs, R, E, P⟩ => ?_⟩
  refine attr_of hb (thn (he.run pins s σ H _ I (tE_go (Q := fun v H1 => ∃ W1 d c1 fs, Rel X.K cm W1 c1 H1 ∧ Rp X.K cm W1 d v ∧ insOf c1 d = some (c, fs) ∧ PostE X.K cm Y σ W1 (noX (G [d] c1)) Q) R E asksE P fun d c1 _ h1 W1 H1 v l1 R1 E1 r1 => ?_)) fun u s1 ⟨v, H1, I1, rv, W1, d, c1, fs, R1, r1, e1, h1⟩ => ?_)
  · split at h1
    · rename_i c' fs e1
      split at h1
      · rename_i e2
        subst e2
        exact ⟨W1, d, c1, fs, R1, r1, e1, h1.up l1⟩
      · exact h1.elim
    · exact h1.elim
  · obtain ⟨x, dx, vs, rfl, h2, q⟩ := ins_of R1 r1 e1
    obtain rfl : u = Value.ref x := rv
    obtain ⟨mA, O, _, _, _, _⟩ := ins_get I1.hok h2
    obtain ⟨od, J, _⟩ := O.look
    obtain ⟨rest, hrec⟩ := hp.rec_
    have I2 := I1.tok (s1.toks + 1)
    have hcls : (PySem.W.clsIn X.K (cm c)).isSome = true := by
      obtain ⟨cd, hc, _⟩ := PySem.W.any_some hc.hd
      rw [hc]; rfl
    refine PySem.W.get_bind I1.kIn J (PySem.W.plainGet_of (hc.get f)).1 (PySem.W.findObj_data hcls hp.at_ hp.get hp.tak) (PySem.W.plainGet_of (hc.get f)).2 (wpAny_call (PySem.W.prop_get (s := { s1 with toks := s1.toks + 1 }) I1.kIn hrec ?_))
    refine codeAny_mono (run_def (X := X.nox) (Y := fun _ _ _ _ => False) (A := X.A.in1) (us := [.ref x]) (ws := []) (vs := [.ref x]) (zs := []) (Q := Q) (ds := [d]) (es := []) (cs := c1) B a hr.in1 hg I2.ok.frames takes_none (I2.wish _) (.cons rfl .nil) .nil rfl R1 (.cons r1 .nil) .nil ?_) fun rr s' hq => ?_
    · unfold fnK
      rw [if_pos ⟨rfl, rfl⟩]
      exact noX_y h1
    · cases rr with
      | error er => exact False.elim hq
      | ok fl =>
        cases fl with
        | ret u =>
          obtain ⟨z, H', I3, rz, q3⟩ := hq
          show wpAny _ _ (handedOut u) _ _ _
          rw [PySem.W.handedOut_of (handed_of rz)]
          exact wpAny_pure ⟨z, H', I3.unwish, rz, q3⟩
        | next => exact hq
        | brk => exact hq
        | cont => exact hq
/-- o.m(e, ..) -/
def fMeth (c : Nat) (m : Str) (F : Fk) (fo : Fe) (ga gk : Fa) : Fe := fun σ cs => (fo σ cs).bind fun d c1 => match insOf c1 d with
  | some (c', fs) => if c' = c ∧ fs.lookup m = none then (ga σ c1).bind fun ds c2 => (gk σ c2).bind fun es c3 => F (d :: ds) es c3 else .no
  | none => .no
theorem fmeth_go {c : Nat} {F : Fk} {W : Wd} {σd : Sd} {cs : List Cell} {σ : L2.St} {H : Hp} {Q : VK} {T : V → Hp → Prop} (R : Rel X.K cm W cs H) (E : En X.K cm W σd σ) (P : PostE X.K cm Y σ W (fMeth c m F fo ga gk σd cs) Q)
    (k : ∀ W1 d c1 fs v H1, insOf c1 d = some (c, fs) → fs.lookup m = none → Rel X.K cm W1 c1 H1 → En X.K cm W1 σd σ → Rp X.K cm W1 d v → PostE X.K cm Y σ W1 ((ga σd c1).bind fun ds c2 => (gk σd c2).bind fun es c3 => F (d :: ds) es c3) Q → T v H1) : tE X.K cm Y fo σ H T :=
  tE_go R E asksE P fun d c1 _ h1 W1 H1 v l1 R1 E1 r1 => by
    split at h1
    · rename_i c' fs e1
      split at h1
      · rename_i e2
        obtain ⟨rfl, e3⟩ := e2
        exact k W1 d c1 fs v H1 e1 e3 R1 E1 r1 (h1.up l1)
      · exact h1.elim
    · exact h1.elim
theorem fe_meth {c : Nat} {g : Addr} {pl : Sem Bool} (he : FE X cm Y o fo) (hc : Cls X.K (cm c)) (hm : Meth X.K (cm c) m g) (cl : Cal X cm Y (.ref g) [] F) (ha : FA X cm Y (e :: es) ga)
    (hst : starEach (e :: es) X.env = (false, eval e X.env) :: starEach es X.env := by rfl) (hpl : (backTo pos (starEach es X.env)).any (·.1) = false := by rfl)
    (ht : eval (.Call (.Attribute o m apos) (e :: es) [] pos) X.env = (do
      let ov ← eval o X.env
      standAt apos.atName
      let (f, first) ← holding [ov] (getMethod ov m pl)
      callWith pos f first (backTo pos (starEach (e :: es) X.env)) (backToKw pos (keywordEach [] X.env))) := by rfl) : FE X cm Y (.Call (.Attribute o m apos) (e :: es) [] pos) (fMeth c m F fo ga aNil) := by
  refine ⟨fun pins s σ H Q I ⟨W, σd, cs, R, E, P⟩ => ?_⟩
  refine PySem.W.methodCall_KW (pl := pl) (thn (he.run pins s σ H _ I (fmeth_go (T := fun v H1 => ∃ W1 d c1 fs, insOf c1 d = some (c, fs) ∧ fs.lookup m = none ∧ Rel X.K cm W1 c1 H1 ∧ En X.K cm W1 σd σ ∧ Rp X.K cm W1 d v ∧ PostE X.K cm Y σ W1 ((ga σd c1).bind fun ds c2 => F (d :: ds) [] c2) Q) R E P
    fun W1 d c1 fs v H1 a1 a2 a3 a4 a5 a6 => ⟨W1, d, c1, fs, a1, a2, a3, a4, a5, a6⟩)) fun u s1 ⟨v, H1, I1, rv, W1, d, c1, fs, a1, a2, R1, E1, r1, h1⟩ => ?_) ht
  obtain ⟨x, dx, vs, rfl, h2, q⟩ := ins_of R1 r1 a1
  obtain rfl : u = Value.ref x := rv
  refine getmeth_ok I1 h2 hc hm (q.look_none a2) ?_
  have t := tA_go (Q := fun vs H2 => ∃ W2 ds c2, W1.le W2 ∧ Rel X.K cm W2 c2 H2 ∧ Rps X.K cm W2 ds vs ∧ PostE X.K cm Y σ W2 (F (d :: ds) [] c2) Q) R1 E1 asksE h1 fun d2 c2 _ h2 W2 H2 v2 l2 R2 E2 r2 => ⟨W2, d2, c2, l2, R2, r2, h2.up l2⟩
  refine PySem.W.callWith_K (first := [.ref x]) (h₀ := X.base) I.ok.mod.kin hm.kp (thn (ha.run pos pins s1 σ H1 _ I1 t) fun us s2 ⟨ws, H2, I2, rw2, W2, ds, c2, l2, R2, r2, h3⟩ => ⟨I2.kIn, ?_⟩) hst hpl
  exact cl.run pins s2 σ H2 (.ref x :: us) [] (.ref x :: ws) [] Q W2 (d :: ds) [] c2 I2 (.cons rfl rw2) .nil rfl R2 (.cons (r1.up l2) r2) .nil h3
/-- o.m() -/
theorem fe_meth0 {c : Nat} {g : Addr} {pl : Sem Bool} (he : FE X cm Y o fo) (hc : Cls X.K (cm c)) (hm : Meth X.K (cm c) m g) (cl : Cal X cm Y (.ref g) [] F)
    (ht : eval (.Call (.Attribute o m apos) [] [] pos) X.env = (do
      let ov ← eval o X.env
      standAt apos.atName
      let (f, first) ← holding [ov] (getMethod ov m pl)
      callWith pos f first (backTo pos (starEach [] X.env)) (backToKw pos (keywordEach [] X.env))) := by rfl) : FE X cm Y (.Call (.Attribute o m apos) [] [] pos) (fMeth c m F fo aNil aNil) := by
  refine ⟨fun pins s σ H Q I ⟨W, σd, cs, R, E, P⟩ => ?_⟩
  refine PySem.W.methodCall_KW (pl := pl) (thn (he.run pins s σ H _ I (fmeth_go (T := fun v H1 => ∃ W1 d c1 fs, insOf c1 d = some (c, fs) ∧ fs.lookup m = none ∧ Rel X.K cm W1 c1 H1 ∧ Rp X.K cm W1 d v ∧ PostE X.K cm Y σ W1 (F [d] [] c1) Q) R E P
    fun W1 d c1 fs v H1 a1 a2 a3 a4 a5 a6 => ⟨W1, d, c1, fs, a1, a2, a3, a5, a6⟩)) fun u s1 ⟨v, H1, I1, rv, W1, d, c1, fs, a1, a2, R1, r1, h1⟩ => ?_) ht
  obtain ⟨x, dx, vs, rfl, h2, q⟩ := ins_of R1 r1 a1
  obtain rfl : u = Value.ref x := rv
  refine getmeth_ok I1 h2 hc hm (q.look_none a2) ?_
  exact PySem.W.callWith_K0 (first := [.ref x]) I1.kIn hm.kp (cl.run pins s1 σ H1 [.ref x] [] [.ref x] [] Q W1 [d] [] c1 I1 (.cons rfl .nil) .nil rfl R1 (.cons r1 .nil) .nil h1)
/-- o.m(k = v, ..) -/
theorem fe_methK0 {c : Nat} {g : Addr} {pl : Sem Bool} (he : FE X cm Y o fo) (hc : Cls X.K (cm c)) (hm : Meth X.K (cm c) m g) (cl : Cal X cm Y (.ref g) ks F) (hk : FKw X cm Y kws gk)
    (hall : (backToKw pos (keywordEach kws X.env)).all (·.1.isSome) = true := by rfl) (hks : (backToKw pos (keywordEach kws X.env)).filterMap (·.1) = ks := by rfl)
    (hpl : ((backTo pos (starEach [] X.env)).any (·.1) || (backToKw pos (keywordEach kws X.env)).any (·.1.isNone)) = false := by rfl)
    (ht : eval (.Call (.Attribute o m apos) [] kws pos) X.env = (do
      let ov ← eval o X.env
      standAt apos.atName
      let (f, first) ← holding [ov] (getMethod ov m pl)
      callWith pos f first (backTo pos (starEach [] X.env)) (backToKw pos (keywordEach kws X.env))) := by rfl) : FE X cm Y (.Call (.Attribute o m apos) [] kws pos) (fMeth c m (fun ds es cs => if es.length = ks.length then F ds es cs else .no) fo aNil gk) := by
  refine ⟨fun pins s σ H Q I ⟨W, σd, cs, R, E, P⟩ => ?_⟩
  refine PySem.W.methodCall_KW (pl := pl) (thn (he.run pins s σ H _ I (fmeth_go (T := fun v H1 => ∃ W1 d c1 fs, insOf c1 d = some (c, fs) ∧ fs.lookup m = none ∧ Rel X.K cm W1 c1 H1 ∧ En X.K cm W1 σd σ ∧ Rp X.K cm W1 d v ∧ PostE X.K cm Y σ W1 ((gk σd c1).bind fun es c3 => if es.length = ks.length then F [d] es c3 else .no) Q) R E P
    fun W1 d c1 fs v H1 a1 a2 a3 a4 a5 a6 => ⟨W1, d, c1, fs, a1, a2, a3, a4, a5, a6⟩)) fun u s1 ⟨v, H1, I1, rv, W1, d, c1, fs, a1, a2, R1, E1, r1, h1⟩ => ?_) ht
  obtain ⟨x, dx, vs, rfl, h2, q⟩ := ins_of R1 r1 a1
  obtain rfl : u = Value.ref x := rv
  refine getmeth_ok I1 h2 hc hm (q.look_none a2) ?_
  have t := tA_go (Q := fun zs H2 => ∃ W2 es c2, W1.le W2 ∧ Rel X.K cm W2 c2 H2 ∧ Rps X.K cm W2 es zs ∧ PostE X.K cm Y σ W2 (if es.length = ks.length then F [d] es c2 else .no) Q) R1 E1 asksE h1 fun d2 c2 _ h2 W2 H2 v2 l2 R2 E2 r2 => ⟨W2, d2, c2, l2, R2, r2, h2.up l2⟩
  refine PySem.W.callWith_KW0 (first := [.ref x]) (h₀ := X.base) I.ok.mod.kin hm.kp hall ?_ hpl
  refine thn (hk.run pos pins s1 σ H1 _ I1 t) fun ws s2 ⟨zs, H2, I2, rz, W2, es2, c2, l2, R2, r2, h3⟩ => ⟨I2.kIn, ?_⟩
  rw [hks]
  split at h3
  · rename_i hl
    exact cl.run pins s2 σ H2 [.ref x] ws [.ref x] zs Q W2 [d] es2 c2 I2 (.cons rfl .nil) rz (by rw [← r2.length]; exact hl) R2 (.cons (r1.up l2) .nil) r2 h3
  · exact h3.elim
end
end PV

namespace PV
open PySem PySem.Spec PyProof.Rows L2

/-! ### statements -/
def sOf {α : Type} (r : Out α) (σ : Sd) (k : α → List Cell → Sr) : Sr := match r with
  | .ok a c => k a c
  | .ex x c => .ex x σ c
  | .no => .no
@[simp] theorem sOf_ok {α : Type} {a : α} {c : List Cell} {σ : Sd} {k : α → List Cell → Sr} : sOf (.ok a c) σ k = k a c := rfl
@[simp] theorem sOf_ex {α : Type} {x : Xc} {c : List Cell} {σ : Sd} {k : α → List Cell → Sr} : sOf (.ex x c) σ k = .ex x σ c := rfl
@[simp] theorem sOf_no {α : Type} {σ : Sd} {k : α → List Cell → Sr} : sOf (.no : Out α) σ k = .no := rfl
section
variable {X : Cx} {cm : Nat → Addr} {Y : WX} {W : Wd} {σ : L2.St} {σd : Sd} {cs : List Cell} {H : Hp} {E : Ends}
theorem goS {f : Fe} {k : D → List Cell → Sr} {Q : VK} (R : Rel X.K cm W cs H) (N : En X.K cm W σd σ) (h : PostS X.K cm Y W (sOf (f σd cs) σd k) E)
    (go : ∀ d c1, PostS X.K cm Y W (k d c1) E → ∀ W' H' v, W.le W' → Rel X.K cm W' c1 H' → En X.K cm W' σd σ → Rp X.K cm W' d v → Q v H') : tE X.K cm Y f σ H Q := by
  refine ⟨W, σd, cs, R, N, ?_⟩
  cases e : f σd cs with
  | no => rw [e] at h; exact h.elim
  | ex x c => rw [e] at h; exact fun W' H' dd l R' p => h W' H' σ dd l R' (N.up l) p
  | ok d c1 => rw [e] at h; exact fun W' H' v l R' r => go d c1 h W' H' v l R' (N.up l) r
theorem goB {f : Ft} {k : Bool → List Cell → Sr} {Q : Bool → Hp → Prop} (R : Rel X.K cm W cs H) (N : En X.K cm W σd σ) (h : PostS X.K cm Y W (sOf (f σd cs) σd k) E)
    (go : ∀ d c1, PostS X.K cm Y W (k d c1) E → ∀ W' H', W.le W' → Rel X.K cm W' c1 H' → En X.K cm W' σd σ → Q d H') : tT X.K cm Y f σ H Q := by
  refine ⟨W, σd, cs, R, N, ?_⟩
  cases e : f σd cs with
  | no => rw [e] at h; exact h.elim
  | ex x c => rw [e] at h; exact fun W' H' dd l R' p => h W' H' σ dd l R' (N.up l) p
  | ok d c1 => rw [e] at h; exact fun W' H' l R' => go d c1 h W' H' l R' (N.up l)
theorem goA {f : Fa} {k : List D → List Cell → Sr} {Q : List V → Hp → Prop} (R : Rel X.K cm W cs H) (N : En X.K cm W σd σ) (h : PostS X.K cm Y W (sOf (f σd cs) σd k) E)
    (go : ∀ d c1, PostS X.K cm Y W (k d c1) E → ∀ W' H' v, W.le W' → Rel X.K cm W' c1 H' → En X.K cm W' σd σ → Rps X.K cm W' d v → Q v H') : tA X.K cm Y f σ H Q := by
  refine ⟨W, σd, cs, R, N, ?_⟩
  cases e : f σd cs with
  | no => rw [e] at h; exact h.elim
  | ex x c => rw [e] at h; exact fun W' H' dd l R' p => h W' H' σ dd l R' (N.up l) p
  | ok d c1 => rw [e] at h; exact fun W' H' v l R' r => go d c1 h W' H' v l R' (N.up l) r
end
section
variable {X : Cx} {cm : Nat → Addr} {Y : WX} {st : Stmt} {rest : List Stmt} {e o i tg : Expr} {f g : Fs} {fe fo fi : Fe} {ft : Ft} {pos p1 p2 : Pos}
def sNx : Fs := fun σ c => .nx σ c
def sSeq (f g : Fs) : Fs := fun σ cs => match f σ cs with
  | .nx σ' c => g σ' c
  | r => r
theorem fs_nil : FSs X cm Y [] sNx := PSs.weak pss_nil fun E σ H ⟨W, σd, cs, R, N, P⟩ => P W H σ (.refl W) R N
theorem seq_go {K : PySem.W.Frag} {E : Ends} {σ : L2.St} {H : Hp} (m : tS K cm Y (sSeq f g) E σ H) : tSeq (tS K cm Y f) (tS K cm Y g) E σ H := by
  obtain ⟨W, σd, cs, R, N, P⟩ := m
  refine ⟨W, σd, cs, R, N, ?_⟩
  unfold sSeq at P
  cases q : f σd cs with
  | nx σ' c => rw [q] at P; exact fun W' H' σ2 l R' N' => ⟨W', σ', c, R', N', PostS.up l P⟩
  | rt d c => rw [q] at P; exact P
  | bk σ' c => rw [q] at P; exact P
  | ct σ' c => rw [q] at P; exact P
  | ex x σ' c => rw [q] at P; exact P
  | no => rw [q] at P; exact P
theorem fs_cons (h1 : FS X cm Y st f) (h2 : FSs X cm Y rest g) : FSs X cm Y (st :: rest) (sSeq f g) := PSs.weak (pss_cons h1 h2) fun _ _ _ => seq_go
theorem fs_one (h1 : FS X cm Y st f) : FSs X cm Y [st] f := pss_one h1
theorem fs_pass : FS X cm Y (.Pass pos) sNx := PS.weak ps_pass fun E σ H ⟨W, σd, cs, R, N, P⟩ => P W H σ (.refl W) R N
theorem fs_break : FS X cm Y (.Break pos) (fun σ c => .bk σ c) := PS.weak ps_break fun E σ H ⟨W, σd, cs, R, N, P⟩ => P W H σ (.refl W) R N
theorem fs_cont : FS X cm Y (.Continue pos) (fun σ c => .ct σ c) := PS.weak ps_continue fun E σ H ⟨W, σd, cs, R, N, P⟩ => P W H σ (.refl W) R N
/-- a statement that is never reached -/
theorem fs_never : FS X cm Y st (fun _ _ => .no) := ⟨fun _ _ _ _ _ _ ⟨_, _, _, _, _, P⟩ => P.elim⟩
def sRet (f : Fe) : Fs := fun σ cs => sOf (f σ cs) σ fun d c => .rt d c
theorem fs_ret (h : FE X cm Y e fe) : FS X cm Y (.Return (some e) pos) (sRet fe) := PS.weak (ps_ret h) fun E σ H ⟨W, σd, cs, R, N, P⟩ => goS R N P fun d c1 h1 W1 H1 v l R1 N1 r1 => h1 W1 H1 v l R1 r1
theorem fs_retN : FS X cm Y (.Return none pos) (fun _ c => .rt .non c) := PS.weak ps_retN fun E σ H ⟨W, σd, cs, R, N, P⟩ => P W H .non (.refl W) R .non
def sEx (f : Fe) : Fs := fun σ cs => sOf (f σ cs) σ fun _ c => .nx σ c
theorem fs_expr (h : FE X cm Y e fe) (hs : swapsWith e none pos.line X.env = pure false := by rfl) : FS X cm Y (.Expr e pos) (sEx fe) := PS.weak (ps_expr h hs) fun E σ H ⟨W, σd, cs, R, N, P⟩ => goS R N P fun d c1 h1 W1 H1 v l R1 N1 r1 => h1 W1 H1 σ l R1 N1
def sIf (t : Ft) (f g : Fs) : Fs := fun σ cs => sOf (t σ cs) σ fun b c => if b = true then f σ c else g σ c
theorem fs_if {a b : List Stmt} (hc : FT X cm Y e ft) (ha : FSs X cm Y a f) (hb : FSs X cm Y b g) : FS X cm Y (.If e a b pos) (sIf ft f g) := PS.weak (ps_if hc ha hb) fun E σ H ⟨W, σd, cs, R, N, P⟩ => goB R N P fun d c1 h1 W1 H1 l R1 N1 => by
  cases d with
  | true => exact iteT ⟨W1, σd, c1, R1, N1, PostS.up l h1⟩
  | false => exact iteF ⟨W1, σd, c1, R1, N1, PostS.up l h1⟩

/-! ### targets -/
abbrev Gt := D → Sd → List Cell → Option Sd
/-- a target of names: js are their slots -/
def tG (K : PySem.W.Frag) (cm : Nat → Addr) (js : List Nat) (g : Gt) : TG := fun v σ H Q => ∃ W σd cs d σ', Rel K cm W cs H ∧ En K cm W σd σ ∧ Rp K cm W d v ∧ g d σd cs = some σ' ∧ ∀ σ2, En K cm W σ' σ2 → (∀ vs : List Nat, (∀ j ∈ js, j ∈ vs) → wipe σ2 vs = wipe σ vs) → Q σ2 H
abbrev FG (X : Cx) (cm : Nat → Addr) (tg : Expr) (js : List Nat) (g : Gt) : Prop := PG X tg (tG X.K cm js g)
theorem PG.weak {tg : Expr} {t t' : TG} (h : PG X tg t) (m : ∀ v σ H Q, t' v σ H Q → t v σ H Q) : PG X tg t' := ⟨fun pins s σ H v u Q I r q => h.run pins s σ H v u Q I r (m v σ H Q q)⟩
def gN (i : Nat) : Gt := fun d σ _ => some (σ.set i (some d))
theorem wipe_set {i : Nat} {x : Option V} : ∀ {vs : List Nat} {σ : L2.St}, i ∈ vs → wipe (σ.set i x) vs = wipe σ vs
  | [], _, h => nomatch h
  | j :: vs, σ, h => by
    by_cases q : i ∈ vs
    · show (wipe (σ.set i x) vs).set j none = (wipe σ vs).set j none
      rw [wipe_set q]
    · have e : i = j := by
        rcases List.mem_cons.mp h with z | z
        · exact z
        · exact absurd z q
      subst e
      have c : ∀ (l : List Nat) (τ : L2.St), i ∉ l → (wipe (τ.set i x) l).set i none = (wipe τ l).set i none := by
        intro l
        induction l with
        | nil => intro τ _; show (τ.set i x).set i none = τ.set i none; rw [List.set_set]
        | cons a l ih =>
          intro τ hn
          have ha : a ≠ i := fun z => hn (by rw [z]; exact List.mem_cons_self)
          show ((wipe (τ.set i x) l).set a none).set i none = ((wipe τ l).set a none).set i none
          rw [List.set_comm _ _ ha, List.set_comm _ _ ha, ih τ fun z => hn (List.mem_cons_of_mem _ z)]
      exact c vs σ q
theorem fg_name {i : Nat} {x : Str} (hN : X.N.Nodup) (hi : X.N[i]? = some x) (hx : Loc X.env.scope x) (hf : X.fn x = true ∨ X.env.scope.names.lookup x = some .local := by first | exact .inl rfl | exact .inr rfl | assumption) : FG X cm (.Name x pos) [i] (gN i) :=
  PG.weak (pg_name hN hi hx hf) fun v σ H Q ⟨W, σd, cs, d, σ', R, N, r, e, k⟩ => by
    cases e
    exact k _ (N.set i r) fun vs h => wipe_set (h i (by simp))
/-- several targets -/
abbrev Gts := List D → Sd → List Cell → Option Sd
def tGs (K : PySem.W.Frag) (cm : Nat → Addr) (js : List Nat) (g : Gts) : TGs := fun xs σ H Q => ∃ W σd cs ds σ', Rel K cm W cs H ∧ En K cm W σd σ ∧ Rps K cm W ds xs ∧ g ds σd cs = some σ' ∧ ∀ σ2, En K cm W σ' σ2 → (∀ vs : List Nat, (∀ j ∈ js, j ∈ vs) → wipe σ2 vs = wipe σ vs) → Q σ2 H
abbrev FGs (X : Cx) (cm : Nat → Addr) (ts : List Expr) (js : List Nat) (g : Gts) : Prop := PGs X ts (tGs X.K cm js g)
theorem PGs.weak {tg : List Expr} {t t' : TGs} (h : PGs X tg t) (m : ∀ v σ H Q, t' v σ H Q → t v σ H Q) : PGs X tg t' := ⟨fun pins s σ H v u Q I r q => h.run pins s σ H v u Q I r (m v σ H Q q)⟩
def gsNil : Gts := fun ds σ _ => match ds with
  | [] => some σ
  | _ => none
def gsCons (g : Gt) (h : Gts) : Gts := fun ds σ c => match ds with
  | d :: r => (g d σ c).bind fun σ1 => h r σ1 c
  | [] => none
theorem fgs_nil : FGs X cm [] [] gsNil := PGs.weak pgs_nil fun v σ H Q ⟨W, σd, cs, d, σ', R, N, r, e, k⟩ => by
  unfold gsNil at e
  split at e
  · cases e; cases r
    exact ⟨rfl, k _ N fun _ _ => rfl⟩
  · cases e
theorem fgs_cons {es : List Expr} {j1 j2 : List Nat} {g : Gt} {gs : Gts} (h1 : FG X cm e j1 g) (h2 : FGs X cm es j2 gs) (hs : (assignEach (e :: es) X.env).map (·.2) = assign e X.env :: (assignEach es X.env).map (·.2) := by rfl) : FGs X cm (e :: es) (j1 ++ j2) (gsCons g gs) :=
  PGs.weak (pgs_cons h1 h2 hs) fun v σ H Q ⟨W, σd, cs, d, σ', R, N, r, e, k⟩ => by
    unfold gsCons at e
    split at e
    · rename_i d0 ds
      cases q : g d0 σd cs with
      | none => rw [q] at e; cases e
      | some σ1 =>
        rw [q] at e
        cases r with
        | cons r1 r2 =>
          refine ⟨_, _, rfl, W, σd, cs, d0, σ1, R, N, r1, q, fun σ2 N2 w2 => ⟨W, σ1, cs, ds, σ', R, N2, r2, e, fun σ3 N3 w3 => k σ3 N3 fun vs h => ?_⟩⟩
          exact (w3 vs fun j hj => h j (List.mem_append_right _ hj)).trans (w2 vs fun j hj => h j (List.mem_append_left _ hj))
    · cases e
def gT (n : Nat) (g : Gts) : Gt := fun d σ c => match d with
  | .tup xs => if xs.length = n then g xs σ c else none
  | _ => none
theorem fg_tup {es : List Expr} {k n : Nat} {js : List Nat} {g : Gts} (hc : X.calm = true) (h : FGs X cm es js g) (hn : (assignEach es X.env).length = n := by rfl) (hst : (assignEach es X.env).findIdx? (·.1) = none := by rfl) : FG X cm (.Tuple es k pos) js (gT n g) :=
  PG.weak (pg_tup hc h hn hst) fun v σ H Q ⟨W, σd, cs, d, σ', R, N, r, e, k⟩ => by
    unfold gT at e
    split at e
    · split at e
      · rename_i hl
        cases r with
        | tup q1 q2 => exact ⟨_, _, rfl, SqT.of (R.sub _ _ q1), by rw [← q2.length]; exact hl, W, σd, cs, _, σ', R, N, q2, e, k⟩
      · cases e
    · cases e
def sAsg (f : Fe) (g : Gt) : Fs := fun σ cs => sOf (f σ cs) σ fun d c => match g d σ c with
  | some σ' => .nx σ' c
  | none => .no
theorem asg_go {K : PySem.W.Frag} {js : List Nat} {g : Gt} {E : Ends} {σ : L2.St} {H : Hp} (m : tS K cm Y (sAsg fe g) E σ H) : tAsg (tE K cm Y fe) (tG K cm js g) E σ H := by
  obtain ⟨W, σd, cs, R, N, P⟩ := m
  refine ⟨W, σd, cs, R, N, ?_⟩
  unfold sAsg at P
  cases e : fe σd cs with
  | no => rw [e] at P; exact P.elim
  | ex x c => rw [e] at P; exact fun W' H' dd l R' p => P W' H' σ dd l R' (N.up l) p
  | ok d c1 =>
    rw [e] at P
    intro W1 H1 v l R1 r1
    have P' : PostS K cm Y W (match g d σd c1 with | some σ' => .nx σ' c1 | none => .no) E := P
    cases q : g d σd c1 with
    | none => rw [q] at P'; exact P'.elim
    | some σ' =>
      rw [q] at P'
      exact ⟨W1, σd, c1, d, σ', R1, N.up l, r1, q, fun σ2 N2 _ => P' W1 H1 σ2 l R1 N2⟩
/-- target = e -/
theorem fs_asg {js : List Nat} {g : Gt} (he : FE X cm Y e fe) (hg : FG X cm tg js g) (hs : swapsWithSole [tg] e pos.line X.env = pure false := by rfl) (hw : swappedStores [tg] e X.env = pure none := by rfl)
    (h1 : (assignEach [tg] X.env).map (·.2) = [assign tg X.env] := by rfl) : FS X cm Y (.Assign [tg] e pos) (sAsg fe g) := PS.weak (ps_asg he hg hs hw h1) fun _ _ _ => asg_go
/-- name = e -/
theorem fs_set {i : Nat} {x : Str} (hN : X.N.Nodup) (hi : X.N[i]? = some x) (hx : Loc X.env.scope x) (he : FE X cm Y e fe) (hs : swapsWith e (some (.Name x p1)) pos.line X.env = pure false := by rfl) (hf : X.fn x = true ∨ X.env.scope.names.lookup x = some .local := by first | exact .inl rfl | exact .inr rfl | assumption) :
    FS X cm Y (.Assign [.Name x p1] e pos) (sAsg fe (gN i)) := PS.weak (ps_set hN hi hx he hs hf) fun E σ H ⟨W, σd, cs, R, N, P⟩ => by
  refine goS R N P fun d c1 h1 W1 H1 v l R1 N1 r1 => ?_
  exact h1 W1 H1 _ l R1 (N1.set i r1)
/-- a, b = x, y (stored from the right; the names are two) -/
def sPar (i j : Nat) (f : Fa) : Fs := fun σ cs => sOf (f σ cs) σ fun ds c => match ds with
  | [a, b] => .nx ((σ.set i (some a)).set j (some b)) c
  | _ => .no
theorem fs_par {i j : Nat} {x y : Str} {a b : Expr} {fa : Fa} {px py pt pt2 : Pos} {kt k2} (hc : X.calm = true) (hN : X.N.Nodup) (hi : X.N[i]? = some x) (hj : X.N[j]? = some y) (hij : i ≠ j)
    (hx : X.env.scope.names.lookup x = some .local) (hy : X.env.scope.names.lookup y = some .local) (ha : FA X cm Y [a, b] fa)
    (hw : swappedStores [.Tuple [.Name x px, .Name y py] kt pt] (.Tuple [a, b] k2 pt2) X.env = pure (some [x, y]))
    (hs : swapsWithSole [.Tuple [.Name x px, .Name y py] kt pt] (.Tuple [a, b] k2 pt2) pos.line X.env = pure false := by rfl) :
    FS X cm Y (.Assign [.Tuple [.Name x px, .Name y py] kt pt] (.Tuple [a, b] k2 pt2) pos) (sPar i j fa) := PS.weak (ps_par hc hN hi hj hij hx hy ha hw hs) fun E σ H ⟨W, σd, cs, R, N, P⟩ => by
  refine goA R N P fun ds c1 h1 W1 H1 vs l R1 N1 r1 => ?_
  split at h1
  · cases r1 with
    | cons q1 r1 => cases r1 with
      | cons q2 r1 =>
        cases r1
        exact ⟨_, _, rfl, h1 W1 H1 _ l R1 ((N1.set i q1).set j q2)⟩
  · exact h1.elim
def sPar3 (i j k : Nat) (f : Fa) : Fs := fun σ cs => sOf (f σ cs) σ fun ds c => match ds with
  | [a, b, d] => .nx (((σ.set i (some a)).set j (some b)).set k (some d)) c
  | _ => .no
theorem fs_par3 {i j l : Nat} {x y z : Str} {a b c : Expr} {fa : Fa} {px py pz pt pt2 : Pos} {kt k2} (hc : X.calm = true) (hN : X.N.Nodup) (hi : X.N[i]? = some x) (hj : X.N[j]? = some y) (hl : X.N[l]? = some z) (hij : i ≠ j) (hil : i ≠ l) (hjl : j ≠ l)
    (hx : X.env.scope.names.lookup x = some .local) (hy : X.env.scope.names.lookup y = some .local) (hz : X.env.scope.names.lookup z = some .local) (ha : FA X cm Y [a, b, c] fa)
    (hw : swappedStores [.Tuple [.Name x px, .Name y py, .Name z pz] kt pt] (.Tuple [a, b, c] k2 pt2) X.env = pure (some [x, y, z]))
    (hs : swapsWithSole [.Tuple [.Name x px, .Name y py, .Name z pz] kt pt] (.Tuple [a, b, c] k2 pt2) pos.line X.env = pure false := by rfl) :
    FS X cm Y (.Assign [.Tuple [.Name x px, .Name y py, .Name z pz] kt pt] (.Tuple [a, b, c] k2 pt2) pos) (sPar3 i j l fa) := PS.weak (ps_par3 hc hN hi hj hl hij hil hjl hx hy hz ha hw hs) fun E σ H ⟨W, σd, cs, R, N, P⟩ => by
  refine goA R N P fun ds c1 h1 W1 H1 vs l R1 N1 r1 => ?_
  split at h1
  · cases r1 with
    | cons q1 r1 => cases r1 with
      | cons q2 r1 => cases r1 with
        | cons q3 r1 =>
          cases r1
          exact ⟨_, _, _, rfl, h1 W1 H1 _ l R1 (((N1.set i q1).set j q2).set _ q3)⟩
  · exact h1.elim
/-- o[i] = e, o a list's cell -/
def setC (d i v : D) (cs : List Cell) : Option (List Cell) := match d, i with
  | .ref n, .int k => match cs[n]? with
    | some (.lst xs) => match ixN xs.length k with
      | some j => some (cs.set n (.lst (xs.set j v)))
      | none => none
    | _ => none
  | _, _ => none
def sSub (fe fo fi : Fe) : Fs := fun σ cs => sOf (fe σ cs) σ fun v c1 => sOf (fo σ c1) σ fun d c2 => sOf (fi σ c2) σ fun i c3 => match setC d i v c3 with
  | some c => .nx σ c
  | none => .no
theorem fs_sub (he : FE X cm Y e fe) (ho : FE X cm Y o fo) (hi : FE X cm Y i fi) (ha : ∀ v, assign (.Subscript o i p1) X.env v = (do
      let ov ← holding [v] (eval o X.env)
      let iv ← holding [v, ov] (eval i X.env)
      standAt p1
      holding [v, ov, iv] (setItem ov iv v)
      release [v, ov, iv] []) := by intro _; rfl)
    (hs : swapsWithSole [.Subscript o i p1] e pos.line X.env = pure false := by rfl) (hw : swappedStores [.Subscript o i p1] e X.env = pure none := by rfl) (h1 : (assignEach [.Subscript o i p1] X.env).map (·.2) = [assign (.Subscript o i p1) X.env] := by rfl) :
    FS X cm Y (.Assign [.Subscript o i p1] e pos) (sSub fe fo fi) := PS.weak (ps_asg he (pg_sub ho hi set_list ha) hs hw h1) fun E σ H ⟨W, σd, cs, R, N, P⟩ => by
  refine goS R N P fun v c1 h1 W1 H1 x l1 R1 N1 r1 => ?_
  refine goS R1 N1 (PostS.up l1 h1) fun d c2 h2 W2 H2 y l2 R2 N2 r2 => ?_
  refine goS R2 N2 (PostS.up l2 h2) fun ix c3 h3 W3 H3 z l3 R3 N3 r3 => ?_
  unfold setC at h3
  split at h3
  · rename_i c hs
    split at hs
    · rename_i n k
      split at hs
      · rename_i xs ec
        split at hs
        · rename_i j ej
          cases hs
          cases r3
          cases r2 with
          | @ref _ a ea =>
            have ea3 := l3.r _ _ ea
            obtain ⟨_, ys, e2, q⟩ := R3.cel n a _ ea3 ec
            refine ⟨a, ys, _, j, rfl, rfl, e2, by rw [← q.length]; exact ej, ?_⟩
            obtain ⟨_, R4⟩ := R3.setC (c' := .lst (xs.set j v)) (o := .lst (ys.set j x)) ea3 ec (by simp) ⟨rfl, _, rfl, q.set ((r1.up l2).up l3) j⟩
            exact h3 W3 _ σ l3 R4 N3
        · cases hs
      · cases hs
    · cases hs
  · exact h3.elim
/-- o.f = e, o an instance's cell -/
def setF (cl : List Nat) (f : Str) (d v : D) (cs : List Cell) : Option (List Cell) := match d with
  | .ref n => match cs[n]? with
    | some (.ins c fs) => if cl.contains c = true ∧ fs.length < 1000 then some (cs.set n (.ins c (putD f v fs))) else none
    | _ => none
  | _ => none
def sFld (cl : List Nat) (f : Str) (fe fo : Fe) : Fs := fun σ cs => sOf (fe σ cs) σ fun v c1 => sOf (fo σ c1) σ fun d c2 => match setF cl f d v c2 with
  | some c => .nx σ c
  | none => .no
theorem fs_fld (cl : List Nat) {f : Str} (h : ∀ c ∈ cl, Cls X.K (cm c) ∧ NoAttr X.K (cm c) f) (ho : FE X cm Y o fo) (he : FE X cm Y e fe) (hs : swapsWith e (some (.Attribute o f p1)) pos.line X.env = pure false := by rfl) :
    FS X cm Y (.Assign [.Attribute o f p1] e pos) (sFld cl f fe fo) := PS.weak (ps_fld ho he hs) fun E σ H ⟨W, σd, cs, R, N, P⟩ => by
  refine goS R N P fun v c1 h1 W1 H1 x l1 R1 N1 r1 => ?_
  refine goS R1 N1 (PostS.up l1 h1) fun d c2 h2 W2 H2 y l2 R2 N2 r2 => ?_
  unfold setF at h2
  split at h2
  · rename_i c hs
    split at hs
    · rename_i n
      split at hs
      · rename_i c0 fs ec
        split at hs
        · rename_i hc
          cases hs
          cases r2 with
          | @ref _ a ea =>
            obtain ⟨_, dx, ys, e2, q⟩ := R2.cel n a _ ea ec
            obtain ⟨k1, k2⟩ := h c0 (by simpa using hc.1)
            refine ⟨a, cm c0, dx, ys, rfl, e2, k1, k2, by rw [← q.length]; exact hc.2, ?_⟩
            obtain ⟨_, R4⟩ := R2.setC (c' := .ins c0 (putD f v fs)) (o := .ins (cm c0) dx (putF f x ys)) ea ec (by simp) ⟨rfl, _, _, rfl, q.put (r1.up l2)⟩
            exact h2 W2 _ σ l2 R4 N2
        · cases hs
      · cases hs
    · cases hs
  · exact h2.elim
/-- a ghost: the list or instance that a name holds is frozen -/
def sFrz (i : Nat) : Fs := fun σ cs => match σ[i]? with
  | some (some d) => match frzD d cs with
    | some (d', c) => .nx (σ.set i (some d')) c
    | none => .no
  | _ => .no
theorem fs_frz (i : Nat) {sts : List Stmt} (h : FSs X cm Y sts f) : FSs X cm Y sts (sSeq (sFrz i) f) := PSs.weak h fun E σ H ⟨W, σd, cs, R, N, P⟩ => by
  unfold sSeq sFrz at P
  cases q : σd[i]? with
  | none => rw [q] at P; exact P.elim
  | some o =>
    cases o with
    | none => rw [q] at P; exact P.elim
    | some d =>
      rw [q] at P
      cases q2 : frzD d cs with
      | none => simp only [q2] at P; exact P.elim
      | some p =>
        obtain ⟨d', c⟩ := p
        simp only [q2] at P
        obtain ⟨v, hv, r⟩ := N.at_ i d q
        have z : Post X.K cm W (frzD d cs) fun v' H' => v' = v → tS X.K cm Y f E σ H' := ⟨d', c, q2, fun W' H' v' l R' r' ev => ?_⟩
        · exact frz_go R r z rfl
        · subst ev
          refine ⟨W', σd.set i (some d'), c, R', ?_, PostS.up l P⟩
          have N' := (N.up l).set i r'
          have e : σ.set i (some v') = σ := by
            have hi : i < σ.length := (List.getElem?_eq_some_iff.mp hv).1
            have := (List.getElem?_eq_some_iff.mp hv).2
            rw [← this]; exact List.set_getElem_self hi
          rw [e] at N'
          exact N'
/-- x op= e of ints -/
def sAug (i : Nat) (op : Int → Int → Int) (f : Fe) : Fs := fun σ cs => match σ[i]? with
  | some (some (.int a)) => sOf (f σ cs) σ fun d c => match d with
    | .int b => .nx (σ.set i (some (.int (op a b)))) c
    | _ => .no
  | _ => .no
theorem fs_aug {n : Nat} {x : Str} {op : Operator} {h : Int → Int → Int} (hp : PIp X op (ipI h)) (hN : X.N.Nodup) (hi : X.N[n]? = some x) (hx : Loc X.env.scope x) (he : FE X cm Y e fe) (hf : X.fn x = true ∨ X.env.scope.names.lookup x = some .local := by first | exact .inl rfl | exact .inr rfl | assumption) :
    FS X cm Y (.AugAssign (.Name x p1) op e pos) (sAug n h fe) := PS.weak (ps_aug hN hi hx he hp hf) fun E σ H ⟨W, σd, cs, R, N, P⟩ => by
  unfold sAug at P
  split at P
  · rename_i a ea
    obtain ⟨v, hv, r⟩ := N.at_ _ _ ea
    cases r
    refine ⟨_, hv, ?_⟩
    refine goS R N P fun d c1 h1 W1 H1 y l1 R1 N1 r1 => ?_
    split at h1
    · cases r1
      exact ⟨_, _, rfl, rfl, h1 W1 H1 _ l1 R1 (N1.set n (.int _))⟩
    · exact h1.elim
  · exact P.elim
end

/-! ### while -/
section
variable {X : Cx} {cm : Nat → Addr} {Y : WX} {e tg iter : Expr} {body : List Stmt} {ft : Ft} {fb : Fs} {pos : Pos}
/-- at most n turns -/
def whl (ft : Ft) (fb : Fs) : Nat → Fs
  | 0 => fun _ _ => .no
  | n + 1 => fun σ cs => sOf (ft σ cs) σ fun b c => if b = true then match fb σ c with
    | .nx σ' c' => whl ft fb n σ' c'
    | .ct σ' c' => whl ft fb n σ' c'
    | .bk σ' c' => .nx σ' c'
    | r => r
    else .nx σ c
/-- the turns are as many as are needed -/
noncomputable def sWhile (ft : Ft) (fb : Fs) : Fs := fun σ cs => open Classical in if h : ∃ n, whl ft fb n σ cs ≠ .no then whl ft fb h.choose σ cs else .no
theorem whl_more {ft : Ft} {fb : Fs} : ∀ {n : Nat} {σ : Sd} {cs : List Cell}, whl ft fb n σ cs ≠ .no → whl ft fb (n + 1) σ cs = whl ft fb n σ cs
  | 0, σ, cs, h => absurd rfl h
  | n + 1, σ, cs, h => by
    show sOf (ft σ cs) σ _ = sOf (ft σ cs) σ _
    cases q : ft σ cs with
    | no => rfl
    | ex x c => rfl
    | ok b c =>
      cases b with
      | false => rfl
      | true =>
        have h' : whl ft fb (n + 1) σ cs = (match fb σ c with
          | .nx σ' c' => whl ft fb n σ' c'
          | .ct σ' c' => whl ft fb n σ' c'
          | .bk σ' c' => .nx σ' c'
          | r => r) := by
          show sOf (ft σ cs) σ _ = _
          rw [q]; rfl
        rw [h'] at h
        show (match fb σ c with
          | .nx σ' c' => whl ft fb (n + 1) σ' c'
          | .ct σ' c' => whl ft fb (n + 1) σ' c'
          | .bk σ' c' => .nx σ' c'
          | r => r) = (match fb σ c with
          | .nx σ' c' => whl ft fb n σ' c'
          | .ct σ' c' => whl ft fb n σ' c'
          | .bk σ' c' => .nx σ' c'
          | r => r)
        cases q2 : fb σ c with
        | nx σ' c' => rw [q2] at h; exact whl_more h
        | ct σ' c' => rw [q2] at h; exact whl_more h
        | bk σ' c' => rfl
        | rt d c' => rfl
        | ex x σ' c' => rfl
        | no => rfl
theorem whl_le {ft : Ft} {fb : Fs} {n m : Nat} (l : n ≤ m) {σ : Sd} {cs : List Cell} (h : whl ft fb n σ cs ≠ .no) : whl ft fb m σ cs = whl ft fb n σ cs := by
  induction l with
  | refl => rfl
  | step l ih => rw [whl_more (by rw [ih]; exact h), ih]
/-- what is asked of a while: n turns are enough -/
theorem sWhile_eq {ft : Ft} {fb : Fs} {n : Nat} {σ : Sd} {cs : List Cell} {r : Sr} (h : whl ft fb n σ cs = r) (hr : r ≠ .no) : sWhile ft fb σ cs = r := by
  have ex : ∃ n, whl ft fb n σ cs ≠ .no := ⟨n, by rw [h]; exact hr⟩
  unfold sWhile
  rw [dif_pos ex]
  have q := ex.choose_spec
  rcases Nat.le_total ex.choose n with l | l
  · rw [← whl_le l q]; exact h
  · rw [whl_le l (by rw [h]; exact hr)]; exact h
theorem fs_while (hp : PassesOwn (model X.prog X.w) X.A X.env X.xe) (hc : FT X cm Y e ft) (hb : FSs X cm Y body fb) : FS X cm Y (.While e body [] pos) (sWhile ft fb) := PS.weak (ps_while hp hc hb) fun E σ H ⟨W, σd, cs, R, N, P⟩ => by
  unfold sWhile at P
  split at P
  · rename_i hex
    refine ⟨fun m σ H => ∃ W σd cs, Rel X.K cm W cs H ∧ En X.K cm W σd σ ∧ PostS X.K cm Y W (whl ft fb m σd cs) E, ⟨_, W, σd, cs, R, N, P⟩, ?_⟩
    rintro m σ H ⟨W, σd, cs, R, N, P⟩
    cases m with
    | zero => exact P.elim
    | succ m =>
      refine goB R N P fun b c1 h1 W1 H1 l1 R1 N1 => ?_
      cases b with
      | false => exact iteF (h1 W1 H1 σ l1 R1 N1)
      | true =>
        refine iteT ⟨fun σ' H' => ∃ W σd cs, Rel X.K cm W cs H' ∧ En X.K cm W σd σ' ∧ PostS X.K cm Y W (whl ft fb m σd cs) E, fun σ' H' z => ⟨m, Nat.lt_succ_self _, z⟩, W1, σd, c1, R1, N1, ?_⟩
        have h2 : PostS X.K cm Y W (match fb σd c1 with
          | .nx σ' c' => whl ft fb m σ' c'
          | .ct σ' c' => whl ft fb m σ' c'
          | .bk σ' c' => .nx σ' c'
          | r => r) E := h1
        cases q : fb σd c1 with
        | nx σ' c' => rw [q] at h2; exact fun W2 H2 σ2 l2 R2 N2 => ⟨W2, σ', c', R2, N2, PostS.up (l1.trans l2) h2⟩
        | ct σ' c' => rw [q] at h2; exact fun W2 H2 σ2 l2 R2 N2 => ⟨W2, σ', c', R2, N2, PostS.up (l1.trans l2) h2⟩
        | bk σ' c' => rw [q] at h2; exact fun W2 H2 σ2 l2 R2 N2 => h2 W2 H2 σ2 (l1.trans l2) R2 N2
        | rt d c' => rw [q] at h2; exact fun W2 H2 v l2 R2 r2 => h2 W2 H2 v (l1.trans l2) R2 r2
        | ex x σ' c' => rw [q] at h2; exact fun W2 H2 σ2 dd l2 R2 N2 p => h2 W2 H2 σ2 dd (l1.trans l2) R2 N2 p
        | no => rw [q] at h2; exact h2.elim
  · exact P.elim

/-! ### what a loop walks -/
/-- J yields the data ds, from W on -/
def Yields (K : PySem.W.Frag) (cm : Nat → Addr) (W₀ : Wd) (ds : List D) (J : It) : Prop := ∀ (i : Nat) (W : Wd) (cs : List Cell) (H : Hp), W₀.le W ∨ (∃ a o, (W₀.pinned a o).le W) → Rel K cm W cs H →
  (∀ d, ds[i]? = some d → J.go i H ∧ ∀ x H', J.yld i H x H' → ∃ W', W.le W' ∧ Rel K cm W' cs H' ∧ Rp K cm W' d x) ∧ (ds[i]? = none → J.stop i H)
abbrev Fi := Sd → List Cell → Out (List D)
def PostI (K : PySem.W.Frag) (cm : Nat → Addr) (Y : WX) (σ : L2.St) (W : Wd) (r : Out (List D)) (Q : It → Hp → Prop) : Prop := match r with
  | .ok ds cs => ∀ W' H' J, W.le W' → Rel K cm W' cs H' → Yields K cm W' ds J → Q J H'
  | .ex x cs => Wish K cm Y σ W x cs
  | .no => False
theorem asksI {K : PySem.W.Frag} {W : Wd} {σ : L2.St} {Q : It → Hp → Prop} : Asks K cm Y σ W (fun r => PostI K cm Y σ W r Q) := ⟨fun h => h, fun _ _ h => h⟩
def wI (K : PySem.W.Frag) (cm : Nat → Addr) (Y : WX) (f : Fi) : TI := fun σ H Q => ∃ W σd cs, Rel K cm W cs H ∧ En K cm W σd σ ∧ PostI K cm Y σ W (f σd cs) Q
abbrev FI (X : Cx) (cm : Nat → Addr) (Y : WX) (tg iter : Expr) (f : Fi) : Prop := PI X tg iter (wI X.K cm Y f)
theorem PI.weak {t t' : TI} (h : PI X tg iter t) (m : ∀ σ H Q, t' σ H Q → t σ H Q) : PI X tg iter t' := ⟨fun pins s σ H Q I q => h.run pins s σ H Q I (m σ H Q q)⟩
theorem pin_le {W₀ W : Wd} (h : W₀.le W ∨ ∃ a o, (W₀.pinned a o).le W) : (∀ a o, W₀.G a = some o → W.G a = some o) ∧ ∀ (i : Nat) (a : Addr), W₀.r[i]? = some a → W.r[i]? = some a := by
  rcases h with h | ⟨a, o, h⟩
  · exact ⟨h.g, h.r⟩
  · exact ⟨h.g, h.r⟩
/-- of frozen lists and tuples -/
def iSeq (f : Fe) : Fi := fun σ cs => (f σ cs).bind fun d c => match d with
  | .lst xs => .ok xs c
  | .arg xs => .ok xs c
  | _ => .no
def iTupD (f : Fe) : Fi := fun σ cs => (f σ cs).bind fun d c => match d with
  | .tup xs => .ok xs c
  | .argT xs => .ok xs c
  | _ => .no
theorem get_lt {α : Type} {xs : List α} {i : Nat} {x : α} (h : xs[i]? = some x) : i < xs.length := (List.getElem?_eq_some_iff.mp h).1
variable {fe : Fe} {l : Expr}
theorem fi_list (hl : FE X cm Y l fe) : FI X cm Y tg l (iSeq fe) := PI.weak (pi_list hl) fun σ H Q ⟨W, σd, cs, R, N, P⟩ => by
  refine tE_go R N asksI P fun d c1 _ h1 W1 H1 v l1 R1 N1 r1 => ?_
  have fin : ∀ {a : Addr} {xs : List D} {vs : List V}, (∀ G' : Hp, (∀ a o, W1.G a = some o → G' a = some o) → SqL X.K G' a vs) → Rps X.K cm W1 xs vs → PostI X.K cm Y σ W (.ok xs c1) Q → ∃ b, V.ref a = .ref b ∧ (∃ ys, SqL X.K H1 b ys) ∧ Q (Itl X.K b) H1 := fun {a xs vs} g q h => by
    refine ⟨a, rfl, ⟨vs, g H1 R1.sub⟩, h W1 H1 _ l1 R1 fun i W2 cs2 H2 l2 R2 => ?_⟩
    obtain ⟨lg, lr⟩ := pin_le l2
    have s2 : SqL X.K H2 a vs := sqL_le R2.sub (g W2.G lg)
    refine ⟨fun d hd => ?_, fun hd => ⟨vs, s2, ?_⟩⟩
    · obtain ⟨x, hx, rx⟩ := q.get hd
      refine ⟨⟨vs, x, s2, hx⟩, fun y H3 z => ?_⟩
      obtain ⟨e, y3⟩ := z
      subst e
      have hy := y3 vs s2
      rw [hx] at hy
      cases hy
      exact ⟨W2, .refl W2, R2, rx.up' lg lr⟩
    · rw [← q.length]; exact List.getElem?_eq_none_iff.mp hd
  split at h1
  · cases r1 with
    | lst g q => exact fin (fun G' hg => SqL.of (hg _ _ g)) q h1
  · cases r1 with
    | arg g q => exact fin (fun G' hg => sqL_le hg g) q h1
  · exact h1.elim
theorem fi_tup (hl : FE X cm Y l fe) : FI X cm Y tg l (iTupD fe) := PI.weak (pi_tup hl) fun σ H Q ⟨W, σd, cs, R, N, P⟩ => by
  refine tE_go R N asksI P fun d c1 _ h1 W1 H1 v l1 R1 N1 r1 => ?_
  have fin : ∀ {a : Addr} {xs : List D} {vs : List V}, (∀ G' : Hp, (∀ a o, W1.G a = some o → G' a = some o) → SqT X.K G' a vs) → Rps X.K cm W1 xs vs → PostI X.K cm Y σ W (.ok xs c1) Q → ∃ b, V.ref a = .ref b ∧ (∃ ys, SqT X.K H1 b ys) ∧ Q (Itt X.K b) H1 := fun {a xs vs} g q h => by
    refine ⟨a, rfl, ⟨vs, g H1 R1.sub⟩, h W1 H1 _ l1 R1 fun i W2 cs2 H2 l2 R2 => ?_⟩
    obtain ⟨lg, lr⟩ := pin_le l2
    have s2 : SqT X.K H2 a vs := sqT_le R2.sub (g W2.G lg)
    refine ⟨fun d hd => ?_, fun hd => ⟨vs, s2, ?_⟩⟩
    · obtain ⟨x, hx, rx⟩ := q.get hd
      refine ⟨⟨vs, x, s2, hx⟩, fun y H3 z => ?_⟩
      obtain ⟨e, y3⟩ := z
      subst e
      have hy := y3 vs s2
      rw [hx] at hy
      cases hy
      exact ⟨W2, .refl W2, R2, rx.up' lg lr⟩
    · rw [← q.length]; exact List.getElem?_eq_none_iff.mp hd
  split at h1
  · cases r1 with
    | tup g q => exact fin (fun G' hg => SqT.of (hg _ _ g)) q h1
  · cases r1 with
    | argT g q => exact fin (fun G' hg => sqT_le hg g) q h1
  · exact h1.elim
/-- range -/
def rngD (lo : Int) (n : Nat) : List D := (List.range n).map fun i : Nat => D.int (lo + i)
theorem yields_rng {K : PySem.W.Frag} {W : Wd} (lo : Int) (n : Nat) : Yields K cm W (rngD lo n) (Itr lo n) := fun i W2 cs2 H2 l2 R2 => by
  refine ⟨fun d hd => ?_, fun hd => ?_⟩
  · have hi : i < n := by have := get_lt hd; unfold rngD at this; simpa using this
    refine ⟨hi, fun y H3 z => ?_⟩
    obtain ⟨e, y3⟩ := z
    subst e y3
    unfold rngD at hd
    rw [List.getElem?_map, List.getElem?_range hi] at hd
    cases hd
    exact ⟨W2, .refl W2, R2, .int _⟩
  · have := List.getElem?_eq_none_iff.mp hd
    unfold rngD at this
    show n ≤ i
    simpa using this
def iRg1 (f : Fa) : Fi := fun σ cs => (f σ cs).bind fun ds c => match ds with
  | [.int j] => if -(2 ^ 62) ≤ j ∧ j < 2 ^ 62 then .ok (rngD 0 j.toNat) c else .no
  | _ => .no
def iRg2 (f : Fa) : Fi := fun σ cs => (f σ cs).bind fun ds c => match ds with
  | [.int i, .int j] => if -(2 ^ 62) ≤ i ∧ i < 2 ^ 62 ∧ -(2 ^ 62) ≤ j ∧ j < 2 ^ 62 then .ok (rngD i (j - i).toNat) c else .no
  | _ => .no
theorem fi_range1 {a : Expr} {fa : Fa} {p : Pos} (hm : X.mg "range" = none) (ha : FA X cm Y [a] fa) (hg : Gl X "range" := by rfl) (hs : starEach [a] X.env = [(false, eval a X.env)] := by rfl) : FI X cm Y tg (.Call (.Name "range" p) [a] [] pos) (iRg1 fa) := PI.weak (pi_range1 hg hm ha hs) fun σ H Q ⟨W, σd, cs, R, N, P⟩ => by
  refine tA_go R N asksI P fun d c1 _ h1 W1 H1 v l1 R1 N1 r1 => ?_
  split at h1
  · split at h1
    · rename_i hb
      obtain ⟨x, rfl, q⟩ := r1.one
      cases q
      exact ⟨_, rfl, hb.1, hb.2, h1 W1 H1 _ l1 R1 (yields_rng 0 _)⟩
    · exact h1.elim
  · exact h1.elim
theorem fi_range2 {a b : Expr} {fa : Fa} {p : Pos} (hm : X.mg "range" = none) (ha : FA X cm Y [a, b] fa) (hg : Gl X "range" := by rfl) (hs : starEach [a, b] X.env = [(false, eval a X.env), (false, eval b X.env)] := by rfl) (hs2 : starEach [b] X.env = [(false, eval b X.env)] := by rfl) : FI X cm Y tg (.Call (.Name "range" p) [a, b] [] pos) (iRg2 fa) := PI.weak (pi_range2 hg hm ha hs hs2) fun σ H Q ⟨W, σd, cs, R, N, P⟩ => by
  refine tA_go R N asksI P fun d c1 _ h1 W1 H1 v l1 R1 N1 r1 => ?_
  split at h1
  · split at h1
    · rename_i hb
      obtain ⟨x, y, rfl, q1, q2⟩ := r1.two
      cases q1; cases q2
      exact ⟨_, _, rfl, hb, h1 W1 H1 _ l1 R1 (yields_rng _ _)⟩
    · exact h1.elim
  · exact h1.elim

/-! ### for -/
def forL (g : Gt) (fb : Fs) : List D → Fs
  | [] => fun σ c => .nx σ c
  | d :: ds => fun σ c => match g d σ c with
    | none => .no
    | some σ1 => match fb σ1 c with
      | .nx σ2 c2 => forL g fb ds σ2 c2
      | .ct σ2 c2 => forL g fb ds σ2 c2
      | .bk σ2 c2 => .nx σ2 c2
      | r => r
def sFor (f : Fi) (g : Gt) (fb : Fs) : Fs := fun σ cs => sOf (f σ cs) σ fun ds c => forL g fb ds σ c
theorem fs_for {f : Fi} {js : List Nat} {g : Gt} (hp : PassesOwn (model X.prog X.w) X.A X.env X.xe) (hc : X.calm = true) (hi : FI X cm Y tg iter f) (hg : FG X cm tg js g) (hb : FSs X cm Y body fb)
    (hs : ∀ x, foldedSetIterable iter X.env x = pure x := by intro _; rfl) : FS X cm Y (.For tg iter body [] pos) (sFor f g fb) := PS.weak (ps_for hp hc hi hg hb hs) fun E σ H ⟨W, σd, cs, R, N, P⟩ => by
  refine ⟨W, σd, cs, R, N, ?_⟩
  unfold sFor at P
  cases e : f σd cs with
  | no => rw [e] at P; exact P.elim
  | ex x c => rw [e] at P; exact fun W' H' dd l R' p => P W' H' σ dd l R' (N.up l) p
  | ok ds c1 =>
    rw [e] at P
    intro W1 H1 J l1 R1 yl
    refine ⟨fun i m σ H => m = ds.length - i ∧ ∃ W2 σ2 c2, W1.le W2 ∧ Rel X.K cm W2 c2 H ∧ En X.K cm W2 σ2 σ ∧ PostS X.K cm Y W2 (forL g fb (ds.drop i) σ2 c2) E, ⟨_, rfl, W1, σd, c1, .refl W1, R1, N.up l1, by rw [List.drop_zero]; exact PostS.up l1 P⟩, ?_⟩
    rintro i m σ H ⟨rfl, W2, σ2, c2, l2, R2, N2, P2⟩
    obtain ⟨y1, y2⟩ := yl i W2 c2 H (.inl l2) R2
    cases hd : ds[i]? with
    | none =>
      refine .inl ⟨y2 hd, ?_⟩
      rw [List.drop_eq_nil_of_le (List.getElem?_eq_none_iff.mp hd)] at P2
      exact P2 W2 H σ (.refl W2) R2 N2
    | some d =>
      obtain ⟨go, y3⟩ := y1 d hd
      have hlt := get_lt hd
      refine .inr ⟨go, fun σ' H' => ∃ W2 σ2 c2, W1.le W2 ∧ Rel X.K cm W2 c2 H' ∧ En X.K cm W2 σ2 σ' ∧ PostS X.K cm Y W2 (forL g fb (ds.drop (i + 1)) σ2 c2) E, fun σ' H' z => ⟨ds.length - (i + 1), by omega, rfl, z⟩, fun x H' yy => ?_⟩
      obtain ⟨W3, l3, R3, r3⟩ := y3 x H' yy
      have ed : ds.drop i = d :: ds.drop (i + 1) := by
        rw [List.drop_eq_getElem_cons hlt]
        rw [List.getElem?_eq_getElem hlt] at hd
        cases hd; rfl
      rw [ed] at P2
      have P3 : PostS X.K cm Y W2 (match g d σ2 c2 with
        | none => .no
        | some σ1 => match fb σ1 c2 with
          | .nx σ2 c2 => forL g fb (ds.drop (i + 1)) σ2 c2
          | .ct σ2 c2 => forL g fb (ds.drop (i + 1)) σ2 c2
          | .bk σ2 c2 => .nx σ2 c2
          | r => r) E := P2
      cases q : g d σ2 c2 with
      | none => rw [q] at P3; exact P3.elim
      | some σ3 =>
        rw [q] at P3
        refine ⟨W3, σ2, c2, d, σ3, R3, N2.up l3, r3, q, fun σ4 N4 _ => ⟨W3, σ3, c2, R3, N4, ?_⟩⟩
        have P4 : PostS X.K cm Y W2 (match fb σ3 c2 with
          | .nx σ2 c2 => forL g fb (ds.drop (i + 1)) σ2 c2
          | .ct σ2 c2 => forL g fb (ds.drop (i + 1)) σ2 c2
          | .bk σ2 c2 => .nx σ2 c2
          | r => r) E := P3
        cases q2 : fb σ3 c2 with
        | nx σ' c' => rw [q2] at P4; exact fun W5 H5 σ5 l5 R5 N5 => ⟨W5, σ', c', (l2.trans l3).trans l5, R5, N5, PostS.up (l3.trans l5) P4⟩
        | ct σ' c' => rw [q2] at P4; exact fun W5 H5 σ5 l5 R5 N5 => ⟨W5, σ', c', (l2.trans l3).trans l5, R5, N5, PostS.up (l3.trans l5) P4⟩
        | bk σ' c' => rw [q2] at P4; exact fun W5 H5 σ5 l5 R5 N5 => P4 W5 H5 σ5 (l3.trans l5) R5 N5
        | rt d c' => rw [q2] at P4; exact fun W5 H5 v l5 R5 r5 => P4 W5 H5 v (l3.trans l5) R5 r5
        | ex x σ' c' => rw [q2] at P4; exact fun W5 H5 σ5 dd l5 R5 N5 p => P4 W5 H5 σ5 dd (l3.trans l5) R5 N5 p
        | no => rw [q2] at P4; exact P4.elim
end
end PV

namespace PV
open PySem PySem.Spec PyProof.Rows L2

/-! ### comprehensions -/
def wipeD (σ : Sd) : List Nat → Sd
  | [] => σ
  | v :: vs => (wipeD σ vs).set v none
theorem wipeD_len (σ : Sd) : ∀ vs, (wipeD σ vs).length = σ.length
  | [] => rfl
  | v :: vs => by
    show ((wipeD σ vs).set v none).length = _
    rw [List.length_set, wipeD_len σ vs]
theorem En.up' {K : PySem.W.Frag} {cm : Nat → Addr} {W W' : Wd} (lg : ∀ a o, W.G a = some o → W'.G a = some o) (lr : ∀ (i : Nat) (a : Addr), W.r[i]? = some a → W'.r[i]? = some a) {σd : Sd} {σ : L2.St} (h : En K cm W σd σ) : En K cm W' σd σ :=
  ⟨h.len, fun i d e => let ⟨v, a, b⟩ := h.at_ i d e; ⟨v, a, b.up' lg lr⟩⟩
theorem En.wipe {K : PySem.W.Frag} {cm : Nat → Addr} {W : Wd} {σd : Sd} {σ : L2.St} (h : En K cm W σd σ) : ∀ vs, En K cm W (wipeD σd vs) (wipe σ vs)
  | [] => h
  | v :: vs => by
    have ih := En.wipe h vs
    refine ⟨?_, fun i d e => ?_⟩
    · show ((wipeD σd vs).set v none).length = ((L2.wipe σ vs).set v none).length
      rw [List.length_set, List.length_set]; exact ih.len
    · have e' : ((wipeD σd vs).set v none)[i]? = some (some d) := e
      show ∃ w, ((L2.wipe σ vs).set v none)[i]? = some (some w) ∧ _
      by_cases q : i = v
      · subst q
        have lt : i < (wipeD σd vs).length := by
          have := get_lt e'
          rw [List.length_set] at this; exact this
        rw [List.getElem?_set_self lt] at e'
        cases e'
      · rw [List.getElem?_set_ne (Ne.symm q)] at e' ⊢
        exact ih.at_ i d e'
/-- the items, one after another; nothing may be raised -/
def lcM (g : Gt) (ft : Ft) (fe : Fe) (σ : Sd) : List D → List Cell → Out (List D)
  | [], c => .ok [] c
  | d :: ds, c => match g d σ c with
    | none => .no
    | some σ1 => match ft σ1 c with
      | .ok true c1 => match fe σ1 c1 with
        | .ok y c2 => (lcM g ft fe σ ds c2).bind fun ys c3 => .ok (y :: ys) c3
        | _ => .no
      | .ok false c1 => lcM g ft fe σ ds c1
      | _ => .no
def lcE (fz : Bool) (r : Out (List D)) : Out D := match r with
  | .ok xs c => if xs.length ≤ sizeLine then up (mkL fz xs c) else .no
  | _ => .no
def fLc (fz : Bool) (fi : Fi) (g : Gt) (ft : Ft) (fe : Fe) (vs : List Nat) : Fe := fun σ cs => (fi σ cs).bind fun ds c => lcE fz (lcM g ft fe (wipeD σ vs) ds c)
abbrev FTs (X : Cx) (cm : Nat → Addr) (Y : WX) (ifs : List Expr) (f : Ft) : Prop := PTs X ifs (tT X.K cm Y f)
theorem PTs.weak {X : Cx} {ifs : List Expr} {t t' : TT} (h : PTs X ifs t) (m : ∀ σ H Q, t' σ H Q → t σ H Q) : PTs X ifs t' := ⟨fun pins s σ H Q I q => h.run pins s σ H Q I (m σ H Q q)⟩
abbrev yNo : WX := fun _ _ _ _ => False
section
variable {X : Cx} {cm : Nat → Addr} {Y : WX} {elt tg iter : Expr} {ifs : List Expr} {scope : Scope} {own : List (Str × Nat)} {pos : Pos} {fi : Fi} {g : Gt} {ft : Ft} {fe : Fe}
theorem fts_nil : FTs X cm Y [] (fun _ c => .ok true c) := PTs.weak pts_nil fun σ H Q ⟨W, σd, cs, R, N, P⟩ => P W H (.refl W) R
theorem fts_one {c : Expr} (h : FT X cm Y c ft) : FTs X cm Y [c] ft := pts_one h
theorem lc_go (fz : Bool) {js vs : List Nat} {K : PySem.W.Frag} (hj : ∀ j ∈ js, j ∈ vs) {σ : L2.St} {H : Hp} {Q : VK} (m : tE K cm Y (fLc fz fi g ft fe vs) σ H Q) :
    tLc (wI K cm Y fi) (tG K cm js g) (tT K cm yNo ft) (tE K cm yNo fe) vs σ H Q := by
  obtain ⟨W, σd, cs, R, N, P⟩ := m
  refine ⟨W, σd, cs, R, N, ?_⟩
  unfold fLc at P
  cases e : fi σd cs with
  | no => rw [e] at P; exact P.elim
  | ex x c => rw [e] at P; exact P
  | ok ds c1 =>
    rw [e] at P
    intro W1 H1 J l1 R1 yl D0 hD
    have hn : ∀ p ∈ W1.pn, p.1 ≠ D0 := fun p hp => ne_of_none (R1.pin p hp).1 hD
    have P1 : PostE K cm Y σ W1 (lcE fz (lcM g ft fe (wipeD σd vs) ds c1)) Q := PostE.up l1 P
    refine ⟨fun i m H => m = ds.length - i ∧ ∃ G2 r2 c2 acc accD rest c', (W1.pinned D0 (.lst acc)).le ((⟨G2, r2, W1.pn⟩ : Wd).pinned D0 (.lst acc)) ∧ Rel K cm ((⟨G2, r2, W1.pn⟩ : Wd).pinned D0 (.lst acc)) c2 H ∧ Rps K cm ((⟨G2, r2, W1.pn⟩ : Wd).pinned D0 (.lst acc)) accD acc ∧
      lcM g ft fe (wipeD σd vs) (ds.drop i) c2 = .ok rest c' ∧ (accD ++ rest).length ≤ sizeLine ∧ PostE K cm Y σ W1 (up (mkL fz (accD ++ rest) c')) Q, ⟨ds.length, by simp, ?_⟩, ?_⟩
    · unfold lcE at P1
      split at P1
      · rename_i xs c' ex
        split at P1
        · rename_i hl
          exact ⟨W1.G, W1.r, c1, [], [], xs, c', Wd.le.refl _, R1.pinUp hD, .nil, by rw [List.drop_zero]; exact ex, hl, P1⟩
        · exact P1.elim
      · exact P1.elim
    · rintro i m H2 ⟨rfl, G2, r2, c2, acc, accD, rest, c', l2, R2, q2, e2, hl, P2⟩
      obtain ⟨y1, y2⟩ := yl i _ c2 H2 (.inr ⟨D0, .lst acc, l2⟩) R2
      cases hd : ds[i]? with
      | none =>
        refine .inl ⟨y2 hd, ?_⟩
        rw [List.drop_eq_nil_of_le (List.getElem?_eq_none_iff.mp hd)] at e2
        cases e2
        rw [List.append_nil] at P2
        have P3 := PostE.down P2
        obtain ⟨d, c, e3, k⟩ := P3
        have lb : W1.le ⟨G2, r2, W1.pn⟩ := ⟨l2.g, l2.r, rfl⟩
        cases fz with
        | true =>
          cases e3
          obtain ⟨l4, R4⟩ := Rel.pinG (W := ⟨G2, r2, W1.pn⟩) hn R2
          exact k _ _ _ (lb.trans l4) R4 (.lst upd_same (Rps.up' (W := (⟨G2, r2, W1.pn⟩ : Wd).pinned D0 (.lst acc)) (W' := ⟨upd G2 D0 (.lst acc), r2, W1.pn⟩) l4.g l4.r q2))
        | false =>
          cases e3
          obtain ⟨l4, R4, e4⟩ := Rel.pinC (W := ⟨G2, r2, W1.pn⟩) (c := .lst accD) hn R2 ⟨rfl, acc, rfl, Rps.up' (W := (⟨G2, r2, W1.pn⟩ : Wd).pinned D0 (.lst acc)) (W' := ⟨G2, r2, W1.pn⟩) (fun _ _ h => h) (fun _ _ h => h) q2⟩
          exact k _ _ _ (lb.trans l4) R4 (.ref e4)
      | some d =>
        obtain ⟨go, y3⟩ := y1 d hd
        have hlt := get_lt hd
        refine .inr ⟨go, _, fun H' z => ⟨ds.length - (i + 1), by omega, rfl, z⟩, fun x H' yy => ?_⟩
        obtain ⟨W3, l3, R3, r3⟩ := y3 x H' yy
        have ed : ds.drop i = d :: ds.drop (i + 1) := by
          rw [List.drop_eq_getElem_cons hlt]
          rw [List.getElem?_eq_getElem hlt] at hd
          cases hd; rfl
        rw [ed] at e2
        have N3 : En K cm W3 (wipeD σd vs) (L2.wipe σ vs) := (N.wipe vs).up' (fun a o h => l3.g a o (l2.g a o (l1.g a o h))) (fun i a h => l3.r i a (l2.r i a (l1.r i a h)))
        have fin : ∀ {W5 : Wd} {c5 : List Cell} {H5 : Hp} {accD' : List D} {acc' : List V} {rest' : List D}, (W1.pinned D0 (.lst acc')).le W5 → Rel K cm W5 c5 H5 → Rps K cm W5 accD' acc' → lcM g ft fe (wipeD σd vs) (ds.drop (i + 1)) c5 = .ok rest' c' →
            (accD' ++ rest').length ≤ sizeLine → PostE K cm Y σ W1 (up (mkL fz (accD' ++ rest') c')) Q → ∃ G2 r2 c2 acc accD rest c', (W1.pinned D0 (.lst acc)).le ((⟨G2, r2, W1.pn⟩ : Wd).pinned D0 (.lst acc)) ∧ Rel K cm ((⟨G2, r2, W1.pn⟩ : Wd).pinned D0 (.lst acc)) c2 H5 ∧ Rps K cm ((⟨G2, r2, W1.pn⟩ : Wd).pinned D0 (.lst acc)) accD acc ∧
            lcM g ft fe (wipeD σd vs) (ds.drop (i + 1)) c2 = .ok rest c' ∧ (accD ++ rest).length ≤ sizeLine ∧ PostE K cm Y σ W1 (up (mkL fz (accD ++ rest) c')) Q := fun {W5 c5 H5 accD' acc' rest'} l5 R5 q5 e5 h5 P5 => by
          obtain ⟨G5, r5, pn5⟩ := W5
          have ep : pn5 = (D0, .lst acc') :: W1.pn := l5.p
          subst ep
          exact ⟨G5, r5, c5, acc', accD', rest', c', l5, R5, q5, e5, h5, P5⟩
        unfold lcM at e2
        cases eg : g d (wipeD σd vs) c2 with
        | none => rw [eg] at e2; cases e2
        | some σ1 =>
          rw [eg] at e2
          refine ⟨W3, wipeD σd vs, c2, d, σ1, R3, N3, r3, eg, fun σ2 N4 w4 => ⟨?_, ?_⟩⟩
          · have ww : ∀ (l : List Nat) (τ : L2.St), L2.wipe (L2.wipe τ vs) vs = L2.wipe τ vs := fun _ τ => by
              have set_idem : ∀ (l : List Nat) (τ : L2.St) (j : Nat), j ∈ l → (L2.wipe τ l).set j none = L2.wipe τ l := by
                intro l
                induction l with
                | nil => intro τ j h; cases h
                | cons a l ih =>
                  intro τ j h
                  show ((L2.wipe τ l).set a none).set j none = (L2.wipe τ l).set a none
                  by_cases q : j = a
                  · subst q; rw [List.set_set]
                  · have hj' : j ∈ l := by
                      rcases List.mem_cons.mp h with z | z
                      · exact absurd z q
                      · exact z
                    rw [List.set_comm _ _ (Ne.symm q), ih τ j hj']
              have all : ∀ l' : List Nat, (∀ j ∈ l', j ∈ vs) → L2.wipe (L2.wipe τ vs) l' = L2.wipe τ vs := by
                intro l'
                induction l' with
                | nil => intro _; rfl
                | cons a l' ih =>
                  intro h
                  show (L2.wipe (L2.wipe τ vs) l').set a none = _
                  rw [ih fun j hj => h j (List.mem_cons_of_mem _ hj)]
                  exact set_idem vs τ a (h a List.mem_cons_self)
              exact all vs fun j hj => hj
            have := w4 vs hj
            rw [ww vs σ] at this
            exact this
          · have e3 : (match ft σ1 c2 with
              | .ok true c1 => match fe σ1 c1 with
                | .ok y c2 => (lcM g ft fe (wipeD σd vs) (ds.drop (i + 1)) c2).bind fun ys c3 => .ok (y :: ys) c3
                | _ => .no
              | .ok false c1 => lcM g ft fe (wipeD σd vs) (ds.drop (i + 1)) c1
              | _ => .no) = .ok rest c' := e2
            refine ⟨W3, σ1, c2, R3, N4, ?_⟩
            cases et : ft σ1 c2 with
            | no => rw [et] at e3; cases e3
            | ex x c => rw [et] at e3; cases e3
            | ok b c3 =>
              rw [et] at e3
              intro W4 H4 l4 R4
              have l24 := (l2.trans l3).trans l4
              cases b with
              | false =>
                refine iteF ?_
                exact fin l24 R4 (q2.up' (fun a o h => l4.g a o (l3.g a o h)) (fun i a h => l4.r i a (l3.r i a h))) e3 hl P2
              | true =>
                refine iteT ⟨W4, σ1, c3, R4, N4.up l4, ?_⟩
                have e4 : (match fe σ1 c3 with
                  | .ok y c2 => (lcM g ft fe (wipeD σd vs) (ds.drop (i + 1)) c2).bind fun ys c3 => .ok (y :: ys) c3
                  | _ => .no) = .ok rest c' := e3
                cases ee : fe σ1 c3 with
                | no => rw [ee] at e4; cases e4
                | ex x c => rw [ee] at e4; cases e4
                | ok y c4 =>
                  rw [ee] at e4
                  intro W5 H5 v l5 R5 r5
                  have l25 := l24.trans l5
                  have hpin := R5.pin (D0, .lst acc) (by rw [l25.p]; exact List.mem_cons_self)
                  have e5 : (lcM g ft fe (wipeD σd vs) (ds.drop (i + 1)) c4).bind (fun ys c3 => .ok (y :: ys) c3) = .ok rest c' := e4
                  cases e6 : lcM g ft fe (wipeD σd vs) (ds.drop (i + 1)) c4 with
                  | no => rw [e6] at e5; cases e5
                  | ex x c => rw [e6] at e5; cases e5
                  | ok ys c5 =>
                    rw [e6] at e5
                    cases e5
                    have qacc := q2.up' (W' := W5) (fun a o h => l5.g a o (l4.g a o (l3.g a o h))) (fun i a h => l5.r i a (l4.r i a (l3.r i a h)))
                    refine ⟨acc, hpin.1, ?_, ?_⟩
                    · rw [← qacc.length]
                      rw [List.length_append, List.length_cons] at hl
                      omega
                    · obtain ⟨G5, r5', pn5⟩ := W5
                      have ep : pn5 = (D0, .lst acc) :: W1.pn := l25.p
                      subst ep
                      have R6 := Rel.pinSet (W := ⟨G5, r5', W1.pn⟩) (o' := .lst (acc ++ [v])) hn R5
                      refine ⟨G5, r5', c4, acc ++ [v], accD ++ [y], ys, _, ⟨l25.g, l25.r, rfl⟩, R6, ?_, e6, ?_, ?_⟩
                      · exact Rps.up' (W := (⟨G5, r5', W1.pn⟩ : Wd).pinned D0 (.lst acc)) (W' := (⟨G5, r5', W1.pn⟩ : Wd).pinned D0 (.lst (acc ++ [v]))) (fun _ _ h => h) (fun _ _ h => h) (qacc.app (.cons r5 .nil))
                      · rw [List.append_assoc]; exact hl
                      · rw [List.append_assoc]; exact P2
theorem fe_lc (fz : Bool) {js : List Nat} (hc : X.calm = true) (hN : X.N.Nodup) (hi : FI X cm Y tg iter fi) (ok : BlkOk X.N X.env.scope scope own)
    (hg : ∀ (s : Shared) (H : Hp) (C : Addr) (cl : List (Str × Addr)) (fp : List Addr), FG (X.blk s H scope (compEnvC scope cl C X.env) fp) cm tg js g)
    (ht : ∀ (s : Shared) (H : Hp) (C : Addr) (cl : List (Str × Addr)) (fp : List Addr), FTs (X.blk s H scope (compEnvC scope cl C X.env) fp) cm yNo ifs ft)
    (he : ∀ (s : Shared) (H : Hp) (C : Addr) (cl : List (Str × Addr)) (fp : List Addr), FE (X.blk s H scope (compEnvC scope cl C X.env) fp) cm yNo elt fe)
    (hj : ∀ j ∈ js, j ∈ own.map (·.2)) (hs : ∀ x, foldedSetIterable iter X.env x = pure x := by intro _; rfl) : FE X cm Y (.ListComp elt [⟨tg, iter, ifs, 0⟩] scope pos) (fLc fz fi g ft fe (own.map (·.2))) :=
  PE.weak (pe_lc hc hN hi ok hg ht he hs) fun _ _ _ => lc_go fz hj
/-- name = [.. for ..] -/
theorem fs_setLc (fz : Bool) {js : List Nat} {i : Nat} {y : Str} {py spos : Pos} (hc : X.calm = true) (hN : X.N.Nodup) (hy : X.N[i]? = some y) (hyl : X.env.scope.names.lookup y = some .local)
    (hsw : swapsWith (.ListComp elt [⟨tg, iter, ifs, 0⟩] scope pos) (some (.Name y py)) spos.line X.env = pure true) (hi : FI X cm Y tg iter fi) (ok : BlkOk X.N X.env.scope scope own)
    (hg : ∀ (s : Shared) (H : Hp) (C : Addr) (cl : List (Str × Addr)) (fp : List Addr), FG (X.blk s H scope (compEnvC scope cl C X.env) fp) cm tg js g)
    (ht : ∀ (s : Shared) (H : Hp) (C : Addr) (cl : List (Str × Addr)) (fp : List Addr), FTs (X.blk s H scope (compEnvC scope cl C X.env) fp) cm yNo ifs ft)
    (he : ∀ (s : Shared) (H : Hp) (C : Addr) (cl : List (Str × Addr)) (fp : List Addr), FE (X.blk s H scope (compEnvC scope cl C X.env) fp) cm yNo elt fe)
    (hj : ∀ j ∈ js, j ∈ own.map (·.2)) (hs : ∀ x, foldedSetIterable iter X.env x = pure x := by intro _; rfl) : FS X cm Y (.Assign [.Name y py] (.ListComp elt [⟨tg, iter, ifs, 0⟩] scope pos) spos) (sAsg (fLc fz fi g ft fe (own.map (·.2))) (gN i)) :=
  PS.weak (ps_setLc hc hN hy hyl hsw hi ok hg ht he hs) fun E σ H ⟨W, σd, cs, R, N, P⟩ => by
    refine lc_go fz hj (goS R N P fun d c1 h1 W1 H1 v l R1 N1 r1 => ?_)
    exact h1 W1 H1 _ l R1 (N1.set i r1)

/-! ### enumerate, zip -/
def enD : Nat → List D → List D
  | _, [] => []
  | i, d :: ds => .tup [.int (i : Nat), d] :: enD (i + 1) ds
theorem enD_get : ∀ {ds : List D} {k i : Nat} {e : D}, (enD k ds)[i]? = some e → ∃ d, ds[i]? = some d ∧ e = .tup [.int ((k + i : Nat) : Int), d]
  | d :: ds, k, 0, e, h => by
    unfold enD at h
    simp at h
    exact ⟨d, rfl, h.symm⟩
  | d :: ds, k, i + 1, e, h => by
    unfold enD at h
    rw [List.getElem?_cons_succ] at h
    obtain ⟨d', h1, h2⟩ := enD_get h
    exact ⟨d', by simpa using h1, by rw [h2, show k + 1 + i = k + (i + 1) by omega]⟩
theorem enD_len : ∀ {ds : List D} {k : Nat}, (enD k ds).length = ds.length
  | [], _ => rfl
  | d :: ds, k => by
    show (enD (k + 1) ds).length + 1 = ds.length + 1
    rw [enD_len]
def iEnm (f : Fa) : Fi := fun σ cs => (f σ cs).bind fun ds c => match ds with
  | [.lst xs] => .ok (enD 0 xs) c
  | _ => .no
theorem tup2 {K : PySem.W.Frag} {W : Wd} {H : Hp} {cs : List Cell} (R : Rel K cm W cs H) {T : Addr} (hT : H T = none) {a b : D} {x y : V} (r1 : Rp K cm W a x) (r2 : Rp K cm W b y) : ∃ W', W.le W' ∧ Rel K cm W' cs (upd H T (.tup [x, y])) ∧ Rp K cm W' (.tup [a, b]) (.ref T) := by
  obtain ⟨le, R'⟩ := R.newG (.tup [x, y]) hT
  exact ⟨_, le, R', .tup upd_same (.cons (r1.up le) (.cons (r2.up le) .nil))⟩
theorem fi_enum {e : Expr} {fa : Fa} {p tpos : Pos} {elts : List Expr} {kk : Nat} (hm : X.mg "enumerate" = none) (ha : FA X cm Y [e] fa) (hg : Gl X "enumerate" := by rfl) (hs : starEach [e] X.env = [(false, eval e X.env)] := by rfl) :
    FI X cm Y (.Tuple elts kk tpos) (.Call (.Name "enumerate" p) [e] [] pos) (iEnm fa) := PI.weak (pi_enum hg hm ha hs) fun σ H Q ⟨W, σd, cs, R, N, P⟩ => by
  refine tA_go R N asksI P fun d c1 _ h1 W1 H1 v l1 R1 N1 r1 => ?_
  split at h1
  · obtain ⟨w, rfl, q⟩ := r1.one
    cases q with
    | @lst xs a vs g q =>
      refine ⟨a, vs, rfl, SqL.of (R1.sub _ _ g), h1 W1 H1 _ l1 R1 fun i W2 cs2 H2 l2 R2 => ?_⟩
      obtain ⟨lg, lr⟩ := pin_le l2
      have s2 : SqL X.K H2 a vs := SqL.of (R2.sub _ _ (lg _ _ g))
      refine ⟨fun d hd => ?_, fun hd => ⟨vs, s2, ?_⟩⟩
      · obtain ⟨d', h2, rfl⟩ := enD_get hd
        obtain ⟨x, hx, rx⟩ := q.get h2
        refine ⟨⟨vs, x, s2, hx⟩, fun y H3 z => ?_⟩
        obtain ⟨T, x', rfl, hT, rfl, hq⟩ := z
        have hy := hq vs s2
        rw [hx] at hy
        cases hy
        rw [Nat.zero_add]
        exact tup2 R2 hT (.int _) (rx.up' lg lr)
      · rw [← q.length, ← enD_len (k := 0)]; exact List.getElem?_eq_none_iff.mp hd
  · exact h1.elim
def zpD : List D → List D → List D
  | a :: as, b :: bs => .tup [a, b] :: zpD as bs
  | _, _ => []
theorem zpD_get : ∀ {as bs : List D} {i : Nat} {e : D}, (zpD as bs)[i]? = some e → ∃ a b, as[i]? = some a ∧ bs[i]? = some b ∧ e = .tup [a, b]
  | [], bs, i, e, h => by simp [zpD] at h
  | a :: as, [], i, e, h => by simp [zpD] at h
  | a :: as, b :: bs, 0, e, h => by
    unfold zpD at h
    simp at h
    exact ⟨a, b, rfl, rfl, h.symm⟩
  | a :: as, b :: bs, i + 1, e, h => by
    unfold zpD at h
    rw [List.getElem?_cons_succ] at h
    obtain ⟨x, y, h1, h2, h3⟩ := zpD_get h
    exact ⟨x, y, by simpa using h1, by simpa using h2, h3⟩
theorem zpD_len : ∀ {as bs : List D}, (zpD as bs).length = min as.length bs.length
  | [], bs => by simp [zpD]
  | a :: as, [] => by simp [zpD]
  | a :: as, b :: bs => by
    show (zpD as bs).length + 1 = _
    rw [zpD_len]; simp
def iZp (f : Fa) : Fi := fun σ cs => (f σ cs).bind fun ds c => match ds with
  | [.lst xs, .lst ys] => .ok (zpD xs ys) c
  | [.tup xs, .tup ys] => .ok (zpD xs ys) c
  | _ => .no
theorem fi_zip {e e2 : Expr} {fa : Fa} {p tpos : Pos} {elts : List Expr} {kk : Nat} (hm : X.mg "zip" = none) (ha : FA X cm Y [e, e2] fa) (hg : Gl X "zip" := by rfl)
    (hs : starEach [e, e2] X.env = (false, eval e X.env) :: starEach [e2] X.env := by rfl) (hpl : (backTo pos (starEach [e2] X.env)).any (·.1) = false := by rfl) :
    FI X cm Y (.Tuple elts kk tpos) (.Call (.Name "zip" p) [e, e2] [] pos) (iZp fa) := PI.weak (RZ.pi_zipA hg hm ha hs hpl) fun σ H Q ⟨W, σd, cs, R, N, P⟩ => by
  refine tA_go R N asksI P fun d c1 _ h1 W1 H1 v l1 R1 N1 r1 => ?_
  split at h1
  · obtain ⟨w, w', rfl, q, q'⟩ := r1.two
    cases q with
    | @lst xs a vs g q => cases q' with
      | @lst ys b us g' q' =>
        refine ⟨a, b, vs, us, rfl, .inl ⟨SqL.of (R1.sub _ _ g), SqL.of (R1.sub _ _ g'), h1 W1 H1 _ l1 R1 fun i W2 cs2 H2 l2 R2 => ?_⟩⟩
        obtain ⟨lg, lr⟩ := pin_le l2
        have s2 : SqL X.K H2 a vs := SqL.of (R2.sub _ _ (lg _ _ g))
        have s3 : SqL X.K H2 b us := SqL.of (R2.sub _ _ (lg _ _ g'))
        refine ⟨fun d hd => ?_, fun hd => ⟨vs, us, s2, s3, ?_⟩⟩
        · obtain ⟨x, y, e1, e2, rfl⟩ := zpD_get hd
          obtain ⟨x', hx, rx⟩ := q.get e1
          obtain ⟨y', hy, ry⟩ := q'.get e2
          refine ⟨⟨vs, us, x', y', s2, s3, hx, hy⟩, fun z H3 zz => ?_⟩
          obtain ⟨T, x2, y2, rfl, hT, rfl, h5, h6⟩ := zz
          have := h5 vs s2
          rw [hx] at this; cases this
          have := h6 us s3
          rw [hy] at this; cases this
          exact tup2 R2 hT (rx.up' lg lr) (ry.up' lg lr)
        · have := List.getElem?_eq_none_iff.mp hd
          rw [zpD_len, q.length, q'.length] at this
          omega
  · obtain ⟨w, w', rfl, q, q'⟩ := r1.two
    cases q with
    | @tup xs a vs g q => cases q' with
      | @tup ys b us g' q' =>
        refine ⟨a, b, vs, us, rfl, .inr ⟨SqT.of (R1.sub _ _ g), SqT.of (R1.sub _ _ g'), h1 W1 H1 _ l1 R1 fun i W2 cs2 H2 l2 R2 => ?_⟩⟩
        obtain ⟨lg, lr⟩ := pin_le l2
        have s2 : SqT X.K H2 a vs := SqT.of (R2.sub _ _ (lg _ _ g))
        have s3 : SqT X.K H2 b us := SqT.of (R2.sub _ _ (lg _ _ g'))
        refine ⟨fun d hd => ?_, fun hd => ⟨vs, us, s2, s3, ?_⟩⟩
        · obtain ⟨x, y, e1, e2, rfl⟩ := zpD_get hd
          obtain ⟨x', hx, rx⟩ := q.get e1
          obtain ⟨y', hy, ry⟩ := q'.get e2
          refine ⟨⟨vs, us, x', y', s2, s3, hx, hy⟩, fun z H3 zz => ?_⟩
          obtain ⟨T, x2, y2, rfl, hT, rfl, h5, h6⟩ := zz
          have := h5 vs s2
          rw [hx] at this; cases this
          have := h6 us s3
          rw [hy] at this; cases this
          exact tup2 R2 hT (rx.up' lg lr) (ry.up' lg lr)
        · have := List.getElem?_eq_none_iff.mp hd
          rw [zpD_len, q.length, q'.length] at this
          omega
  · exact h1.elim

/-! ### repr, isinstance -/
theorem call_dRepr (hg : X.A.guards = some []) (hu : X.A.units + 200 < cLine) : CallR X (.builtin "repr") (rCa X.K cm dRepr) := by
  intro pins s σ H xs us Q I rx h
  obtain ⟨W, ds, cs, R, r, P⟩ := h
  unfold dRepr at P
  split at P
  · obtain ⟨v, rfl, q⟩ := r.one
    split at P
    · rename_i p e
      split at P
      · rename_i hp
        obtain ⟨h0, h1, h2, h3, h4⟩ := hp
        obtain ⟨u, rfl, ru⟩ := vals1 rx
        have dp := toP_ok R q e
        cases dp with
        | int i =>
          have l2 : i.natAbs.log2 < 1920 := by simpa [PyData.showable] using h1
          refine SkE.call_repr_int pins s σ H _ _ Q I (.cons ru .nil) ⟨i, rfl, l2, ?_⟩
          have := P.here R (.str _)
          simpa only [PyData.shown] using this
        | @lst a vs ps g hs =>
          obtain rfl : u = Value.ref a := ru
          obtain ⟨as, rd⟩ := Dp.reads I _ _ _ (Dp.lst g hs) rfl
          refine repr_of_reads' rd h1 (PyData.noDict_hsm h2) hg (by omega) (fun _ _ z => z) (fun h' u' tk hk => ?_) h4
          exact ⟨.str _, H, I.kept (t' := tk) hk, ⟨_, rfl⟩, P.here R (.str _)⟩
        | @tup a vs ps g hs =>
          obtain rfl : u = Value.ref a := ru
          obtain ⟨as, rd⟩ := Dp.reads I _ _ _ (Dp.tup g hs) rfl
          refine repr_of_reads' rd h1 (PyData.noDict_hsm h2) hg (by omega) (fun _ _ z => z) (fun h' u' tk hk => ?_) h4
          exact ⟨.str _, H, I.kept (t' := tk) hk, ⟨_, rfl⟩, P.here R (.str _)⟩
        | non => cases h0
        | bl b => cases h0
        | str x => cases h0
      · exact absurd rfl P.ne
    · exact absurd rfl P.ne
  · exact absurd rfl P.ne
/-- kinds of things -/
inductive Kd where
  | ty (n : String) | cl (c : Nat)
def kdV (cm : Nat → Addr) : Kd → Value
  | .ty n => .type n
  | .cl c => .ref (cm c)
def kdOf (cs : List Cell) : D → Option Kd
  | .non => some (.ty "NoneType")
  | .bl _ => some (.ty "bool")
  | .int _ => some (.ty "int")
  | .str _ => some (.ty "str")
  | .tup _ => some (.ty "tuple")
  | .lst _ => some (.ty "list")
  | .dic _ => some (.ty "dict")
  | .ins c _ => some (.cl c)
  | .ref i => match cs[i]? with
    | some (.lst _) => some (.ty "list")
    | some (.ins c _) => some (.cl c)
    | _ => none
  | _ => none
/-- what isinstance asks of an own class -/
structure InsOk (K : PySem.W.Frag) (C : Addr) : Prop where
  cl : Cls K C
  ha : PySem.W.findIn K (.ref C) "__class__" = some (some (.builtin "object.__class__"))
  hn : PySem.W.specialIn K (.builtin "object.__class__") "__get__" = some (some (.builtin "getset_descriptor.__get__"))
  ht : PySem.W.takesIn K (.builtin "object.__class__") = some true
  hm : PySem.W.mroIn K C (.type "object") = some true
structure Tab (K : PySem.W.Frag) (cm : Nat → Addr) (n : Nat) (tab : Kd → Kd → Option Bool) : Prop where
  ins : ∀ c, c < n → InsOk K (cm c)
  ans : ∀ a b r, tab a b = some r → PySem.W.kitOne K (kdV cm a) (kdV cm b) = some r
def okKd (n : Nat) : Kd → Bool
  | .ty _ => true
  | .cl c => decide (c < n)
def clsOf : D → Option Kd
  | .cl c => some (.cl c)
  | .ty n => some (.ty n)
  | _ => none
def clsOfs : List D → Option (List Kd)
  | [] => some []
  | d :: ds => match clsOf d, clsOfs ds with
    | some k, some ks => some (k :: ks)
    | _, _ => none
def anyTab (tab : Kd → Kd → Option Bool) (t : Kd) : List Kd → Option Bool
  | [] => some false
  | c :: r => match tab t c with
    | some true => some true
    | some false => anyTab tab t r
    | none => none
def dIsI (n : Nat) (tab : Kd → Kd → Option Bool) : GC := fun ds cs => match ds with
  | [x, .tup ts] => match kdOf cs x, clsOfs ts with
    | some k, some ks => if okKd n k = true then match anyTab tab k ks with
      | some b => some (.bl b, cs)
      | none => none
      else none
    | _, _ => none
  | [x, c] => match kdOf cs x, clsOf c with
    | some k, some k' => if okKd n k = true then match tab k k' with
      | some b => some (.bl b, cs)
      | none => none
      else none
    | _, _ => none
  | _ => none
theorem tyX_of {K : PySem.W.Frag} {n : Nat} {tab : Kd → Kd → Option Bool} (T : Tab K cm n tab) {W : Wd} {H : Hp} {cs : List Cell} (R : Rel K cm W cs H) {d : D} {v : V} {k : Kd} (r : Rp K cm W d v) (e : kdOf cs d = some k) (ok : okKd n k = true) : TyX K H v (kdV cm k) := by
  cases r with
  | non => cases e; exact .base .non
  | bl b => cases e; exact .base (.bl b)
  | int b => cases e; exact .base (.int b)
  | str b => cases e; exact .base (.str b)
  | tup g q => cases e; exact .base (.tup (R.sub _ _ g))
  | lst g q => cases e; exact .base (.lst (R.sub _ _ g))
  | arg g q => cases e
  | argT g q => cases e
  | dic g q => cases e; exact .base (.dK (R.sub _ _ g))
  | @ins c fs a dx vs g q =>
    cases e
    have i := T.ins c (by simpa [okKd] using ok)
    exact .base (.ins (R.sub _ _ g) i.cl i.ha i.hn i.ht i.hm)
  | @ref i a ei =>
    have e' : (match cs[i]? with
      | some (.lst _) => some (Kd.ty "list")
      | some (.ins c _) => some (.cl c)
      | _ => none) = some k := e
    split at e'
    · rename_i xs ec
      cases e'
      obtain ⟨_, ys, e2, q⟩ := R.cel i a _ ei ec
      exact .base (.lst e2)
    · rename_i c fs ec
      cases e'
      obtain ⟨_, dx, ys, e2, q⟩ := R.cel i a _ ei ec
      have io := T.ins c (by simpa [okKd] using ok)
      exact .base (.ins e2 io.cl io.ha io.hn io.ht io.hm)
    · cases e'
  | exn g => cases e
  | cl c => cases e
  | ty c => cases e
theorem cls_of {K : PySem.W.Frag} {W : Wd} {d : D} {v : V} {k : Kd} (r : Rp K cm W d v) (e : clsOf d = some k) : ClsV v (kdV cm k) := by
  cases r <;> first | (cases e; first | exact .own _ | exact .ty _) | cases e
theorem clss_of {K : PySem.W.Frag} {W : Wd} : ∀ {ds : List D} {vs : List V} {ks : List Kd}, Rps K cm W ds vs → clsOfs ds = some ks → Paired ClsV vs (ks.map (kdV cm))
  | _, _, _, .nil, e => by cases e; exact .nil
  | d :: ds, _, _, .cons h r, e => by
    unfold clsOfs at e
    split at e
    · rename_i k ks e1 e2
      cases e
      exact .cons (cls_of h e1) (clss_of r e2)
    · cases e
theorem anyTab_ok {K : PySem.W.Frag} {n : Nat} {tab : Kd → Kd → Option Bool} (T : Tab K cm n tab) {t : Kd} : ∀ {ks : List Kd} {b : Bool}, anyTab tab t ks = some b → PySem.W.kitAny K (kdV cm t) (ks.map (kdV cm)) = some b
  | [], b, e => by cases e; rfl
  | c :: r, b, e => by
    unfold anyTab at e
    show (match PySem.W.kitOne K (kdV cm t) (kdV cm c) with
      | some true => some true
      | some false => PySem.W.kitAny K (kdV cm t) (r.map (kdV cm))
      | none => none) = some b
    split at e
    · rename_i q; cases e; rw [T.ans _ _ _ q]
    · rename_i q; rw [T.ans _ _ _ q]; exact anyTab_ok T e
    · cases e
theorem call_dIsI {n : Nat} {tab : Kd → Kd → Option Bool} (T : Tab X.K cm n tab) : CallR X (.builtin "isinstance") (rCa X.K cm (dIsI n tab)) := by
  intro pins s σ H xs us Q I rx h
  obtain ⟨W, ds, cs, R, r, P⟩ := h
  unfold dIsI at P
  split at P
  · rename_i x ts
    obtain ⟨v, w, rfl, q1, q2⟩ := r.two
    split at P
    · rename_i k ks e1 e2
      split at P
      · rename_i ok
        split at P
        · rename_i b e3
          have ty := tyX_of T R q1 e1 ok
          cases q2 with
          | @tup _ tp ws g qs =>
            have cv := clss_of qs e2
            exact call_isiT pins s σ H _ us Q I rx ⟨v, tp, ws, kdV cm k, _, b, rfl, R.sub _ _ g, cv, ty, anyTab_ok T e3, P.here R (.bl _)⟩
        · exact absurd rfl P.ne
      · exact absurd rfl P.ne
    · exact absurd rfl P.ne
  · rename_i x c _
    obtain ⟨v, w, rfl, q1, q2⟩ := r.two
    split at P
    · rename_i k k' e1 e2
      split at P
      · rename_i ok
        split at P
        · rename_i b e3
          exact call_isi pins s σ H _ us Q I rx ⟨v, w, kdV cm k, kdV cm k', b, rfl, cls_of q2 e2, tyX_of T R q1 e1 ok, T.ans _ _ _ e3, P.here R (.bl _)⟩
        · exact absurd rfl P.ne
      · exact absurd rfl P.ne
    · exact absurd rfl P.ne
  · exact absurd rfl P.ne
end
end PV

namespace PV
open PySem PySem.Spec PyProof.Rows L2

/-! ### methods of lists -/
abbrev GM := D → List D → List Cell → Rs D
def cellL (d : D) (cs : List Cell) : Option (Nat × List D) := match d with
  | .ref i => match cs[i]? with
    | some (.lst xs) => some (i, xs)
    | _ => none
  | _ => none
theorem cell_of {K : PySem.W.Frag} {cm : Nat → Addr} {W : Wd} {H : Hp} {cs : List Cell} (R : Rel K cm W cs H) {d : D} {v : V} {i : Nat} {xs : List D} (r : Rp K cm W d v) (h : cellL d cs = some (i, xs)) :
    ∃ a vs, v = .ref a ∧ H a = some (.lst vs) ∧ Rps K cm W xs vs ∧ W.r[i]? = some a ∧ cs[i]? = some (.lst xs) := by
  cases r with
  | @ref j a e =>
    have h' : (match cs[j]? with | some (.lst xs) => some (j, xs) | _ => none) = some (i, xs) := h
    split at h'
    · rename_i ys ec
      cases h'
      obtain ⟨_, vs, e2, q⟩ := R.cel _ a _ e ec
      exact ⟨a, vs, rfl, e2, q, e, ec⟩
    · cases h'
  | _ => cases h
theorem Rel.wrL {K : PySem.W.Frag} {cm : Nat → Addr} {W : Wd} {H : Hp} {cs : List Cell} (R : Rel K cm W cs H) {i : Nat} {a : Addr} {xs ys : List D} {us : List V} (hi : W.r[i]? = some a) (hc : cs[i]? = some (.lst xs)) (q : Rps K cm W ys us) :
    Rel K cm W (cs.set i (.lst ys)) (upd H a (.lst us)) := (R.setC (c' := .lst ys) (o := .lst us) hi hc (by simp) ⟨rfl, _, rfl, q⟩).2
def mAppend : GM := fun d as cs => match cellL d cs, as with
  | some (i, xs), [v] => if xs.length < sizeLine then some (.non, cs.set i (.lst (xs ++ [v]))) else none
  | _, _ => none
def mExtend : GM := fun d as cs => match cellL d cs, as with
  | some (i, xs), [v] => match lstOf cs v with
    | some ys => if xs.length + ys.length ≤ sizeLine then some (.non, cs.set i (.lst (xs ++ ys))) else none
    | none => none
  | _, _ => none
def mPop : GM := fun d as cs => match cellL d cs, as with
  | some (i, xs), [] => match xs[xs.length - 1]? with
    | some y => some (y, cs.set i (.lst xs.dropLast))
    | none => none
  | some (i, xs), [.int k] => match ixN xs.length k with
    | some j => match xs[j]? with
      | some y => if -(2 ^ 63) ≤ k ∧ k < 2 ^ 63 ∧ seqIndex? k xs.length = some j then some (y, cs.set i (.lst (xs.eraseIdx j))) else none
      | none => none
    | none => none
  | _, _ => none
def mReverse : GM := fun d as cs => match cellL d cs, as with
  | some (i, xs), [] => some (.non, cs.set i (.lst xs.reverse))
  | _, _ => none
def mClear : GM := fun d as cs => match cellL d cs, as with
  | some (i, xs), [] => some (.non, cs.set i (.lst []))
  | _, _ => none
section
variable {X : Cx} {cm : Nat → Addr} {Y : WX}
theorem Rps.eraseIdx {K : PySem.W.Frag} {W : Wd} : ∀ {ds : List D} {vs : List V} (i : Nat), Rps K cm W ds vs → Rps K cm W (ds.eraseIdx i) (vs.eraseIdx i)
  | _, _, _, .nil => .nil
  | _, _, 0, .cons _ t => t
  | _, _, i + 1, .cons q t => .cons q (Rps.eraseIdx i t)
theorem mt_dAppend : MtR X "list.append" (rMt X.K cm mAppend) := by
  intro pins s σ H x xs v us Q I rx ru h
  obtain ⟨W, d, ds, cs, R, r, rs, P⟩ := h
  unfold mAppend at P
  split at P
  · rename_i i ys w e
    split at P
    · rename_i hl
      obtain ⟨a, vs, rfl, h1, q, e1, e2⟩ := cell_of R r e
      obtain ⟨z, rfl, rz⟩ := rs.one
      exact mt_append pins s σ H _ _ v us Q I rx ru ⟨a, vs, z, rfl, rfl, h1, by rw [← q.length]; exact hl, P.here (R.wrL e1 e2 (q.app (.cons rz .nil))) .non⟩
    · exact absurd rfl P.ne
  · exact absurd rfl P.ne
theorem mt_dExtend : MtR X "list.extend" (rMt X.K cm mExtend) := by
  intro pins s σ H x xs v us Q I rx ru h
  obtain ⟨W, d, ds, cs, R, r, rs, P⟩ := h
  unfold mExtend at P
  split at P
  · rename_i i ys w e
    split at P
    · rename_i zs ez
      split at P
      · rename_i hl
        obtain ⟨a, vs, rfl, h1, q, e1, e2⟩ := cell_of R r e
        obtain ⟨z, rfl, rz⟩ := rs.one
        obtain ⟨b, ws, rfl, h2, q2⟩ := lst_of R rz ez
        exact mt_extend pins s σ H _ _ v us Q I rx ru ⟨a, b, vs, ws, rfl, rfl, h1, h2, by rw [← q.length, ← q2.length]; exact hl, P.here (R.wrL e1 e2 (q.app q2)) .non⟩
      · exact absurd rfl P.ne
    · exact absurd rfl P.ne
  · exact absurd rfl P.ne
theorem mt_dPop : MtR X "list.pop" (rMt X.K cm mPop) := by
  intro pins s σ H x xs v us Q I rx ru h
  obtain ⟨W, d, ds, cs, R, r, rs, P⟩ := h
  unfold mPop at P
  split at P
  · rename_i i ys e
    split at P
    · rename_i y ey
      obtain ⟨a, vs, rfl, h1, q, e1, e2⟩ := cell_of R r e
      cases rs
      obtain ⟨z, h2, rz⟩ := q.get ey
      exact mt_pop pins s σ H _ _ v us Q I rx ru ⟨a, vs, z, rfl, rfl, h1, by rw [← q.length]; exact h2, P.here (R.wrL e1 e2 q.dropLast) rz⟩
    · exact absurd rfl P.ne
  · rename_i i ys k e
    split at P
    · rename_i j ej
      split at P
      · rename_i y ey
        split at P
        · rename_i hk
          obtain ⟨a, vs, rfl, h1, q, e1, e2⟩ := cell_of R r e
          obtain ⟨w, rfl, rw0⟩ := rs.one
          cases rw0
          obtain ⟨z, h2, rz⟩ := q.get ey
          exact mt_popAt pins s σ H _ _ v us Q I rx ru ⟨a, vs, k, j, z, rfl, rfl, h1, hk.1, hk.2.1, by rw [← q.length]; exact hk.2.2, h2, P.here (R.wrL e1 e2 (Rps.eraseIdx j q)) rz⟩
        · exact absurd rfl P.ne
      · exact absurd rfl P.ne
    · exact absurd rfl P.ne
  · exact absurd rfl P.ne
theorem mt_dReverse : MtR X "list.reverse" (rMt X.K cm mReverse) := by
  intro pins s σ H x xs v us Q I rx ru h
  obtain ⟨W, d, ds, cs, R, r, rs, P⟩ := h
  unfold mReverse at P
  split at P
  · rename_i i ys e
    obtain ⟨a, vs, rfl, h1, q, e1, e2⟩ := cell_of R r e
    cases rs
    exact mt_reverse pins s σ H _ _ v us Q I rx ru ⟨a, vs, rfl, rfl, h1, P.here (R.wrL e1 e2 q.rev) .non⟩
  · exact absurd rfl P.ne
theorem mt_dClear : MtR X "list.clear" (rMt X.K cm mClear) := by
  intro pins s σ H x xs v us Q I rx ru h
  obtain ⟨W, d, ds, cs, R, r, rs, P⟩ := h
  unfold mClear at P
  split at P
  · rename_i i ys e
    obtain ⟨a, vs, rfl, h1, q, e1, e2⟩ := cell_of R r e
    cases rs
    exact mt_clear pins s σ H _ _ v us Q I rx ru ⟨a, vs, rfl, rfl, h1, P.here (R.wrL e1 e2 .nil) .non⟩
  · exact absurd rfl P.ne
/-- xs.m(..), xs a list's cell -/
def fLm (g : GM) (fo : Fe) (fa : Fa) : Fe := fun σ cs => (fo σ cs).bind fun d c1 => match cellL d c1 with
  | some _ => (fa σ c1).bind fun as c2 => up (g d as c2)
  | none => .no
variable {o e : Expr} {es : List Expr} {fo : Fe} {fa : Fa} {name : Str} {apos cpos : Pos} {id : String} {g : GM}
theorem fe_lm (slot : Slot "list" name id) (hty : typeOf (.builtin id) = pure (.type "method_descriptor")) (hm : MtR X id (rMt X.K cm g)) (ho : FE X cm Y o fo) (ha : FA X cm Y (e :: es) fa)
    (hbase : attributeBase o name X.env (eval o X.env) = eval o X.env := by rfl)
    (hfew : ((backTo cpos (starEach (e :: es) X.env)).all (fun x => !x.1) && (backToKw cpos (keywordEach [] X.env)).all (fun x => x.1.isSome)
      && decide ((e :: es).length + ([] : List Keyword).length + (if ([] : List Keyword).isEmpty then 0 else 1) < 30)) = true := by rfl)
    (hline : (apos.endLine == cpos.line) = true := by rfl) (hs : starEach (e :: es) X.env = (false, eval e X.env) :: starEach es X.env := by rfl) (hplain : (backTo cpos (starEach es X.env)).any (·.1) = false := by rfl) :
    FE X cm Y (.Call (.Attribute o name apos) (e :: es) [] cpos) (fLm g fo fa) := PE.weak (pe_bm PySem.F.plainAttrs_list slot hty hm ho ha hbase hfew hline hs hplain) fun σ H Q ⟨W, σd, cs, R, N, P⟩ => by
  refine tE_go R N asksE P fun d c1 _ h1 W1 H1 v l1 R1 N1 r1 => ?_
  split at h1
  · rename_i p ep
    obtain ⟨i, xs⟩ := p
    obtain ⟨a, vs, rfl, h2, q, e1, e2⟩ := cell_of R1 r1 ep
    refine ⟨.inl ⟨rfl, vs, SqL.of h2⟩, tA_go R1 N1 asksE (PostE.up l1 h1) fun as c2 _ h3 W2 H2 us l2 R2 N2 r2 => ?_⟩
    exact ⟨W2, d, as, c2, R2, r1.up l2, r2, (PostE.down h3).up l2⟩
  · exact h1.elim
theorem fe_lm0 (slot : Slot "list" name id) (hty : typeOf (.builtin id) = pure (.type "method_descriptor")) (hm : MtR X id (rMt X.K cm g)) (ho : FE X cm Y o fo)
    (hbase : attributeBase o name X.env (eval o X.env) = eval o X.env := by rfl) (hline : (apos.endLine == cpos.line) = true := by rfl) :
    FE X cm Y (.Call (.Attribute o name apos) [] [] cpos) (fLm g fo aNil) := PE.weak (pe_bm0 PySem.F.plainAttrs_list slot hty hm ho hbase hline) fun σ H Q ⟨W, σd, cs, R, N, P⟩ => by
  refine tE_go R N asksE P fun d c1 _ h1 W1 H1 v l1 R1 N1 r1 => ?_
  split at h1
  · rename_i p ep
    obtain ⟨i, xs⟩ := p
    obtain ⟨a, vs, rfl, h2, q, e1, e2⟩ := cell_of R1 r1 ep
    exact ⟨.inl ⟨rfl, vs, SqL.of h2⟩, W1, d, [], c1, R1, r1, .nil, (PostE.down h1).up l1⟩
  · exact h1.elim
end

/-! ### how parameters are bound -/
section
variable {K : PySem.W.Frag} {cm : Nat → Addr} {x qual : Str} {params : Arguments} {body : List Stmt} {scope : Scope} {dvs : List V} {kws : List (Str × V)} {f : Addr} {fd : FuncData} {ps ks : List Str} {n : Nat}
/-- every parameter by position -/
theorem arg_all (F : FunD K x qual params body scope [] kws f fd) (hn : ps.length = n)
    (h : ∀ (kV doc pm : Value) (an : Option Addr) (cdv ct : Value) (us : List Value), us.length = ps.length → bindArgs (PySem.W.fnOf x qual params body scope .none kV doc pm an cdv ct) ⟨us, []⟩ = pure (ps.zip us)) : Arg K cm fd ps n [] (fun ds _ => ds) := by
  obtain ⟨oc, od, dV, kV, doc, pm, an, cdv, ct, osl, rfl, lk, hcd, hD, hK⟩ := F.ex
  rcases hD with ⟨_, rfl⟩ | ⟨e, _⟩
  · exact ⟨fun us _ => us, fun vs _ => vs, fun s us ws _ l1 _ => .of_eq (h kV doc pm an cdv ct us (by rw [hn]; exact l1)), fun r _ => r, fun r _ => r⟩
  · exact absurd rfl e
/-- .. some by name; g puts them in order -/
theorem arg_kw (F : FunD K x qual params body scope [] kws f fd) (g : {α : Type} → List α → List α → List α)
    (hg : ∀ {α β : Type} {S : α → β → Prop} {a : List α} {b : List β} {a' : List α} {b' : List β}, Paired S a b → Paired S a' b' → Paired S (g a a') (g b b'))
    (h : ∀ (kV doc pm : Value) (an : Option Addr) (cdv ct : Value) (us ws : List Value), us.length = n → ws.length = ks.length → bindArgs (PySem.W.fnOf x qual params body scope .none kV doc pm an cdv ct) ⟨us, ks.zip ws⟩ = pure (ps.zip (g us ws))) : Arg K cm fd ps n ks (fun ds es => g ds es) := by
  obtain ⟨oc, od, dV, kV, doc, pm, an, cdv, ct, osl, rfl, lk, hcd, hD, hK⟩ := F.ex
  rcases hD with ⟨_, rfl⟩ | ⟨e, _⟩
  · refine ⟨fun us ws => g us ws, fun vs zs => g vs zs, fun s us ws _ l1 l2 => .of_eq (h kV doc pm an cdv ct us ws l1 l2), fun r rz => hg r rz, fun {W ds vs es zs} r rz => ?_⟩
    have to : ∀ {ds : List D} {vs : List V}, Rps K cm W ds vs → Paired (Rp K cm W) ds vs := fun {ds vs} r => by
      induction ds generalizing vs with
      | nil => cases r; exact .nil
      | cons d ds ih => cases r with | cons h t => exact .cons h (ih t)
    have of : ∀ {ds : List D} {vs : List V}, Paired (Rp K cm W) ds vs → Rps K cm W ds vs := fun {ds vs} r => by
      induction ds generalizing vs with
      | nil => cases r; exact .nil
      | cons d ds ih => cases r with | cons h t => exact .cons h (ih t)
    exact of (hg (to r) (to rz))
  · exact absurd rfl e
/-- with defaults: g puts positional values, defaults, values by name in order -/
theorem arg_dfl (F : FunD K x qual params body scope dvs kws f fd) (dds : List D) (hd : dvs ≠ []) (hdd : ∀ W, Rps K cm W dds dvs) (g : {α : Type} → List α → List α → List α → List α)
    (hg : ∀ {α β : Type} {S : α → β → Prop} {a : List α} {b : List β} {a' : List α} {b' : List β} {c : List α} {c' : List β}, Paired S a b → Paired S c c' → Paired S a' b' → Paired S (g a c a') (g b c' b'))
    (h : ∀ (T : Addr) (kV doc pm : Value) (an : Option Addr) (cdv ct : Value) (us its ws : List Value), us.length = n → its.length = dvs.length → ws.length = ks.length →
      ∃ k, bindArgs (PySem.W.fnOf x qual params body scope (.ref T) kV doc pm an cdv ct) ⟨us, ks.zip ws⟩ = seqItems? (.ref T) >>= k ∧ k (some its.toArray) = pure (ps.zip (g us its ws))) : Arg K cm fd ps n ks (fun ds es => g ds dds es) := by
  obtain ⟨oc, od, dV, kV, doc, pm, an, cdv, ct, osl, rfl, lk, hcd, hD, hK⟩ := F.ex
  rcases hD with ⟨e, _⟩ | ⟨_, T, o, its, m, rfl, lT, oT, rT⟩
  · exact absurd e hd
  · refine ⟨fun us ws => g us its ws, fun vs zs => g vs dvs zs, fun s us ws X l1 l2 => ?_, fun r rz => hg r rT rz, fun {W ds vs es zs} r rz => ?_⟩
    · obtain ⟨k, e1, e2⟩ := h T kV doc pm an cdv ct us its ws l1 rT.length.symm l2
      refine BindsTo.of_looks fun M => ?_
      rw [e1]
      exact looks_items X lT oT (.of_pure e2)
    · have to : ∀ {ds : List D} {vs : List V}, Rps K cm W ds vs → Paired (Rp K cm W) ds vs := fun {ds vs} r => by
        induction ds generalizing vs with
        | nil => cases r; exact .nil
        | cons d ds ih => cases r with | cons h t => exact .cons h (ih t)
      have of : ∀ {ds : List D} {vs : List V}, Paired (Rp K cm W) ds vs → Rps K cm W ds vs := fun {ds vs} r => by
        induction ds generalizing vs with
        | nil => cases r; exact .nil
        | cons d ds ih => cases r with | cons h t => exact .cons h (ih t)
      exact of (hg (to r) (to (hdd W)) (to rz))
theorem Vals.ints_of {ns : List Int} : ∀ {W : Wd}, Rps K cm W (ns.map D.int) (ns.map V.int) := fun {W} => by
  induction ns with
  | nil => exact .nil
  | cons n ns ih => exact .cons (.int n) ih
end

/-! ### the law -/
section
variable {P : Program} {w : World} {K : PySem.W.Frag} {mg mb : Str → Option Value} {cm : Nat → Addr} {k : Nat} {fa a : Addr} {fd : FuncData} {x : Str} {F : List D → List Cell → Out D} {s1 : Shared} {us : List Value} {ns : List Int}
/-- the law's def at the script: the machine comes to True -/
theorem law_in (KX : K.In s1.heap) (hns : s1.heap.Ns mainGlobals mg) (hb : s1.heap.Ns builtinsNs mb) (hbb : ∀ x : Str, x ≠ "__name__" → mb x = bootBuiltins x) (hlim : s1.heap.NoLimit) (hg : s1.gens = #[])
    (ha : s1.heap.get? a = some { cls := .type "list", data := .seq us.toArray }) (hi : IntsAre us ns) (hl : ns.length ≤ sizeLine) (hr : Room k callerA)
    (B : ∀ base : Heap, K.In base → base.Ns mainGlobals mg → FnB P w K mg base cm k fa fd [x] F) (hbi : ∀ (s : Shared) (u : Value), BindsTo s fd ⟨[u], []⟩ [(x, u)])
    (hF : ∃ cs, F [.arg (ns.map D.int)] [] = .ok (.bl true) cs) :
    codeAny (model P w) callerA (.call (.ref fa) ⟨[.ref a], []⟩) (fun r s' => r = .ok (.ret (.bool true)) ∧ OldK s1.heap s'.heap ∧ s'.os = s1.os ∧ AllBare s'.gens) s1 := by
  have rv : Vals (ns.map V.int) us := vals_of_ints hi
  -- the script: frozen, or a thing of the written part
  have go : ∀ H : Hp, Only H → SqL K H a (ns.map V.int) → HOk P w H s1.heap → (∀ c, H c ≠ none → c = a) → (H a ≠ none → K.lookup a = none) →
      codeAny (model P w) callerA (.call (.ref fa) ⟨[.ref a], []⟩) (fun r s' => r = .ok (.ret (.bool true)) ∧ OldK s1.heap s'.heap ∧ s'.os = s1.os ∧ AllBare s'.gens) s1 := by
    intro H hO hS hok hA hK
    have isNone : ∀ {c : Addr}, c ≠ a → H c = none := fun {c} h => by
      cases q : H c with
      | none => rfl
      | some u => exact absurd (hA c (by rw [q]; simp)) h
    have noD : ∀ {c : Addr} {o : Obj} {es : Array DictEntry} {ep : Nat}, s1.heap.get? c = some o → o.data = .dict es ep → H c = none := fun {c o es ep} e d => isNone fun z => by
      subst z
      rw [ha] at e
      cases e
      exact nomatch (show Data.seq us.toArray _ = Data.dict es ep from d)
    have nsH : ∀ {c : Addr} {m : Str → Option Value}, s1.heap.Ns c m → (hidT s1.heap H).Ns c m := fun {c m} h => by
      obtain ⟨o, es, ep, e, d, q⟩ := h
      exact ⟨o, es, ep, hidT_get e (noD e d), d, q⟩
    have kH : K.In (hidT s1.heap H) := fun c o e => hidT_get (KX c o e) (by
      by_cases z : c = a
      · subst z
        cases q : H c with
        | none => rfl
        | some u => rw [hK (by rw [q]; simp)] at e; cases e
      · exact isNone z)
    obtain ⟨mc, hc1, hc2⟩ := hlim
    have md : Mod K mg (hidT s1.heap H) := ⟨kH, nsH hns, ⟨mb, nsH hb, hbb⟩, mc, nsH hc1, hc2⟩
    have en : Env0 P w K mg (hidT s1.heap H) callerA [] s1 H := ⟨rfl, md, fun _ _ => of_hidT, Nat.le_of_eq (hidT_size s1.heap H), True.intro, (fun c hc => by cases hc), hok, .of_eq hg⟩
    obtain ⟨cs, eF⟩ := hF
    have R0 : Rel K cm ⟨H, [], []⟩ [] H := ⟨fun _ _ h => h, rfl, List.nodup_nil, fun c h => (by cases h), fun i c d h _ => (by simp at h), fun q hq => (by cases hq)⟩
    refine codeAny_mono (B _ kH (nsH hns) callerA [] s1 H ⟨[.ref a], []⟩ [.ref a] [.ref a] (fun v _ => v = .bl true) (fun _ _ _ => False) ⟨H, [], []⟩ [.arg (ns.map D.int)] [] hr rfl en (hbi s1 (.ref a)) (.cons rfl .nil) rfl R0 (.cons (.arg hS Vals.ints_of) .nil) ?_) fun r s' h => ?_
    · rw [eF]
      intro W' H' v _ _ r'
      cases r'
      rfl
    · cases r with
      | error e =>
        obtain ⟨_, _, _, _, _, _, _, _, _, _, _, _, z⟩ := h
        exact z.elim
      | ok fl =>
        cases fl with
        | ret u =>
          obtain ⟨v, H', os, bare, un, hok', r', q⟩ := h
          obtain rfl : v = .bl true := q
          obtain rfl : u = Value.bool true := r'
          refine ⟨rfl, OldK.of_keep fun c o e => ?_, os, bare⟩
          cases q : H c with
          | none => exact un.keep c o e q (fun z => by cases z) (fun z => by cases z)
          | some y =>
            rcases hO c with z | ⟨ob, xs, z⟩
            · rw [q] at z; cases z
            · obtain ⟨e1, _⟩ := hok c _ z
              obtain ⟨e2, _⟩ := hok' c _ (un.frzs c ob _ z)
              rw [e] at e1
              cases e1
              exact e2
        | next => exact h.elim
        | brk => exact h.elim
        | cont => exact h.elim
  by_cases hk : K.lookup a = none
  · let fz : HO := .frz { cls := .type "list", data := .seq us.toArray } (.lst (ns.map V.int))
    refine go (fun c => if c = a then some fz else none) (fun c => ?_) (.inl (.inr ⟨_, if_pos rfl⟩)) (fun c u z => ?_) (fun c z => ?_) fun _ => hk
    · by_cases q : c = a
      · exact .inr ⟨_, _, if_pos q⟩
      · exact .inl (if_neg q)
    · by_cases q : c = a
      · subst q
        have z' : some fz = some u := (if_pos rfl).symm.trans z
        cases z'
        exact ⟨ha, by rw [List.length_map]; exact hl, us, 0, rv, ha⟩
      · have z' : (none : Option HO) = some u := (if_neg q).symm.trans z
        cases z'
    · by_cases q : c = a
      · exact q
      · exact absurd (if_neg q) z
  · obtain ⟨o, eo⟩ := Option.ne_none_iff_exists'.mp hk
    have e := KX a o eo
    rw [ha] at e
    cases e
    refine go (fun _ => none) (fun _ => .inl rfl) (.inr ⟨_, us.toArray, _, eo, rfl, rfl, rfl, ?_, by simpa using rv⟩) (fun c u z => nomatch (show (none : Option HO) = some u from z)) (fun c z => absurd rfl z) fun z => absurd rfl z
    rw [List.size_toArray, ← rv.length, List.length_map]; exact hl
end
/-- the goal that the head leaves -/
theorem walk_in {l : PySem.W.OpenLaw} {n k : Nat} {q : Program} {loose : List Str} {XP : (Str → Option Value) → Heap → Prop} {YP : World → Heap → Prop} {d : DefRec} {K : Params → PySem.W.Frag} {x : Str} {F : List D → List Cell → Out D}
    (hn : l.most = some n) (hn2 : n ≤ sizeLine) (hdf : d.params.defaults = []) (hr : Room k callerA) (hY : ∀ (w : World) (h : Heap), YP w h → (K w.params).In h)
    (B : ∀ (w : World) (mg : Str → Option Value) (fa : Addr) (h : Heap), (K w.params).In h → h.Ns mainGlobals mg → mg d.name = some (.ref fa) →
      ∃ (cm : Nat → Addr) (fd : FuncData), (∀ (s : Shared) (u : Value), BindsTo s fd ⟨[u], []⟩ [(x, u)]) ∧ ∀ base : Heap, (K w.params).In base → base.Ns mainGlobals mg → FnB l.prog w (K w.params) mg base cm k fa fd [x] F)
    (hF : ∀ ns : List Int, ns.length ≤ n → ∃ cs, F [.arg (ns.map D.int)] [] = .ok (.bl true) cs) : PySem.W.WalkO q loose XP YP l.row.toRowW d [] (fun f vs => PySem.call f vs) := by
  refine Att.attach_call hn hdf fun w s0 s1 mg mb fa o pm cd doc a vs ns G Y ho hd hcd hmg hobj hints hlen hg => ?_
  obtain ⟨cm, fd, hb, hB⟩ := B w mg fa _ (hY w _ Y) G.T.g hmg
  exact law_in (hY w _ Y) G.T.g G.T.b G.T.builtins G.T.nolimit hg hobj hints (Nat.le_trans hlen hn2) hr hB hb (hF ns hlen)
end PV

namespace PV
open PySem PySem.Spec PyProof.Rows L2

/-! ### small things that the printed derivations use -/
instance : DecidableEq Kd := fun a b => match a, b with
  | .ty x, .ty y => if h : x = y then isTrue (by rw [h]) else isFalse fun e => h (by cases e; rfl)
  | .cl x, .cl y => if h : x = y then isTrue (by rw [h]) else isFalse fun e => h (by cases e; rfl)
  | .ty _, .cl _ => isFalse fun e => nomatch e
  | .cl _, .ty _ => isFalse fun e => nomatch e
def tabOf (L : List (Kd × Kd × Bool)) (a b : Kd) : Option Bool := (L.find? fun q => decide (q.1 = a ∧ q.2.1 = b)).map (·.2.2)
theorem tab_ans {K : PySem.W.Frag} {cm : Nat → Addr} {L : List (Kd × Kd × Bool)} (h : ∀ q ∈ L, PySem.W.kitOne K (kdV cm q.1) (kdV cm q.2.1) = some q.2.2) : ∀ a b r, tabOf L a b = some r → PySem.W.kitOne K (kdV cm a) (kdV cm b) = some r := by
  intro a b r e
  unfold tabOf at e
  cases q : L.find? fun q => decide (q.1 = a ∧ q.2.1 = b) with
  | none => rw [q] at e; cases e
  | some p =>
    rw [q] at e
    have e' : p.2.2 = r := by simpa using e
    have h1 := List.mem_of_find?_eq_some q
    have h2 := List.find?_some q
    have h3 : p.1 = a ∧ p.2.1 = b := by simpa using h2
    have h4 := h p h1
    rw [h3.1, h3.2, e'] at h4
    exact h4
theorem all_cons {α : Type} {p : α → Prop} {x : α} {xs : List α} (h : p x) (t : ∀ y ∈ xs, p y) : ∀ y ∈ x :: xs, p y := fun y hy => by
  rcases List.mem_cons.mp hy with e | e
  · rw [e]; exact h
  · exact t y e
theorem room65 {k : Nat} {A : Around} (r : Room k A) : A.units + 65 < cLine := by have := r.un; omega
theorem room200 {k : Nat} {A : Around} (r : Room k A) : A.units + 200 < cLine := by have := r.un; omega
theorem ptake {α β : Type} {S : α → β → Prop} : ∀ (n : Nat) {a : List α} {b : List β}, Paired S a b → Paired S (a.take n) (b.take n)
  | 0, _, _, _ => .nil
  | n + 1, _, _, .nil => .nil
  | n + 1, _, _, .cons h t => .cons h (ptake n t)
theorem pdrop {α β : Type} {S : α → β → Prop} : ∀ (n : Nat) {a : List α} {b : List β}, Paired S a b → Paired S (a.drop n) (b.drop n)
  | 0, _, _, h => h
  | n + 1, _, _, .nil => .nil
  | n + 1, _, _, .cons _ t => pdrop n t
theorem papp {α β : Type} {S : α → β → Prop} {a' : List α} {b' : List β} : ∀ {a : List α} {b : List β}, Paired S a b → Paired S a' b' → Paired S (a ++ a') (b ++ b')
  | _, _, .nil, h => h
  | _, _, .cons h t, k => .cons h (papp t k)
theorem tkNo {X : Cx} : Takes X yNo := fun _ _ ⟨_, _, _, _, _, _, _, _, _, _, _, _, _, _, _, _, w⟩ => w.elim
section
variable {X : Cx} {cm : Nat → Addr} {Y : WX} {k n m l c : Nat} {f : Addr} {fd : FuncData} {ps ks : List Str} {F : List D → List Cell → Out D} {g : List D → List D → List D}
theorem cal_f (B : FnB X.prog X.w X.K X.mg X.base cm k f fd ps F) (a : Arg X.K cm fd ps n ks g) (hr : Room k X.A) (hg : X.A.guards = some []) (tk : Takes X Y) (kp : PySem.W.keepIn X.K (.ref f) = true) (hm : ks.length = m := by rfl) (hl : ps.length = l := by rfl) : Cal X cm Y (.ref f) ks (fnK n m l F g) := by
  subst hm hl
  exact cal_fn B a hr hg tk kp
theorem cal_mk (fz : Bool) (M : Mk X.K (cm c) f) (B : FnB X.prog X.w X.K X.mg X.base cm k f fd ps F) (a : Arg X.K cm fd ps n ks g) (hr : Room (k + 1) X.A) (hg : X.A.guards = some []) (tk : Takes X Y) (hm : ks.length = m := by rfl) (hl : ps.length = l := by rfl) :
    Cal X cm Y (.ref (cm c)) ks (mkK c fz (fnK n m l F g)) := by
  subst hm hl
  exact cal_make fz M B a hr hg tk
theorem blk_of {N : List Str} {sc scope : Scope} {own : List (Str × Nat)} (h1 : X.N = N) (h2 : X.env.scope = sc) (h : blkC N sc scope own = true) : BlkOk X.N X.env.scope scope own := by
  subst h1 h2
  exact blkOk_by h
end
theorem pvkit_ty {K : PySem.W.Frag} {t : Value} {T : String} {r : Bool} (hs : PySem.W.subIn K t (.type T) = some r) (hm : PySem.W.kitMeta T = true) (hne : (t == Value.type T) = true → r = true) : PySem.W.kitOne K t (.type T) = some r := by
  unfold PySem.W.kitOne
  split
  · rename_i z; rw [hne z]
  · show (if PySem.W.kitMeta T = true then PySem.W.subIn K t (.type T) else none) = some r
    rw [if_pos hm]
    exact hs
theorem pvkit_cl {K : PySem.W.Frag} {t : Value} {C : Addr} {r : Bool} (hs : PySem.W.subIn K t (.ref C) = some r) (h1 : PySem.W.isClsIn K C = true) (h2 : PySem.W.typeIn K (.ref C) = some (.type "type")) (hne : (t == Value.ref C) = true → r = true) : PySem.W.kitOne K t (.ref C) = some r := by
  unfold PySem.W.kitOne
  split
  · rename_i z; rw [hne z]
  · show (if ((PySem.W.clsIn K C).isSome && PySem.W.typeIn K (Value.ref C) == some (Value.type "type")) = true then PySem.W.subIn K t (Value.ref C) else none) = some r
    have h1' : (PySem.W.clsIn K C).isSome = true := h1
    rw [h1', h2]
    exact hs
end PV

namespace PV
open PySem PySem.Spec PyProof.Rows L2

/-! ### == and != by an own __eq__ -/
theorem ne_bind (self : Value) : bindSpecial (.builtin "object.__ne__") self = pure (.builtin "object.__ne__", [self]) :=
  (Slot.of (T := "object") (name := "__ne__") (owner := "object") (n := "__ne__") (by rw [typeLookup_type, builtinLookup_eq_fast]; kernel_rfl) (by decide +kernel) (by decide +kernel) (by decide +kernel)
    (.inl (by decide +kernel)) (by rw [isSubtype_type]; kernel_rfl)).bind self
def neRest (r : Option Value) : Sem Fin := match r with
  | some .notImplemented | none => ret .notImplemented
  | some r => truthy r >>= fun t => ret (.bool (!t))
theorem ne_tree (a b : Value) : Builtin.«object.__ne__» ⟨[a, b], []⟩ = (cRoomFor "comparison" [a, b] >>= fun _ => callSpecialIfBound? a "__eq__" [b] >>= neRest) := by
  kernel_rfl
section
variable {prog : Program} {w : World} {A : Around} {E : Value → Shared → Prop} {s : Shared} {K : PySem.W.Frag} {x C L f : Addr} {h₀ : Heap} {m : Str → Option Value} {ox : Obj} {od : Option Obj} {b tb : Value}
open PySem.W in
theorem ifBound_ne {M : Model} {args : List Value} {Q : Option Value → Shared → Prop} (X : K.In s.heap) (I : InstAt s.heap x ox C od) (hs : findIn K (.ref C) "__ne__" = some (some (.builtin "object.__ne__")))
    (h : wpAny M A (call (.builtin "object.__ne__") (.ref x :: args)) (fun v => Q (some v)) E s) : wpAny M A (callSpecialIfBound? (.ref x) "__ne__" args) Q E s := by
  simp only [callSpecialIfBound?, bindSpecialIfBound?]
  refine wpAny_holding (wpAny_bind (wpAny_bind (wpAny_bind (I.type.here ((looks_findIn X hs).here ?_)))))
  refine wpAny_bind (wpAny_askSetting (wpAny_ite ?_))
  have fin : wpAny M A (call (.builtin "object.__ne__") ([.ref x] ++ args) >>= fun v => pure (some v)) Q E s := wpAny_bind (wpAny_mono h (fun v s' h' => wpAny_pure h') fun _ _ h' => h')
  split
  · exact wpAny_bind ((Looks.of_pure (ne_bind _)).here (wpAny_pure (by exact fin)))
  · exact wpAny_tryCatch (wpAny_bind ((Looks.of_pure (ne_bind _)).here (wpAny_pure (by exact fin))))
open PySem.W in
theorem call_ne {Q : Value → Shared → Prop} (hu : A.units + 1 < cLine) (X : K.In s.heap) (I : InstAt s.heap x ox C od) (hs : findIn K (.ref C) "__eq__" = some (some (.ref f))) (hf : isFn K (.ref f) = true)
    (hm : mroIn K C (.type "object") = some true) (h : wpAny (model prog w) A.in1 (call (.ref f) [.ref x, b]) (fun v s' => ∃ k, v = .bool k ∧ Q (.bool (!k)) s') E s) : wpAny (model prog w) A (call (.builtin "object.__ne__") [.ref x, b]) Q E s := by
  have sub : Looks (model prog w) s.heap (isInstance (.ref x) (.type "object")) true := I.type.andThen (looks_mroIn X hm)
  refine wpAny_call (codeAny_call_builtin (by decide +kernel) F.cmpEntry_ne (@check_slot (model prog w) _ _ s "object.__ne__" "object" "__ne__" (.ref x) [b] [] _ F.cmpKind_ne F.cmpSplit_ne sub (F.cmpArgs_ne _ _) ?_))
  rw [ne_tree]
  refine wpAny_bind (wpAny_cRoomFor hu ?_)
  refine wpAny_bind (ifBound_K X I hs hf (wpAny_mono h (fun v s' hv => ?_) fun _ _ e => e))
  obtain ⟨k, rfl, hq⟩ := hv
  exact wpAny_pure hq
open PySem.W in
theorem own_ne {Q : Value → Shared → Prop} (hu : A.units + 1 < cLine) (F : Fr h₀ L s.heap m) (X₀ : K.In h₀) (I : InstAt s.heap x ox C od) (hb : Looks (model prog w) s.heap (typeOf b) tb) (hn : notFirst K C tb = true)
    (hne : findIn K (.ref C) "__ne__" = some (some (.builtin "object.__ne__"))) (hs : findIn K (.ref C) "__eq__" = some (some (.ref f))) (hf : isFn K (.ref f) = true) (hm : mroIn K C (.type "object") = some true)
    (h : wpAny (model prog w) A.in1 (call (.ref f) [.ref x, b]) (fun v s' => ∃ k, v = .bool k ∧ Q (.bool (!k)) s') E s) : wpAny (model prog w) A (richCompare .NotEq (.ref x) b) Q E s := by
  have X := X₀.keeps F.keep
  have one : wpAny (model prog w) A (tryCompare (.ref x) "__ne__" b) (fun r s' => ∃ v, r = some v ∧ Q v s') E s := by
    unfold tryCompare
    refine wpAny_bind (ifBound_ne X I hne (call_ne hu X I hs hf hm (wpAny_mono h (fun v s' hv => ?_) fun _ _ e => e)))
    obtain ⟨k, rfl, hq⟩ := hv
    exact ⟨k, rfl, wpAny_pure ⟨_, rfl, hq⟩⟩
  unfold richCompare
  simp only [oneThing_ref]
  refine wpAny_holding (wpAny_bind (wpAny_cRoomFor (by omega) ?_))
  refine wpAny_bind (I.type.here (wpAny_bind (hb.here ?_)))
  split
  · rename_i q
    have e : subIn K tb (.ref C) = some false := by
      rcases Bool.or_eq_true_iff.mp hn with e | e
      · rw [beq_iff_eq.mp e] at q; simp at q
      · exact beq_iff_eq.mp e
    refine wpAny_bind ((looks_subIn X e).here ?_)
    simp only [Bool.false_eq_true, if_false]
    refine wpAny_bind (wpAny_mono one (fun r s' z => ?_) fun _ _ e => e)
    obtain ⟨v, rfl, hq⟩ := z
    exact wpAny_pure hq
  · refine wpAny_bind (wpAny_pure ?_)
    simp only [Bool.false_eq_true, if_false]
    refine wpAny_bind (wpAny_mono one (fun r s' z => ?_) fun _ _ e => e)
    obtain ⟨v, rfl, hq⟩ := z
    exact wpAny_pure hq
end
/-- a class with an __eq__ of its own (no __ne__): what of the text it must have; nf: the kinds that are no subclass of it -/
structure OwnE (K : PySem.W.Frag) (cm : Nat → Addr) (c : Nat) (f : Addr) (nf : List Kd) : Prop where
  eq : PySem.W.findIn K (.ref (cm c)) "__eq__" = some (some (.ref f))
  ne : PySem.W.findIn K (.ref (cm c)) "__ne__" = some (some (.builtin "object.__ne__"))
  fn : PySem.W.isFn K (.ref f) = true
  hm : PySem.W.mroIn K (cm c) (.type "object") = some true
  nf : ∀ k ∈ nf, PySem.W.notFirst K (cm c) (kdV cm k) = true
/-- x == y (neg: x != y), x an instance of class c, by F -/
def dOwn (neg : Bool) (c n : Nat) (nf : List Kd) (F : List D → List Cell → Out D) : G2 := fun x y cs => match insOf cs x, kdOf cs y with
  | some (c', _), some k => if c' = c ∧ k ∈ nf ∧ okKd n k = true then match F [x, y] cs with
    | .ok (.bl b) cs' => some (.bl (if neg then !b else b), cs')
    | _ => none
    else none
  | _, _ => none
def gAlt (g g' : G2) : G2 := fun x y cs => match g x y cs with
  | some r => some r
  | none => g' x y cs
section
variable {X : Cx} {cm : Nat → Addr} {k n c : Nat} {f : Addr} {fd : FuncData} {F : List D → List Cell → Out D} {tab : Kd → Kd → Option Bool} {nf : List Kd} {ps : List Str}
theorem op_alt {op : Value → Value → Sem Value} {g g' : G2} (h : OpR X op (rO2 X.K cm g)) (h' : OpR X op (rO2 X.K cm g')) : OpR X op (rO2 X.K cm (gAlt g g')) := by
  intro pins s σ H x y v u Q I rx ry ⟨W, dx, dy, cs, R, r1, r2, P⟩
  unfold gAlt at P
  cases q : g dx dy cs with
  | some r =>
    rw [q] at P
    exact h pins s σ H x y v u Q I rx ry ⟨W, dx, dy, cs, R, r1, r2, by rw [q]; exact P⟩
  | none =>
    rw [q] at P
    exact h' pins s σ H x y v u Q I rx ry ⟨W, dx, dy, cs, R, r1, r2, P⟩
theorem own_go {neg : Bool} {W : Wd} {dx dy : D} {cs : List Cell} {Q : VK} (P : Post X.K cm W (dOwn neg c n nf F dx dy cs) Q) : ∃ fs kd b cs', insOf cs dx = some (c, fs) ∧ kdOf cs dy = some kd ∧ kd ∈ nf ∧ okKd n kd = true ∧ F [dx, dy] cs = .ok (.bl b) cs' ∧ Post X.K cm W (some (.bl (if neg then !b else b), cs')) Q := by
  unfold dOwn at P
  split at P
  · rename_i c' fs kd e1 e2
    split at P
    · rename_i hc
      obtain ⟨rfl, h1, h2⟩ := hc
      split at P
      · rename_i b cs' e3
        exact ⟨fs, kd, b, cs', e1, e2, h1, h2, e3, P⟩
      · exact absurd rfl P.ne
    · exact absurd rfl P.ne
  · exact absurd rfl P.ne
theorem op_own (O : OwnE X.K cm c f nf) (T : Tab X.K cm n tab) (B : FnB X.prog X.w X.K X.mg X.base cm k f fd ps F) (a : Arg X.K cm fd ps 2 [] (fun ds _ => ds)) (hl : ps.length = 2) (kp : PySem.W.keepIn X.K (.ref f) = true) (hr : Room k X.A) (hg : X.A.guards = some []) :
    OpR X (compareOp .Eq) (rO2 X.K cm (dOwn false c n nf F)) := by
  intro pins s σ H x y v u Q I rx ry ⟨W, dx, dy, cs, R, r1, r2, P⟩
  obtain ⟨fs, kd, b, cs', e1, e2, e3, e4, e5, P⟩ := own_go P
  obtain ⟨p, dd, vs, rfl, h2, q⟩ := ins_of R r1 e1
  obtain rfl : v = Value.ref p := rx
  obtain ⟨mA, J, _⟩ := ins_get I.hok h2
  obtain ⟨od, J, _⟩ := J.look
  obtain ⟨m, hF⟩ := I.fr
  obtain ⟨P0, Z, p0, _⟩ := kit_of I ry (tyX_of T R r2 e2 e4)
  show wpAny (model X.prog X.w) X.A (richCompare .Eq (.ref p) u) (EP X pins σ Q) X.xe s
  refine PySem.W.cmp_K (op := .Eq) (tb := kdV cm kd) hr.units0 hF I.ok.mod.kin J (Z.ty _ _ I.kIn p0) (O.nf kd e3) O.eq O.fn ?_
  have C := (cal_fn (Y := yNo) B a hr hg tkNo kp).run pins s σ H [.ref p, u] [] [.ref p, y] [] (fun v H' => ∃ b', v = .bl b' ∧ Q v H') W [dx, dy] [] cs I (.cons rfl (.cons ry .nil)) .nil rfl R (.cons r1 (.cons r2 .nil)) .nil (by
    unfold fnK
    rw [if_pos ⟨rfl, by rw [hl]; rfl⟩, e5]
    intro W' H' z l R' r'
    cases r'
    exact ⟨b, rfl, (P.up l).here R' (.bl b)⟩)
  refine wpAny_mono C (fun z s' hz => ?_) fun _ _ e => e
  obtain ⟨z', H', I', rz, b', rfl, hq⟩ := hz
  obtain rfl : z = Value.bool b' := rz
  exact ⟨.bl b', H', I', rfl, hq⟩
theorem op_ownNe (O : OwnE X.K cm c f nf) (T : Tab X.K cm n tab) (B : FnB X.prog X.w X.K X.mg X.base cm k f fd ps F) (a : Arg X.K cm fd ps 2 [] (fun ds _ => ds)) (hl : ps.length = 2) (kp : PySem.W.keepIn X.K (.ref f) = true) (hr : Room (k + 1) X.A) (hg : X.A.guards = some []) :
    OpR X (compareOp .NotEq) (rO2 X.K cm (dOwn true c n nf F)) := by
  intro pins s σ H x y v u Q I rx ry ⟨W, dx, dy, cs, R, r1, r2, P⟩
  obtain ⟨fs, kd, b, cs', e1, e2, e3, e4, e5, P⟩ := own_go P
  obtain ⟨p, dd, vs, rfl, h2, q⟩ := ins_of R r1 e1
  obtain rfl : v = Value.ref p := rx
  obtain ⟨mA, J, _⟩ := ins_get I.hok h2
  obtain ⟨od, J, _⟩ := J.look
  obtain ⟨m, hF⟩ := I.fr
  obtain ⟨P0, Z, p0, _⟩ := kit_of I ry (tyX_of T R r2 e2 e4)
  show wpAny (model X.prog X.w) X.A (richCompare .NotEq (.ref p) u) (EP X pins σ Q) X.xe s
  refine own_ne (tb := kdV cm kd) (by have := hr.un; omega) hF I.ok.mod.kin J (Z.ty _ _ I.kIn p0) (O.nf kd e3) O.ne O.eq O.fn O.hm ?_
  refine wpAny_call (codeAny_mono (run_def (X := X) (Y := yNo) (A := X.A.in1) (us := [.ref p, u]) (ws := []) (vs := [.ref p, y]) (zs := []) (Q := fun v H' => ∃ b', v = .bl b' ∧ Q (.bl (!b')) H') (ds := [dx, dy]) (es := []) (cs := cs) B a hr.in1 hg I.ok.frames tkNo I (.cons rfl (.cons ry .nil)) .nil rfl R (.cons r1 (.cons r2 .nil)) .nil ?_) fun rr s' hq => ?_)
  · unfold fnK
    rw [if_pos ⟨rfl, by rw [hl]; rfl⟩, e5]
    intro W' H' z l R' r'
    cases r'
    exact ⟨b, rfl, (P.up l).here R' (.bl (!b))⟩
  · cases rr with
    | error e => exact hq
    | ok fl =>
      cases fl with
      | ret z =>
        obtain ⟨z', H', I', rz, b', rfl, hq⟩ := hq
        obtain rfl : z = Value.bool b' := rz
        exact ⟨_, rfl, .bl (!b'), H', I', rfl, hq⟩
      | next => exact hq
      | brk => exact hq
      | cont => exact hq
end
end PV

namespace PV
open PySem PySem.Spec PyProof.Rows L2

/-! ### f-strings -/
def fmtO (d : D) (c : List Cell) : Out D := match d with
  | .str y => if y.length ≤ sizeLine then .ok (.str y) c else .no
  | .int i => if i.natAbs.log2 < 1920 then .ok (.str (toString i)) c else .no
  | _ => .no
def fFmt (f : Fe) : Fe := fun σ cs => (f σ cs).bind fun d c => fmtO d c
def joinF : List Fe → Str → Fe
  | [], acc => fun _ cs => .ok (.str acc) cs
  | f :: r, acc => fun σ cs => (f σ cs).bind fun d c => match d with
    | .str y => if (acc ++ y).length ≤ sizeLine then joinF r (acc ++ y) σ c else .no
    | _ => .no
section
variable {X : Cx} {cm : Nat → Addr} {Y : WX} {e e1 e2 : Expr} {rest : List Expr} {f : Fe} {fs : List Fe} {pos : Pos}
theorem fe_fmt (h : FE X cm Y e f) : FE X cm Y (.FormattedValue e (-1) none pos) (fFmt f) := PE.weak (pe_fmt h) fun σ H Q ⟨W, σd, cs, R, N, P⟩ => by
  refine tE_go R N asksE P fun d c1 _ h1 W1 H1 v l1 R1 N1 r1 => ?_
  unfold fmtO at h1
  split at h1
  · split at h1
    · rename_i y _ hl
      cases r1
      exact .inl ⟨y, rfl, hl, (h1.up l1).here R1 (.str y)⟩
    · exact h1.elim
  · split at h1
    · rename_i i _ hl
      cases r1
      exact .inr ⟨i, rfl, hl, (h1.up l1).here R1 (.str _)⟩
    · exact h1.elim
  · exact h1.elim
theorem join_go {K : PySem.W.Frag} {σ : L2.St} {Q : VK} : ∀ (fs : List Fe) (acc : Str) (W : Wd) (σd : Sd) (cs : List Cell) (H : Hp), Rel K cm W cs H → En K cm W σd σ → PostE K cm Y σ W (joinF fs acc σd cs) Q → tJs (fs.map (tE K cm Y)) acc σ H fun out H1 => Q (.str out) H1
  | [], acc, W, σd, cs, H, R, N, P => P.here R (.str acc)
  | f :: r, acc, W, σd, cs, H, R, N, P => by
    show tE K cm Y f σ H _
    refine tE_go R N asksE P fun d c1 _ h1 W1 H1 v l1 R1 N1 r1 => ?_
    split at h1
    · rename_i y _
      split at h1
      · rename_i hl
        cases r1
        exact ⟨y, rfl, hl, join_go r (acc ++ y) W1 σd c1 H1 R1 N1 (h1.up l1)⟩
      · exact h1.elim
    · exact h1.elim
abbrev FJ (X : Cx) (cm : Nat → Addr) (Y : WX) (es : List Expr) (fs : List Fe) : Prop := PJ X es (fs.map (tE X.K cm Y))
theorem fj_nil : FJ X cm Y [] [] := .nil
theorem fj_cons (h : FE X cm Y e f) (r : FJ X cm Y rest fs) : FJ X cm Y (e :: rest) (f :: fs) := .cons h r
theorem fe_joined (h : FJ X cm Y (e1 :: e2 :: rest) fs) : FE X cm Y (.JoinedStr (e1 :: e2 :: rest) pos) (joinF fs Str.empty) := PE.weak (pe_joined h) fun σ H Q ⟨W, σd, cs, R, N, P⟩ => join_go fs Str.empty W σd cs H R N P
theorem fe_joined1 (h : FE X cm Y e f) : FE X cm Y (.JoinedStr [e] pos) f := pe_joined1 h

/-! ### dict displays, of written keys -/
def dispF : List (Key × Fe) → Sd → List Cell → Option (List (Key × D) × List Cell)
  | [], _, cs => some ([], cs)
  | (k, f) :: r, σ, cs => match f σ cs with
    | .ok d c => (dispF r σ c).map fun p => ((k, d) :: p.1, p.2)
    | _ => none
def fDsp (kfs : List (Key × Fe)) : Fe := fun σ cs => match dispF kfs σ cs with
  | some (kvs, c) => if (kvs.map (·.1)).Nodup ∧ kvs.length ≤ 15 then .ok (.dic kvs) c else .no
  | none => .no
def kD : Key → D
  | .inl i => .int i
  | .inr x => .str x
theorem putK_new {kvs : List (Key × V)} {k : Key} {v : V} (h : k ∉ kvs.map (·.1)) : putK kvs k v = kvs ++ [(k, v)] := by
  have : (kvs.any fun kv => decide (kv.1 = k)) = false := by
    rw [List.any_eq_false]
    intro p hp
    have : p.1 ≠ k := fun e => h (by rw [← e]; exact List.mem_map_of_mem hp)
    simpa using this
  unfold putK
  rw [this]
  rfl
theorem mergeK_new : ∀ {more kvs : List (Key × V)}, (kvs.map (·.1) ++ more.map (·.1)).Nodup → mergeK kvs more = kvs ++ more
  | [], kvs, _ => by simp [mergeK]
  | (k, v) :: r, kvs, h => by
    have hk : k ∉ kvs.map (·.1) := fun e => by
      rw [List.nodup_append] at h
      exact h.2.2 k e k (List.mem_cons_self ..) rfl
    show mergeK (putK kvs k v) r = _
    rw [putK_new hk, mergeK_new (by simpa using h)]
    simp
theorem Rpk.keys {K : PySem.W.Frag} {W : Wd} : ∀ {ds : List (Key × D)} {vs : List (Key × V)}, Rpk K cm W ds vs → ds.map (·.1) = vs.map (·.1)
  | _, _, .nil => rfl
  | _, _, .cons _ t => by rw [List.map_cons, List.map_cons, Rpk.keys t]
theorem disp_go {K : PySem.W.Frag} {σ : L2.St} {Q : List (V × V) → Hp → Prop} : ∀ (kfs : List (Key × Fe)) (W : Wd) (σd : Sd) (cs : List Cell) (H : Hp) (kvs : List (Key × D)) (c' : List Cell), Rel K cm W cs H → En K cm W σd σ → dispF kfs σd cs = some (kvs, c') →
    (∀ W' H' vs, W.le W' → Rel K cm W' c' H' → Rpk K cm W' kvs vs → Q (vs.map fun kv => (kV kv.1, kv.2)) H') → tPairs (kfs.map fun kf => (tC (kV kf.1), tE K cm Y kf.2)) σ H Q
  | [], W, σd, cs, H, kvs, c', R, N, e, k => by
    cases e
    exact k W H [] (.refl W) R .nil
  | (ky, f) :: r, W, σd, cs, H, kvs, c', R, N, e, k => by
    unfold dispF at e
    split at e
    · rename_i d c ef
      cases er : dispF r σd c with
      | none => rw [er] at e; cases e
      | some p =>
        rw [er] at e
        cases e
        show tE K cm Y f σ H _
        refine ⟨W, σd, cs, R, N, ?_⟩
        rw [ef]
        intro W1 H1 v l1 R1 r1
        exact disp_go r W1 σd c H1 p.1 p.2 R1 (N.up l1) er fun W2 H2 vs l2 R2 q2 => k W2 H2 ((ky, v) :: vs) (l1.trans l2) R2 (.cons (r1.up l2) q2)
    · cases e
abbrev FPs (X : Cx) (cm : Nat → Addr) (Y : WX) (pos : Pos) (keys : List (Option Expr)) (values : List Expr) (kfs : List (Key × Fe)) : Prop := PPs X pos keys values (kfs.map fun kf => (tC (kV kf.1), tE X.K cm Y kf.2))
theorem fp_nil : FPs X cm Y pos [] [] [] := pps_nil
theorem fp_str {x : Str} {j : Nat} {p : Pos} {v : Expr} {ks : List (Option Expr)} {vs : List Expr} {kfs : List (Key × Fe)} (hv : FE X cm Y v f) (hr : FPs X cm Y pos ks vs kfs) : FPs X cm Y pos (some (.Constant (.str x) j p) :: ks) (v :: vs) ((.inr x, f) :: kfs) := pps_cons pe_str hv hr
theorem fe_disp {keys : List (Option Expr)} {values : List Expr} {kfs : List (Key × Fe)} (h : FPs X cm Y pos keys values kfs) (hall : keys.all (·.isSome) = true := by rfl) (hl : keys.length = values.length := by rfl) (h0 : keys ≠ [] := by simp)
    (h15 : keys.length ≤ 15 := by decide) : FE X cm Y (.Dict keys values pos) (fDsp kfs) := PE.weak (pe_disp h hall hl h0 h15) fun σ H Q ⟨W, σd, cs, R, N, P⟩ => by
  unfold fDsp at P
  split at P
  · rename_i kvs c e
    split at P
    · rename_i hk
      intro p hp
      have hn : ∀ q ∈ W.pn, q.1 ≠ p := fun q hq => ne_of_none (R.pin q hq).1 hp
      refine disp_go kfs (W.pinned p (.dK [])) σd cs (upd H p (.dK [])) kvs c (R.pinUp hp) (En.up' (W := W) (W' := W.pinned p (.dK [])) (fun _ _ h => h) (fun _ _ h => h) N) e fun W' H' vs l' R' q' => ?_
      obtain ⟨G2, r2, pn2⟩ := W'
      have epn : pn2 = (p, .dK []) :: W.pn := l'.p
      subst epn
      have R2 : Rel X.K cm ((⟨G2, r2, W.pn⟩ : Wd).pinned p (.dK [])) c H' := R'
      refine ⟨(R2.pin (p, .dK []) (List.mem_cons_self)).1, vs, rfl, by rw [← q'.length]; exact hk.2, ?_⟩
      have em : mergeK [] vs = vs := mergeK_new (kvs := []) (by rw [List.map_nil, List.nil_append, ← q'.keys]; exact hk.1)
      rw [em]
      have R3 := Rel.pinSet (o' := .dK vs) (W := ⟨G2, r2, W.pn⟩) hn R2
      obtain ⟨l4, R4⟩ := Rel.pinG (W := ⟨G2, r2, W.pn⟩) hn R3
      have lb : W.le ⟨G2, r2, W.pn⟩ := ⟨l'.g, l'.r, rfl⟩
      refine P _ _ _ (lb.trans l4) R4 (.dic upd_same ?_)
      exact Rpk.up' (W := (⟨G2, r2, (p, .dK []) :: W.pn⟩ : Wd)) (W' := ⟨upd G2 p (.dK vs), r2, W.pn⟩) l4.g l4.r q'
    · exact P.elim
  · exact P.elim
/-- {} -/
def fDsp0 : Fe := fun _ cs => .ok (.dic []) cs
theorem fe_disp0 : FE X cm Y (.Dict [] [] pos) fDsp0 := PE.weak pe_dnewK fun σ H Q ⟨W, σd, cs, R, N, P⟩ => by
  intro p hp
  obtain ⟨le, R2⟩ := R.newG (.dK []) hp
  exact P _ _ _ le R2 (.dic upd_same .nil)
end
end PV

namespace PV
open PySem PySem.Spec PyProof.Rows L2

/-! ### defs called by position alone; defs with *args -/
/-- the def at f, called by position, does what F says -/
def FnP (P : Program) (w : World) (K : PySem.W.Frag) (mg : Str → Option Value) (base : Heap) (cm : Nat → Addr) (k : Nat) (f : Addr) (F : List D → List Cell → Out D) : Prop :=
  ∀ (A : Around) (outer : List Env) (s : Shared) (H : Hp) (us : List Value) (vs : List V) (Q : VK) (E : XK) (W : Wd) (ds : List D) (cs : List Cell),
    Room k A → A.guards = some [] → Env0 P w K mg base A outer s H → Vals vs us → Rel K cm W cs H → Rps K cm W ds vs → PostF K cm W (F ds cs) Q E →
      codeAny (model P w) A (.call (.ref f) ⟨us, []⟩) (CR (L2.CX P w) outer P w H s Q E) s
def runVar (n N : Nat) (fb : Fs) : List D → List Cell → Out D := fun ds cs => if n ≤ ds.length ∧ ds.length ≤ sizeLine then runDef (n + 1) N fb (ds.take n ++ [.tup (ds.drop n)]) cs else .no
section
variable {P : Program} {w : World} {K : PySem.W.Frag} {mg : Str → Option Value} {base : Heap} {cm : Nat → Addr}
theorem PostF.up {W W1 : Wd} (le : W.le W1) {r : Out D} {Q : VK} {E : XK} (h : PostF K cm W r Q E) : PostF K cm W1 r Q E := by
  cases r with
  | ok d cs => exact fun W' H' v l => h W' H' v (le.trans l)
  | ex x cs => exact fun W' H' dd l => h W' H' dd (le.trans l)
  | no => exact h
theorem fn_var {x qual pv : Str} {params : Arguments} {body : List Stmt} {scope : Scope} {kws : List (Str × V)} {f : Addr} {fd : FuncData} {N ps : List Str} {k : Nat} {fb : Fs} (F : FunD K x qual params body scope [] kws f fd) (S : FnScope N (ps ++ [pv]) scope)
    (hbi : ∀ (kV doc pm : Value) (an : Option Addr) (cdv ct : Value) (us rest : List Value), us.length = ps.length → bindArgs (PySem.W.fnOf x qual params body scope .none kV doc pm an cdv ct) ⟨us ++ rest, []⟩ = (newTuple rest >>= fun t => pure (ps.zip us ++ [(pv, t)])))
    (hb : ∀ (cdv : Value) (A : Around) (outer : List Env) (s : Shared) (H : Hp) (E : XK), Room k (A.deeper (envOfC qual scope s.heap.objs.size f cdv)) → (A.deeper (envOfC qual scope s.heap.objs.size f cdv)).guards = some [] →
      FSs (cxOf (L2.CX P w) P w K mg base N qual scope f cdv A outer s H E) cm (yOf E) body fb) : FnP P w K mg base cm (k + 1) f (runVar ps.length N.length fb) := by
  intro A outer s H us vs Q E W ds cs hr hg e0 rv R r h
  unfold runVar at h
  split at h
  · rename_i hn
    obtain ⟨oc, od, dV, kV, doc, pm, an, cdv, ct, osl, rfl, lk, hcd, hD, _⟩ := F.ex
    rcases hD with ⟨_, rfl⟩ | ⟨e, _⟩
    · have hpl : (ps ++ [pv]).length ≤ N.length := by have := congrArg List.length S.pre; rw [List.length_take] at this; omega
      have lv : ds.length = vs.length := r.length
      have hsp : vs = vs.take ps.length ++ vs.drop ps.length := (List.take_append_drop _ _).symm
      rw [hsp] at rv
      obtain ⟨u1, u2, rfl, r1, r2⟩ := StX.vals_split rv
      have l1 : u1.length = ps.length := by rw [← r1.length, List.length_take]; omega
      have l2 : u2.length ≤ sizeLine := by rw [← r2.length, List.length_drop]; omega
      have hn0 : H s.heap.objs.size = Option.none := e0.hok.fresh (Nat.le_refl _)
      refine StX.run_bnd lk hcd S hr e0 (G := fun xs H2 => ∃ p, H p = Option.none ∧ xs = vs.take ps.length ++ [V.ref p] ∧ H2 = upd H p (.tup (vs.drop ps.length))) (fun A' Ex Q' go => ?_) fun s2 H2 xs ⟨p, hp, ex, eH⟩ hr' => ?_
      · rw [hbi kV doc pm an cdv ct u1 u2 l1]
        refine wpAny_bind (wpAny_newTuple (wpAny_pure ?_) l2)
        have new : ObjOk P w (upd H s.heap.objs.size (.tup (vs.drop ps.length))) (s.heap.push ({ cls := .type "tuple", data := .seq u2.toArray } : Obj)) s.heap.objs.size (.tup (vs.drop ps.length)) :=
          ⟨by rw [r2.length]; exact l2, u2, r2, ⟨_, Heap.get?_push_size _ rfl, rfl, _, rfl⟩⟩
        have un := StX.un_laid (fs := frs outer) (s := s) (o := ({ cls := .type "tuple", data := .seq u2.toArray } : Obj)) (u := .tup (vs.drop ps.length)) hn0
        have z := go _ _ (vs.take ps.length ++ [V.ref s.heap.objs.size]) (u1 ++ [Value.ref s.heap.objs.size]) (StX.env0_laid e0 new) un rfl (fun e s' => StX.cxUp outer s H _ _ E e s' un (fun b o q => Heap.get?_push_of_some _ q) rfl) (r1.append (.cons rfl .nil))
          (by rw [List.length_append, List.length_append, List.length_take]; simp; omega) ⟨_, hn0, rfl, rfl⟩
        rw [List.zip_append l1.symm] at z
        exact z
      · subst ex eH
        obtain ⟨le, R2⟩ := R.newG (.tup (vs.drop ps.length)) hp
        have r' : Rps K cm ⟨upd W.G p (.tup (vs.drop ps.length)), W.r, W.pn⟩ (ds.take ps.length ++ [.tup (ds.drop ps.length)]) (vs.take ps.length ++ [V.ref p]) := ((r.up le).take _).app (.cons (.tup upd_same ((r.up le).drop _)) .nil)
        have hl : (ds.take ps.length ++ [D.tup (ds.drop ps.length)]).length = ps.length + 1 := by rw [List.length_append, List.length_take]; simp; omega
        refine ⟨_, hb cdv A outer s2 _ E hr' hg, _, _, cs, R2, start_en r' N (by rw [← r'.length, hl]; simpa using hpl), ?_⟩
        unfold runDef at h
        rw [if_pos hl] at h
        rw [hl]
        have h' : PostF K cm ⟨upd W.G p (.tup (vs.drop ps.length)), W.r, W.pn⟩ _ Q E := PostF.up le h
        exact h'.toS
    · exact absurd rfl e
  · exact h.elim
end
section
variable {X : Cx} {cm : Nat → Addr} {Y : WX} {k c : Nat} {f : Addr} {F : List D → List Cell → Out D}
theorem FnP.of {P : Program} {w : World} {K : PySem.W.Frag} {mg : Str → Option Value} {base : Heap} {fd : FuncData} {ps : List Str} {n l : Nat} {g : List D → List D → List D} (B : FnB P w K mg base cm k f fd ps F) (a : Arg K cm fd ps n [] g) (hl : ps.length = l := by rfl) :
    FnP P w K mg base cm k f (fun ds cs => fnK n 0 l F g ds [] cs) := by
  subst hl
  intro A outer s H us vs Q E W ds cs hr hg e0 rv R r h
  obtain ⟨gv, gV, b1, b2, b3⟩ := a.to
  replace h : PostF K cm W (if ds.length = n ∧ (g ds []).length = ps.length then F (g ds []) cs else .no) Q E := h
  split at h
  · rename_i hl
    have X : K.In s.heap := e0.mod.kin.keeps fun b o e => (e0.bs b o e).1
    refine B A outer s H ⟨us, []⟩ (gv us []) (gV vs []) Q E W (g ds []) cs hr hg e0 ?_ (b2 rv .nil) ?_ R (b3 r .nil) h
    · have := b1 s us [] X (by rw [← rv.length, ← r.length]; exact hl.1) rfl
      exact this
    · rw [← (b3 r .nil).length]; exact hl.2
  · exact h.elim
theorem run_p {pins : List (Addr × Obj)} {s : Shared} {σ : L2.St} {H : Hp} {us : List Value} {vs : List V} {Q : VK} {W : Wd} {ds : List D} {cs : List Cell} {A : Around}
    (B : FnP X.prog X.w X.K X.mg X.base cm k f F) (hr : Room k A) (hg : A.guards = some []) (hA : A.frames = some X.stack) (tk : Takes X Y) (I : Inv X pins σ H s) (r : Vals vs us)
    (R : Rel X.K cm W cs H) (q : Rps X.K cm W ds vs) (h : PostE X.K cm Y σ W (F ds cs) Q) :
    codeAny (model X.prog X.w) A (.call (.ref f) ⟨us, []⟩) (fun r s' => match r with
      | .ok (.ret u) => EP X pins σ Q u s'
      | .ok _ => False
      | .error e => X.xe e s') s := by
  have e0 := I.env0
  have e1 : Env0 X.prog X.w X.K X.mg X.base A X.stack s H := ⟨hA, e0.mod, e0.bs, e0.bsz, e0.funs, e0.frf, e0.hok, e0.bare⟩
  refine codeAny_mono (B A X.stack s H us vs Q _ W ds cs hr hg e1 r R q (PostE.toF h)) fun rr s' hq => ?_
  cases rr with
  | error e => exact tk e s' (XE.of_call I (fun _ _ _ z => z) hq)
  | ok fl =>
    cases fl with
    | ret u => exact I.after hq
    | next => exact hq.elim
    | brk => exact hq.elim
    | cont => exact hq.elim
def posK (F : List D → List Cell → Out D) : Fk := fun ds es cs => match es with
  | [] => F ds cs
  | _ => .no
/-- a def, by position -/
theorem cal_p (B : FnP X.prog X.w X.K X.mg X.base cm k f F) (hr : Room k X.A) (hg : X.A.guards = some []) (tk : Takes X Y) (kp : PySem.W.keepIn X.K (.ref f) = true) : Cal X cm Y (.ref f) [] (posK F) :=
  ⟨kp, fun pins s σ H us ws vs zs Q W ds es cs I r rz hz R q qz h => by
    have ez : zs = [] := List.length_eq_zero_iff.mp hz
    subst ez
    cases rz
    cases qz
    exact wpAny_call (codeAny_mono (run_p B hr hg I.ok.frames tk I r R q h) fun rr s' hq => by
      cases rr with
      | error e => exact hq
      | ok fl => cases fl <;> exact hq)⟩
/-- a class whose __init__ is such a def -/
theorem cal_makeP (fz : Bool) (M : Mk X.K (cm c) f) (B : FnP X.prog X.w X.K X.mg X.base cm k f F) (hr : Room (k + 1) X.A) (hg : X.A.guards = some []) (tk : Takes X Y) : Cal X cm Y (.ref (cm c)) [] (mkK c fz (posK F)) := by
  refine ⟨M.kp, fun pins s σ H us ws vs zs Q W ds es cs I r rz hz R q qz h => ?_⟩
  have ez : zs = [] := List.length_eq_zero_iff.mp hz
  subst ez
  cases rz
  cases qz
  have I2 := Inv.made (C := cm c) I
  have R1 := R.junk (p := s.heap.objs.size) (o := .own (s.heap.objs.size + 1)) (I.hok.fresh (Nat.le_refl _))
  have hf : upd H s.heap.objs.size (.own (s.heap.objs.size + 1)) (s.heap.objs.size + 1) = none := by
    rw [upd_ne (Nat.succ_ne_self _)]
    exact I.hok.fresh (Nat.le_succ _)
  obtain ⟨le, R2, e⟩ := R1.newC (c := .ins c []) (o := .ins (cm c) s.heap.objs.size []) hf ⟨rfl, _, _, rfl, .nil⟩
  refine wpAny_call (make_map (f := f) I.kIn M.makes M.init (beq_iff_eq.mp M.fn) (codeAny_mono (run_p (A := X.A.under (.builtin "type.__call__" ⟨.ref (cm c) :: us, []⟩)) (us := .ref (s.heap.objs.size + 1) :: us) (vs := .ref (s.heap.objs.size + 1) :: vs) (Y := Y)
    (ds := .ref cs.length :: ds) (Q := fun v H2 => v = .non ∧ Q (.ref (s.heap.objs.size + 1)) H2) B (hr.make (cm c) us []) ?_ ?_ tk I2 (.cons rfl r) R2 (.cons (.ref e) (q.up le)) ?_) fun rr s' hq => ?_))
  · first
      | exact hg
      | (simp [Around.under, Code.guards, Code.isGuard, guardIds, pushGuards, hg])
  · have := (I.env0.make (cm c) us []).frames
    exact this
  · unfold mkK at h
    cases q1 : posK F (.ref cs.length :: ds) [] (cs ++ [.ins c []]) with
    | no => rw [q1] at h; exact h.elim
    | ex x c1 =>
      have q1' : F (.ref cs.length :: ds) (cs ++ [.ins c []]) = .ex x c1 := q1
      rw [q1']
      rw [q1] at h; exact Wish.up le h
    | ok d c1 =>
      have q1' : F (.ref cs.length :: ds) (cs ++ [.ins c []]) = .ok d c1 := q1
      rw [q1']
      rw [q1] at h
      intro W' H' v l R' r'
      cases r' with
      | non =>
        refine ⟨rfl, ?_⟩
        have h' : PostE X.K cm Y σ W (if fz = true then PV.up (frzD (.ref cs.length) c1) else .ok (.ref cs.length) c1) Q := h
        cases fz with
        | true =>
          rw [if_pos rfl] at h'
          exact frz_go R' (.ref (l.r _ _ e)) ((PostE.down h').up (le.trans l))
        | false =>
          rw [if_neg Bool.false_ne_true] at h'
          exact h' W' H' _ (le.trans l) R' (.ref (l.r _ _ e))
      | _ => exact h.elim
  · cases rr with
    | error e => exact hq
    | ok fl =>
      cases fl with
      | ret u =>
        obtain ⟨v, H', I3, rv, ev, q3⟩ := hq
        subst ev
        exact ⟨rv, ⟨.ref (s.heap.objs.size + 1), H', I3, rfl, q3⟩⟩
      | next => exact hq
      | brk => exact hq
      | cont => exact hq
end
/-! ### star calls; class methods -/
def strO (F : Fk) (d : D) (c : List Cell) : Out D := match seqOf c d with
  | some xs => F xs [] c
  | none => .no
/-- cls(*e), cls a local name that holds the class c -/
def fStarL (i c : Nat) (F : Fk) (fe : Fe) : Fe := fun σ cs => match σ[i]? with
  | some (some (.cl c')) => if c' = c then (fe σ cs).bind fun d c1 => strO F d c1 else .no
  | _ => .no
def fStarG (F : Fk) (fe : Fe) : Fe := fun σ cs => (fe σ cs).bind fun d c1 => strO F d c1
/-- C.m(e, ..), a class method -/
def fCMeth (c : Nat) (F : List D → List Cell → Out D) (fo : Fe) (ga : Fa) : Fe := fun σ cs => (fo σ cs).bind fun d c1 => match d with
  | .cl c' => if c' = c then (ga σ c1).bind fun ds c2 => F (.cl c :: ds) c2 else .no
  | _ => .no
section
variable {X : Cx} {cm : Nat → Addr} {Y : WX} {k i c : Nat} {F : Fk} {x : Str} {e o : Expr} {es : List Expr} {fe fo : Fe} {ga : Fa} {p sp pos apos : Pos} {v : Value}
theorem star_go {pins : List (Addr × Obj)} {s : Shared} {σ : L2.St} {H : Hp} {Q : VK} {W : Wd} {d : D} {c1 : List Cell} {u : Value} {y : V} (cl : Cal X cm Y v [] F) (I : Inv X pins σ H s) (ry : RelV y u) (R : Rel X.K cm W c1 H) (r : Rp X.K cm W d y) (h : PostE X.K cm Y σ W (strO F d c1) Q) :
    PySem.W.StarOf (model X.prog X.w) X.A X.xe u (fun vs s₂ => X.K.In s₂.heap ∧ wpAny (model X.prog X.w) X.A (call v ([] ++ vs)) (EP X pins σ Q) X.xe s₂) s := by
  unfold strO at h
  split at h
  · rename_i xs ex
    obtain ⟨a, vs, rfl, hq, rr⟩ := seq_of R r ex
    obtain rfl : u = Value.ref a := ry
    exact StX.star_any I hq.symm fun us s2 I2 rv => ⟨I2.kIn, cl.run pins s2 σ H us [] vs [] Q W xs [] c1 I2 rv .nil rfl R rr .nil h⟩
  · exact h.elim
theorem fe_starG (cl : Cal X cm Y v [] F) (hm : X.mg x = some v) (he : FE X cm Y e fe) (hg : Gl X x := by rfl) (hdb : (x == ("__debug__" : Str)) = false := by decide) (hst : starEach [.Starred e sp] X.env = [(true, eval e X.env)] := by rfl) :
    FE X cm Y (.Call (.Name x p) [.Starred e sp] [] pos) (fStarG F fe) := by
  refine ⟨fun pins s σ H Q I ⟨W, σd, cs, R, N, P⟩ => ?_⟩
  refine wpAny_Call_Name_kw (ld_glob I hg hm ?_ hdb)
  refine PySem.W.callWith_S (h₀ := X.base) I.ok.mod.kin cl.kp (thn (he.run pins s σ H _ I (tE_go (Q := fun y H1 => ∃ W1 d c1, Rel X.K cm W1 c1 H1 ∧ Rp X.K cm W1 d y ∧ PostE X.K cm Y σ W1 (strO F d c1) Q) R N asksE P fun d c1 _ h1 W1 H1 y l1 R1 N1 r1 => ⟨W1, d, c1, R1, r1, h1.up l1⟩)) fun u s1 ⟨y, H1, I1, ry, W1, d, c1, R1, r1, h1⟩ => ?_) hst
  exact star_go cl I1 ry R1 r1 h1
theorem fe_starL (cl : Cal X cm Y (.ref (cm c)) [] F) (hN : X.N[i]? = some x) (hv : Vis X.env.scope x) (he : FE X cm Y e fe) (hdb : (x == ("__debug__" : Str)) = false := by decide) (hcd : (x == ("__classdict__" : Str)) = false := by decide)
    (hst : starEach [.Starred e sp] X.env = [(true, eval e X.env)] := by rfl) : FE X cm Y (.Call (.Name x p) [.Starred e sp] [] pos) (fStarL i c F fe) := by
  refine ⟨fun pins s σ H Q I ⟨W, σd, cs, R, N, P⟩ => ?_⟩
  unfold fStarL at P
  split at P
  · rename_i c' hi
    split at P
    · rename_i hc
      subst hc
      obtain ⟨w, hw, rw0⟩ := N.at_ i _ hi
      cases rw0
      refine wpAny_Call_Name_kw (thn ((pe_var (pos := p) hN hv hdb hcd).run pins s σ H (fun v H1 => v = .ref (cm c') ∧ H1 = H) I ⟨.ref (cm c'), hw, rfl, rfl⟩) fun u s1 ⟨v, H1, I1, r1, q1⟩ => ?_)
      obtain ⟨rfl, rfl⟩ := q1
      obtain rfl : u = Value.ref (cm c') := r1
      refine PySem.W.callWith_S (h₀ := X.base) I.ok.mod.kin cl.kp (thn (he.run pins s1 σ _ _ I1 (tE_go (Q := fun y H1 => ∃ W1 d c1, Rel X.K cm W1 c1 H1 ∧ Rp X.K cm W1 d y ∧ PostE X.K cm Y σ W1 (strO F d c1) Q) R N asksE P fun d c1 _ h1 W1 H1 y l1 R1 N1 r1 => ⟨W1, d, c1, R1, r1, h1.up l1⟩)) fun u s1 ⟨y, H1, I1, ry, W1, d, c1, R1, r1, h1⟩ => ?_) hst
      exact star_go cl I1 ry R1 r1 h1
    · exact P.elim
  · exact P.elim
theorem fe_cmeth {g q : Addr} {mc : Value} {m : Str} {G : List D → List Cell → Out D} {pl : Sem Bool} (ho : FE X cm Y o fo) (r : ClX.CRead X.K (cm c) mc) (cc : ClX.CMet X.K (cm c) mc m q g) (B : FnP X.prog X.w X.K X.mg X.base cm k g G) (hr : Room k X.A) (hg : X.A.guards = some []) (tk : Takes X Y) (ha : FA X cm Y (e :: es) ga)
    (hst : starEach (e :: es) X.env = (false, eval e X.env) :: starEach es X.env := by rfl) (hpl : (backTo pos (starEach es X.env)).any (·.1) = false := by rfl)
    (ht : eval (.Call (.Attribute o m apos) (e :: es) [] pos) X.env = (do
      let ov ← eval o X.env
      standAt apos.atName
      let (f, first) ← holding [ov] (getMethod ov m pl)
      callWith pos f first (backTo pos (starEach (e :: es) X.env)) (backToKw pos (keywordEach [] X.env))) := by rfl) :
    FE X cm Y (.Call (.Attribute o m apos) (e :: es) [] pos) (fCMeth c G fo ga) := by
  refine ⟨fun pins s σ H Q I ⟨W, σd, cs, R, N, P⟩ => ?_⟩
  refine PySem.W.methodCall_KW (pl := pl) (thn (ho.run pins s σ H _ I (tE_go (Q := fun x H1 => x = .ref (cm c) ∧ ∃ W1 c1, Rel X.K cm W1 c1 H1 ∧ En X.K cm W1 σd σ ∧ PostE X.K cm Y σ W1 ((ga σd c1).bind fun ds c2 => G (.cl c :: ds) c2) Q) R N asksE P fun d c1 _ h1 W1 H1 y l1 R1 N1 r1 => ?_)) fun u s1 ⟨x, H1, I1, rx, ex, W1, c1, R1, N1, h1⟩ => ?_) ht
  · split at h1
    · split at h1
      · rename_i c' hc
        subst hc
        cases r1
        exact ⟨rfl, W1, c1, R1, N1, h1.up l1⟩
      · exact h1.elim
    · exact h1.elim
  · subst ex
    obtain rfl : u = Value.ref (cm c) := rx
    refine ClX.getmethcm_ok I1 r cc fun s2 I2 => ?_
    have t := tA_go (Q := fun vs H2 => ∃ W2 ds c2, Rel X.K cm W2 c2 H2 ∧ Rps X.K cm W2 ds vs ∧ PostE X.K cm Y σ W2 (G (.cl c :: ds) c2) Q) R1 N1 asksE h1 fun d2 c2 _ h2 W2 H2 v2 l2 R2 E2 r2 => ⟨W2, d2, c2, R2, r2, h2.up l2⟩
    refine ClX.callwith_cm I2 (ClX.base_none I1 (Nat.le_refl _)) cc.fi (thn (ha.run pos _ s2 σ H1 _ I2 t) fun us s3 ⟨vs, H2, I3, rv, W2, ds, c2, R2, r2, h2⟩ => ⟨⟨ClX.pin_at I3, I3.kIn⟩, ?_⟩) hst hpl
    have z : wpAny (model X.prog X.w) X.A (call (.ref s1.heap.objs.size) us) (EP X ((s1.heap.objs.size, PySem.W.methodObj (.ref g) (.ref (cm c))) :: pins) σ Q) X.xe s3 :=
      wpAny_call (PySem.W.method_call (ClX.pin_at I3) (codeAny_mono (run_p (us := .ref (cm c) :: us) (vs := .ref (cm c) :: vs) B hr hg I3.ok.frames tk I3 (.cons rfl rv) R2 (.cons (.cl c) r2) h2) fun rr s' hq => by
        cases rr with
        | error e => exact hq
        | ok fl => cases fl <;> exact hq))
    exact thn z fun _ _ y => ClX.unpinE y
end
end PV

namespace PV
open PySem PySem.Spec PyProof.Rows L2

/-! ### own + and own len -/
/-- a class with the def m (of the text) at f -/
structure OwnM (K : PySem.W.Frag) (cm : Nat → Addr) (c : Nat) (m : Str) (f : Addr) : Prop where
  at_ : PySem.W.findIn K (.ref (cm c)) m = some (some (.ref f))
  fn : PySem.W.isFn K (.ref f) = true
/-- x op y, both instances of class c, by F -/
def dOwn2 (c : Nat) (F : List D → List Cell → Out D) : G2 := fun x y cs => match insOf cs x, insOf cs y with
  | some (c', _), some (c2, _) => if c' = c ∧ c2 = c then match F [x, y] cs with
    | .ok d cs' => some (d, cs')
    | _ => none
    else none
  | _, _ => none
def dOwnLen (c : Nat) (F : List D → List Cell → Out D) : GC := fun ds cs => match ds with
  | [x] => match insOf cs x with
    | some (c', _) => if c' = c then match F [x] cs with
      | .ok (.int n) cs' => if 0 ≤ n ∧ n < 2 ^ 63 then some (.int n, cs') else none
      | _ => none
      else none
    | none => none
  | _ => none
section
variable {X : Cx} {cm : Nat → Addr} {k c : Nat} {f : Addr} {F : List D → List Cell → Out D}
theorem cmp_back {Q : Value → Shared → Prop} {z : V} {u : Value} {s' : Shared} {K : PySem.W.Frag} {W : Wd} {d : D} (rd : Rp K cm W d z) (r : RelV z u) (h : Q u s') : PySem.W.CmpBack Q u s' := by
  cases rd with
  | non => cases (show u = Value.none from r); exact h
  | bl b => cases (show u = Value.bool b from r); exact h
  | int b => obtain ⟨t, q⟩ := (show ∃ t, u = Value.int b t from r); cases q; exact h
  | str b => obtain ⟨t, q⟩ := (show ∃ t, u = Value.str b t from r); cases q; exact h
  | @tup _ a _ _ _ => cases (show u = Value.ref a from r); exact h
  | @lst _ a _ _ _ => cases (show u = Value.ref a from r); exact h
  | @arg _ a _ _ _ => cases (show u = Value.ref a from r); exact h
  | @argT _ a _ _ _ => cases (show u = Value.ref a from r); exact h
  | @dic _ a _ _ _ => cases (show u = Value.ref a from r); exact h
  | @ins _ _ a _ _ _ _ => cases (show u = Value.ref a from r); exact h
  | @ref _ a _ => cases (show u = Value.ref a from r); exact h
  | cl c => cases (show u = Value.ref (cm c) from r); exact h
  | @exn _ a _ => cases (show u = Value.ref a from r); exact h
  | ty n => cases (show u = Value.type n from r); exact h
theorem op_own2 {op : Operator} (O : OwnM X.K cm c (PySem.dunder op.info.2) f) (sf : PySem.W.selfFirst X.K (cm c) = true) (B : FnP X.prog X.w X.K X.mg X.base cm k f F) (hr : Room k X.A) (hg : X.A.guards = some []) :
    OpR X (binaryOp op) (rO2 X.K cm (dOwn2 c F)) := by
  intro pins s σ H x y v u Q I rx ry ⟨W, dx, dy, cs, R, r1, r2, P⟩
  unfold dOwn2 at P
  split at P
  · rename_i c' fs c2 fs2 e1 e2
    split at P
    · rename_i hc
      obtain ⟨rfl, rfl⟩ := hc
      split at P
      · rename_i d cs' e3
        obtain ⟨p, dd, vs, rfl, h2, q⟩ := ins_of R r1 e1
        obtain ⟨p2, dd2, vs2, rfl, h3, q2⟩ := ins_of R r2 e2
        obtain rfl : v = Value.ref p := rx
        obtain rfl : u = Value.ref p2 := ry
        obtain ⟨mA, J, _⟩ := ins_get I.hok h2
        obtain ⟨od, J, _⟩ := J.look
        obtain ⟨mB, J', _⟩ := ins_get I.hok h3
        obtain ⟨od', J', _⟩ := J'.look
        obtain ⟨m, hF⟩ := I.fr
        refine PySem.W.binop_K hF I.ok.mod.kin J J'.type sf O.at_ O.fn ?_
        refine wpAny_call (codeAny_mono (run_p (Y := yNo) (us := [.ref p, .ref p2]) (vs := [.ref p, .ref p2]) (Q := fun z H' => (∃ (W' : Wd) (d : D), Rp X.K cm W' d z) ∧ Q z H') B hr hg I.ok.frames tkNo I (.cons rfl (.cons rfl .nil)) R (.cons r1 (.cons r2 .nil)) ?_) fun rr s' hq => ?_)
        · rw [e3]
          intro W' H' z l R' r'
          exact ⟨⟨W', d, r'⟩, (P.up l).here R' r'⟩
        · cases rr with
          | error e => exact hq
          | ok fl =>
            cases fl with
            | ret z =>
              obtain ⟨z', H', I', rz, ⟨W', d', rd⟩, hq⟩ := hq
              exact cmp_back rd rz ⟨z', H', I', rz, hq⟩
            | next => exact hq
            | brk => exact hq
            | cont => exact hq
      · exact absurd rfl P.ne
    · exact absurd rfl P.ne
  · exact absurd rfl P.ne
theorem call_ownLen (O : OwnM X.K cm c "__len__" f) (B : FnP X.prog X.w X.K X.mg X.base cm k f F) (hr : Room (k + 1) X.A) (hg : X.A.guards = some []) : CallR X (.builtin "len") (rCa X.K cm (dOwnLen c F)) := by
  intro pins s σ H xs us Q I rx ⟨W, ds, cs, R, r, P⟩
  unfold dOwnLen at P
  split at P
  · rename_i x
    split at P
    · rename_i c' fs e1
      split at P
      · rename_i hc
        subst hc
        split at P
        · rename_i n cs' e3
          split at P
          · rename_i hn
            obtain ⟨v, rfl, r1⟩ := r.one
            obtain ⟨p, dd, vs, rfl, h2, q⟩ := ins_of R r1 e1
            cases rx with
            | cons a b =>
              cases b
              rename_i u
              obtain rfl : u = Value.ref p := a
              obtain ⟨mA, J, _⟩ := ins_get I.hok h2
              obtain ⟨od, J, _⟩ := J.look
              obtain ⟨m, hF⟩ := I.fr
              refine PySem.W.len_K hF I.ok.mod.kin J O.at_ O.fn ?_
              refine wpAny_call (codeAny_mono (run_p (Y := yNo) (A := X.A.in1) (us := [.ref p]) (vs := [.ref p]) (Q := fun z H' => z = .int n ∧ Q z H') B hr.in1 hg I.ok.frames tkNo I (.cons rfl .nil) R (.cons r1 .nil) ?_) fun rr s' hq => ?_)
              · rw [e3]
                intro W' H' z l R' r'
                cases r'
                exact ⟨rfl, (P.up l).here R' (.int n)⟩
              · cases rr with
                | error e => exact hq
                | ok fl =>
                  cases fl with
                  | ret z =>
                    obtain ⟨z', H', I', rz, rfl, hq⟩ := hq
                    obtain ⟨t, rfl⟩ := (show ∃ t, z = Value.int n t from rz)
                    exact ⟨hn, .int n, H', I'.tok _, ⟨_, rfl⟩, hq⟩
                  | next => exact hq
                  | brk => exact hq
                  | cont => exact hq
          · exact absurd rfl P.ne
        · exact absurd rfl P.ne
      · exact absurd rfl P.ne
    · exact absurd rfl P.ne
  · exact absurd rfl P.ne
def gcAlt (g g' : GC) : GC := fun ds cs => match g ds cs with
  | some r => some r
  | none => g' ds cs
theorem call_alt {id : Value} {g g' : GC} (h : CallR X id (rCa X.K cm g)) (h' : CallR X id (rCa X.K cm g')) : CallR X id (rCa X.K cm (gcAlt g g')) := by
  intro pins s σ H xs us Q I rx ⟨W, ds, cs, R, r, P⟩
  unfold gcAlt at P
  cases q : g ds cs with
  | some z =>
    rw [q] at P
    exact h pins s σ H xs us Q I rx ⟨W, ds, cs, R, r, by rw [q]; exact P⟩
  | none =>
    rw [q] at P
    exact h' pins s σ H xs us Q I rx ⟨W, ds, cs, R, r, P⟩
end
end PV

namespace PV
open PySem PySem.SeqAt GQ
open AutoSeq1 (wpAny_loadPart')
open MeetsSeq MeetsSeq2 MeetsSeq3 SeqRoads2
section
variable {prog : Program} {w : World} {A : Around} {R : Result → Shared → Prop}
/-- two tuples compared: at each turn the two items' == says r; the first False ends it -/
theorem tuple_eqF (l b : Addr) (items items2 : Array Value) (n n2 : Nat) (dd dd2 : Option Addr) (sl sl2 : Array (Option Value)) (I : Nat → Shared → Prop)
    (turn : ∀ i (h1 : i < items.size) (h2 : i < items2.size) s, I i s → wpAny (model prog w) A.in1 (eqBool items[i] items2[i]) (fun r s' => (r = true ∧ I (i + 1) s') ∨ (r = false ∧ R (.ok (.ret (.bool false))) s')) (fun e s' => R (.error e) s') s)
    (fin : ∀ s, I (min items.size items2.size) s → R (.ok (.ret (.bool (items.size == items2.size)))) s) {s : Shared} (hl1 : s.heap.get? l = some { cls := .type "tuple", dict := dd, data := .seq items n, slots := sl }) (hb1 : s.heap.get? b = some { cls := .type "tuple", dict := dd2, data := .seq items2 n2, slots := sl2 }) (h : I 0 s) :
    wpAny (model prog w) A.in1 (Builtin.«tuple.__eq__» ⟨[.ref l, .ref b], []⟩) (FinOf prog w A R) (fun e s' => R (.error e) s') s := by
  have f2 := AutoSeq1.sub_tuple_tuple
  have hZ : (items.toList.zip items2.toList).length = min items.size items2.size := by simp
  have h0 := h
  obtain ⟨hp, g, d, tk, os⟩ := s
  wp_walk using wpAny_loadPart' hl1, wpAny_loadPart' hb1, wpAny_forIn_list _ (fun rest b s' => b.1 = none ∧ ∃ i, rest = (items.toList.zip items2.toList).drop i ∧ i ≤ min items.size items2.size ∧ I i s') _
  case turn =>
    rintro ⟨y, x⟩ rest b s' ⟨hb', i, hz, hi, hI⟩
    have hlt : i < (items.toList.zip items2.toList).length := by
      rcases Nat.lt_or_ge i (items.toList.zip items2.toList).length with h' | h'
      · exact h'
      · rw [List.drop_of_length_le h'] at hz; cases hz
    have h1 : i < items.size := by omega
    have h2 : i < items2.size := by omega
    rw [List.drop_eq_getElem_cons hlt] at hz
    injection hz with hyx hrest
    have hy : y = items[i] := by have := congrArg Prod.fst hyx; simpa using this
    have hx : x = items2[i] := by have := congrArg Prod.snd hyx; simpa using this
    subst hy hx
    refine wpAny_bind (wpAny_mono (turn i h1 h2 s' hI) (fun r s2 q2 => ?_) fun _ _ x => x)
    rcases q2 with ⟨hr, q2⟩ | ⟨hr, q2⟩
    · subst hr
      wp_walk
      exact ⟨rfl, i + 1, hrest, by omega, q2⟩
    · subst hr
      wp_walk
      exact q2
  case fin =>
    rintro ⟨b1, b2⟩ s' ⟨hb', i, hz, hi, hI⟩
    simp only at hb'
    subst hb'
    have hge : min items.size items2.size ≤ i := by
      rcases Nat.lt_or_ge i (items.toList.zip items2.toList).length with h' | h'
      · rw [List.drop_eq_getElem_cons h'] at hz; cases hz
      · exact hZ ▸ h'
    have hi' : i = min items.size items2.size := by omega
    have hR : R (.ok (.ret (.bool (items.size == items2.size)))) s' := fin s' (hi' ▸ hI)
    wp_walk
    simpa [Builtin.Tuple.tupleCompareSizes] using hR
  case h =>
    exact ⟨rfl, 0, rfl, Nat.zero_le _, h0⟩
end
section
variable {prog : Program} {w : World} {A : Around} {E : Value → Shared → Prop} {s : Shared}
/-- == of two tuples -/
theorem rc_tupF {l b : Addr} {items items2 : Array Value} {Q : Value → Shared → Prop} (hu : A.units < cLine) (I : Nat → Shared → Prop) (hl : s.heap.IsTuple l items) (hb : s.heap.IsTuple b items2)
    (turn : ∀ i (h1 : i < items.size) (h2 : i < items2.size) s, I i s → wpAny (model prog w) A.in1 (eqBool items[i] items2[i]) (fun r s' => (r = true ∧ I (i + 1) s') ∨ (r = false ∧ Q (.bool false) s')) E s)
    (fin : ∀ s, I (min items.size items2.size) s → Q (.bool (items.size == items2.size)) s) (h : I 0 s) : wpAny (model prog w) A (richCompare .Eq (.ref l) (.ref b)) Q E s := by
  obtain ⟨⟨cls, dd, data, sl⟩, ho, hc, n, hd⟩ := id hl
  obtain ⟨⟨cls2, dd2, data2, sl2⟩, ho2, hc2, n2, hd2⟩ := id hb
  simp only at hc hd hc2 hd2
  subst hc hd hc2 hd2
  refine wpAny_richCompare_same_room (op := .Eq) ⟨_, ho, rfl⟩ ⟨_, ho2, rfl⟩ F.slot_tuple_eq (call_here F.slot_tuple_eq ⟨_, ho, rfl⟩ F.entry_tuple_eq (F.args_tuple_eq_2 _ _) ?_) hu
  exact tuple_eqF (R := wants (fun v s' => v ≠ .notImplemented ∧ Q v s') E) l b items items2 n n2 dd dd2 sl sl2 I
    (fun i h1 h2 s hI => wpAny_mono (turn i h1 h2 s hI) (fun r s' q => q.elim (fun q => .inl q) fun q => .inr ⟨q.1, (fun x => nomatch x), q.2⟩) fun _ _ x => x) (fun s' q => ⟨(fun x => nomatch x), fin s' q⟩) ho ho2 h
end
end PV

namespace PV
open PySem PySem.Spec PyProof.Rows L2
/-! ### flat data are determined by their values -/
def flat1 : D → Bool
  | .non | .bl _ | .int _ | .str _ => true
  | _ => false
def flatI (n : Nat) : D → Bool
  | .non | .bl _ | .int _ | .str _ => true
  | .ins c fs => decide (c < n) && fs.all fun p => flat1 p.2
  | _ => false
section
variable {K : PySem.W.Frag} {cm : Nat → Addr} {W : Wd}
theorem flat_det {d d' : D} {v : V} (h : flat1 d = true) (h' : flat1 d' = true) (r : Rp K cm W d v) (r' : Rp K cm W d' v) : d = d' := by
  cases d <;> simp [flat1] at h <;> cases d' <;> simp [flat1] at h' <;> cases r <;> cases r' <;> rfl
theorem flats_det : ∀ {fs fs' : List (Str × D)} {vs : List (Str × V)}, (fs.all fun p => flat1 p.2) = true → (fs'.all fun p => flat1 p.2) = true → Rpf K cm W fs vs → Rpf K cm W fs' vs → fs = fs'
  | _, _, _, _, _, .nil, .nil => rfl
  | _, _, _, h, h', .cons a t, .cons b u => by
    simp only [List.all_cons, Bool.and_eq_true] at h h'
    rw [flat_det h.1 h'.1 a b, flats_det h.2 h'.2 t u]
theorem flatI_det {n : Nat} (inj : ∀ c c', c < n → c' < n → cm c = cm c' → c = c') {d d' : D} {v : V} (h : flatI n d = true) (h' : flatI n d' = true) (r : Rp K cm W d v) (r' : Rp K cm W d' v) : d = d' := by
  cases d <;> simp [flatI] at h <;> cases d' <;> simp [flatI] at h' <;> cases r <;> cases r' <;> first | rfl | skip
  rename_i c fs c' fs' a dx vs g q dx' vs' q' g'
  rw [g] at g'
  have e := Option.some.inj g'
  injection e with e1 e2 e3
  have ec := inj c c' h.1 h'.1 e1
  subst ec e3
  have hf : (fs.all fun p => flat1 p.2) = true := by rw [List.all_eq_true]; exact fun p hp => h.2 p.1 p.2 hp
  have hf' : (fs'.all fun p => flat1 p.2) = true := by rw [List.all_eq_true]; exact fun p hp => h'.2 p.1 p.2 hp
  rw [flats_det hf hf' q q']
end
end PV

namespace PV
open PySem PySem.Spec PyProof.Rows L2

/-! ### xs[::-1]; class constants; class methods by keyword -/
def fRev (fz : Bool) (f : Fe) : Fe := fun σ cs => (f σ cs).bind fun d c => match lstOf c d with
  | some xs => up (mkL fz xs.reverse c)
  | none => .no
/-- e.f, f a constant of the class c of e -/
def fCon (c : Nat) (f : Str) (dv : D) (fo : Fe) : Fe := fun σ cs => (fo σ cs).bind fun d c1 => match insOf c1 d with
  | some (c', fs) => if c' = c ∧ fs.lookup f = none then .ok dv c1 else .no
  | none => .no
/-- C.f -/
def fCVal (c : Nat) (dv : D) (fo : Fe) : Fe := fun σ cs => (fo σ cs).bind fun d c1 => match d with
  | .cl c' => if c' = c then .ok dv c1 else .no
  | _ => .no
def fCMethK (c m : Nat) (F : Fk) (fo : Fe) (gk : Fa) : Fe := fun σ cs => (fo σ cs).bind fun d c1 => match d with
  | .cl c' => if c' = c then (gk σ c1).bind fun es c2 => if es.length = m then F [.cl c] es c2 else .no else .no
  | _ => .no
section
variable {X : Cx} {cm : Nat → Addr} {Y : WX} {k c : Nat} {f : Fe} {fo : Fe} {gk : Fa} {e o : Expr} {pos apos : Pos} {kws : List Keyword} {ks : List Str} {nm m : Str} {v : V} {u mc : Value} {dv : D}
theorem fe_rev (fz : Bool) {j : Nat} {p1 p2 p3 : Pos} (he : FE X cm Y e f) : FE X cm Y (.Subscript e (.Slice none none (some (.UnaryOp .USub (.Constant (.int 1) j p1) p2)) p3) pos) (fRev fz f) := PE.weak (pe_revL he) fun σ H Q ⟨W, σd, cs, R, N, P⟩ => by
  refine tE_go R N asksE P fun d c1 _ h1 W1 H1 v l1 R1 N1 r1 => ?_
  split at h1
  · rename_i xs ex
    obtain ⟨a, vs, rfl, h2, q⟩ := lst_of R1 r1 ex
    exact ⟨a, vs, rfl, SqL.of h2, ((PostE.down h1).up l1).mkL R1 q.rev⟩
  · exact h1.elim
theorem fe_con (he : FE X cm Y e fo) (hc : Cls X.K (cm c)) (k : ∃ u, Con X.K (cm c) nm v u) (rd : ∀ W, Rp X.K cm W dv v) (hb : attributeBase e nm X.env (eval e X.env) = eval e X.env := by rfl) : FE X cm Y (.Attribute e nm pos) (fCon c nm dv fo) := PE.weak (pe_con he hb) fun σ H Q ⟨W, σd, cs, R, N, P⟩ => by
  obtain ⟨u, k⟩ := k
  refine tE_go R N asksE P fun d c1 _ h1 W1 H1 y l1 R1 N1 r1 => ?_
  split at h1
  · rename_i c' fs e1
    split at h1
    · rename_i hc2
      obtain ⟨rfl, hl⟩ := hc2
      obtain ⟨x, dx, vs, rfl, h2, q⟩ := ins_of R1 r1 e1
      exact ⟨x, _, dx, vs, v, u, rfl, h2, hc, k, q.look_none hl, (h1.up l1).here R1 (rd _)⟩
    · exact h1.elim
  · exact h1.elim
theorem fe_cval (he : FE X cm Y e fo) (r : ClX.CRead X.K (cm c) mc) (k : ∃ u, ClX.CVal X.K (cm c) mc nm v u) (rd : ∀ W, Rp X.K cm W dv v) (hb : attributeBase e nm X.env (eval e X.env) = eval e X.env := by rfl) : FE X cm Y (.Attribute e nm pos) (fCVal c dv fo) := PE.weak (ClX.pe_cval he hb) fun σ H Q ⟨W, σd, cs, R, N, P⟩ => by
  obtain ⟨u, k⟩ := k
  refine tE_go R N asksE P fun d c1 _ h1 W1 H1 y l1 R1 N1 r1 => ?_
  split at h1
  · split at h1
    · rename_i c' hc
      subst hc
      cases r1
      exact ⟨_, mc, v, u, rfl, r, k, (h1.up l1).here R1 (rd _)⟩
    · exact h1.elim
  · exact h1.elim
open PySem.W in
theorem callWith_MK0 {M : Model} {A : Around} {E : Value → Shared → Prop} {s : Shared} {K : PySem.W.Frag} {env : Env} {first : List Value} {Q : Value → Shared → Prop} {q g : Addr} {self : Value} (hf : fnIn K g = true) (hall : (backToKw pos (keywordEach kws env)).all (·.1.isSome) = true)
    (h : wpAny M A (evalAll ((backToKw pos (keywordEach kws env)).map (·.2))) (fun ks s₂ => MethP K q g self s₂.heap ∧ wpAny M A (call (.ref q) (first ++ []) (((backToKw pos (keywordEach kws env)).filterMap (·.1)).zip ks)) Q E s₂) E s)
    (hplain : ((backTo pos (starEach [] env)).any (·.1) || (backToKw pos (keywordEach kws env)).any (·.1.isNone)) = false := by rfl) :
    wpAny M A (callWith pos (.ref q) first (backTo pos (starEach [] env)) (backToKw pos (keywordEach kws env))) Q E s :=
  callWith_of hplain (keeps_M hf) (evalArgs_kw2_nil hall h)
theorem fe_cmethK {g q : Addr} {fd : FuncData} {ps : List Str} {F : List D → List Cell → Out D} {ga : List D → List D → List D} {pl : Sem Bool} {n l : Nat} (ho : FE X cm Y o fo) (r : ClX.CRead X.K (cm c) mc) (cc : ClX.CMet X.K (cm c) mc m q g)
    (B : FnB X.prog X.w X.K X.mg X.base cm k g fd ps F) (a : Arg X.K cm fd ps 1 ks ga) (hr : Room k X.A) (hg : X.A.guards = some []) (tk : Takes X Y) (hk : FKw X cm Y kws gk) (hm : ks.length = n := by rfl) (hl : ps.length = l := by rfl)
    (hall : (backToKw pos (keywordEach kws X.env)).all (·.1.isSome) = true := by rfl) (hks : (backToKw pos (keywordEach kws X.env)).filterMap (·.1) = ks := by rfl)
    (hpl : ((backTo pos (starEach [] X.env)).any (·.1) || (backToKw pos (keywordEach kws X.env)).any (·.1.isNone)) = false := by rfl)
    (ht : eval (.Call (.Attribute o m apos) [] kws pos) X.env = (do
      let ov ← eval o X.env
      standAt apos.atName
      let (f, first) ← holding [ov] (getMethod ov m pl)
      callWith pos f first (backTo pos (starEach [] X.env)) (backToKw pos (keywordEach kws X.env))) := by rfl) :
    FE X cm Y (.Call (.Attribute o m apos) [] kws pos) (fCMethK c n (fnK 1 n l F ga) fo gk) := by
  subst hm hl
  refine ⟨fun pins s σ H Q I ⟨W, σd, cs, R, N, P⟩ => ?_⟩
  refine PySem.W.methodCall_KW (pl := pl) (thn (ho.run pins s σ H _ I (tE_go (Q := fun x H1 => x = .ref (cm c) ∧ ∃ W1 c1, Rel X.K cm W1 c1 H1 ∧ En X.K cm W1 σd σ ∧ PostE X.K cm Y σ W1 ((gk σd c1).bind fun es c2 => if es.length = ks.length then fnK 1 ks.length ps.length F ga [.cl c] es c2 else .no) Q) R N asksE P fun d c1 _ h1 W1 H1 y l1 R1 N1 r1 => ?_)) fun u s1 ⟨x, H1, I1, rx, ex, W1, c1, R1, N1, h1⟩ => ?_) ht
  · split at h1
    · split at h1
      · rename_i c' hc
        subst hc
        cases r1
        exact ⟨rfl, W1, c1, R1, N1, h1.up l1⟩
      · exact h1.elim
    · exact h1.elim
  · subst ex
    obtain rfl : u = Value.ref (cm c) := rx
    refine ClX.getmethcm_ok I1 r cc fun s2 I2 => ?_
    have t := tA_go (Q := fun zs H2 => ∃ W2 es c2, Rel X.K cm W2 c2 H2 ∧ Rps X.K cm W2 es zs ∧ PostE X.K cm Y σ W2 (if es.length = ks.length then fnK 1 ks.length ps.length F ga [.cl c] es c2 else .no) Q) R1 N1 asksE h1 fun d2 c2 _ h2 W2 H2 v2 l2 R2 E2 r2 => ⟨W2, d2, c2, R2, r2, h2.up l2⟩
    refine callWith_MK0 (K := X.K) (self := .ref (cm c)) (first := []) cc.fi hall (thn (hk.run pos _ s2 σ H1 _ I2 t) fun ws s3 ⟨zs, H2, I3, rz, W2, es2, c2, R2, r2, h2⟩ => ⟨⟨ClX.pin_at I3, I3.kIn⟩, ?_⟩) hpl
    rw [hks]
    split at h2
    · rename_i hl
      have z : wpAny (model X.prog X.w) X.A (call (.ref s1.heap.objs.size) [] (ks.zip ws)) (EP X ((s1.heap.objs.size, PySem.W.methodObj (.ref g) (.ref (cm c))) :: pins) σ Q) X.xe s3 :=
        wpAny_call (PySem.W.method_call (ClX.pin_at I3) (codeAny_mono (run_def (us := [.ref (cm c)]) (vs := [.ref (cm c)]) (ds := [.cl c]) B a hr hg I3.ok.frames tk I3 (.cons rfl .nil) rz (by rw [← r2.length]; exact hl) R2 (.cons (.cl c) .nil) r2 h2) fun rr s' hq => by
          cases rr with
          | error e => exact hq
          | ok fl => cases fl <;> exact hq))
      exact thn z fun _ _ y => ClX.unpinE y
    · exact h2.elim
end
end PV

namespace PV
open PySem PySem.Spec PyProof.Rows L2

/-! ### enumerate(tuple) -/
theorem meets_enumerate_newB1 {v : Value} {o : Obj} {H : Heap → Prop} (B : Begins v o H) :
    Meets (Builtin.«enumerate.__new__» ⟨[.type "enumerate", v], []⟩) (fun _ R s => H s.heap ∧
      R (.ok (.ret (.ref (s.heap.push o).objs.size))) { s with heap := (s.heap.push o).push { cls := .type "enumerate", data := .fields #[.none, .bool false, .ref s.heap.objs.size, rawInt 0, .none, .none] } }) :=
  .of_wp fun prog w A R s h => by
    obtain ⟨hp, g, d, tk, os⟩ := s; obtain ⟨h1, h⟩ := h
    have hsub := sub_enumerate
    have q1 : ∀ {A' : Around} {E : Value → Shared → Prop} {Q : Value → Shared → Prop}, Q (.ref hp.objs.size) ⟨hp.push o, g, d, tk, os⟩ → wpAny (model prog w) A' (pyIter v) Q E ⟨hp, g, d, tk, os⟩ :=
      fun q => B.iter prog w _ _ ⟨hp, g, d, tk, os⟩ _ h1 q
    wp_walk using q1
    refine wpAny_stack_any fun st => wpAny_pure ?_
    split
    · rename_i c _ _ _ _ _
      cases (c == Value.type "enumerate")
      · wp_walk using q1
        exact ⟨_, rfl, h⟩
      · wp_walk using q1
        exact ⟨_, rfl, h⟩
    · wp_walk using q1
      exact ⟨_, rfl, h⟩
section
variable {prog : Program} {w : World} {A : Around} {E : Value → Shared → Prop} {s : Shared}
theorem enum_begins1 {v : Value} {o : Obj} {H : Heap → Prop} {Q : Value → Shared → Prop} (B : Begins v o H) (h1 : H s.heap)
    (h : ∀ h', IsEnum h' (s.heap.objs.size + 1) s.heap.objs.size 0 .none → h'.get? s.heap.objs.size = some o → h'.objs.size = s.heap.objs.size + 2 →
      (∀ b o, s.heap.get? b = some o → h'.get? b = some o) → Q (.ref (s.heap.objs.size + 1)) { s with heap := h' }) :
    wpAny (model prog w) A (call (.type "enumerate") [v]) Q E s := by
  refine callType_new F.called_enumerate (by decide) (F.typeCall_enumerate_1 _) (F.newCall_enumerate_1 _) (fun obj => F.args_object_init_2 obj _) F.entry_enumerate_new
    (meets_enumerate_newB1 B) ⟨h1, ?_⟩
  have hz : (s.heap.push o).objs.size = s.heap.objs.size + 1 := Heap.size_push ..
  show _ ∧ _
  rw [hz]
  have he : IsEnum ((s.heap.push o).push { cls := .type "enumerate", data := .fields #[.none, .bool false, .ref s.heap.objs.size, rawInt 0, .none, .none] }) (s.heap.objs.size + 1) s.heap.objs.size 0 .none := by
    have := Heap.get?_push_size (s.heap.push o) (o := { cls := .type "enumerate", data := .fields #[.none, .bool false, .ref s.heap.objs.size, rawInt 0, .none, .none] }) rfl
    rw [hz] at this; exact this
  refine ⟨⟨_, he, rfl⟩, h _ he (Heap.get?_push_of_some _ (Heap.get?_push_size _ B.free)) (by rw [Heap.size_push, hz]) fun b o x => Heap.get?_push_of_some _ (Heap.get?_push_of_some _ x)⟩
theorem wpAny_pyNext_enum_endT {e it l : Addr} {i : Nat} {items : Array Value} {old : Value} {Q : Option Value → Shared → Prop} (hh : A.handled = none)
    (he : IsEnum s.heap e it i old) (hit : s.heap.IsTupleIter it l i) (hl : s.heap.IsTuple l items) (hx : items[i]? = none)
    (hQ : ∀ h', Heap.ExtBut it s.heap h' → Q none { s with heap := h' }) : wpAny (model prog w) A (pyNext (.ref e)) Q E s := by
  have hT : s.TypeIs (.ref e) "enumerate" := ⟨_, he, rfl⟩
  unfold pyNext
  refine wpAny_bind (wpAny_attempt (wpAny_callSpecial?_slot (name := Str.ofString "__next__") hT F.slot_enumerate_next
    (wpAny_call_entry F.slot_enumerate_next hT F.entry_enumerate_next ?_ (F.args_enumerate_next_1 _))))
  show wpAny _ _ (field (.ref e) 2 >>= _) _ _ _
  refine wpAny_bind (wpAny_field he rfl (x := .ref it) rfl ?_)
  refine wpAny_bind (wpAny_nextOf_tuple_end hh hit hl hx fun h' x he' hx' => ?_)
  obtain ⟨o, ho, hc⟩ := hx'
  refine wpAny_bind (wpAny_isInstance (T := "StopIteration") (b := true) ⟨o, ho, hc⟩ isSubtype_stop ?_)
  exact wpAny_pure (hQ _ he')
end
/-- the tuple at a, each item in a new pair -/
def IteT (K : PySem.W.Frag) (a : Addr) : It :=
  ⟨fun i H => ∃ (xs : List V) (x : V), SqT K H a xs ∧ xs[i]? = some x, fun i H v H' => ∃ T x, v = .ref T ∧ H T = none ∧ H' = upd H T (.tup [.int (i : Nat), x]) ∧ ∀ xs, SqT K H a xs → xs[i]? = some x, fun i H => ∃ xs : List V, SqT K H a xs ∧ xs.length ≤ i⟩
theorem turn_enumT {P : Program} {w : World} {K : PySem.W.Frag} {elts : List Expr} {kk : Nat} {tpos : Pos} (a e it : Addr) :
    Turn P w K (.Tuple elts kk tpos) (IteT K a) [e, it] e (fun i h => (∃ old, IsEnum h e it ((i : Nat) : Int) old) ∧ h.IsTupleIter it a i ∧ e ≠ it ∧ e ≠ a ∧ a ≠ it) where
  mem := by simp
  obj := fun i h st b hb => by
    obtain ⟨⟨old, he⟩, ⟨o, ho, hc, hd⟩, _⟩ := st
    have e' : b = e ∨ b = it := by simpa using hb
    rcases e' with z | z
    · rw [z]; exact ⟨_, he, fun v q => nomatch q⟩
    · rw [z]; exact ⟨o, ho, fun v q => by rw [hd] at q; cases q⟩
  keep := fun i h h' st k => let ⟨⟨old, he⟩, hi, hne⟩ := st; ⟨⟨old, k e (by simp) _ he⟩, hi.at fun o q => k it (by simp) o q, hne⟩
  item := by
    intro X hP hw hK hc i pins s σ H E I hf st hg
    subst hP hw hK
    obtain ⟨⟨old, he⟩, hit, hne, hea, hai⟩ := st
    obtain ⟨xs, x, hq, hx⟩ := hg
    obtain ⟨its, rv, p, hz⟩ := I.tuple hq
    obtain ⟨u, hu, ru⟩ := rv.get hx
    have hel : e < s.heap.objs.size := Heap.lt_size he
    have hil : it < s.heap.objs.size := by obtain ⟨_, q, _⟩ := hit; exact Heap.lt_size q
    have hlt : i < its.toArray.size := by
      have := (List.getElem?_eq_some_iff.mp hu).1
      simpa using this
    have Dr : Draws X.prog X.w X.A.in1 it [it, a] its.toArray.size (fun i v => its.toArray[i]? = some v) (fun i h => h.IsTupleIter it a i ∧ h.IsTuple a its.toArray) := Draws.tuple (A := X.A.in1) (show X.A.in1.handled = none from I.ok.hd hc) it a hai its.toArray
    refine wpAny_pyNext_enum_itemC Dr he ⟨hit, p⟩ hlt hne (by simp [hne, hea]) fun y h' tk hy ho hit' hT hsz hk => ?_
    have ey : y = u := by
      have hy' : its[i]? = some y := by simpa using hy
      rw [hu] at hy'; exact (Option.some.inj hy').symm
    subst ey
    refine ⟨_, rfl, wpAny_letOwnedTupleGo_enum (s := { s with heap := h', toks := tk + 1 }) ho fun h'' he' sb => ?_⟩
    have hT2 : h''.get? s.heap.objs.size = some { cls := .type "tuple", data := .seq #[.int i tk, y] } := (sb.2 _ (Nat.ne_of_gt hel)).trans hT
    have new : ObjOk X.prog X.w (upd H s.heap.objs.size (.tup [.int (i : Nat), x])) h'' s.heap.objs.size (.tup [.int (i : Nat), x]) :=
      ⟨by show 2 ≤ sizeLine; decide, [.int i tk, y], .cons ⟨_, rfl⟩ (.cons ru .nil), ⟨_, hT2, rfl, _, rfl⟩⟩
    have I1 : Inv X pins σ (upd H s.heap.objs.size (.tup [.int (i : Nat), x])) { s with heap := h'', toks := tk + 1 } :=
      I.turnedNew (ch := [e, it]) (fun b ob hb q => (sb.2 b (fun z => hb (by simp [z]))).trans (hk b ob (fun z => hb (by simp [z])) (fun z => hb (by simp [z])) q)) hf (Nat.le_refl _) new
    refine ⟨.ref s.heap.objs.size, _, I1, rfl, ⟨_, x, rfl, I.hok.fresh (Nat.le_refl _), rfl, fun ys hy => by rw [I.tuple_inj hy hq]; exact hx⟩, ⟨⟨y, ?_⟩, hit'.1.at fun o q => (sb.2 it (Ne.symm hne)).trans q, hne, hea, hai⟩, fun b hb => ?_⟩
    · have e1 : ((i + 1 : Nat) : Int) = (i : Int) + 1 := by omega
      rw [e1]; exact he'
    · have hb' : b < s.heap.objs.size := by
        have e' : b = e ∨ b = it := by simpa using hb
        rcases e' with z | z
        · rw [z]; exact hel
        · rw [z]; exact hil
      rw [upd_ne (Nat.ne_of_lt hb')]
      exact (hf b hb).1
  done := by
    intro X hP hw hK hc i pins s σ H E I hf st hg
    subst hP hw hK
    obtain ⟨⟨old, he⟩, hit, hne, hea, hai⟩ := st
    obtain ⟨xs, hq, hx⟩ := hg
    obtain ⟨its, rv, p, hz⟩ := I.tuple hq
    obtain ⟨f0, f1, f2, f3, f4, f5⟩ := hf it (by simp)
    have hl := rv.length
    refine wpAny_pyNext_enum_endT (I.ok.hd hc) he hit p (by simp; omega) fun h' eb => ⟨rfl, I.turned (t' := s.toks) (fun b o hb q => eb b o hb q) f0 f1 f3 f4 f5⟩
  self := fun A i s Q E st h => let ⟨⟨_, he⟩, _⟩ := st; wpAny_pyIter_enum he h
def iEnumT (K : PySem.W.Frag) (ta : TA) : TI := fun σ H R => ta σ H fun vs H1 => ∃ a xs, vs = [.ref a] ∧ SqT K H1 a xs ∧ R (IteT K a) H1
theorem pi_enumT {X : Cx} {e : Expr} {ta : TA} {p pos tpos : Pos} {elts : List Expr} {kk : Nat} (hg : Gl X "enumerate") (hm : X.mg "enumerate" = none) (ha : PA X [e] ta) (hs : starEach [e] X.env = [(false, eval e X.env)] := by rfl) :
    PI X (.Tuple elts kk tpos) (.Call (.Name "enumerate" p) [e] [] pos) (iEnumT X.K ta) := by
  refine ⟨fun pins s σ H R I h => ?_⟩
  refine Call_ (ld_blt I hg hm boot_enumerate (PyProof.Rows.callWith_type1 (thn (ha.run pos pins s σ H _ I h) fun us s1 ⟨vs, H1, I1, r1, q1⟩ => ?_) hs rfl))
  obtain ⟨a, xs, ex, hq, q⟩ := q1
  subst ex
  cases r1 with
  | cons r rr =>
    cases rr
    cases r
    obtain ⟨its, rv, p', hz⟩ := I1.tuple hq
    have hal : a < s1.heap.objs.size := by obtain ⟨_, q, _⟩ := p'; exact Heap.lt_size q
    refine enum_begins1 (begins_tuple a its.toArray) p' fun h' he hit hsz hk => wpAny_pyIter_enum he ?_
    have I2 : Inv X pins σ H1 { s1 with heap := h' } := I1.kept (t' := s1.toks) hk
    refine ⟨s1.heap.objs.size + 1, [s1.heap.objs.size + 1, s1.heap.objs.size], _, _, H1, rfl, I2, turn_enumT a (s1.heap.objs.size + 1) s1.heap.objs.size, ⟨⟨.none, he⟩, ⟨_, hit, rfl, rfl⟩, Nat.succ_ne_self _, Nat.ne_of_gt (Nat.lt_succ_of_lt hal), Nat.ne_of_lt hal⟩, fun b hb => ?_, q⟩
    have e' : b = s1.heap.objs.size + 1 ∨ b = s1.heap.objs.size := by simpa using hb
    have hle : s1.heap.objs.size ≤ b := by
      rcases e' with z | z
      · rw [z]; exact Nat.le_add_right _ _
      · rw [z]; exact Nat.le_refl _
    exact I1.fpOk hle (I1.hok.fresh hle)
section
variable {X : Cx} {cm : Nat → Addr} {Y : WX} {tg l : Expr} {fe : Fe}
/-- enumerate of a tuple -/
def iEnmT (f : Fa) : Fi := fun σ cs => (f σ cs).bind fun ds c => match ds with
  | [.tup xs] => .ok (enD 0 xs) c
  | _ => .no
theorem fi_enumT {e : Expr} {fa : Fa} {p tpos : Pos} {elts : List Expr} {kk : Nat} (hm : X.mg "enumerate" = none) (ha : FA X cm Y [e] fa) (hg : Gl X "enumerate" := by rfl) (hs : starEach [e] X.env = [(false, eval e X.env)] := by rfl) :
    FI X cm Y (.Tuple elts kk tpos) (.Call (.Name "enumerate" p) [e] [] pos) (iEnmT fa) := PI.weak (pi_enumT hg hm ha hs) fun σ H Q ⟨W, σd, cs, R, N, P⟩ => by
  refine tA_go R N asksI P fun d c1 _ h1 W1 H1 v l1 R1 N1 r1 => ?_
  split at h1
  · obtain ⟨w, rfl, q⟩ := r1.one
    cases q with
    | @tup xs a vs g q =>
      refine ⟨a, vs, rfl, SqT.of (R1.sub _ _ g), h1 W1 H1 _ l1 R1 fun i W2 cs2 H2 l2 R2 => ?_⟩
      obtain ⟨lg, lr⟩ := pin_le l2
      have s2 : SqT X.K H2 a vs := SqT.of (R2.sub _ _ (lg _ _ g))
      refine ⟨fun d hd => ?_, fun hd => ⟨vs, s2, ?_⟩⟩
      · obtain ⟨d', h2, rfl⟩ := enD_get hd
        obtain ⟨x, hx, rx⟩ := q.get h2
        refine ⟨⟨vs, x, s2, hx⟩, fun y H3 z => ?_⟩
        obtain ⟨T, x', rfl, hT, rfl, hq⟩ := z
        have hy := hq vs s2
        rw [hx] at hy
        cases hy
        rw [Nat.zero_add]
        exact tup2 R2 hT (.int _) (rx.up' lg lr)
      · rw [← q.length, ← enD_len (k := 0)]; exact List.getElem?_eq_none_iff.mp hd
  · exact h1.elim
/-- one walk or another, by what the function says -/
def iAlt (f g : Fi) : Fi := fun σ cs => match f σ cs with
  | .no => g σ cs
  | r => r
theorem fi_alt {f g : Fi} (h : FI X cm Y tg l f) (h' : FI X cm Y tg l g) : FI X cm Y tg l (iAlt f g) := ⟨fun pins s σ H Q I ⟨W, σd, cs, R, N, P⟩ => by
  unfold iAlt at P
  cases e : f σd cs with
  | no => rw [e] at P; exact h'.run pins s σ H Q I ⟨W, σd, cs, R, N, P⟩
  | ok a c => rw [e] at P; exact h.run pins s σ H Q I ⟨W, σd, cs, R, N, by rw [e]; exact P⟩
  | ex a c => rw [e] at P; exact h.run pins s σ H Q I ⟨W, σd, cs, R, N, by rw [e]; exact P⟩⟩
/-- a list or a tuple, walked -/
def walk2 (d : D) (c : List Cell) : Out (List D) := match d with
  | .lst xs => .ok xs c
  | .arg xs => .ok xs c
  | .tup xs => .ok xs c
  | .argT xs => .ok xs c
  | _ => .no
@[simp] theorem walk2_l {xs : List D} {c : List Cell} : walk2 (.lst xs) c = .ok xs c := rfl
@[simp] theorem walk2_a {xs : List D} {c : List Cell} : walk2 (.arg xs) c = .ok xs c := rfl
@[simp] theorem walk2_t {xs : List D} {c : List Cell} : walk2 (.tup xs) c = .ok xs c := rfl
@[simp] theorem walk2_aT {xs : List D} {c : List Cell} : walk2 (.argT xs) c = .ok xs c := rfl
def iSq (f : Fe) : Fi := fun σ cs => (f σ cs).bind fun d c => walk2 d c
theorem fi_sq (hl : FE X cm Y l fe) : FI X cm Y tg l (iSq fe) := ⟨fun pins s σ H Q I ⟨W, σd, cs, R, N, P⟩ => by
  have h : iSq fe σd cs = iSeq fe σd cs ∨ iSq fe σd cs = iTupD fe σd cs := by
    unfold iSq iSeq iTupD
    cases e : fe σd cs with
    | no => exact .inl rfl
    | ex a c => exact .inl rfl
    | ok d c =>
      cases d with
      | tup xs => exact .inr rfl
      | argT xs => exact .inr rfl
      | _ => exact .inl rfl
  rcases h with h | h
  · rw [h] at P; exact (fi_list hl).run pins s σ H Q I ⟨W, σd, cs, R, N, P⟩
  · rw [h] at P; exact (fi_tup hl).run pins s σ H Q I ⟨W, σd, cs, R, N, P⟩⟩
/-- enumerate of a list or of a tuple -/
def enm2 (ds : List D) (c : List Cell) : Out (List D) := match ds with
  | [.lst xs] => .ok (enD 0 xs) c
  | [.tup xs] => .ok (enD 0 xs) c
  | _ => .no
@[simp] theorem enm2_l {xs : List D} {c : List Cell} : enm2 [.lst xs] c = .ok (enD 0 xs) c := rfl
@[simp] theorem enm2_t {xs : List D} {c : List Cell} : enm2 [.tup xs] c = .ok (enD 0 xs) c := rfl
def iEn (f : Fa) : Fi := fun σ cs => (f σ cs).bind fun d c => enm2 d c
theorem fi_en {e : Expr} {fa : Fa} {p tpos : Pos} {elts : List Expr} {kk : Nat} {pos : Pos} (hm : X.mg "enumerate" = none) (ha : FA X cm Y [e] fa) (hg : Gl X "enumerate" := by rfl) (hs : starEach [e] X.env = [(false, eval e X.env)] := by rfl) :
    FI X cm Y (.Tuple elts kk tpos) (.Call (.Name "enumerate" p) [e] [] pos) (iEn fa) := ⟨fun pins s σ H Q I ⟨W, σd, cs, R, N, P⟩ => by
  have h : iEn fa σd cs = iEnm fa σd cs ∨ iEn fa σd cs = iEnmT fa σd cs := by
    unfold iEn iEnm iEnmT
    cases e : fa σd cs with
    | no => exact .inl rfl
    | ex a c => exact .inl rfl
    | ok d c =>
      cases d with
      | nil => exact .inl rfl
      | cons d r =>
        cases r with
        | cons d2 r => exact .inl (by cases d <;> rfl)
        | nil =>
          cases d with
          | tup xs => exact .inr rfl
          | _ => exact .inl rfl
  rcases h with h | h
  · rw [h] at P; exact (fi_enum hm ha hg hs).run pins s σ H Q I ⟨W, σd, cs, R, N, P⟩
  · rw [h] at P; exact (fi_enumT hm ha hg hs).run pins s σ H Q I ⟨W, σd, cs, R, N, P⟩⟩
end
end PV

namespace PV
open PySem PySem.Spec PyProof.Rows L2

/-! ### data that their value determines -/
mutual
def det (n : Nat) : D → Bool
  | .non | .bl _ | .int _ | .str _ => true
  | .tup xs => dets n xs
  | .lst xs => dets n xs
  | .ins c fs => decide (c < n) && detf n fs
  | _ => false
def dets (n : Nat) : List D → Bool
  | [] => true
  | d :: ds => det n d && dets n ds
def detf (n : Nat) : List (Str × D) → Bool
  | [] => true
  | (_, d) :: ds => det n d && detf n ds
end
section
variable {K : PySem.W.Frag} {cm : Nat → Addr} {W : Wd} {n : Nat}
abbrev Inj (cm : Nat → Addr) (n : Nat) : Prop := ∀ c c', c < n → c' < n → cm c = cm c' → c = c'
mutual
theorem det_eq (inj : Inj cm n) : ∀ {d d' : D} {v : V}, det n d = true → det n d' = true → Rp K cm W d v → Rp K cm W d' v → d = d'
  | .non, d', _, _, h', .non, r' => by cases r'; rfl
  | .bl _, d', _, _, h', .bl _, r' => by cases r'; rfl
  | .int _, d', _, _, h', .int _, r' => by cases r'; rfl
  | .str _, d', _, _, h', .str _, r' => by cases r'; rfl
  | .tup xs, d', _, h, h', .tup g q, r' => by
    cases r' with
    | tup g' q' =>
      rw [g] at g'; cases g'
      rw [dets_eq inj (by simpa [det] using h) (by simpa [det] using h') q q']
    | lst g' q' => rw [g] at g'; cases g'
    | ins g' q' => rw [g] at g'; cases g'
    | arg => simp [det] at h'
    | argT => simp [det] at h'
    | dic => simp [det] at h'
    | ref => simp [det] at h'
    | cl => simp [det] at h'
    | exn => simp [det] at h'
  | .lst xs, d', _, h, h', .lst g q, r' => by
    cases r' with
    | lst g' q' =>
      rw [g] at g'; cases g'
      rw [dets_eq inj (by simpa [det] using h) (by simpa [det] using h') q q']
    | tup g' q' => rw [g] at g'; cases g'
    | ins g' q' => rw [g] at g'; cases g'
    | arg => simp [det] at h'
    | argT => simp [det] at h'
    | dic => simp [det] at h'
    | ref => simp [det] at h'
    | cl => simp [det] at h'
    | exn => simp [det] at h'
  | .ins c fs, d', _, h, h', .ins g q, r' => by
    cases r' with
    | lst g' q' => rw [g] at g'; cases g'
    | tup g' q' => rw [g] at g'; cases g'
    | @ins c' fs' _ dx' vs' g' q' =>
      rw [g] at g'
      have e := Option.some.inj g'
      injection e with e1 e2 e3
      have h1 : c < n ∧ detf n fs = true := by simpa [det] using h
      have h2 : c' < n ∧ detf n fs' = true := by simpa [det] using h'
      have ec := inj c c' h1.1 h2.1 e1
      subst ec e3
      rw [detf_eq inj h1.2 h2.2 q q']
    | arg => simp [det] at h'
    | argT => simp [det] at h'
    | dic => simp [det] at h'
    | ref => simp [det] at h'
    | cl => simp [det] at h'
    | exn => simp [det] at h'
  | .arg _, _, _, h, _, _, _ => by simp [det] at h
  | .argT _, _, _, h, _, _, _ => by simp [det] at h
  | .dic _, _, _, h, _, _, _ => by simp [det] at h
  | .ref _, _, _, h, _, _, _ => by simp [det] at h
  | .cl _, _, _, h, _, _, _ => by simp [det] at h
  | .ty _, _, _, h, _, _, _ => by simp [det] at h
  | .exn _, _, _, h, _, _, _ => by simp [det] at h
theorem dets_eq (inj : Inj cm n) : ∀ {d d' : List D} {v : List V}, dets n d = true → dets n d' = true → Rps K cm W d v → Rps K cm W d' v → d = d'
  | [], d', _, _, h', .nil, r' => by cases r'; rfl
  | d :: ds, d', _, h, h', .cons a t, r' => by
    cases r' with
    | cons b u =>
      have h1 : det n d = true ∧ dets n ds = true := by simpa [dets] using h
      have h2 := by simpa [dets] using h'
      rw [det_eq inj h1.1 h2.1 a b, dets_eq inj h1.2 h2.2 t u]
theorem detf_eq (inj : Inj cm n) : ∀ {d d' : List (Str × D)} {v : List (Str × V)}, detf n d = true → detf n d' = true → Rpf K cm W d v → Rpf K cm W d' v → d = d'
  | [], d', _, _, h', .nil, r' => by cases r'; rfl
  | (k, d) :: ds, d', _, h, h', .cons a t, r' => by
    cases r' with
    | cons b u =>
      have h1 : det n d = true ∧ detf n ds = true := by simpa [detf] using h
      have h2 := by simpa [detf] using h'
      rw [det_eq inj h1.1 h2.1 a b, detf_eq inj h1.2 h2.2 t u]
end
end
theorem inj_of {L M : List Addr} {fa : Addr} {n : Nat} (h : L.Nodup) (hn : n ≤ L.length) : Inj (fun c => (L ++ M).getD c fa) n := by
  intro c c' h1 h2 e
  have g : ∀ k, k < n → (L ++ M).getD k fa = L.getD k fa := fun k hk => by
    rw [List.getD_eq_getElem?_getD, List.getD_eq_getElem?_getD, List.getElem?_append_left (by omega)]
  have e' : L.getD c fa = L.getD c' fa := by rw [← g c h1, ← g c' h2]; exact e
  rw [List.getD_eq_getElem?_getD, List.getD_eq_getElem?_getD, List.getElem?_eq_getElem (by omega), List.getElem?_eq_getElem (by omega)] at e'
  exact (List.getElem_inj h).mp (by simpa using e')

/-! ### == as a list's or a tuple's comparison asks it -/
/-- the answer, if it is known; the heap stays -/
abbrev GB := D → D → List Cell → Option Bool
structure At (X : Cx) (n : Nat) (A : Around) : Prop where
  room : Room n A
  gd : A.guards = some []
  fr : A.frames = some X.stack
theorem At.in1 {X : Cx} {n : Nat} {A : Around} (a : At X (n + 1) A) : At X n A.in1 := ⟨a.room.in1, a.gd, a.fr⟩
theorem At.mono {X : Cx} {n m : Nat} {A : Around} (a : At X n A) (h : m ≤ n) : At X m A := ⟨a.room.mono h, a.gd, a.fr⟩
section
variable (X : Cx) (cm : Nat → Addr)
def Grow (pins : List (Addr × Obj)) (σ : L2.St) (W : Wd) (cs : List Cell) (s' : Shared) : Prop := ∃ H' W', W.le W' ∧ Rel X.K cm W' cs H' ∧ Inv X pins σ H' s'
def EqJ (n : Nat) (G : GB) : Prop := ∀ (A : Around) (pins : List (Addr × Obj)) (s : Shared) (σ : L2.St) (H : Hp) (W : Wd) (dx dy : D) (cs : List Cell) (x y : V) (u v : Value) (b : Bool),
  At X n A → Inv X pins σ H s → RelV x u → RelV y v → Rel X.K cm W cs H → Rp X.K cm W dx x → Rp X.K cm W dy y → G dx dy cs = some b →
    wpAny (model X.prog X.w) A (eqBool u v) (fun r s' => r = b ∧ Grow X cm pins σ W cs s') X.xe s
def RcJ (n : Nat) (G : GB) : Prop := ∀ (A : Around) (pins : List (Addr × Obj)) (s : Shared) (σ : L2.St) (H : Hp) (W : Wd) (dx dy : D) (cs : List Cell) (x y : V) (u v : Value) (b : Bool),
  At X n A → Inv X pins σ H s → RelV x u → RelV y v → Rel X.K cm W cs H → Rp X.K cm W dx x → Rp X.K cm W dy y → G dx dy cs = some b →
    wpAny (model X.prog X.w) A (richCompare .Eq u v) (fun r s' => r = .bool b ∧ Grow X cm pins σ W cs s') X.xe s
end
section
variable {X : Cx} {cm : Nat → Addr} {k n m c : Nat} {f : Addr} {fd : FuncData} {F : List D → List Cell → Out D} {tab : Kd → Kd → Option Bool} {nf : List Kd} {ps : List Str} {G G' : GB}
theorem EqJ.mono (h : EqJ X cm n G) (hn : n ≤ m) : EqJ X cm m G := fun A pins s σ H W dx dy cs x y u v b a => h A pins s σ H W dx dy cs x y u v b (a.mono hn)
theorem RcJ.mono (h : RcJ X cm n G) (hn : n ≤ m) : RcJ X cm m G := fun A pins s σ H W dx dy cs x y u v b a => h A pins s σ H W dx dy cs x y u v b (a.mono hn)
theorem Grow.refl {pins : List (Addr × Obj)} {σ : L2.St} {W : Wd} {cs : List Cell} {s : Shared} {H : Hp} (R : Rel X.K cm W cs H) (I : Inv X pins σ H s) : Grow X cm pins σ W cs s := ⟨H, W, .refl W, R, I⟩
/-- one or the other -/
def gOr (G G' : GB) : GB := fun x y cs => match G x y cs with
  | some b => some b
  | none => G' x y cs
theorem eqj_or (h : EqJ X cm n G) (h' : EqJ X cm n G') : EqJ X cm n (gOr G G') := by
  intro A pins s σ H W dx dy cs x y u v b a I rx ry R r1 r2 e
  unfold gOr at e
  cases q : G dx dy cs with
  | some b' => rw [q] at e; cases e; exact h A pins s σ H W dx dy cs x y u v _ a I rx ry R r1 r2 q
  | none => rw [q] at e; exact h' A pins s σ H W dx dy cs x y u v _ a I rx ry R r1 r2 e
/-- data without instances -/
def gDat : GB := fun x y cs => match toP cs x, toP cs y with
  | some p, some q => if SeqAt.shaped p = true ∧ SeqAt.shaped q = true then some (PyData.eqv p q) else none
  | _, _ => none
theorem eqj_dat : EqJ X cm n gDat := by
  intro A pins s σ H W dx dy cs x y u v b a I rx ry R r1 r2 e
  unfold gDat at e
  split at e
  · rename_i p q e1 e2
    split at e
    · rename_i hs
      cases e
      obtain ⟨as, q1⟩ := Dp.reads I p x u (toP_ok R r1 e1) rx
      obtain ⟨bs, q2⟩ := Dp.reads I q y v (toP_ok R r2 e2) ry
      have hu := a.room.un
      exact SeqAt.eqAt_reads p q A s u v as bs q1 q2 (SeqAt.canLay_of_shaped hs.1) (SeqAt.canLay_of_shaped hs.2) (SeqAt.room_of_shaped hs.1 (by omega)) X.prog X.w X.xe _ ⟨rfl, .refl R I⟩
    · cases e
  · cases e
theorem eqBool_refN {prog : Program} {w : World} {A : Around} {E : Value → Shared → Prop} {s : Shared} {l : Addr} {v : Value} {Q : Bool → Shared → Prop} (hne : v ≠ .ref l) (h : wpAny (model prog w) A (richCompare .Eq (.ref l) v) (fun v s' => ∃ r, v = .bool r ∧ Q r s') E s) : wpAny (model prog w) A (eqBool (.ref l) v) Q E s := by
  unfold eqBool
  refine wpAny_holding ?_
  refine wpAny_ite_split (fun hab => absurd (eq_of_beq hab).symm hne) (fun _ => ?_)
  refine wpAny_bind (wpAny_mono h (fun v s' hv => ?_) fun _ _ x => x)
  obtain ⟨r, rfl, q⟩ := hv
  exact wpAny_truthy_bool q
theorem eqBool_nonN {prog : Program} {w : World} {A : Around} {E : Value → Shared → Prop} {s : Shared} {l : Addr} {Q : Bool → Shared → Prop} (h : wpAny (model prog w) A (richCompare .Eq .none (.ref l)) (fun v s' => ∃ r, v = .bool r ∧ Q r s') E s) : wpAny (model prog w) A (eqBool .none (.ref l)) Q E s := by
  unfold eqBool
  refine wpAny_holding ?_
  refine wpAny_ite_split (fun hab => absurd (eq_of_beq hab) nofun) (fun _ => ?_)
  refine wpAny_bind (wpAny_mono h (fun v s' hv => ?_) fun _ _ x => x)
  obtain ⟨r, rfl, q⟩ := hv
  exact wpAny_truthy_bool q
open Classical in
/-- x == y, x an instance of class c with an own __eq__, y of any kind that is told -/
noncomputable def gOwn (c n : Nat) (nf : List Kd) (F : List D → List Cell → Out D) : GB := fun x y cs => match insOf cs x, kdOf cs y with
  | some (c', _), some k => if c' = c ∧ k ∈ nf ∧ okKd n k = true ∧ det n x = true ∧ det n y = true then match F [x, y] cs with
    | .ok (.bl b) cs' => if cs' = cs ∧ (x = y → b = true) then some b else none
    | _ => none
    else none
  | _, _ => none
theorem gOwn_s {x y : D} {cs : List Cell} {fs : List (Str × D)} {kd : Kd} {b : Bool} (h1 : insOf cs x = some (c, fs)) (h2 : kdOf cs y = some kd) (h3 : kd ∈ nf) (h4 : okKd n kd = true) (h5 : det n x = true) (h6 : det n y = true) (h7 : F [x, y] cs = .ok (.bl b) cs) (h8 : x = y → b = true) : gOwn c n nf F x y cs = some b := by
  unfold gOwn
  rw [h1, h2]
  show (if c = c ∧ kd ∈ nf ∧ okKd n kd = true ∧ det n x = true ∧ det n y = true then _ else none) = _
  rw [if_pos ⟨rfl, h3, h4, h5, h6⟩, h7]
  exact if_pos ⟨rfl, h8⟩
theorem gOwn_go {x y : D} {cs : List Cell} {b : Bool} (h : gOwn c n nf F x y cs = some b) : ∃ fs kd, insOf cs x = some (c, fs) ∧ kdOf cs y = some kd ∧ kd ∈ nf ∧ okKd n kd = true ∧ det n x = true ∧ det n y = true ∧ F [x, y] cs = .ok (.bl b) cs ∧ (x = y → b = true) := by
  unfold gOwn at h
  split at h
  · rename_i c' fs kd e1 e2
    split at h
    · rename_i hc
      obtain ⟨rfl, h1, h2, h3, h4⟩ := hc
      split at h
      · rename_i b' cs' e3
        split at h
        · rename_i hq
          obtain ⟨rfl, hq⟩ := hq
          cases h
          exact ⟨fs, kd, e1, e2, h1, h2, h3, h4, e3, hq⟩
        · cases h
      · cases h
    · cases h
  · cases h
theorem call_own (B : FnB X.prog X.w X.K X.mg X.base cm k f fd ps F) (a : Arg X.K cm fd ps 2 [] (fun ds _ => ds)) (hl : ps.length = 2) {A : Around} (at_ : At X k A) {pins : List (Addr × Obj)} {s : Shared} {σ : L2.St} {H : Hp} {W : Wd} {dx dy : D} {cs : List Cell} {x y : V} {u v : Value} {b : Bool}
    (I : Inv X pins σ H s) (rx : RelV x u) (ry : RelV y v) (R : Rel X.K cm W cs H) (r1 : Rp X.K cm W dx x) (r2 : Rp X.K cm W dy y) (e : F [dx, dy] cs = .ok (.bl b) cs) :
    wpAny (model X.prog X.w) A (call (.ref f) [u, v]) (fun r s' => r = .bool b ∧ Grow X cm pins σ W cs s') X.xe s := by
  refine wpAny_call (codeAny_mono (run_def (Y := yNo) (A := A) (us := [u, v]) (ws := []) (vs := [x, y]) (zs := []) (Q := fun z H' => z = .bl b ∧ ∃ W', W.le W' ∧ Rel X.K cm W' cs H') (ds := [dx, dy]) (es := []) (cs := cs) B a at_.room at_.gd at_.fr tkNo I (.cons rx (.cons ry .nil)) .nil rfl R (.cons r1 (.cons r2 .nil)) .nil ?_) fun rr s' hq => ?_)
  · unfold fnK
    rw [if_pos ⟨rfl, by rw [hl]; rfl⟩, e]
    intro W' H' z l R' r'
    cases r'
    exact ⟨rfl, W', l, R'⟩
  · cases rr with
    | error e => exact hq
    | ok fl =>
      cases fl with
      | ret z =>
        obtain ⟨z', H', I', rz, rfl, W', l, R'⟩ := hq
        obtain rfl : z = Value.bool b := rz
        exact ⟨rfl, H', W', l, R', I'⟩
      | next => exact hq
      | brk => exact hq
      | cont => exact hq
theorem rcj_own (O : OwnE X.K cm c f nf) (T : Tab X.K cm n tab) (B : FnB X.prog X.w X.K X.mg X.base cm k f fd ps F) (a : Arg X.K cm fd ps 2 [] (fun ds _ => ds)) (hl : ps.length = 2) : RcJ X cm k (gOwn c n nf F) := by
  intro A pins s σ H W dx dy cs x y u v b at_ I rx ry R r1 r2 e
  obtain ⟨fs, kd, e1, e2, e3, e4, d1, d2, e5, e6⟩ := gOwn_go e
  obtain ⟨p, dd, vs, rfl, h2, q⟩ := ins_of R r1 e1
  obtain rfl : u = Value.ref p := rx
  obtain ⟨mA, J, _⟩ := ins_get I.hok h2
  obtain ⟨od, J, _⟩ := J.look
  obtain ⟨m, hF⟩ := I.fr
  obtain ⟨P0, Z, p0, _⟩ := kit_of I ry (tyX_of T R r2 e2 e4)
  refine PySem.W.cmp_K (op := .Eq) (tb := kdV cm kd) at_.room.units0 hF I.ok.mod.kin J (Z.ty _ _ I.kIn p0) (O.nf kd e3) O.eq O.fn ?_
  refine wpAny_mono (call_own B a hl at_ I (x := .ref p) rfl ry R r1 r2 e5) (fun z s' hz => ?_) fun _ _ e => e
  obtain ⟨rfl, g⟩ := hz
  exact ⟨rfl, g⟩
theorem eqj_own (inj : Inj cm n) (O : OwnE X.K cm c f nf) (T : Tab X.K cm n tab) (B : FnB X.prog X.w X.K X.mg X.base cm k f fd ps F) (a : Arg X.K cm fd ps 2 [] (fun ds _ => ds)) (hl : ps.length = 2) : EqJ X cm k (gOwn c n nf F) := by
  intro A pins s σ H W dx dy cs x y u v b at_ I rx ry R r1 r2 e
  obtain ⟨fs, kd, e1, e2, e3, e4, d1, d2, e5, e6⟩ := gOwn_go e
  obtain ⟨p, dd, vs, rfl, h2, q⟩ := ins_of R r1 e1
  obtain rfl : u = Value.ref p := rx
  by_cases hv : v = .ref p
  · subst hv
    have hy : y = .ref p := by
      cases r2 with
      | non => exact nomatch (show Value.ref p = Value.none from ry)
      | bl b => exact nomatch (show Value.ref p = Value.bool b from ry)
      | int i => obtain ⟨t, z⟩ := (show ∃ t, Value.ref p = Value.int i t from ry); exact nomatch z
      | str i => obtain ⟨t, z⟩ := (show ∃ t, Value.ref p = Value.str i t from ry); exact nomatch z
      | @tup _ a _ _ _ => have z : Value.ref p = Value.ref a := ry; cases z; rfl
      | @lst _ a _ _ _ => have z : Value.ref p = Value.ref a := ry; cases z; rfl
      | @arg _ a _ _ _ => have z : Value.ref p = Value.ref a := ry; cases z; rfl
      | @argT _ a _ _ _ => have z : Value.ref p = Value.ref a := ry; cases z; rfl
      | @dic _ a _ _ _ => have z : Value.ref p = Value.ref a := ry; cases z; rfl
      | @ins _ _ a _ _ _ _ => have z : Value.ref p = Value.ref a := ry; cases z; rfl
      | @ref _ a _ => have z : Value.ref p = Value.ref a := ry; cases z; rfl
      | cl c => have z : Value.ref p = Value.ref (cm c) := ry; cases z; rfl
      | @exn _ a _ => have z : Value.ref p = Value.ref a := ry; cases z; rfl
      | ty t => exact nomatch (show Value.ref p = Value.type t from ry)
    subst hy
    have ed := det_eq inj d1 d2 r1 r2
    have eb := e6 ed
    subst eb
    exact SeqAt.EqAt.same (A := A) (s := s) (.ref p) X.prog X.w X.xe _ ⟨rfl, .refl R I⟩
  · refine eqBool_refN hv (wpAny_mono (rcj_own O T B a hl A pins s σ H W dx dy cs (.ref p) y (.ref p) v b at_ I rfl ry R r1 r2 e) (fun r s' z => ?_) fun _ _ x => x)
    obtain ⟨rfl, g⟩ := z
    exact ⟨b, rfl, rfl, g⟩
open PySem.W in
/-- None == an instance with an own __eq__: that one is asked -/
theorem none_own {prog : Program} {w : World} {A : Around} {E : Value → Shared → Prop} {s : Shared} {K : PySem.W.Frag} {x C L f : Addr} {h₀ : Heap} {m : Str → Option Value} {ox : Obj} {od : Option Obj} {Q : Value → Shared → Prop} {b : Bool} (hu : A.units < cLine) (hF : Fr h₀ L s.heap m) (X₀ : K.In h₀) (I : InstAt s.heap x ox C od)
    (hn : subIn K (.ref C) (.type "NoneType") = some false) (hs : findIn K (.ref C) "__eq__" = some (some (.ref f))) (hf : isFn K (.ref f) = true)
    (h : wpAny (model prog w) A (call (.ref f) [.ref x, .none]) (fun v s' => v = .bool b ∧ Q (.bool b) s') E s) : wpAny (model prog w) A (richCompare .Eq .none (.ref x)) Q E s := by
  have X := X₀.keeps hF.keep
  have hT : s.TypeIs Value.none "NoneType" := rfl
  unfold richCompare
  simp only [hT.oneThing_none]
  refine wpAny_holding (wpAny_bind (wpAny_cRoomFor hu ?_))
  refine wpAny_bind (wpAny_typeOf hT (wpAny_bind (I.type.here ?_)))
  have hne : (Value.type "NoneType" != Value.ref C) = true := rfl
  simp only [hne, if_true]
  refine wpAny_bind ((looks_subIn X hn).here ?_)
  simp only [Bool.false_eq_true, if_false, Bool.not_false, if_true]
  refine wpAny_bind (m := tryCompare .none "__eq__" (.ref x)) (wpAny_tryCompare_declines hT F.slot_NoneType_eq (call_gives F.slot_NoneType_eq rfl F.entry_NoneType_eq (F.args_NoneType_eq_2 _ _) (SeqAt.NoneType___eq___none_ref_0 x) ⟨rfl, ?_⟩))
  refine wpAny_bind (m := tryCompare (.ref x) "__eq__" .none) ?_
  unfold tryCompare
  refine wpAny_bind (ifBound_K X I hs hf (wpAny_mono h (fun v s' hv => ?_) fun _ _ e => e))
  obtain ⟨rfl, q⟩ := hv
  exact wpAny_pure (wpAny_pure q)
open Classical in
noncomputable def gNon (c : Nat) (F : List D → List Cell → Out D) : GB := fun x y cs => match x, insOf cs y with
  | .non, some (c', _) => if c' = c then match F [y, .non] cs with
    | .ok (.bl b) cs' => if cs' = cs then some b else none
    | _ => none
    else none
  | _, _ => none
theorem gNon_s {y : D} {cs : List Cell} {fs : List (Str × D)} {b : Bool} (h1 : insOf cs y = some (c, fs)) (h7 : F [y, .non] cs = .ok (.bl b) cs) : gNon c F .non y cs = some b := by
  unfold gNon
  rw [h1]
  show (if c = c then _ else none) = _
  rw [if_pos rfl, h7]
  exact if_pos rfl
theorem eqj_non (O : OwnE X.K cm c f nf) (hn : PySem.W.subIn X.K (.ref (cm c)) (.type "NoneType") = some false) (B : FnB X.prog X.w X.K X.mg X.base cm k f fd ps F) (a : Arg X.K cm fd ps 2 [] (fun ds _ => ds)) (hl : ps.length = 2) : EqJ X cm k (gNon c F) := by
  intro A pins s σ H W dx dy cs x y u v b at_ I rx ry R r1 r2 e
  unfold gNon at e
  split at e
  · rename_i c' fs e1
    split at e
    · rename_i hc
      subst hc
      split at e
      · rename_i b' cs' e3
        split at e
        · rename_i hq
          subst hq
          cases e
          cases r1
          obtain ⟨p, dd, vs, rfl, h2, q⟩ := ins_of R r2 e1
          obtain rfl : v = Value.ref p := ry
          obtain rfl : u = Value.none := rx
          obtain ⟨mA, J, _⟩ := ins_get I.hok h2
          obtain ⟨od, J, _⟩ := J.look
          obtain ⟨m, hF⟩ := I.fr
          refine eqBool_nonN (none_own (b := b) at_.room.units0 hF I.ok.mod.kin J hn O.eq O.fn (wpAny_mono (call_own B a hl at_ I (x := .ref p) (y := .non) rfl rfl R r2 .non e3) (fun z s' hz => ?_) fun _ _ e => e))
          obtain ⟨rfl, g⟩ := hz
          exact ⟨rfl, b, rfl, rfl, g⟩
        · cases e
      · cases e
    · cases e
  · cases e
end
end PV

namespace PV
open PySem PySem.Spec PyProof.Rows L2

/-! ### two tuples of such items compared -/
def allG (G : GB) : List D → List D → List Cell → Option Bool
  | x :: xs, y :: ys, cs => match G x y cs with
    | some true => allG G xs ys cs
    | some false => some false
    | none => none
  | _, _, _ => some true
def gTup (G : GB) : GB := fun x y cs => match x, y with
  | .tup xs, .tup ys => (allG G xs ys cs).map fun b => b && decide (xs.length = ys.length)
  | _, _ => none
section
variable {X : Cx} {cm : Nat → Addr} {n : Nat} {G : GB}
theorem allG_drop {cs : List Cell} : ∀ {xs ys : List D} {b : Bool} (i : Nat) (x y : D), allG G (xs.drop i) (ys.drop i) cs = some b → xs[i]? = some x → ys[i]? = some y → (G x y cs = some true ∧ allG G (xs.drop (i + 1)) (ys.drop (i + 1)) cs = some b) ∨ (G x y cs = some false ∧ b = false) := by
  intro xs ys b i x y h hx hy
  have h1 := (List.getElem?_eq_some_iff.mp hx).1
  have h2 := (List.getElem?_eq_some_iff.mp hy).1
  rw [List.drop_eq_getElem_cons h1, List.drop_eq_getElem_cons h2] at h
  rw [List.getElem?_eq_getElem h1] at hx
  rw [List.getElem?_eq_getElem h2] at hy
  cases hx; cases hy
  unfold allG at h
  split at h
  · rename_i e; exact .inl ⟨e, h⟩
  · rename_i e; cases h; exact .inr ⟨e, rfl⟩
  · cases h
theorem rcj_tup (h : EqJ X cm n G) : RcJ X cm (n + 1) (gTup G) := by
  intro A pins s σ H W dx dy cs x y u v b at_ I rx ry R r1 r2 e
  unfold gTup at e
  split at e
  · rename_i xs ys
    cases q : allG G xs ys cs with
    | none => rw [q] at e; cases e
    | some b0 =>
      rw [q] at e
      have eb : (b0 && decide (xs.length = ys.length)) = b := by simpa using e
      cases r1 with
      | @tup _ l vs g1 q1 =>
        cases r2 with
        | @tup _ l2 ws g2 q2 =>
          obtain rfl : u = Value.ref l := rx
          obtain rfl : v = Value.ref l2 := ry
          obtain ⟨its, rv, e1, _⟩ := I.tuple (SqT.of (R.sub _ _ g1))
          obtain ⟨its2, rv2, e2, _⟩ := I.tuple (SqT.of (R.sub _ _ g2))
          have z1 : its.toArray.size = xs.length := by rw [List.size_toArray, ← rv.length, ← q1.length]
          have z2 : its2.toArray.size = ys.length := by rw [List.size_toArray, ← rv2.length, ← q2.length]
          refine rc_tupF (E := X.xe) (Q := fun r s' => r = .bool b ∧ Grow X cm pins σ W cs s') at_.room.units0 (fun i s' => Grow X cm pins σ W cs s' ∧ allG G (xs.drop i) (ys.drop i) cs = some b0) e1 e2 (fun i h1 h2 s' ⟨⟨H', W', l', R', I'⟩, ha⟩ => ?_) (fun s' ⟨g, ha⟩ => ?_) ⟨.refl R I, by simpa using q⟩
          · have k1 : i < xs.length := by rw [← z1]; exact h1
            have k2 : i < ys.length := by rw [← z2]; exact h2
            obtain ⟨p, hp, rp⟩ := q1.get (List.getElem?_eq_getElem k1)
            obtain ⟨p2, hp2, rp2⟩ := q2.get (List.getElem?_eq_getElem k2)
            obtain ⟨u', hu, ru⟩ := rv.get hp
            obtain ⟨v', hv, rv'⟩ := rv2.get hp2
            have g1' : its.toArray[i] = u' := by
              have : its[i]? = some its.toArray[i] := by rw [List.getElem?_eq_getElem (by simpa using h1)]; simp
              rw [this] at hu; exact Option.some.inj hu
            have g2' : its2.toArray[i] = v' := by
              have : its2[i]? = some its2.toArray[i] := by rw [List.getElem?_eq_getElem (by simpa using h2)]; simp
              rw [this] at hv; exact Option.some.inj hv
            rw [g1', g2']
            rcases allG_drop i _ _ ha (List.getElem?_eq_getElem k1) (List.getElem?_eq_getElem k2) with ⟨eg, ha'⟩ | ⟨eg, eb0⟩
            · refine wpAny_mono (h A.in1 pins s' σ H' W' _ _ cs p p2 u' v' true at_.in1 I' ru rv' R' (rp.up l') (rp2.up l') eg) (fun r s2 q => ?_) fun _ _ x => x
              obtain ⟨rfl, H2, W2, l2, R2, I2⟩ := q
              exact .inl ⟨rfl, ⟨H2, W2, l'.trans l2, R2, I2⟩, ha'⟩
            · refine wpAny_mono (h A.in1 pins s' σ H' W' _ _ cs p p2 u' v' false at_.in1 I' ru rv' R' (rp.up l') (rp2.up l') eg) (fun r s2 q => ?_) fun _ _ x => x
              obtain ⟨rfl, H2, W2, l2, R2, I2⟩ := q
              subst eb0
              rw [Bool.false_and] at eb
              exact .inr ⟨rfl, by rw [← eb], H2, W2, l'.trans l2, R2, I2⟩
          · have hm : min its.toArray.size its2.toArray.size = min xs.length ys.length := by rw [z1, z2]
            rw [hm] at ha
            have eb0 : b0 = true := by
              have hd : xs.drop (min xs.length ys.length) = [] ∨ ys.drop (min xs.length ys.length) = [] := by
                rcases Nat.le_total xs.length ys.length with l | l
                · left; rw [Nat.min_eq_left l]; exact List.drop_length
                · right; rw [Nat.min_eq_right l]; exact List.drop_length
              rcases hd with hd | hd <;> rw [hd] at ha
              · simpa [allG] using ha.symm
              · cases xs.drop (min xs.length ys.length) <;> simpa [allG] using ha.symm
            refine ⟨?_, g⟩
            rw [z1, z2, ← eb, eb0, Bool.true_and]
            rfl
  · cases e
theorem eqj_rc {G : GB} (h : RcJ X cm n G) (hG : ∀ x y cs b, G x y cs = some b → ∃ xs ys, x = .tup xs ∧ y = .tup ys) (hs : ∀ x cs b, G x x cs = some b → b = true) (m : Nat) (inj : Inj cm m) : EqJ X cm n (fun x y cs => if det m x = true ∧ det m y = true then G x y cs else none) := by
  intro A pins s σ H W dx dy cs x y u v b at_ I rx ry R r1 r2 e
  simp only [] at e
  split at e
  · rename_i hd
    obtain ⟨xs, ys, rfl, rfl⟩ := hG _ _ _ _ e
    cases r1 with
    | @tup _ l vs g1 q1 =>
      cases r2 with
      | @tup _ l2 ws g2 q2 =>
        obtain rfl : u = Value.ref l := rx
        obtain rfl : v = Value.ref l2 := ry
        by_cases hl : l = l2
        · subst hl
          have ed := det_eq inj hd.1 hd.2 (.tup g1 q1) (.tup g2 q2)
          rw [ed] at e
          have eb := hs _ _ _ e
          subst eb
          exact SeqAt.EqAt.same (A := A) (s := s) (.ref l) X.prog X.w X.xe _ ⟨rfl, .refl R I⟩
        · refine GQ.eqBool_refG hl (wpAny_mono (h A pins s σ H W _ _ cs (.ref l) (.ref l2) _ _ b at_ I rfl rfl R (.tup g1 q1) (.tup g2 q2) e) (fun r s' z => ?_) fun _ _ x => x)
          obtain ⟨rfl, g⟩ := z
          exact ⟨b, rfl, rfl, g⟩
  · cases e
/-- == of two things, by their rich comparison -/
def dRc (G : GB) : G2 := fun x y cs => (G x y cs).map fun b => (.bl b, cs)
theorem op_rc (h : RcJ X cm n G) (hr : Room n X.A) (hg : X.A.guards = some []) : OpR X (compareOp .Eq) (rO2 X.K cm (dRc G)) := by
  intro pins s σ H x y v u Q I rx ry ⟨W, dx, dy, cs, R, r1, r2, P⟩
  unfold dRc at P
  cases q : G dx dy cs with
  | none => rw [q] at P; exact absurd rfl P.ne
  | some b =>
    rw [q] at P
    show wpAny (model X.prog X.w) X.A (richCompare .Eq v u) (EP X pins σ Q) X.xe s
    refine wpAny_mono (h X.A pins s σ H W dx dy cs x y v u b ⟨hr, hg, I.ok.frames⟩ I rx ry R r1 r2 q) (fun r s' z => ?_) fun _ _ x => x
    obtain ⟨rfl, H', W', l, R', I'⟩ := z
    exact ⟨.bl b, H', I', rfl, (P.up l).here R' (.bl b)⟩
end
end PV

namespace PV
open PySem PySem.Spec PyProof.Rows L2

/-- a def called by n values, as a function of these -/
def unK (n l : Nat) (F : List D → List Cell → Out D) (g : List D → List D → List D) : List D → List Cell → Out D := fun ds cs => fnK n 0 l F g ds [] cs
/-! ### x in y, by an own __contains__ of y -/
def dOwnIn (neg : Bool) (c : Nat) (F : List D → List Cell → Out D) : G2 := fun x y cs => match insOf cs y with
  | some (c', _) => if c' = c then match F [y, x] cs with
    | .ok (.bl b) cs' => some (.bl (if neg then !b else b), cs')
    | _ => none
    else none
  | none => none
section
variable {X : Cx} {cm : Nat → Addr} {k c : Nat} {f : Addr} {F : List D → List Cell → Out D}
theorem ownIn_go {neg : Bool} {W : Wd} {dx dy : D} {cs : List Cell} {Q : VK} (P : Post X.K cm W (dOwnIn neg c F dx dy cs) Q) : ∃ fs b cs', insOf cs dy = some (c, fs) ∧ F [dy, dx] cs = .ok (.bl b) cs' ∧ Post X.K cm W (some (.bl (if neg then !b else b), cs')) Q := by
  unfold dOwnIn at P
  split at P
  · rename_i c' fs e1
    split at P
    · rename_i hc
      subst hc
      split at P
      · rename_i b cs' e3
        exact ⟨fs, b, cs', e1, e3, P⟩
      · exact absurd rfl P.ne
    · exact absurd rfl P.ne
  · exact absurd rfl P.ne
theorem op_ownIn (O : OwnM X.K cm c "__contains__" f) (B : FnP X.prog X.w X.K X.mg X.base cm k f F) (hr : Room k X.A) (hg : X.A.guards = some []) : OpR X (compareOp .In) (rO2 X.K cm (dOwnIn false c F)) := by
  intro pins s σ H x y v u Q I rx ry ⟨W, dx, dy, cs, R, r1, r2, P⟩
  obtain ⟨fs, b, cs', e1, e3, P⟩ := ownIn_go P
  obtain ⟨p, dd, vs, rfl, h2, q⟩ := ins_of R r2 e1
  obtain rfl : u = Value.ref p := ry
  obtain ⟨mA, J, _⟩ := ins_get I.hok h2
  obtain ⟨od, J, _⟩ := J.look
  obtain ⟨m, hF⟩ := I.fr
  refine PySem.W.in_K hF I.ok.mod.kin J O.at_ O.fn ?_
  refine wpAny_call (codeAny_mono (run_p (Y := yNo) (us := [.ref p, v]) (vs := [.ref p, x]) (Q := fun z H' => z = .bl b ∧ Q z H') B hr hg I.ok.frames tkNo I (.cons rfl (.cons rx .nil)) R (.cons r2 (.cons r1 .nil)) ?_) fun rr s' hq => ?_)
  · rw [e3]
    intro W' H' z l R' r'
    cases r'
    exact ⟨rfl, (P.up l).here R' (.bl _)⟩
  · cases rr with
    | error e => exact hq
    | ok fl =>
      cases fl with
      | ret z =>
        obtain ⟨z', H', I', rz, rfl, hq⟩ := hq
        obtain rfl : z = Value.bool b := rz
        exact wpAny_truthy_bool ⟨.bl b, H', I', rfl, hq⟩
      | next => exact hq
      | brk => exact hq
      | cont => exact hq
theorem op_ownNotIn (O : OwnM X.K cm c "__contains__" f) (B : FnP X.prog X.w X.K X.mg X.base cm k f F) (hr : Room k X.A) (hg : X.A.guards = some []) : OpR X (compareOp .NotIn) (rO2 X.K cm (dOwnIn true c F)) := by
  intro pins s σ H x y v u Q I rx ry ⟨W, dx, dy, cs, R, r1, r2, P⟩
  obtain ⟨fs, b, cs', e1, e3, P⟩ := ownIn_go P
  obtain ⟨p, dd, vs, rfl, h2, q⟩ := ins_of R r2 e1
  obtain rfl : u = Value.ref p := ry
  obtain ⟨mA, J, _⟩ := ins_get I.hok h2
  obtain ⟨od, J, _⟩ := J.look
  obtain ⟨m, hF⟩ := I.fr
  refine PySem.W.notIn_K hF I.ok.mod.kin J O.at_ O.fn ?_
  refine wpAny_call (codeAny_mono (run_p (Y := yNo) (us := [.ref p, v]) (vs := [.ref p, x]) (Q := fun z H' => z = .bl b ∧ Q (.bl (!b)) H') B hr hg I.ok.frames tkNo I (.cons rfl (.cons rx .nil)) R (.cons r2 (.cons r1 .nil)) ?_) fun rr s' hq => ?_)
  · rw [e3]
    intro W' H' z l R' r'
    cases r'
    exact ⟨rfl, (P.up l).here R' (.bl _)⟩
  · cases rr with
    | error e => exact hq
    | ok fl =>
      cases fl with
      | ret z =>
        obtain ⟨z', H', I', rz, rfl, hq⟩ := hq
        obtain rfl : z = Value.bool b := rz
        exact wpAny_truthy_bool ⟨.bl (!b), H', I', rfl, hq⟩
      | next => exact hq
      | brk => exact hq
      | cont => exact hq
end
end PV

namespace PV
open PySem PySem.Spec PyProof.Rows L2

/-! ### starred items in lists and in calls -/
def aStar (fe : Fe) (ga : Fa) : Fa := fun σ cs => (fe σ cs).bind fun d c1 => match seqOf c1 d with
  | some xs => (ga σ c1).bind fun ys c2 => Out.ok (xs ++ ys) c2
  | none => .no
section
variable {X : Cx} {cm : Nat → Addr} {Y : WX} {e e1 e2 : Expr} {es : List Expr} {fe : Fe} {ga : Fa} {p pos : Pos} {v : Value} {F : Fk} {x : Str}
theorem fa_star (he : FE X cm Y e fe) (hr : FA X cm Y es ga) (hs : starEach (.Starred e p :: es) X.env = (true, eval e X.env) :: starEach es X.env := by rfl) : FA X cm Y (.Starred e p :: es) (aStar fe ga) := PA.weak (StX.pa_star he hr hs) fun σ H Q ⟨W, σd, cs, R, N, P⟩ => by
  refine tE_go R N asksA P fun d c1 _ h1 W1 H1 y l1 R1 N1 r1 => ?_
  split at h1
  · rename_i xs ex
    obtain ⟨a, vs, rfl, hq, rr⟩ := seq_of R1 r1 ex
    refine ⟨a, vs, rfl, hq.symm, tA_go R1 N1 asksA (h1.up l1) fun d2 c2 _ h2 W2 H2 v2 l2 R2 E2 r2 => ?_⟩
    exact (h2.up l2).here R2 ((rr.up l2).app r2)
  · exact h1.elim
theorem evalArgs_two {M : Model} {A : Around} {E : Value → Shared → Prop} {s : Shared} {f : Value} {x y : Bool × Sem Value} {rest : List (Bool × Sem Value)} {Q : Args → Shared → Prop}
    (h : wpAny M A (spliced (x :: y :: rest)) (fun vs s' => Q ⟨vs, []⟩ s') E s) : wpAny M A (evalArgs f true (x :: y :: rest) []) Q E s := by
  obtain ⟨b, x⟩ := x
  cases b with
  | false => exact Calls.evalArgs_plain h
  | true =>
    unfold evalArgs
    show wpAny M A (spliced ((true, x) :: y :: rest) >>= _) Q E s
    refine wpAny_bind (wpAny_mono h (fun vs s' h' => ?_) fun _ _ x => x)
    refine wpAny_holding ?_
    exact wpAny_bind (wpAny_pure (wpAny_bind (wpAny_pure (wpAny_pure h'))))
open PySem.W in
theorem callWith_S3 {M : Model} {A : Around} {E : Value → Shared → Prop} {s : Shared} {K : PySem.W.Frag} {env : Env} {f : Value} {first : List Value} {Q : Value → Shared → Prop} {x y : Bool × Sem Value} {r : List (Bool × Sem Value)} (hk : keepIn K f = true) (he : backTo pos (starEach (e1 :: e2 :: es) env) = x :: y :: r)
    (hst : (backTo pos (starEach (e1 :: e2 :: es) env)).any (·.1) = true)
    (h : wpAny M A (spliced (backTo pos (starEach (e1 :: e2 :: es) env))) (fun vs s₁ => K.In s₁.heap ∧ wpAny M A (call f (first ++ vs)) Q E s₁) E s) : wpAny M A (callWith pos f first (backTo pos (starEach (e1 :: e2 :: es) env)) []) Q E s := by
  rw [he] at h hst ⊢
  exact ks_call hst (keeps_K hk) (evalArgs_two h)
/-- f(*a, b, ..), two arguments or more, some of them starred -/
theorem fe_callStar {a b : Bool × Sem Value} {r : List (Bool × Sem Value)} (c : Cal X cm Y v [] F) (hm : X.mg x = some v) (ha : FA X cm Y (e1 :: e2 :: es) ga) (hg : Gl X x := by rfl) (hdb : (x == ("__debug__" : Str)) = false := by decide)
    (he : backTo pos (starEach (e1 :: e2 :: es) X.env) = a :: b :: r := by rfl) (hst : (backTo pos (starEach (e1 :: e2 :: es) X.env)).any (·.1) = true := by rfl) : FE X cm Y (.Call (.Name x p) (e1 :: e2 :: es) [] pos) (fCall F ga aNil) := by
  refine ⟨fun pins s σ H Q I ⟨W, σd, cs, R, E, h⟩ => ?_⟩
  refine wpAny_Call_Name_kw (ld_glob I hg hm ?_ hdb)
  have t := tA_go (Q := fun vs H1 => ∃ W1 ds c1, Rel X.K cm W1 c1 H1 ∧ Rps X.K cm W1 ds vs ∧ PostE X.K cm Y σ W1 (F ds [] c1) Q) R E asksE h fun d c1 _ h1 W1 H1 v l1 R1 E1 r1 => ⟨W1, d, c1, R1, r1, h1.up l1⟩
  refine callWith_S3 c.kp he hst (thn (ha.run pos pins s σ H _ I t) fun us s1 ⟨vs, H1, I1, rv, W1, ds, c1, R1, r1, h1⟩ => ⟨I1.kIn, ?_⟩)
  exact c.run pins s1 σ H1 us [] vs [] Q W1 ds [] c1 I1 rv .nil rfl R1 r1 .nil h1
end
end PV

namespace PV
open PySem PySem.Spec PyProof.Rows L2
variable {X : Cx} {cm : Nat → Addr} {Y : WX}

/-! ### a chain of four comparisons, as a test -/
def vLk (r : R2) (tb : TE) (rest : V → TE) (x : V) : TE := fun σ H Q => tb σ H fun y H2 => r x y H2 fun z H3 => ∃ k, z = .bl k ∧ (if k = true then rest y σ H3 Q else Q (.bl false) H3)
def vLa (r : R2) (tb : TE) (x : V) : TE := fun σ H Q => tb σ H fun y H2 => r x y H2 Q
def vCh4 (r1 r2 r3 r4 : R2) (ta tb tc td te : TE) : TE := fun σ H Q => ta σ H fun x H1 => vLk r1 tb (vLk r2 tc (vLk r3 td (vLa r4 te))) x σ H1 Q
theorem pt_chain4 {a b c d e : Expr} {pos : Pos} {ta tb tc td te : TE} {o1 o2 o3 o4 : CmpOp} {r1 r2 r3 r4 : R2} (h1 : OpR X (compareOp o1) r1) (h2 : OpR X (compareOp o2) r2) (h3 : OpR X (compareOp o3) r3) (h4 : OpR X (compareOp o4) r4)
    (ha : PE X a ta) (hb : PE X b tb) (hc : PE X c tc) (hd : PE X d td) (he : PE X e te)
    (hm : lastMarks [o1, o2, o3, o4] [b, c, d, e] = false := by with_unfolding_all rfl) : PT X (.Compare a [o1, o2, o3, o4] [b, c, d, e] pos) (tTest (vCh4 r1 r2 r3 r4 ta tb tc td te)) := by
  refine ⟨fun pins s σ H Q I h => ?_⟩
  refine isTrue_chain (thn (ha.run pins s σ H _ I h) fun v s1 ⟨x, H1, I1, q1, p1⟩ => ?_) hm
  refine test_link (thn (hb.run pins s1 σ H1 _ I1 p1) fun u s2 ⟨y, H2, I2, q2, p2⟩ => thn (h1 pins s2 σ H2 x y v u _ I2 q1 q2 p2) fun g s3 ⟨z, H3, I3, q3, k, e3, p3⟩ => ?_)
  subst e3
  cases q3
  refine wpAny_truthy_bool ?_
  cases k with
  | false =>
    obtain ⟨k', e', q'⟩ := p3
    cases e'
    exact ite_ff ⟨H3, I3, q'⟩
  | true =>
    refine ite_tt ?_
    refine test_link (thn (hc.run pins s3 σ H3 _ I3 p3) fun w s4 ⟨y2, H4, I4, q4, p4⟩ => thn (h2 pins s4 σ H4 y y2 u w _ I4 q2 q4 p4) fun g2 s5 ⟨z2, H5, I5, q5, k2, e5, p5⟩ => ?_)
    subst e5
    cases q5
    refine wpAny_truthy_bool ?_
    cases k2 with
    | false =>
      obtain ⟨k', e', q'⟩ := p5
      cases e'
      exact ite_ff ⟨H5, I5, q'⟩
    | true =>
      refine ite_tt ?_
      refine test_link (thn (hd.run pins s5 σ H5 _ I5 p5) fun w2 s6 ⟨y3, H6, I6, q6, p6⟩ => thn (h3 pins s6 σ H6 y2 y3 w w2 _ I6 q4 q6 p6) fun g3 s7 ⟨z3, H7, I7, q7, k3, e7, p7⟩ => ?_)
      subst e7
      cases q7
      refine wpAny_truthy_bool ?_
      cases k3 with
      | false =>
        obtain ⟨k', e', q'⟩ := p7
        cases e'
        exact ite_ff ⟨H7, I7, q'⟩
      | true =>
        refine ite_tt (test_last (thn (he.run pins s7 σ H7 _ I7 p7) fun w3 s8 ⟨y4, H8, I8, q8, p8⟩ => thn (h4 pins s8 σ H8 y3 y4 w2 w3 _ I8 q6 q8 p8) fun g4 s9 ⟨z4, H9, I9, q9, k4, e9, p9⟩ => ?_))
        subst e9
        cases q9
        exact wpAny_truthy_bool ⟨H9, I9, p9⟩
def fLk (g : G2) (fb : Fe) (rest : D → Fe) (x : D) : Fe := fun σ cs => (fb σ cs).bind fun y c2 => (up (g x y c2)).bind fun z c3 => match z with
  | .bl true => rest y σ c3
  | .bl false => .ok (.bl false) c3
  | _ => .no
def fLa (g : G2) (fb : Fe) (x : D) : Fe := fun σ cs => (fb σ cs).bind fun y c2 => up (g x y c2)
def fCh4 (g1 g2 g3 g4 : G2) (fa fb fc fd fe : Fe) : Fe := fun σ cs => (fa σ cs).bind fun x c1 => fLk g1 fb (fLk g2 fc (fLk g3 fd (fLa g4 fe))) x σ c1
/-- the rest of a chain, in both worlds -/
def TGo (K : PySem.W.Frag) (cm : Nat → Addr) (Y : WX) (rest : D → Fe) (tr : V → TE) : Prop := ∀ (W : Wd) (σd : Sd) (cs : List Cell) (d : D) (x : V) (σ : L2.St) (H : Hp) (Q : VK), Rel K cm W cs H → En K cm W σd σ → Rp K cm W d x → PostE K cm Y σ W (rest d σd cs) Q → tr x σ H Q
theorem tgo_last {K : PySem.W.Frag} {g : G2} {fb : Fe} : TGo K cm Y (fLa g fb) (vLa (rO2 K cm g) (tE K cm Y fb)) := by
  intro W σd cs d x σ H Q R E rx h
  refine tE_go R E asksE h fun d4 c4 _ h4 W4 H4 v4 l4 R4 E4 r4 => ?_
  exact ⟨W4, d, d4, c4, R4, rx.up l4, r4, (PostE.down h4).up l4⟩
theorem tgo_link {K : PySem.W.Frag} {g : G2} {fb : Fe} {rest : D → Fe} {tr : V → TE} (hr : TGo K cm Y rest tr) : TGo K cm Y (fLk g fb rest) (vLk (rO2 K cm g) (tE K cm Y fb) tr) := by
  intro W σd cs d x σ H Q R E rx h
  refine tE_go R E asksE h fun d2 c2 _ h2 W2 H2 v2 l2 R2 E2 r2 => ?_
  have h2 := h2
  cases e3 : g d d2 c2 with
  | none => rw [e3] at h2; exact h2.elim
  | some p =>
    obtain ⟨z, c3⟩ := p
    rw [e3] at h2
    refine ⟨W2, d, d2, c2, R2, rx.up l2, r2, z, c3, e3, fun W3 H3 v3 l3 R3 r3 => ?_⟩
    have h3 := (h2.up l2).up l3
    cases r3 with
    | bl k =>
      refine ⟨k, rfl, ?_⟩
      cases k with
      | false => exact iteF (h3.here R3 (.bl false))
      | true => exact iteT (hr W3 σd c3 d2 v2 σ H3 Q R3 (E2.up l3) (r2.up l3) h3)
    | _ => exact h3.elim
theorem ch4_go {K : PySem.W.Frag} {g1 g2 g3 g4 : G2} {fa fb fc fd fe : Fe} {σ : L2.St} {H : Hp} {Q : VK} (m : tE K cm Y (fCh4 g1 g2 g3 g4 fa fb fc fd fe) σ H Q) :
    vCh4 (rO2 K cm g1) (rO2 K cm g2) (rO2 K cm g3) (rO2 K cm g4) (tE K cm Y fa) (tE K cm Y fb) (tE K cm Y fc) (tE K cm Y fd) (tE K cm Y fe) σ H Q := by
  obtain ⟨W, σd, cs, R, E, h⟩ := m
  refine tE_go R E asksE h fun d c1 _ h1 W1 H1 v l1 R1 E1 r1 => ?_
  exact tgo_link (tgo_link (tgo_link tgo_last)) W1 σd c1 d v σ H1 Q R1 E1 r1 (h1.up l1)
theorem ft_chain4 {a b c d e : Expr} {pos : Pos} {o1 o2 o3 o4 : CmpOp} {g1 g2 g3 g4 : G2} {fa fb fc fd fe : Fe} (h1 : OpR X (compareOp o1) (rO2 X.K cm g1)) (h2 : OpR X (compareOp o2) (rO2 X.K cm g2)) (h3 : OpR X (compareOp o3) (rO2 X.K cm g3)) (h4 : OpR X (compareOp o4) (rO2 X.K cm g4))
    (ha : FE X cm Y a fa) (hb : FE X cm Y b fb) (hc : FE X cm Y c fc) (hd : FE X cm Y d fd) (he : FE X cm Y e fe)
    (hm : lastMarks [o1, o2, o3, o4] [b, c, d, e] = false := by with_unfolding_all rfl) : FT X cm Y (.Compare a [o1, o2, o3, o4] [b, c, d, e] pos) (fTst (fCh4 g1 g2 g3 g4 fa fb fc fd fe)) :=
  PT.weak (pt_chain4 h1 h2 h3 h4 ha hb hc hd he hm) fun _ _ _ m => tst_go m fun _ => ch4_go
end PV

namespace PV
open PySem PySem.Spec PyProof.Rows L2

/-! ### int.bit_length -/
section
variable {X : Cx} {cm : Nat → Addr} {Y : WX} {o : Expr} {fo : Fe} {apos pos : Pos}
def fBits (fo : Fe) : Fe := fun σ cs => (fo σ cs).bind fun d c => match d with
  | .int i => .ok (.int (Builtin.Int.intBits i : Nat)) c
  | _ => .no
theorem fe_bits (ho : FE X cm Y o fo) (hb : attributeBase o "bit_length" X.env (eval o X.env) = eval o X.env := by rfl) (hl : (apos.endLine == pos.line) = true := by rfl) : FE X cm Y (.Call (.Attribute o "bit_length" apos) [] [] pos) (fBits fo) := PE.weak (pe_bits ho hb hl) fun σ H Q ⟨W, σd, cs, R, N, P⟩ => by
  refine tE_go R N asksE P fun d c1 _ h1 W1 H1 v l1 R1 N1 r1 => ?_
  split at h1
  · cases r1
    exact ⟨_, rfl, h1 W1 H1 _ l1 R1 (.int _)⟩
  · exact h1.elim
end
end PV

namespace PV
open PySem PySem.Spec PyProof.Rows L2

/-! ### == and != by identity: instances of a class without an own __eq__ -/
theorem oeq_tree (a b : Value) : Builtin.«object.__eq__» ⟨[a, b], []⟩ = (isSame a b >>= fun t => if t = true then ret (.bool true) else ret .notImplemented) := by
  kernel_rfl
section
variable {prog : Program} {w : World} {A : Around} {E : Value → Shared → Prop} {s : Shared} {K : PySem.W.Frag} {x y C : Addr} {ox oy : Obj} {od od' : Option Obj}
theorem same_refs {M : Model} {R : Bool → Shared → Prop} (h1 : s.heap.get? x = some ox) (h2 : s.heap.get? y = some oy) (hc : ox.cls = .ref C) (h : R (decide (x = y)) s) : wpAny M A (isSame (.ref x) (.ref y)) R E s := by
  by_cases e : x = y
  · subst e
    rw [decide_eq_true rfl] at h
    exact wpAny_isSame_ref_self h
  · rw [decide_eq_false e] at h
    exact wpAny_isSame_ref_other e h1 h2 (by rw [hc]; simp) h
open PySem.W in
theorem call_oeq {v : Value} {Q : Value → Shared → Prop} (X : K.In s.heap) (I : InstAt s.heap x ox C od) (hm : mroIn K C (.type "object") = some true)
    (h : ∀ E, wpAny (model prog w) A.in1 (isSame (.ref x) v) (fun t s' => Q (if t = true then .bool true else .notImplemented) s') E s) : wpAny (model prog w) A (call (.builtin "object.__eq__") [.ref x, v]) Q E s := by
  have sub : Looks (model prog w) s.heap (isInstance (.ref x) (.type "object")) true := I.type.andThen (looks_mroIn X hm)
  refine wpAny_call (codeAny_call_builtin (by decide +kernel) F.cmpEntry_eq (@check_slot (model prog w) _ _ s "object.__eq__" "object" "__eq__" (.ref x) [v] [] _ F.cmpKind_eq F.cmpSplit_eq sub (F.cmpArgs_eq _ _) ?_))
  rw [oeq_tree]
  refine wpAny_bind (wpAny_mono (h _) (fun t s' hq => ?_) fun _ _ e => e)
  cases t with
  | true => exact wpAny_pure hq
  | false => exact wpAny_pure hq
structure IdE (K : PySem.W.Frag) (C : Addr) : Prop where
  eq : PySem.W.findIn K (.ref C) "__eq__" = some (some (.builtin "object.__eq__"))
  ne : PySem.W.findIn K (.ref C) "__ne__" = some (some (.builtin "object.__ne__"))
  hm : PySem.W.mroIn K C (.type "object") = some true
open PySem.W in
theorem try_eq (D : IdE K C) (X : K.In s.heap) (I : InstAt s.heap x ox C od) (I' : InstAt s.heap y oy C od') {Q : Option Value → Shared → Prop} (h : Q (if x = y then some (.bool true) else none) s) : wpAny (model prog w) A (tryCompare (.ref x) "__eq__" (.ref y)) Q E s := by
  unfold tryCompare
  refine wpAny_bind (HN.ifBound_objEq X I D.eq (call_oeq X I D.hm fun _ => (same_refs I.at_ I'.at_ I.cls ?_)))
  by_cases e : x = y
  · rw [if_pos e] at h
    rw [decide_eq_true e]
    exact wpAny_pure h
  · rw [if_neg e] at h
    rw [decide_eq_false e]
    exact wpAny_pure h
open PySem.W in
theorem rc_id (hu : A.units + 1 < cLine) (D : IdE K C) (X : K.In s.heap) (I : InstAt s.heap x ox C od) (I' : InstAt s.heap y oy C od') {Q : Value → Shared → Prop} (h : Q (.bool (decide (x = y))) s) : wpAny (model prog w) A (richCompare .Eq (.ref x) (.ref y)) Q E s := by
  unfold richCompare
  simp only [oneThing_ref]
  refine wpAny_holding (wpAny_bind (wpAny_cRoomFor (by omega) ?_))
  refine wpAny_bind (I.type.here (wpAny_bind (I'.type.here ?_)))
  rw [if_neg (by simp)]
  refine wpAny_bind (wpAny_pure ?_)
  simp only [Bool.false_eq_true, if_false]
  refine wpAny_bind (try_eq D X I I' ?_)
  by_cases e : x = y
  · rw [if_pos e]
    rw [decide_eq_true e] at h
    exact wpAny_pure h
  · rw [if_neg e]
    simp only [Bool.not_false, if_true]
    refine wpAny_bind (try_eq D X I' I ?_)
    rw [if_neg (fun z => e z.symm)]
    refine wpAny_bind (wpAny_rule ?_)
    refine wpAny_bind (same_refs I.at_ I'.at_ I.cls ?_)
    exact wpAny_pure h
open PySem.W in
theorem try_ne (hu : A.units + 1 < cLine) (D : IdE K C) (X : K.In s.heap) (I : InstAt s.heap x ox C od) (I' : InstAt s.heap y oy C od') {Q : Option Value → Shared → Prop} (h : Q (if x = y then some (.bool false) else none) s) : wpAny (model prog w) A (tryCompare (.ref x) "__ne__" (.ref y)) Q E s := by
  unfold tryCompare
  have sub : Looks (model prog w) s.heap (isInstance (.ref x) (.type "object")) true := I.type.andThen (looks_mroIn X D.hm)
  refine wpAny_bind (ifBound_ne X I D.ne ?_)
  refine wpAny_call (codeAny_call_builtin (by decide +kernel) F.cmpEntry_ne (@check_slot (model prog w) _ _ s "object.__ne__" "object" "__ne__" (.ref x) [.ref y] [] _ F.cmpKind_ne F.cmpSplit_ne sub (F.cmpArgs_ne _ _) ?_))
  rw [ne_tree]
  refine wpAny_bind (wpAny_cRoomFor hu ?_)
  refine wpAny_bind (HN.ifBound_objEq X I D.eq (call_oeq X I D.hm fun _ => (same_refs I.at_ I'.at_ I.cls ?_)))
  by_cases e : x = y
  · rw [if_pos e] at h
    rw [decide_eq_true e]
    exact wpAny_pure (wpAny_pure h)
  · rw [if_neg e] at h
    rw [decide_eq_false e]
    exact wpAny_pure (wpAny_pure h)
open PySem.W in
theorem rc_idne (hu : A.units + 1 < cLine) (D : IdE K C) (X : K.In s.heap) (I : InstAt s.heap x ox C od) (I' : InstAt s.heap y oy C od') {Q : Value → Shared → Prop} (h : Q (.bool (!decide (x = y))) s) : wpAny (model prog w) A (richCompare .NotEq (.ref x) (.ref y)) Q E s := by
  unfold richCompare
  simp only [oneThing_ref]
  refine wpAny_holding (wpAny_bind (wpAny_cRoomFor (by omega) ?_))
  refine wpAny_bind (I.type.here (wpAny_bind (I'.type.here ?_)))
  rw [if_neg (by simp)]
  refine wpAny_bind (wpAny_pure ?_)
  simp only [Bool.false_eq_true, if_false]
  refine wpAny_bind (try_ne hu D X I I' ?_)
  by_cases e : x = y
  · rw [if_pos e]
    rw [decide_eq_true e] at h
    exact wpAny_pure h
  · rw [if_neg e]
    simp only [Bool.not_false, if_true]
    refine wpAny_bind (try_ne hu D X I' I ?_)
    rw [if_neg (fun z => e z.symm)]
    refine wpAny_bind (wpAny_rule ?_)
    refine wpAny_bind (same_refs I.at_ I'.at_ I.cls ?_)
    exact wpAny_pure h
end
section
variable {X : Cx} {cm : Nat → Addr} {Y : WX} {c : Nat}
/-- by values -/
def rId (K : PySem.W.Frag) (C : Addr) (neg : Bool) : R2 := fun x y H Q => ∃ a b dx dx' vs vs', x = .ref a ∧ y = .ref b ∧ H a = some (.ins C dx vs) ∧ H b = some (.ins C dx' vs') ∧ Q (.bl (if neg then !decide (a = b) else decide (a = b))) H
theorem op_id {C : Addr} (D : IdE X.K C) (hu : X.A.units + 1 < cLine) : OpR X (compareOp .Eq) (rId X.K C false) := by
  intro pins s σ H x y v u Q I rx ry ⟨a, b, dx, dx', vs, vs', e1, e2, h1, h2, hq⟩
  subst e1 e2
  obtain rfl : v = Value.ref a := rx
  obtain rfl : u = Value.ref b := ry
  obtain ⟨mA, J, _⟩ := ins_get I.hok h1
  obtain ⟨od, J, _⟩ := J.look
  obtain ⟨mB, J', _⟩ := ins_get I.hok h2
  obtain ⟨od', J', _⟩ := J'.look
  exact rc_id hu D I.kIn J J' ⟨.bl (decide (a = b)), H, I, rfl, hq⟩
theorem op_idNe {C : Addr} (D : IdE X.K C) (hu : X.A.units + 1 < cLine) : OpR X (compareOp .NotEq) (rId X.K C true) := by
  intro pins s σ H x y v u Q I rx ry ⟨a, b, dx, dx', vs, vs', e1, e2, h1, h2, hq⟩
  subst e1 e2
  obtain rfl : v = Value.ref a := rx
  obtain rfl : u = Value.ref b := ry
  obtain ⟨mA, J, _⟩ := ins_get I.hok h1
  obtain ⟨od, J, _⟩ := J.look
  obtain ⟨mB, J', _⟩ := ins_get I.hok h2
  obtain ⟨od', J', _⟩ := J'.look
  exact rc_idne hu D I.kIn J J' ⟨.bl (!decide (a = b)), H, I, rfl, hq⟩
/-- a frozen instance and a cell are two objects -/
def dId (neg : Bool) (c : Nat) : G2 := fun x y cs => match x, y with
  | .ins c1 _, .ref j => match cs[j]? with
    | some (.ins c2 _) => if c1 = c ∧ c2 = c then some (.bl neg, cs) else none
    | _ => none
  | .ref j, .ins c1 _ => match cs[j]? with
    | some (.ins c2 _) => if c1 = c ∧ c2 = c then some (.bl neg, cs) else none
    | _ => none
  | _, _ => none
theorem id_two {K : PySem.W.Frag} {W : Wd} {H : Hp} {cs : List Cell} {neg : Bool} {fs : List (Str × D)} {j : Nat} {fs' : List (Str × D)} {x y : V} {Q : VK} (R : Rel K cm W cs H) (r1 : Rp K cm W (.ins c fs) x) (r2 : Rp K cm W (.ref j) y) (e : cs[j]? = some (.ins c fs'))
    (P : Post K cm W (some (.bl neg, cs)) Q) : rId K (cm c) neg x y H Q ∧ rId K (cm c) neg y x H Q := by
  cases r1 with
  | @ins _ _ a dx vs g q =>
    cases r2 with
    | @ref _ b hb =>
      obtain ⟨g0, dx', vs', e', _⟩ := R.cel j b _ hb e
      have ne : a ≠ b := fun z => by rw [z, g0] at g; cases g
      have ne' : b ≠ a := fun z => ne z.symm
      have hq := P.here R (.bl neg)
      refine ⟨⟨a, b, dx, dx', vs, vs', rfl, rfl, R.sub _ _ g, e', ?_⟩, ⟨b, a, dx', dx, vs', vs, rfl, rfl, e', R.sub _ _ g, ?_⟩⟩
      · rw [decide_eq_false ne]; cases neg <;> exact hq
      · rw [decide_eq_false ne']; cases neg <;> exact hq
theorem dId_go {K : PySem.W.Frag} {W : Wd} {H : Hp} {cs : List Cell} {neg : Bool} {dx dy : D} {x y : V} {Q : VK} (R : Rel K cm W cs H) (r1 : Rp K cm W dx x) (r2 : Rp K cm W dy y) (P : Post K cm W (dId neg c dx dy cs) Q) : rId K (cm c) neg x y H Q := by
  unfold dId at P
  split at P
  · split at P
    · rename_i e
      split at P
      · rename_i hc
        obtain ⟨rfl, rfl⟩ := hc
        exact (id_two R r1 r2 e P).1
      · exact absurd rfl P.ne
    · exact absurd rfl P.ne
  · split at P
    · rename_i e
      split at P
      · rename_i hc
        obtain ⟨rfl, rfl⟩ := hc
        exact (id_two R r2 r1 e P).2
      · exact absurd rfl P.ne
    · exact absurd rfl P.ne
  · exact absurd rfl P.ne
theorem op_dId (D : IdE X.K (cm c)) (hu : X.A.units + 1 < cLine) : OpR X (compareOp .Eq) (rO2 X.K cm (dId false c)) := by
  intro pins s σ H x y v u Q I rx ry ⟨W, dx, dy, cs, R, r1, r2, P⟩
  exact op_id D hu pins s σ H x y v u Q I rx ry (dId_go R r1 r2 P)
theorem op_dIdNe (D : IdE X.K (cm c)) (hu : X.A.units + 1 < cLine) : OpR X (compareOp .NotEq) (rO2 X.K cm (dId true c)) := by
  intro pins s σ H x y v u Q I rx ry ⟨W, dx, dy, cs, R, r1, r2, P⟩
  exact op_idNe D hu pins s σ H x y v u Q I rx ry (dId_go R r1 r2 P)
/-- x == x, x != x of a name x that holds an instance of class c -/
def fSelf (neg : Bool) (c i : Nat) : Fe := fun σ cs => match σ[i]? with
  | some (some d) => match insOf cs d with
    | some (c', _) => if c' = c then .ok (.bl (!neg)) cs else .no
    | none => .no
  | _ => .no
theorem self_go {K : PySem.W.Frag} {neg : Bool} {i : Nat} {σ : L2.St} {H : Hp} {Q : VK} (m : tE K cm Y (fSelf neg c i) σ H Q) : ∃ v, σ[i]? = some (some v) ∧ rId K (cm c) neg v v H Q := by
  obtain ⟨W, σd, cs, R, E, P⟩ := m
  unfold fSelf at P
  split at P
  · rename_i d hd
    split at P
    · rename_i c' fs e
      split at P
      · rename_i hc
        subst hc
        obtain ⟨v, hv, r⟩ := E.at_ _ _ hd
        obtain ⟨a, dx, vs, rfl, h2, q⟩ := ins_of R r e
        refine ⟨_, hv, a, a, dx, dx, vs, vs, rfl, rfl, h2, h2, ?_⟩
        have hq := P.here R (.bl (!neg))
        rw [decide_eq_true rfl]
        cases neg <;> exact hq
      · exact P.elim
    · exact P.elim
  · exact P.elim
theorem fe_selfEq {i : Nat} {x : Str} {p1 p2 pos : Pos} (D : IdE X.K (cm c)) (hu : X.A.units + 1 < cLine) (hN : X.N[i]? = some x := by rfl) (hv : Vis X.env.scope x := by first | exact Or.inl rfl | exact Or.inr (Or.inl rfl) | exact Or.inr (Or.inr rfl)) (hd : (x == ("__debug__" : Str)) = false := by decide) (hcd : (x == ("__classdict__" : Str)) = false := by decide) : FE X cm Y (.Compare (.Name x p1) [.Eq] [.Name x p2] pos) (fSelf false c i) :=
  PE.weak (pe_cmpR (op_id D hu) (pe_var hN hv hd hcd) (pe_var hN hv hd hcd) rfl) fun σ H Q m => by
    obtain ⟨v, hv, h⟩ := self_go m
    exact ⟨v, hv, v, hv, h⟩
theorem fe_selfNe {i : Nat} {x : Str} {p1 p2 pos : Pos} (D : IdE X.K (cm c)) (hu : X.A.units + 1 < cLine) (hN : X.N[i]? = some x := by rfl) (hv : Vis X.env.scope x := by first | exact Or.inl rfl | exact Or.inr (Or.inl rfl) | exact Or.inr (Or.inr rfl)) (hd : (x == ("__debug__" : Str)) = false := by decide) (hcd : (x == ("__classdict__" : Str)) = false := by decide) : FE X cm Y (.Compare (.Name x p1) [.NotEq] [.Name x p2] pos) (fSelf true c i) :=
  PE.weak (pe_cmpR (op_idNe D hu) (pe_var hN hv hd hcd) (pe_var hN hv hd hcd) rfl) fun σ H Q m => by
    obtain ⟨v, hv, h⟩ := self_go m
    exact ⟨v, hv, v, hv, h⟩
end
end PV

namespace PV
open PySem PySem.Spec PyProof.Rows L2

/-! ### exceptions: raise, try, isinstance -/
/-- what is asked of an exception class of the text (over ValueError, without an __init__ of its own) -/
structure XOk (K : PySem.W.Frag) (C : Addr) : Prop where
  ex : PySem.W.excIn K C [.type "ValueError", .type "Exception", .type "BaseException", .type "object"] "ValueError.__new__" = true
  kp : PySem.W.keepIn K (.ref C) = true
  sb : PySem.W.subIn K (.ref C) (.type "BaseException") = some true
  ty : PySem.W.typeIn K (.ref C) = some (.type "type")
section
variable {X : Cx} {cm : Nat → Addr} {Y : WX} {c : Nat}
def sRaise (c : Nat) : Fs := fun σ cs => .ex (c, []) σ cs
theorem fs_raise {x m : Str} {j : Nat} {p p2 p3 pos : Pos} (O : XOk X.K (cm c)) (hm : X.mg x = some (.ref (cm c))) (tk : Takes X Y) (hc : X.calm = true := by rfl) (hg : Gl X x := by rfl) (hdb : (x == ("__debug__" : Str)) = false := by decide) :
    FS X cm Y (.Raise (some (.Call (.Name x p) [.Constant (.str m) j p2] [] p3)) none pos) (sRaise c) :=
  PS.weak (ps_raise hc tk (pmk_own PySem.F.excBase_ValueError O.ex hm O.kp (raises_own O.sb O.ty) hg hdb)) fun E σ H ⟨W, σd, cs, R, N, P⟩ => P W H σ none (.refl W) R N (.inl ⟨rfl, rfl⟩)
end
section
variable {X : Cx} {cm : Nat → Addr} {Y : WX}
theorem upTo_trans {h h' h'' : Heap} (a : h.UpToSlots h') (b : h'.UpToSlots h'') : h.UpToSlots h'' := fun x o e n => by
  obtain ⟨sl, e'⟩ := a x o e n
  obtain ⟨sl', e''⟩ := b x _ e' n
  exact ⟨sl', e''⟩
/-- an exception that stands there is tracked -/
theorem Inv.track {pins : List (Addr × Obj)} {σ : L2.St} {H : Hp} {s : Shared} {a C : Addr} {oe : Obj} {vs : Array Value} (I : Inv X pins σ H s) (h0 : H a = none) (hs : X.s_0.heap.get? a = none) (hp : ∀ p ∈ X.pn ++ pins, p.1 ≠ a) (hl : a ≠ X.env.locals) (he : s.heap.get? a = some oe) (hd : oe.data = .fields vs) (hc : oe.cls = .ref C) (hn : oe.dict = none) :
    Inv X pins σ (upd H a (.ext (exPhi C a))) s := by
  have ne : ∀ {b u}, H b = some u → b ≠ a := fun {b u} e => ne_of_none e h0
  refine ⟨I.ok, I.os, I.bare, ?_, I.loc, I.cell, ?_, fun x c hx => ?_, fun p hpp => ?_, fun b o hb => ?_, I.len⟩
  · have B := I.base
    refine ⟨B.keep, B.slot, fun b o e1 e2 e3 => ?_, B.there, fun b xs e => ?_, fun b o u e => ?_, fun b ps e => ?_⟩
    · have : b ≠ a := fun z => by rw [z, hs] at e1; cases e1
      rw [upd_ne this]; exact B.free b o e1 e2 e3
    · have q := B.tups b xs e
      rw [upd_ne (ne q)]; exact q
    · have q := B.frzs b o u e
      rw [upd_ne (ne q)]; exact q
    · obtain ⟨more, q⟩ := B.tbls b ps e
      exact ⟨more, by rw [upd_ne (ne q)]; exact q⟩
  · rw [upd_ne (fun z => hl z.symm)]; exact I.free
  · have q := I.freeC x c hx
    have : c ≠ a := fun z => by
      obtain ⟨v, o, e1, e2⟩ := I.cell x c hx
      rw [z, he] at e1
      cases e1
      rw [hd] at e2
      cases e2
    rw [upd_ne this]; exact q
  · obtain ⟨q1, q2, q3⟩ := I.pin p hpp
    exact ⟨q1, by rw [upd_ne (hp p hpp)]; exact q2, q3⟩
  · by_cases z : b = a
    · subst z
      rw [upd_same] at hb
      cases hb
      refine ⟨⟨oe, vs, he, hc, hn, hd⟩, ⟨oe, he⟩, ?_⟩
      rintro h1 h2 ⟨o, us, e1, e2⟩ k
      exact ⟨o, us, k o e1, e2⟩
    · rw [upd_ne z] at hb
      exact (I.hok b o hb).stay (fun _ _ _ e => e) (fun q e => by rw [upd_ne (ne e)]; exact e) (fun q xs e => by rw [upd_ne (ne e)]; exact e)
/-- Rel with an exception tracked -/
theorem Rel.exn {K : PySem.W.Frag} {W : Wd} {cs : List Cell} {H : Hp} (R : Rel K cm W cs H) {a : Addr} {c : Nat} (h0 : H a = none) : ∃ W' : Wd, W.le W' ∧ Rel K cm W' cs (upd H a (.ext (exPhi (cm c) a))) ∧ Rp K cm W' (.exn c) (.ref a) := by
  obtain ⟨le, R'⟩ := R.newG (.ext (exPhi (cm c) a)) h0
  exact ⟨_, le, R', .exn (by show upd W.G a _ a = _; exact upd_same)⟩
theorem En.clear {K : PySem.W.Frag} {W : Wd} {σd : Sd} {σ : L2.St} (h : En K cm W σd σ) (i : Nat) : En K cm W (σd.set i none) (σ.set i none) := by
  refine ⟨by rw [List.length_set, List.length_set]; exact h.len, fun j d e => ?_⟩
  by_cases q : j = i
  · subst q
    rw [List.getElem?_set] at e
    split at e
    · split at e <;> cases e
    · contradiction
  · rw [List.getElem?_set_ne (Ne.symm q)] at e ⊢
    exact h.at_ j d e
theorem not_frs {h base : Heap} {a : Addr} {oe : Obj} {vs : Array Value} (h1 : h.get? a = some oe) (h2 : oe.data = .fields vs) : ∀ {l : List Env}, h.FunFrames base l → a ∉ frs l
  | [], _ => by simp [frs]
  | e :: l, hF => by
    simp only [Heap.FunFrames] at hF
    obtain ⟨_, ⟨L, o, e1, e2, e3, e4⟩, r⟩ := hF
    intro hm
    unfold frs at hm
    rw [List.filterMap_cons, e1] at hm
    rcases List.mem_cons.mp hm with z | z
    · subst z
      rw [e3] at h1
      cases h1
      exact e4 _ h2
    · exact not_frs h1 h2 r z
/-- try: body except C as n: y = n -/
def sTryK (sub : Nat → Option Bool) (i j : Nat) (fb : Fs) : Fs := fun σ cs => match fb σ cs with
  | .ex x σ' cs' => match sub x.1 with
    | some true => if x.2 = [] then .nx (((σ'.set i (some (.exn x.1))).set j (some (.exn x.1))).set i none) cs' else .no
    | some false => .ex x σ' cs'
    | none => .no
  | r => r
/-- what is wanted of an exception in the body -/
def wKeep (K : PySem.W.Frag) (C : Value) (i j : Nat) (Y : WX) (E : Ends) : WX := fun cls d σ H =>
  (∃ Ce, cls = .ref Ce ∧ d = none ∧ PySem.W.exmOne K cls C = some true ∧ ∀ a, H a = none → E.nx (((σ.set i (some (.ref a))).set j (some (.ref a))).set i none) (upd H a (.ext (exPhi Ce a)))) ∨ (PySem.W.exmOne K cls C = some false ∧ Y cls d σ H)
theorem fs_try_keep {body : List Stmt} {fb : Fs} {i j : Nat} {c : Nat} {n y x : Str} {np p1 p2 p3 pos pos' : Pos} {sub : Nat → Option Bool} (hsub : ∀ k b, sub k = some b → PySem.W.exmOne X.K (.ref (cm k)) (.ref (cm c)) = some b)
    (hm : X.mg x = some (.ref (cm c))) (tk : Takes X Y) (hN : X.N.Nodup) (hi : X.N[i]? = some n) (hj : X.N[j]? = some y) (hli : L2.Loc X.env.scope n) (hlj : L2.Loc X.env.scope y) (hfi : X.env.scope.names.lookup n = some .local) (hfj : X.env.scope.names.lookup y = some .local) (hln : X.env.kindOf n = some .local) (hvn : Vis X.env.scope n)
    (hb : ∀ (W : WX) (pn : List (Addr × Obj)) (xe : Value → Shared → Prop), Takes (X.tr pn xe) W → PassesOwn (model X.prog X.w) X.A X.env xe → FSs (X.tr pn xe) cm W body fb)
    (hs : X.stack = X.env :: X.outer := by rfl) (hf : X.env.frame = some X.env.locals := by rfl) (hex : X.ex = [] := by rfl) (hg : Gl X x := by rfl) (hdb : (x == ("__debug__" : Str)) = false := by decide) (hdn : (n == ("__debug__" : Str)) = false := by decide) (hcn : (n == ("__classdict__" : Str)) = false := by decide) (hsw : ∀ X' : Cx, X'.env = X.env → swapsWith (.Name n p2) (some (.Name y p1)) p3.line X'.env = pure false) :
    FS X cm Y (.Try body [.ExceptHandler (some (.Name x np)) (some n) [.Assign [.Name y p1] (.Name n p2) p3] pos'] [] [] pos) (sTryK sub i j fb) := ⟨fun pins s σ H E I hM => by
  obtain ⟨W, σd, cs, R, N, P⟩ := hM
  refine wpAny_Try_except ?_
  let xe : Value → Shared → Prop := fun e s₁ => wpAny (model X.prog X.w) X.A (noteFrame e X.env) (fun _ s₂ => wpAny (model X.prog X.w) X.A (setFlight e none) (fun _ s₃ => wpAny (model X.prog X.w) X.A (handleBy e X.env [.ExceptHandler (some (.Name x np)) (some n) [.Assign [.Name y p1] (.Name n p2) p3] pos']) (SP X pins E) X.xe s₃) X.xe s₂) X.xe s₁
  have tk' : Takes (X.tr (X.pn ++ pins) xe) (wKeep X.K (.ref (cm c)) i j Y E) := by
    rintro u s' ⟨a, B, sI, pns, σ1, H1, cls, d, rfl, I1, hB, hU, sky, ha, hos, hbare, hw⟩
    have I1' : L2.Inv X pins σ1 H1 sI := I1.ofTry I.ok
    have sky' : Sky B (X.env :: X.outer) a (Zc cls d) X.env.locals s'.heap := hs ▸ sky
    refine Sky.land Zc.steady (by rw [← hs]; exact I.ok.frames) hf sky' fun h' F U => ?_
    obtain ⟨oe, vs, hoe, hz, hd⟩ := F.there
    have na : a ∉ frs (X.env :: X.outer) := not_frs hoe hd F.2.2.1
    have hB' : ∀ (b : Addr) (o : Obj), sI.heap.get? b = some o → ¬b ∈ frs X.stack → B.get? b = some o := hB
    have hsI : sI.heap.get? a = none := by
      cases e : sI.heap.get? a with
      | none => rfl
      | some o =>
        have := hB' a o e (by rw [hs]; exact na)
        rw [F.2.1] at this
        cases this
    have nl : a ≠ X.env.locals := fun z => na (by
      unfold frs
      rw [List.filterMap_cons, hf, z]
      exact List.mem_cons_self ..)
    have nf : a ∉ X.fs := fun z => na (by
      unfold frs
      rw [List.filterMap_cons, hf]
      exact List.mem_cons_of_mem _ z)
    have np' : ∀ p ∈ X.pn ++ pins, p.1 ≠ a := fun p hp z => by
      have := (I1'.pin p hp).1
      rw [z, hsI] at this
      cases this
    have n0 : X.s_0.heap.get? a = none := by
      cases e : X.s_0.heap.get? a with
      | none => rfl
      | some o =>
        obtain ⟨o', e'⟩ := I1'.base.there a o e (by rw [hex]; simp)
        rw [hsI] at e'
        cases e'
    have I2 : L2.Inv X pins σ1 H1 { heap := h', gens := s'.gens, drawn := s'.drawn, toks := s'.toks, os := s'.os } := Inv.landed I1' hB' F.1 (upTo_trans hU U) hos hbare
    have ld : ∀ {Q' E' : Value → Shared → Prop}, Q' (.ref (cm c)) { heap := h', gens := s'.gens, drawn := s'.drawn, toks := s'.toks, os := s'.os } → wpAny (model X.prog X.w) (X.A.mark (some (.ref a))) (eval (.Name x np) X.env) Q' E' { heap := h', gens := s'.gens, drawn := s'.drawn, toks := s'.toks, os := s'.os } := fun {Q' E'} q =>
      ld_glob (X := X.suite a ((a, oe) :: (X.pn ++ pins))) (I2.suite hoe hd ha nl nf) hg hm q hdb
    rcases hw with ⟨Ce, rfl, rfl, hx, k⟩ | ⟨hx, hy⟩
    · refine PX.clause_asZ (K := X.K) I2.kIn (fun o z => z.1) F hx ld fun h2 F2 U2 => ?_
      have F2' : HandSPX.FlyingZ B (X.env :: X.outer) a (Zc (.ref Ce) none) h2 := F2
      obtain ⟨oe2, vs2, hoe2, hz2, hd2⟩ := F2'.there
      have I4 : L2.Inv X pins σ1 H1 { heap := h2, gens := s'.gens, drawn := s'.drawn, toks := s'.toks, os := s'.os } := Inv.landed I1' hB' F2'.1 (upTo_trans (upTo_trans hU U) U2) hos hbare
      refine store_ok (X := X.suite a ((a, oe2) :: (X.pn ++ pins))) (v := .ref a) (I4.suite hoe2 hd2 ha nl nf) hN hi hli rfl (fun s5 I6 => ?_) (.inr hfi)
      have pr : PSs (X.suite a ((a, oe2) :: (X.pn ++ pins))) [.Assign [.Name y p1] (.Name n p2) p3] (tAsg (tVar i) (gName j)) := pss_one (ps_set hN hj hlj (pe_var hi hvn hdn hcn) (hsw _ rfl) (.inr hfj))
      have len : i < σ1.length := by
        rw [I4.len]
        exact (List.getElem?_eq_some_iff.mp hi).1
      refine wpAny_mono (pr.run [] s5 _ H1 { nx := fun σ' H' => σ' = (σ1.set i (some (.ref a))).set j (some (.ref a)) ∧ H' = H1, rt := fun _ _ => False } I6 ⟨.ref a, List.getElem?_set_self len, rfl, rfl⟩) (fun f s6 hq => ?_) fun _ _ e => e
      cases f with
      | next =>
        obtain ⟨σ', H', I7, rfl, rfl⟩ := hq
        have p7 := (I7.pin (a, oe2) (by simp)).1
        have I8 : L2.Inv X pins _ H' s6 := I7.unsuite I.ok
        have I9 := Inv.track I8 ha n0 np' nl p7 hd2 hz2.1 hz2.2
        exact gone_ok I9 hN hi hln fun s7 I10 => ⟨_, _, I10, k a ha⟩
      | brk => obtain ⟨_, _, _, z⟩ := hq; exact z.elim
      | cont => obtain ⟨_, _, _, z⟩ := hq; exact z.elim
      | ret u => obtain ⟨_, _, _, _, _, z⟩ := hq; exact z.elim
    · refine PX.clause_passZ (K := X.K) I2.kIn (fun o z => z.1) F hx ld ?_
      refine PX.no_clauseZ hf F fun h3 Hd U3 => ?_
      refine tk (.ref a) _ ⟨a, B, sI, pins, σ1, H1, cls, d, rfl, I1', hB', upTo_trans (upTo_trans hU U) U3, ?_, ha, hos, hbare, hy⟩
      rw [hs]
      exact .inr (.inr Hd)
  have run := (hb (wKeep X.K (.ref (cm c)) i j Y E) (X.pn ++ pins) xe tk' PassesOwn.looking).run [] s σ H { E with nx := fun σ' H' => E.nx σ' H' } (I.toTry xe) ?_
  · refine wpAny_mono run (fun f s1 hq => ?_) fun _ _ e => e
    cases f with
    | next =>
      obtain ⟨σ', H', I', q⟩ := hq
      exact pss_nil.run pins s1 σ' H' E (I'.ofTry I.ok) q
    | brk => obtain ⟨σ', H', I', q⟩ := hq; exact ⟨σ', H', I'.ofTry I.ok, q⟩
    | cont => obtain ⟨σ', H', I', q⟩ := hq; exact ⟨σ', H', I'.ofTry I.ok, q⟩
    | ret u => obtain ⟨v, σ', H', I', r, q⟩ := hq; exact ⟨v, σ', H', I'.ofTry I.ok, r, q⟩
  · refine ⟨W, σd, cs, R, N, ?_⟩
    unfold sTryK at P
    cases q : fb σd cs with
    | nx σ' c' => rw [q] at P; exact P
    | bk σ' c' => rw [q] at P; exact P
    | ct σ' c' => rw [q] at P; exact P
    | rt v c' => rw [q] at P; exact P
    | no => rw [q] at P; exact P.elim
    | ex x' σ' c' =>
      rw [q] at P
      intro W' H' σ2 dd l R' N' pay
      have P' : PostS X.K cm Y W (match sub x'.1 with
        | some true => if x'.2 = [] then .nx (((σ'.set i (some (.exn x'.1))).set j (some (.exn x'.1))).set i none) c' else .no
        | some false => .ex x' σ' c'
        | none => .no) E := P
      cases e : sub x'.1 with
      | none => rw [e] at P'; exact P'.elim
      | some b =>
        rw [e] at P'
        cases b with
        | true =>
          have P2 : PostS X.K cm Y W (if x'.2 = [] then .nx (((σ'.set i (some (.exn x'.1))).set j (some (.exn x'.1))).set i none) c' else .no) E := P'
          by_cases hx : x'.2 = []
          · rw [if_pos hx] at P2
            refine .inl ⟨cm x'.1, rfl, ?_, hsub _ _ e, fun a h0 => ?_⟩
            · rcases pay with ⟨_, z⟩ | ⟨z, _⟩
              · exact z
              · exact absurd hx z
            · obtain ⟨W2, l2, R2, r2⟩ := R'.exn (c := x'.1) h0
              exact P2 W2 _ _ (l.trans l2) R2 ((((N'.up l2).set i r2).set j r2).clear i)
          · rw [if_neg hx] at P2; exact P2.elim
        | false => exact .inr ⟨hsub _ _ e, P' W' H' σ2 dd l R' N' pay⟩⟩
/-! isinstance of an exception -/
structure XIs (K : PySem.W.Frag) (C : Addr) : Prop where
  cl : PySem.W.isClsIn K C = true
  ga : PySem.W.findIn K (.ref C) "__getattribute__" = some (some (.builtin "BaseException.__getattribute__"))
  gt : ∃ g, PySem.W.findIn K (.ref C) "__getattr__" = some g
  sb : PySem.W.subIn K (.ref C) (.type "BaseException") = some true
  ha : PySem.W.findIn K (.ref C) "__class__" = some (some (.builtin "object.__class__"))
  hn : PySem.W.specialIn K (.builtin "object.__class__") "__get__" = some (some (.builtin "getset_descriptor.__get__"))
  ht : PySem.W.takesIn K (.builtin "object.__class__") = some true
  hm : PySem.W.mroIn K C (.type "object") = some true
def dIsX (ok : Nat → Bool) (tab : Kd → Kd → Option Bool) : GC := fun ds cs => match ds with
  | [.exn c, .tup ts] => match clsOfs ts with
    | some ks => if ok c = true then match anyTab tab (.cl c) ks with
      | some b => some (.bl b, cs)
      | none => none
      else none
    | none => none
  | [.exn c, k] => match clsOf k with
    | some k' => if ok c = true then match tab (.cl c) k' with
      | some b => some (.bl b, cs)
      | none => none
      else none
    | none => none
  | _ => none
theorem exn_kit {pins : List (Addr × Obj)} {σ : L2.St} {H : Hp} {s : Shared} {c : Nat} {a : Addr} (I : Inv X pins σ H s) (x : XIs X.K (cm c)) (h : H a = some (.ext (exPhi (cm c) a))) : ∃ ox, PySem.W.KitX X.K (.ref a) (.ref (cm c)) (fun h => PySem.W.InstAt h a ox (cm c) none) ∧ PySem.W.InstAt s.heap a ox (cm c) none := by
  obtain ⟨⟨o, vs, e1, e2, e3, e4⟩, _⟩ := I.hok a _ h
  obtain ⟨g, hg⟩ := x.gt
  refine ⟨o, PySem.W.kitx_exc (by simpa [PySem.W.isClsIn] using x.cl) x.ga hg x.sb x.ha x.hn x.ht x.hm, e1, e2, ?_, ?_⟩
  · unfold PySem.W.notCls
    rw [e4]
  · rw [e3]; trivial
theorem call_dIsX {n : Nat} {ok : Nat → Bool} {tab : Kd → Kd → Option Bool} (T : Tab X.K cm n tab) (TX : ∀ c, ok c = true → XIs X.K (cm c)) : CallR X (.builtin "isinstance") (rCa X.K cm (dIsX ok tab)) := by
  intro pins s σ H xs us Q I rx h
  obtain ⟨W, ds, cs, R, r, P⟩ := h
  unfold dIsX at P
  split at P
  · rename_i c ts
    obtain ⟨v, w, rfl, q1, q2⟩ := r.two
    split at P
    · rename_i ks e2
      split at P
      · rename_i hk
        split at P
        · rename_i b e3
          cases q1 with
          | @exn _ a g =>
            cases q2 with
            | @tup _ tp ws g2 qs =>
              cases rx with
              | cons r1 rx =>
                cases rx with
                | cons r2 rx =>
                  cases rx
                  rename_i u1 u2
                  obtain rfl : u1 = Value.ref a := r1
                  obtain rfl : u2 = Value.ref tp := r2
                  obtain ⟨ox, kx, ia⟩ := exn_kit I (TX c hk) (R.sub _ _ g)
                  obtain ⟨_, its, hv, o', t1, t2, nn, t3⟩ := I.hok tp _ (R.sub _ _ g2)
                  have cv := clss_of qs e2
                  have ei : its = ks.map (kdV cm) := ClsV.all cv hv
                  obtain ⟨cl', di', da', sl'⟩ := o'
                  simp only at t2 t3
                  subst t2 t3
                  exact PySem.W.kia_tup kx I.kIn ia t1 (by rw [ei]; exact anyTab_ok T e3) (by simp) fun tk => ⟨.bl b, H, I.tok tk, rfl, P.here R (.bl _)⟩
        · exact absurd rfl P.ne
      · exact absurd rfl P.ne
    · exact absurd rfl P.ne
  · rename_i c k _
    obtain ⟨v, w, rfl, q1, q2⟩ := r.two
    split at P
    · rename_i k' e2
      split at P
      · rename_i hk
        split at P
        · rename_i b e3
          cases q1 with
          | @exn _ a g =>
            cases rx with
            | cons r1 rx =>
              cases rx with
              | cons r2 rx =>
                cases rx
                rename_i u1 u2
                obtain rfl : u1 = Value.ref a := r1
                have cv := cls_of q2 e2
                have e : u2 = kdV cm k' := ClsV.eq cv r2
                subst e
                obtain ⟨ox, kx, ia⟩ := exn_kit I (TX c hk) (R.sub _ _ g)
                exact PySem.W.kia_one kx I.kIn ia (T.ans _ _ _ e3) (by simp) fun tk => ⟨.bl b, H, I.tok tk, rfl, P.here R (.bl _)⟩
        · exact absurd rfl P.ne
      · exact absurd rfl P.ne
    · exact absurd rfl P.ne
  · exact absurd rfl P.ne
end
def subOf (L : List (Nat × Bool)) : Nat → Option Bool := fun k => (L.find? fun p => p.1 == k).map (·.2)
theorem xsub_all {K : PySem.W.Frag} {cm : Nat → Addr} {L : List (Nat × Bool)} {C : Value} (h : ∀ p ∈ L, PySem.W.exmOne K (.ref (cm p.1)) C = some p.2) : ∀ k b, subOf L k = some b → PySem.W.exmOne K (.ref (cm k)) C = some b := fun k b e => by
  unfold subOf at e
  cases q : L.find? fun p => p.1 == k with
  | none => rw [q] at e; cases e
  | some p =>
    rw [q] at e
    cases e
    have e1 : p.1 = k := by simpa using List.find?_some q
    rw [← e1]
    exact h p (List.mem_of_find?_eq_some q)
theorem exm_mk {K : PySem.W.Frag} {C : Addr} {t : Value} {b : Bool} (h1 : PySem.W.subIn K (.ref C) (.type "BaseException") = some true) (h2 : PySem.W.isClsIn K C = true) (h3 : PySem.W.typeIn K (.ref C) = some (.type "type")) (h4 : PySem.W.subIn K t (.ref C) = some b) : PySem.W.exmOne K t (.ref C) = some b := by
  unfold PySem.W.exmOne PySem.W.kitCls
  have h2' : (PySem.W.clsIn K C).isSome = true := h2
  rw [h1]
  simp [h2', h3, h4]
section
end
end PV

open PySem PySem.Spec PyProof.Rows L2
/-! ### max of a tuple of whole numbers -/
namespace PV
section
variable {prog : Program} {w : World} {A : Around} {E : Value → Shared → Prop} {s : Shared} {l : Addr}
theorem old_keptT {h' : Heap} (hk : ∀ b o, b ∉ [s.heap.objs.size] → (s.heap.push { cls := .type "tuple_iterator", data := .fields #[.ref l, .int 0 0] }).get? b = some o → h'.get? b = some o) :
    ∀ b o, s.heap.get? b = some o → h'.get? b = some o := fun b o e => by
  refine hk b o (fun hm => ?_) (Heap.get?_push_of_some _ e)
  rcases List.mem_cons.mp hm with e1 | hm
  · exact absurd (e1 ▸ Heap.lt_size e) (Nat.lt_irrefl _)
  · cases hm
theorem iter_intTup {xs : Array (Int × Tok)} {Q : Value → Shared → Prop} (hl : s.heap.IsTuple l (intItems xs))
    (h : ∀ s₂ : Shared, s₂ = { s with heap := s.heap.push { cls := .type "tuple_iterator", data := .fields #[.ref l, .int 0 0] } } →
      (s₂.heap.IsTupleIter s.heap.objs.size l 0 ∧ s₂.heap.IsTuple l (intItems xs)) → (∀ b ∈ [s.heap.objs.size, l], b < s₂.heap.objs.size) → l ≠ s.heap.objs.size → Q (.ref s.heap.objs.size) s₂) :
    wpAny (model prog w) A (pyIter (.ref l)) Q E s := by
  have hlt : l < s.heap.objs.size := by obtain ⟨_, e, _⟩ := hl; exact Heap.lt_size e
  refine wpAny_pyIter_tuple hl (h _ rfl ⟨⟨_, Heap.get?_push_size _ rfl, rfl, rfl⟩, hl.push _⟩ (fun b hb => ?_) (Nat.ne_of_lt hlt))
  show b < (s.heap.push _).objs.size
  rw [Heap.size_push]
  rcases List.mem_cons.mp hb with rfl | hb
  · exact Nat.lt_succ_self _
  · rcases List.mem_cons.mp hb with rfl | hb
    · exact Nat.lt_succ_of_lt hlt
    · cases hb
theorem max_intTup {xs : Array (Int × Tok)} {Q : Value → Shared → Prop} (hh : A.handled = none) (hl : s.heap.IsTuple l (intItems xs)) (hne : 0 < xs.size)
    (h : ∀ v h' tk, (intItems xs)[argBest (fun i j => decide (numAt xs i > numAt xs j)) (xs.size - 1)]? = some v → (∀ b o, s.heap.get? b = some o → h'.get? b = some o) → Q v { s with heap := h', toks := tk }) :
    wpAny (model prog w) A (call (.builtin "max") [.ref l]) Q E s := by
  refine call_max_walk (iter_intTup hl fun s₂ e st hfp hlI => ?_)
  subst e
  refine ⟨_, _, _, _, _, _, _, rfl, Walks.tuple (A := A.in1) hh _ l hlI (intItems xs), st, hfp, by simpa [intItems] using hne, CmpOf.ints_gt (numAt xs) (fun _ _ => intItems_at), fun v h' tk hP hk => ?_⟩
  exact h v h' tk (by simpa [intItems] using hP) (old_keptT hk)
theorem maxT_raw {its : List Value} {ns : List Int} {Q : Value → Shared → Prop} (hh : A.handled = none) (hl : s.heap.IsTuple l its.toArray) (hi : IntsAre its ns) (hne : 0 < ns.length)
    (h : ∀ h' tk M t', (∀ b o, s.heap.get? b = some o → h'.get? b = some o) → M ∈ ns → (∀ a, a ∈ ns → a ≤ M) → Q (.int M t') { s with heap := h', toks := tk }) : wpAny (model prog w) A (call (.builtin "max") [.ref l]) Q E s := by
  obtain ⟨xs, e⟩ := hi.allInts.items
  have hn : numsOf (intItems xs).toList = ns := by rw [← e]; exact hi.numsOf
  rw [nums_intItems] at hn
  subst hn
  rw [e] at hl
  have hsz : 0 < xs.size := by simpa using hne
  refine max_intTup hh hl hsz fun v h' tk hv hk => ?_
  obtain ⟨t, rfl⟩ := intItems_at hv
  obtain ⟨h1, h2⟩ := argBest_gt (numAt xs) (xs.size - 1)
  refine h h' tk _ t hk ?_ fun a ha => ?_
  · rw [numAt_eq]; exact PySem.getD_mem (by rw [List.length_map, Array.length_toList]; omega)
  · obtain ⟨j, hj, rfl⟩ := mem_getD ha
    rw [List.length_map, Array.length_toList] at hj
    rw [← numAt_eq]; exact h2 j (by omega)
end
section
variable {X : Cx} {cm : Nat → Addr}
def dMaxT : GC := fun ds cs => match ds with
  | [.tup xs] => match intsOf xs with
    | some (n :: ns) => some (.int (maxL (n :: ns)), cs)
    | _ => none
  | _ => none
theorem call_dMaxT (hc : X.calm = true) : CallR X (.builtin "max") (rCa X.K cm dMaxT) := by
  intro pins s σ H xs us Q I rx h
  obtain ⟨W, ds, cs, R, r, P⟩ := h
  unfold dMaxT at P
  split at P
  · rename_i ds
    obtain ⟨v, rfl, q1⟩ := r.one
    split at P
    · rename_i n ns e
      cases q1 with
      | tup g rr =>
        rw [intsOf_eq e] at rr
        have hq := SqT.of (K := X.K) (R.sub _ _ g)
        rw [rr.ints] at hq
        obtain ⟨its, rv, hl, _⟩ := I.tuple hq
        rw [Vals.ref1 rx]
        refine maxT_raw (I.ok.hd hc) (show s.heap.IsTuple _ _ from hl) rv.ints (by simp) fun h' tk m t' hk h1 h2 => ⟨.int _, H, I.kept hk, ⟨_, rfl⟩, ?_⟩
        have e2 : m = maxL (n :: ns) := Int.le_antisymm (maxL_le h1) (h2 _ (maxL_mem (by simp)))
        subst e2
        exact P.here R (.int _)
    · exact absurd rfl P.ne
  · exact absurd rfl P.ne
@[simp] theorem dMaxT_2 {i j : Int} {cs : List Cell} : dMaxT [.tup [.int i, .int j]] cs = some (.int (maxL [i, j]), cs) := rfl
end
end PV

/-! ### an own operator that may raise, also with an object of another kind on its right -/
namespace PV
open PySem PySem.Spec PyProof.Rows L2
/-- what is asked of a built-in type on the right -/
structure OddR (K : PySem.W.Frag) (C : Addr) (op : Operator) (t : String) : Prop where
  a : ∃ fo, PySem.W.findIn K (.type t) (PySem.dunder op.info.2) = some fo
  b : ∃ ro, PySem.W.findIn K (.type t) (dunderR op.info.2) = some ro
  s : PySem.W.subIn K (.type t) (.ref C) = some false
section
open PySem.W
variable {prog : Program} {w : World} {A : Around} {E : Value → Shared → Prop} {s : Shared} {K : Frag} {x C L f : Addr} {h₀ : Heap} {m : Str → Option Value} {ox : Obj} {od : Option Obj} {T : String}
theorem bin_odd {op : Operator} {b : Value} {Q : Value → Shared → Prop} (F : Fr h₀ L s.heap m) (X₀ : K.In h₀) (I : InstAt s.heap x ox C od) (ty : Looks (model prog w) s.heap (typeOf b) (.type T)) (own : selfFirst K C = true)
    (at_ : findIn K (.ref C) (PySem.dunder op.info.2) = some (some (.ref f))) (isf : isFn K (.ref f) = true) (norev : findIn K (.ref C) (dunderR op.info.2) = some none) (O : OddR K C op T)
    (h : wpAny (model prog w) A (call (.ref f) [.ref x, b]) (PySem.W.CmpBack Q) E s) : wpAny (model prog w) A (binaryOp op (.ref x) b) Q E s := by
  obtain ⟨⟨fo, o1⟩, ⟨ro, o2⟩, o3⟩ := O
  have now := X₀.keeps F.keep
  obtain ⟨cd, rest, e1, e2⟩ := ksp_first own
  generalize hi : op.info = inf at *
  obtain ⟨sym, nm⟩ := inf
  dsimp only at at_ norev o1 o2
  have go := ksp_try now I at_ isf h
  obtain ⟨hh, gg, dd, tt, os⟩ := s
  have L1 : Looks (model prog w) hh (typeOf (.ref x)) (.ref C) := I.type
  have L2 : Looks (model prog w) hh (typeOf b) (.type T) := ty
  have L3 : Looks (model prog w) hh (fillsNumberSlot (.ref C) nm) true := fills_K now e1 e2 at_
  have L4 : Looks (model prog w) hh (fillsNumberSlot (.type T) nm) ((fo.isSome && !isSeqSlot fo) || (ro.isSome && !isSeqSlot ro)) := ksp_fillsT now o1 o2
  have L5 : Looks (model prog w) hh (isSubtype (.type T) (.ref C)) false := looks_subIn now o3
  have L6 : Looks (model prog w) hh (numberSlotInPython (.ref C) nm) true := ksp_inPy now at_ norev (.inl rfl)
  have L7 : Looks (model prog w) hh (numberSlotInPython (.type T) nm) false := Looks.of_pure rfl
  have L8 : Looks (model prog w) hh (typeLookup (.type T) (dunderR nm)) ro := looks_findIn now o2
  generalize ((fo.isSome && !isSeqSlot fo) || (ro.isSome && !isSeqSlot ro)) = right at L4
  have ne : (Value.ref C == Value.type T) = false := Bool.eq_false_iff.mpr fun q => by cases beq_iff_eq.mp q
  simp only [binaryOp, hi]
  refine wpAny_holding (wpAny_bind ?_)
  unfold binaryOp1
  refine wpAny_bind (L1.at (wpAny_bind (L2.at (wpAny_bind (L3.at ?_)))))
  simp only [ne, Bool.false_eq_true, if_false]
  cases right <;>
  · ksp_lk
    refine wpAny_mono go (fun r s' hr' => ?_) fun _ _ e => e
    obtain ⟨v, rfl, hq⟩ := hr'
    ksp_lk
    exact hq
end
/-- is y of class c, or of one of the built-in types T -/
def oddOk (c : Nat) (T : List String) (cs : List Cell) (y : D) : Bool := match insOf cs y with
  | some (c', _) => c' == c
  | none => match kdOf cs y with
    | some (.ty t) => T.contains t
    | _ => false
def ownO (c : Nat) (T : List String) (F : List D → List Cell → Out D) (x y : D) (cs : List Cell) : Out D := match insOf cs x with
  | some (c', _) => if c' = c ∧ oddOk c T cs y = true then F [x, y] cs else .no
  | none => .no
def fOwnX (c : Nat) (T : List String) (F : List D → List Cell → Out D) (fa fb : Fe) : Fe := fun σ cs => (fa σ cs).bind fun x c1 => (fb σ c1).bind fun y c2 => ownO c T F x y c2
section
variable {X : Cx} {cm : Nat → Addr} {Y : WX} {k c n : Nat} {f : Addr} {F : List D → List Cell → Out D} {fa fb : Fe} {a b : Expr} {pos : Pos} {T : List String} {tab : Kd → Kd → Option Bool}
theorem fe_ownX {op : Operator} (O : OwnM X.K cm c (PySem.dunder op.info.2) f) (sf : PySem.W.selfFirst X.K (cm c) = true) (nr : PySem.W.findIn X.K (.ref (cm c)) (dunderR op.info.2) = some none) (hT : ∀ t ∈ T, OddR X.K (cm c) op t) (TB : Tab X.K cm n tab)
    (B : FnP X.prog X.w X.K X.mg X.base cm k f F) (hr : Room k X.A) (hg : X.A.guards = some []) (tk : Takes X Y) (ha : FE X cm Y a fa) (hb : FE X cm Y b fb) : FE X cm Y (.BinOp a op b pos) (fOwnX c T F fa fb) := by
  refine ⟨fun pins s σ H Q I ⟨W, σd, cs, R, E, P⟩ => wpAny_BinOp ?_⟩
  refine thn (ha.run pins s σ H _ I (tE_go (Q := fun v H1 => ∃ W1 d c1, Rel X.K cm W1 c1 H1 ∧ En X.K cm W1 σd σ ∧ Rp X.K cm W1 d v ∧ PostE X.K cm Y σ W1 ((fb σd c1).bind fun y c2 => ownO c T F d y c2) Q) R E asksE P
    fun d c1 _ h1 W1 H1 v l1 R1 E1 r1 => ⟨W1, d, c1, R1, E1, r1, h1.up l1⟩)) fun u s1 ⟨v, H1, I1, rv, W1, d, c1, R1, E1, r1, h1⟩ => ?_
  refine thn (hb.run pins s1 σ H1 _ I1 (tE_go (Q := fun v2 H2 => ∃ W2 d2 c2, W1.le W2 ∧ Rel X.K cm W2 c2 H2 ∧ Rp X.K cm W2 d2 v2 ∧ PostE X.K cm Y σ W2 (ownO c T F d d2 c2) Q) R1 E1 asksE h1
    fun d2 c2 _ h2 W2 H2 v2 l2 R2 E2 r2 => ⟨W2, d2, c2, l2, R2, r2, h2.up l2⟩)) fun u2 s2 ⟨v2, H2, I2, rv2, W2, d2, c2, l2, R2, r2, h3⟩ => ?_
  have r1' := r1.up l2
  unfold ownO at h3
  split at h3
  · rename_i c' fs e1
    split at h3
    · rename_i hc
      obtain ⟨rfl, ho⟩ := hc
      obtain ⟨p, dd, vs, rfl, hp, q⟩ := ins_of R2 r1' e1
      obtain rfl : u = Value.ref p := rv
      obtain ⟨mA, J, _⟩ := ins_get I2.hok hp
      obtain ⟨od, J, _⟩ := J.look
      obtain ⟨m, hF⟩ := I2.fr
      have run : wpAny (model X.prog X.w) X.A (call (.ref f) [.ref p, u2]) (PySem.W.CmpBack (EP X pins σ Q)) X.xe s2 := by
        refine wpAny_call (codeAny_mono (run_p (Y := Y) (us := [.ref p, u2]) (vs := [.ref p, v2]) (Q := fun z H' => (∃ (W' : Wd) (d : D), Rp X.K cm W' d z) ∧ Q z H') B hr hg I2.ok.frames tk I2 (.cons rfl (.cons rv2 .nil)) R2 (.cons r1' (.cons r2 .nil)) ?_) fun rr s' hq => ?_)
        · cases e3 : F [d, d2] c2 with
          | no => rw [e3] at h3; exact h3.elim
          | ex x cs' => rw [e3] at h3; exact h3
          | ok d' cs' =>
            rw [e3] at h3
            intro W' H' z l R' r'
            exact ⟨⟨W', d', r'⟩, h3 W' H' z l R' r'⟩
        · cases rr with
          | error e => exact hq
          | ok fl =>
            cases fl with
            | ret z =>
              obtain ⟨z', H', I', rz, ⟨W', d', rd⟩, hq⟩ := hq
              exact cmp_back rd rz ⟨z', H', I', rz, hq⟩
            | next => exact hq
            | brk => exact hq
            | cont => exact hq
      unfold oddOk at ho
      split at ho
      · rename_i c3 fs3 e4
        obtain rfl : c3 = c' := beq_iff_eq.mp ho
        obtain ⟨p2, dd2, vs2, rfl, hp2, q2⟩ := ins_of R2 r2 e4
        obtain rfl : u2 = Value.ref p2 := rv2
        obtain ⟨mB, J', _⟩ := ins_get I2.hok hp2
        obtain ⟨od', J', _⟩ := J'.look
        exact PySem.W.binop_K hF I2.ok.mod.kin J J'.type sf O.at_ O.fn run
      · split at ho
        · rename_i t ek
          have ht : t ∈ T := by simpa using ho
          have ty := tyX_of TB R2 r2 ek rfl
          obtain ⟨PP, Z, hz, _⟩ := kit_of I2 rv2 ty
          exact bin_odd hF I2.ok.mod.kin J (Z.ty _ _ I2.kIn hz) sf O.at_ O.fn nr (hT t ht) run
        · cases ho
    · exact h3.elim
  · exact h3.elim
end
end PV

/-- as of a Room -/
theorem L2H.RoomH.units {k : Nat} {A : PySem.Around} (r : L2H.RoomH k A) : A.units + 64 < PySem.cLine := by
  have q := r.un
  omega
namespace PV
open PySem PySem.Spec PyProof.Rows L2
open L2H (RoomH)

/-! ### a def called while an exception is handled (it raises nothing) -/
abbrev cxNo : CXT := fun _ _ _ _ _ _ => False
def FnBH (P : Program) (w : World) (K : PySem.W.Frag) (mg : Str → Option Value) (base : Heap) (cm : Nat → Addr) (k : Nat) (f : Addr) (fd : FuncData) (ps : List Str) (F : List D → List Cell → Out D) : Prop :=
  ∀ (A : Around) (outer : List Env) (s : Shared) (H : Hp) (args : Args) (us : List Value) (vs : List V) (Q : VK) (W : Wd) (ds : List D) (cs : List Cell),
    RoomH k A → A.guards = some [] → Env0 P w K mg base A outer s H → BindsTo s fd args (ps.zip us) → Vals vs us → vs.length = ps.length → Rel K cm W cs H → Rps K cm W ds vs → PostF K cm W (F ds cs) Q (fun _ _ _ => False) →
      codeAny (model P w) A (.call (.ref f) args) (CR cxNo outer P w H s Q fun _ _ _ => False) s
/-- the context of its body -/
def hcx (P : Program) (w : World) (K : PySem.W.Frag) (mg : Str → Option Value) (base : Heap) (N : List Str) (qual : Str) (scope : Scope) (f : Addr) (cd : Value) (A : Around) (outer : List Env) (s : Shared) (H : Hp) : Cx :=
  { cxOf cxNo P w K mg base N qual scope f cd A outer s H (fun _ _ _ => False) with calm := false, xe := fun _ _ => False }
section
variable {P : Program} {w : World} {K : PySem.W.Frag} {mg : Str → Option Value} {base : Heap} {cm : Nat → Addr}
theorem start_hot {N ps : List Str} {qual : Str} {scope : Scope} {f : Addr} {cd : Value} {A : Around} {outer : List Env} {s t : Shared} {H : Hp} {us : List Value} {vs : List V} (S : FnScope N ps scope) (e0 : Env0 P w K mg base A outer s H) (hl : vs.length = ps.length) (r : Vals vs us)
    (x : InCallC s s.heap.objs.size (bindL (envOfC qual scope s.heap.objs.size f cd).kindOf (ps.zip us) fun _ => none) (cellsFrom (s.heap.objs.size + 1) scope.names []) (bindC (envOfC qual scope s.heap.objs.size f cd).kindOf (ps.zip us) fun _ => none) t) :
    Inv (hcx P w K mg base N qual scope f cd A outer s H) [] (L2.start N vs) H t := by
  have I := inv_start (CX := cxNo) (E := fun _ _ _ => False) (A := { A with handled := none }) (qual := qual) (f := f) (cd := cd) S rfl ⟨e0.frames, e0.mod, e0.bs, e0.bsz, e0.funs, e0.frf, e0.hok, e0.bare⟩ hl r x
  have O := I.ok
  exact ⟨⟨O.mod, O.kind, O.glob, O.blt, O.above, O.inj, O.has, O.cab, (fun z => absurd (show false = true from z) Bool.false_ne_true), Around.frames_deeper e0.frames, O.stk, O.exf, O.bs, O.bsz, O.noex, O.exfs, O.funs, O.frf⟩,
    I.os, I.bare, I.base, I.loc, I.cell, I.free, I.freeC, I.pin, I.hok, I.len⟩
/-- THE RULE for such a def -/
theorem fn_bodyH {x qual : Str} {params : Arguments} {body : List Stmt} {scope : Scope} {dvs : List V} {kws : List (Str × V)} {f : Addr} {fd : FuncData} {N ps : List Str} {k : Nat} {fb : Fs} (F : FunD K x qual params body scope dvs kws f fd) (S : FnScope N ps scope)
    (hb : ∀ (cdv : Value) (A : Around) (outer : List Env) (s : Shared) (H : Hp), RoomH k (A.deeper (envOfC qual scope s.heap.objs.size f cdv)) → (A.deeper (envOfC qual scope s.heap.objs.size f cdv)).guards = some [] →
      FSs (hcx P w K mg base N qual scope f cdv A outer s H) cm (fun _ _ _ _ => False) body fb) : FnBH P w K mg base cm (k + 1) f fd ps (runDef ps.length N.length fb) := by
  intro A outer s H args us vs Q W ds cs hr hg e0 hbi rv hl R r h
  obtain ⟨oc, od, dV, kV, doc, pm, an, cdv, ct, osl, rfl, lk, hcd, _, _⟩ := F.ex
  have hpl : ps.length ≤ N.length := by
    have q := congrArg List.length S.pre
    rw [List.length_take] at q
    omega
  have hd : ds.length = ps.length := by rw [r.length]; exact hl
  have KX : K.In s.heap := e0.mod.kin.keeps fun b o z => (e0.bs b o z).1
  have lim : s.heap.NoLimit := e0.mod.nolimit.keeps fun b o z => (e0.bs b o z).1
  have kinds : ∀ q ∈ ps.zip us, scope.names.lookup q.1 = some .local ∨ (scope.names.lookup q.1 = some .cell ∧ ((cellsFrom (s.heap.objs.size + 1) scope.names []).lookup q.1).isSome = true) := fun q hq =>
    (S.par q.1 (List.of_mem_zip hq).1).elim Or.inl fun z => .inr ⟨z, PySem.W.cellsFrom_some _ _ _ (.inl z)⟩
  refine codeAny_call_function hr.depth (KX _ _ lk) rfl S.co S.gen rfl (PySem.W.codeRec_of KX hcd) (hbi _ _ _ _ ?_)
  refine wpAny_newFunctionEnv_cells S.kind kinds fun env he t x => ?_
  subst he
  refine ⟨lim.keeps x.toInCall.keep, codeAny_func ?_⟩
  have I := start_hot (w := w) (f := f) (cd := cdv) (qual := qual) S e0 hl rv x
  have P' : PostS K cm (fun _ _ _ _ => False) W (fb (ds.map some ++ List.replicate (N.length - ps.length) none) cs) { nx := fun _ H' => Q .non H', rt := Q } := by
    unfold runDef at h
    rw [if_pos hd] at h
    exact h.toS
  have M : tS K cm (fun _ _ _ _ => False) fb { nx := fun _ H' => Q .non H', rt := Q } (L2.start N vs) H := by
    refine ⟨W, _, cs, R, start_en r N (by rw [hl]; exact hpl), ?_⟩
    rw [hd]
    exact P'
  refine wpAny_mono ((hb cdv A outer s H (hr.deeper _) hg).run [] t _ _ _ I M) (fun fl t' z => ?_) fun e t' z => z.elim
  have fin : ∀ {σ' : L2.St} {H' : Hp} {v : V} {u : Value}, Inv (hcx P w K mg base N qual scope f cdv A outer s H) [] σ' H' t' → RelV v u → Q v H' → CE outer P w H s Q u t' :=
    fun {σ' H' v u} J q1 q2 => ⟨v, H', J.os, J.bare, J.base, J.hok, q1, q2⟩
  cases fl with
  | next => exact let ⟨_, _, J, q⟩ := z; fin (v := V.non) (u := Value.none) J rfl q
  | ret u => exact let ⟨_, _, _, J, q1, q2⟩ := z; fin J q1 q2
  | brk => exact let ⟨_, _, _, q⟩ := z; q.elim
  | cont => exact let ⟨_, _, _, q⟩ := z; q.elim
end
section
variable {X : Cx} {cm : Nat → Addr} {Y : WX} {k n m l : Nat} {f : Addr} {fd : FuncData} {ps ks : List Str} {F : List D → List Cell → Out D} {g : List D → List D → List D}
def noXF (F : List D → List Cell → Out D) : List D → List Cell → Out D := fun ds cs => noX (F ds cs)
theorem cal_fH (B : FnBH X.prog X.w X.K X.mg X.base cm k f fd ps F) (a : Arg X.K cm fd ps n ks g) (hr : RoomH k X.A) (hg : X.A.guards = some []) (kp : PySem.W.keepIn X.K (.ref f) = true) (hm : ks.length = m := by rfl) (hl : ps.length = l := by rfl) : Cal X cm Y (.ref f) ks (fnK n m l (noXF F) g) := by
  subst hm hl
  refine ⟨kp, fun pins s σ H us ws vs zs Q W ds es cs I r rz hz R q qz h => wpAny_call ?_⟩
  obtain ⟨gv, gV, b1, b2, b3⟩ := a.to
  unfold fnK at h
  split at h
  · rename_i hl
    have e0 := I.env0
    have P' : PostF X.K cm W (F (g ds es) cs) Q (fun _ _ _ => False) := by
      unfold noXF at h
      cases z : F (g ds es) cs with
      | ok d c => rw [z] at h; exact PostE.toF h
      | ex x c => rw [z] at h; exact h.elim
      | no => rw [z] at h; exact h.elim
    refine codeAny_mono (B X.A X.stack s H ⟨us, ks.zip ws⟩ (gv us ws) (gV vs zs) Q W (g ds es) cs hr hg e0 (b1 s us ws I.kIn ?_ ?_) (b2 r rz) ?_ R (b3 q qz) P') fun rr s' hq => ?_
    · rw [← r.length, ← q.length]; exact hl.1
    · rw [← rz.length]; exact hz
    · rw [← (b3 q qz).length]; exact hl.2
    · cases rr with
      | error e => exact hq.elim
      | ok fl =>
        cases fl with
        | ret u => exact I.after hq
        | next => exact hq.elim
        | brk => exact hq.elim
        | cont => exact hq.elim
  · exact h.elim
end
/-! ### try: body except C as n: suite (which raises nothing) -/
def sTryS (sub : Nat → Option Bool) (i : Nat) (fb fh : Fs) : Fs := fun σ cs => match fb σ cs with
  | .ex x σ' cs' => match sub x.1 with
    | some true => if x.2 = [] then (match fh (σ'.set i (some (.exn x.1))) cs' with
      | .nx τ c => .nx (τ.set i none) c
      | .bk τ c => .bk (τ.set i none) c
      | .ct τ c => .ct (τ.set i none) c
      | .rt d c => .rt d c
      | _ => .no) else .no
    | some false => .ex x σ' cs'
    | none => .no
  | r => r
section
variable {X : Cx} {cm : Nat → Addr} {Y : WX}
/-- what is wanted behind the suite, before its name goes -/
abbrev gone (i : Nat) (E : Ends) : Ends := { nx := fun τ H => E.nx (τ.set i none) H, rt := E.rt, bk := fun τ H => E.bk (τ.set i none) H, ct := fun τ H => E.ct (τ.set i none) H }
def wTry (K : PySem.W.Frag) (cm : Nat → Addr) (C : Value) (i : Nat) (fh : Fs) (Y : WX) (E : Ends) : WX := fun cls d σ H =>
  (∃ Ce, cls = .ref Ce ∧ d = none ∧ PySem.W.exmOne K cls C = some true ∧ ∀ a, H a = none → tS K cm (fun _ _ _ _ => False) fh (gone i E) (σ.set i (some (.ref a))) (upd H a (.ext (exPhi Ce a)))) ∨ (PySem.W.exmOne K cls C = some false ∧ Y cls d σ H)
theorem fs_try_as {body suite : List Stmt} {b0 : Stmt} {fb fh : Fs} {i : Nat} {c : Nat} {n x : Str} {np pos pos' : Pos} {sub : Nat → Option Bool} (hsub : ∀ k b, sub k = some b → PySem.W.exmOne X.K (.ref (cm k)) (.ref (cm c)) = some b)
    (hm : X.mg x = some (.ref (cm c))) (tk : Takes X Y) (hN : X.N.Nodup) (hi : X.N[i]? = some n) (hli : L2.Loc X.env.scope n) (hfi : X.env.scope.names.lookup n = some .local) (hln : X.env.kindOf n = some .local)
    (hb : ∀ (W : WX) (pn : List (Addr × Obj)) (xe : Value → Shared → Prop), Takes (X.tr pn xe) W → PassesOwn (model X.prog X.w) X.A X.env xe → FSs (X.tr pn xe) cm W body fb)
    (hh : ∀ (a : Addr) (pn : List (Addr × Obj)), FSs (X.suite a pn) cm (fun _ _ _ _ => False) (b0 :: suite) fh)
    (hs : X.stack = X.env :: X.outer := by rfl) (hf : X.env.frame = some X.env.locals := by rfl) (hex : X.ex = [] := by rfl) (hg : Gl X x := by rfl) (hdb : (x == ("__debug__" : Str)) = false := by decide) :
    FS X cm Y (.Try body [.ExceptHandler (some (.Name x np)) (some n) (b0 :: suite) pos'] [] [] pos) (sTryS sub i fb fh) := ⟨fun pins s σ H E I hM => by
  obtain ⟨W, σd, cs, R, N, P⟩ := hM
  refine wpAny_Try_except ?_
  let hd : ExceptHandler := .ExceptHandler (some (.Name x np)) (some n) (b0 :: suite) pos'
  let xe : Value → Shared → Prop := fun e s1 => wpAny (model X.prog X.w) X.A (noteFrame e X.env) (fun _ s2 => wpAny (model X.prog X.w) X.A (setFlight e none) (fun _ s3 => wpAny (model X.prog X.w) X.A (handleBy e X.env [hd]) (SP X pins E) X.xe s3) X.xe s2) X.xe s1
  have tk' : Takes (X.tr (X.pn ++ pins) xe) (wTry X.K cm (.ref (cm c)) i fh Y E) := by
    rintro u s' ⟨a, B, sI, pns, σ1, H1, cls, d, rfl, I1, hB, hU, sky, ha, hos, hbare, hw⟩
    have I1' : L2.Inv X pins σ1 H1 sI := I1.ofTry I.ok
    have sky' : Sky B (X.env :: X.outer) a (Zc cls d) X.env.locals s'.heap := hs ▸ sky
    refine Sky.land Zc.steady (by rw [← hs]; exact I.ok.frames) hf sky' fun h' F U => ?_
    obtain ⟨oe, vs, hoe, hz, hd'⟩ := F.there
    have na : a ∉ frs (X.env :: X.outer) := not_frs hoe hd' F.2.2.1
    have hB' : ∀ (b : Addr) (o : Obj), sI.heap.get? b = some o → ¬b ∈ frs X.stack → B.get? b = some o := hB
    have hsI : sI.heap.get? a = none := by
      cases e : sI.heap.get? a with
      | none => rfl
      | some o =>
        have := hB' a o e (by rw [hs]; exact na)
        rw [F.2.1] at this
        cases this
    have nl : a ≠ X.env.locals := fun z => na (by
      unfold frs
      rw [List.filterMap_cons, hf, z]
      exact List.mem_cons_self ..)
    have nf : a ∉ X.fs := fun z => na (by
      unfold frs
      rw [List.filterMap_cons, hf]
      exact List.mem_cons_of_mem _ z)
    have np' : ∀ p ∈ X.pn ++ pins, p.1 ≠ a := fun p hp z => by
      have := (I1'.pin p hp).1
      rw [z, hsI] at this
      cases this
    have n0 : X.s_0.heap.get? a = none := by
      cases e : X.s_0.heap.get? a with
      | none => rfl
      | some o =>
        obtain ⟨o', e'⟩ := I1'.base.there a o e (by rw [hex]; simp)
        rw [hsI] at e'
        cases e'
    have I2 : L2.Inv X pins σ1 H1 { heap := h', gens := s'.gens, drawn := s'.drawn, toks := s'.toks, os := s'.os } := Inv.landed I1' hB' F.1 (upTo_trans hU U) hos hbare
    have ld : ∀ {Q' E' : Value → Shared → Prop}, Q' (.ref (cm c)) { heap := h', gens := s'.gens, drawn := s'.drawn, toks := s'.toks, os := s'.os } → wpAny (model X.prog X.w) (X.A.mark (some (.ref a))) (eval (.Name x np) X.env) Q' E' { heap := h', gens := s'.gens, drawn := s'.drawn, toks := s'.toks, os := s'.os } := fun {Q' E'} q =>
      ld_glob (X := X.suite a ((a, oe) :: (X.pn ++ pins))) (I2.suite hoe hd' ha nl nf) hg hm q hdb
    rcases hw with ⟨Ce, rfl, rfl, hx, k⟩ | ⟨hx, hy⟩
    · refine PX.clause_asZ (K := X.K) I2.kIn (fun o z => z.1) F hx ld fun h2 F2 U2 => ?_
      have F2' : HandSPX.FlyingZ B (X.env :: X.outer) a (Zc (.ref Ce) none) h2 := F2
      obtain ⟨oe2, vs2, hoe2, hz2, hd2⟩ := F2'.there
      have I4 : L2.Inv X pins σ1 H1 { heap := h2, gens := s'.gens, drawn := s'.drawn, toks := s'.toks, os := s'.os } := Inv.landed I1' hB' F2'.1 (upTo_trans (upTo_trans hU U) U2) hos hbare
      have I5 := Inv.track I4 ha n0 np' nl hoe2 hd2 hz2.1 hz2.2
      have S5 : L2.Inv (X.suite a (X.pn ++ pins)) [] σ1 (upd H1 a (.ext (exPhi Ce a))) { heap := h2, gens := s'.gens, drawn := s'.drawn, toks := s'.toks, os := s'.os } :=
        ⟨I5.ok.suite _ _, I5.os, I5.bare, I5.base, I5.loc, I5.cell, I5.free, I5.freeC, fun p hp => I5.pin p (by rw [List.append_nil] at hp; exact hp), I5.hok, I5.len⟩
      have back : ∀ {τ : L2.St} {H2 : Hp} {t : Shared}, L2.Inv (X.suite a (X.pn ++ pins)) [] τ H2 t → L2.Inv X pins τ H2 t := fun {τ H2 t} J =>
        ⟨I.ok, J.os, J.bare, J.base, J.loc, J.cell, J.free, J.freeC, fun p hp => J.pin p (by rw [List.append_nil]; exact hp), J.hok, J.len⟩
      refine store_ok (X := X.suite a (X.pn ++ pins)) (v := .ref a) S5 hN hi hli rfl (fun s5 I6 => ?_) (.inr hfi)
      refine wpAny_mono ((hh a (X.pn ++ pins)).run [] s5 _ _ (gone i E) I6 (k a ha)) (fun f s6 hq => ?_) fun _ _ e => e
      cases f with
      | next =>
        obtain ⟨σ', H', I7, q⟩ := hq
        exact gone_ok (back I7) hN hi hln fun s7 I8 => ⟨_, _, I8, q⟩
      | brk =>
        obtain ⟨σ', H', I7, q⟩ := hq
        exact gone_ok (back I7) hN hi hln fun s7 I8 => ⟨_, _, I8, q⟩
      | cont =>
        obtain ⟨σ', H', I7, q⟩ := hq
        exact gone_ok (back I7) hN hi hln fun s7 I8 => ⟨_, _, I8, q⟩
      | ret u =>
        obtain ⟨v, σ', H', I7, r, q⟩ := hq
        exact gone_ok (back I7) hN hi hln fun s7 I8 => ⟨v, _, _, I8, r, q⟩
    · refine PX.clause_passZ (K := X.K) I2.kIn (fun o z => z.1) F hx ld ?_
      refine PX.no_clauseZ hf F fun h3 Hd U3 => ?_
      refine tk (.ref a) _ ⟨a, B, sI, pins, σ1, H1, cls, d, rfl, I1', hB', upTo_trans (upTo_trans hU U) U3, ?_, ha, hos, hbare, hy⟩
      rw [hs]
      exact .inr (.inr Hd)
  have run := (hb (wTry X.K cm (.ref (cm c)) i fh Y E) (X.pn ++ pins) xe tk' PassesOwn.looking).run [] s σ H { E with nx := fun σ' H' => E.nx σ' H' } (I.toTry xe) ?_
  · refine wpAny_mono run (fun f s1 hq => ?_) fun _ _ e => e
    cases f with
    | next =>
      obtain ⟨σ', H', I', q⟩ := hq
      exact pss_nil.run pins s1 σ' H' E (I'.ofTry I.ok) q
    | brk => obtain ⟨σ', H', I', q⟩ := hq; exact ⟨σ', H', I'.ofTry I.ok, q⟩
    | cont => obtain ⟨σ', H', I', q⟩ := hq; exact ⟨σ', H', I'.ofTry I.ok, q⟩
    | ret u => obtain ⟨v, σ', H', I', r, q⟩ := hq; exact ⟨v, σ', H', I'.ofTry I.ok, r, q⟩
  · refine ⟨W, σd, cs, R, N, ?_⟩
    unfold sTryS at P
    cases q : fb σd cs with
    | nx σ' c' => rw [q] at P; exact P
    | bk σ' c' => rw [q] at P; exact P
    | ct σ' c' => rw [q] at P; exact P
    | rt v c' => rw [q] at P; exact P
    | no => rw [q] at P; exact P.elim
    | ex x' σ' c' =>
      rw [q] at P
      intro W' H' σ2 dd l R' N' pay
      dsimp only at P
      cases e : sub x'.1 with
      | none => rw [e] at P; exact P.elim
      | some b =>
        rw [e] at P
        cases b with
        | true =>
          dsimp only at P
          by_cases hx : x'.2 = []
          · rw [if_pos hx] at P
            refine .inl ⟨cm x'.1, rfl, ?_, hsub _ _ e, fun a h0 => ?_⟩
            · rcases pay with ⟨_, z⟩ | ⟨z, _⟩
              · exact z
              · exact absurd hx z
            · obtain ⟨W2, l2, R2, r2⟩ := R'.exn (c := x'.1) h0
              refine ⟨W2, _, c', R2, (N'.up l2).set i r2, ?_⟩
              cases q2 : fh (σ'.set i (some (.exn x'.1))) c' with
              | nx τ c2 =>
                rw [q2] at P
                intro W3 H3 σ3 l3 R3 N3
                exact P W3 H3 _ ((l.trans l2).trans l3) R3 (N3.clear i)
              | bk τ c2 =>
                rw [q2] at P
                intro W3 H3 σ3 l3 R3 N3
                exact P W3 H3 _ ((l.trans l2).trans l3) R3 (N3.clear i)
              | ct τ c2 =>
                rw [q2] at P
                intro W3 H3 σ3 l3 R3 N3
                exact P W3 H3 _ ((l.trans l2).trans l3) R3 (N3.clear i)
              | rt d c2 =>
                rw [q2] at P
                intro W3 H3 v l3 R3 r3
                exact P W3 H3 v ((l.trans l2).trans l3) R3 r3
              | ex y τ c2 => rw [q2] at P; exact P.elim
              | no => rw [q2] at P; exact P.elim
          · rw [if_neg hx] at P; exact P.elim
        | false => exact .inr ⟨hsub _ _ e, P W' H' σ2 dd l R' N' pay⟩⟩
/-- in a suite nothing is wanted of exceptions -/
theorem takesF {X : Cx} : Takes X (fun _ _ _ _ => False) := fun _ _ ⟨_, _, _, _, _, _, _, _, _, _, _, _, _, _, _, _, z⟩ => z.elim
theorem roomS {k : Nat} {A : Around} {v : Option Value} (r : Room k A) : RoomH k (A.mark v) := ⟨r.dp, r.un⟩
end
/-! ### try: body except C : suite (which raises nothing) -/
def sTryO (sub : Nat → Option Bool) (fb fh : Fs) : Fs := fun σ cs => match fb σ cs with
  | .ex x σ' cs' => match sub x.1 with
    | some true => if x.2 = [] then (match fh σ' cs' with
      | .ex _ _ _ => .no
      | r => r) else .no
    | some false => .ex x σ' cs'
    | none => .no
  | r => r
section
variable {X : Cx} {cm : Nat → Addr} {Y : WX}
def wTryO (K : PySem.W.Frag) (cm : Nat → Addr) (C : Value) (fh : Fs) (Y : WX) (E : Ends) : WX := fun cls d σ H =>
  (∃ Ce, cls = .ref Ce ∧ d = none ∧ PySem.W.exmOne K cls C = some true ∧ tS K cm (fun _ _ _ _ => False) fh E σ H) ∨ (PySem.W.exmOne K cls C = some false ∧ Y cls d σ H)
theorem fs_try_only {body suite : List Stmt} {b0 : Stmt} {fb fh : Fs} {c : Nat} {x : Str} {np pos pos' : Pos} {sub : Nat → Option Bool} (hsub : ∀ k b, sub k = some b → PySem.W.exmOne X.K (.ref (cm k)) (.ref (cm c)) = some b)
    (hm : X.mg x = some (.ref (cm c))) (tk : Takes X Y)
    (hb : ∀ (W : WX) (pn : List (Addr × Obj)) (xe : Value → Shared → Prop), Takes (X.tr pn xe) W → PassesOwn (model X.prog X.w) X.A X.env xe → FSs (X.tr pn xe) cm W body fb)
    (hh : ∀ (a : Addr) (pn : List (Addr × Obj)), FSs (X.suite a pn) cm (fun _ _ _ _ => False) (b0 :: suite) fh)
    (hs : X.stack = X.env :: X.outer := by rfl) (hf : X.env.frame = some X.env.locals := by rfl) (hex : X.ex = [] := by rfl) (hg : Gl X x := by rfl) (hdb : (x == ("__debug__" : Str)) = false := by decide) :
    FS X cm Y (.Try body [.ExceptHandler (some (.Name x np)) none (b0 :: suite) pos'] [] [] pos) (sTryO sub fb fh) := ⟨fun pins s σ H E I hM => by
  obtain ⟨W, σd, cs, R, N, P⟩ := hM
  refine wpAny_Try_except ?_
  let hd : ExceptHandler := .ExceptHandler (some (.Name x np)) none (b0 :: suite) pos'
  let xe : Value → Shared → Prop := fun e s1 => wpAny (model X.prog X.w) X.A (noteFrame e X.env) (fun _ s2 => wpAny (model X.prog X.w) X.A (setFlight e none) (fun _ s3 => wpAny (model X.prog X.w) X.A (handleBy e X.env [hd]) (SP X pins E) X.xe s3) X.xe s2) X.xe s1
  have tk' : Takes (X.tr (X.pn ++ pins) xe) (wTryO X.K cm (.ref (cm c)) fh Y E) := by
    rintro u s' ⟨a, B, sI, pns, σ1, H1, cls, d, rfl, I1, hB, hU, sky, ha, hos, hbare, hw⟩
    have I1' : L2.Inv X pins σ1 H1 sI := I1.ofTry I.ok
    have sky' : Sky B (X.env :: X.outer) a (Zc cls d) X.env.locals s'.heap := hs ▸ sky
    refine Sky.land Zc.steady (by rw [← hs]; exact I.ok.frames) hf sky' fun h' F U => ?_
    obtain ⟨oe, vs, hoe, hz, hd'⟩ := F.there
    have na : a ∉ frs (X.env :: X.outer) := not_frs hoe hd' F.2.2.1
    have hB' : ∀ (b : Addr) (o : Obj), sI.heap.get? b = some o → ¬b ∈ frs X.stack → B.get? b = some o := hB
    have hsI : sI.heap.get? a = none := by
      cases e : sI.heap.get? a with
      | none => rfl
      | some o =>
        have := hB' a o e (by rw [hs]; exact na)
        rw [F.2.1] at this
        cases this
    have nl : a ≠ X.env.locals := fun z => na (by
      unfold frs
      rw [List.filterMap_cons, hf, z]
      exact List.mem_cons_self ..)
    have nf : a ∉ X.fs := fun z => na (by
      unfold frs
      rw [List.filterMap_cons, hf]
      exact List.mem_cons_of_mem _ z)
    have np' : ∀ p ∈ X.pn ++ pins, p.1 ≠ a := fun p hp z => by
      have := (I1'.pin p hp).1
      rw [z, hsI] at this
      cases this
    have n0 : X.s_0.heap.get? a = none := by
      cases e : X.s_0.heap.get? a with
      | none => rfl
      | some o =>
        obtain ⟨o', e'⟩ := I1'.base.there a o e (by rw [hex]; simp)
        rw [hsI] at e'
        cases e'
    have I2 : L2.Inv X pins σ1 H1 { heap := h', gens := s'.gens, drawn := s'.drawn, toks := s'.toks, os := s'.os } := Inv.landed I1' hB' F.1 (upTo_trans hU U) hos hbare
    have ld : ∀ {Q' E' : Value → Shared → Prop}, Q' (.ref (cm c)) { heap := h', gens := s'.gens, drawn := s'.drawn, toks := s'.toks, os := s'.os } → wpAny (model X.prog X.w) (X.A.mark (some (.ref a))) (eval (.Name x np) X.env) Q' E' { heap := h', gens := s'.gens, drawn := s'.drawn, toks := s'.toks, os := s'.os } := fun {Q' E'} q =>
      ld_glob (X := X.suite a ((a, oe) :: (X.pn ++ pins))) (I2.suite hoe hd' ha nl nf) hg hm q hdb
    rcases hw with ⟨Ce, rfl, rfl, hx, k⟩ | ⟨hx, hy⟩
    · refine PX.clause_onlyZ (K := X.K) I2.kIn (fun o z => z.1) F hx ld fun h2 F2 U2 => ?_
      have F2' : HandSPX.FlyingZ B (X.env :: X.outer) a (Zc (.ref Ce) none) h2 := F2
      obtain ⟨oe2, vs2, hoe2, hz2, hd2⟩ := F2'.there
      have I4 : L2.Inv X pins σ1 H1 { heap := h2, gens := s'.gens, drawn := s'.drawn, toks := s'.toks, os := s'.os } := Inv.landed I1' hB' F2'.1 (upTo_trans (upTo_trans hU U) U2) hos hbare
      have S5 : L2.Inv (X.suite a (X.pn ++ pins)) [] σ1 H1 { heap := h2, gens := s'.gens, drawn := s'.drawn, toks := s'.toks, os := s'.os } :=
        ⟨I4.ok.suite _ _, I4.os, I4.bare, I4.base, I4.loc, I4.cell, I4.free, I4.freeC, fun p hp => I4.pin p (by rw [List.append_nil] at hp; exact hp), I4.hok, I4.len⟩
      have back : ∀ {τ : L2.St} {H2 : Hp} {t : Shared}, L2.Inv (X.suite a (X.pn ++ pins)) [] τ H2 t → L2.Inv X pins τ H2 t := fun {τ H2 t} J =>
        ⟨I.ok, J.os, J.bare, J.base, J.loc, J.cell, J.free, J.freeC, fun p hp => J.pin p (by rw [List.append_nil]; exact hp), J.hok, J.len⟩
      refine wpAny_mono ((hh a (X.pn ++ pins)).run [] _ _ _ E S5 k) (fun f s6 hq => ?_) fun _ _ e => e
      cases f with
      | next => obtain ⟨σ', H', I7, q⟩ := hq; exact ⟨_, _, back I7, q⟩
      | brk => obtain ⟨σ', H', I7, q⟩ := hq; exact ⟨_, _, back I7, q⟩
      | cont => obtain ⟨σ', H', I7, q⟩ := hq; exact ⟨_, _, back I7, q⟩
      | ret u => obtain ⟨v, σ', H', I7, r, q⟩ := hq; exact ⟨v, _, _, back I7, r, q⟩
    · refine PX.clause_passZ (K := X.K) I2.kIn (fun o z => z.1) F hx ld ?_
      refine PX.no_clauseZ hf F fun h3 Hd U3 => ?_
      refine tk (.ref a) _ ⟨a, B, sI, pins, σ1, H1, cls, d, rfl, I1', hB', upTo_trans (upTo_trans hU U) U3, ?_, ha, hos, hbare, hy⟩
      rw [hs]
      exact .inr (.inr Hd)
  have run := (hb (wTryO X.K cm (.ref (cm c)) fh Y E) (X.pn ++ pins) xe tk' PassesOwn.looking).run [] s σ H { E with nx := fun σ' H' => E.nx σ' H' } (I.toTry xe) ?_
  · refine wpAny_mono run (fun f s1 hq => ?_) fun _ _ e => e
    cases f with
    | next =>
      obtain ⟨σ', H', I', q⟩ := hq
      exact pss_nil.run pins s1 σ' H' E (I'.ofTry I.ok) q
    | brk => obtain ⟨σ', H', I', q⟩ := hq; exact ⟨σ', H', I'.ofTry I.ok, q⟩
    | cont => obtain ⟨σ', H', I', q⟩ := hq; exact ⟨σ', H', I'.ofTry I.ok, q⟩
    | ret u => obtain ⟨v, σ', H', I', r, q⟩ := hq; exact ⟨v, σ', H', I'.ofTry I.ok, r, q⟩
  · refine ⟨W, σd, cs, R, N, ?_⟩
    unfold sTryO at P
    cases q : fb σd cs with
    | nx σ' c' => rw [q] at P; exact P
    | bk σ' c' => rw [q] at P; exact P
    | ct σ' c' => rw [q] at P; exact P
    | rt v c' => rw [q] at P; exact P
    | no => rw [q] at P; exact P.elim
    | ex x' σ' c' =>
      rw [q] at P
      intro W' H' σ2 dd l R' N' pay
      dsimp only at P
      cases e : sub x'.1 with
      | none => rw [e] at P; exact P.elim
      | some b =>
        rw [e] at P
        cases b with
        | true =>
          dsimp only at P
          by_cases hx : x'.2 = []
          · rw [if_pos hx] at P
            refine .inl ⟨cm x'.1, rfl, ?_, hsub _ _ e, W', _, c', R', N', ?_⟩
            · rcases pay with ⟨_, z⟩ | ⟨z, _⟩
              · exact z
              · exact absurd hx z
            · cases q2 : fh σ' c' with
              | nx τ c2 => rw [q2] at P; exact PostS.up l P
              | bk τ c2 => rw [q2] at P; exact PostS.up l P
              | ct τ c2 => rw [q2] at P; exact PostS.up l P
              | rt d c2 => rw [q2] at P; exact PostS.up l P
              | ex y τ c2 => rw [q2] at P; exact P.elim
              | no => rw [q2] at P; exact P.elim
          · rw [if_neg hx] at P; exact P.elim
        | false => exact .inr ⟨hsub _ _ e, P W' H' σ2 dd l R' N' pay⟩⟩
end
end PV

namespace PV
open PySem PySem.Spec PyProof.Rows L2
/-! ### range(i, j, -1) -/
def rngN (lo : Int) (n : Nat) : List D := (List.range n).map fun i : Nat => D.int (lo - i)
theorem yields_dn {K : PySem.W.Frag} {cm : Nat → Addr} {W : Wd} (lo : Int) (n : Nat) : Yields K cm W (rngN lo n) (Itc lo (-1) n) := fun i W2 cs2 H2 l2 R2 => by
  refine ⟨fun d hd => ?_, fun hd => ?_⟩
  · have hi : i < n := by
      have q := get_lt hd
      unfold rngN at q
      simpa using q
    refine ⟨hi, fun y H3 z => ?_⟩
    obtain ⟨e, y3⟩ := z
    subst e y3
    unfold rngN at hd
    rw [List.getElem?_map, List.getElem?_range hi] at hd
    cases hd
    have e : lo + (i : Nat) * (-1 : Int) = lo - i := by omega
    rw [e]
    exact ⟨W2, .refl W2, R2, .int _⟩
  · have q := List.getElem?_eq_none_iff.mp hd
    unfold rngN at q
    show n ≤ i
    simpa using q
def iRg3 (f : Fa) : Fi := fun σ cs => (f σ cs).bind fun ds c => match ds with
  | [.int i, .int j, .int k] => if k = -1 ∧ -(2 ^ 62) ≤ i ∧ i < 2 ^ 62 ∧ -(2 ^ 62) ≤ j ∧ j < 2 ^ 62 then .ok (rngN i (i - j).toNat) c else .no
  | _ => .no
section
variable {X : Cx} {cm : Nat → Addr} {Y : WX} {tg : Expr} {pos : Pos}
theorem Rps.three {K : PySem.W.Frag} {W : Wd} {d d' d2 : D} {vs : List V} (r : Rps K cm W [d, d', d2] vs) : ∃ v w u, vs = [v, w, u] ∧ Rp K cm W d v ∧ Rp K cm W d' w ∧ Rp K cm W d2 u := by
  cases r with
  | cons a r => cases r with
    | cons b r => cases r with
      | cons c r => cases r; exact ⟨_, _, _, rfl, a, b, c⟩
theorem fi_range3 {a b e : Expr} {fa : Fa} {p : Pos} (hm : X.mg "range" = none) (ha : FA X cm Y [a, b, e] fa) (hg : Gl X "range" := by rfl) (hs : starEach [a, b, e] X.env = (false, eval a X.env) :: starEach [b, e] X.env := by rfl) (hpl : (backTo pos (starEach [b, e] X.env)).any (·.1) = false := by rfl) :
    FI X cm Y tg (.Call (.Name "range" p) [a, b, e] [] pos) (iRg3 fa) := PI.weak (pi_range3 hg hm ha hs hpl) fun σ H Q ⟨W, σd, cs, R, N, P⟩ => by
  refine tA_go R N asksI P fun d c1 _ h1 W1 H1 v l1 R1 N1 r1 => ?_
  split at h1
  · split at h1
    · rename_i hb
      obtain ⟨x, y, z, rfl, q1, q2, q3⟩ := r1.three
      cases q1; cases q2; cases q3
      obtain ⟨k1, b1, b2, b3, b4⟩ := hb
      subst k1
      exact ⟨_, _, _, _, rfl, RgC.neg b1 b2 b3 b4, h1 W1 H1 _ l1 R1 (yields_dn _ _)⟩
    · exact h1.elim
  · exact h1.elim
end
end PV

open PySem PySem.Spec PyProof.Rows L2
/-! ### sorted(set(whole numbers)) -/
namespace PV
section
variable {P : Program} {w : World} {A : Around} {E : Value → Shared → Prop} {s : Shared}
set_option maxHeartbeats 6400000 in
/-- a set made of a list of whole numbers -/
theorem call_set_lstI {l : Addr} {items : Array Value} (ns : List Int) {Q : Value → Shared → Prop} (hh : A.handled = none) (hl : s.heap.IsList l items) (hit : IntsAre items.toList ns) (hb : ns.length + 1 < scanBound)
    (h : ∀ (h' : Heap) (tk c : Nat), SetR w h' s.heap.objs.size (fun j => decide (j ∈ ns)) c → c ≤ ns.length → (∀ b o, s.heap.get? b = some o → h'.get? b = some o) → Q (.ref s.heap.objs.size) { s with heap := h', toks := tk }) :
    wpAny (model P w) A (call (.type "set") [.ref l]) Q E s := by
  have hisz : items.size = ns.length := by
    have q := IntsAre.length hit
    rwa [Array.length_toList] at q
  obtain ⟨c0, tl, hmro⟩ := F.called_set.mro
  have hmade := F.called_set.made
  have hsub := F.called_set.sub
  refine wpAny_call (codeAny_of_tree ?_)
  show wpAny _ _ (callAny (.type "set") _) _ _ _
  refine wpAny_pure ⟨Code.quiet_builtin _ (by decide +kernel), codeAny_builtin F.entry_type_call ?_⟩
  rw [Around.under_plain (weight_type_call_type "set" [.ref l] []) rfl]
  have h1 := F.called_set.notType
  have h2 := F.called_set.canCreate
  have hct := F.typeCall_set_1 (.ref l)
  repeat (any_goals (first | assumption | wp_step))
  refine codeAny_mono (code_set_led1 (.ref l) (E := E) (Q₁ := fun obj s₁ => obj = .ref s.heap.objs.size ∧ s₁ = { s with heap := s.heap.push { cls := .type "set", dict := none, data := .set #[] 0 (.fresh 0 0 (!w.params.followText "set-order")) } }) ⟨rfl, rfl⟩) fun r s₁ hr => ?_
  cases r with
  | error e => exact hr
  | ok fl =>
    cases fl with
    | ret obj =>
      obtain ⟨rfl, rfl⟩ := hr
      have hS : (s.heap.push { cls := .type "set", dict := none, data := .set #[] 0 (.fresh 0 0 (!w.params.followText "set-order")) }).get? s.heap.objs.size = some { cls := .type "set", dict := none, data := .set #[] 0 (.fresh 0 0 (!w.params.followText "set-order")) } := Heap.get?_push_size _ rfl
      have hT : Shared.TypeIs { s with heap := s.heap.push { cls := .type "set", dict := none, data := .set #[] 0 (.fresh 0 0 (!w.params.followText "set-order")) } } (.ref s.heap.objs.size) "set" := ⟨_, hS, rfl⟩
      have hli := F.called_set.init.lookup
      have hbi := F.called_set.init.bind (.ref s.heap.objs.size)
      repeat (any_goals (first | assumption | wp_step))
      refine codeAny_mono (codeAny_call_builtin (R := wants (fun r s₂ => r = .none ∧ ∃ h' tk c, s₂ = { s with heap := h', toks := tk } ∧ SetR w h' s.heap.objs.size (fun j => decide (j ∈ ns)) c ∧ c ≤ ns.length ∧
          (∀ b o, s.heap.get? b = some o → h'.get? b = some o)) E) F.called_set.init.plain F.entry_set_init (check_set_init_1 hT ?_)) fun r₂ s₂ hr₂ => ?_
      · obtain ⟨ol, hol, hcl, nl, hdl⟩ := hl
        obtain ⟨ocls, odict, odata, oslots⟩ := ol
        simp only at hcl hdl
        subst hcl; subst hdl
        have hol' : (s.heap.push { cls := .type "set", dict := none, data := .set #[] 0 (.fresh 0 0 (!w.params.followText "set-order")) }).get? l = some { cls := .type "list", dict := odict, data := .seq items nl, slots := oslots } := Heap.get?_push_of_some _ hol
        have hsls := F.sub_list_set
        have hslf := F.sub_list_frozenset
        have hne : (Value.type "list" == Value.type "dict") = false := by decide
        have hl1 : (s.heap.push { cls := .type "set", dict := none, data := .set #[] 0 (.fresh 0 0 (!w.params.followText "set-order")) }).IsList l items := ⟨_, hol', rfl, nl, rfl⟩
        unfold Builtin.«set.__init__» noKeywords Builtin.Frozenset.updateFrom
        generalize hPI : pyIter = PI
        wp_walk
        subst hPI
        refine wpAny_pyIter_list hl1 ?_
        refine wpAny_bind (wpAny_runValue ?_)
        have hlS : l < s.heap.objs.size := Heap.lt_size hol
        have hh3 : A.in1.in1.in1.handled = none := by simp [hh]
        have hz : (s.heap.push { cls := .type "set", dict := none, data := .set #[] 0 (.fresh 0 0 (!w.params.followText "set-order")) }).objs.size = s.heap.objs.size + 1 := Heap.size_push ..
        have hneI : l ≠ (s.heap.push { cls := .type "set", dict := none, data := .set #[] 0 (.fresh 0 0 (!w.params.followText "set-order")) }).objs.size := by rw [hz]; exact Nat.ne_of_lt (Nat.lt_succ_of_lt hlS)
        have hSf : s.heap.objs.size ∉ [(s.heap.push { cls := .type "set", dict := none, data := .set #[] 0 (.fresh 0 0 (!w.params.followText "set-order")) }).objs.size, l] := by
          rw [hz]
          simp only [List.mem_cons, List.not_mem_nil, or_false, not_or]
          exact ⟨Nat.ne_of_lt (Nat.lt_succ_self _), Nat.ne_of_gt hlS⟩
        have hval : ∀ (i : Nat) (v : Value), items[i]? = some v → ∃ k t, ns[i]? = some k ∧ v = .int k t := fun i v hv => by
          have hi : i < ns.length := by rw [← hisz]; exact (Array.getElem?_eq_some_iff.mp hv).1
          obtain ⟨t, e⟩ := PyProof.Rows.IntsAre.int_at hit i v (by rw [Array.getElem?_toList]; exact hv)
          refine ⟨ns[i], t, List.getElem?_eq_getElem hi, ?_⟩
          rw [e, List.getD_eq_getElem?_getD, List.getElem?_eq_getElem hi] <;> rfl
        refine set_update_ints ((Walks.list hh3 _ l hneI items).toS) s.heap.objs.size
          hSf ns hisz hb hval (items.size - 0) 0 _ (by omega) (Nat.zero_le _)
          ⟨⟨_, Heap.get?_push_size _ rfl, rfl, rfl⟩, (hl1.push _)⟩ ?hS0 ?hR
        case hS0 =>
          exact ⟨0, Nat.le_refl 0, setR_new_at (Heap.get?_push_of_some _ hS)⟩
        case hR =>
          intro s' c' hm hc' hS'
          obtain ⟨h', g2, d', tk', os'⟩ := s'
          have eg : g2 = s.gens := hm.gens
          have ed : d' = s.drawn := hm.drawn
          have eo : os' = s.os := hm.os
          subst eg; subst ed; subst eo
          show wpAny _ _ _ _ _ _
          refine wpAny_pure ?_
          show wpAny _ _ (ret Value.none) _ _ _
          rw [hisz] at hc'
          refine wpAny_pure ⟨rfl, h', tk', c', rfl, hS', hc', fun b o e => ?_⟩
          have hb0 : b < s.heap.objs.size := Heap.lt_size e
          refine hm.heap b o ?_ (Heap.get?_push_of_some _ (Heap.get?_push_of_some _ e))
          simp only [List.mem_cons, List.not_mem_nil, or_false, not_or]
          exact ⟨Nat.ne_of_lt hb0, by rw [hz]; exact Nat.ne_of_lt (Nat.lt_succ_of_lt hb0)⟩
      · cases r₂ with
        | error e => exact hr₂
        | ok fl₂ =>
          cases fl₂ with
          | ret r =>
            obtain ⟨rfl, h', tk, c', rfl, hS', hc', hk'⟩ := hr₂
            repeat (any_goals (first | assumption | wp_step))
            exact h _ _ _ hS' hc' hk'
          | _ => exact hr₂.elim
    | _ => exact hr.elim
end
section
variable {X : Cx}
def rSetLI (K : PySem.W.Frag) (w : World) : List V → Hp → VK → Prop := fun xs H Q => ∃ (l : Addr) (ns : List Int), xs = [V.ref l] ∧ SqL K H l (ns.map V.int) ∧ ns.length < 60 ∧ ∀ (p : Addr) (c : Nat), H p = none → c ≤ ns.length → Q (.ref p) (upd H p (SetO w p (fun j => decide (j ∈ ns)) c))
theorem cr_setLI (hc : X.calm = true) : CallR X (.type "set") (rSetLI X.K X.w) := by
  intro pins s σ H xs us Q I r h
  obtain ⟨l, ns, rfl, hq, hl, q⟩ := h
  rw [Vals.ref1 r]
  obtain ⟨its, rv, pl, hz⟩ := I.list hq
  have hi : IntsAre its.toArray.toList ns := ints_of_vals rv
  refine call_set_lstI ns (I.ok.hd hc) pl.isList hi (by unfold scanBound; omega) fun h' tk c R hcn k => ?_
  exact ⟨.ref _, upd H s.heap.objs.size (SetO X.w s.heap.objs.size (fun j => decide (j ∈ ns)) c), I.laid (t' := tk) k (Nat.le_refl _) (setO_new R), rfl, q _ c (I.hok.fresh (Nat.le_refl _)) hcn⟩
end
end PV

open PySem PySem.Spec PyProof.Rows L2
namespace PV
/-! ### sorted, without doubles -/
def insI (x : Int) : List Int → List Int
  | [] => [x]
  | y :: r => if x < y then x :: y :: r else if x = y then y :: r else y :: insI x r
def srt : List Int → List Int
  | [] => []
  | x :: r => insI x (srt r)
theorem mem_insI {x k : Int} : ∀ {l : List Int}, k ∈ insI x l ↔ k = x ∨ k ∈ l
  | [] => by simp [insI]
  | y :: r => by
    unfold insI
    split
    · simp
    · split
      · rename_i h
        subst h
        simp
      · simp only [List.mem_cons, mem_insI (l := r)]
        constructor
        · rintro (h | h | h)
          · exact .inr (.inl h)
          · exact .inl h
          · exact .inr (.inr h)
        · rintro (h | h | h)
          · exact .inr (.inl h)
          · exact .inl h
          · exact .inr (.inr h)
theorem mem_srt {k : Int} : ∀ {l : List Int}, k ∈ srt l ↔ k ∈ l
  | [] => by simp [srt]
  | x :: r => by
    unfold srt
    rw [mem_insI, mem_srt (l := r), List.mem_cons]
theorem insI_pw {x : Int} : ∀ {l : List Int}, l.Pairwise (· < ·) → (insI x l).Pairwise (· < ·)
  | [], _ => by simp [insI]
  | y :: r, h => by
    obtain ⟨h1, h2⟩ := List.pairwise_cons.mp h
    unfold insI
    split
    · rename_i c
      refine List.pairwise_cons.mpr ⟨fun z hz => ?_, h⟩
      rcases List.mem_cons.mp hz with rfl | hz
      · exact c
      · exact Int.lt_trans c (h1 z hz)
    · split
      · exact h
      · refine List.pairwise_cons.mpr ⟨fun z hz => ?_, insI_pw h2⟩
        rcases mem_insI.mp hz with rfl | hz
        · omega
        · exact h1 z hz
theorem srt_pw : ∀ {l : List Int}, (srt l).Pairwise (· < ·)
  | [] => List.Pairwise.nil
  | x :: r => insI_pw (srt_pw (l := r))
theorem srt_len : ∀ {l : List Int}, (srt l).length ≤ l.length
  | [] => Nat.le_refl _
  | x :: r => by
    have h : ∀ l : List Int, (insI x l).length ≤ l.length + 1 := fun l => by
      induction l with
      | nil => simp [insI]
      | cons y r ih =>
        unfold insI
        split
        · simp
        · split
          · simp
          · simp only [List.length_cons]
            omega
    have := srt_len (l := r)
    have := h (srt r)
    unfold srt
    simp only [List.length_cons]
    omega
/-- two rising lists of the same members are one -/
theorem pw_eq : ∀ {a b : List Int}, a.Pairwise (· < ·) → b.Pairwise (· < ·) → (∀ k, k ∈ a ↔ k ∈ b) → a = b
  | [], [], _, _, _ => rfl
  | [], y :: r, _, _, h => by
    have := (h y).mpr (List.mem_cons_self ..)
    cases this
  | x :: r, [], _, _, h => by
    have := (h x).mp (List.mem_cons_self ..)
    cases this
  | x :: r, y :: t, ha, hb, h => by
    obtain ⟨a1, a2⟩ := List.pairwise_cons.mp ha
    obtain ⟨b1, b2⟩ := List.pairwise_cons.mp hb
    have e : x = y := by
      rcases List.mem_cons.mp ((h x).mp (List.mem_cons_self ..)) with e | e
      · exact e
      · rcases List.mem_cons.mp ((h y).mpr (List.mem_cons_self ..)) with e2 | e2
        · exact e2.symm
        · have := b1 x e
          have := a1 y e2
          omega
    subst e
    congr 1
    refine pw_eq a2 b2 fun k => ?_
    constructor
    · intro hk
      rcases List.mem_cons.mp ((h k).mp (List.mem_cons_of_mem _ hk)) with e | e
      · have := a1 k hk
        omega
      · exact e
    · intro hk
      rcases List.mem_cons.mp ((h k).mpr (List.mem_cons_of_mem _ hk)) with e | e
      · have := b1 k hk
        omega
      · exact e
def dSS : GC := fun ds cs => match ds with
  | [d] => match intsAt cs d with
    | some ns => if ns.length < 60 then some (.lst ((srt ns).map .int), cs) else none
    | none => none
  | _ => none
section
variable {X : Cx} {cm : Nat → Addr} {Y : WX}
/-- sorted(set(e)) -/
theorem fe_sortSet {a : Expr} {fa : Fe} {p p2 q pos : Pos} (hc : X.calm = true) (hm : X.mg "sorted" = none) (hm2 : X.mg "set" = none) (ha : FE X cm Y a fa) (hg : Gl X "sorted" := by rfl) (hg2 : Gl X "set" := by rfl)
    (hs : starEach [a] X.env = (false, eval a X.env) :: starEach [] X.env := by rfl)
    (hs2 : starEach [Expr.Call (.Name "set" p2) [a] [] q] X.env = (false, eval (.Call (.Name "set" p2) [a] [] q) X.env) :: starEach [] X.env := by rfl) :
    FE X cm Y (.Call (.Name "sorted" p) [.Call (.Name "set" p2) [a] [] q] [] pos) (fCB dSS (aCons fa aNil)) :=
  PE.weak (pe_callB (cr_sortedSet hc) hg hm (by rfl) (pa_cons (pe_callTy (cr_setLI hc) hg2 hm2 PyProof.Rows.boot_set (pa_cons ha pa_nil hs) (by decide) (by decide) hs rfl) pa_nil hs2) (by decide) (by decide) hs2 rfl) fun σ H Q m => by
    obtain ⟨W, σd, cs, R, E, h⟩ := m
    have h' : PostE X.K cm Y σ W ((fa σd cs).bind fun d c => up (dSS [d] c)) Q := by
      have e : fCB dSS (aCons fa aNil) σd cs = (fa σd cs).bind fun d c => up (dSS [d] c) := by
        unfold fCB aCons aNil
        cases fa σd cs <;> rfl
      rw [e] at h
      exact h
    refine tE_go R E asksE h' fun d c1 _ h1 W1 H1 v l1 R1 E1 r1 => ?_
    have P : Post X.K cm W1 (match intsAt c1 d with
      | some ns => if ns.length < 60 then some (D.lst ((srt ns).map .int), c1) else none
      | none => none) Q := (PostE.down h1).up l1
    cases e : intsAt c1 d with
    | none =>
      rw [e] at P
      exact (P.ne rfl).elim
    | some ns =>
      rw [e] at P
      by_cases hl : ns.length < 60
      · obtain ⟨l, rfl, hq⟩ := intsAt_of R1 r1 e
        refine ⟨l, ns, rfl, hq, hl, fun p0 c hp hcn => ⟨p0, _, c, rfl, upd_same, by omega, fun ms p1 hs1 hmem hlen hp1 => ?_⟩⟩
        have em : ms = srt ns := pw_eq hs1 srt_pw fun k => by rw [hmem k, mem_srt]; simp
        subst em
        obtain ⟨d', c', ed, k⟩ := P
        have ed' : (if ns.length < 60 then some (D.lst ((srt ns).map .int), c1) else none) = some (d', c') := ed
        rw [if_pos hl] at ed'
        cases ed'
        have R2 := R1.junk (o := SetO X.w p0 (fun j => decide (j ∈ ns)) c) hp
        obtain ⟨le, R3⟩ := R2.newG (.lst ((srt ns).map V.int)) hp1
        exact k _ _ _ le R3 (.lst upd_same Vals.ints_of)
      · have P2 : Post X.K cm W1 none Q := by
          have e2 : (if ns.length < 60 then some (D.lst ((srt ns).map .int), c1) else none) = none := if_neg hl
          rw [← e2]
          exact P
        exact (P2.ne rfl).elim
end
end PV

namespace Ck22
open PySem PySem.Spec L2 PV
noncomputable section
abbrev nCls : Nat := 2
def tabL : List (Kd × Kd × Bool) := [(.ty "NoneType", .ty "int", false), (.ty "NoneType", .ty "bool", false), (.ty "NoneType", .ty "tuple", false), (.ty "bool", .ty "int", true), (.ty "bool", .ty "bool", true), (.ty "bool", .ty "tuple", false), (.ty "int", .ty "int", true), (.ty "int", .ty "bool", false), (.ty "int", .ty "tuple", false), (.ty "str", .ty "int", false), (.ty "str", .ty "bool", false), (.ty "str", .ty "tuple", false), (.ty "tuple", .ty "int", false), (.ty "tuple", .ty "bool", false), (.ty "tuple", .ty "tuple", true), (.ty "list", .ty "int", false), (.ty "list", .ty "bool", false), (.ty "list", .ty "tuple", false), (.ty "dict", .ty "int", false), (.ty "dict", .ty "bool", false), (.ty "dict", .ty "tuple", false), (.cl 0, .ty "int", false), (.cl 0, .ty "bool", false), (.cl 0, .ty "tuple", false), (.cl 1, .ty "int", false), (.cl 1, .ty "bool", false), (.cl 1, .ty "tuple", false)]
def tab : Kd → Kd → Option Bool := tabOf tabL
@[simp] theorem tab_t_NoneType_t_int : tab (.ty "NoneType") (.ty "int") = some false := by decide +kernel
@[simp] theorem tab_t_NoneType_t_bool : tab (.ty "NoneType") (.ty "bool") = some false := by decide +kernel
@[simp] theorem tab_t_NoneType_t_tuple : tab (.ty "NoneType") (.ty "tuple") = some false := by decide +kernel
@[simp] theorem tab_t_bool_t_int : tab (.ty "bool") (.ty "int") = some true := by decide +kernel
@[simp] theorem tab_t_bool_t_bool : tab (.ty "bool") (.ty "bool") = some true := by decide +kernel
@[simp] theorem tab_t_bool_t_tuple : tab (.ty "bool") (.ty "tuple") = some false := by decide +kernel
@[simp] theorem tab_t_int_t_int : tab (.ty "int") (.ty "int") = some true := by decide +kernel
@[simp] theorem tab_t_int_t_bool : tab (.ty "int") (.ty "bool") = some false := by decide +kernel
@[simp] theorem tab_t_int_t_tuple : tab (.ty "int") (.ty "tuple") = some false := by decide +kernel
@[simp] theorem tab_t_str_t_int : tab (.ty "str") (.ty "int") = some false := by decide +kernel
@[simp] theorem tab_t_str_t_bool : tab (.ty "str") (.ty "bool") = some false := by decide +kernel
@[simp] theorem tab_t_str_t_tuple : tab (.ty "str") (.ty "tuple") = some false := by decide +kernel
@[simp] theorem tab_t_tuple_t_int : tab (.ty "tuple") (.ty "int") = some false := by decide +kernel
@[simp] theorem tab_t_tuple_t_bool : tab (.ty "tuple") (.ty "bool") = some false := by decide +kernel
@[simp] theorem tab_t_tuple_t_tuple : tab (.ty "tuple") (.ty "tuple") = some true := by decide +kernel
@[simp] theorem tab_t_list_t_int : tab (.ty "list") (.ty "int") = some false := by decide +kernel
@[simp] theorem tab_t_list_t_bool : tab (.ty "list") (.ty "bool") = some false := by decide +kernel
@[simp] theorem tab_t_list_t_tuple : tab (.ty "list") (.ty "tuple") = some false := by decide +kernel
@[simp] theorem tab_t_dict_t_int : tab (.ty "dict") (.ty "int") = some false := by decide +kernel
@[simp] theorem tab_t_dict_t_bool : tab (.ty "dict") (.ty "bool") = some false := by decide +kernel
@[simp] theorem tab_t_dict_t_tuple : tab (.ty "dict") (.ty "tuple") = some false := by decide +kernel
@[simp] theorem tab_c_0_t_int : tab (.cl 0) (.ty "int") = some false := by decide +kernel
@[simp] theorem tab_c_0_t_bool : tab (.cl 0) (.ty "bool") = some false := by decide +kernel
@[simp] theorem tab_c_0_t_tuple : tab (.cl 0) (.ty "tuple") = some false := by decide +kernel
@[simp] theorem tab_c_1_t_int : tab (.cl 1) (.ty "int") = some false := by decide +kernel
@[simp] theorem tab_c_1_t_bool : tab (.cl 1) (.ty "bool") = some false := by decide +kernel
@[simp] theorem tab_c_1_t_tuple : tab (.cl 1) (.ty "tuple") = some false := by decide +kernel
/- _law_feed: _law_script, _law_k, _law_start -/
def b_law_feed : Fs := (sSeq (sAsg (fC (.int 0)) (gN 2)) (sSeq (sIf (fTst (fOp2 dLt (fVar 1) (fCB dLen (aCons (fVar 0) aNil)))) (sAsg (fOp2 dIx (fVar 0) (fVar 1)) (gN 2)) sNx) (sRet (fLst false (aCons (fCB dMax (aCons (fC (.int 0)) (aCons (fOp2 dSub (fCB dAbs (aCons (fVar 2) aNil)) (fOp2 dPow (fC (.int 10)) (fC (.int 18)))) aNil))) (aCons (fOp2 dMod (fOp2 (dAdd true) (fOp2 (dAdd true) (fOp2 (dMul true) (fVar 2) (fC (.int 227))) (fOp2 (dMul true) (fC (.int 6521)) (fVar 1))) (fC (.int 83))) (fC (.int 2305843009213693951))) (aCons (fC (.int 0)) aNil)))))))
def F_law_feed : List D → List Cell → Out D := runDef 2 3 b_law_feed
/- is_place: thing -/
def b_is_place : Fs := (sRet (fAndV (fCB (dIsI nCls tab) (aCons (fVar 0) (aCons (fC (.ty "int")) aNil))) (fAndV (fNotV (fCB (dIsI nCls tab) (aCons (fVar 0) (aCons (fC (.ty "bool")) aNil)))) (fChain dLe dLt (fC (.int 0)) (fVar 0) (fC (.int 1000000000000000000000000000000))))))
def F_is_place : List D → List Cell → Out D := runDef 1 1 b_is_place
/- is_cell: thing -/
def b_is_cell : Fs := (sRet (fAndV (fCB (dIsI nCls tab) (aCons (fVar 0) (aCons (fC (.ty "tuple")) aNil))) (fAndV (fOp2 (dEq false) (fCB dLen (aCons (fVar 0) aNil)) (fC (.int 2))) (fAndV (fCall (fnK 1 0 1 F_is_place (fun ds _ => ds)) (aCons (fOp2 dIx (fVar 0) (fC (.int 0))) aNil) aNil) (fCall (fnK 1 0 1 F_is_place (fun ds _ => ds)) (aCons (fOp2 dIx (fVar 0) (fC (.int 1))) aNil) aNil)))))
def F_is_cell : List D → List Cell → Out D := runDef 1 1 b_is_cell
/- need_cell: thing -/
def b_need_cell : Fs := (sIf (fNot (fTru (fCall (fnK 1 0 1 F_is_cell (fun ds _ => ds)) (aCons (fVar 0) aNil) aNil))) (fun _ _ => .no) sNx)
def F_need_cell : List D → List Cell → Out D := runDef 1 1 b_need_cell
/- need_range: least, greatest, places, place -/
def b_need_range : Fs := (sSeq (sIf (fOr (fNot (fTru (fCall (fnK 1 0 1 F_is_place (fun ds _ => ds)) (aCons (fVar 0) aNil) aNil))) (fNot (fTru (fCall (fnK 1 0 1 F_is_place (fun ds _ => ds)) (aCons (fVar 1) aNil) aNil)))) (fun _ _ => .no) sNx) (sIf (fNot (fTru (fCB dAll (aCons (fLc true (iSq (fVar 2)) (gN 3) (fun _ c => .ok true c) (fChain dLe dLe (fVar 0) (fVar 3) (fVar 1)) [3]) aNil)))) (fun _ _ => .no) sNx))
def F_need_range : List D → List Cell → Out D := runDef 3 4 b_need_range
/- Frame.__init__: self, first, last, top, bottom, left, right -/
def b_Frame___init_2 : Fs := (sEx (fCall (fnK 3 0 3 F_need_range (fun ds _ => ds)) (aCons (fVar 3) (aCons (fVar 4) (aCons (fTup (aCons (fOp2 dIx (fVar 1) (fC (.int 0))) (aCons (fOp2 dIx (fVar 2) (fC (.int 0))) aNil))) aNil))) aNil))
def b_Frame___init_3 : Fs := (sEx (fCall (fnK 3 0 3 F_need_range (fun ds _ => ds)) (aCons (fVar 5) (aCons (fVar 6) (aCons (fTup (aCons (fOp2 dIx (fVar 1) (fC (.int 1))) (aCons (fOp2 dIx (fVar 2) (fC (.int 1))) aNil))) aNil))) aNil))
def b_Frame___init_t7 : Fs := (sFld [0] "column_range" (fTup (aCons (fVar 5) (aCons (fVar 6) aNil))) (fVar 0))
def b_Frame___init_t6 : Fs := (sSeq (sFld [0] "row_range" (fTup (aCons (fVar 3) (aCons (fVar 4) aNil))) (fVar 0)) b_Frame___init_t7)
def b_Frame___init_t5 : Fs := (sSeq (sFld [0] "end" (fVar 2) (fVar 0)) b_Frame___init_t6)
def b_Frame___init_t4 : Fs := (sSeq (sFld [0] "begin" (fVar 1) (fVar 0)) b_Frame___init_t5)
def b_Frame___init_t3 : Fs := (sSeq b_Frame___init_3 b_Frame___init_t4)
def b_Frame___init_t2 : Fs := (sSeq b_Frame___init_2 b_Frame___init_t3)
def b_Frame___init_t1 : Fs := (sSeq (sEx (fCall (fnK 1 0 1 F_need_cell (fun ds _ => ds)) (aCons (fVar 2) aNil) aNil)) b_Frame___init_t2)
def b_Frame___init : Fs := (sSeq (sEx (fCall (fnK 1 0 1 F_need_cell (fun ds _ => ds)) (aCons (fVar 1) aNil) aNil)) b_Frame___init_t1)
def F_Frame___init : List D → List Cell → Out D := runDef 7 7 b_Frame___init
/- _law_frame: _law_six -/
def b_law_frame : Fs := (sRet (fCall (mkK 0 true (fnK 7 0 7 F_Frame___init (fun ds _ => ds))) (aCons (fOp2 dIx (fVar 0) (fC (.int 0))) (aCons (fOp2 dIx (fVar 0) (fC (.int 1))) (aCons (fOp2 dIx (fVar 0) (fC (.int 2))) (aCons (fOp2 dIx (fVar 0) (fC (.int 3))) (aCons (fOp2 dIx (fVar 0) (fC (.int 4))) (aCons (fOp2 dIx (fVar 0) (fC (.int 5))) aNil)))))) aNil))
def F_law_frame : List D → List Cell → Out D := runDef 1 1 b_law_frame
/- _law_pick: _law_feed_here, _law_many, _law_digit, _law_found, _law_turn, _law_mixed -/
def b_law_pick_L0 : Fs := (sSeq (sSub (fOp2 (dAdd true) (fOp2 dIx (fVar 0) (fC (.int 2))) (fC (.int 1))) (fVar 0) (fC (.int 2))) (sSeq (sAsg (fOp2 dMod (fOp2 (dAdd true) (fOp2 dIx (fVar 0) (fC (.int 1))) (fOp2 (dMul true) (fC (.int 220009)) (fOp2 dIx (fVar 0) (fC (.int 2))))) (fC (.int 2305843009213693951))) (gN 5)) (sSeq (sAsg (fOp2 dMod (fOp2 (dAdd true) (fOp2 (dAdd true) (fOp2 (dMul true) (fVar 5) (fVar 5)) (fOp2 (dMul true) (fOp2 (dMul true) (fC (.int 77003)) (fOp2 dIx (fVar 0) (fC (.int 2)))) (fVar 5))) (fC (.int 71))) (fC (.int 2305843009213693951))) (gN 5)) (sSeq (sAsg (fOp2 dMod (fOp2 (dAdd true) (fOp2 (dAdd true) (fOp2 dPow (fVar 5) (fC (.int 3))) (fOp2 dIx (fVar 0) (fC (.int 1)))) (fOp2 (dMul true) (fC (.int 17)) (fOp2 dIx (fVar 0) (fC (.int 2))))) (fC (.int 2305843009213693951))) (gN 5)) (sAsg (fOp2 (dAdd true) (fOp2 (dMul true) (fVar 3) (fOp2 dPow (fC (.int 10)) (fC (.int 13)))) (fOp2 dFdiv (fVar 5) (fC (.int 8191)))) (gN 3))))))
def b_law_pick_0 : Fs := (sIf (fTst (fOp2 dGt (fOp2 dIx (fVar 0) (fC (.int 0))) (fC (.int 0)))) (sSeq (sAsg (fOp2 dMod (fOp2 dIx (fVar 0) (fC (.int 0))) (fVar 1)) (gN 2)) (sSeq (sSub (fOp2 dFdiv (fOp2 dIx (fVar 0) (fC (.int 0))) (fVar 1)) (fVar 0) (fC (.int 0))) (sRet (fVar 2)))) sNx)
def b_law_pick_2 : Fs := (sFor (iRg1 (aCons (fOp2 (dAdd true) (fC (.int 1)) (fOp2 dFdiv (fBits (fVar 1)) (fC (.int 40)))) aNil)) (gN 4) b_law_pick_L0)
def b_law_pick : Fs := (sSeq b_law_pick_0 (sSeq (sAsg (fC (.int 0)) (gN 3)) (sSeq b_law_pick_2 (sRet (fOp2 dMod (fVar 3) (fVar 1))))))
def F_law_pick : List D → List Cell → Out D := runDef 2 6 b_law_pick
/- missing_ends: least, greatest, places, ends, end -/
def b_missing_ends : Fs := (sSeq (sAsg (fIfE (fTst (fOp2 (dEq false) (fVar 0) (fVar 1))) (fLst true (aCons (fVar 0) aNil)) (fLst true (aCons (fVar 0) (aCons (fVar 1) aNil)))) (gN 3)) (sRet (fLc true (iSq (fVar 3)) (gN 4) (fTst (fOp2 (dIn true) (fVar 4) (fVar 2))) (fVar 4) [4])))
def F_missing_ends : List D → List Cell → Out D := runDef 3 5 b_missing_ends
/- Frame.missing_rows: self -/
def b_Frame_missing_rows : Fs := (sRet (fCall (fnK 3 0 3 F_missing_ends (fun ds _ => ds)) (aCons (fOp2 dIx (fFld [0] "row_range" (fVar 0)) (fC (.int 0))) (aCons (fOp2 dIx (fFld [0] "row_range" (fVar 0)) (fC (.int 1))) (aCons (fTup (aCons (fOp2 dIx (fFld [0] "begin" (fVar 0)) (fC (.int 0))) (aCons (fOp2 dIx (fFld [0] "end" (fVar 0)) (fC (.int 0))) aNil))) aNil))) aNil))
def F_Frame_missing_rows : List D → List Cell → Out D := runDef 1 1 b_Frame_missing_rows
/- Frame.missing_columns: self -/
def b_Frame_missing_columns : Fs := (sRet (fCall (fnK 3 0 3 F_missing_ends (fun ds _ => ds)) (aCons (fOp2 dIx (fFld [0] "column_range" (fVar 0)) (fC (.int 0))) (aCons (fOp2 dIx (fFld [0] "column_range" (fVar 0)) (fC (.int 1))) (aCons (fTup (aCons (fOp2 dIx (fFld [0] "begin" (fVar 0)) (fC (.int 1))) (aCons (fOp2 dIx (fFld [0] "end" (fVar 0)) (fC (.int 1))) aNil))) aNil))) aNil))
def F_Frame_missing_columns : List D → List Cell → Out D := runDef 1 1 b_Frame_missing_columns
/- Frame.fewest: self, between -/
def b_Frame_fewest : Fs := (sSeq (sAsg (fCB dMax (aCons (fCB dLen (aCons (fMeth 0 "missing_rows" (fnK 1 0 1 F_Frame_missing_rows (fun ds _ => ds)) (fVar 0) aNil aNil) aNil)) (aCons (fCB dLen (aCons (fMeth 0 "missing_columns" (fnK 1 0 1 F_Frame_missing_columns (fun ds _ => ds)) (fVar 0) aNil aNil) aNil)) aNil))) (gN 1)) (sRet (fIfE (fAnd (fTst (fOp2 (dEq false) (fVar 1) (fC (.int 0)))) (fTst (fOp2 (dEq false) (fFld [0] "begin" (fVar 0)) (fFld [0] "end" (fVar 0))))) (fC (.int 0)) (fOp2 (dAdd true) (fC (.int 1)) (fVar 1)))))
def F_Frame_fewest : List D → List Cell → Out D := runDef 1 2 b_Frame_fewest
/- _law_ends: _law_six, _law_first_one, _law_last_one, _law_top, _law_bottom, _law_left, _law_right_here, _law_downs, _law_spot -/
def b_law_ends : Fs := (sSeq (sAsg (fVar 0) (gT 6 (gsCons (gN 1) (gsCons (gN 2) (gsCons (gN 3) (gsCons (gN 4) (gsCons (gN 5) (gsCons (gN 6) gsNil)))))))) (sSeq (sAsg (fLc true (iSq (fCB dSS (aCons (fLst true (aCons (fVar 3) (aCons (fVar 4) aNil))) aNil))) (gN 8) (fTst (fOp2 (dIn true) (fVar 8) (fTup (aCons (fOp2 dIx (fVar 1) (fC (.int 0))) (aCons (fOp2 dIx (fVar 2) (fC (.int 0))) aNil))))) (fVar 8) [8]) (gN 7)) (sRet (fLst true (aCons (fVar 7) (aCons (fLc true (iSq (fCB dSS (aCons (fLst true (aCons (fVar 5) (aCons (fVar 6) aNil))) aNil))) (gN 8) (fTst (fOp2 (dIn true) (fVar 8) (fTup (aCons (fOp2 dIx (fVar 1) (fC (.int 1))) (aCons (fOp2 dIx (fVar 2) (fC (.int 1))) aNil))))) (fVar 8) [8]) aNil))))))
def F_law_ends : List D → List Cell → Out D := runDef 1 9 b_law_ends
/- _law_lists: _law_size, _law_missing, _law_many, _law_counts, _law_turn, _law_later, _law_had, _law_ways -/
def b_law_lists_L0 : Fs := (sSeq (sSub (fOp2 (dAdd true) (fOp2 dIx (fVar 5) (fVar 6)) (fOp2 (dMul true) (fVar 7) (fOp2 dSub (fVar 0) (fOp2 dSub (fVar 1) (fVar 6))))) (fVar 5) (fVar 6)) (sIf (fTst (fOp2 dLt (fVar 6) (fVar 1))) (sSub (fOp2 (dAdd true) (fOp2 dIx (fVar 5) (fOp2 (dAdd true) (fVar 6) (fC (.int 1)))) (fOp2 (dMul true) (fVar 7) (fOp2 dSub (fVar 1) (fVar 6)))) (fVar 5) (fOp2 (dAdd true) (fVar 6) (fC (.int 1)))) sNx))
def b_law_lists_L1 : Fs := (sSeq (sAsg (fOp2 (dMul false) (fLst true (aCons (fC (.int 0)) aNil)) (fOp2 (dAdd true) (fVar 1) (fC (.int 1)))) (gN 5)) (sSeq (sFor (iEn (aCons (fVar 3) aNil)) (gT 2 (gsCons (gN 6) (gsCons (gN 7) gsNil))) b_law_lists_L0) (sSeq (sFrz 5) (sAsg (fVar 5) (gN 3)))))
def b_law_lists : Fs := (sSeq (sAsg (fOp2 (dAdd true) (fLst true (aCons (fC (.int 1)) aNil)) (fOp2 (dMul true) (fLst true (aCons (fC (.int 0)) aNil)) (fVar 1))) (gN 3)) (sSeq (sFor (iRg1 (aCons (fVar 2) aNil)) (gN 4) b_law_lists_L1) (sRet (fOp2 dIx (fVar 3) (fVar 1)))))
def F_law_lists : List D → List Cell → Out D := runDef 3 8 b_law_lists
/- _law_number: _law_six, _law_copies_here, _law_ends_here, _law_found -/
def b_law_number_0 : Fs := (sAsg (fCall (fnK 1 0 1 F_law_ends (fun ds _ => ds)) (aCons (fVar 0) aNil) aNil) (gN 2))
def b_law_number_1 : Fs := (sIf (fTst (fOp2 (dEq false) (fVar 1) (fC (.int 0)))) (sRet (fCB dInt (aCons (fAndV (fOp2 (dEq false) (fVar 2) (fLst true (aCons (fLst true aNil) (aCons (fLst true aNil) aNil)))) (fOp2 (dEq false) (fOp2 dIx (fVar 0) (fC (.int 0))) (fOp2 dIx (fVar 0) (fC (.int 1))))) aNil))) sNx)
def b_law_number_2 : Fs := (sAsg (fCall (fnK 3 0 3 F_law_lists (fun ds _ => ds)) (aCons (fOp2 (dAdd true) (fOp2 dSub (fOp2 dIx (fVar 0) (fC (.int 3))) (fOp2 dIx (fVar 0) (fC (.int 2)))) (fC (.int 1))) (aCons (fCB dLen (aCons (fOp2 dIx (fVar 2) (fC (.int 0))) aNil)) (aCons (fOp2 dSub (fVar 1) (fC (.int 1))) aNil))) aNil) (gN 3))
def b_law_number_3 : Fs := (sRet (fOp2 (dMul true) (fVar 3) (fCall (fnK 3 0 3 F_law_lists (fun ds _ => ds)) (aCons (fOp2 (dAdd true) (fOp2 dSub (fOp2 dIx (fVar 0) (fC (.int 5))) (fOp2 dIx (fVar 0) (fC (.int 4)))) (fC (.int 1))) (aCons (fCB dLen (aCons (fOp2 dIx (fVar 2) (fC (.int 1))) aNil)) (aCons (fOp2 dSub (fVar 1) (fC (.int 1))) aNil))) aNil)))
def b_law_number : Fs := (sSeq b_law_number_0 (sSeq b_law_number_1 (sSeq b_law_number_2 b_law_number_3)))
def F_law_number : List D → List Cell → Out D := runDef 2 4 b_law_number
/- need_copies: copies -/
def b_need_copies : Fs := (sIf (fNot (fTst (fChain dLe dLe (fC (.int 0)) (fVar 0) (fC (.int 299))))) (fun _ _ => .no) sNx)
def F_need_copies : List D → List Cell → Out D := runDef 1 1 b_need_copies
/- powers_of: base, most, found -/
def b_powers_of_L0 : Fs := (sEx (fLm mAppend (fVar 2) (aCons (fOp2 (dMul true) (fOp2 dIx (fVar 2) (fOp1 dNeg (fC (.int 1)))) (fVar 0)) aNil)))
def b_powers_of : Fs := (sSeq (sAsg (fLst false (aCons (fC (.int 1)) aNil)) (gN 2)) (sSeq (sWhile (fTst (fOp2 dLe (fCB dLen (aCons (fVar 2) aNil)) (fVar 1))) b_powers_of_L0) (sSeq (sFrz 2) (sRet (fVar 2)))))
def F_powers_of : List D → List Cell → Out D := runDef 2 3 b_powers_of
/- Cover.__init__: self, least, greatest, missing, most, size, out -/
def b_Cover___init_4 : Fs := (sFld [1] "tables" (fLc true (iRg1 (aCons (fOp2 (dAdd true) (fCB dLen (aCons (fVar 3) aNil)) (fC (.int 1))) aNil)) (gN 6) (fun _ c => .ok true c) (fCall (fnK 2 0 2 F_powers_of (fun ds _ => ds)) (aCons (fOp2 dSub (fVar 5) (fVar 6)) (aCons (fVar 4) aNil)) aNil) [6]) (fVar 0))
def b_Cover___init : Fs := (sSeq (sFld [1] "low" (fVar 1) (fVar 0)) (sSeq (sFld [1] "high" (fVar 2) (fVar 0)) (sSeq (sFld [1] "wanted" (fVar 3) (fVar 0)) (sSeq (sAsg (fOp2 (dAdd true) (fOp2 dSub (fVar 2) (fVar 1)) (fC (.int 1))) (gN 5)) b_Cover___init_4))))
def F_Cover___init : List D → List Cell → Out D := runDef 5 7 b_Cover___init
/- Frame.top: self -/
def b_Frame_top : Fs := (sRet (fOp2 dIx (fFld [0] "row_range" (fVar 0)) (fC (.int 0))))
def F_Frame_top : List D → List Cell → Out D := runDef 1 1 b_Frame_top
/- Frame.bottom: self -/
def b_Frame_bottom : Fs := (sRet (fOp2 dIx (fFld [0] "row_range" (fVar 0)) (fC (.int 1))))
def F_Frame_bottom : List D → List Cell → Out D := runDef 1 1 b_Frame_bottom
/- Frame.left: self -/
def b_Frame_left : Fs := (sRet (fOp2 dIx (fFld [0] "column_range" (fVar 0)) (fC (.int 0))))
def F_Frame_left : List D → List Cell → Out D := runDef 1 1 b_Frame_left
/- Frame.right: self -/
def b_Frame_right : Fs := (sRet (fOp2 dIx (fFld [0] "column_range" (fVar 0)) (fC (.int 1))))
def F_Frame_right : List D → List Cell → Out D := runDef 1 1 b_Frame_right
/- covers_of: frame, most, rows -/
def b_covers_of : Fs := (sSeq (sAsg (fCall (mkK 1 true (fnK 5 0 5 F_Cover___init (fun ds _ => ds))) (aCons (fProp 0 F_Frame_top (fVar 0)) (aCons (fProp 0 F_Frame_bottom (fVar 0)) (aCons (fMeth 0 "missing_rows" (fnK 1 0 1 F_Frame_missing_rows (fun ds _ => ds)) (fVar 0) aNil aNil) (aCons (fVar 1) aNil)))) aNil) (gN 2)) (sRet (fTup (aCons (fVar 2) (aCons (fCall (mkK 1 true (fnK 5 0 5 F_Cover___init (fun ds _ => ds))) (aCons (fProp 0 F_Frame_left (fVar 0)) (aCons (fProp 0 F_Frame_right (fVar 0)) (aCons (fMeth 0 "missing_columns" (fnK 1 0 1 F_Frame_missing_columns (fun ds _ => ds)) (fVar 0) aNil aNil) (aCons (fVar 1) aNil)))) aNil) aNil)))))
def F_covers_of : List D → List Cell → Out D := runDef 2 3 b_covers_of
/- Cover.number_of: self, wanted, many -/
def b_Cover_number_of : Fs := (sSeq (sIf (fTst (fOp2 (dEq false) (fCB dLen (aCons (fVar 1) aNil)) (fC (.int 0)))) (sRet (fOp2 dIx (fOp2 dIx (fFld [1] "tables" (fVar 0)) (fC (.int 0))) (fVar 2))) sNx) (sSeq (sIf (fTst (fOp2 (dEq false) (fCB dLen (aCons (fVar 1) aNil)) (fC (.int 1)))) (sRet (fOp2 dSub (fOp2 dIx (fOp2 dIx (fFld [1] "tables" (fVar 0)) (fC (.int 0))) (fVar 2)) (fOp2 dIx (fOp2 dIx (fFld [1] "tables" (fVar 0)) (fC (.int 1))) (fVar 2)))) sNx) (sRet (fOp2 (dAdd true) (fOp2 dSub (fOp2 dIx (fOp2 dIx (fFld [1] "tables" (fVar 0)) (fC (.int 0))) (fVar 2)) (fOp2 (dMul true) (fC (.int 2)) (fOp2 dIx (fOp2 dIx (fFld [1] "tables" (fVar 0)) (fC (.int 1))) (fVar 2)))) (fOp2 dIx (fOp2 dIx (fFld [1] "tables" (fVar 0)) (fC (.int 2))) (fVar 2))))))
def F_Cover_number_of : List D → List Cell → Out D := runDef 3 3 b_Cover_number_of
/- number_with: frame, copies, rows, columns -/
def b_number_with : Fs := (sSeq (sIf (fTst (fOp2 (dEq false) (fVar 1) (fC (.int 0)))) (sRet (fCB dInt (aCons (fOp2 (dEq false) (fMeth 0 "fewest" (fnK 1 0 1 F_Frame_fewest (fun ds _ => ds)) (fVar 0) aNil aNil) (fC (.int 0))) aNil))) sNx) (sSeq (sAsg (fCall (fnK 2 0 2 F_covers_of (fun ds _ => ds)) (aCons (fVar 0) (aCons (fOp2 dSub (fVar 1) (fC (.int 1))) aNil)) aNil) (gT 2 (gsCons (gN 2) (gsCons (gN 3) gsNil)))) (sRet (fOp2 (dMul true) (fMeth 1 "number_of" (fnK 3 0 3 F_Cover_number_of (fun ds _ => ds)) (fVar 2) (aCons (fFld [1] "wanted" (fVar 2)) (aCons (fOp2 dSub (fVar 1) (fC (.int 1))) aNil)) aNil) (fMeth 1 "number_of" (fnK 3 0 3 F_Cover_number_of (fun ds _ => ds)) (fVar 3) (aCons (fFld [1] "wanted" (fVar 3)) (aCons (fOp2 dSub (fVar 1) (fC (.int 1))) aNil)) aNil)))))
def F_number_with : List D → List Cell → Out D := runDef 2 4 b_number_with
def gK_count_ways_0_copies_frame : List D → List D → List D := fun us ws => (us.take 0) ++ ((ws.drop 1).take 1) ++ ((ws.drop 0).take 1)
/- count_ways: frame, copies -/
def b_count_ways : Fs := (sSeq (sEx (fCall (fnK 1 0 1 F_need_copies (fun ds _ => ds)) (aCons (fVar 1) aNil) aNil)) (sRet (fCall (fnK 2 0 2 F_number_with (fun ds _ => ds)) (aCons (fVar 0) (aCons (fVar 1) aNil)) aNil)))
def F_count_ways : List D → List Cell → Out D := runDef 2 2 b_count_ways
/- _law_right: _law_feed_here, _law_six, _law_frame_here, _law_some, _law_copies_here, _law_due -/
def b_law_right_L0 : Fs := (sSeq (sAsg (fCall (fnK 2 0 2 F_law_number (fun ds _ => ds)) (aCons (fVar 1) (aCons (fVar 4) aNil)) aNil) (gN 5)) (sIf (fOr (fTst (fOp2 (dEq true) (fCall (fnK 2 0 2 F_count_ways (fun ds _ => ds)) (aCons (fVar 2) (aCons (fVar 4) aNil)) aNil) (fVar 5))) (fTst (fOp2 (dEq true) (fOp2 dGt (fVar 5) (fC (.int 0))) (fOp2 dGe (fVar 4) (fMeth 0 "fewest" (fnK 1 0 1 F_Frame_fewest (fun ds _ => ds)) (fVar 2) aNil aNil))))) (sRet (fC (.bl false))) sNx))
def b_law_right_0 : Fs := (sAsg (fCall (fnK 1 0 1 F_law_frame (fun ds _ => ds)) (aCons (fVar 1) aNil) aNil) (gN 2))
def b_law_right_1 : Fs := (sAsg (fLst true (aCons (fC (.int 0)) (aCons (fC (.int 1)) (aCons (fC (.int 2)) (aCons (fC (.int 3)) (aCons (fC (.int 4)) (aCons (fC (.int 299)) (aCons (fCall (fnK 2 0 2 F_law_pick (fun ds _ => ds)) (aCons (fVar 0) (aCons (fC (.int 300)) aNil)) aNil) (aCons (fCall (fnK 2 0 2 F_law_pick (fun ds _ => ds)) (aCons (fVar 0) (aCons (fC (.int 30)) aNil)) aNil) (aCons (fMeth 0 "fewest" (fnK 1 0 1 F_Frame_fewest (fun ds _ => ds)) (fVar 2) aNil aNil) aNil)))))))))) (gN 3))
def b_law_right_2 : Fs := (sFor (iSq (fVar 3)) (gN 4) b_law_right_L0)
def b_law_right_3 : Fs := (sRet (fOp2 (dEq false) (fCall (fun ds es cs => if es.length = 2 then (fnK 0 2 2 F_count_ways gK_count_ways_0_copies_frame) ds es cs else .no) aNil (aCons (fOp2 dIx (fVar 3) (fC (.int 6))) (aCons (fVar 2) aNil))) (fCall (fnK 2 0 2 F_law_number (fun ds _ => ds)) (aCons (fVar 1) (aCons (fOp2 dIx (fVar 3) (fC (.int 6))) aNil)) aNil)))
def b_law_right : Fs := (sSeq b_law_right_0 (sSeq b_law_right_1 (sSeq b_law_right_2 b_law_right_3)))
def F_law_right : List D → List Cell → Out D := runDef 2 6 b_law_right
/- _law_rect: _law_feed_here, _law_most, _law_great, _law_high, _law_wide, _law_top, _law_left, _law_ends_here, _law_turn, _law_size, _law_low -/
def b_law_rect_L0 : Fs := (sSeq (sPar 9 10 (aCons (fOp2 dIx (fLst true (aCons (fVar 3) (aCons (fVar 4) aNil))) (fOp2 dMod (fVar 8) (fC (.int 2)))) (aCons (fOp2 dIx (fLst true (aCons (fVar 5) (aCons (fVar 6) aNil))) (fOp2 dMod (fVar 8) (fC (.int 2)))) aNil))) (sEx (fLm mAppend (fVar 7) (aCons (fOp2 (dAdd true) (fVar 10) (fOp2 dIx (fLst true (aCons (fC (.int 0)) (aCons (fOp2 dSub (fVar 9) (fC (.int 1))) (aCons (fCall (fnK 2 0 2 F_law_pick (fun ds _ => ds)) (aCons (fVar 0) (aCons (fVar 9) aNil)) aNil) aNil)))) (fCall (fnK 2 0 2 F_law_pick (fun ds _ => ds)) (aCons (fVar 0) (aCons (fC (.int 3)) aNil)) aNil))) aNil))))
def b_law_rect_0 : Fs := (sPar 3 4 (aCons (fOp2 (dAdd true) (fC (.int 1)) (fCall (fnK 2 0 2 F_law_pick (fun ds _ => ds)) (aCons (fVar 0) (aCons (fVar 1) aNil)) aNil)) (aCons (fOp2 (dAdd true) (fC (.int 1)) (fCall (fnK 2 0 2 F_law_pick (fun ds _ => ds)) (aCons (fVar 0) (aCons (fVar 1) aNil)) aNil)) aNil)))
def b_law_rect_1 : Fs := (sPar 5 6 (aCons (fCall (fnK 2 0 2 F_law_pick (fun ds _ => ds)) (aCons (fVar 0) (aCons (fC (.int 5)) aNil)) aNil) (aCons (fCall (fnK 2 0 2 F_law_pick (fun ds _ => ds)) (aCons (fVar 0) (aCons (fC (.int 5)) aNil)) aNil) aNil)))
def b_law_rect_2 : Fs := (sIf (fTru (fVar 2)) (sSeq (sAsg (fOp2 dIx (fLst true (aCons (fVar 3) (aCons (fOp2 (dAdd true) (fC (.int 1)) (fCall (fnK 2 0 2 F_law_pick (fun ds _ => ds)) (aCons (fVar 0) (aCons (fOp2 dPow (fC (.int 10)) (fC (.int 29))) aNil)) aNil)) aNil))) (fCall (fnK 2 0 2 F_law_pick (fun ds _ => ds)) (aCons (fVar 0) (aCons (fC (.int 2)) aNil)) aNil)) (gN 3)) (sSeq (sAsg (fOp2 dIx (fLst true (aCons (fVar 4) (aCons (fOp2 (dAdd true) (fC (.int 1)) (fCall (fnK 2 0 2 F_law_pick (fun ds _ => ds)) (aCons (fVar 0) (aCons (fOp2 dPow (fC (.int 10)) (fC (.int 29))) aNil)) aNil)) aNil))) (fCall (fnK 2 0 2 F_law_pick (fun ds _ => ds)) (aCons (fVar 0) (aCons (fC (.int 2)) aNil)) aNil)) (gN 4)) (sPar 5 6 (aCons (fCall (fnK 2 0 2 F_law_pick (fun ds _ => ds)) (aCons (fVar 0) (aCons (fOp2 (dAdd true) (fOp2 dSub (fOp2 dPow (fC (.int 10)) (fC (.int 30))) (fVar 3)) (fC (.int 1))) aNil)) aNil) (aCons (fOp2 dIx (fLst true (aCons (fC (.int 0)) (aCons (fOp2 dSub (fOp2 dPow (fC (.int 10)) (fC (.int 30))) (fVar 4)) aNil))) (fCall (fnK 2 0 2 F_law_pick (fun ds _ => ds)) (aCons (fVar 0) (aCons (fC (.int 2)) aNil)) aNil)) aNil))))) sNx)
def b_law_rect_4 : Fs := (sFor (iRg1 (aCons (fC (.int 4)) aNil)) (gN 8) b_law_rect_L0)
def b_law_rect_5 : Fs := (sIf (fTst (fOp2 (dEq false) (fCall (fnK 2 0 2 F_law_pick (fun ds _ => ds)) (aCons (fVar 0) (aCons (fC (.int 5)) aNil)) aNil) (fC (.int 0)))) (sAsg (fOp2 (dMul false) (fSl true (fVar 7) oNone (oSome (fC (.int 2)))) (fC (.int 2))) (gN 7)) sNx)
def b_law_rect_6 : Fs := (sRet (fTup (aCons (fTup (aCons (fOp2 dIx (fVar 7) (fC (.int 0))) (aCons (fOp2 dIx (fVar 7) (fC (.int 1))) aNil))) (aCons (fTup (aCons (fOp2 dIx (fVar 7) (fC (.int 2))) (aCons (fOp2 dIx (fVar 7) (fC (.int 3))) aNil))) (aCons (fVar 5) (aCons (fOp2 dSub (fOp2 (dAdd true) (fVar 5) (fVar 3)) (fC (.int 1))) (aCons (fVar 6) (aCons (fOp2 dSub (fOp2 (dAdd true) (fVar 6) (fVar 4)) (fC (.int 1))) aNil))))))))
def b_law_rect_t7 : Fs := b_law_rect_6
def b_law_rect_t6 : Fs := (sSeq b_law_rect_5 b_law_rect_t7)
def b_law_rect_t5 : Fs := (sSeq (sFrz 7) b_law_rect_t6)
def b_law_rect_t4 : Fs := (sSeq b_law_rect_4 b_law_rect_t5)
def b_law_rect_t3 : Fs := (sSeq (sAsg (fLst false aNil) (gN 7)) b_law_rect_t4)
def b_law_rect_t2 : Fs := (sSeq b_law_rect_2 b_law_rect_t3)
def b_law_rect_t1 : Fs := (sSeq b_law_rect_1 b_law_rect_t2)
def b_law_rect : Fs := (sSeq b_law_rect_0 b_law_rect_t1)
def F_law_rect : List D → List Cell → Out D := runDef 3 11 b_law_rect
/- law: _law_script, _law_k, _law_feed_here, _law_great, _law_frame_here, _law_many -/
def b_law_L0 : Fs := (sIf (fNot (fTru (fCall (fnK 2 0 2 F_law_right (fun ds _ => ds)) (aCons (fVar 2) (aCons (fCall (fnK 3 0 3 F_law_rect (fun ds _ => ds)) (aCons (fVar 2) (aCons (fOp2 dIx (fLst true (aCons (fC (.int 9)) (aCons (fC (.int 2)) aNil))) (fCall (fnK 2 0 2 F_law_pick (fun ds _ => ds)) (aCons (fVar 2) (aCons (fC (.int 2)) aNil)) aNil)) (aCons (fVar 3) aNil))) aNil) aNil)) aNil))) (sRet (fC (.bl false))) sNx)
def b_law_L1 : Fs := (sSeq (sAsg (fCall (fnK 2 0 2 F_law_feed (fun ds _ => ds)) (aCons (fVar 0) (aCons (fVar 1) aNil)) aNil) (gN 2)) (sFor (iSq (fLst true (aCons (fC (.bl false)) (aCons (fC (.bl true)) (aCons (fC (.bl false)) aNil))))) (gN 3) b_law_L0))
def b_law : Fs := (sSeq (sFor (iRg1 (aCons (fCB dMax (aCons (fC (.int 1)) (aCons (fCB dMin (aCons (fC (.int 4)) (aCons (fCB dLen (aCons (fVar 0) aNil)) aNil))) aNil))) aNil)) (gN 1) b_law_L1) (sSeq (sAsg (fCall (mkK 0 true (fnK 7 0 7 F_Frame___init (fun ds _ => ds))) (aCons (fTup (aCons (fC (.int 5)) (aCons (fC (.int 5)) aNil))) (aCons (fTup (aCons (fC (.int 7)) (aCons (fC (.int 5)) aNil))) (aCons (fC (.int 1)) (aCons (fC (.int 7)) (aCons (fC (.int 5)) (aCons (fC (.int 5)) aNil)))))) aNil) (gN 4)) (sRet (fOp2 (dEq false) (fLc true (iSq (fTup (aCons (fC (.int 1)) (aCons (fC (.int 2)) (aCons (fC (.int 3)) aNil))))) (gN 5) (fun _ c => .ok true c) (fCall (fnK 2 0 2 F_count_ways (fun ds _ => ds)) (aCons (fVar 4) (aCons (fVar 5) aNil)) aNil) [5]) (fLst true (aCons (fC (.int 0)) (aCons (fC (.int 1)) (aCons (fC (.int 13)) aNil))))))))
def F_law : List D → List Cell → Out D := runDef 1 6 b_law
end
end Ck22

namespace Ck22
open PySem PySem.Spec L2 PV
def top (i : Nat) : Stmt := PySem.Challenge.pw_copyways_k22_ways_of_many_copies_counted.main.body.getD i (.Pass ⟨0, 0, 0, 0⟩)
abbrev s_law_feed : Stmt := top 24
abbrev s_is_place : Stmt := top 8
abbrev s_is_cell : Stmt := top 9
abbrev s_need_cell : Stmt := top 11
abbrev s_need_range : Stmt := top 12
abbrev s_Frame___init : Stmt := inClass (top 14) 0
abbrev s_law_frame : Stmt := top 26
abbrev s_law_pick : Stmt := top 25
abbrev s_missing_ends : Stmt := top 13
abbrev s_Frame_missing_rows : Stmt := inClass (top 14) 9
abbrev s_Frame_missing_columns : Stmt := inClass (top 14) 10
abbrev s_Frame_fewest : Stmt := inClass (top 14) 11
abbrev s_law_ends : Stmt := top 28
abbrev s_law_lists : Stmt := top 29
abbrev s_law_number : Stmt := top 30
abbrev s_need_copies : Stmt := top 20
abbrev s_powers_of : Stmt := top 17
abbrev s_Cover___init : Stmt := inClass (top 18) 0
abbrev s_Frame_top : Stmt := inClass (top 14) 3
abbrev s_Frame_bottom : Stmt := inClass (top 14) 4
abbrev s_Frame_left : Stmt := inClass (top 14) 5
abbrev s_Frame_right : Stmt := inClass (top 14) 6
abbrev s_covers_of : Stmt := top 19
abbrev s_Cover_number_of : Stmt := inClass (top 18) 1
abbrev s_number_with : Stmt := top 21
abbrev s_count_ways : Stmt := top 22
abbrev s_law_right : Stmt := top 31
abbrev s_law_rect : Stmt := top 27
abbrev s_law : Stmt := top 32
structure Txt (K : PySem.W.Frag) (mg : Str → Option Value) where
  cm : Nat → Addr
  f_law_feed : Addr
  d_law_feed : FuncData
  F_law_feed : FunD K "_law_feed" "_law_feed" (defArgs s_law_feed) (defBody s_law_feed) (defScope s_law_feed) [] [] f_law_feed d_law_feed
  m_law_feed : mg "_law_feed" = some (.ref f_law_feed)
  f_is_place : Addr
  d_is_place : FuncData
  F_is_place : FunD K "is_place" "is_place" (defArgs s_is_place) (defBody s_is_place) (defScope s_is_place) [] [] f_is_place d_is_place
  m_is_place : mg "is_place" = some (.ref f_is_place)
  f_is_cell : Addr
  d_is_cell : FuncData
  F_is_cell : FunD K "is_cell" "is_cell" (defArgs s_is_cell) (defBody s_is_cell) (defScope s_is_cell) [] [] f_is_cell d_is_cell
  m_is_cell : mg "is_cell" = some (.ref f_is_cell)
  f_need_cell : Addr
  d_need_cell : FuncData
  F_need_cell : FunD K "need_cell" "need_cell" (defArgs s_need_cell) (defBody s_need_cell) (defScope s_need_cell) [] [] f_need_cell d_need_cell
  m_need_cell : mg "need_cell" = some (.ref f_need_cell)
  f_need_range : Addr
  d_need_range : FuncData
  F_need_range : FunD K "need_range" "need_range" (defArgs s_need_range) (defBody s_need_range) (defScope s_need_range) [] [] f_need_range d_need_range
  m_need_range : mg "need_range" = some (.ref f_need_range)
  f_Frame___init : Addr
  d_Frame___init : FuncData
  F_Frame___init : FunD K "__init__" "Frame.__init__" (defArgs s_Frame___init) (defBody s_Frame___init) (defScope s_Frame___init) [] [] f_Frame___init d_Frame___init
  f_law_frame : Addr
  d_law_frame : FuncData
  F_law_frame : FunD K "_law_frame" "_law_frame" (defArgs s_law_frame) (defBody s_law_frame) (defScope s_law_frame) [] [] f_law_frame d_law_frame
  m_law_frame : mg "_law_frame" = some (.ref f_law_frame)
  f_law_pick : Addr
  d_law_pick : FuncData
  F_law_pick : FunD K "_law_pick" "_law_pick" (defArgs s_law_pick) (defBody s_law_pick) (defScope s_law_pick) [] [] f_law_pick d_law_pick
  m_law_pick : mg "_law_pick" = some (.ref f_law_pick)
  f_missing_ends : Addr
  d_missing_ends : FuncData
  F_missing_ends : FunD K "missing_ends" "missing_ends" (defArgs s_missing_ends) (defBody s_missing_ends) (defScope s_missing_ends) [] [] f_missing_ends d_missing_ends
  m_missing_ends : mg "missing_ends" = some (.ref f_missing_ends)
  f_Frame_missing_rows : Addr
  d_Frame_missing_rows : FuncData
  F_Frame_missing_rows : FunD K "missing_rows" "Frame.missing_rows" (defArgs s_Frame_missing_rows) (defBody s_Frame_missing_rows) (defScope s_Frame_missing_rows) [] [] f_Frame_missing_rows d_Frame_missing_rows
  f_Frame_missing_columns : Addr
  d_Frame_missing_columns : FuncData
  F_Frame_missing_columns : FunD K "missing_columns" "Frame.missing_columns" (defArgs s_Frame_missing_columns) (defBody s_Frame_missing_columns) (defScope s_Frame_missing_columns) [] [] f_Frame_missing_columns d_Frame_missing_columns
  f_Frame_fewest : Addr
  d_Frame_fewest : FuncData
  F_Frame_fewest : FunD K "fewest" "Frame.fewest" (defArgs s_Frame_fewest) (defBody s_Frame_fewest) (defScope s_Frame_fewest) [] [] f_Frame_fewest d_Frame_fewest
  f_law_ends : Addr
  d_law_ends : FuncData
  F_law_ends : FunD K "_law_ends" "_law_ends" (defArgs s_law_ends) (defBody s_law_ends) (defScope s_law_ends) [] [] f_law_ends d_law_ends
  m_law_ends : mg "_law_ends" = some (.ref f_law_ends)
  f_law_lists : Addr
  d_law_lists : FuncData
  F_law_lists : FunD K "_law_lists" "_law_lists" (defArgs s_law_lists) (defBody s_law_lists) (defScope s_law_lists) [] [] f_law_lists d_law_lists
  m_law_lists : mg "_law_lists" = some (.ref f_law_lists)
  f_law_number : Addr
  d_law_number : FuncData
  F_law_number : FunD K "_law_number" "_law_number" (defArgs s_law_number) (defBody s_law_number) (defScope s_law_number) [] [] f_law_number d_law_number
  m_law_number : mg "_law_number" = some (.ref f_law_number)
  f_need_copies : Addr
  d_need_copies : FuncData
  F_need_copies : FunD K "need_copies" "need_copies" (defArgs s_need_copies) (defBody s_need_copies) (defScope s_need_copies) [] [] f_need_copies d_need_copies
  m_need_copies : mg "need_copies" = some (.ref f_need_copies)
  f_powers_of : Addr
  d_powers_of : FuncData
  F_powers_of : FunD K "powers_of" "powers_of" (defArgs s_powers_of) (defBody s_powers_of) (defScope s_powers_of) [] [] f_powers_of d_powers_of
  m_powers_of : mg "powers_of" = some (.ref f_powers_of)
  f_Cover___init : Addr
  d_Cover___init : FuncData
  F_Cover___init : FunD K "__init__" "Cover.__init__" (defArgs s_Cover___init) (defBody s_Cover___init) (defScope s_Cover___init) [] [] f_Cover___init d_Cover___init
  f_Frame_top : Addr
  d_Frame_top : FuncData
  F_Frame_top : FunD K "top" "Frame.top" (defArgs s_Frame_top) (defBody s_Frame_top) (defScope s_Frame_top) [] [] f_Frame_top d_Frame_top
  f_Frame_bottom : Addr
  d_Frame_bottom : FuncData
  F_Frame_bottom : FunD K "bottom" "Frame.bottom" (defArgs s_Frame_bottom) (defBody s_Frame_bottom) (defScope s_Frame_bottom) [] [] f_Frame_bottom d_Frame_bottom
  f_Frame_left : Addr
  d_Frame_left : FuncData
  F_Frame_left : FunD K "left" "Frame.left" (defArgs s_Frame_left) (defBody s_Frame_left) (defScope s_Frame_left) [] [] f_Frame_left d_Frame_left
  f_Frame_right : Addr
  d_Frame_right : FuncData
  F_Frame_right : FunD K "right" "Frame.right" (defArgs s_Frame_right) (defBody s_Frame_right) (defScope s_Frame_right) [] [] f_Frame_right d_Frame_right
  f_covers_of : Addr
  d_covers_of : FuncData
  F_covers_of : FunD K "covers_of" "covers_of" (defArgs s_covers_of) (defBody s_covers_of) (defScope s_covers_of) [] [] f_covers_of d_covers_of
  m_covers_of : mg "covers_of" = some (.ref f_covers_of)
  f_Cover_number_of : Addr
  d_Cover_number_of : FuncData
  F_Cover_number_of : FunD K "number_of" "Cover.number_of" (defArgs s_Cover_number_of) (defBody s_Cover_number_of) (defScope s_Cover_number_of) [] [] f_Cover_number_of d_Cover_number_of
  f_number_with : Addr
  d_number_with : FuncData
  F_number_with : FunD K "number_with" "number_with" (defArgs s_number_with) (defBody s_number_with) (defScope s_number_with) [] [] f_number_with d_number_with
  m_number_with : mg "number_with" = some (.ref f_number_with)
  f_count_ways : Addr
  d_count_ways : FuncData
  F_count_ways : FunD K "count_ways" "count_ways" (defArgs s_count_ways) (defBody s_count_ways) (defScope s_count_ways) [] [] f_count_ways d_count_ways
  m_count_ways : mg "count_ways" = some (.ref f_count_ways)
  f_law_right : Addr
  d_law_right : FuncData
  F_law_right : FunD K "_law_right" "_law_right" (defArgs s_law_right) (defBody s_law_right) (defScope s_law_right) [] [] f_law_right d_law_right
  m_law_right : mg "_law_right" = some (.ref f_law_right)
  f_law_rect : Addr
  d_law_rect : FuncData
  F_law_rect : FunD K "_law_rect" "_law_rect" (defArgs s_law_rect) (defBody s_law_rect) (defScope s_law_rect) [] [] f_law_rect d_law_rect
  m_law_rect : mg "_law_rect" = some (.ref f_law_rect)
  f_law : Addr
  d_law : FuncData
  F_law : FunD K "law" "law" (defArgs s_law) (defBody s_law) (defScope s_law) [] [] f_law d_law
  m_law : mg "law" = some (.ref f_law)
  n_range : mg "range" = none
  n_max : mg "max" = none
  n_min : mg "min" = none
  n_len : mg "len" = none
  n_abs : mg "abs" = none
  g_Frame : mg "Frame" = some (.ref (cm 0))
  mk_Frame : Mk K (cm 0) f_Frame___init
  n_isinstance : mg "isinstance" = none
  n_tuple : mg "tuple" = none
  tab : Tab K cm nCls tab
  n_int : mg "int" = none
  n_bool : mg "bool" = none
  g_LIMIT : ∃ t : Tok, mg "LIMIT" = some (.int 1000000000000000000000000000000 t)
  n_all : mg "all" = none
  me_Frame_fewest : Meth K (cm 0) "fewest" f_Frame_fewest
  c_Frame : Cls K (cm 0)
  me_Frame_missing_rows : Meth K (cm 0) "missing_rows" f_Frame_missing_rows
  me_Frame_missing_columns : Meth K (cm 0) "missing_columns" f_Frame_missing_columns
  n_sorted : mg "sorted" = none
  n_set : mg "set" = none
  n_enumerate : mg "enumerate" = none
  g_MOST_COPIES : ∃ t : Tok, mg "MOST_COPIES" = some (.int 299 t)
  g_Cover : mg "Cover" = some (.ref (cm 1))
  mk_Cover : Mk K (cm 1) f_Cover___init
  q_Frame_top : Addr
  p_Frame_top : PropOf K (cm 0) "top" q_Frame_top f_Frame_top
  q_Frame_bottom : Addr
  p_Frame_bottom : PropOf K (cm 0) "bottom" q_Frame_bottom f_Frame_bottom
  q_Frame_left : Addr
  p_Frame_left : PropOf K (cm 0) "left" q_Frame_left f_Frame_left
  q_Frame_right : Addr
  p_Frame_right : PropOf K (cm 0) "right" q_Frame_right f_Frame_right
  me_Cover_number_of : Meth K (cm 1) "number_of" f_Cover_number_of
  c_Cover : Cls K (cm 1)
  a_begin : ∀ c ∈ ([0] : List Nat), Cls K (cm c) ∧ NoAttr K (cm c) "begin"
  a_end : ∀ c ∈ ([0] : List Nat), Cls K (cm c) ∧ NoAttr K (cm c) "end"
  a_row_range : ∀ c ∈ ([0] : List Nat), Cls K (cm c) ∧ NoAttr K (cm c) "row_range"
  a_column_range : ∀ c ∈ ([0] : List Nat), Cls K (cm c) ∧ NoAttr K (cm c) "column_range"
  a_low : ∀ c ∈ ([1] : List Nat), Cls K (cm c) ∧ NoAttr K (cm c) "low"
  a_high : ∀ c ∈ ([1] : List Nat), Cls K (cm c) ∧ NoAttr K (cm c) "high"
  a_wanted : ∀ c ∈ ([1] : List Nat), Cls K (cm c) ∧ NoAttr K (cm c) "wanted"
  a_tables : ∀ c ∈ ([1] : List Nat), Cls K (cm c) ∧ NoAttr K (cm c) "tables"
section
variable {P : Program} {w : World} {K : PySem.W.Frag} {mg : Str → Option Value} {base : Heap}
theorem arg_law_feed (T : Txt K mg) : Arg K T.cm T.d_law_feed ["_law_script", "_law_k"] 2 [] (fun ds _ => ds) := arg_all T.F_law_feed rfl fun _ _ _ _ _ _ us hl => match us, hl with | [_, _], _ => rfl
theorem sc_law_feed : FnScope ["_law_script", "_law_k", "_law_start"] ["_law_script", "_law_k"] (defScope s_law_feed) := ⟨rfl, rfl, rfl, by decide +kernel, rfl, by decide +kernel, by decide +kernel⟩
theorem ok_law_feed (T : Txt K mg) : FnB P w K mg base T.cm 1 T.f_law_feed T.d_law_feed ["_law_script", "_law_k"] F_law_feed := fn_body T.F_law_feed sc_law_feed fun cdv A outer s H E hr hg =>
  have sc := sc_law_feed
  have tk : Takes (cxOf (L2.CX P w) P w K mg base ["_law_script", "_law_k", "_law_start"] "_law_feed" (defScope s_law_feed) T.f_law_feed cdv A outer s H E) (yOf E) := L2.takes_of rfl rfl rfl rfl
  (fs_cons (fs_set sc.nd rfl (by first | exact Or.inl rfl | exact Or.inr rfl) fe_int) (fs_cons (fs_if (ft_cmp op_dLt (fv 1) (fe_callB (call_dLen) T.n_len (by decide +kernel) (fa_cons (fv 0) fa_nil)) (nomark _)) (fs_one (fs_set sc.nd rfl (by first | exact Or.inl rfl | exact Or.inr rfl) (fe_ix (fv 0) (fv 1)))) fs_nil) (fs_one (fs_ret (fe_lst false (fa_cons (fe_callB (call_dMax rfl) T.n_max (by decide +kernel) (fa_cons fe_int (fa_cons (fe_op op_dSub (fe_callB (call_dAbs) T.n_abs (by decide +kernel) (fa_cons (fv 2) fa_nil)) (fe_op op_dPow fe_int fe_int)) fa_nil))) (fa_cons (fe_op op_dMod (fe_op (op_dAdd true) (fe_op (op_dAdd true) (fe_op (op_dMul true) (fv 2) fe_int) (fe_op (op_dMul true) fe_int (fv 1))) fe_int) fe_int) (fa_cons fe_int fa_nil))))))))
theorem arg_is_place (T : Txt K mg) : Arg K T.cm T.d_is_place ["thing"] 1 [] (fun ds _ => ds) := arg_all T.F_is_place rfl fun _ _ _ _ _ _ us hl => match us, hl with | [_], _ => rfl
theorem sc_is_place : FnScope ["thing"] ["thing"] (defScope s_is_place) := ⟨rfl, rfl, rfl, by decide +kernel, rfl, by decide +kernel, by decide +kernel⟩
theorem ok_is_place (T : Txt K mg) : FnB P w K mg base T.cm 1 T.f_is_place T.d_is_place ["thing"] F_is_place := fn_body T.F_is_place sc_is_place fun cdv A outer s H E hr hg =>
  have sc := sc_is_place
  have tk : Takes (cxOf (L2.CX P w) P w K mg base ["thing"] "is_place" (defScope s_is_place) T.f_is_place cdv A outer s H E) (yOf E) := L2.takes_of rfl rfl rfl rfl
  (fs_one (fs_ret (fe_and (fe_callB (call_dIsI T.tab) T.n_isinstance (by decide +kernel) (fa_cons (fv 0) (fa_cons (fe_ty "int" T.n_int (by decide +kernel)) fa_nil))) (fe_and (fe_not (fe_callB (call_dIsI T.tab) T.n_isinstance (by decide +kernel) (fa_cons (fv 0) (fa_cons (fe_ty "bool" T.n_bool (by decide +kernel)) fa_nil)))) (fe_one (fe_chain op_dLe op_dLt fe_int (fv 0) (fe_gint 1000000000000000000000000000000 T.g_LIMIT.choose_spec)))))))
theorem arg_is_cell (T : Txt K mg) : Arg K T.cm T.d_is_cell ["thing"] 1 [] (fun ds _ => ds) := arg_all T.F_is_cell rfl fun _ _ _ _ _ _ us hl => match us, hl with | [_], _ => rfl
theorem sc_is_cell : FnScope ["thing"] ["thing"] (defScope s_is_cell) := ⟨rfl, rfl, rfl, by decide +kernel, rfl, by decide +kernel, by decide +kernel⟩
theorem ok_is_cell (T : Txt K mg) : FnB P w K mg base T.cm 2 T.f_is_cell T.d_is_cell ["thing"] F_is_cell := fn_body T.F_is_cell sc_is_cell fun cdv A outer s H E hr hg =>
  have sc := sc_is_cell
  have tk : Takes (cxOf (L2.CX P w) P w K mg base ["thing"] "is_cell" (defScope s_is_cell) T.f_is_cell cdv A outer s H E) (yOf E) := L2.takes_of rfl rfl rfl rfl
  (fs_one (fs_ret (fe_and (fe_callB (call_dIsI T.tab) T.n_isinstance (by decide +kernel) (fa_cons (fv 0) (fa_cons (fe_ty "tuple" T.n_tuple (by decide +kernel)) fa_nil))) (fe_and (fe_cmp (op_dEq hr.units) (fe_callB (call_dLen) T.n_len (by decide +kernel) (fa_cons (fv 0) fa_nil)) fe_int (nomark _)) (fe_and (fe_call (cal_f (ok_is_place T) (arg_is_place T) (hr.mono (by decide)) hg tk T.F_is_place.kp) T.m_is_place (fa_cons (fe_ix (fv 0) fe_int) fa_nil)) (fe_one (fe_call (cal_f (ok_is_place T) (arg_is_place T) (hr.mono (by decide)) hg tk T.F_is_place.kp) T.m_is_place (fa_cons (fe_ix (fv 0) fe_int) fa_nil))))))))
theorem arg_need_cell (T : Txt K mg) : Arg K T.cm T.d_need_cell ["thing"] 1 [] (fun ds _ => ds) := arg_all T.F_need_cell rfl fun _ _ _ _ _ _ us hl => match us, hl with | [_], _ => rfl
theorem sc_need_cell : FnScope ["thing"] ["thing"] (defScope s_need_cell) := ⟨rfl, rfl, rfl, by decide +kernel, rfl, by decide +kernel, by decide +kernel⟩
theorem ok_need_cell (T : Txt K mg) : FnB P w K mg base T.cm 3 T.f_need_cell T.d_need_cell ["thing"] F_need_cell := fn_body T.F_need_cell sc_need_cell fun cdv A outer s H E hr hg =>
  have sc := sc_need_cell
  have tk : Takes (cxOf (L2.CX P w) P w K mg base ["thing"] "need_cell" (defScope s_need_cell) T.f_need_cell cdv A outer s H E) (yOf E) := L2.takes_of rfl rfl rfl rfl
  (fs_one (fs_if (ft_not (ft_truth (fe_call (cal_f (ok_is_cell T) (arg_is_cell T) (hr.mono (by decide)) hg tk T.F_is_cell.kp) T.m_is_cell (fa_cons (fv 0) fa_nil)))) (fs_one fs_never) fs_nil))
theorem arg_need_range (T : Txt K mg) : Arg K T.cm T.d_need_range ["least", "greatest", "places"] 3 [] (fun ds _ => ds) := arg_all T.F_need_range rfl fun _ _ _ _ _ _ us hl => match us, hl with | [_, _, _], _ => rfl
theorem sc_need_range : FnScope ["least", "greatest", "places", "place"] ["least", "greatest", "places"] (defScope s_need_range) := ⟨rfl, rfl, rfl, by decide +kernel, rfl, by decide +kernel, by decide +kernel⟩
theorem ok_need_range (T : Txt K mg) : FnB P w K mg base T.cm 2 T.f_need_range T.d_need_range ["least", "greatest", "places"] F_need_range := fn_body T.F_need_range sc_need_range fun cdv A outer s H E hr hg =>
  have sc := sc_need_range
  have tk : Takes (cxOf (L2.CX P w) P w K mg base ["least", "greatest", "places", "place"] "need_range" (defScope s_need_range) T.f_need_range cdv A outer s H E) (yOf E) := L2.takes_of rfl rfl rfl rfl
  (fs_cons (fs_if (ft_w (fw_or (ft_not (ft_truth (fe_call (cal_f (ok_is_place T) (arg_is_place T) (hr.mono (by decide)) hg tk T.F_is_place.kp) T.m_is_place (fa_cons (fv 0) fa_nil)))) (fw_or1 (ft_not (ft_truth (fe_call (cal_f (ok_is_place T) (arg_is_place T) (hr.mono (by decide)) hg tk T.F_is_place.kp) T.m_is_place (fa_cons (fv 1) fa_nil))))))) (fs_one fs_never) fs_nil) (fs_one (fs_if (ft_not (ft_truth (fe_callB (call_dAll rfl) T.n_all (by decide +kernel) (fa_cons (fe_lc (own := [("place", 3)]) true rfl sc.nd (fi_sq (fv 2)) (blk_of (N := ["least", "greatest", "places", "place"]) (sc := defScope s_need_range) rfl rfl (by decide +kernel)) (fun _ _ _ _ _ => (fg_name sc.nd rfl (by first | exact Or.inl rfl | exact Or.inr rfl))) (fun _ _ _ _ _ => fts_nil) (fun _ _ _ _ _ => (fe_chain op_dLe op_dLe (fv 0) (fv 3) (fv 1))) (by decide)) fa_nil)))) (fs_one fs_never) fs_nil)))
theorem arg_Frame___init (T : Txt K mg) : Arg K T.cm T.d_Frame___init ["self", "first", "last", "top", "bottom", "left", "right"] 7 [] (fun ds _ => ds) := arg_all T.F_Frame___init rfl fun _ _ _ _ _ _ us hl => match us, hl with | [_, _, _, _, _, _, _], _ => rfl
theorem sc_Frame___init : FnScope ["self", "first", "last", "top", "bottom", "left", "right"] ["self", "first", "last", "top", "bottom", "left", "right"] (defScope s_Frame___init) := ⟨rfl, rfl, rfl, by decide +kernel, rfl, by decide +kernel, by decide +kernel⟩
theorem st_Frame___init_2 (T : Txt K mg) {cdv : Value} {A : Around} {outer : List Env} {s : Shared} {H : Hp} {E : XK} (hr : Room 3 (cxOf (L2.CX P w) P w K mg base ["self", "first", "last", "top", "bottom", "left", "right"] "Frame.__init__" (defScope s_Frame___init) T.f_Frame___init cdv A outer s H E).A) (hg : (cxOf (L2.CX P w) P w K mg base ["self", "first", "last", "top", "bottom", "left", "right"] "Frame.__init__" (defScope s_Frame___init) T.f_Frame___init cdv A outer s H E).A.guards = some []) : FS (cxOf (L2.CX P w) P w K mg base ["self", "first", "last", "top", "bottom", "left", "right"] "Frame.__init__" (defScope s_Frame___init) T.f_Frame___init cdv A outer s H E) T.cm (yOf E) ((defBody s_Frame___init).getD 2 (.Pass ⟨0, 0, 0, 0⟩)) b_Frame___init_2 :=
  have sc := sc_Frame___init
  have tk : Takes (cxOf (L2.CX P w) P w K mg base ["self", "first", "last", "top", "bottom", "left", "right"] "Frame.__init__" (defScope s_Frame___init) T.f_Frame___init cdv A outer s H E) (yOf E) := L2.takes_of rfl rfl rfl rfl
  (fs_expr (fe_call (cal_f (ok_need_range T) (arg_need_range T) (hr.mono (by decide)) hg tk T.F_need_range.kp) T.m_need_range (fa_cons (fv 3) (fa_cons (fv 4) (fa_cons (fe_tup (fa_cons (fe_ix (fv 1) fe_int) (fa_cons (fe_ix (fv 2) fe_int) fa_nil))) fa_nil)))))
theorem st_Frame___init_3 (T : Txt K mg) {cdv : Value} {A : Around} {outer : List Env} {s : Shared} {H : Hp} {E : XK} (hr : Room 3 (cxOf (L2.CX P w) P w K mg base ["self", "first", "last", "top", "bottom", "left", "right"] "Frame.__init__" (defScope s_Frame___init) T.f_Frame___init cdv A outer s H E).A) (hg : (cxOf (L2.CX P w) P w K mg base ["self", "first", "last", "top", "bottom", "left", "right"] "Frame.__init__" (defScope s_Frame___init) T.f_Frame___init cdv A outer s H E).A.guards = some []) : FS (cxOf (L2.CX P w) P w K mg base ["self", "first", "last", "top", "bottom", "left", "right"] "Frame.__init__" (defScope s_Frame___init) T.f_Frame___init cdv A outer s H E) T.cm (yOf E) ((defBody s_Frame___init).getD 3 (.Pass ⟨0, 0, 0, 0⟩)) b_Frame___init_3 :=
  have sc := sc_Frame___init
  have tk : Takes (cxOf (L2.CX P w) P w K mg base ["self", "first", "last", "top", "bottom", "left", "right"] "Frame.__init__" (defScope s_Frame___init) T.f_Frame___init cdv A outer s H E) (yOf E) := L2.takes_of rfl rfl rfl rfl
  (fs_expr (fe_call (cal_f (ok_need_range T) (arg_need_range T) (hr.mono (by decide)) hg tk T.F_need_range.kp) T.m_need_range (fa_cons (fv 5) (fa_cons (fv 6) (fa_cons (fe_tup (fa_cons (fe_ix (fv 1) fe_int) (fa_cons (fe_ix (fv 2) fe_int) fa_nil))) fa_nil)))))
theorem ok_Frame___init (T : Txt K mg) : FnB P w K mg base T.cm 4 T.f_Frame___init T.d_Frame___init ["self", "first", "last", "top", "bottom", "left", "right"] F_Frame___init := fn_body T.F_Frame___init sc_Frame___init fun cdv A outer s H E hr hg =>
  have sc := sc_Frame___init
  have tk : Takes (cxOf (L2.CX P w) P w K mg base ["self", "first", "last", "top", "bottom", "left", "right"] "Frame.__init__" (defScope s_Frame___init) T.f_Frame___init cdv A outer s H E) (yOf E) := L2.takes_of rfl rfl rfl rfl
  (fs_cons (fs_expr (fe_call (cal_f (ok_need_cell T) (arg_need_cell T) (hr.mono (by decide)) hg tk T.F_need_cell.kp) T.m_need_cell (fa_cons (fv 1) fa_nil))) (fs_cons (fs_expr (fe_call (cal_f (ok_need_cell T) (arg_need_cell T) (hr.mono (by decide)) hg tk T.F_need_cell.kp) T.m_need_cell (fa_cons (fv 2) fa_nil))) (fs_cons (st_Frame___init_2 T hr hg) (fs_cons (st_Frame___init_3 T hr hg) (fs_cons (fs_fld [0] T.a_begin (fv 0) (fv 1)) (fs_cons (fs_fld [0] T.a_end (fv 0) (fv 2)) (fs_cons (fs_fld [0] T.a_row_range (fv 0) (fe_tup (fa_cons (fv 3) (fa_cons (fv 4) fa_nil)))) (fs_one (fs_fld [0] T.a_column_range (fv 0) (fe_tup (fa_cons (fv 5) (fa_cons (fv 6) fa_nil))))))))))))
theorem arg_law_frame (T : Txt K mg) : Arg K T.cm T.d_law_frame ["_law_six"] 1 [] (fun ds _ => ds) := arg_all T.F_law_frame rfl fun _ _ _ _ _ _ us hl => match us, hl with | [_], _ => rfl
theorem sc_law_frame : FnScope ["_law_six"] ["_law_six"] (defScope s_law_frame) := ⟨rfl, rfl, rfl, by decide +kernel, rfl, by decide +kernel, by decide +kernel⟩
theorem ok_law_frame (T : Txt K mg) : FnB P w K mg base T.cm 6 T.f_law_frame T.d_law_frame ["_law_six"] F_law_frame := fn_body T.F_law_frame sc_law_frame fun cdv A outer s H E hr hg =>
  have sc := sc_law_frame
  have tk : Takes (cxOf (L2.CX P w) P w K mg base ["_law_six"] "_law_frame" (defScope s_law_frame) T.f_law_frame cdv A outer s H E) (yOf E) := L2.takes_of rfl rfl rfl rfl
  (fs_one (fs_ret (fe_call (cal_mk true T.mk_Frame (ok_Frame___init T) (arg_Frame___init T) (hr.mono (by decide)) hg tk) T.g_Frame (fa_cons (fe_ix (fv 0) fe_int) (fa_cons (fe_ix (fv 0) fe_int) (fa_cons (fe_ix (fv 0) fe_int) (fa_cons (fe_ix (fv 0) fe_int) (fa_cons (fe_ix (fv 0) fe_int) (fa_cons (fe_ix (fv 0) fe_int) fa_nil)))))))))
theorem arg_law_pick (T : Txt K mg) : Arg K T.cm T.d_law_pick ["_law_feed_here", "_law_many"] 2 [] (fun ds _ => ds) := arg_all T.F_law_pick rfl fun _ _ _ _ _ _ us hl => match us, hl with | [_, _], _ => rfl
theorem sc_law_pick : FnScope ["_law_feed_here", "_law_many", "_law_digit", "_law_found", "_law_turn", "_law_mixed"] ["_law_feed_here", "_law_many"] (defScope s_law_pick) := ⟨rfl, rfl, rfl, by decide +kernel, rfl, by decide +kernel, by decide +kernel⟩
theorem st_law_pick_0 (T : Txt K mg) {cdv : Value} {A : Around} {outer : List Env} {s : Shared} {H : Hp} {E : XK} (hr : Room 0 (cxOf (L2.CX P w) P w K mg base ["_law_feed_here", "_law_many", "_law_digit", "_law_found", "_law_turn", "_law_mixed"] "_law_pick" (defScope s_law_pick) T.f_law_pick cdv A outer s H E).A) (hg : (cxOf (L2.CX P w) P w K mg base ["_law_feed_here", "_law_many", "_law_digit", "_law_found", "_law_turn", "_law_mixed"] "_law_pick" (defScope s_law_pick) T.f_law_pick cdv A outer s H E).A.guards = some []) : FS (cxOf (L2.CX P w) P w K mg base ["_law_feed_here", "_law_many", "_law_digit", "_law_found", "_law_turn", "_law_mixed"] "_law_pick" (defScope s_law_pick) T.f_law_pick cdv A outer s H E) T.cm (yOf E) ((defBody s_law_pick).getD 0 (.Pass ⟨0, 0, 0, 0⟩)) b_law_pick_0 :=
  have sc := sc_law_pick
  have tk : Takes (cxOf (L2.CX P w) P w K mg base ["_law_feed_here", "_law_many", "_law_digit", "_law_found", "_law_turn", "_law_mixed"] "_law_pick" (defScope s_law_pick) T.f_law_pick cdv A outer s H E) (yOf E) := L2.takes_of rfl rfl rfl rfl
  (fs_if (ft_cmp op_dGt (fe_ix (fv 0) fe_int) fe_int (nomark _)) (fs_cons (fs_set sc.nd rfl (by first | exact Or.inl rfl | exact Or.inr rfl) (fe_op op_dMod (fe_ix (fv 0) fe_int) (fv 1))) (fs_cons (fs_sub (fe_op op_dFdiv (fe_ix (fv 0) fe_int) (fv 1)) (fv 0) fe_int) (fs_one (fs_ret (fv 2))))) fs_nil)
theorem st_law_pick_2 (T : Txt K mg) {cdv : Value} {A : Around} {outer : List Env} {s : Shared} {H : Hp} {E : XK} (hr : Room 0 (cxOf (L2.CX P w) P w K mg base ["_law_feed_here", "_law_many", "_law_digit", "_law_found", "_law_turn", "_law_mixed"] "_law_pick" (defScope s_law_pick) T.f_law_pick cdv A outer s H E).A) (hg : (cxOf (L2.CX P w) P w K mg base ["_law_feed_here", "_law_many", "_law_digit", "_law_found", "_law_turn", "_law_mixed"] "_law_pick" (defScope s_law_pick) T.f_law_pick cdv A outer s H E).A.guards = some []) : FS (cxOf (L2.CX P w) P w K mg base ["_law_feed_here", "_law_many", "_law_digit", "_law_found", "_law_turn", "_law_mixed"] "_law_pick" (defScope s_law_pick) T.f_law_pick cdv A outer s H E) T.cm (yOf E) ((defBody s_law_pick).getD 2 (.Pass ⟨0, 0, 0, 0⟩)) b_law_pick_2 :=
  have sc := sc_law_pick
  have tk : Takes (cxOf (L2.CX P w) P w K mg base ["_law_feed_here", "_law_many", "_law_digit", "_law_found", "_law_turn", "_law_mixed"] "_law_pick" (defScope s_law_pick) T.f_law_pick cdv A outer s H E) (yOf E) := L2.takes_of rfl rfl rfl rfl
  (fs_for (L2.passes_of rfl) rfl (fi_range1 T.n_range (fa_cons (fe_op (op_dAdd true) fe_int (fe_op op_dFdiv (fe_bits (fv 1)) fe_int)) fa_nil)) (fg_name sc.nd rfl (by first | exact Or.inl rfl | exact Or.inr rfl)) (fs_cons (fs_sub (fe_op (op_dAdd true) (fe_ix (fv 0) fe_int) fe_int) (fv 0) fe_int) (fs_cons (fs_set sc.nd rfl (by first | exact Or.inl rfl | exact Or.inr rfl) (fe_op op_dMod (fe_op (op_dAdd true) (fe_ix (fv 0) fe_int) (fe_op (op_dMul true) fe_int (fe_ix (fv 0) fe_int))) fe_int)) (fs_cons (fs_set sc.nd rfl (by first | exact Or.inl rfl | exact Or.inr rfl) (fe_op op_dMod (fe_op (op_dAdd true) (fe_op (op_dAdd true) (fe_op (op_dMul true) (fv 5) (fv 5)) (fe_op (op_dMul true) (fe_op (op_dMul true) fe_int (fe_ix (fv 0) fe_int)) (fv 5))) fe_int) fe_int)) (fs_cons (fs_set sc.nd rfl (by first | exact Or.inl rfl | exact Or.inr rfl) (fe_op op_dMod (fe_op (op_dAdd true) (fe_op (op_dAdd true) (fe_op op_dPow (fv 5) fe_int) (fe_ix (fv 0) fe_int)) (fe_op (op_dMul true) fe_int (fe_ix (fv 0) fe_int))) fe_int)) (fs_one (fs_set sc.nd rfl (by first | exact Or.inl rfl | exact Or.inr rfl) (fe_op (op_dAdd true) (fe_op (op_dMul true) (fv 3) (fe_op op_dPow fe_int fe_int)) (fe_op op_dFdiv (fv 5) fe_int)))))))))
theorem ok_law_pick (T : Txt K mg) : FnB P w K mg base T.cm 1 T.f_law_pick T.d_law_pick ["_law_feed_here", "_law_many"] F_law_pick := fn_body T.F_law_pick sc_law_pick fun cdv A outer s H E hr hg =>
  have sc := sc_law_pick
  have tk : Takes (cxOf (L2.CX P w) P w K mg base ["_law_feed_here", "_law_many", "_law_digit", "_law_found", "_law_turn", "_law_mixed"] "_law_pick" (defScope s_law_pick) T.f_law_pick cdv A outer s H E) (yOf E) := L2.takes_of rfl rfl rfl rfl
  (fs_cons (st_law_pick_0 T hr hg) (fs_cons (fs_set sc.nd rfl (by first | exact Or.inl rfl | exact Or.inr rfl) fe_int) (fs_cons (st_law_pick_2 T hr hg) (fs_one (fs_ret (fe_op op_dMod (fv 3) (fv 1)))))))
theorem arg_missing_ends (T : Txt K mg) : Arg K T.cm T.d_missing_ends ["least", "greatest", "places"] 3 [] (fun ds _ => ds) := arg_all T.F_missing_ends rfl fun _ _ _ _ _ _ us hl => match us, hl with | [_, _, _], _ => rfl
theorem sc_missing_ends : FnScope ["least", "greatest", "places", "ends", "end"] ["least", "greatest", "places"] (defScope s_missing_ends) := ⟨rfl, rfl, rfl, by decide +kernel, rfl, by decide +kernel, by decide +kernel⟩
theorem ok_missing_ends (T : Txt K mg) : FnB P w K mg base T.cm 1 T.f_missing_ends T.d_missing_ends ["least", "greatest", "places"] F_missing_ends := fn_body T.F_missing_ends sc_missing_ends fun cdv A outer s H E hr hg =>
  have sc := sc_missing_ends
  have tk : Takes (cxOf (L2.CX P w) P w K mg base ["least", "greatest", "places", "ends", "end"] "missing_ends" (defScope s_missing_ends) T.f_missing_ends cdv A outer s H E) (yOf E) := L2.takes_of rfl rfl rfl rfl
  (fs_cons (fs_set sc.nd rfl (by first | exact Or.inl rfl | exact Or.inr rfl) (fe_if (ft_cmp (op_dEq hr.units) (fv 0) (fv 1) (nomark _)) (fe_lst true (fa_cons (fv 0) fa_nil)) (fe_lst true (fa_cons (fv 0) (fa_cons (fv 1) fa_nil))))) (fs_one (fs_ret (fe_lc (own := [("end", 4)]) true rfl sc.nd (fi_sq (fv 3)) (blk_of (N := ["least", "greatest", "places", "ends", "end"]) (sc := defScope s_missing_ends) rfl rfl (by decide +kernel)) (fun _ _ _ _ _ => (fg_name sc.nd rfl (by first | exact Or.inl rfl | exact Or.inr rfl))) (fun _ _ _ _ _ => (fts_one (ft_cmp (op_dNotIn (by exact room65 hr)) (fv 4) (fv 2) (by rfl)))) (fun _ _ _ _ _ => (fv 4)) (by decide)))))
theorem arg_Frame_missing_rows (T : Txt K mg) : Arg K T.cm T.d_Frame_missing_rows ["self"] 1 [] (fun ds _ => ds) := arg_all T.F_Frame_missing_rows rfl fun _ _ _ _ _ _ us hl => match us, hl with | [_], _ => rfl
theorem sc_Frame_missing_rows : FnScope ["self"] ["self"] (defScope s_Frame_missing_rows) := ⟨rfl, rfl, rfl, by decide +kernel, rfl, by decide +kernel, by decide +kernel⟩
theorem ok_Frame_missing_rows (T : Txt K mg) : FnB P w K mg base T.cm 2 T.f_Frame_missing_rows T.d_Frame_missing_rows ["self"] F_Frame_missing_rows := fn_body T.F_Frame_missing_rows sc_Frame_missing_rows fun cdv A outer s H E hr hg =>
  have sc := sc_Frame_missing_rows
  have tk : Takes (cxOf (L2.CX P w) P w K mg base ["self"] "Frame.missing_rows" (defScope s_Frame_missing_rows) T.f_Frame_missing_rows cdv A outer s H E) (yOf E) := L2.takes_of rfl rfl rfl rfl
  (fs_one (fs_ret (fe_call (cal_f (ok_missing_ends T) (arg_missing_ends T) (hr.mono (by decide)) hg tk T.F_missing_ends.kp) T.m_missing_ends (fa_cons (fe_ix (fe_fld [0] T.a_row_range (fv 0)) fe_int) (fa_cons (fe_ix (fe_fld [0] T.a_row_range (fv 0)) fe_int) (fa_cons (fe_tup (fa_cons (fe_ix (fe_fld [0] T.a_begin (fv 0)) fe_int) (fa_cons (fe_ix (fe_fld [0] T.a_end (fv 0)) fe_int) fa_nil))) fa_nil))))))
theorem arg_Frame_missing_columns (T : Txt K mg) : Arg K T.cm T.d_Frame_missing_columns ["self"] 1 [] (fun ds _ => ds) := arg_all T.F_Frame_missing_columns rfl fun _ _ _ _ _ _ us hl => match us, hl with | [_], _ => rfl
theorem sc_Frame_missing_columns : FnScope ["self"] ["self"] (defScope s_Frame_missing_columns) := ⟨rfl, rfl, rfl, by decide +kernel, rfl, by decide +kernel, by decide +kernel⟩
theorem ok_Frame_missing_columns (T : Txt K mg) : FnB P w K mg base T.cm 2 T.f_Frame_missing_columns T.d_Frame_missing_columns ["self"] F_Frame_missing_columns := fn_body T.F_Frame_missing_columns sc_Frame_missing_columns fun cdv A outer s H E hr hg =>
  have sc := sc_Frame_missing_columns
  have tk : Takes (cxOf (L2.CX P w) P w K mg base ["self"] "Frame.missing_columns" (defScope s_Frame_missing_columns) T.f_Frame_missing_columns cdv A outer s H E) (yOf E) := L2.takes_of rfl rfl rfl rfl
  (fs_one (fs_ret (fe_call (cal_f (ok_missing_ends T) (arg_missing_ends T) (hr.mono (by decide)) hg tk T.F_missing_ends.kp) T.m_missing_ends (fa_cons (fe_ix (fe_fld [0] T.a_column_range (fv 0)) fe_int) (fa_cons (fe_ix (fe_fld [0] T.a_column_range (fv 0)) fe_int) (fa_cons (fe_tup (fa_cons (fe_ix (fe_fld [0] T.a_begin (fv 0)) fe_int) (fa_cons (fe_ix (fe_fld [0] T.a_end (fv 0)) fe_int) fa_nil))) fa_nil))))))
theorem arg_Frame_fewest (T : Txt K mg) : Arg K T.cm T.d_Frame_fewest ["self"] 1 [] (fun ds _ => ds) := arg_all T.F_Frame_fewest rfl fun _ _ _ _ _ _ us hl => match us, hl with | [_], _ => rfl
theorem sc_Frame_fewest : FnScope ["self", "between"] ["self"] (defScope s_Frame_fewest) := ⟨rfl, rfl, rfl, by decide +kernel, rfl, by decide +kernel, by decide +kernel⟩
theorem ok_Frame_fewest (T : Txt K mg) : FnB P w K mg base T.cm 3 T.f_Frame_fewest T.d_Frame_fewest ["self"] F_Frame_fewest := fn_body T.F_Frame_fewest sc_Frame_fewest fun cdv A outer s H E hr hg =>
  have sc := sc_Frame_fewest
  have tk : Takes (cxOf (L2.CX P w) P w K mg base ["self", "between"] "Frame.fewest" (defScope s_Frame_fewest) T.f_Frame_fewest cdv A outer s H E) (yOf E) := L2.takes_of rfl rfl rfl rfl
  (fs_cons (fs_set sc.nd rfl (by first | exact Or.inl rfl | exact Or.inr rfl) (fe_callB (call_dMax rfl) T.n_max (by decide +kernel) (fa_cons (fe_callB (call_dLen) T.n_len (by decide +kernel) (fa_cons (fe_meth0 (fv 0) T.c_Frame T.me_Frame_missing_rows (cal_f (ok_Frame_missing_rows T) (arg_Frame_missing_rows T) (hr.mono (by decide)) hg tk T.F_Frame_missing_rows.kp)) fa_nil)) (fa_cons (fe_callB (call_dLen) T.n_len (by decide +kernel) (fa_cons (fe_meth0 (fv 0) T.c_Frame T.me_Frame_missing_columns (cal_f (ok_Frame_missing_columns T) (arg_Frame_missing_columns T) (hr.mono (by decide)) hg tk T.F_Frame_missing_columns.kp)) fa_nil)) fa_nil)))) (fs_one (fs_ret (fe_if (ft_w (fw_and (ft_cmp (op_dEq hr.units) (fv 1) fe_int (nomark _)) (fw_and1 (ft_cmp (op_dEq hr.units) (fe_fld [0] T.a_begin (fv 0)) (fe_fld [0] T.a_end (fv 0)) (nomark _))))) fe_int (fe_op (op_dAdd true) fe_int (fv 1))))))
theorem arg_law_ends (T : Txt K mg) : Arg K T.cm T.d_law_ends ["_law_six"] 1 [] (fun ds _ => ds) := arg_all T.F_law_ends rfl fun _ _ _ _ _ _ us hl => match us, hl with | [_], _ => rfl
theorem sc_law_ends : FnScope ["_law_six", "_law_first_one", "_law_last_one", "_law_top", "_law_bottom", "_law_left", "_law_right_here", "_law_downs", "_law_spot"] ["_law_six"] (defScope s_law_ends) := ⟨rfl, rfl, rfl, by decide +kernel, rfl, by decide +kernel, by decide +kernel⟩
theorem ok_law_ends (T : Txt K mg) : FnB P w K mg base T.cm 1 T.f_law_ends T.d_law_ends ["_law_six"] F_law_ends := fn_body T.F_law_ends sc_law_ends fun cdv A outer s H E hr hg =>
  have sc := sc_law_ends
  have tk : Takes (cxOf (L2.CX P w) P w K mg base ["_law_six", "_law_first_one", "_law_last_one", "_law_top", "_law_bottom", "_law_left", "_law_right_here", "_law_downs", "_law_spot"] "_law_ends" (defScope s_law_ends) T.f_law_ends cdv A outer s H E) (yOf E) := L2.takes_of rfl rfl rfl rfl
  (fs_cons (fs_asg (fv 0) (fg_tup rfl (fgs_cons (fg_name sc.nd rfl (by first | exact Or.inl rfl | exact Or.inr rfl)) (fgs_cons (fg_name sc.nd rfl (by first | exact Or.inl rfl | exact Or.inr rfl)) (fgs_cons (fg_name sc.nd rfl (by first | exact Or.inl rfl | exact Or.inr rfl)) (fgs_cons (fg_name sc.nd rfl (by first | exact Or.inl rfl | exact Or.inr rfl)) (fgs_cons (fg_name sc.nd rfl (by first | exact Or.inl rfl | exact Or.inr rfl)) (fgs_cons (fg_name sc.nd rfl (by first | exact Or.inl rfl | exact Or.inr rfl)) fgs_nil)))))))) (fs_cons (fs_setLc (own := [("_law_spot", 8)]) true rfl sc.nd rfl rfl (sw_true rfl rfl rfl (by decide +kernel)) (fi_sq (fe_sortSet rfl T.n_sorted T.n_set (fe_lst true (fa_cons (fv 3) (fa_cons (fv 4) fa_nil))))) (blk_of (N := ["_law_six", "_law_first_one", "_law_last_one", "_law_top", "_law_bottom", "_law_left", "_law_right_here", "_law_downs", "_law_spot"]) (sc := defScope s_law_ends) rfl rfl (by decide +kernel)) (fun _ _ _ _ _ => (fg_name sc.nd rfl (by first | exact Or.inl rfl | exact Or.inr rfl))) (fun _ _ _ _ _ => (fts_one (ft_cmp (op_dNotIn (by exact room65 hr)) (fv 8) (fe_tup (fa_cons (fe_ix (fv 1) fe_int) (fa_cons (fe_ix (fv 2) fe_int) fa_nil))) (by rfl)))) (fun _ _ _ _ _ => (fv 8)) (by decide)) (fs_one (fs_ret (fe_lst true (fa_cons (fv 7) (fa_cons (fe_lc (own := [("_law_spot", 8)]) true rfl sc.nd (fi_sq (fe_sortSet rfl T.n_sorted T.n_set (fe_lst true (fa_cons (fv 5) (fa_cons (fv 6) fa_nil))))) (blk_of (N := ["_law_six", "_law_first_one", "_law_last_one", "_law_top", "_law_bottom", "_law_left", "_law_right_here", "_law_downs", "_law_spot"]) (sc := defScope s_law_ends) rfl rfl (by decide +kernel)) (fun _ _ _ _ _ => (fg_name sc.nd rfl (by first | exact Or.inl rfl | exact Or.inr rfl))) (fun _ _ _ _ _ => (fts_one (ft_cmp (op_dNotIn (by exact room65 hr)) (fv 8) (fe_tup (fa_cons (fe_ix (fv 1) fe_int) (fa_cons (fe_ix (fv 2) fe_int) fa_nil))) (by rfl)))) (fun _ _ _ _ _ => (fv 8)) (by decide)) fa_nil)))))))
theorem arg_law_lists (T : Txt K mg) : Arg K T.cm T.d_law_lists ["_law_size", "_law_missing", "_law_many"] 3 [] (fun ds _ => ds) := arg_all T.F_law_lists rfl fun _ _ _ _ _ _ us hl => match us, hl with | [_, _, _], _ => rfl
theorem sc_law_lists : FnScope ["_law_size", "_law_missing", "_law_many", "_law_counts", "_law_turn", "_law_later", "_law_had", "_law_ways"] ["_law_size", "_law_missing", "_law_many"] (defScope s_law_lists) := ⟨rfl, rfl, rfl, by decide +kernel, rfl, by decide +kernel, by decide +kernel⟩
theorem ok_law_lists (T : Txt K mg) : FnB P w K mg base T.cm 1 T.f_law_lists T.d_law_lists ["_law_size", "_law_missing", "_law_many"] F_law_lists := fn_body T.F_law_lists sc_law_lists fun cdv A outer s H E hr hg =>
  have sc := sc_law_lists
  have tk : Takes (cxOf (L2.CX P w) P w K mg base ["_law_size", "_law_missing", "_law_many", "_law_counts", "_law_turn", "_law_later", "_law_had", "_law_ways"] "_law_lists" (defScope s_law_lists) T.f_law_lists cdv A outer s H E) (yOf E) := L2.takes_of rfl rfl rfl rfl
  (fs_cons (fs_set sc.nd rfl (by first | exact Or.inl rfl | exact Or.inr rfl) (fe_op (op_dAdd true) (fe_lst true (fa_cons fe_int fa_nil)) (fe_op (op_dMul true) (fe_lst true (fa_cons fe_int fa_nil)) (fv 1)))) (fs_cons (fs_for (L2.passes_of rfl) rfl (fi_range1 T.n_range (fa_cons (fv 2) fa_nil)) (fg_name sc.nd rfl (by first | exact Or.inl rfl | exact Or.inr rfl)) (fs_cons (fs_set sc.nd rfl (by first | exact Or.inl rfl | exact Or.inr rfl) (fe_op (op_dMul false) (fe_lst true (fa_cons fe_int fa_nil)) (fe_op (op_dAdd true) (fv 1) fe_int))) (fs_cons (fs_for (L2.passes_of rfl) rfl (fi_en T.n_enumerate (fa_cons (fv 3) fa_nil)) (fg_tup rfl (fgs_cons (fg_name sc.nd rfl (by first | exact Or.inl rfl | exact Or.inr rfl)) (fgs_cons (fg_name sc.nd rfl (by first | exact Or.inl rfl | exact Or.inr rfl)) fgs_nil))) (fs_cons (fs_sub (fe_op (op_dAdd true) (fe_ix (fv 5) (fv 6)) (fe_op (op_dMul true) (fv 7) (fe_op op_dSub (fv 0) (fe_op op_dSub (fv 1) (fv 6))))) (fv 5) (fv 6)) (fs_one (fs_if (ft_cmp op_dLt (fv 6) (fv 1) (nomark _)) (fs_one (fs_sub (fe_op (op_dAdd true) (fe_ix (fv 5) (fe_op (op_dAdd true) (fv 6) fe_int)) (fe_op (op_dMul true) (fv 7) (fe_op op_dSub (fv 1) (fv 6)))) (fv 5) (fe_op (op_dAdd true) (fv 6) fe_int))) fs_nil)))) (fs_frz 5 (fs_one (fs_set sc.nd rfl (by first | exact Or.inl rfl | exact Or.inr rfl) (fv 5))))))) (fs_one (fs_ret (fe_ix (fv 3) (fv 1))))))
theorem arg_law_number (T : Txt K mg) : Arg K T.cm T.d_law_number ["_law_six", "_law_copies_here"] 2 [] (fun ds _ => ds) := arg_all T.F_law_number rfl fun _ _ _ _ _ _ us hl => match us, hl with | [_, _], _ => rfl
theorem sc_law_number : FnScope ["_law_six", "_law_copies_here", "_law_ends_here", "_law_found"] ["_law_six", "_law_copies_here"] (defScope s_law_number) := ⟨rfl, rfl, rfl, by decide +kernel, rfl, by decide +kernel, by decide +kernel⟩
theorem st_law_number_0 (T : Txt K mg) {cdv : Value} {A : Around} {outer : List Env} {s : Shared} {H : Hp} {E : XK} (hr : Room 1 (cxOf (L2.CX P w) P w K mg base ["_law_six", "_law_copies_here", "_law_ends_here", "_law_found"] "_law_number" (defScope s_law_number) T.f_law_number cdv A outer s H E).A) (hg : (cxOf (L2.CX P w) P w K mg base ["_law_six", "_law_copies_here", "_law_ends_here", "_law_found"] "_law_number" (defScope s_law_number) T.f_law_number cdv A outer s H E).A.guards = some []) : FS (cxOf (L2.CX P w) P w K mg base ["_law_six", "_law_copies_here", "_law_ends_here", "_law_found"] "_law_number" (defScope s_law_number) T.f_law_number cdv A outer s H E) T.cm (yOf E) ((defBody s_law_number).getD 0 (.Pass ⟨0, 0, 0, 0⟩)) b_law_number_0 :=
  have sc := sc_law_number
  have tk : Takes (cxOf (L2.CX P w) P w K mg base ["_law_six", "_law_copies_here", "_law_ends_here", "_law_found"] "_law_number" (defScope s_law_number) T.f_law_number cdv A outer s H E) (yOf E) := L2.takes_of rfl rfl rfl rfl
  (fs_set sc.nd rfl (by first | exact Or.inl rfl | exact Or.inr rfl) (fe_call (cal_f (ok_law_ends T) (arg_law_ends T) (hr.mono (by decide)) hg tk T.F_law_ends.kp) T.m_law_ends (fa_cons (fv 0) fa_nil)))
theorem st_law_number_1 (T : Txt K mg) {cdv : Value} {A : Around} {outer : List Env} {s : Shared} {H : Hp} {E : XK} (hr : Room 1 (cxOf (L2.CX P w) P w K mg base ["_law_six", "_law_copies_here", "_law_ends_here", "_law_found"] "_law_number" (defScope s_law_number) T.f_law_number cdv A outer s H E).A) (hg : (cxOf (L2.CX P w) P w K mg base ["_law_six", "_law_copies_here", "_law_ends_here", "_law_found"] "_law_number" (defScope s_law_number) T.f_law_number cdv A outer s H E).A.guards = some []) : FS (cxOf (L2.CX P w) P w K mg base ["_law_six", "_law_copies_here", "_law_ends_here", "_law_found"] "_law_number" (defScope s_law_number) T.f_law_number cdv A outer s H E) T.cm (yOf E) ((defBody s_law_number).getD 1 (.Pass ⟨0, 0, 0, 0⟩)) b_law_number_1 :=
  have sc := sc_law_number
  have tk : Takes (cxOf (L2.CX P w) P w K mg base ["_law_six", "_law_copies_here", "_law_ends_here", "_law_found"] "_law_number" (defScope s_law_number) T.f_law_number cdv A outer s H E) (yOf E) := L2.takes_of rfl rfl rfl rfl
  (fs_if (ft_cmp (op_dEq hr.units) (fv 1) fe_int (nomark _)) (fs_one (fs_ret (fe_callTy (call_dInt) T.n_int (by decide +kernel) (fa_cons (fe_and (fe_cmp (op_dEq hr.units) (fv 2) (fe_lst true (fa_cons (fe_lst true fa_nil) (fa_cons (fe_lst true fa_nil) fa_nil))) (nomark _)) (fe_one (fe_cmp (op_dEq hr.units) (fe_ix (fv 0) fe_int) (fe_ix (fv 0) fe_int) (nomark _)))) fa_nil)))) fs_nil)
theorem st_law_number_2 (T : Txt K mg) {cdv : Value} {A : Around} {outer : List Env} {s : Shared} {H : Hp} {E : XK} (hr : Room 1 (cxOf (L2.CX P w) P w K mg base ["_law_six", "_law_copies_here", "_law_ends_here", "_law_found"] "_law_number" (defScope s_law_number) T.f_law_number cdv A outer s H E).A) (hg : (cxOf (L2.CX P w) P w K mg base ["_law_six", "_law_copies_here", "_law_ends_here", "_law_found"] "_law_number" (defScope s_law_number) T.f_law_number cdv A outer s H E).A.guards = some []) : FS (cxOf (L2.CX P w) P w K mg base ["_law_six", "_law_copies_here", "_law_ends_here", "_law_found"] "_law_number" (defScope s_law_number) T.f_law_number cdv A outer s H E) T.cm (yOf E) ((defBody s_law_number).getD 2 (.Pass ⟨0, 0, 0, 0⟩)) b_law_number_2 :=
  have sc := sc_law_number
  have tk : Takes (cxOf (L2.CX P w) P w K mg base ["_law_six", "_law_copies_here", "_law_ends_here", "_law_found"] "_law_number" (defScope s_law_number) T.f_law_number cdv A outer s H E) (yOf E) := L2.takes_of rfl rfl rfl rfl
  (fs_set sc.nd rfl (by first | exact Or.inl rfl | exact Or.inr rfl) (fe_call (cal_f (ok_law_lists T) (arg_law_lists T) (hr.mono (by decide)) hg tk T.F_law_lists.kp) T.m_law_lists (fa_cons (fe_op (op_dAdd true) (fe_op op_dSub (fe_ix (fv 0) fe_int) (fe_ix (fv 0) fe_int)) fe_int) (fa_cons (fe_callB (call_dLen) T.n_len (by decide +kernel) (fa_cons (fe_ix (fv 2) fe_int) fa_nil)) (fa_cons (fe_op op_dSub (fv 1) fe_int) fa_nil)))))
theorem st_law_number_3 (T : Txt K mg) {cdv : Value} {A : Around} {outer : List Env} {s : Shared} {H : Hp} {E : XK} (hr : Room 1 (cxOf (L2.CX P w) P w K mg base ["_law_six", "_law_copies_here", "_law_ends_here", "_law_found"] "_law_number" (defScope s_law_number) T.f_law_number cdv A outer s H E).A) (hg : (cxOf (L2.CX P w) P w K mg base ["_law_six", "_law_copies_here", "_law_ends_here", "_law_found"] "_law_number" (defScope s_law_number) T.f_law_number cdv A outer s H E).A.guards = some []) : FS (cxOf (L2.CX P w) P w K mg base ["_law_six", "_law_copies_here", "_law_ends_here", "_law_found"] "_law_number" (defScope s_law_number) T.f_law_number cdv A outer s H E) T.cm (yOf E) ((defBody s_law_number).getD 3 (.Pass ⟨0, 0, 0, 0⟩)) b_law_number_3 :=
  have sc := sc_law_number
  have tk : Takes (cxOf (L2.CX P w) P w K mg base ["_law_six", "_law_copies_here", "_law_ends_here", "_law_found"] "_law_number" (defScope s_law_number) T.f_law_number cdv A outer s H E) (yOf E) := L2.takes_of rfl rfl rfl rfl
  (fs_ret (fe_op (op_dMul true) (fv 3) (fe_call (cal_f (ok_law_lists T) (arg_law_lists T) (hr.mono (by decide)) hg tk T.F_law_lists.kp) T.m_law_lists (fa_cons (fe_op (op_dAdd true) (fe_op op_dSub (fe_ix (fv 0) fe_int) (fe_ix (fv 0) fe_int)) fe_int) (fa_cons (fe_callB (call_dLen) T.n_len (by decide +kernel) (fa_cons (fe_ix (fv 2) fe_int) fa_nil)) (fa_cons (fe_op op_dSub (fv 1) fe_int) fa_nil))))))
theorem ok_law_number (T : Txt K mg) : FnB P w K mg base T.cm 2 T.f_law_number T.d_law_number ["_law_six", "_law_copies_here"] F_law_number := fn_body T.F_law_number sc_law_number fun cdv A outer s H E hr hg =>
  have sc := sc_law_number
  have tk : Takes (cxOf (L2.CX P w) P w K mg base ["_law_six", "_law_copies_here", "_law_ends_here", "_law_found"] "_law_number" (defScope s_law_number) T.f_law_number cdv A outer s H E) (yOf E) := L2.takes_of rfl rfl rfl rfl
  (fs_cons (st_law_number_0 T hr hg) (fs_cons (st_law_number_1 T hr hg) (fs_cons (st_law_number_2 T hr hg) (fs_one (st_law_number_3 T hr hg)))))
theorem arg_need_copies (T : Txt K mg) : Arg K T.cm T.d_need_copies ["copies"] 1 [] (fun ds _ => ds) := arg_all T.F_need_copies rfl fun _ _ _ _ _ _ us hl => match us, hl with | [_], _ => rfl
theorem sc_need_copies : FnScope ["copies"] ["copies"] (defScope s_need_copies) := ⟨rfl, rfl, rfl, by decide +kernel, rfl, by decide +kernel, by decide +kernel⟩
theorem ok_need_copies (T : Txt K mg) : FnB P w K mg base T.cm 1 T.f_need_copies T.d_need_copies ["copies"] F_need_copies := fn_body T.F_need_copies sc_need_copies fun cdv A outer s H E hr hg =>
  have sc := sc_need_copies
  have tk : Takes (cxOf (L2.CX P w) P w K mg base ["copies"] "need_copies" (defScope s_need_copies) T.f_need_copies cdv A outer s H E) (yOf E) := L2.takes_of rfl rfl rfl rfl
  (fs_one (fs_if (ft_not (ft_chain op_dLe op_dLe fe_int (fv 0) (fe_gint 299 T.g_MOST_COPIES.choose_spec))) (fs_one fs_never) fs_nil))
theorem arg_powers_of (T : Txt K mg) : Arg K T.cm T.d_powers_of ["base", "most"] 2 [] (fun ds _ => ds) := arg_all T.F_powers_of rfl fun _ _ _ _ _ _ us hl => match us, hl with | [_, _], _ => rfl
theorem sc_powers_of : FnScope ["base", "most", "found"] ["base", "most"] (defScope s_powers_of) := ⟨rfl, rfl, rfl, by decide +kernel, rfl, by decide +kernel, by decide +kernel⟩
theorem ok_powers_of (T : Txt K mg) : FnB P w K mg base T.cm 1 T.f_powers_of T.d_powers_of ["base", "most"] F_powers_of := fn_body T.F_powers_of sc_powers_of fun cdv A outer s H E hr hg =>
  have sc := sc_powers_of
  have tk : Takes (cxOf (L2.CX P w) P w K mg base ["base", "most", "found"] "powers_of" (defScope s_powers_of) T.f_powers_of cdv A outer s H E) (yOf E) := L2.takes_of rfl rfl rfl rfl
  (fs_cons (fs_set sc.nd rfl (by first | exact Or.inl rfl | exact Or.inr rfl) (fe_lst false (fa_cons fe_int fa_nil))) (fs_cons (fs_while (L2.passes_of rfl) (ft_cmp op_dLe (fe_callB (call_dLen) T.n_len (by decide +kernel) (fa_cons (fv 2) fa_nil)) (fv 1) (nomark _)) (fs_one (fs_expr (fe_lm PySem.F.slot_list_append PySem.F.type_list_append mt_dAppend (fv 2) (fa_cons (fe_op (op_dMul true) (fe_ix (fv 2) (fe_un op_dNeg fe_int)) (fv 0)) fa_nil))))) (fs_frz 2 (fs_one (fs_ret (fv 2))))))
theorem arg_Cover___init (T : Txt K mg) : Arg K T.cm T.d_Cover___init ["self", "least", "greatest", "missing", "most"] 5 [] (fun ds _ => ds) := arg_all T.F_Cover___init rfl fun _ _ _ _ _ _ us hl => match us, hl with | [_, _, _, _, _], _ => rfl
theorem sc_Cover___init : FnScope ["self", "least", "greatest", "missing", "most", "size", "out"] ["self", "least", "greatest", "missing", "most"] (defScope s_Cover___init) := ⟨rfl, rfl, rfl, by decide +kernel, rfl, by decide +kernel, by decide +kernel⟩
theorem st_Cover___init_4 (T : Txt K mg) {cdv : Value} {A : Around} {outer : List Env} {s : Shared} {H : Hp} {E : XK} (hr : Room 1 (cxOf (L2.CX P w) P w K mg base ["self", "least", "greatest", "missing", "most", "size", "out"] "Cover.__init__" (defScope s_Cover___init) T.f_Cover___init cdv A outer s H E).A) (hg : (cxOf (L2.CX P w) P w K mg base ["self", "least", "greatest", "missing", "most", "size", "out"] "Cover.__init__" (defScope s_Cover___init) T.f_Cover___init cdv A outer s H E).A.guards = some []) : FS (cxOf (L2.CX P w) P w K mg base ["self", "least", "greatest", "missing", "most", "size", "out"] "Cover.__init__" (defScope s_Cover___init) T.f_Cover___init cdv A outer s H E) T.cm (yOf E) ((defBody s_Cover___init).getD 4 (.Pass ⟨0, 0, 0, 0⟩)) b_Cover___init_4 :=
  have sc := sc_Cover___init
  have tk : Takes (cxOf (L2.CX P w) P w K mg base ["self", "least", "greatest", "missing", "most", "size", "out"] "Cover.__init__" (defScope s_Cover___init) T.f_Cover___init cdv A outer s H E) (yOf E) := L2.takes_of rfl rfl rfl rfl
  (fs_fld [1] T.a_tables (fv 0) (fe_lc (own := [("out", 6)]) true rfl sc.nd (fi_range1 T.n_range (fa_cons (fe_op (op_dAdd true) (fe_callB (call_dLen) T.n_len (by decide +kernel) (fa_cons (fv 3) fa_nil)) fe_int) fa_nil)) (blk_of (N := ["self", "least", "greatest", "missing", "most", "size", "out"]) (sc := defScope s_Cover___init) rfl rfl (by decide +kernel)) (fun _ _ _ _ _ => (fg_name sc.nd rfl (by first | exact Or.inl rfl | exact Or.inr rfl))) (fun _ _ _ _ _ => fts_nil) (fun _ _ _ _ _ => (fe_call (cal_f (ok_powers_of T) (arg_powers_of T) (by exact hr.mono (by decide)) (by exact hg) tkNo T.F_powers_of.kp) T.m_powers_of (fa_cons (fe_op op_dSub (fv 5) (fv 6)) (fa_cons (fv 4) fa_nil)))) (by decide)))
theorem ok_Cover___init (T : Txt K mg) : FnB P w K mg base T.cm 2 T.f_Cover___init T.d_Cover___init ["self", "least", "greatest", "missing", "most"] F_Cover___init := fn_body T.F_Cover___init sc_Cover___init fun cdv A outer s H E hr hg =>
  have sc := sc_Cover___init
  have tk : Takes (cxOf (L2.CX P w) P w K mg base ["self", "least", "greatest", "missing", "most", "size", "out"] "Cover.__init__" (defScope s_Cover___init) T.f_Cover___init cdv A outer s H E) (yOf E) := L2.takes_of rfl rfl rfl rfl
  (fs_cons (fs_fld [1] T.a_low (fv 0) (fv 1)) (fs_cons (fs_fld [1] T.a_high (fv 0) (fv 2)) (fs_cons (fs_fld [1] T.a_wanted (fv 0) (fv 3)) (fs_cons (fs_set sc.nd rfl (by first | exact Or.inl rfl | exact Or.inr rfl) (fe_op (op_dAdd true) (fe_op op_dSub (fv 2) (fv 1)) fe_int)) (fs_one (st_Cover___init_4 T hr hg))))))
theorem arg_Frame_top (T : Txt K mg) : Arg K T.cm T.d_Frame_top ["self"] 1 [] (fun ds _ => ds) := arg_all T.F_Frame_top rfl fun _ _ _ _ _ _ us hl => match us, hl with | [_], _ => rfl
theorem sc_Frame_top : FnScope ["self"] ["self"] (defScope s_Frame_top) := ⟨rfl, rfl, rfl, by decide +kernel, rfl, by decide +kernel, by decide +kernel⟩
theorem ok_Frame_top (T : Txt K mg) : FnB P w K mg base T.cm 1 T.f_Frame_top T.d_Frame_top ["self"] F_Frame_top := fn_body T.F_Frame_top sc_Frame_top fun cdv A outer s H E hr hg =>
  have sc := sc_Frame_top
  have tk : Takes (cxOf (L2.CX P w) P w K mg base ["self"] "Frame.top" (defScope s_Frame_top) T.f_Frame_top cdv A outer s H E) (yOf E) := L2.takes_of rfl rfl rfl rfl
  (fs_one (fs_ret (fe_ix (fe_fld [0] T.a_row_range (fv 0)) fe_int)))
theorem arg_Frame_bottom (T : Txt K mg) : Arg K T.cm T.d_Frame_bottom ["self"] 1 [] (fun ds _ => ds) := arg_all T.F_Frame_bottom rfl fun _ _ _ _ _ _ us hl => match us, hl with | [_], _ => rfl
theorem sc_Frame_bottom : FnScope ["self"] ["self"] (defScope s_Frame_bottom) := ⟨rfl, rfl, rfl, by decide +kernel, rfl, by decide +kernel, by decide +kernel⟩
theorem ok_Frame_bottom (T : Txt K mg) : FnB P w K mg base T.cm 1 T.f_Frame_bottom T.d_Frame_bottom ["self"] F_Frame_bottom := fn_body T.F_Frame_bottom sc_Frame_bottom fun cdv A outer s H E hr hg =>
  have sc := sc_Frame_bottom
  have tk : Takes (cxOf (L2.CX P w) P w K mg base ["self"] "Frame.bottom" (defScope s_Frame_bottom) T.f_Frame_bottom cdv A outer s H E) (yOf E) := L2.takes_of rfl rfl rfl rfl
  (fs_one (fs_ret (fe_ix (fe_fld [0] T.a_row_range (fv 0)) fe_int)))
theorem arg_Frame_left (T : Txt K mg) : Arg K T.cm T.d_Frame_left ["self"] 1 [] (fun ds _ => ds) := arg_all T.F_Frame_left rfl fun _ _ _ _ _ _ us hl => match us, hl with | [_], _ => rfl
theorem sc_Frame_left : FnScope ["self"] ["self"] (defScope s_Frame_left) := ⟨rfl, rfl, rfl, by decide +kernel, rfl, by decide +kernel, by decide +kernel⟩
theorem ok_Frame_left (T : Txt K mg) : FnB P w K mg base T.cm 1 T.f_Frame_left T.d_Frame_left ["self"] F_Frame_left := fn_body T.F_Frame_left sc_Frame_left fun cdv A outer s H E hr hg =>
  have sc := sc_Frame_left
  have tk : Takes (cxOf (L2.CX P w) P w K mg base ["self"] "Frame.left" (defScope s_Frame_left) T.f_Frame_left cdv A outer s H E) (yOf E) := L2.takes_of rfl rfl rfl rfl
  (fs_one (fs_ret (fe_ix (fe_fld [0] T.a_column_range (fv 0)) fe_int)))
theorem arg_Frame_right (T : Txt K mg) : Arg K T.cm T.d_Frame_right ["self"] 1 [] (fun ds _ => ds) := arg_all T.F_Frame_right rfl fun _ _ _ _ _ _ us hl => match us, hl with | [_], _ => rfl
theorem sc_Frame_right : FnScope ["self"] ["self"] (defScope s_Frame_right) := ⟨rfl, rfl, rfl, by decide +kernel, rfl, by decide +kernel, by decide +kernel⟩
theorem ok_Frame_right (T : Txt K mg) : FnB P w K mg base T.cm 1 T.f_Frame_right T.d_Frame_right ["self"] F_Frame_right := fn_body T.F_Frame_right sc_Frame_right fun cdv A outer s H E hr hg =>
  have sc := sc_Frame_right
  have tk : Takes (cxOf (L2.CX P w) P w K mg base ["self"] "Frame.right" (defScope s_Frame_right) T.f_Frame_right cdv A outer s H E) (yOf E) := L2.takes_of rfl rfl rfl rfl
  (fs_one (fs_ret (fe_ix (fe_fld [0] T.a_column_range (fv 0)) fe_int)))
theorem arg_covers_of (T : Txt K mg) : Arg K T.cm T.d_covers_of ["frame", "most"] 2 [] (fun ds _ => ds) := arg_all T.F_covers_of rfl fun _ _ _ _ _ _ us hl => match us, hl with | [_, _], _ => rfl
theorem sc_covers_of : FnScope ["frame", "most", "rows"] ["frame", "most"] (defScope s_covers_of) := ⟨rfl, rfl, rfl, by decide +kernel, rfl, by decide +kernel, by decide +kernel⟩
theorem ok_covers_of (T : Txt K mg) : FnB P w K mg base T.cm 4 T.f_covers_of T.d_covers_of ["frame", "most"] F_covers_of := fn_body T.F_covers_of sc_covers_of fun cdv A outer s H E hr hg =>
  have sc := sc_covers_of
  have tk : Takes (cxOf (L2.CX P w) P w K mg base ["frame", "most", "rows"] "covers_of" (defScope s_covers_of) T.f_covers_of cdv A outer s H E) (yOf E) := L2.takes_of rfl rfl rfl rfl
  (fs_cons (fs_set sc.nd rfl (by first | exact Or.inl rfl | exact Or.inr rfl) (fe_call (cal_mk true T.mk_Cover (ok_Cover___init T) (arg_Cover___init T) (hr.mono (by decide)) hg tk) T.g_Cover (fa_cons (fe_prop (fv 0) T.c_Frame T.p_Frame_top (ok_Frame_top T) (arg_Frame_top T) (hr.mono (by decide)) hg) (fa_cons (fe_prop (fv 0) T.c_Frame T.p_Frame_bottom (ok_Frame_bottom T) (arg_Frame_bottom T) (hr.mono (by decide)) hg) (fa_cons (fe_meth0 (fv 0) T.c_Frame T.me_Frame_missing_rows (cal_f (ok_Frame_missing_rows T) (arg_Frame_missing_rows T) (hr.mono (by decide)) hg tk T.F_Frame_missing_rows.kp)) (fa_cons (fv 1) fa_nil)))))) (fs_one (fs_ret (fe_tup (fa_cons (fv 2) (fa_cons (fe_call (cal_mk true T.mk_Cover (ok_Cover___init T) (arg_Cover___init T) (hr.mono (by decide)) hg tk) T.g_Cover (fa_cons (fe_prop (fv 0) T.c_Frame T.p_Frame_left (ok_Frame_left T) (arg_Frame_left T) (hr.mono (by decide)) hg) (fa_cons (fe_prop (fv 0) T.c_Frame T.p_Frame_right (ok_Frame_right T) (arg_Frame_right T) (hr.mono (by decide)) hg) (fa_cons (fe_meth0 (fv 0) T.c_Frame T.me_Frame_missing_columns (cal_f (ok_Frame_missing_columns T) (arg_Frame_missing_columns T) (hr.mono (by decide)) hg tk T.F_Frame_missing_columns.kp)) (fa_cons (fv 1) fa_nil))))) fa_nil))))))
theorem arg_Cover_number_of (T : Txt K mg) : Arg K T.cm T.d_Cover_number_of ["self", "wanted", "many"] 3 [] (fun ds _ => ds) := arg_all T.F_Cover_number_of rfl fun _ _ _ _ _ _ us hl => match us, hl with | [_, _, _], _ => rfl
theorem sc_Cover_number_of : FnScope ["self", "wanted", "many"] ["self", "wanted", "many"] (defScope s_Cover_number_of) := ⟨rfl, rfl, rfl, by decide +kernel, rfl, by decide +kernel, by decide +kernel⟩
theorem ok_Cover_number_of (T : Txt K mg) : FnB P w K mg base T.cm 1 T.f_Cover_number_of T.d_Cover_number_of ["self", "wanted", "many"] F_Cover_number_of := fn_body T.F_Cover_number_of sc_Cover_number_of fun cdv A outer s H E hr hg =>
  have sc := sc_Cover_number_of
  have tk : Takes (cxOf (L2.CX P w) P w K mg base ["self", "wanted", "many"] "Cover.number_of" (defScope s_Cover_number_of) T.f_Cover_number_of cdv A outer s H E) (yOf E) := L2.takes_of rfl rfl rfl rfl
  (fs_cons (fs_if (ft_cmp (op_dEq hr.units) (fe_callB (call_dLen) T.n_len (by decide +kernel) (fa_cons (fv 1) fa_nil)) fe_int (nomark _)) (fs_one (fs_ret (fe_ix (fe_ix (fe_fld [1] T.a_tables (fv 0)) fe_int) (fv 2)))) fs_nil) (fs_cons (fs_if (ft_cmp (op_dEq hr.units) (fe_callB (call_dLen) T.n_len (by decide +kernel) (fa_cons (fv 1) fa_nil)) fe_int (nomark _)) (fs_one (fs_ret (fe_op op_dSub (fe_ix (fe_ix (fe_fld [1] T.a_tables (fv 0)) fe_int) (fv 2)) (fe_ix (fe_ix (fe_fld [1] T.a_tables (fv 0)) fe_int) (fv 2))))) fs_nil) (fs_one (fs_ret (fe_op (op_dAdd true) (fe_op op_dSub (fe_ix (fe_ix (fe_fld [1] T.a_tables (fv 0)) fe_int) (fv 2)) (fe_op (op_dMul true) fe_int (fe_ix (fe_ix (fe_fld [1] T.a_tables (fv 0)) fe_int) (fv 2)))) (fe_ix (fe_ix (fe_fld [1] T.a_tables (fv 0)) fe_int) (fv 2)))))))
theorem arg_number_with (T : Txt K mg) : Arg K T.cm T.d_number_with ["frame", "copies"] 2 [] (fun ds _ => ds) := arg_all T.F_number_with rfl fun _ _ _ _ _ _ us hl => match us, hl with | [_, _], _ => rfl
theorem sc_number_with : FnScope ["frame", "copies", "rows", "columns"] ["frame", "copies"] (defScope s_number_with) := ⟨rfl, rfl, rfl, by decide +kernel, rfl, by decide +kernel, by decide +kernel⟩
theorem ok_number_with (T : Txt K mg) : FnB P w K mg base T.cm 5 T.f_number_with T.d_number_with ["frame", "copies"] F_number_with := fn_body T.F_number_with sc_number_with fun cdv A outer s H E hr hg =>
  have sc := sc_number_with
  have tk : Takes (cxOf (L2.CX P w) P w K mg base ["frame", "copies", "rows", "columns"] "number_with" (defScope s_number_with) T.f_number_with cdv A outer s H E) (yOf E) := L2.takes_of rfl rfl rfl rfl
  (fs_cons (fs_if (ft_cmp (op_dEq hr.units) (fv 1) fe_int (nomark _)) (fs_one (fs_ret (fe_callTy (call_dInt) T.n_int (by decide +kernel) (fa_cons (fe_cmp (op_dEq hr.units) (fe_meth0 (fv 0) T.c_Frame T.me_Frame_fewest (cal_f (ok_Frame_fewest T) (arg_Frame_fewest T) (hr.mono (by decide)) hg tk T.F_Frame_fewest.kp)) fe_int (nomark _)) fa_nil)))) fs_nil) (fs_cons (fs_asg (fe_call (cal_f (ok_covers_of T) (arg_covers_of T) (hr.mono (by decide)) hg tk T.F_covers_of.kp) T.m_covers_of (fa_cons (fv 0) (fa_cons (fe_op op_dSub (fv 1) fe_int) fa_nil))) (fg_tup rfl (fgs_cons (fg_name sc.nd rfl (by first | exact Or.inl rfl | exact Or.inr rfl)) (fgs_cons (fg_name sc.nd rfl (by first | exact Or.inl rfl | exact Or.inr rfl)) fgs_nil)))) (fs_one (fs_ret (fe_op (op_dMul true) (fe_meth (fv 2) T.c_Cover T.me_Cover_number_of (cal_f (ok_Cover_number_of T) (arg_Cover_number_of T) (hr.mono (by decide)) hg tk T.F_Cover_number_of.kp) (fa_cons (fe_fld [1] T.a_wanted (fv 2)) (fa_cons (fe_op op_dSub (fv 1) fe_int) fa_nil))) (fe_meth (fv 3) T.c_Cover T.me_Cover_number_of (cal_f (ok_Cover_number_of T) (arg_Cover_number_of T) (hr.mono (by decide)) hg tk T.F_Cover_number_of.kp) (fa_cons (fe_fld [1] T.a_wanted (fv 3)) (fa_cons (fe_op op_dSub (fv 1) fe_int) fa_nil))))))))
theorem arg_count_ways (T : Txt K mg) : Arg K T.cm T.d_count_ways ["frame", "copies"] 2 [] (fun ds _ => ds) := arg_all T.F_count_ways rfl fun _ _ _ _ _ _ us hl => match us, hl with | [_, _], _ => rfl
theorem arg_count_ways_0_copies_frame (T : Txt K mg) : Arg K T.cm T.d_count_ways ["frame", "copies"] 0 ["copies", "frame"] (fun us ws => (us.take 0) ++ ((ws.drop 1).take 1) ++ ((ws.drop 0).take 1)) := arg_kw T.F_count_ways (fun us ws => (us.take 0) ++ ((ws.drop 1).take 1) ++ ((ws.drop 0).take 1)) (fun r rz => (papp (papp (ptake 0 r) (ptake 1 (pdrop 1 rz))) (ptake 1 (pdrop 0 rz)))) fun _ _ _ _ _ _ us ws l1 l2 => match us, l1, ws, l2 with | [], _, [_, _], _ => rfl
theorem sc_count_ways : FnScope ["frame", "copies"] ["frame", "copies"] (defScope s_count_ways) := ⟨rfl, rfl, rfl, by decide +kernel, rfl, by decide +kernel, by decide +kernel⟩
theorem ok_count_ways (T : Txt K mg) : FnB P w K mg base T.cm 6 T.f_count_ways T.d_count_ways ["frame", "copies"] F_count_ways := fn_body T.F_count_ways sc_count_ways fun cdv A outer s H E hr hg =>
  have sc := sc_count_ways
  have tk : Takes (cxOf (L2.CX P w) P w K mg base ["frame", "copies"] "count_ways" (defScope s_count_ways) T.f_count_ways cdv A outer s H E) (yOf E) := L2.takes_of rfl rfl rfl rfl
  (fs_cons (fs_expr (fe_call (cal_f (ok_need_copies T) (arg_need_copies T) (hr.mono (by decide)) hg tk T.F_need_copies.kp) T.m_need_copies (fa_cons (fv 1) fa_nil))) (fs_one (fs_ret (fe_call (cal_f (ok_number_with T) (arg_number_with T) (hr.mono (by decide)) hg tk T.F_number_with.kp) T.m_number_with (fa_cons (fv 0) (fa_cons (fv 1) fa_nil))))))
theorem arg_law_right (T : Txt K mg) : Arg K T.cm T.d_law_right ["_law_feed_here", "_law_six"] 2 [] (fun ds _ => ds) := arg_all T.F_law_right rfl fun _ _ _ _ _ _ us hl => match us, hl with | [_, _], _ => rfl
theorem sc_law_right : FnScope ["_law_feed_here", "_law_six", "_law_frame_here", "_law_some", "_law_copies_here", "_law_due"] ["_law_feed_here", "_law_six"] (defScope s_law_right) := ⟨rfl, rfl, rfl, by decide +kernel, rfl, by decide +kernel, by decide +kernel⟩
theorem st_law_right_0 (T : Txt K mg) {cdv : Value} {A : Around} {outer : List Env} {s : Shared} {H : Hp} {E : XK} (hr : Room 6 (cxOf (L2.CX P w) P w K mg base ["_law_feed_here", "_law_six", "_law_frame_here", "_law_some", "_law_copies_here", "_law_due"] "_law_right" (defScope s_law_right) T.f_law_right cdv A outer s H E).A) (hg : (cxOf (L2.CX P w) P w K mg base ["_law_feed_here", "_law_six", "_law_frame_here", "_law_some", "_law_copies_here", "_law_due"] "_law_right" (defScope s_law_right) T.f_law_right cdv A outer s H E).A.guards = some []) : FS (cxOf (L2.CX P w) P w K mg base ["_law_feed_here", "_law_six", "_law_frame_here", "_law_some", "_law_copies_here", "_law_due"] "_law_right" (defScope s_law_right) T.f_law_right cdv A outer s H E) T.cm (yOf E) ((defBody s_law_right).getD 0 (.Pass ⟨0, 0, 0, 0⟩)) b_law_right_0 :=
  have sc := sc_law_right
  have tk : Takes (cxOf (L2.CX P w) P w K mg base ["_law_feed_here", "_law_six", "_law_frame_here", "_law_some", "_law_copies_here", "_law_due"] "_law_right" (defScope s_law_right) T.f_law_right cdv A outer s H E) (yOf E) := L2.takes_of rfl rfl rfl rfl
  (fs_set sc.nd rfl (by first | exact Or.inl rfl | exact Or.inr rfl) (fe_call (cal_f (ok_law_frame T) (arg_law_frame T) (hr.mono (by decide)) hg tk T.F_law_frame.kp) T.m_law_frame (fa_cons (fv 1) fa_nil)))
theorem st_law_right_1 (T : Txt K mg) {cdv : Value} {A : Around} {outer : List Env} {s : Shared} {H : Hp} {E : XK} (hr : Room 6 (cxOf (L2.CX P w) P w K mg base ["_law_feed_here", "_law_six", "_law_frame_here", "_law_some", "_law_copies_here", "_law_due"] "_law_right" (defScope s_law_right) T.f_law_right cdv A outer s H E).A) (hg : (cxOf (L2.CX P w) P w K mg base ["_law_feed_here", "_law_six", "_law_frame_here", "_law_some", "_law_copies_here", "_law_due"] "_law_right" (defScope s_law_right) T.f_law_right cdv A outer s H E).A.guards = some []) : FS (cxOf (L2.CX P w) P w K mg base ["_law_feed_here", "_law_six", "_law_frame_here", "_law_some", "_law_copies_here", "_law_due"] "_law_right" (defScope s_law_right) T.f_law_right cdv A outer s H E) T.cm (yOf E) ((defBody s_law_right).getD 1 (.Pass ⟨0, 0, 0, 0⟩)) b_law_right_1 :=
  have sc := sc_law_right
  have tk : Takes (cxOf (L2.CX P w) P w K mg base ["_law_feed_here", "_law_six", "_law_frame_here", "_law_some", "_law_copies_here", "_law_due"] "_law_right" (defScope s_law_right) T.f_law_right cdv A outer s H E) (yOf E) := L2.takes_of rfl rfl rfl rfl
  (fs_set sc.nd rfl (by first | exact Or.inl rfl | exact Or.inr rfl) (fe_lst true (fa_cons fe_int (fa_cons fe_int (fa_cons fe_int (fa_cons fe_int (fa_cons fe_int (fa_cons fe_int (fa_cons (fe_call (cal_f (ok_law_pick T) (arg_law_pick T) (hr.mono (by decide)) hg tk T.F_law_pick.kp) T.m_law_pick (fa_cons (fv 0) (fa_cons fe_int fa_nil))) (fa_cons (fe_call (cal_f (ok_law_pick T) (arg_law_pick T) (hr.mono (by decide)) hg tk T.F_law_pick.kp) T.m_law_pick (fa_cons (fv 0) (fa_cons fe_int fa_nil))) (fa_cons (fe_meth0 (fv 2) T.c_Frame T.me_Frame_fewest (cal_f (ok_Frame_fewest T) (arg_Frame_fewest T) (hr.mono (by decide)) hg tk T.F_Frame_fewest.kp)) fa_nil)))))))))))
theorem st_law_right_2 (T : Txt K mg) {cdv : Value} {A : Around} {outer : List Env} {s : Shared} {H : Hp} {E : XK} (hr : Room 6 (cxOf (L2.CX P w) P w K mg base ["_law_feed_here", "_law_six", "_law_frame_here", "_law_some", "_law_copies_here", "_law_due"] "_law_right" (defScope s_law_right) T.f_law_right cdv A outer s H E).A) (hg : (cxOf (L2.CX P w) P w K mg base ["_law_feed_here", "_law_six", "_law_frame_here", "_law_some", "_law_copies_here", "_law_due"] "_law_right" (defScope s_law_right) T.f_law_right cdv A outer s H E).A.guards = some []) : FS (cxOf (L2.CX P w) P w K mg base ["_law_feed_here", "_law_six", "_law_frame_here", "_law_some", "_law_copies_here", "_law_due"] "_law_right" (defScope s_law_right) T.f_law_right cdv A outer s H E) T.cm (yOf E) ((defBody s_law_right).getD 2 (.Pass ⟨0, 0, 0, 0⟩)) b_law_right_2 :=
  have sc := sc_law_right
  have tk : Takes (cxOf (L2.CX P w) P w K mg base ["_law_feed_here", "_law_six", "_law_frame_here", "_law_some", "_law_copies_here", "_law_due"] "_law_right" (defScope s_law_right) T.f_law_right cdv A outer s H E) (yOf E) := L2.takes_of rfl rfl rfl rfl
  (fs_for (L2.passes_of rfl) rfl (fi_sq (fv 3)) (fg_name sc.nd rfl (by first | exact Or.inl rfl | exact Or.inr rfl)) (fs_cons (fs_set sc.nd rfl (by first | exact Or.inl rfl | exact Or.inr rfl) (fe_call (cal_f (ok_law_number T) (arg_law_number T) (hr.mono (by decide)) hg tk T.F_law_number.kp) T.m_law_number (fa_cons (fv 1) (fa_cons (fv 4) fa_nil)))) (fs_one (fs_if (ft_w (fw_or (ft_cmp (op_dNe hr.units) (fe_call (cal_f (ok_count_ways T) (arg_count_ways T) (hr.mono (by decide)) hg tk T.F_count_ways.kp) T.m_count_ways (fa_cons (fv 2) (fa_cons (fv 4) fa_nil))) (fv 5) (nomark _)) (fw_or1 (ft_cmp (op_dNe hr.units) (fe_cmp op_dGt (fv 5) fe_int (nomark _)) (fe_cmp op_dGe (fv 4) (fe_meth0 (fv 2) T.c_Frame T.me_Frame_fewest (cal_f (ok_Frame_fewest T) (arg_Frame_fewest T) (hr.mono (by decide)) hg tk T.F_Frame_fewest.kp)) (nomark _)) (nomark _))))) (fs_one (fs_ret fe_bl)) fs_nil))))
theorem st_law_right_3 (T : Txt K mg) {cdv : Value} {A : Around} {outer : List Env} {s : Shared} {H : Hp} {E : XK} (hr : Room 6 (cxOf (L2.CX P w) P w K mg base ["_law_feed_here", "_law_six", "_law_frame_here", "_law_some", "_law_copies_here", "_law_due"] "_law_right" (defScope s_law_right) T.f_law_right cdv A outer s H E).A) (hg : (cxOf (L2.CX P w) P w K mg base ["_law_feed_here", "_law_six", "_law_frame_here", "_law_some", "_law_copies_here", "_law_due"] "_law_right" (defScope s_law_right) T.f_law_right cdv A outer s H E).A.guards = some []) : FS (cxOf (L2.CX P w) P w K mg base ["_law_feed_here", "_law_six", "_law_frame_here", "_law_some", "_law_copies_here", "_law_due"] "_law_right" (defScope s_law_right) T.f_law_right cdv A outer s H E) T.cm (yOf E) ((defBody s_law_right).getD 3 (.Pass ⟨0, 0, 0, 0⟩)) b_law_right_3 :=
  have sc := sc_law_right
  have tk : Takes (cxOf (L2.CX P w) P w K mg base ["_law_feed_here", "_law_six", "_law_frame_here", "_law_some", "_law_copies_here", "_law_due"] "_law_right" (defScope s_law_right) T.f_law_right cdv A outer s H E) (yOf E) := L2.takes_of rfl rfl rfl rfl
  (fs_ret (fe_cmp (op_dEq hr.units) (fe_callK0 (ks := ["copies", "frame"]) (cal_f (ok_count_ways T) (arg_count_ways_0_copies_frame T) (hr.mono (by decide)) hg tk T.F_count_ways.kp) T.m_count_ways (fk_cons (fe_ix (fv 3) fe_int) (fk_cons (fv 2) fk_nil))) (fe_call (cal_f (ok_law_number T) (arg_law_number T) (hr.mono (by decide)) hg tk T.F_law_number.kp) T.m_law_number (fa_cons (fv 1) (fa_cons (fe_ix (fv 3) fe_int) fa_nil))) (nomark _)))
theorem ok_law_right (T : Txt K mg) : FnB P w K mg base T.cm 7 T.f_law_right T.d_law_right ["_law_feed_here", "_law_six"] F_law_right := fn_body T.F_law_right sc_law_right fun cdv A outer s H E hr hg =>
  have sc := sc_law_right
  have tk : Takes (cxOf (L2.CX P w) P w K mg base ["_law_feed_here", "_law_six", "_law_frame_here", "_law_some", "_law_copies_here", "_law_due"] "_law_right" (defScope s_law_right) T.f_law_right cdv A outer s H E) (yOf E) := L2.takes_of rfl rfl rfl rfl
  (fs_cons (st_law_right_0 T hr hg) (fs_cons (st_law_right_1 T hr hg) (fs_cons (st_law_right_2 T hr hg) (fs_one (st_law_right_3 T hr hg)))))
theorem arg_law_rect (T : Txt K mg) : Arg K T.cm T.d_law_rect ["_law_feed_here", "_law_most", "_law_great"] 3 [] (fun ds _ => ds) := arg_all T.F_law_rect rfl fun _ _ _ _ _ _ us hl => match us, hl with | [_, _, _], _ => rfl
theorem sc_law_rect : FnScope ["_law_feed_here", "_law_most", "_law_great", "_law_high", "_law_wide", "_law_top", "_law_left", "_law_ends_here", "_law_turn", "_law_size", "_law_low"] ["_law_feed_here", "_law_most", "_law_great"] (defScope s_law_rect) := ⟨rfl, rfl, rfl, by decide +kernel, rfl, by decide +kernel, by decide +kernel⟩
theorem st_law_rect_0 (T : Txt K mg) {cdv : Value} {A : Around} {outer : List Env} {s : Shared} {H : Hp} {E : XK} (hr : Room 1 (cxOf (L2.CX P w) P w K mg base ["_law_feed_here", "_law_most", "_law_great", "_law_high", "_law_wide", "_law_top", "_law_left", "_law_ends_here", "_law_turn", "_law_size", "_law_low"] "_law_rect" (defScope s_law_rect) T.f_law_rect cdv A outer s H E).A) (hg : (cxOf (L2.CX P w) P w K mg base ["_law_feed_here", "_law_most", "_law_great", "_law_high", "_law_wide", "_law_top", "_law_left", "_law_ends_here", "_law_turn", "_law_size", "_law_low"] "_law_rect" (defScope s_law_rect) T.f_law_rect cdv A outer s H E).A.guards = some []) : FS (cxOf (L2.CX P w) P w K mg base ["_law_feed_here", "_law_most", "_law_great", "_law_high", "_law_wide", "_law_top", "_law_left", "_law_ends_here", "_law_turn", "_law_size", "_law_low"] "_law_rect" (defScope s_law_rect) T.f_law_rect cdv A outer s H E) T.cm (yOf E) ((defBody s_law_rect).getD 0 (.Pass ⟨0, 0, 0, 0⟩)) b_law_rect_0 :=
  have sc := sc_law_rect
  have tk : Takes (cxOf (L2.CX P w) P w K mg base ["_law_feed_here", "_law_most", "_law_great", "_law_high", "_law_wide", "_law_top", "_law_left", "_law_ends_here", "_law_turn", "_law_size", "_law_low"] "_law_rect" (defScope s_law_rect) T.f_law_rect cdv A outer s H E) (yOf E) := L2.takes_of rfl rfl rfl rfl
  (fs_par rfl sc.nd rfl rfl (by decide) rfl rfl (fa_cons (fe_op (op_dAdd true) fe_int (fe_call (cal_f (ok_law_pick T) (arg_law_pick T) (hr.mono (by decide)) hg tk T.F_law_pick.kp) T.m_law_pick (fa_cons (fv 0) (fa_cons (fv 1) fa_nil)))) (fa_cons (fe_op (op_dAdd true) fe_int (fe_call (cal_f (ok_law_pick T) (arg_law_pick T) (hr.mono (by decide)) hg tk T.F_law_pick.kp) T.m_law_pick (fa_cons (fv 0) (fa_cons (fv 1) fa_nil)))) fa_nil)) (by rfl))
theorem st_law_rect_1 (T : Txt K mg) {cdv : Value} {A : Around} {outer : List Env} {s : Shared} {H : Hp} {E : XK} (hr : Room 1 (cxOf (L2.CX P w) P w K mg base ["_law_feed_here", "_law_most", "_law_great", "_law_high", "_law_wide", "_law_top", "_law_left", "_law_ends_here", "_law_turn", "_law_size", "_law_low"] "_law_rect" (defScope s_law_rect) T.f_law_rect cdv A outer s H E).A) (hg : (cxOf (L2.CX P w) P w K mg base ["_law_feed_here", "_law_most", "_law_great", "_law_high", "_law_wide", "_law_top", "_law_left", "_law_ends_here", "_law_turn", "_law_size", "_law_low"] "_law_rect" (defScope s_law_rect) T.f_law_rect cdv A outer s H E).A.guards = some []) : FS (cxOf (L2.CX P w) P w K mg base ["_law_feed_here", "_law_most", "_law_great", "_law_high", "_law_wide", "_law_top", "_law_left", "_law_ends_here", "_law_turn", "_law_size", "_law_low"] "_law_rect" (defScope s_law_rect) T.f_law_rect cdv A outer s H E) T.cm (yOf E) ((defBody s_law_rect).getD 1 (.Pass ⟨0, 0, 0, 0⟩)) b_law_rect_1 :=
  have sc := sc_law_rect
  have tk : Takes (cxOf (L2.CX P w) P w K mg base ["_law_feed_here", "_law_most", "_law_great", "_law_high", "_law_wide", "_law_top", "_law_left", "_law_ends_here", "_law_turn", "_law_size", "_law_low"] "_law_rect" (defScope s_law_rect) T.f_law_rect cdv A outer s H E) (yOf E) := L2.takes_of rfl rfl rfl rfl
  (fs_par rfl sc.nd rfl rfl (by decide) rfl rfl (fa_cons (fe_call (cal_f (ok_law_pick T) (arg_law_pick T) (hr.mono (by decide)) hg tk T.F_law_pick.kp) T.m_law_pick (fa_cons (fv 0) (fa_cons fe_int fa_nil))) (fa_cons (fe_call (cal_f (ok_law_pick T) (arg_law_pick T) (hr.mono (by decide)) hg tk T.F_law_pick.kp) T.m_law_pick (fa_cons (fv 0) (fa_cons fe_int fa_nil))) fa_nil)) (by rfl))
theorem st_law_rect_2 (T : Txt K mg) {cdv : Value} {A : Around} {outer : List Env} {s : Shared} {H : Hp} {E : XK} (hr : Room 1 (cxOf (L2.CX P w) P w K mg base ["_law_feed_here", "_law_most", "_law_great", "_law_high", "_law_wide", "_law_top", "_law_left", "_law_ends_here", "_law_turn", "_law_size", "_law_low"] "_law_rect" (defScope s_law_rect) T.f_law_rect cdv A outer s H E).A) (hg : (cxOf (L2.CX P w) P w K mg base ["_law_feed_here", "_law_most", "_law_great", "_law_high", "_law_wide", "_law_top", "_law_left", "_law_ends_here", "_law_turn", "_law_size", "_law_low"] "_law_rect" (defScope s_law_rect) T.f_law_rect cdv A outer s H E).A.guards = some []) : FS (cxOf (L2.CX P w) P w K mg base ["_law_feed_here", "_law_most", "_law_great", "_law_high", "_law_wide", "_law_top", "_law_left", "_law_ends_here", "_law_turn", "_law_size", "_law_low"] "_law_rect" (defScope s_law_rect) T.f_law_rect cdv A outer s H E) T.cm (yOf E) ((defBody s_law_rect).getD 2 (.Pass ⟨0, 0, 0, 0⟩)) b_law_rect_2 :=
  have sc := sc_law_rect
  have tk : Takes (cxOf (L2.CX P w) P w K mg base ["_law_feed_here", "_law_most", "_law_great", "_law_high", "_law_wide", "_law_top", "_law_left", "_law_ends_here", "_law_turn", "_law_size", "_law_low"] "_law_rect" (defScope s_law_rect) T.f_law_rect cdv A outer s H E) (yOf E) := L2.takes_of rfl rfl rfl rfl
  (fs_if (ft_truth (fv 2)) (fs_cons (fs_set sc.nd rfl (by first | exact Or.inl rfl | exact Or.inr rfl) (fe_ix (fe_lst true (fa_cons (fv 3) (fa_cons (fe_op (op_dAdd true) fe_int (fe_call (cal_f (ok_law_pick T) (arg_law_pick T) (hr.mono (by decide)) hg tk T.F_law_pick.kp) T.m_law_pick (fa_cons (fv 0) (fa_cons (fe_op op_dPow fe_int fe_int) fa_nil)))) fa_nil))) (fe_call (cal_f (ok_law_pick T) (arg_law_pick T) (hr.mono (by decide)) hg tk T.F_law_pick.kp) T.m_law_pick (fa_cons (fv 0) (fa_cons fe_int fa_nil))))) (fs_cons (fs_set sc.nd rfl (by first | exact Or.inl rfl | exact Or.inr rfl) (fe_ix (fe_lst true (fa_cons (fv 4) (fa_cons (fe_op (op_dAdd true) fe_int (fe_call (cal_f (ok_law_pick T) (arg_law_pick T) (hr.mono (by decide)) hg tk T.F_law_pick.kp) T.m_law_pick (fa_cons (fv 0) (fa_cons (fe_op op_dPow fe_int fe_int) fa_nil)))) fa_nil))) (fe_call (cal_f (ok_law_pick T) (arg_law_pick T) (hr.mono (by decide)) hg tk T.F_law_pick.kp) T.m_law_pick (fa_cons (fv 0) (fa_cons fe_int fa_nil))))) (fs_one (fs_par rfl sc.nd rfl rfl (by decide) rfl rfl (fa_cons (fe_call (cal_f (ok_law_pick T) (arg_law_pick T) (hr.mono (by decide)) hg tk T.F_law_pick.kp) T.m_law_pick (fa_cons (fv 0) (fa_cons (fe_op (op_dAdd true) (fe_op op_dSub (fe_op op_dPow fe_int fe_int) (fv 3)) fe_int) fa_nil))) (fa_cons (fe_ix (fe_lst true (fa_cons fe_int (fa_cons (fe_op op_dSub (fe_op op_dPow fe_int fe_int) (fv 4)) fa_nil))) (fe_call (cal_f (ok_law_pick T) (arg_law_pick T) (hr.mono (by decide)) hg tk T.F_law_pick.kp) T.m_law_pick (fa_cons (fv 0) (fa_cons fe_int fa_nil)))) fa_nil)) (by rfl))))) fs_nil)
theorem st_law_rect_4 (T : Txt K mg) {cdv : Value} {A : Around} {outer : List Env} {s : Shared} {H : Hp} {E : XK} (hr : Room 1 (cxOf (L2.CX P w) P w K mg base ["_law_feed_here", "_law_most", "_law_great", "_law_high", "_law_wide", "_law_top", "_law_left", "_law_ends_here", "_law_turn", "_law_size", "_law_low"] "_law_rect" (defScope s_law_rect) T.f_law_rect cdv A outer s H E).A) (hg : (cxOf (L2.CX P w) P w K mg base ["_law_feed_here", "_law_most", "_law_great", "_law_high", "_law_wide", "_law_top", "_law_left", "_law_ends_here", "_law_turn", "_law_size", "_law_low"] "_law_rect" (defScope s_law_rect) T.f_law_rect cdv A outer s H E).A.guards = some []) : FS (cxOf (L2.CX P w) P w K mg base ["_law_feed_here", "_law_most", "_law_great", "_law_high", "_law_wide", "_law_top", "_law_left", "_law_ends_here", "_law_turn", "_law_size", "_law_low"] "_law_rect" (defScope s_law_rect) T.f_law_rect cdv A outer s H E) T.cm (yOf E) ((defBody s_law_rect).getD 4 (.Pass ⟨0, 0, 0, 0⟩)) b_law_rect_4 :=
  have sc := sc_law_rect
  have tk : Takes (cxOf (L2.CX P w) P w K mg base ["_law_feed_here", "_law_most", "_law_great", "_law_high", "_law_wide", "_law_top", "_law_left", "_law_ends_here", "_law_turn", "_law_size", "_law_low"] "_law_rect" (defScope s_law_rect) T.f_law_rect cdv A outer s H E) (yOf E) := L2.takes_of rfl rfl rfl rfl
  (fs_for (L2.passes_of rfl) rfl (fi_range1 T.n_range (fa_cons fe_int fa_nil)) (fg_name sc.nd rfl (by first | exact Or.inl rfl | exact Or.inr rfl)) (fs_cons (fs_par rfl sc.nd rfl rfl (by decide) rfl rfl (fa_cons (fe_ix (fe_lst true (fa_cons (fv 3) (fa_cons (fv 4) fa_nil))) (fe_op op_dMod (fv 8) fe_int)) (fa_cons (fe_ix (fe_lst true (fa_cons (fv 5) (fa_cons (fv 6) fa_nil))) (fe_op op_dMod (fv 8) fe_int)) fa_nil)) (by rfl)) (fs_one (fs_expr (fe_lm PySem.F.slot_list_append PySem.F.type_list_append mt_dAppend (fv 7) (fa_cons (fe_op (op_dAdd true) (fv 10) (fe_ix (fe_lst true (fa_cons fe_int (fa_cons (fe_op op_dSub (fv 9) fe_int) (fa_cons (fe_call (cal_f (ok_law_pick T) (arg_law_pick T) (hr.mono (by decide)) hg tk T.F_law_pick.kp) T.m_law_pick (fa_cons (fv 0) (fa_cons (fv 9) fa_nil))) fa_nil)))) (fe_call (cal_f (ok_law_pick T) (arg_law_pick T) (hr.mono (by decide)) hg tk T.F_law_pick.kp) T.m_law_pick (fa_cons (fv 0) (fa_cons fe_int fa_nil))))) fa_nil))))))
theorem st_law_rect_5 (T : Txt K mg) {cdv : Value} {A : Around} {outer : List Env} {s : Shared} {H : Hp} {E : XK} (hr : Room 1 (cxOf (L2.CX P w) P w K mg base ["_law_feed_here", "_law_most", "_law_great", "_law_high", "_law_wide", "_law_top", "_law_left", "_law_ends_here", "_law_turn", "_law_size", "_law_low"] "_law_rect" (defScope s_law_rect) T.f_law_rect cdv A outer s H E).A) (hg : (cxOf (L2.CX P w) P w K mg base ["_law_feed_here", "_law_most", "_law_great", "_law_high", "_law_wide", "_law_top", "_law_left", "_law_ends_here", "_law_turn", "_law_size", "_law_low"] "_law_rect" (defScope s_law_rect) T.f_law_rect cdv A outer s H E).A.guards = some []) : FS (cxOf (L2.CX P w) P w K mg base ["_law_feed_here", "_law_most", "_law_great", "_law_high", "_law_wide", "_law_top", "_law_left", "_law_ends_here", "_law_turn", "_law_size", "_law_low"] "_law_rect" (defScope s_law_rect) T.f_law_rect cdv A outer s H E) T.cm (yOf E) ((defBody s_law_rect).getD 5 (.Pass ⟨0, 0, 0, 0⟩)) b_law_rect_5 :=
  have sc := sc_law_rect
  have tk : Takes (cxOf (L2.CX P w) P w K mg base ["_law_feed_here", "_law_most", "_law_great", "_law_high", "_law_wide", "_law_top", "_law_left", "_law_ends_here", "_law_turn", "_law_size", "_law_low"] "_law_rect" (defScope s_law_rect) T.f_law_rect cdv A outer s H E) (yOf E) := L2.takes_of rfl rfl rfl rfl
  (fs_if (ft_cmp (op_dEq hr.units) (fe_call (cal_f (ok_law_pick T) (arg_law_pick T) (hr.mono (by decide)) hg tk T.F_law_pick.kp) T.m_law_pick (fa_cons (fv 0) (fa_cons fe_int fa_nil))) fe_int (nomark _)) (fs_one (fs_set sc.nd rfl (by first | exact Or.inl rfl | exact Or.inr rfl) (fe_op (op_dMul false) (fe_slice true (fv 7) fo_none (fo_some fe_int)) fe_int))) fs_nil)
theorem st_law_rect_6 (T : Txt K mg) {cdv : Value} {A : Around} {outer : List Env} {s : Shared} {H : Hp} {E : XK} (hr : Room 1 (cxOf (L2.CX P w) P w K mg base ["_law_feed_here", "_law_most", "_law_great", "_law_high", "_law_wide", "_law_top", "_law_left", "_law_ends_here", "_law_turn", "_law_size", "_law_low"] "_law_rect" (defScope s_law_rect) T.f_law_rect cdv A outer s H E).A) (hg : (cxOf (L2.CX P w) P w K mg base ["_law_feed_here", "_law_most", "_law_great", "_law_high", "_law_wide", "_law_top", "_law_left", "_law_ends_here", "_law_turn", "_law_size", "_law_low"] "_law_rect" (defScope s_law_rect) T.f_law_rect cdv A outer s H E).A.guards = some []) : FS (cxOf (L2.CX P w) P w K mg base ["_law_feed_here", "_law_most", "_law_great", "_law_high", "_law_wide", "_law_top", "_law_left", "_law_ends_here", "_law_turn", "_law_size", "_law_low"] "_law_rect" (defScope s_law_rect) T.f_law_rect cdv A outer s H E) T.cm (yOf E) ((defBody s_law_rect).getD 6 (.Pass ⟨0, 0, 0, 0⟩)) b_law_rect_6 :=
  have sc := sc_law_rect
  have tk : Takes (cxOf (L2.CX P w) P w K mg base ["_law_feed_here", "_law_most", "_law_great", "_law_high", "_law_wide", "_law_top", "_law_left", "_law_ends_here", "_law_turn", "_law_size", "_law_low"] "_law_rect" (defScope s_law_rect) T.f_law_rect cdv A outer s H E) (yOf E) := L2.takes_of rfl rfl rfl rfl
  (fs_ret (fe_tup (fa_cons (fe_tup (fa_cons (fe_ix (fv 7) fe_int) (fa_cons (fe_ix (fv 7) fe_int) fa_nil))) (fa_cons (fe_tup (fa_cons (fe_ix (fv 7) fe_int) (fa_cons (fe_ix (fv 7) fe_int) fa_nil))) (fa_cons (fv 5) (fa_cons (fe_op op_dSub (fe_op (op_dAdd true) (fv 5) (fv 3)) fe_int) (fa_cons (fv 6) (fa_cons (fe_op op_dSub (fe_op (op_dAdd true) (fv 6) (fv 4)) fe_int) fa_nil))))))))
theorem ok_law_rect (T : Txt K mg) : FnB P w K mg base T.cm 2 T.f_law_rect T.d_law_rect ["_law_feed_here", "_law_most", "_law_great"] F_law_rect := fn_body T.F_law_rect sc_law_rect fun cdv A outer s H E hr hg =>
  have sc := sc_law_rect
  have tk : Takes (cxOf (L2.CX P w) P w K mg base ["_law_feed_here", "_law_most", "_law_great", "_law_high", "_law_wide", "_law_top", "_law_left", "_law_ends_here", "_law_turn", "_law_size", "_law_low"] "_law_rect" (defScope s_law_rect) T.f_law_rect cdv A outer s H E) (yOf E) := L2.takes_of rfl rfl rfl rfl
  (fs_cons (st_law_rect_0 T hr hg) (fs_cons (st_law_rect_1 T hr hg) (fs_cons (st_law_rect_2 T hr hg) (fs_cons (fs_set sc.nd rfl (by first | exact Or.inl rfl | exact Or.inr rfl) (fe_lst false fa_nil)) (fs_cons (st_law_rect_4 T hr hg) (fs_frz 7 (fs_cons (st_law_rect_5 T hr hg) (fs_one (st_law_rect_6 T hr hg)))))))))
theorem sc_law : FnScope ["_law_script", "_law_k", "_law_feed_here", "_law_great", "_law_frame_here", "_law_many"] ["_law_script"] (defScope s_law) := ⟨rfl, rfl, rfl, by decide +kernel, rfl, by decide +kernel, by decide +kernel⟩
theorem ok_law (T : Txt K mg) : FnB P w K mg base T.cm 8 T.f_law T.d_law ["_law_script"] F_law := fn_body T.F_law sc_law fun cdv A outer s H E hr hg =>
  have sc := sc_law
  have tk : Takes (cxOf (L2.CX P w) P w K mg base ["_law_script", "_law_k", "_law_feed_here", "_law_great", "_law_frame_here", "_law_many"] "law" (defScope s_law) T.f_law cdv A outer s H E) (yOf E) := L2.takes_of rfl rfl rfl rfl
  (fs_cons (fs_for (L2.passes_of rfl) rfl (fi_range1 T.n_range (fa_cons (fe_callB (call_dMax rfl) T.n_max (by decide +kernel) (fa_cons fe_int (fa_cons (fe_callB (call_dMin rfl) T.n_min (by decide +kernel) (fa_cons fe_int (fa_cons (fe_callB (call_dLen) T.n_len (by decide +kernel) (fa_cons (fv 0) fa_nil)) fa_nil))) fa_nil))) fa_nil)) (fg_name sc.nd rfl (by first | exact Or.inl rfl | exact Or.inr rfl)) (fs_cons (fs_set sc.nd rfl (by first | exact Or.inl rfl | exact Or.inr rfl) (fe_call (cal_f (ok_law_feed T) (arg_law_feed T) (hr.mono (by decide)) hg tk T.F_law_feed.kp) T.m_law_feed (fa_cons (fv 0) (fa_cons (fv 1) fa_nil)))) (fs_one (fs_for (L2.passes_of rfl) rfl (fi_sq (fe_lst true (fa_cons fe_bl (fa_cons fe_bl (fa_cons fe_bl fa_nil))))) (fg_name sc.nd rfl (by first | exact Or.inl rfl | exact Or.inr rfl)) (fs_one (fs_if (ft_not (ft_truth (fe_call (cal_f (ok_law_right T) (arg_law_right T) (hr.mono (by decide)) hg tk T.F_law_right.kp) T.m_law_right (fa_cons (fv 2) (fa_cons (fe_call (cal_f (ok_law_rect T) (arg_law_rect T) (hr.mono (by decide)) hg tk T.F_law_rect.kp) T.m_law_rect (fa_cons (fv 2) (fa_cons (fe_ix (fe_lst true (fa_cons fe_int (fa_cons fe_int fa_nil))) (fe_call (cal_f (ok_law_pick T) (arg_law_pick T) (hr.mono (by decide)) hg tk T.F_law_pick.kp) T.m_law_pick (fa_cons (fv 2) (fa_cons fe_int fa_nil)))) (fa_cons (fv 3) fa_nil)))) fa_nil))))) (fs_one (fs_ret fe_bl)) fs_nil)))))) (fs_cons (fs_set sc.nd rfl (by first | exact Or.inl rfl | exact Or.inr rfl) (fe_call (cal_mk true T.mk_Frame (ok_Frame___init T) (arg_Frame___init T) (hr.mono (by decide)) hg tk) T.g_Frame (fa_cons (fe_tup (fa_cons fe_int (fa_cons fe_int fa_nil))) (fa_cons (fe_tup (fa_cons fe_int (fa_cons fe_int fa_nil))) (fa_cons fe_int (fa_cons fe_int (fa_cons fe_int (fa_cons fe_int fa_nil)))))))) (fs_one (fs_ret (fe_cmp (op_dEq hr.units) (fe_lc (own := [("_law_many", 5)]) true rfl sc.nd (fi_sq (fe_tup (fa_cons fe_int (fa_cons fe_int (fa_cons fe_int fa_nil))))) (blk_of (N := ["_law_script", "_law_k", "_law_feed_here", "_law_great", "_law_frame_here", "_law_many"]) (sc := defScope s_law) rfl rfl (by decide +kernel)) (fun _ _ _ _ _ => (fg_name sc.nd rfl (by first | exact Or.inl rfl | exact Or.inr rfl))) (fun _ _ _ _ _ => fts_nil) (fun _ _ _ _ _ => (fe_call (cal_f (ok_count_ways T) (arg_count_ways T) (by exact hr.mono (by decide)) (by exact hg) tkNo T.F_count_ways.kp) T.m_count_ways (fa_cons (fv 4) (fa_cons (fv 5) fa_nil)))) (by decide)) (fe_lst true (fa_cons fe_int (fa_cons fe_int (fa_cons fe_int fa_nil)))) (nomark _))))))
end
theorem all_mk {l : PySem.W.OpenLaw} {w : World} {K : PySem.W.Frag} {h : Heap} {mg : Str → Option Value} {fa C_Frame C_Cover f_law_feed f_is_place f_is_cell f_need_cell f_need_range f_Frame___init f_law_frame f_law_pick f_missing_ends f_Frame_missing_rows f_Frame_missing_columns f_Frame_fewest f_law_ends f_law_lists f_law_number f_need_copies f_powers_of f_Cover___init f_Frame_top q_Frame_top f_Frame_bottom q_Frame_bottom f_Frame_left q_Frame_left f_Frame_right q_Frame_right f_covers_of f_Cover_number_of f_number_with f_count_ways f_law_right f_law_rect f_law : Addr} (X : K.In h) (G : h.Ns mainGlobals mg) (hfa : mg "law" = some (.ref fa))
  {d_law_feed d_is_place d_is_cell d_need_cell d_need_range d_Frame___init d_law_frame d_law_pick d_missing_ends d_Frame_missing_rows d_Frame_missing_columns d_Frame_fewest d_law_ends d_law_lists d_law_number d_need_copies d_powers_of d_Cover___init d_Frame_top d_Frame_bottom d_Frame_left d_Frame_right d_covers_of d_Cover_number_of d_number_with d_count_ways d_law_right d_law_rect d_law : FuncData}
  {r_Frame_top r_Frame_bottom r_Frame_left r_Frame_right : List Value}
  {tk_LIMIT tk_MOST_COPIES : Tok}
  (hC_Frame : PySem.W.nsIn K mainGlobals "Frame" = some (some (.ref C_Frame)))
  (hC_Cover : PySem.W.nsIn K mainGlobals "Cover" = some (some (.ref C_Cover)))
  (hf_law_feed : PySem.W.nsIn K mainGlobals "_law_feed" = some (some (.ref f_law_feed)))
  (hF_law_feed : FunD K "_law_feed" "_law_feed" (defArgs s_law_feed) (defBody s_law_feed) (defScope s_law_feed) [] [] f_law_feed d_law_feed)
  (hf_is_place : PySem.W.nsIn K mainGlobals "is_place" = some (some (.ref f_is_place)))
  (hF_is_place : FunD K "is_place" "is_place" (defArgs s_is_place) (defBody s_is_place) (defScope s_is_place) [] [] f_is_place d_is_place)
  (hf_is_cell : PySem.W.nsIn K mainGlobals "is_cell" = some (some (.ref f_is_cell)))
  (hF_is_cell : FunD K "is_cell" "is_cell" (defArgs s_is_cell) (defBody s_is_cell) (defScope s_is_cell) [] [] f_is_cell d_is_cell)
  (hf_need_cell : PySem.W.nsIn K mainGlobals "need_cell" = some (some (.ref f_need_cell)))
  (hF_need_cell : FunD K "need_cell" "need_cell" (defArgs s_need_cell) (defBody s_need_cell) (defScope s_need_cell) [] [] f_need_cell d_need_cell)
  (hf_need_range : PySem.W.nsIn K mainGlobals "need_range" = some (some (.ref f_need_range)))
  (hF_need_range : FunD K "need_range" "need_range" (defArgs s_need_range) (defBody s_need_range) (defScope s_need_range) [] [] f_need_range d_need_range)
  (hf_Frame___init : PySem.W.findIn K (.ref C_Frame) "__init__" = some (some (.ref f_Frame___init)))
  (hF_Frame___init : FunD K "__init__" "Frame.__init__" (defArgs s_Frame___init) (defBody s_Frame___init) (defScope s_Frame___init) [] [] f_Frame___init d_Frame___init)
  (hf_law_frame : PySem.W.nsIn K mainGlobals "_law_frame" = some (some (.ref f_law_frame)))
  (hF_law_frame : FunD K "_law_frame" "_law_frame" (defArgs s_law_frame) (defBody s_law_frame) (defScope s_law_frame) [] [] f_law_frame d_law_frame)
  (hf_law_pick : PySem.W.nsIn K mainGlobals "_law_pick" = some (some (.ref f_law_pick)))
  (hF_law_pick : FunD K "_law_pick" "_law_pick" (defArgs s_law_pick) (defBody s_law_pick) (defScope s_law_pick) [] [] f_law_pick d_law_pick)
  (hf_missing_ends : PySem.W.nsIn K mainGlobals "missing_ends" = some (some (.ref f_missing_ends)))
  (hF_missing_ends : FunD K "missing_ends" "missing_ends" (defArgs s_missing_ends) (defBody s_missing_ends) (defScope s_missing_ends) [] [] f_missing_ends d_missing_ends)
  (hf_Frame_missing_rows : PySem.W.findIn K (.ref C_Frame) "missing_rows" = some (some (.ref f_Frame_missing_rows)))
  (hF_Frame_missing_rows : FunD K "missing_rows" "Frame.missing_rows" (defArgs s_Frame_missing_rows) (defBody s_Frame_missing_rows) (defScope s_Frame_missing_rows) [] [] f_Frame_missing_rows d_Frame_missing_rows)
  (hf_Frame_missing_columns : PySem.W.findIn K (.ref C_Frame) "missing_columns" = some (some (.ref f_Frame_missing_columns)))
  (hF_Frame_missing_columns : FunD K "missing_columns" "Frame.missing_columns" (defArgs s_Frame_missing_columns) (defBody s_Frame_missing_columns) (defScope s_Frame_missing_columns) [] [] f_Frame_missing_columns d_Frame_missing_columns)
  (hf_Frame_fewest : PySem.W.findIn K (.ref C_Frame) "fewest" = some (some (.ref f_Frame_fewest)))
  (hF_Frame_fewest : FunD K "fewest" "Frame.fewest" (defArgs s_Frame_fewest) (defBody s_Frame_fewest) (defScope s_Frame_fewest) [] [] f_Frame_fewest d_Frame_fewest)
  (hf_law_ends : PySem.W.nsIn K mainGlobals "_law_ends" = some (some (.ref f_law_ends)))
  (hF_law_ends : FunD K "_law_ends" "_law_ends" (defArgs s_law_ends) (defBody s_law_ends) (defScope s_law_ends) [] [] f_law_ends d_law_ends)
  (hf_law_lists : PySem.W.nsIn K mainGlobals "_law_lists" = some (some (.ref f_law_lists)))
  (hF_law_lists : FunD K "_law_lists" "_law_lists" (defArgs s_law_lists) (defBody s_law_lists) (defScope s_law_lists) [] [] f_law_lists d_law_lists)
  (hf_law_number : PySem.W.nsIn K mainGlobals "_law_number" = some (some (.ref f_law_number)))
  (hF_law_number : FunD K "_law_number" "_law_number" (defArgs s_law_number) (defBody s_law_number) (defScope s_law_number) [] [] f_law_number d_law_number)
  (hf_need_copies : PySem.W.nsIn K mainGlobals "need_copies" = some (some (.ref f_need_copies)))
  (hF_need_copies : FunD K "need_copies" "need_copies" (defArgs s_need_copies) (defBody s_need_copies) (defScope s_need_copies) [] [] f_need_copies d_need_copies)
  (hf_powers_of : PySem.W.nsIn K mainGlobals "powers_of" = some (some (.ref f_powers_of)))
  (hF_powers_of : FunD K "powers_of" "powers_of" (defArgs s_powers_of) (defBody s_powers_of) (defScope s_powers_of) [] [] f_powers_of d_powers_of)
  (hf_Cover___init : PySem.W.findIn K (.ref C_Cover) "__init__" = some (some (.ref f_Cover___init)))
  (hF_Cover___init : FunD K "__init__" "Cover.__init__" (defArgs s_Cover___init) (defBody s_Cover___init) (defScope s_Cover___init) [] [] f_Cover___init d_Cover___init)
  (hq1_Frame_top : PySem.W.findIn K (.ref C_Frame) "top" = some (some (.ref q_Frame_top)))
  (hq2_Frame_top : PySem.W.specialIn K (.ref q_Frame_top) "__get__" = some (some (.builtin "property.__get__")))
  (hq3_Frame_top : PySem.W.takesIn K (.ref q_Frame_top) = some true)
  (hq4_Frame_top : PySem.W.recIn K q_Frame_top "property" = some (.ref f_Frame_top :: r_Frame_top))
  (hF_Frame_top : FunD K "top" "Frame.top" (defArgs s_Frame_top) (defBody s_Frame_top) (defScope s_Frame_top) [] [] f_Frame_top d_Frame_top)
  (hq1_Frame_bottom : PySem.W.findIn K (.ref C_Frame) "bottom" = some (some (.ref q_Frame_bottom)))
  (hq2_Frame_bottom : PySem.W.specialIn K (.ref q_Frame_bottom) "__get__" = some (some (.builtin "property.__get__")))
  (hq3_Frame_bottom : PySem.W.takesIn K (.ref q_Frame_bottom) = some true)
  (hq4_Frame_bottom : PySem.W.recIn K q_Frame_bottom "property" = some (.ref f_Frame_bottom :: r_Frame_bottom))
  (hF_Frame_bottom : FunD K "bottom" "Frame.bottom" (defArgs s_Frame_bottom) (defBody s_Frame_bottom) (defScope s_Frame_bottom) [] [] f_Frame_bottom d_Frame_bottom)
  (hq1_Frame_left : PySem.W.findIn K (.ref C_Frame) "left" = some (some (.ref q_Frame_left)))
  (hq2_Frame_left : PySem.W.specialIn K (.ref q_Frame_left) "__get__" = some (some (.builtin "property.__get__")))
  (hq3_Frame_left : PySem.W.takesIn K (.ref q_Frame_left) = some true)
  (hq4_Frame_left : PySem.W.recIn K q_Frame_left "property" = some (.ref f_Frame_left :: r_Frame_left))
  (hF_Frame_left : FunD K "left" "Frame.left" (defArgs s_Frame_left) (defBody s_Frame_left) (defScope s_Frame_left) [] [] f_Frame_left d_Frame_left)
  (hq1_Frame_right : PySem.W.findIn K (.ref C_Frame) "right" = some (some (.ref q_Frame_right)))
  (hq2_Frame_right : PySem.W.specialIn K (.ref q_Frame_right) "__get__" = some (some (.builtin "property.__get__")))
  (hq3_Frame_right : PySem.W.takesIn K (.ref q_Frame_right) = some true)
  (hq4_Frame_right : PySem.W.recIn K q_Frame_right "property" = some (.ref f_Frame_right :: r_Frame_right))
  (hF_Frame_right : FunD K "right" "Frame.right" (defArgs s_Frame_right) (defBody s_Frame_right) (defScope s_Frame_right) [] [] f_Frame_right d_Frame_right)
  (hf_covers_of : PySem.W.nsIn K mainGlobals "covers_of" = some (some (.ref f_covers_of)))
  (hF_covers_of : FunD K "covers_of" "covers_of" (defArgs s_covers_of) (defBody s_covers_of) (defScope s_covers_of) [] [] f_covers_of d_covers_of)
  (hf_Cover_number_of : PySem.W.findIn K (.ref C_Cover) "number_of" = some (some (.ref f_Cover_number_of)))
  (hF_Cover_number_of : FunD K "number_of" "Cover.number_of" (defArgs s_Cover_number_of) (defBody s_Cover_number_of) (defScope s_Cover_number_of) [] [] f_Cover_number_of d_Cover_number_of)
  (hf_number_with : PySem.W.nsIn K mainGlobals "number_with" = some (some (.ref f_number_with)))
  (hF_number_with : FunD K "number_with" "number_with" (defArgs s_number_with) (defBody s_number_with) (defScope s_number_with) [] [] f_number_with d_number_with)
  (hf_count_ways : PySem.W.nsIn K mainGlobals "count_ways" = some (some (.ref f_count_ways)))
  (hF_count_ways : FunD K "count_ways" "count_ways" (defArgs s_count_ways) (defBody s_count_ways) (defScope s_count_ways) [] [] f_count_ways d_count_ways)
  (hf_law_right : PySem.W.nsIn K mainGlobals "_law_right" = some (some (.ref f_law_right)))
  (hF_law_right : FunD K "_law_right" "_law_right" (defArgs s_law_right) (defBody s_law_right) (defScope s_law_right) [] [] f_law_right d_law_right)
  (hf_law_rect : PySem.W.nsIn K mainGlobals "_law_rect" = some (some (.ref f_law_rect)))
  (hF_law_rect : FunD K "_law_rect" "_law_rect" (defArgs s_law_rect) (defBody s_law_rect) (defScope s_law_rect) [] [] f_law_rect d_law_rect)
  (hf_law : PySem.W.nsIn K mainGlobals "law" = some (some (.ref f_law)))
  (hF_law : FunD K "law" "law" (defArgs s_law) (defBody s_law) (defScope s_law) [] [] f_law d_law)
  (hn_range : PySem.W.nsIn K mainGlobals "range" = some none)
  (hn_max : PySem.W.nsIn K mainGlobals "max" = some none)
  (hn_min : PySem.W.nsIn K mainGlobals "min" = some none)
  (hn_len : PySem.W.nsIn K mainGlobals "len" = some none)
  (hn_abs : PySem.W.nsIn K mainGlobals "abs" = some none)
  (hma_Frame : PySem.W.makesIn K C_Frame = true)
  (hmi_Frame : PySem.W.isFn K (.ref f_Frame___init) = true)
  (hmk_Frame : PySem.W.keepIn K (.ref C_Frame) = true)
  (hn_isinstance : PySem.W.nsIn K mainGlobals "isinstance" = some none)
  (hn_tuple : PySem.W.nsIn K mainGlobals "tuple" = some none)
  (hn_int : PySem.W.nsIn K mainGlobals "int" = some none)
  (hn_bool : PySem.W.nsIn K mainGlobals "bool" = some none)
  (hg_LIMIT : PySem.W.nsIn K mainGlobals "LIMIT" = some (some (.int 1000000000000000000000000000000 tk_LIMIT)))
  (hn_all : PySem.W.nsIn K mainGlobals "all" = some none)
  (hi_Frame_fewest : PySem.W.isFn K (.ref f_Frame_fewest) = true)
  (hi_Frame_missing_rows : PySem.W.isFn K (.ref f_Frame_missing_rows) = true)
  (hi_Frame_missing_columns : PySem.W.isFn K (.ref f_Frame_missing_columns) = true)
  (hn_sorted : PySem.W.nsIn K mainGlobals "sorted" = some none)
  (hn_set : PySem.W.nsIn K mainGlobals "set" = some none)
  (hn_enumerate : PySem.W.nsIn K mainGlobals "enumerate" = some none)
  (hg_MOST_COPIES : PySem.W.nsIn K mainGlobals "MOST_COPIES" = some (some (.int 299 tk_MOST_COPIES)))
  (hma_Cover : PySem.W.makesIn K C_Cover = true)
  (hmi_Cover : PySem.W.isFn K (.ref f_Cover___init) = true)
  (hmk_Cover : PySem.W.keepIn K (.ref C_Cover) = true)
  (hi_Cover_number_of : PySem.W.isFn K (.ref f_Cover_number_of) = true)
  (ha_Frame_begin : PySem.W.findIn K (.ref C_Frame) "begin" = some none)
  (ha_Frame_end : PySem.W.findIn K (.ref C_Frame) "end" = some none)
  (ha_Frame_row_range : PySem.W.findIn K (.ref C_Frame) "row_range" = some none)
  (ha_Frame_column_range : PySem.W.findIn K (.ref C_Frame) "column_range" = some none)
  (ha_Cover_low : PySem.W.findIn K (.ref C_Cover) "low" = some none)
  (ha_Cover_high : PySem.W.findIn K (.ref C_Cover) "high" = some none)
  (ha_Cover_wanted : PySem.W.findIn K (.ref C_Cover) "wanted" = some none)
  (ha_Cover_tables : PySem.W.findIn K (.ref C_Cover) "tables" = some none)
  (hi1 : PySem.W.specialIn K (.builtin "object.__class__") "__get__" = some (some (.builtin "getset_descriptor.__get__")))
  (hi2 : PySem.W.takesIn K (.builtin "object.__class__") = some true)
  (hi3_Frame : PySem.W.findIn K (.ref C_Frame) "__class__" = some (some (.builtin "object.__class__")))
  (hi4_Frame : PySem.W.mroIn K C_Frame (.type "object") = some true)
  (hi3_Cover : PySem.W.findIn K (.ref C_Cover) "__class__" = some (some (.builtin "object.__class__")))
  (hi4_Cover : PySem.W.mroIn K C_Cover (.type "object") = some true)
  (hx_0 : PySem.W.subIn K (.type "NoneType") (.type "int") = some false)
  (hx_1 : PySem.W.subIn K (.type "NoneType") (.type "bool") = some false)
  (hx_2 : PySem.W.subIn K (.type "NoneType") (.type "tuple") = some false)
  (hx_3 : PySem.W.subIn K (.type "bool") (.type "int") = some true)
  (hx_4 : PySem.W.subIn K (.type "bool") (.type "bool") = some true)
  (hx_5 : PySem.W.subIn K (.type "bool") (.type "tuple") = some false)
  (hx_6 : PySem.W.subIn K (.type "int") (.type "int") = some true)
  (hx_7 : PySem.W.subIn K (.type "int") (.type "bool") = some false)
  (hx_8 : PySem.W.subIn K (.type "int") (.type "tuple") = some false)
  (hx_9 : PySem.W.subIn K (.type "str") (.type "int") = some false)
  (hx_10 : PySem.W.subIn K (.type "str") (.type "bool") = some false)
  (hx_11 : PySem.W.subIn K (.type "str") (.type "tuple") = some false)
  (hx_12 : PySem.W.subIn K (.type "tuple") (.type "int") = some false)
  (hx_13 : PySem.W.subIn K (.type "tuple") (.type "bool") = some false)
  (hx_14 : PySem.W.subIn K (.type "tuple") (.type "tuple") = some true)
  (hx_15 : PySem.W.subIn K (.type "list") (.type "int") = some false)
  (hx_16 : PySem.W.subIn K (.type "list") (.type "bool") = some false)
  (hx_17 : PySem.W.subIn K (.type "list") (.type "tuple") = some false)
  (hx_18 : PySem.W.subIn K (.type "dict") (.type "int") = some false)
  (hx_19 : PySem.W.subIn K (.type "dict") (.type "bool") = some false)
  (hx_20 : PySem.W.subIn K (.type "dict") (.type "tuple") = some false)
  (hx_21 : PySem.W.subIn K (.ref C_Frame) (.type "int") = some false)
  (hx_22 : PySem.W.subIn K (.ref C_Frame) (.type "bool") = some false)
  (hx_23 : PySem.W.subIn K (.ref C_Frame) (.type "tuple") = some false)
  (hx_24 : PySem.W.subIn K (.ref C_Cover) (.type "int") = some false)
  (hx_25 : PySem.W.subIn K (.ref C_Cover) (.type "bool") = some false)
  (hx_26 : PySem.W.subIn K (.ref C_Cover) (.type "tuple") = some false)
  (hk1_Frame : PySem.W.plainGet K C_Frame Str.empty = true)
  (hk2_Frame : PySem.W.hasDictIn K C_Frame = true)
  (hk3_Frame : PySem.W.plainOver K C_Frame = true)
  (hk4_Frame : PySem.W.findIn K (.ref C_Frame) "__setattr__" = some (some (.builtin "object.__setattr__")))
  (hk1_Cover : PySem.W.plainGet K C_Cover Str.empty = true)
  (hk2_Cover : PySem.W.hasDictIn K C_Cover = true)
  (hk3_Cover : PySem.W.plainOver K C_Cover = true)
  (hk4_Cover : PySem.W.findIn K (.ref C_Cover) "__setattr__" = some (some (.builtin "object.__setattr__")))
  : ∃ (cm : Nat → Addr) (fd : FuncData), (∀ (s : Shared) (u : Value), BindsTo s fd ⟨[u], []⟩ [("_law_script", u)]) ∧ ∀ base : Heap, K.In base → base.Ns mainGlobals mg → FnB l.prog w K mg base cm 8 fa fd ["_law_script"] F_law := by
  have e := hfa.symm.trans (PySem.W.mg_of X G hf_law)
  cases e
  have k_Frame : Cls K C_Frame := ⟨hk1_Frame, hk2_Frame, hk3_Frame, hk4_Frame⟩
  have k_Cover : Cls K C_Cover := ⟨hk1_Cover, hk2_Cover, hk3_Cover, hk4_Cover⟩
  let T : Txt K mg := {
    cm := (fun c => ([C_Frame, C_Cover, fa, fa, fa, fa] : List Addr).getD c fa)
    f_law_feed := f_law_feed
    d_law_feed := d_law_feed
    F_law_feed := hF_law_feed
    m_law_feed := PySem.W.mg_of X G hf_law_feed
    f_is_place := f_is_place
    d_is_place := d_is_place
    F_is_place := hF_is_place
    m_is_place := PySem.W.mg_of X G hf_is_place
    f_is_cell := f_is_cell
    d_is_cell := d_is_cell
    F_is_cell := hF_is_cell
    m_is_cell := PySem.W.mg_of X G hf_is_cell
    f_need_cell := f_need_cell
    d_need_cell := d_need_cell
    F_need_cell := hF_need_cell
    m_need_cell := PySem.W.mg_of X G hf_need_cell
    f_need_range := f_need_range
    d_need_range := d_need_range
    F_need_range := hF_need_range
    m_need_range := PySem.W.mg_of X G hf_need_range
    f_Frame___init := f_Frame___init
    d_Frame___init := d_Frame___init
    F_Frame___init := hF_Frame___init
    f_law_frame := f_law_frame
    d_law_frame := d_law_frame
    F_law_frame := hF_law_frame
    m_law_frame := PySem.W.mg_of X G hf_law_frame
    f_law_pick := f_law_pick
    d_law_pick := d_law_pick
    F_law_pick := hF_law_pick
    m_law_pick := PySem.W.mg_of X G hf_law_pick
    f_missing_ends := f_missing_ends
    d_missing_ends := d_missing_ends
    F_missing_ends := hF_missing_ends
    m_missing_ends := PySem.W.mg_of X G hf_missing_ends
    f_Frame_missing_rows := f_Frame_missing_rows
    d_Frame_missing_rows := d_Frame_missing_rows
    F_Frame_missing_rows := hF_Frame_missing_rows
    f_Frame_missing_columns := f_Frame_missing_columns
    d_Frame_missing_columns := d_Frame_missing_columns
    F_Frame_missing_columns := hF_Frame_missing_columns
    f_Frame_fewest := f_Frame_fewest
    d_Frame_fewest := d_Frame_fewest
    F_Frame_fewest := hF_Frame_fewest
    f_law_ends := f_law_ends
    d_law_ends := d_law_ends
    F_law_ends := hF_law_ends
    m_law_ends := PySem.W.mg_of X G hf_law_ends
    f_law_lists := f_law_lists
    d_law_lists := d_law_lists
    F_law_lists := hF_law_lists
    m_law_lists := PySem.W.mg_of X G hf_law_lists
    f_law_number := f_law_number
    d_law_number := d_law_number
    F_law_number := hF_law_number
    m_law_number := PySem.W.mg_of X G hf_law_number
    f_need_copies := f_need_copies
    d_need_copies := d_need_copies
    F_need_copies := hF_need_copies
    m_need_copies := PySem.W.mg_of X G hf_need_copies
    f_powers_of := f_powers_of
    d_powers_of := d_powers_of
    F_powers_of := hF_powers_of
    m_powers_of := PySem.W.mg_of X G hf_powers_of
    f_Cover___init := f_Cover___init
    d_Cover___init := d_Cover___init
    F_Cover___init := hF_Cover___init
    f_Frame_top := f_Frame_top
    d_Frame_top := d_Frame_top
    F_Frame_top := hF_Frame_top
    f_Frame_bottom := f_Frame_bottom
    d_Frame_bottom := d_Frame_bottom
    F_Frame_bottom := hF_Frame_bottom
    f_Frame_left := f_Frame_left
    d_Frame_left := d_Frame_left
    F_Frame_left := hF_Frame_left
    f_Frame_right := f_Frame_right
    d_Frame_right := d_Frame_right
    F_Frame_right := hF_Frame_right
    f_covers_of := f_covers_of
    d_covers_of := d_covers_of
    F_covers_of := hF_covers_of
    m_covers_of := PySem.W.mg_of X G hf_covers_of
    f_Cover_number_of := f_Cover_number_of
    d_Cover_number_of := d_Cover_number_of
    F_Cover_number_of := hF_Cover_number_of
    f_number_with := f_number_with
    d_number_with := d_number_with
    F_number_with := hF_number_with
    m_number_with := PySem.W.mg_of X G hf_number_with
    f_count_ways := f_count_ways
    d_count_ways := d_count_ways
    F_count_ways := hF_count_ways
    m_count_ways := PySem.W.mg_of X G hf_count_ways
    f_law_right := f_law_right
    d_law_right := d_law_right
    F_law_right := hF_law_right
    m_law_right := PySem.W.mg_of X G hf_law_right
    f_law_rect := f_law_rect
    d_law_rect := d_law_rect
    F_law_rect := hF_law_rect
    m_law_rect := PySem.W.mg_of X G hf_law_rect
    f_law := fa
    d_law := d_law
    F_law := hF_law
    m_law := PySem.W.mg_of X G hf_law
    n_range := PySem.W.mg_none_of X G hn_range
    n_max := PySem.W.mg_none_of X G hn_max
    n_min := PySem.W.mg_none_of X G hn_min
    n_len := PySem.W.mg_none_of X G hn_len
    n_abs := PySem.W.mg_none_of X G hn_abs
    g_Frame := PySem.W.mg_of X G hC_Frame
    mk_Frame := ⟨hma_Frame, hf_Frame___init, hmi_Frame, hmk_Frame⟩
    n_isinstance := PySem.W.mg_none_of X G hn_isinstance
    n_tuple := PySem.W.mg_none_of X G hn_tuple
    n_int := PySem.W.mg_none_of X G hn_int
    n_bool := PySem.W.mg_none_of X G hn_bool
    g_LIMIT := ⟨_, PySem.W.mg_of X G hg_LIMIT⟩
    n_all := PySem.W.mg_none_of X G hn_all
    me_Frame_fewest := ⟨hf_Frame_fewest, hi_Frame_fewest, hF_Frame_fewest.kp⟩
    c_Frame := k_Frame
    me_Frame_missing_rows := ⟨hf_Frame_missing_rows, hi_Frame_missing_rows, hF_Frame_missing_rows.kp⟩
    me_Frame_missing_columns := ⟨hf_Frame_missing_columns, hi_Frame_missing_columns, hF_Frame_missing_columns.kp⟩
    n_sorted := PySem.W.mg_none_of X G hn_sorted
    n_set := PySem.W.mg_none_of X G hn_set
    n_enumerate := PySem.W.mg_none_of X G hn_enumerate
    g_MOST_COPIES := ⟨_, PySem.W.mg_of X G hg_MOST_COPIES⟩
    g_Cover := PySem.W.mg_of X G hC_Cover
    mk_Cover := ⟨hma_Cover, hf_Cover___init, hmi_Cover, hmk_Cover⟩
    q_Frame_top := q_Frame_top
    p_Frame_top := ⟨hq1_Frame_top, hq2_Frame_top, hq3_Frame_top, ⟨_, hq4_Frame_top⟩⟩
    q_Frame_bottom := q_Frame_bottom
    p_Frame_bottom := ⟨hq1_Frame_bottom, hq2_Frame_bottom, hq3_Frame_bottom, ⟨_, hq4_Frame_bottom⟩⟩
    q_Frame_left := q_Frame_left
    p_Frame_left := ⟨hq1_Frame_left, hq2_Frame_left, hq3_Frame_left, ⟨_, hq4_Frame_left⟩⟩
    q_Frame_right := q_Frame_right
    p_Frame_right := ⟨hq1_Frame_right, hq2_Frame_right, hq3_Frame_right, ⟨_, hq4_Frame_right⟩⟩
    me_Cover_number_of := ⟨hf_Cover_number_of, hi_Cover_number_of, hF_Cover_number_of.kp⟩
    c_Cover := k_Cover
    a_begin := (all_cons (p := fun c => Cls K (([C_Frame, C_Cover, fa, fa, fa, fa] : List Addr).getD c fa) ∧ NoAttr K (([C_Frame, C_Cover, fa, fa, fa, fa] : List Addr).getD c fa) "begin") ⟨k_Frame, ha_Frame_begin⟩ (fun c hc => nomatch hc))
    a_end := (all_cons (p := fun c => Cls K (([C_Frame, C_Cover, fa, fa, fa, fa] : List Addr).getD c fa) ∧ NoAttr K (([C_Frame, C_Cover, fa, fa, fa, fa] : List Addr).getD c fa) "end") ⟨k_Frame, ha_Frame_end⟩ (fun c hc => nomatch hc))
    a_row_range := (all_cons (p := fun c => Cls K (([C_Frame, C_Cover, fa, fa, fa, fa] : List Addr).getD c fa) ∧ NoAttr K (([C_Frame, C_Cover, fa, fa, fa, fa] : List Addr).getD c fa) "row_range") ⟨k_Frame, ha_Frame_row_range⟩ (fun c hc => nomatch hc))
    a_column_range := (all_cons (p := fun c => Cls K (([C_Frame, C_Cover, fa, fa, fa, fa] : List Addr).getD c fa) ∧ NoAttr K (([C_Frame, C_Cover, fa, fa, fa, fa] : List Addr).getD c fa) "column_range") ⟨k_Frame, ha_Frame_column_range⟩ (fun c hc => nomatch hc))
    a_low := (all_cons (p := fun c => Cls K (([C_Frame, C_Cover, fa, fa, fa, fa] : List Addr).getD c fa) ∧ NoAttr K (([C_Frame, C_Cover, fa, fa, fa, fa] : List Addr).getD c fa) "low") ⟨k_Cover, ha_Cover_low⟩ (fun c hc => nomatch hc))
    a_high := (all_cons (p := fun c => Cls K (([C_Frame, C_Cover, fa, fa, fa, fa] : List Addr).getD c fa) ∧ NoAttr K (([C_Frame, C_Cover, fa, fa, fa, fa] : List Addr).getD c fa) "high") ⟨k_Cover, ha_Cover_high⟩ (fun c hc => nomatch hc))
    a_wanted := (all_cons (p := fun c => Cls K (([C_Frame, C_Cover, fa, fa, fa, fa] : List Addr).getD c fa) ∧ NoAttr K (([C_Frame, C_Cover, fa, fa, fa, fa] : List Addr).getD c fa) "wanted") ⟨k_Cover, ha_Cover_wanted⟩ (fun c hc => nomatch hc))
    a_tables := (all_cons (p := fun c => Cls K (([C_Frame, C_Cover, fa, fa, fa, fa] : List Addr).getD c fa) ∧ NoAttr K (([C_Frame, C_Cover, fa, fa, fa, fa] : List Addr).getD c fa) "tables") ⟨k_Cover, ha_Cover_tables⟩ (fun c hc => nomatch hc))
    tab := ⟨fun c hc => match c, hc with | 0, _ => ⟨k_Frame, hi3_Frame, hi1, hi2, hi4_Frame⟩ | 1, _ => ⟨k_Cover, hi3_Cover, hi1, hi2, hi4_Cover⟩ | n + 2, h => absurd h (by unfold nCls; omega), tab_ans (cm := fun c => ([C_Frame, C_Cover, fa, fa, fa, fa] : List Addr).getD c fa) (all_cons (pvkit_ty (t := .type "NoneType") (T := "int") (r := false) hx_0 (by decide +kernel) (by decide +kernel)) (all_cons (pvkit_ty (t := .type "NoneType") (T := "bool") (r := false) hx_1 (by decide +kernel) (by decide +kernel)) (all_cons (pvkit_ty (t := .type "NoneType") (T := "tuple") (r := false) hx_2 (by decide +kernel) (by decide +kernel)) (all_cons (pvkit_ty (t := .type "bool") (T := "int") (r := true) hx_3 (by decide +kernel) (fun _ => rfl)) (all_cons (pvkit_ty (t := .type "bool") (T := "bool") (r := true) hx_4 (by decide +kernel) (fun _ => rfl)) (all_cons (pvkit_ty (t := .type "bool") (T := "tuple") (r := false) hx_5 (by decide +kernel) (by decide +kernel)) (all_cons (pvkit_ty (t := .type "int") (T := "int") (r := true) hx_6 (by decide +kernel) (fun _ => rfl)) (all_cons (pvkit_ty (t := .type "int") (T := "bool") (r := false) hx_7 (by decide +kernel) (by decide +kernel)) (all_cons (pvkit_ty (t := .type "int") (T := "tuple") (r := false) hx_8 (by decide +kernel) (by decide +kernel)) (all_cons (pvkit_ty (t := .type "str") (T := "int") (r := false) hx_9 (by decide +kernel) (by decide +kernel)) (all_cons (pvkit_ty (t := .type "str") (T := "bool") (r := false) hx_10 (by decide +kernel) (by decide +kernel)) (all_cons (pvkit_ty (t := .type "str") (T := "tuple") (r := false) hx_11 (by decide +kernel) (by decide +kernel)) (all_cons (pvkit_ty (t := .type "tuple") (T := "int") (r := false) hx_12 (by decide +kernel) (by decide +kernel)) (all_cons (pvkit_ty (t := .type "tuple") (T := "bool") (r := false) hx_13 (by decide +kernel) (by decide +kernel)) (all_cons (pvkit_ty (t := .type "tuple") (T := "tuple") (r := true) hx_14 (by decide +kernel) (fun _ => rfl)) (all_cons (pvkit_ty (t := .type "list") (T := "int") (r := false) hx_15 (by decide +kernel) (by decide +kernel)) (all_cons (pvkit_ty (t := .type "list") (T := "bool") (r := false) hx_16 (by decide +kernel) (by decide +kernel)) (all_cons (pvkit_ty (t := .type "list") (T := "tuple") (r := false) hx_17 (by decide +kernel) (by decide +kernel)) (all_cons (pvkit_ty (t := .type "dict") (T := "int") (r := false) hx_18 (by decide +kernel) (by decide +kernel)) (all_cons (pvkit_ty (t := .type "dict") (T := "bool") (r := false) hx_19 (by decide +kernel) (by decide +kernel)) (all_cons (pvkit_ty (t := .type "dict") (T := "tuple") (r := false) hx_20 (by decide +kernel) (by decide +kernel)) (all_cons (pvkit_ty (t := .ref C_Frame) (T := "int") (r := false) hx_21 (by decide +kernel) (fun z => nomatch z)) (all_cons (pvkit_ty (t := .ref C_Frame) (T := "bool") (r := false) hx_22 (by decide +kernel) (fun z => nomatch z)) (all_cons (pvkit_ty (t := .ref C_Frame) (T := "tuple") (r := false) hx_23 (by decide +kernel) (fun z => nomatch z)) (all_cons (pvkit_ty (t := .ref C_Cover) (T := "int") (r := false) hx_24 (by decide +kernel) (fun z => nomatch z)) (all_cons (pvkit_ty (t := .ref C_Cover) (T := "bool") (r := false) hx_25 (by decide +kernel) (fun z => nomatch z)) (all_cons (pvkit_ty (t := .ref C_Cover) (T := "tuple") (r := false) hx_26 (by decide +kernel) (fun z => nomatch z)) (fun q hq => nomatch hq))))))))))))))))))))))))))))⟩
  }
  exact ⟨T.cm, T.d_law, fun s v => FunD.bindsA (ps := ["_law_script"]) T.F_law (fun _ _ _ _ _ _ us hl => match us, hl with | [_], _ => rfl) s [v] rfl, fun base _ _ => ok_law T⟩
end Ck22

namespace PV
open PySem PySem.Spec PyProof.Rows L2

/-! ### how the functions are reckoned: lemmas for simp -/
/-- a mark: simp does not look into the thing that it marks -/
inductive Tg {α : Sort _} (a : α) : Type
  | mk
def Out.bnd {α β : Type} (r : Out α) (k : α → List Cell → Out β) (t : Tg k := .mk) : Out β := Out.bind r k
@[simp] theorem Out.bnd_ok {α β : Type} {a : α} {c : List Cell} {k : α → List Cell → Out β} {t : Tg k} : Out.bnd (.ok a c) k t = k a c := rfl
@[simp] theorem Out.bnd_ex {α β : Type} {a : Xc} {c : List Cell} {k : α → List Cell → Out β} {t : Tg k} : Out.bnd (.ex a c) k t = .ex a c := rfl
@[simp] theorem Out.bnd_no {α β : Type} {k : α → List Cell → Out β} {t : Tg k} : Out.bnd (.no : Out α) k t = .no := rfl
def sOfL {α : Type} (r : Out α) (σ : Sd) (k : α → List Cell → Sr) (t : Tg k := .mk) : Sr := sOf r σ k
@[simp] theorem sOfL_ok {α : Type} {a : α} {c : List Cell} {σ : Sd} {k : α → List Cell → Sr} {t : Tg k} : sOfL (.ok a c) σ k t = k a c := rfl
@[simp] theorem sOfL_ex {α : Type} {x : Xc} {c : List Cell} {σ : Sd} {k : α → List Cell → Sr} {t : Tg k} : sOfL (.ex x c) σ k t = .ex x σ c := rfl
@[simp] theorem sOfL_no {α : Type} {σ : Sd} {k : α → List Cell → Sr} {t : Tg k} : sOfL (.no : Out α) σ k t = .no := rfl
def Sr.bind (r : Sr) (g : Fs) (t : Tg g := .mk) : Sr := match r with
  | .nx σ' c => g σ' c
  | r => r
@[simp] theorem Sr.bind_nx {σ : Sd} {c : List Cell} {g : Fs} : Sr.bind (.nx σ c) g = g σ c := rfl
@[simp] theorem Sr.bind_rt {d : D} {c : List Cell} {g : Fs} : Sr.bind (.rt d c) g = .rt d c := rfl
@[simp] theorem Sr.bind_bk {σ : Sd} {c : List Cell} {g : Fs} : Sr.bind (.bk σ c) g = .bk σ c := rfl
@[simp] theorem Sr.bind_ct {σ : Sd} {c : List Cell} {g : Fs} : Sr.bind (.ct σ c) g = .ct σ c := rfl
@[simp] theorem Sr.bind_ex {x : Xc} {σ : Sd} {c : List Cell} {g : Fs} : Sr.bind (.ex x σ c) g = .ex x σ c := rfl
@[simp ↓] theorem sSeq_e {f g : Fs} {σ : Sd} {cs : List Cell} : sSeq f g σ cs = Sr.bind (f σ cs) g := by
  unfold sSeq Sr.bind
  cases f σ cs <;> rfl
@[simp] theorem sNx_e {σ : Sd} {cs : List Cell} : sNx σ cs = .nx σ cs := rfl
@[simp ↓] theorem sRet_e {f : Fe} {σ : Sd} {cs : List Cell} : sRet f σ cs = sOfL (f σ cs) σ fun d c => .rt d c := rfl
@[simp ↓] theorem sEx_e {f : Fe} {σ : Sd} {cs : List Cell} : sEx f σ cs = sOfL (f σ cs) σ fun _ c => .nx σ c := rfl
@[simp ↓] theorem sIf_e {t : Ft} {f g : Fs} {σ : Sd} {cs : List Cell} : sIf t f g σ cs = sOfL (t σ cs) σ fun b c => if b = true then f σ c else g σ c := rfl
@[simp ↓] theorem sAsgN_e {f : Fe} {i : Nat} {σ : Sd} {cs : List Cell} : sAsg f (gN i) σ cs = sOfL (f σ cs) σ fun d c => .nx (σ.set i (some d)) c := rfl
def sG (o : Option Sd) (c : List Cell) : Sr := match o with
  | some σ' => .nx σ' c
  | none => .no
@[simp] theorem sG_s {σ : Sd} {c : List Cell} : sG (some σ) c = .nx σ c := rfl
@[simp ↓] theorem sAsgT_e {f : Fe} {n : Nat} {g : Gts} {σ : Sd} {cs : List Cell} : sAsg f (gT n g) σ cs = sOfL (f σ cs) σ fun d c => sG (gT n g d σ c) c := rfl
@[simp] theorem gT_tup {n : Nat} {g : Gts} {xs : List D} {σ : Sd} {c : List Cell} : gT n g (.tup xs) σ c = if xs.length = n then g xs σ c else none := rfl
@[simp] theorem gsCons_e {g : Gt} {h : Gts} {d : D} {r : List D} {σ : Sd} {c : List Cell} : gsCons g h (d :: r) σ c = (g d σ c).bind fun σ1 => h r σ1 c := rfl
@[simp] theorem gsNil_e {σ : Sd} {c : List Cell} : gsNil [] σ c = some σ := rfl
@[simp] theorem gN_e {i : Nat} {d : D} {σ : Sd} {c : List Cell} : gN i d σ c = some (σ.set i (some d)) := rfl
def parF (i j : Nat) (σ : Sd) (ds : List D) (c : List Cell) : Sr := match ds with
  | [a, b] => .nx ((σ.set i (some a)).set j (some b)) c
  | _ => .no
@[simp] theorem parF_e {i j : Nat} {σ : Sd} {a b : D} {c : List Cell} : parF i j σ [a, b] c = .nx ((σ.set i (some a)).set j (some b)) c := rfl
@[simp ↓] theorem sPar_e {i j : Nat} {f : Fa} {σ : Sd} {cs : List Cell} : sPar i j f σ cs = sOfL (f σ cs) σ fun ds c => parF i j σ ds c := rfl
def parF3 (i j k : Nat) (σ : Sd) (ds : List D) (c : List Cell) : Sr := match ds with
  | [a, b, d] => .nx (((σ.set i (some a)).set j (some b)).set k (some d)) c
  | _ => .no
@[simp] theorem parF3_e {i j k : Nat} {σ : Sd} {a b d : D} {c : List Cell} : parF3 i j k σ [a, b, d] c = .nx (((σ.set i (some a)).set j (some b)).set k (some d)) c := rfl
@[simp ↓] theorem sPar3_e {i j k : Nat} {f : Fa} {σ : Sd} {cs : List Cell} : sPar3 i j k f σ cs = sOfL (f σ cs) σ fun ds c => parF3 i j k σ ds c := rfl
def sC (o : Option (List Cell)) (σ : Sd) : Sr := match o with
  | some c => .nx σ c
  | none => .no
@[simp] theorem sC_s {σ : Sd} {c : List Cell} : sC (some c) σ = .nx σ c := rfl
@[simp ↓] theorem sSub_e {fe fo fi : Fe} {σ : Sd} {cs : List Cell} : sSub fe fo fi σ cs = sOfL (fe σ cs) σ fun v c1 => sOfL (fo σ c1) σ fun d c2 => sOfL (fi σ c2) σ fun i c3 => sC (setC d i v c3) σ := rfl
@[simp ↓] theorem sFld_e {cl : List Nat} {f : Str} {fe fo : Fe} {σ : Sd} {cs : List Cell} : sFld cl f fe fo σ cs = sOfL (fe σ cs) σ fun v c1 => sOfL (fo σ c1) σ fun d c2 => sC (setF cl f d v c2) σ := rfl
def frzF (i : Nat) (σ : Sd) (r : Rs D) : Sr := match r with
  | some (d', c) => .nx (σ.set i (some d')) c
  | none => .no
@[simp] theorem frzF_s {i : Nat} {σ : Sd} {d : D} {c : List Cell} : frzF i σ (some (d, c)) = .nx (σ.set i (some d)) c := rfl
def atF (o : Option (Option D)) (k : D → Sr) (t : Tg k := .mk) : Sr := match o with
  | some (some d) => k d
  | _ => .no
@[simp] theorem atF_s {d : D} {k : D → Sr} {t : Tg k} : atF (some (some d)) k t = k d := rfl
@[simp ↓] theorem sFrz_e {i : Nat} {σ : Sd} {cs : List Cell} : sFrz i σ cs = atF σ[i]? fun d => frzF i σ (frzD d cs) := by
  unfold sFrz atF
  rcases σ[i]? with _ | (_ | d) <;> rfl
/-! for -/
@[simp ↓] theorem sFor_e {f : Fi} {g : Gt} {fb : Fs} {σ : Sd} {cs : List Cell} : sFor f g fb σ cs = sOfL (f σ cs) σ fun ds c => forL g fb ds σ c := rfl
@[simp] theorem forL_nil {g : Gt} {fb : Fs} {σ : Sd} {c : List Cell} : forL g fb [] σ c = .nx σ c := rfl
theorem forL_nx {g : Gt} {fb : Fs} {d : D} {ds : List D} {σ σ1 σ2 : Sd} {c c2 : List Cell} (h1 : g d σ c = some σ1) (h2 : fb σ1 c = .nx σ2 c2) : forL g fb (d :: ds) σ c = forL g fb ds σ2 c2 := by
  show (match g d σ c with
    | none => Sr.no
    | some σ1 => match fb σ1 c with
      | .nx σ2 c2 => forL g fb ds σ2 c2
      | .ct σ2 c2 => forL g fb ds σ2 c2
      | .bk σ2 c2 => .nx σ2 c2
      | r => r) = _
  rw [h1]
  show (match fb σ1 c with
      | .nx σ2 c2 => forL g fb ds σ2 c2
      | .ct σ2 c2 => forL g fb ds σ2 c2
      | .bk σ2 c2 => .nx σ2 c2
      | r => r) = _
  rw [h2]
/-- a loop that keeps an invariant of what it has done -/
theorem forL_inv {g : Gt} {fb : Fs} (I : Nat → Sd → List Cell → Prop) (ds : List D)
    (step : ∀ i d σ c, ds[i]? = some d → I i σ c → ∃ σ1 σ2 c2, g d σ c = some σ1 ∧ fb σ1 c = .nx σ2 c2 ∧ I (i + 1) σ2 c2) :
    ∀ (k : Nat) (σ : Sd) (c : List Cell), k ≤ ds.length → I k σ c → ∃ σ' c', forL g fb (ds.drop k) σ c = .nx σ' c' ∧ I ds.length σ' c' := by
  intro k
  induction hn : ds.length - k generalizing k with
  | zero =>
    intro σ c hk hI
    have : k = ds.length := by omega
    subst this
    rw [List.drop_length]
    exact ⟨σ, c, rfl, hI⟩
  | succ n ih =>
    intro σ c hk hI
    have hlt : k < ds.length := by omega
    rw [List.drop_eq_getElem_cons hlt]
    obtain ⟨σ1, σ2, c2, e1, e2, hI2⟩ := step k ds[k] σ c (List.getElem?_eq_getElem hlt) hI
    rw [forL_nx e1 e2]
    exact ih (k + 1) (by omega) σ2 c2 (by omega) hI2
theorem forL_all {g : Gt} {fb : Fs} (I : Nat → Sd → List Cell → Prop) {ds : List D} {σ : Sd} {c : List Cell} (h0 : I 0 σ c)
    (step : ∀ i d σ c, ds[i]? = some d → I i σ c → ∃ σ1 σ2 c2, g d σ c = some σ1 ∧ fb σ1 c = .nx σ2 c2 ∧ I (i + 1) σ2 c2) :
    ∃ σ' c', forL g fb ds σ c = .nx σ' c' ∧ I ds.length σ' c' := by
  have := forL_inv I ds step 0 σ c (Nat.zero_le _) h0
  rwa [List.drop_zero] at this

/-! expressions -/
def fV2 (o : Option (Option D)) (cs : List Cell) : Out D := match o with
  | some (some d) => .ok d cs
  | _ => .no
@[simp] theorem fV2_s {d : D} {cs : List Cell} : fV2 (some (some d)) cs = .ok d cs := rfl
@[simp ↓] theorem fVar_e {i : Nat} {σ : Sd} {cs : List Cell} : fVar i σ cs = fV2 σ[i]? cs := rfl
@[simp ↓] theorem fC_e {d : D} {σ : Sd} {cs : List Cell} : fC d σ cs = .ok d cs := rfl
@[simp ↓] theorem fOp2_e {g : G2} {fa fb : Fe} {σ : Sd} {cs : List Cell} : fOp2 g fa fb σ cs = (fa σ cs).bnd fun x c1 => (fb σ c1).bnd fun y c2 => up (g x y c2) := rfl
@[simp ↓] theorem fOp1_e {g : D → List Cell → Rs D} {fa : Fe} {σ : Sd} {cs : List Cell} : fOp1 g fa σ cs = (fa σ cs).bnd fun d c => up (g d c) := rfl
def boolO (d : D) (c : List Cell) : Out Bool := match d with
  | .bl b => .ok b c
  | _ => .no
@[simp] theorem boolO_b {b : Bool} {c : List Cell} : boolO (.bl b) c = .ok b c := rfl
@[simp ↓] theorem fTst_e {f : Fe} {σ : Sd} {cs : List Cell} : fTst f σ cs = (f σ cs).bnd fun d c => boolO d c := rfl
def chO (d : D) (c : List Cell) (k : List Cell → Out D) (t : Tg k := .mk) : Out D := match d with
  | .bl true => k c
  | .bl false => .ok (.bl false) c
  | _ => .no
@[simp] theorem chO_t {c : List Cell} {k : List Cell → Out D} {t : Tg k} : chO (.bl true) c k t = k c := rfl
@[simp] theorem chO_f {c : List Cell} {k : List Cell → Out D} {t : Tg k} : chO (.bl false) c k t = .ok (.bl false) c := rfl
@[simp ↓] theorem fChain_e {g g' : G2} {fa fb fc : Fe} {σ : Sd} {cs : List Cell} : fChain g g' fa fb fc σ cs = (fa σ cs).bnd fun x c1 => (fb σ c1).bnd fun y c2 => (up (g x y c2)).bnd fun z c3 => chO z c3 fun c3 => (fc σ c3).bnd fun w c4 => up (g' y w c4) := by
  unfold fChain
  show Out.bind _ _ = Out.bind _ _
  refine congrArg _ (funext fun x => funext fun c1 => ?_)
  show Out.bind _ _ = Out.bind _ _
  refine congrArg _ (funext fun y => funext fun c2 => ?_)
  show Out.bind _ _ = Out.bind _ _
  refine congrArg _ (funext fun z => funext fun c3 => ?_)
  unfold chO
  cases z <;> rfl
def truO (o : Option Bool) (c : List Cell) : Out Bool := match o with
  | some k => .ok k c
  | none => .no
@[simp] theorem truO_s {k : Bool} {c : List Cell} : truO (some k) c = .ok k c := rfl
@[simp ↓] theorem fTru_e {f : Fe} {σ : Sd} {cs : List Cell} : fTru f σ cs = (f σ cs).bnd fun d c => truO (dTru c d) c := rfl
@[simp] theorem dTru_b {c : List Cell} {b : Bool} : dTru c (.bl b) = some b := rfl
@[simp] theorem dTru_i {c : List Cell} {b : Int} : dTru c (.int b) = some (b != 0) := rfl
@[simp] theorem dTru_n {c : List Cell} : dTru c .non = some false := rfl
@[simp] theorem dTru_l {c : List Cell} {xs : List D} : dTru c (.lst xs) = some (!xs.isEmpty) := rfl
@[simp] theorem dTru_t {c : List Cell} {xs : List D} : dTru c (.tup xs) = some (!xs.isEmpty) := rfl
@[simp ↓] theorem fAnd_e {s t : Ft} {σ : Sd} {cs : List Cell} : fAnd s t σ cs = (s σ cs).bnd fun c c1 => if c = true then t σ c1 else .ok false c1 := rfl
@[simp ↓] theorem fOr_e {s t : Ft} {σ : Sd} {cs : List Cell} : fOr s t σ cs = (s σ cs).bnd fun c c1 => if c = true then .ok true c1 else t σ c1 := rfl
@[simp ↓] theorem fNot_e {s : Ft} {σ : Sd} {cs : List Cell} : fNot s σ cs = (s σ cs).bnd fun c c1 => Out.ok (!c) c1 := rfl
@[simp ↓] theorem fAndV_e {fa fb : Fe} {σ : Sd} {cs : List Cell} : fAndV fa fb σ cs = (fa σ cs).bnd fun d c1 => chO d c1 (fb σ) := by
  unfold fAndV
  show Out.bind _ _ = Out.bind _ _
  refine congrArg _ (funext fun z => funext fun c3 => ?_)
  unfold chO
  cases z <;> rfl
def orO (d : D) (c : List Cell) (k : List Cell → Out D) (t : Tg k := .mk) : Out D := match d with
  | .bl false => k c
  | .bl true => .ok (.bl true) c
  | _ => .no
@[simp] theorem orO_f {c : List Cell} {k : List Cell → Out D} {t : Tg k} : orO (.bl false) c k t = k c := rfl
@[simp] theorem orO_t {c : List Cell} {k : List Cell → Out D} {t : Tg k} : orO (.bl true) c k t = .ok (.bl true) c := rfl
@[simp ↓] theorem fOrV_e {fa fb : Fe} {σ : Sd} {cs : List Cell} : fOrV fa fb σ cs = (fa σ cs).bnd fun d c1 => orO d c1 (fb σ) := by
  unfold fOrV
  show Out.bind _ _ = Out.bind _ _
  refine congrArg _ (funext fun z => funext fun c3 => ?_)
  unfold orO
  cases z <;> rfl
def notO (d : D) (c : List Cell) : Out D := match d with
  | .bl k => .ok (.bl (!k)) c
  | _ => .no
@[simp] theorem notO_b {b : Bool} {c : List Cell} : notO (.bl b) c = .ok (.bl (!b)) c := rfl
@[simp ↓] theorem fNotV_e {fa : Fe} {σ : Sd} {cs : List Cell} : fNotV fa σ cs = (fa σ cs).bnd fun d c1 => notO d c1 := rfl
@[simp ↓] theorem fIfE_e {t : Ft} {fa fb : Fe} {σ : Sd} {cs : List Cell} : fIfE t fa fb σ cs = (t σ cs).bnd fun c c1 => if c = true then fa σ c1 else fb σ c1 := rfl
@[simp ↓] theorem fFrz_e {f : Fe} {σ : Sd} {cs : List Cell} : fFrz f σ cs = (f σ cs).bnd fun d c => up (frzD d c) := rfl
@[simp] theorem aNil_e {σ : Sd} {cs : List Cell} : aNil σ cs = .ok [] cs := rfl
@[simp ↓] theorem aCons_e {f : Fe} {g : Fa} {σ : Sd} {cs : List Cell} : aCons f g σ cs = (f σ cs).bnd fun d c1 => (g σ c1).bnd fun ds c2 => Out.ok (d :: ds) c2 := rfl
@[simp ↓] theorem fTup_e {g : Fa} {σ : Sd} {cs : List Cell} : fTup g σ cs = (g σ cs).bnd fun ds c => if ds.length ≤ sizeLine then .ok (.tup ds) c else .no := rfl
@[simp ↓] theorem fLst_e {fz : Bool} {g : Fa} {σ : Sd} {cs : List Cell} : fLst fz g σ cs = (g σ cs).bnd fun ds c => if ds.length ≤ sizeLine then up (mkL fz ds c) else .no := rfl
@[simp ↓] theorem fCB_e {g : GC} {fa : Fa} {σ : Sd} {cs : List Cell} : fCB g fa σ cs = (fa σ cs).bnd fun d c => up (g d c) := rfl
@[simp ↓] theorem fSl_e {fz : Bool} {f : Fe} {lo hi : Fo} {σ : Sd} {cs : List Cell} : fSl fz f lo hi σ cs = (f σ cs).bnd fun x c1 => (lo σ c1).bnd fun l c2 => (hi σ c2).bnd fun u c3 => up (dSl fz x l u c3) := rfl
@[simp] theorem oNone_e {σ : Sd} {cs : List Cell} : oNone σ cs = .ok none cs := rfl
def oI (d : D) (c : List Cell) : Out (Option Int) := match d with
  | .int i => .ok (some i) c
  | _ => .no
@[simp] theorem oI_i {i : Int} {c : List Cell} : oI (.int i) c = .ok (some i) c := rfl
@[simp ↓] theorem oSome_e {f : Fe} {σ : Sd} {cs : List Cell} : oSome f σ cs = (f σ cs).bnd fun d c => oI d c := rfl
@[simp ↓] theorem fCall_e {F : Fk} {ga gk : Fa} {σ : Sd} {cs : List Cell} : fCall F ga gk σ cs = (ga σ cs).bnd fun ds c1 => (gk σ c1).bnd fun es c2 => F ds es c2 := rfl
@[simp ↓] theorem fnK_e {n m l : Nat} {F : List D → List Cell → Out D} {g : List D → List D → List D} {ds es : List D} {cs : List Cell} : fnK n m l F g ds es cs = if ds.length = n ∧ (g ds es).length = l then F (g ds es) cs else .no := rfl
def mkO (fz : Bool) (i : Nat) (d : D) (c1 : List Cell) : Out D := match d with
  | .non => if fz = true then up (frzD (.ref i) c1) else .ok (.ref i) c1
  | _ => .no
@[simp] theorem mkO_t {i : Nat} {c : List Cell} : mkO true i .non c = up (frzD (.ref i) c) := rfl
@[simp] theorem mkO_f {i : Nat} {c : List Cell} : mkO false i .non c = .ok (.ref i) c := rfl
theorem mkK_e {c : Nat} {fz : Bool} {F : Fk} {ds es : List D} {cs : List Cell} : mkK c fz F ds es cs = (F (.ref cs.length :: ds) es (cs ++ [.ins c []])).bnd fun d c1 => mkO fz cs.length d c1 := rfl
/-! fields -/
def fldO (cl : List Nat) (f : Str) (o : Option (Nat × List (Str × D))) (c : List Cell) : Out D := match o with
  | some (k, fs) => if cl.contains k = true then match fs.lookup f with
    | some v => .ok v c
    | none => .no
    else .no
  | none => .no
def lkO (o : Option D) (c : List Cell) : Out D := match o with
  | some v => .ok v c
  | none => .no
@[simp] theorem lkO_s {d : D} {c : List Cell} : lkO (some d) c = .ok d c := rfl
@[simp] theorem fldO_s {cl : List Nat} {f : Str} {k : Nat} {fs : List (Str × D)} {c : List Cell} : fldO cl f (some (k, fs)) c = if cl.contains k = true then lkO (fs.lookup f) c else .no := rfl
@[simp ↓] theorem fFld_e {cl : List Nat} {f : Str} {fo : Fe} {σ : Sd} {cs : List Cell} : fFld cl f fo σ cs = (fo σ cs).bnd fun d c1 => fldO cl f (insOf c1 d) c1 := rfl
@[simp] theorem insOf_i {cs : List Cell} {c : Nat} {fs : List (Str × D)} : insOf cs (.ins c fs) = some (c, fs) := rfl
def prO (c : Nat) (F : List D → List Cell → Out D) (d : D) (o : Option (Nat × List (Str × D))) (c1 : List Cell) : Out D := match o with
  | some (c', _) => if c' = c then noX (F [d] c1) else .no
  | none => .no
@[simp] theorem prO_s {c k : Nat} {F : List D → List Cell → Out D} {d : D} {fs : List (Str × D)} {c1 : List Cell} : prO c F d (some (k, fs)) c1 = if k = c then noX (F [d] c1) else .no := rfl
@[simp ↓] theorem fProp_e {c : Nat} {F : List D → List Cell → Out D} {fo : Fe} {σ : Sd} {cs : List Cell} : fProp c F fo σ cs = (fo σ cs).bnd fun d c1 => prO c F d (insOf c1 d) c1 := rfl
def meO (c : Nat) (m : Str) (o : Option (Nat × List (Str × D))) (k : Out D) (t : Tg k := .mk) : Out D := match o with
  | some (c', fs) => if c' = c ∧ fs.lookup m = none then k else .no
  | none => .no
@[simp] theorem meO_s {c c' : Nat} {m : Str} {fs : List (Str × D)} {k : Out D} {t : Tg k} : meO c m (some (c', fs)) k t = if c' = c ∧ fs.lookup m = none then k else .no := rfl
@[simp ↓] theorem fMeth_e {c : Nat} {m : Str} {F : Fk} {fo : Fe} {ga gk : Fa} {σ : Sd} {cs : List Cell} : fMeth c m F fo ga gk σ cs = (fo σ cs).bnd fun d c1 => meO c m (insOf c1 d) ((ga σ c1).bnd fun ds c2 => (gk σ c2).bnd fun es c3 => F (d :: ds) es c3) := rfl
/-! defs -/
def runO (r : Sr) : Out D := match r with
  | .nx _ c => .ok .non c
  | .rt d c => .ok d c
  | .ex x _ c => .ex x c
  | _ => .no
@[simp] theorem runO_nx {σ : Sd} {c : List Cell} : runO (.nx σ c) = .ok .non c := rfl
@[simp] theorem runO_rt {d : D} {c : List Cell} : runO (.rt d c) = .ok d c := rfl
@[simp] theorem runO_ex {x : Xc} {σ : Sd} {c : List Cell} : runO (.ex x σ c) = .ex x c := rfl
theorem runDef_e {n N : Nat} {fb : Fs} {ds : List D} {cs : List Cell} : runDef n N fb ds cs = if ds.length = n then runO (fb (ds.map some ++ List.replicate (N - n) none) cs) else .no := by
  unfold runDef runO
  split
  · cases fb (ds.map some ++ List.replicate (N - n) none) cs <;> rfl
  · rfl
/-! operators -/
@[simp] theorem dAdd_i {fz : Bool} {i j : Int} {cs : List Cell} : dAdd fz (.int i) (.int j) cs = some (.int (i + j), cs) := rfl
@[simp] theorem dAdd_l {fz : Bool} {xs ys : List D} {cs : List Cell} : dAdd fz (.lst xs) (.lst ys) cs = if xs.length + ys.length ≤ sizeLine then mkL fz (xs ++ ys) cs else none := rfl
@[simp] theorem dSub_i {i j : Int} {cs : List Cell} : dSub (.int i) (.int j) cs = some (.int (i - j), cs) := rfl
@[simp] theorem dMul_i {fz : Bool} {i j : Int} {cs : List Cell} : dMul fz (.int i) (.int j) cs = if mulOk i j then some (.int (i * j), cs) else none := rfl
@[simp] theorem dFdiv_i {i j : Int} {cs : List Cell} : dFdiv (.int i) (.int j) cs = if divOk j then some (.int (i / j), cs) else none := rfl
@[simp] theorem dMod_i {i j : Int} {cs : List Cell} : dMod (.int i) (.int j) cs = if 0 < j then some (.int (i % j), cs) else none := rfl
@[simp] theorem dPow_i {i j : Int} {cs : List Cell} : dPow (.int i) (.int j) cs = if powOk i j then some (.int (i ^ j.toNat), cs) else none := rfl
@[simp] theorem dNeg_i {i : Int} {cs : List Cell} : dNeg (.int i) cs = some (.int (-i), cs) := rfl
@[simp] theorem dCmp_i {p : Int → Int → Bool} {i j : Int} {cs : List Cell} : dCmp p (.int i) (.int j) cs = some (.bl (p i j), cs) := rfl
@[simp] theorem dAbs_i {i : Int} {cs : List Cell} : dAbs [.int i] cs = some (.int (if i < 0 then -i else i), cs) := rfl
@[simp] theorem dMax_i {i j : Int} {cs : List Cell} : dMax [.int i, .int j] cs = some (.int (if j > i then j else i), cs) := rfl
@[simp] theorem dMin_i {i j : Int} {cs : List Cell} : dMin [.int i, .int j] cs = some (.int (if j < i then j else i), cs) := rfl
@[simp] theorem dEq_i {n : Bool} {i j : Int} {cs : List Cell} : dEq n (.int i) (.int j) cs = some (.bl (if n then !decide (i = j) else decide (i = j)), cs) := by
  have h1 : SeqAt.shaped (PyData.int i) = true := rfl
  have h2 : SeqAt.shaped (PyData.int j) = true := rfl
  show (if SeqAt.shaped (PyData.int i) = true ∧ SeqAt.shaped (PyData.int j) = true then some (D.bl (if n then !PyData.eqv (.int i) (.int j) else PyData.eqv (.int i) (.int j)), cs) else none) = _
  rw [if_pos ⟨h1, h2⟩]
  have : PyData.eqv (.int i) (.int j) = decide (i = j) := by
    simp only [PyData.eqv]
    by_cases h : i = j <;> simp [h]
  rw [this]
/-! cells -/
def cAt (cs : List Cell) (i : Nat) : Option Cell := cs[i]?
def clO (i : Nat) (o : Option Cell) : Option (Nat × List D) := match o with
  | some (.lst xs) => some (i, xs)
  | _ => none
@[simp] theorem clO_s {i : Nat} {xs : List D} : clO i (some (.lst xs)) = some (i, xs) := rfl
@[simp] theorem cellL_e {i : Nat} {cs : List Cell} : cellL (.ref i) cs = clO i (cAt cs i) := by
  rcases h : cs[i]? with _ | (_ | _ | _) <;> simp only [cellL, clO, cAt, h]
def lmO (o : Option (Nat × List D)) (k : Out D) (t : Tg k := .mk) : Out D := match o with
  | some _ => k
  | none => .no
@[simp] theorem lmO_s {p : Nat × List D} {k : Out D} {t : Tg k} : lmO (some p) k t = k := rfl
@[simp ↓] theorem fLm_e {g : GM} {fo : Fe} {fa : Fa} {σ : Sd} {cs : List Cell} : fLm g fo fa σ cs = (fo σ cs).bnd fun d c1 => lmO (cellL d c1) ((fa σ c1).bnd fun as c2 => up (g d as c2)) := by
  unfold fLm
  show Out.bind _ _ = Out.bind _ _
  refine congrArg _ (funext fun d => funext fun c => ?_)
  unfold lmO
  cases cellL d c <;> rfl
def apO (v : D) (o : Option (Nat × List D)) (cs : List Cell) : Rs D := match o with
  | some (i, xs) => if xs.length < sizeLine then some (.non, cs.set i (.lst (xs ++ [v]))) else none
  | none => none
@[simp] theorem apO_s {v : D} {i : Nat} {xs : List D} {cs : List Cell} : apO v (some (i, xs)) cs = if xs.length < sizeLine then some (.non, cs.set i (.lst (xs ++ [v]))) else none := rfl
@[simp] theorem mAppend_e {d v : D} {cs : List Cell} : mAppend d [v] cs = apO v (cellL d cs) cs := by
  unfold mAppend apO
  rcases cellL d cs with _ | ⟨i, xs⟩ <;> rfl
def fzO (i : Nat) (o : Option Cell) (cs : List Cell) : Rs D := match o with
  | some (.lst xs) => some (.lst xs, cs.set i .dead)
  | some (.ins c fs) => some (.ins c fs, cs.set i .dead)
  | _ => none
@[simp] theorem fzO_l {i : Nat} {xs : List D} {cs : List Cell} : fzO i (some (.lst xs)) cs = some (.lst xs, cs.set i .dead) := rfl
@[simp] theorem fzO_i {i c : Nat} {fs : List (Str × D)} {cs : List Cell} : fzO i (some (.ins c fs)) cs = some (.ins c fs, cs.set i .dead) := rfl
@[simp] theorem frzD_e {i : Nat} {cs : List Cell} : frzD (.ref i) cs = fzO i (cAt cs i) cs := by
  rcases h : cs[i]? with _ | (_ | _ | _) <;> simp only [frzD, fzO, cAt, h]
def sqO (o : Option Cell) : Option (List D) := match o with
  | some (.lst xs) => some xs
  | _ => none
@[simp] theorem sqO_l {xs : List D} : sqO (some (.lst xs)) = some xs := rfl
@[simp] theorem seqOf_r {i : Nat} {cs : List Cell} : seqOf cs (.ref i) = sqO (cAt cs i) := by
  rcases h : cs[i]? with _ | (_ | _ | _) <;> simp only [seqOf, sqO, cAt, h]
@[simp] theorem lstOf_r {i : Nat} {cs : List Cell} : lstOf cs (.ref i) = sqO (cAt cs i) := by
  rcases h : cs[i]? with _ | (_ | _ | _) <;> simp only [lstOf, sqO, cAt, h]
@[simp] theorem rdL_r {i : Nat} {cs : List Cell} : rdL cs (.ref i) = sqO (cAt cs i) := by
  rcases h : cs[i]? with _ | (_ | _ | _) <;> simp only [rdL, sqO, cAt, h]
def ixO (k : Int) (o : Option (List D)) (cs : List Cell) : Rs D := match o with
  | some xs => (atI xs k).map fun d => (d, cs)
  | none => none
@[simp] theorem ixO_s {k : Int} {xs : List D} {cs : List Cell} : ixO k (some xs) cs = (atI xs k).map fun d => (d, cs) := rfl
@[simp] theorem dIx_r {i : Nat} {k : Int} {cs : List Cell} : dIx (.ref i) (.int k) cs = ixO k (sqO (cAt cs i)) cs := by
  rcases h : cs[i]? with _ | (_ | _ | _) <;> simp only [dIx, seqOf, ixO, sqO, cAt, h]
@[simp] theorem dIx_l {k : Int} {cs : List Cell} {xs : List D} : dIx (.lst xs) (.int k) cs = (atI xs k).map fun d => (d, cs) := rfl
@[simp] theorem dIx_t {k : Int} {cs : List Cell} {xs : List D} : dIx (.tup xs) (.int k) cs = (atI xs k).map fun d => (d, cs) := rfl
@[simp] theorem dIx_a {k : Int} {cs : List Cell} {xs : List D} : dIx (.arg xs) (.int k) cs = (atI xs k).map fun d => (d, cs) := rfl
def scO (i : Nat) (k : Int) (v : D) (o : Option Cell) (cs : List Cell) : Option (List Cell) := match o with
  | some (.lst xs) => (ixN xs.length k).map fun j => cs.set i (.lst (xs.set j v))
  | _ => none
@[simp] theorem scO_s {i : Nat} {k : Int} {v : D} {xs : List D} {cs : List Cell} : scO i k v (some (.lst xs)) cs = (ixN xs.length k).map fun j => cs.set i (.lst (xs.set j v)) := rfl
@[simp] theorem setC_r {i : Nat} {k : Int} {v : D} {cs : List Cell} : setC (.ref i) (.int k) v cs = scO i k v (cAt cs i) cs := by
  rcases h : cs[i]? with _ | (xs | _ | _)
  · simp only [setC, scO, cAt, h]
  · simp only [setC, scO, cAt, h]
    cases ixN xs.length k <;> rfl
  · simp only [setC, scO, cAt, h]
  · simp only [setC, scO, cAt, h]
def isO (o : Option Cell) : Option (Nat × List (Str × D)) := match o with
  | some (.ins c fs) => some (c, fs)
  | _ => none
@[simp] theorem isO_s {c : Nat} {fs : List (Str × D)} : isO (some (.ins c fs)) = some (c, fs) := rfl
@[simp] theorem insOf_r {i : Nat} {cs : List Cell} : insOf cs (.ref i) = isO (cAt cs i) := by
  rcases h : cs[i]? with _ | (_ | _ | _) <;> simp only [insOf, isO, cAt, h]
def sfO (cl : List Nat) (f : Str) (v : D) (i : Nat) (o : Option Cell) (cs : List Cell) : Option (List Cell) := match o with
  | some (.ins c fs) => if cl.contains c = true ∧ fs.length < 1000 then some (cs.set i (.ins c (putD f v fs))) else none
  | _ => none
@[simp] theorem sfO_s {cl : List Nat} {f : Str} {v : D} {i c : Nat} {fs : List (Str × D)} {cs : List Cell} : sfO cl f v i (some (.ins c fs)) cs = if cl.contains c = true ∧ fs.length < 1000 then some (cs.set i (.ins c (putD f v fs))) else none := rfl
@[simp] theorem setF_r {cl : List Nat} {f : Str} {v : D} {i : Nat} {cs : List Cell} : setF cl f (.ref i) v cs = sfO cl f v i (cAt cs i) cs := by
  rcases h : cs[i]? with _ | (_ | _ | _) <;> simp only [setF, sfO, cAt, h]
@[simp] theorem cAt_end {cs : List Cell} {x : Cell} : cAt (cs ++ [x]) cs.length = some x := by
  unfold cAt
  rw [List.getElem?_append_right (Nat.le_refl _), Nat.sub_self]; rfl
@[simp] theorem set_end {cs : List Cell} {x y : Cell} : (cs ++ [x]).set cs.length y = cs ++ [y] := by
  rw [List.set_append_right _ _ (Nat.le_refl _), Nat.sub_self]; rfl
end PV

namespace PV
open PySem PySem.Spec PyProof.Rows L2

/-! ### a list, one place of which is a jug, behind it new things -/
structure Hs where
  cs : List Cell
  i : Nat
  hi : i < cs.length
def hp (S : Hs) (x : Cell) (t : List Cell) : List Cell := S.cs.set S.i x ++ t
@[simp] theorem hp_len (S : Hs) (x : Cell) (t : List Cell) : (hp S x t).length = S.cs.length + t.length := by simp [hp]
@[simp] theorem hp_at (S : Hs) (x : Cell) (t : List Cell) : cAt (hp S x t) S.i = some x := by
  unfold hp cAt
  rw [List.getElem?_append_left (by rw [List.length_set]; exact S.hi), List.getElem?_set_self S.hi]
@[simp] theorem hp_at_t (S : Hs) (x : Cell) (t : List Cell) (k : Nat) : cAt (hp S x t) (S.cs.length + k) = t[k]? := by
  unfold hp cAt
  rw [List.getElem?_append_right (by rw [List.length_set]; omega), List.length_set]
  congr 1
  omega
@[simp] theorem hp_at_0 (S : Hs) (x : Cell) (t : List Cell) : cAt (hp S x t) S.cs.length = t[0]? := hp_at_t S x t 0
@[simp] theorem hp_set (S : Hs) (x y : Cell) (t : List Cell) : (hp S x t).set S.i y = hp S y t := by
  unfold hp
  rw [List.set_append_left _ _ (by rw [List.length_set]; exact S.hi), List.set_set]
@[simp] theorem hp_set_t (S : Hs) (x y : Cell) (t : List Cell) (k : Nat) : (hp S x t).set (S.cs.length + k) y = hp S x (t.set k y) := by
  unfold hp
  rw [List.set_append_right _ _ (by rw [List.length_set]; omega), List.length_set]
  congr 2
  omega
@[simp] theorem hp_set_0 (S : Hs) (x y : Cell) (t : List Cell) : (hp S x t).set S.cs.length y = hp S x (t.set 0 y) := hp_set_t S x y t 0
@[simp] theorem hp_app (S : Hs) (x : Cell) (t u : List Cell) : hp S x t ++ u = hp S x (t ++ u) := by
  unfold hp
  rw [List.append_assoc]
theorem hp_new (S : Hs) (x : Cell) (t : List Cell) : ∃ S' : Hs, S'.i = S.i ∧ hp S x t = hp S' x [] := by
  refine ⟨⟨hp S x t, S.i, by rw [hp_len]; have := S.hi; omega⟩, rfl, ?_⟩
  show _ = (hp S x t).set S.i x ++ []
  rw [List.append_nil, hp_set]
theorem hp_of {cs : List Cell} {i : Nat} {x : Cell} (h : cs[i]? = some x) : ∃ S : Hs, S.i = i ∧ cs = hp S x [] := by
  have hi := (List.getElem?_eq_some_iff.mp h).1
  refine ⟨⟨cs, i, hi⟩, rfl, ?_⟩
  show _ = cs.set i x ++ []
  rw [List.append_nil]
  rw [List.getElem?_eq_some_iff] at h
  obtain ⟨_, h⟩ := h
  rw [← h, List.set_getElem_self]

/-! ### the jug (laws k01 .. k14) -/
def jugOk (n : Nat) (J : Int × Int × Int) : Prop := 0 ≤ J.1 ∧ 0 ≤ J.2.1 ∧ J.2.1 < 10 ^ 42 ∧ 0 ≤ J.2.2 ∧ J.2.2 ≤ n
abbrev Jug (n : Nat) := { J : Int × Int × Int // jugOk n J }
def jc {n : Nat} (J : Jug n) : Cell := .lst [.int J.1.1, .int J.1.2.1, .int J.1.2.2]
def mix (b c : Int) : Int := ((b + 122949829 * c) ^ 3 % (10 ^ 41 + 37) + 86028199 * c) ^ 5 % (10 ^ 38 + 133) / 786433
def pv {n : Nat} (J : Jug n) (s : Int) : Int := if 0 < J.1.1 then J.1.1 % s else mix J.1.2.1 (J.1.2.2 + 1) % s
def pjr (J : Int × Int × Int) (s : Int) : Int × Int × Int := if 0 < J.1 then (if 0 < s then J.1 / s else 0, J.2.1, J.2.2) else (J.1, J.2.1, J.2.2 + 1)
theorem pjr_ok {n : Nat} {J : Int × Int × Int} (h : jugOk n J) (s : Int) : jugOk (n + 1) (pjr J s) := by
  obtain ⟨h1, h2, h3, h4, h5⟩ := h
  unfold pjr
  split
  · refine ⟨?_, h2, h3, h4, by show J.2.2 ≤ ((n + 1 : Nat) : Int); omega⟩
    show 0 ≤ if 0 < s then J.1 / s else 0
    split
    · exact Int.ediv_nonneg h1 (by omega)
    · exact Int.le_refl _
  · exact ⟨h1, h2, h3, by show 0 ≤ J.2.2 + 1; omega, by show J.2.2 + 1 ≤ ((n + 1 : Nat) : Int); omega⟩
def pj {n : Nat} (J : Jug n) (s : Int) : Jug (n + 1) := ⟨pjr J.1 s, pjr_ok J.2 s⟩
theorem pv_nn {n : Nat} (J : Jug n) {s : Int} (h : 0 < s) : 0 ≤ pv J s := by
  unfold pv
  split <;> exact Int.emod_nonneg _ (by omega)
theorem pv_lt {n : Nat} (J : Jug n) {s : Int} (h : 0 < s) : pv J s < s := by
  unfold pv
  split <;> exact Int.emod_lt_of_pos _ h
theorem log_lt {x : Int} {k : Nat} (hk : 0 < k) (h1 : -(2 ^ k) < x) (h2 : x < 2 ^ k) : x.natAbs.log2 < k := by
  by_cases z : x.natAbs = 0
  · rw [z]; exact hk
  · rw [Nat.log2_lt z]
    have : ((x.natAbs : Nat) : Int) < ((2 ^ k : Nat) : Int) := by
      rw [Int.natCast_pow]
      show ((x.natAbs : Nat) : Int) < (2 : Int) ^ k
      omega
    exact_mod_cast this
theorem log_mono {x : Int} {k m : Nat} (h : x.natAbs.log2 < k) (l : k ≤ m) : x.natAbs.log2 < m := Nat.lt_of_lt_of_le h l
def pourB : Fs := (sSeq (sIf (fTst (fOp2 dGt (fOp2 dIx (fVar 0) (fC (.int 0))) (fC (.int 0)))) (sSeq (sAsg (fOp2 dMod (fOp2 dIx (fVar 0) (fC (.int 0))) (fVar 1)) (gN 2)) (sSeq (sSub (fOp2 dFdiv (fOp2 dIx (fVar 0) (fC (.int 0))) (fVar 1)) (fVar 0) (fC (.int 0))) (sRet (fVar 2)))) sNx) (sSeq (sSub (fOp2 (dAdd true) (fOp2 dIx (fVar 0) (fC (.int 2))) (fC (.int 1))) (fVar 0) (fC (.int 2))) (sSeq (sAsg (fOp2 dMod (fOp2 dPow (fOp2 (dAdd true) (fOp2 dIx (fVar 0) (fC (.int 1))) (fOp2 (dMul true) (fC (.int 122949829)) (fOp2 dIx (fVar 0) (fC (.int 2))))) (fC (.int 3))) (fOp2 (dAdd true) (fOp2 dPow (fC (.int 10)) (fC (.int 41))) (fC (.int 37)))) (gN 3)) (sSeq (sAsg (fOp2 dMod (fOp2 dPow (fOp2 (dAdd true) (fVar 3) (fOp2 (dMul true) (fC (.int 86028199)) (fOp2 dIx (fVar 0) (fC (.int 2))))) (fC (.int 5))) (fOp2 (dAdd true) (fOp2 dPow (fC (.int 10)) (fC (.int 38))) (fC (.int 133)))) (gN 3)) (sRet (fOp2 dMod (fOp2 dFdiv (fVar 3) (fC (.int 786433))) (fVar 1)))))))
def pourF : List D → List Cell → Out D := runDef 2 4 pourB
theorem atI_nat {α : Type} {xs : List α} {k : Nat} {x : α} (h : xs[k]? = some x) : atI xs (k : Int) = some x := by
  have hl := (List.getElem?_eq_some_iff.mp h).1
  unfold atI ixN
  rw [if_pos (by omega), if_pos (by omega)]
  show xs[(k : Int).toNat]? = _
  rw [Int.toNat_natCast]
  exact h
@[simp] theorem atI_0 {α : Type} {x : α} {r : List α} : atI (x :: r) 0 = some x := atI_nat (k := 0) rfl
@[simp] theorem atI_1 {α : Type} {x0 x : α} {r : List α} : atI (x0 :: x :: r) 1 = some x := atI_nat (k := 1) rfl
@[simp] theorem atI_2 {α : Type} {x0 x1 x : α} {r : List α} : atI (x0 :: x1 :: x :: r) 2 = some x := atI_nat (k := 2) rfl
@[simp] theorem atI_3 {α : Type} {x0 x1 x2 x : α} {r : List α} : atI (x0 :: x1 :: x2 :: x :: r) 3 = some x := atI_nat (k := 3) rfl
@[simp] theorem atI_4 {α : Type} {x0 x1 x2 x3 x : α} {r : List α} : atI (x0 :: x1 :: x2 :: x3 :: x :: r) 4 = some x := atI_nat (k := 4) rfl
theorem pow3Ok {b c : Int} (h1 : 0 ≤ b) (h2 : b < 10 ^ 42) (h3 : 0 ≤ c) (h4 : c ≤ 1000001) (m : Int) (m0 : 0 ≤ m) (m1 : m < 2 ^ 40) (k : Int) (k0 : 0 ≤ k) (k1 : k ≤ 10) : powOk (b + m * c) k := by
  have e1 : 0 ≤ m * c := Int.mul_nonneg m0 h3
  have e2 : m * c ≤ 2 ^ 40 * 1000001 := Int.mul_le_mul (by omega) h4 h3 (by omega)
  refine ⟨k0, by omega, Nat.lt_of_lt_of_le (log_lt (k := 300) (by decide) ?_ ?_) (by decide)⟩
  · omega
  · have : (10 : Int) ^ 42 + 2 ^ 40 * 1000001 < 2 ^ 300 := by decide +kernel
    omega
theorem mulL {i j : Int} (h0 : 0 ≤ i) (h : i < 2 ^ 64) : mulOk i j := Or.inr (Or.inl ⟨by omega, h⟩)
theorem pour_eq (S : Hs) {n : Nat} (J : Jug n) (t : List Cell) {s : Int} (hn : n ≤ 1000000) (h0 : 0 < s) (hs : s.natAbs.log2 < 9000) : pourF [.ref S.i, .int s] (hp S (jc J) t) = .ok (.int (pv J s)) (hp S (jc (pj J s)) t) := by
  obtain ⟨⟨a, b, c⟩, hJ⟩ := J
  obtain ⟨h1, h2, h3, h4, h5⟩ := id hJ
  have hd : divOk s := ⟨h0, hs⟩
  have i0 : ixN 3 0 = some 0 := by decide
  have i2 : ixN 3 2 = some 2 := by decide
  unfold pourF
  rw [runDef_e, if_pos (show [D.ref S.i, D.int s].length = 2 from rfl)]
  unfold pourB
  by_cases q : 0 < a
  · have hv : pv ⟨(a, b, c), hJ⟩ s = a % s := if_pos q
    have hj : jc (pj ⟨(a, b, c), hJ⟩ s) = .lst [.int (a / s), .int b, .int c] := by
      show Cell.lst [.int (pjr (a, b, c) s).1, .int (pjr (a, b, c) s).2.1, .int (pjr (a, b, c) s).2.2] = _
      have : pjr (a, b, c) s = (a / s, b, c) := by
        unfold pjr
        rw [if_pos q]
        show ((if 0 < s then a / s else 0), b, c) = _
        rw [if_pos h0]
      rw [this]
    rw [hv, hj]
    simp [jc, i0, q, h0, hd]
  · have hv : pv ⟨(a, b, c), hJ⟩ s = mix b (c + 1) % s := if_neg q
    have hj : jc (pj ⟨(a, b, c), hJ⟩ s) = .lst [.int a, .int b, .int (c + 1)] := by
      show Cell.lst [.int (pjr (a, b, c) s).1, .int (pjr (a, b, c) s).2.1, .int (pjr (a, b, c) s).2.2] = _
      have : pjr (a, b, c) s = (a, b, c + 1) := by
        unfold pjr
        rw [if_neg q]
      rw [this]
    rw [hv, hj]
    have h2' : 0 ≤ b := h2
    have h3' : b < 10 ^ 42 := h3
    have h4' : 0 ≤ c := h4
    have h5' : c ≤ (n : Int) := h5
    have b1 : 0 ≤ c + 1 := by omega
    have b2 : c + 1 ≤ 1000001 := by omega
    have p1 : powOk (b + 122949829 * (c + 1)) 3 := pow3Ok h2' h3' b1 b2 _ (by decide) (by decide) _ (by decide) (by decide)
    have m1 : mulOk 122949829 (c + 1) := mulL (by decide) (by decide)
    have m2 : mulOk 86028199 (c + 1) := mulL (by decide) (by decide)
    have z1 : 0 ≤ (b + 122949829 * (c + 1)) ^ 3 % (10 ^ 41 + 37) := Int.emod_nonneg _ (by decide)
    have z2 : (b + 122949829 * (c + 1)) ^ 3 % (10 ^ 41 + 37) < 10 ^ 42 := Int.lt_trans (Int.emod_lt_of_pos _ (by decide)) (by decide)
    have p2 : powOk ((b + 122949829 * (c + 1)) ^ 3 % (10 ^ 41 + 37) + 86028199 * (c + 1)) 5 := pow3Ok z1 z2 b1 b2 _ (by decide) (by decide) _ (by decide) (by decide)
    have t1 : powOk 10 41 := by decide +kernel
    have t2 : powOk 10 38 := by decide +kernel
    have t3 : divOk 786433 := by decide +kernel
    have s1 : ((41 : Int).toNat) = 41 := rfl
    have s2 : ((38 : Int).toNat) = 38 := rfl
    have g1 : (0 : Int) < 10 ^ 41 + 37 := by decide
    have g2 : (0 : Int) < 10 ^ 38 + 133 := by decide
    have s3 : ((3 : Int).toNat) = 3 := rfl
    have s5 : ((5 : Int).toNat) = 5 := rfl
    simp only [sSeq_e, sIf_e, fTst_e, fOp2_e, fVar_e, fC_e]
    simp [jc, i0, i2, q, h0, hd, -Int.reducePow, -Int.reduceAdd, -Int.reduceMul, -Int.reduceMod, p1, m1, m2, p2, t1, t2, t3, s1, s2, s3, s5, g1, g2, mix]
@[simp] theorem dLen_a {xs : List D} {cs : List Cell} : dLen [.arg xs] cs = some (.int xs.length, cs) := rfl
@[simp] theorem dLen_l {xs : List D} {cs : List Cell} : dLen [.lst xs] cs = some (.int xs.length, cs) := rfl
@[simp] theorem dLen_t {xs : List D} {cs : List Cell} : dLen [.tup xs] cs = some (.int xs.length, cs) := rfl
def jugB : Fs := (sSeq (sAsg (fIfE (fTst (fOp2 dLt (fVar 1) (fCB dLen (aCons (fVar 0) aNil)))) (fCB dAbs (aCons (fOp2 dIx (fVar 0) (fVar 1)) aNil)) (fC (.int 0))) (gN 2)) (sRet (fLst false (aCons (fCB dMax (aCons (fC (.int 0)) (aCons (fOp2 dSub (fVar 2) (fOp2 dPow (fC (.int 10)) (fC (.int 18)))) aNil))) (aCons (fOp2 (dAdd true) (fOp2 (dMul true) (fOp2 dMod (fVar 2) (fOp2 (dAdd true) (fOp2 dPow (fC (.int 10)) (fC (.int 39))) (fC (.int 3)))) (fC (.int 64))) (fVar 1)) (aCons (fC (.int 0)) aNil))))))
def jugF : List D → List Cell → Out D := runDef 2 3 jugB
theorem jug_tail {x : Int} {k : Nat} (hk : k ≤ 63) (x0 : 0 ≤ x) : jugOk 0 (if x - 10 ^ 18 > 0 then x - 10 ^ 18 else 0, x % (10 ^ 39 + 3) * 64 + k, 0) := by
  have z1 : 0 ≤ x % (10 ^ 39 + 3) := Int.emod_nonneg _ (by decide)
  have z2 : x % (10 ^ 39 + 3) < 10 ^ 39 + 3 := Int.emod_lt_of_pos _ (by decide)
  refine ⟨?_, ?_, ?_, Int.le_refl _, Int.le_refl _⟩
  · show 0 ≤ if x - 10 ^ 18 > 0 then x - 10 ^ 18 else 0
    split <;> omega
  · show 0 ≤ x % (10 ^ 39 + 3) * 64 + k
    omega
  · show x % (10 ^ 39 + 3) * 64 + k < 10 ^ 42
    omega
theorem jug_eq (ns : List Int) (k : Nat) (hk : k ≤ 63) (cs : List Cell) : ∃ J : Jug 0, jugF [.arg (ns.map D.int), .int k] cs = .ok (.ref cs.length) (cs ++ [jc J]) := by
  let x : Int := if h : k < ns.length then (if ns[k] < 0 then -ns[k] else ns[k]) else 0
  have x0 : 0 ≤ x := by
    show 0 ≤ if h : k < ns.length then (if ns[k] < 0 then -ns[k] else ns[k]) else 0
    split
    · split <;> omega
    · exact Int.le_refl _
  refine ⟨⟨_, jug_tail (x := x) hk x0⟩, ?_⟩
  have t1 : powOk 10 18 := by decide +kernel
  have t2 : powOk 10 39 := by decide +kernel
  have s1 : ((18 : Int).toNat) = 18 := rfl
  have s2 : ((39 : Int).toNat) = 39 := rfl
  have g1 : (0 : Int) < 10 ^ 39 + 3 := by decide
  have m1 : mulOk (x % (10 ^ 39 + 3)) 64 := Or.inr (Or.inr (by decide))
  unfold jugF
  rw [runDef_e, if_pos (show [D.arg (ns.map D.int), D.int k].length = 2 from rfl)]
  unfold jugB
  have sz : 3 ≤ sizeLine := by decide
  have hx : (fIfE (fTst (fOp2 dLt (fVar 1) (fCB dLen (aCons (fVar 0) aNil)))) (fCB dAbs (aCons (fOp2 dIx (fVar 0) (fVar 1)) aNil)) (fC (.int 0))) [some (.arg (ns.map D.int)), some (.int k), none] cs = .ok (.int x) cs := by
    by_cases h : k < ns.length
    · have e : atI (ns.map D.int) (k : Int) = some (.int ns[k]) := atI_nat (by rw [List.getElem?_map, List.getElem?_eq_getElem h]; rfl)
      have ex : x = if ns[k] < 0 then -ns[k] else ns[k] := dif_pos h
      simp [h, e, ex]
    · have ex : x = 0 := dif_neg h
      simp [h, ex]
  generalize x = y at hx m1 x0
  rw [sSeq_e, sAsgN_e]
  show runO (Sr.bind (sOf (fIfE _ _ _ [some (.arg (ns.map D.int)), some (.int k), none] cs) _ _) _) = _
  rw [hx]
  simp [jc, -Int.reducePow, -Int.reduceAdd, -Int.reduceMul, -Int.reduceMod, m1, t1, t2, s1, s2, g1, sz]
theorem sel3 {α : Type} {x y z : α} {v : Int} (h0 : 0 ≤ v) (h1 : v < 3) : atI [x, y, z] v = some (if v = 0 then x else if v = 1 then y else z) := by
  have : v = 0 ∨ v = 1 ∨ v = 2 := by omega
  rcases this with e | e | e <;> subst e <;> rfl
theorem sel5 {α : Type} {x y z u w : α} {v : Int} (h0 : 0 ≤ v) (h1 : v < 5) : atI [x, y, z, u, w] v = some (if v = 0 then x else if v = 1 then y else if v = 2 then z else if v = 3 then u else w) := by
  have : v = 0 ∨ v = 1 ∨ v = 2 ∨ v = 3 ∨ v = 4 := by omega
  rcases this with e | e | e | e | e <;> subst e <;> rfl
theorem sel4 {α : Type} {x y z u : α} {v : Int} (h0 : 0 ≤ v) (h1 : v < 4) : atI [x, y, z, u] v = some (if v = 0 then x else if v = 1 then y else if v = 2 then z else u) := by
  have : v = 0 ∨ v = 1 ∨ v = 2 ∨ v = 3 := by omega
  rcases this with e | e | e | e <;> subst e <;> rfl
theorem sel2 {α : Type} {x y : α} {v : Int} (h0 : 0 ≤ v) (h1 : v < 2) : atI [x, y] v = some (if v = 0 then x else y) := by
  have : v = 0 ∨ v = 1 := by omega
  rcases this with e | e <;> subst e <;> rfl
theorem ite_int {p : Prop} [Decidable p] {a b : Int} : (if p then D.int a else D.int b) = D.int (if p then a else b) := by split <;> rfl
theorem ite_int' {p : Prop} [Decidable p] {a : Int} {d : D} {b : Int} (h : d = D.int b) : (if p then D.int a else d) = D.int (if p then a else b) := by subst h; split <;> rfl
theorem pour_ex (S : Hs) {n : Nat} (J : Jug n) {s : Int} (hn : n ≤ 1000000) (h0 : 0 < s) (hs : s.natAbs.log2 < 9000) : ∃ (v : Int) (J' : Jug (n + 1)), (∀ t, pourF [.ref S.i, .int s] (hp S (jc J) t) = .ok (.int v) (hp S (jc J') t)) ∧ 0 ≤ v ∧ v < s :=
  ⟨_, _, fun t => pour_eq S J t hn h0 hs, pv_nn J h0, pv_lt J h0⟩
end PV

namespace PV
open PySem PySem.Spec PyProof.Rows L2

/-! ### repr of data without texts: its length is small -/
mutual
def wgt : PyData → Nat
  | .none => 4
  | .bool _ => 5
  | .int _ => 1921
  | .list xs => wgts xs + 2
  | .tuple xs => wgts xs + 3
  | _ => 2 ^ 30
def wgts : List PyData → Nat
  | [] => 0
  | x :: xs => wgt x + 2 + wgts xs
end
mutual
def noTxt : PyData → Bool
  | .none | .bool _ | .int _ => true
  | .list xs | .tuple xs => noTxts xs
  | _ => false
def noTxts : List PyData → Bool
  | [] => true
  | x :: xs => noTxt x && noTxts xs
end
theorem textFrom_up : ∀ (ts : List Str) (k : Nat) (acc : Str), (textFrom k acc ts).length ≤ acc.length + piled ts
  | [], k, acc => by show acc.length ≤ acc.length + 0; omega
  | t :: r, k, acc => by
    have ih := textFrom_up r (k + 1) (acc ++ (if k > 0 then ", " else "" : String) ++ t)
    have e : (acc ++ (if k > 0 then ", " else "" : String) ++ t).length = acc.length + (if k > 0 then 2 else 0) + t.length := by
      rw [strLen_append, strLen_append]
      split <;> rfl
    rw [e] at ih
    show (textFrom (k + 1) _ r).length ≤ _
    rw [piled_cons]
    have : (if k > 0 then 2 else 0 : Nat) ≤ 2 := by split <;> omega
    omega
theorem listText_up (ts : List Str) : (listText ts).length ≤ piled ts + 2 := by
  unfold listText
  rw [strLen_append]
  have h := textFrom_up ts 0 "["
  have e1 : ((("[" : String) : Str)).length = 1 := rfl
  have e2 : ((("]" : String) : Str)).length = 1 := rfl
  rw [e1] at h
  rw [e2]
  omega
theorem tupleText_up (ts : List Str) : (tupleText ts).length ≤ piled ts + 3 := by
  unfold tupleText
  rw [strLen_append, strLen_append]
  have e1 : ((("(" : String) : Str)).length = 1 := rfl
  have e3 : (((if ts.length == 1 then ",)" else ")" : String) : Str)).length ≤ 2 := by split <;> decide
  rw [e1]
  by_cases h : ts = []
  · subst h
    have : (Str.join ", " []).length = 0 := rfl
    rw [this]
    omega
  · have := join_length_add ts h
    omega
mutual
theorem shown_up : ∀ p : PyData, noTxt p = true → p.showable = true → p.shown.length ≤ wgt p
  | .none, _, _ => by
    have : (PyData.shown .none).length = 4 := by simp only [PyData.shown]; rfl
    rw [this]; simp [wgt]
  | .bool b, _, _ => by
    cases b
    · have : (PyData.shown (.bool false)).length = 5 := by simp only [PyData.shown]; rfl
      rw [this]; simp [wgt]
    · have : (PyData.shown (.bool true)).length = 4 := by simp only [PyData.shown]; rfl
      rw [this]; simp [wgt]
  | .int i, _, h => by
    have h' : i.natAbs.log2 < 1920 := by simpa [PyData.showable] using h
    have := int_text_len_1921 h'
    simp only [PyData.shown, wgt]
    exact this
  | .list xs, h1, h2 => by
    have h := shown_ups xs (by simpa [noTxt] using h1) (by simpa [PyData.showable] using h2)
    simp only [PyData.shown, wgt]
    exact Nat.le_trans (listText_up _) (by omega)
  | .tuple xs, h1, h2 => by
    have h := shown_ups xs (by simpa [noTxt] using h1) (by simpa [PyData.showable] using h2)
    simp only [PyData.shown, wgt]
    exact Nat.le_trans (tupleText_up _) (by omega)
  | .str _, h, _ => by simp [noTxt] at h
  | .dict _, h, _ => by simp [noTxt] at h
theorem shown_ups : ∀ ps : List PyData, noTxts ps = true → PyData.showableAll ps = true → piled (PyData.shownAll ps) ≤ wgts ps
  | [], _, _ => by simp [PyData.shownAll, piled]
  | p :: ps, h1, h2 => by
    have a1 : noTxt p = true ∧ noTxts ps = true := by simpa [noTxts] using h1
    have a2 : p.showable = true ∧ PyData.showableAll ps = true := by simpa [PyData.showableAll] using h2
    have i1 := shown_up p a1.1 a2.1
    have i2 := shown_ups ps a1.2 a2.2
    simp only [PyData.shownAll, wgts]
    rw [piled_cons]
    omega
end
mutual
theorem noTxt_dict : ∀ p : PyData, noTxt p = true → p.hasDict = false
  | .none, _ => by simp only [PyData.hasDict]
  | .bool b, _ => by simp only [PyData.hasDict]
  | .int i, _ => by simp only [PyData.hasDict]
  | .list xs, h => by simp only [PyData.hasDict]; exact noTxts_dict xs (by simpa [noTxt] using h)
  | .tuple xs, h => by simp only [PyData.hasDict]; exact noTxts_dict xs (by simpa [noTxt] using h)
  | .str _, h => by simp [noTxt] at h
  | .dict _, h => by simp [noTxt] at h
theorem noTxts_dict : ∀ p : List PyData, noTxts p = true → PyData.hasDictAll p = false
  | [], _ => by simp only [PyData.hasDictAll]
  | x :: xs, h => by
    have a1 : noTxt x = true ∧ noTxts xs = true := by simpa [noTxts] using h
    simp only [PyData.hasDictAll, noTxt_dict x a1.1, noTxts_dict xs a1.2, Bool.or_self]
end
/-! repr and == as simp reckons them: by a datum's own function -/
def repO (p : Option PyData) (cs : List Cell) : Rs D := match p with
  | some p => if rpOk p = true ∧ p.showable = true ∧ p.hasDict = false ∧ p.depth ≤ 100 ∧ p.shown.length ≤ sizeLine then some (.str p.shown, cs) else none
  | none => none
@[simp] theorem dRepr_l {xs : List D} {cs : List Cell} : dRepr [.lst xs] cs = repO ((toP0s xs).map .list) cs := by
  show repO (toP cs (.lst xs)) cs = _
  simp only [toP, toP0]
@[simp] theorem dRepr_t {xs : List D} {cs : List Cell} : dRepr [.tup xs] cs = repO ((toP0s xs).map .tuple) cs := by
  show repO (toP cs (.tup xs)) cs = _
  simp only [toP, toP0]
@[simp] theorem dRepr_i {i : Int} {cs : List Cell} : dRepr [.int i] cs = repO (some (.int i)) cs := by
  show repO (toP cs (.int i)) cs = _
  simp only [toP, toP0]
@[simp] theorem toP0s_nil : toP0s [] = some [] := by simp only [toP0s]
def consP (a : Option PyData) (b : Option (List PyData)) : Option (List PyData) := match a, b with
  | some p, some ps => some (p :: ps)
  | _, _ => none
@[simp] theorem consP_s {a : PyData} {b : List PyData} : consP (some a) (some b) = some (a :: b) := rfl
@[simp] theorem toP0s_cons {d : D} {ds : List D} : toP0s (d :: ds) = consP (toP0 d) (toP0s ds) := by
  simp only [toP0s]
  cases toP0 d <;> cases toP0s ds <;> rfl
@[simp] theorem toP0_i {i : Int} : toP0 (.int i) = some (.int i) := by simp only [toP0]
@[simp] theorem toP0_b {i : Bool} : toP0 (.bl i) = some (.bool i) := by simp only [toP0]
@[simp] theorem toP0_n : toP0 .non = some .none := by simp only [toP0]
@[simp] theorem toP0_s {x : Str} : toP0 (.str x) = some (.str x) := by simp only [toP0]
@[simp] theorem toP0_t {xs : List D} : toP0 (.tup xs) = (toP0s xs).map .tuple := by simp only [toP0]
@[simp] theorem toP0_l {xs : List D} : toP0 (.lst xs) = (toP0s xs).map .list := by simp only [toP0]
/-- what repr asks, when no text is in it -/
def repOk (p : PyData) : Prop := noTxt p = true ∧ p.showable = true ∧ rpOk p = true ∧ p.depth ≤ 100 ∧ wgt p ≤ 2 ^ 24
theorem repO_s {p : PyData} {cs : List Cell} (h : repOk p) : repO (some p) cs = some (.str p.shown, cs) := by
  obtain ⟨h1, h2, h3, h4, h5⟩ := h
  exact if_pos ⟨h3, h2, noTxt_dict p h1, h4, Nat.le_trans (shown_up p h1 h2) h5⟩
def okS (x : Str) : Prop := ∀ k ∈ x.cps.toList, k < 0x110000
theorem okS_app {a b : Str} (h1 : okS a) (h2 : okS b) : okS (a ++ b) := fun k h => by
  rcases mem_cps_append.mp h with h | h
  · exact h1 k h
  · exact h2 k h
theorem okS_int (i : Int) : okS ((toString i : String) : Str) := fun k h => by
  by_cases q : k < 0x110000
  · exact q
  · exact absurd h (int_text_free' k ⟨by omega, by omega⟩ i)
theorem okS_from : ∀ (ts : List Str) (k : Nat) (acc : Str), okS acc → (∀ t ∈ ts, okS t) → okS (textFrom k acc ts)
  | [], k, acc, h, _ => h
  | t :: r, k, acc, h, ht => by
    refine okS_from r (k + 1) _ (okS_app (okS_app h ?_) (ht t (List.mem_cons_self ..))) fun u hu => ht u (List.mem_cons_of_mem _ hu)
    by_cases q : k > 0
    · rw [if_pos q]; unfold okS; decide +kernel
    · rw [if_neg q]; unfold okS; decide +kernel
theorem okS_join : ∀ ts : List Str, (∀ t ∈ ts, okS t) → okS (Str.join ", " ts)
  | [], _ => by unfold okS; decide +kernel
  | [x], h => h x (List.mem_cons_self ..)
  | x :: y :: r, h => by
    show okS (x ++ ", " ++ Str.join ", " (y :: r))
    exact okS_app (okS_app (h x (List.mem_cons_self ..)) (by unfold okS; decide +kernel)) (okS_join (y :: r) fun u hu => h u (List.mem_cons_of_mem _ hu))
theorem okS_list {ts : List Str} (h : ∀ t ∈ ts, okS t) : okS (listText ts) := okS_app (okS_from ts 0 "[" (by unfold okS; decide +kernel) h) (by unfold okS; decide +kernel)
theorem okS_tuple {ts : List Str} (h : ∀ t ∈ ts, okS t) : okS (tupleText ts) := by
  unfold tupleText
  refine okS_app (okS_app (by unfold okS; decide +kernel) (okS_join ts h)) ?_
  split <;> (unfold okS; decide +kernel)
mutual
theorem shown_okS : ∀ p : PyData, noTxt p = true → okS p.shown
  | .none, _ => by simp only [PyData.shown]; unfold okS; decide +kernel
  | .bool b, _ => by
    cases b <;> (simp only [PyData.shown]; unfold okS; decide +kernel)
  | .int i, _ => by simp only [PyData.shown]; exact okS_int i
  | .list xs, h => by simp only [PyData.shown]; exact okS_list (shown_okSs xs (by simpa [noTxt] using h))
  | .tuple xs, h => by simp only [PyData.shown]; exact okS_tuple (shown_okSs xs (by simpa [noTxt] using h))
  | .str _, h => by simp [noTxt] at h
  | .dict _, h => by simp [noTxt] at h
theorem shown_okSs : ∀ ps : List PyData, noTxts ps = true → ∀ t ∈ PyData.shownAll ps, okS t
  | [], _, t, h => by simp [PyData.shownAll] at h
  | p :: ps, h1, t, h => by
    have a1 : noTxt p = true ∧ noTxts ps = true := by simpa [noTxts] using h1
    simp only [PyData.shownAll] at h
    rcases List.mem_cons.mp h with e | h
    · rw [e]; exact shown_okS p a1.1
    · exact shown_okSs ps a1.2 t h
end
theorem strOk_of {x : Str} (h : okS x) : PyData.strOk x = true := by
  unfold PyData.strOk
  rw [Array.all_eq_true']
  intro k hk
  exact decide_eq_true (h k (by simpa using hk))
theorem dEq_s {n : Bool} {x y : Str} {cs : List Cell} (hx : okS x) (hy : okS y) : dEq n (.str x) (.str y) cs = some (.bl (if n then !decide (x = y) else decide (x = y)), cs) := by
  have h1 : SeqAt.shaped (PyData.str x) = true := by
    unfold SeqAt.shaped
    rw [show PyData.canLay0 (.str x) = true from by simp only [PyData.canLay0]; exact strOk_of hx]
    rfl
  have h2 : SeqAt.shaped (PyData.str y) = true := by
    unfold SeqAt.shaped
    rw [show PyData.canLay0 (.str y) = true from by simp only [PyData.canLay0]; exact strOk_of hy]
    rfl
  show (if SeqAt.shaped (PyData.str x) = true ∧ SeqAt.shaped (PyData.str y) = true then some (D.bl (if n then !PyData.eqv (.str x) (.str y) else PyData.eqv (.str x) (.str y)), cs) else none) = _
  rw [if_pos ⟨h1, h2⟩]
  have : PyData.eqv (.str x) (.str y) = decide (x = y) := by
    simp only [PyData.eqv]
    by_cases h : x = y <;> simp [h]
  rw [this]
theorem dEq_sh {n : Bool} {p q : PyData} {cs : List Cell} (hp : repOk p) (hq : repOk q) : dEq n (.str p.shown) (.str q.shown) cs = some (.bl (if n then !decide (p.shown = q.shown) else decide (p.shown = q.shown)), cs) :=
  dEq_s (shown_okS p hp.1) (shown_okS q hq.1)
def eqO (n : Bool) (p q : Option PyData) (cs : List Cell) : Rs D := match p, q with
  | some p, some q => if SeqAt.shaped p = true ∧ SeqAt.shaped q = true then some (.bl (if n then !PyData.eqv p q else PyData.eqv p q), cs) else none
  | _, _ => none
@[simp] theorem eqO_e {n : Bool} {p q : PyData} {cs : List Cell} : eqO n (some p) (some q) cs = if SeqAt.shaped p = true ∧ SeqAt.shaped q = true then some (.bl (if n then !PyData.eqv p q else PyData.eqv p q), cs) else none := rfl
theorem eqO_s {n : Bool} {p q : PyData} {cs : List Cell} (h1 : SeqAt.shaped p = true) (h2 : SeqAt.shaped q = true) : eqO n (some p) (some q) cs = some (.bl (if n then !PyData.eqv p q else PyData.eqv p q), cs) := if_pos ⟨h1, h2⟩
@[simp] theorem dEq_l {n : Bool} {xs ys : List D} {cs : List Cell} : dEq n (.lst xs) (.lst ys) cs = eqO n ((toP0s xs).map .list) ((toP0s ys).map .list) cs := by
  show eqO n (toP cs (.lst xs)) (toP cs (.lst ys)) cs = _
  simp only [toP, toP0]
@[simp] theorem dEq_t {n : Bool} {xs ys : List D} {cs : List Cell} : dEq n (.tup xs) (.tup ys) cs = eqO n ((toP0s xs).map .tuple) ((toP0s ys).map .tuple) cs := by
  show eqO n (toP cs (.tup xs)) (toP cs (.tup ys)) cs = _
  simp only [toP, toP0]
/-! comprehensions -/
@[simp ↓] theorem fLc_e {fz : Bool} {fi : Fi} {g : Gt} {ft : Ft} {fe : Fe} {vs : List Nat} {σ : Sd} {cs : List Cell} : fLc fz fi g ft fe vs σ cs = (fi σ cs).bnd fun ds c => lcE fz (lcM g ft fe (wipeD σ vs) ds c) := rfl
@[simp] theorem lcE_ok {fz : Bool} {xs : List D} {c : List Cell} : lcE fz (.ok xs c) = if xs.length ≤ sizeLine then up (mkL fz xs c) else .no := rfl
def lcS (o : Option Sd) (k : Sd → Out (List D)) (t : Tg k := .mk) : Out (List D) := match o with
  | none => .no
  | some σ => k σ
@[simp] theorem lcS_s {σ : Sd} {k : Sd → Out (List D)} {t : Tg k} : lcS (some σ) k t = k σ := rfl
def lcT (o : Out Bool) (k j : List Cell → Out (List D)) (t : Tg k := .mk) (t' : Tg j := .mk) : Out (List D) := match o with
  | .ok true c => k c
  | .ok false c => j c
  | _ => .no
@[simp] theorem lcT_t {c : List Cell} {k j : List Cell → Out (List D)} {t : Tg k} {t' : Tg j} : lcT (.ok true c) k j t t' = k c := rfl
@[simp] theorem lcT_f {c : List Cell} {k j : List Cell → Out (List D)} {t : Tg k} {t' : Tg j} : lcT (.ok false c) k j t t' = j c := rfl
def lcV (o : Out D) (k : D → List Cell → Out (List D)) (t : Tg k := .mk) : Out (List D) := match o with
  | .ok y c => k y c
  | _ => .no
@[simp] theorem lcV_ok {y : D} {c : List Cell} {k : D → List Cell → Out (List D)} {t : Tg k} : lcV (.ok y c) k t = k y c := rfl
@[simp] theorem lcM_nil {g : Gt} {ft : Ft} {fe : Fe} {σ : Sd} {c : List Cell} : lcM g ft fe σ [] c = .ok [] c := rfl
@[simp ↓] theorem lcM_cons {g : Gt} {ft : Ft} {fe : Fe} {σ : Sd} {d : D} {ds : List D} {c : List Cell} : lcM g ft fe σ (d :: ds) c = lcS (g d σ c) fun σ1 => lcT (ft σ1 c) (fun c1 => lcV (fe σ1 c1) fun y c2 => (lcM g ft fe σ ds c2).bnd fun ys c3 => .ok (y :: ys) c3) (fun c1 => lcM g ft fe σ ds c1) := by
  show (match g d σ c with
    | none => Out.no
    | some σ1 => match ft σ1 c with
      | .ok true c1 => match fe σ1 c1 with
        | .ok y c2 => (lcM g ft fe σ ds c2).bnd fun ys c3 => .ok (y :: ys) c3
        | _ => .no
      | .ok false c1 => lcM g ft fe σ ds c1
      | _ => .no) = _
  cases g d σ c with
  | none => rfl
  | some σ1 =>
    show (match ft σ1 c with
      | .ok true c1 => match fe σ1 c1 with
        | .ok y c2 => (lcM g ft fe σ ds c2).bnd fun ys c3 => .ok (y :: ys) c3
        | _ => Out.no
      | .ok false c1 => lcM g ft fe σ ds c1
      | _ => .no) = lcT _ _ _
    cases ft σ1 c with
    | ok b c1 => cases b with
      | false => rfl
      | true =>
        show (match fe σ1 c1 with
        | .ok y c2 => (lcM g ft fe σ ds c2).bnd fun ys c3 => .ok (y :: ys) c3
        | _ => Out.no) = lcV _ _
        cases fe σ1 c1 <;> rfl
    | ex x c1 => rfl
    | no => rfl
def seqO (d : D) (c : List Cell) : Out (List D) := match lstOf c d with
  | some xs => .ok xs c
  | none => .no
@[simp] theorem wipeD_nil {σ : Sd} : wipeD σ [] = σ := rfl
@[simp] theorem wipeD_cons {σ : Sd} {v : Nat} {vs : List Nat} : wipeD σ (v :: vs) = (wipeD σ vs).set v none := rfl
def walkO (d : D) (c : List Cell) : Out (List D) := match d with
  | .lst xs => .ok xs c
  | .arg xs => .ok xs c
  | _ => .no
@[simp] theorem walkO_l {xs : List D} {c : List Cell} : walkO (.lst xs) c = .ok xs c := rfl
@[simp] theorem walkO_a {xs : List D} {c : List Cell} : walkO (.arg xs) c = .ok xs c := rfl
@[simp ↓] theorem iSeq_e {f : Fe} {σ : Sd} {cs : List Cell} : iSeq f σ cs = (f σ cs).bnd fun d c => walkO d c := rfl
def walkT (d : D) (c : List Cell) : Out (List D) := match d with
  | .tup xs => .ok xs c
  | .argT xs => .ok xs c
  | _ => .no
@[simp] theorem walkT_t {xs : List D} {c : List Cell} : walkT (.tup xs) c = .ok xs c := rfl
@[simp ↓] theorem iTup_e {f : Fe} {σ : Sd} {cs : List Cell} : iTupD f σ cs = (f σ cs).bnd fun d c => walkT d c := rfl
def rgO1 (ds : List D) (c : List Cell) : Out (List D) := match ds with
  | [.int j] => if -(2 ^ 62) ≤ j ∧ j < 2 ^ 62 then .ok (rngD 0 j.toNat) c else .no
  | _ => .no
@[simp] theorem rgO1_i {j : Int} {c : List Cell} : rgO1 [.int j] c = if -(2 ^ 62) ≤ j ∧ j < 2 ^ 62 then .ok (rngD 0 j.toNat) c else .no := rfl
@[simp ↓] theorem iRg1_e {f : Fa} {σ : Sd} {cs : List Cell} : iRg1 f σ cs = (f σ cs).bnd fun ds c => rgO1 ds c := rfl
theorem rngD_get {lo : Int} {n i : Nat} {d : D} (h : (rngD lo n)[i]? = some d) : i < n ∧ d = .int (lo + i) := by
  unfold rngD at h
  rw [List.getElem?_map] at h
  cases e : (List.range n)[i]? with
  | none => rw [e] at h; cases h
  | some j =>
    rw [e] at h
    have h1 := (List.getElem?_eq_some_iff.mp e).1
    have h2 := (List.getElem?_eq_some_iff.mp e).2
    rw [List.length_range] at h1
    rw [List.getElem_range] at h2
    subst h2
    cases h
    exact ⟨h1, rfl⟩
/-- an int that repr takes -/
def sm (a : Int) : Prop := a.natAbs.log2 < 1920
theorem sm_of {a : Int} (h1 : -(2 ^ 1000) < a) (h2 : a < 2 ^ 1000) : sm a := log_mono (log_lt (k := 1000) (by decide) h1 h2) (by decide)
end PV

namespace PV
open PySem PySem.Spec PyProof.Rows L2

/-! ### texts, own ==, dicts: lemmas for simp -/
def itx (i : Int) : Str := Str.ofString (toString i)
theorem itx_len {i : Int} (h : sm i) : (itx i).length ≤ 1921 := int_text_len_1921 h
@[simp ↓] theorem fFmt_e {f : Fe} {σ : Sd} {cs : List Cell} : fFmt f σ cs = (f σ cs).bnd fun d c => fmtO d c := rfl
@[simp] theorem fmtO_s {x : Str} {c : List Cell} : fmtO (.str x) c = if x.length ≤ sizeLine then .ok (.str x) c else .no := rfl
@[simp] theorem fmtO_i {i : Int} {c : List Cell} : fmtO (.int i) c = if i.natAbs.log2 < 1920 then .ok (.str (itx i)) c else .no := rfl
@[simp ↓] theorem joinF_nil {acc : Str} {σ : Sd} {cs : List Cell} : joinF [] acc σ cs = .ok (.str acc) cs := rfl
def jnO (acc : Str) (d : D) (c : List Cell) (k : Str → List Cell → Out D) (t : Tg k := .mk) : Out D := match d with
  | .str y => if (acc ++ y).length ≤ sizeLine then k (acc ++ y) c else .no
  | _ => .no
@[simp] theorem jnO_s {acc y : Str} {c : List Cell} {k : Str → List Cell → Out D} {t : Tg k} : jnO acc (.str y) c k t = if (acc ++ y).length ≤ sizeLine then k (acc ++ y) c else .no := rfl
@[simp ↓] theorem joinF_cons {f : Fe} {r : List Fe} {acc : Str} {σ : Sd} {cs : List Cell} : joinF (f :: r) acc σ cs = (f σ cs).bnd fun d c => jnO acc d c fun a c => joinF r a σ c := by
  show Out.bind _ _ = Out.bind _ _
  refine congrArg _ (funext fun d => funext fun c => ?_)
  cases d <;> rfl
@[simp] theorem dAdd_s {fz : Bool} {i j : Str} {cs : List Cell} : dAdd fz (.str i) (.str j) cs = if i.length + j.length ≤ sizeLine then some (.str (i ++ j), cs) else none := rfl
def altO {α : Type} (a b : Option α) (t : Tg b := .mk) : Option α := match a with
  | some r => some r
  | none => b
@[simp] theorem altO_s {α : Type} {a : α} {b : Option α} {t : Tg b} : altO (some a) b t = some a := rfl
@[simp] theorem altO_n {α : Type} {b : Option α} {t : Tg b} : altO none b t = b := rfl
@[simp ↓] theorem gAlt_e {g g' : G2} {x y : D} {cs : List Cell} : gAlt g g' x y cs = altO (g x y cs) (g' x y cs) := by
  unfold gAlt altO
  cases g x y cs <;> rfl
theorem dEq_b {n : Bool} {i j : Bool} {cs : List Cell} : dEq n (.bl i) (.bl j) cs = some (.bl (if n then !decide (i = j) else decide (i = j)), cs) := by
  have h1 : SeqAt.shaped (PyData.bool i) = true := rfl
  have h2 : SeqAt.shaped (PyData.bool j) = true := rfl
  show (if SeqAt.shaped (PyData.bool i) = true ∧ SeqAt.shaped (PyData.bool j) = true then some (D.bl (if n then !PyData.eqv (.bool i) (.bool j) else PyData.eqv (.bool i) (.bool j)), cs) else none) = _
  rw [if_pos ⟨h1, h2⟩]
  have : PyData.eqv (.bool i) (.bool j) = decide (i = j) := by
    simp only [PyData.eqv]
    cases i <;> cases j <;> rfl
  rw [this]
@[simp] theorem dEq_ins {n : Bool} {c : Nat} {fs : List (Str × D)} {y : D} {cs : List Cell} : dEq n (.ins c fs) y cs = none := by
  unfold dEq toP
  cases toP cs y <;> rfl
/-- x == y by an own __eq__ that is known to say b -/
theorem dOwn_s {neg : Bool} {c n : Nat} {nf : List Kd} {F : List D → List Cell → Out D} {x y : D} {cs : List Cell} {fs : List (Str × D)} {k : Kd} {b : Bool} (h1 : insOf cs x = some (c, fs)) (h2 : kdOf cs y = some k) (h3 : k ∈ nf) (h4 : okKd n k = true)
    (h5 : F [x, y] cs = .ok (.bl b) cs) : dOwn neg c n nf F x y cs = some (.bl (if neg then !b else b), cs) := by
  unfold dOwn
  rw [h1, h2]
  show (if c = c ∧ k ∈ nf ∧ okKd n k = true then match F [x, y] cs with
    | .ok (.bl b) cs' => some (D.bl (if neg then !b else b), cs')
    | _ => none
    else none) = _
  rw [if_pos ⟨rfl, h3, h4⟩, h5]
@[simp ↓] theorem fDsp0_e {σ : Sd} {cs : List Cell} : fDsp0 σ cs = .ok (.dic []) cs := rfl
def rfO (o : Option Cell) : Option PyData := match o with
  | some (.lst xs) => (toP0s xs).map .list
  | _ => none
@[simp] theorem rfO_s {xs : List D} : rfO (some (.lst xs)) = (toP0s xs).map .list := rfl
theorem toP_r {cs : List Cell} {i : Nat} : toP cs (.ref i) = rfO (cAt cs i) := by
  rcases h : cs[i]? with _ | (_ | _ | _) <;> simp only [toP, rfO, cAt, h]
theorem toP_l {cs : List Cell} {xs : List D} : toP cs (.lst xs) = (toP0s xs).map .list := by simp only [toP, toP0]
@[simp] theorem dEq_rl {n : Bool} {i : Nat} {ys : List D} {cs : List Cell} : dEq n (.ref i) (.lst ys) cs = eqO n (rfO (cAt cs i)) ((toP0s ys).map .list) cs := by
  rw [← toP_r, ← toP_l (cs := cs)]; rfl
@[simp] theorem dEq_lr {n : Bool} {i : Nat} {ys : List D} {cs : List Cell} : dEq n (.lst ys) (.ref i) cs = eqO n ((toP0s ys).map .list) (rfO (cAt cs i)) cs := by
  rw [← toP_r, ← toP_l (cs := cs)]; rfl
@[simp] theorem dEq_rr {n : Bool} {i j : Nat} {cs : List Cell} : dEq n (.ref i) (.ref j) cs = eqO n (rfO (cAt cs i)) (rfO (cAt cs j)) cs := by
  rw [← toP_r, ← toP_r]; rfl
@[simp] theorem dList_l {fz : Bool} {xs : List D} {cs : List Cell} : dList fz [.lst xs] cs = mkL fz xs cs := rfl
def dsO (o : Out D) (k : D → List Cell → Out D) (t : Tg k := .mk) : Out D := match o with
  | .ok y c => k y c
  | _ => .no
@[simp] theorem dsO_ok {y : D} {c : List Cell} {k : D → List Cell → Out D} {t : Tg k} : dsO (.ok y c) k t = k y c := rfl
@[simp ↓] theorem fDsp1_e {k : Key} {f : Fe} {σ : Sd} {cs : List Cell} : fDsp [(k, f)] σ cs = dsO (f σ cs) fun d c => .ok (.dic [(k, d)]) c := by
  unfold fDsp dispF dsO
  cases f σ cs with
  | ok d c =>
    show (if ([(k, d)].map (·.1)).Nodup ∧ [(k, d)].length ≤ 15 then Out.ok (D.dic [(k, d)]) c else .no) = _
    rw [if_pos ⟨by simp, by simp⟩]
  | ex x c => rfl
  | no => rfl
end PV

namespace PV
open PySem PySem.Spec PyProof.Rows L2

/-! ### what laws k05 .. k12, k14 draw: near numbers, spots, sizes -/
def nearB : Fs := (sSeq (sAsg (fCall (fnK 2 0 2 pourF (fun ds _ => ds)) (aCons (fVar 0) (aCons (fCB dMin (aCons (fVar 1) (aCons (fC (.int 4)) aNil))) aNil)) aNil) (gN 2)) (sRet (fOp2 dIx (fLst true (aCons (fVar 2) (aCons (fOp2 dSub (fOp2 dSub (fVar 1) (fC (.int 1))) (fVar 2)) (aCons (fCall (fnK 2 0 2 pourF (fun ds _ => ds)) (aCons (fVar 0) (aCons (fVar 1) aNil)) aNil) aNil)))) (fCall (fnK 2 0 2 pourF (fun ds _ => ds)) (aCons (fVar 0) (aCons (fC (.int 3)) aNil)) aNil))))
def nearF : List D → List Cell → Out D := runDef 2 3 nearB
section
variable {n : Nat}
theorem log30 {L : Int} (h1 : 1 ≤ L) (h2 : L ≤ 10 ^ 30) : L.natAbs.log2 < 9000 := log_mono (log_lt (k := 200) (by decide) (by omega) (Int.lt_of_le_of_lt h2 (by decide))) (by decide)
theorem near_ex (S : Hs) (J : Jug n) (hn : n ≤ 900000) {L : Int} (h1 : 1 ≤ L) (h2 : L ≤ 10 ^ 30) : ∃ (v : Int) (J' : Jug (n + 3)), (∀ t, nearF [.ref S.i, .int L] (hp S (jc J) t) = .ok (.int v) (hp S (jc J') t)) ∧ 0 ≤ v ∧ v < L := by
  obtain ⟨m, hm⟩ : ∃ m : Int, m = if 4 < L then 4 else L := ⟨_, rfl⟩
  have m1 : 1 ≤ m ∧ m ≤ L ∧ m ≤ 4 := by rw [hm]; split <;> omega
  obtain ⟨a, J1, e1, a0, a1⟩ := pour_ex S J (s := m) (by omega) (by omega) (log30 m1.1 (by omega))
  obtain ⟨b, J2, e2, b0, b1⟩ := pour_ex S J1 (s := L) (by omega) (by omega) (log30 h1 h2)
  obtain ⟨c, J3, e3, c0, c1⟩ := pour_ex S J2 (s := 3) (by omega) (by decide) (by decide)
  have sz : 3 ≤ sizeLine := by decide
  refine ⟨if c = 0 then a else if c = 1 then L - 1 - a else b, J3, fun t => ?_, ?_⟩
  · have hs : atI [D.int a, D.int (L - 1 - a), D.int b] c = some (.int (if c = 0 then a else if c = 1 then L - 1 - a else b)) := by
      rw [sel3 c0 c1, PV.ite_int, PV.ite_int]
    unfold nearF
    rw [runDef_e, if_pos (show [D.ref S.i, D.int L].length = 2 from rfl)]
    unfold nearB
    simp [← hm, e1, e2, e3, hs, sz]
  · split
    · omega
    · split <;> omega
def spotB : Fs := (sRet (fTup (aCons (fCall (fnK 2 0 2 nearF (fun ds _ => ds)) (aCons (fVar 0) (aCons (fVar 1) aNil)) aNil) (aCons (fCall (fnK 2 0 2 nearF (fun ds _ => ds)) (aCons (fVar 0) (aCons (fVar 2) aNil)) aNil) aNil))))
def spotF : List D → List Cell → Out D := runDef 3 3 spotB
theorem spot_ex (S : Hs) (J : Jug n) (hn : n ≤ 800000) {L M : Int} (h1 : 1 ≤ L) (h2 : L ≤ 10 ^ 30) (h3 : 1 ≤ M) (h4 : M ≤ 10 ^ 30) : ∃ (v u : Int) (J' : Jug (n + 6)), (∀ t, spotF [.ref S.i, .int L, .int M] (hp S (jc J) t) = .ok (.tup [.int v, .int u]) (hp S (jc J') t)) ∧ (0 ≤ v ∧ v < L) ∧ 0 ≤ u ∧ u < M := by
  obtain ⟨a, J1, e1, a0, a1⟩ := near_ex S J (by omega) h1 h2
  obtain ⟨b, J2, e2, b0, b1⟩ := near_ex S J1 (by omega) h3 h4
  have sz : 2 ≤ sizeLine := by decide
  refine ⟨a, b, J2, fun t => ?_, ⟨a0, a1⟩, b0, b1⟩
  unfold spotF
  rw [runDef_e, if_pos (show [D.ref S.i, D.int L, D.int M].length = 3 from rfl)]
  unfold spotB
  simp [e1, e2, sz]
def sizeL : Fs := (sSeq (sAsg (fCall (fnK 2 0 2 pourF (fun ds _ => ds)) (aCons (fVar 0) (aCons (fC (.int 4)) aNil)) aNil) (gN 3)) (sSeq (sAsg (fLst true (aCons (fOp2 (dAdd true) (fC (.int 1)) (fCall (fnK 2 0 2 pourF (fun ds _ => ds)) (aCons (fVar 0) (aCons (fC (.int 4)) aNil)) aNil)) (aCons (fOp2 (dAdd true) (fC (.int 1)) (fCall (fnK 2 0 2 pourF (fun ds _ => ds)) (aCons (fVar 0) (aCons (fC (.int 60)) aNil)) aNil)) aNil))) (gN 4)) (sEx (fLm mAppend (fVar 1) (aCons (fOp2 dIx (fOp2 (dAdd true) (fVar 4) (fLst true (aCons (fOp2 dSub (fOp2 dPow (fC (.int 10)) (fC (.int 30))) (fCall (fnK 2 0 2 pourF (fun ds _ => ds)) (aCons (fVar 0) (aCons (fC (.int 2)) aNil)) aNil)) (aCons (fOp2 (dAdd true) (fC (.int 1)) (fCall (fnK 2 0 2 pourF (fun ds _ => ds)) (aCons (fVar 0) (aCons (fOp2 dPow (fC (.int 10)) (fC (.int 30))) aNil)) aNil)) aNil)))) (fVar 3)) aNil)))))
def sizeB : Fs := (sSeq (sAsg (fLst false aNil) (gN 1)) (sSeq (sFor (iRg1 (aCons (fC (.int 2)) aNil)) (gN 2) sizeL) (sSeq (sFrz 1) (sRet (fTup (aCons (fOp2 dIx (fVar 1) (fC (.int 0))) (aCons (fOp2 dIx (fVar 1) (fC (.int 1))) aNil)))))))
def sizeF : List D → List Cell → Out D := runDef 1 5 sizeB
theorem size_turn (S : Hs) (J : Jug n) (hn : n ≤ 900000) : ∃ (v : Int) (J' : Jug (n + 5)), 1 ≤ v ∧ v ≤ 10 ^ 30 ∧ ∀ (t : List Cell) (ms : List D) (x y z : Option D), ms.length ≤ 5 → ∃ y' z' : Option D,
    sizeL [some (.ref S.i), some (.ref (S.cs.length + t.length)), x, y, z] (hp S (jc J) (t ++ [.lst ms])) = .nx [some (.ref S.i), some (.ref (S.cs.length + t.length)), x, y', z'] (hp S (jc J') (t ++ [.lst (ms ++ [.int v])])) := by
  obtain ⟨k, J1, e1, k0, k1⟩ := pour_ex S J (s := 4) (by omega) (by decide) (by decide)
  obtain ⟨a, J2, e2, a0, a1⟩ := pour_ex S J1 (s := 4) (by omega) (by decide) (by decide)
  obtain ⟨b, J3, e3, b0, b1⟩ := pour_ex S J2 (s := 60) (by omega) (by decide) (by decide)
  obtain ⟨c, J4, e4, c0, c1⟩ := pour_ex S J3 (s := 2) (by omega) (by decide) (by decide)
  obtain ⟨d, J5, e5, d0, d1⟩ := pour_ex S J4 (s := 10 ^ 30) (by omega) (by decide) (by decide +kernel)
  have t1 : powOk 10 30 := by decide +kernel
  have s1 : ((30 : Int).toNat) = 30 := rfl
  have sz2 : 2 ≤ sizeLine := by decide
  have sz4 : 4 ≤ sizeLine := by decide
  refine ⟨if k = 0 then 1 + a else if k = 1 then 1 + b else if k = 2 then 10 ^ 30 - c else 1 + d, J5, ?_, ?_, fun t ms x y z hl => ?_⟩
  · split
    · omega
    · split
      · omega
      · split <;> omega
  · split
    · omega
    · split
      · omega
      · split <;> omega
  · have hs : atI [D.int (1 + a), D.int (1 + b), D.int (10 ^ 30 - c), D.int (1 + d)] k = some (.int (if k = 0 then 1 + a else if k = 1 then 1 + b else if k = 2 then 10 ^ 30 - c else 1 + d)) := by
      rw [sel4 k0 k1, PV.ite_int, PV.ite_int, PV.ite_int]
    have szm : ms.length < sizeLine := Nat.lt_of_le_of_lt hl (by decide)
    generalize (if k = 0 then 1 + a else if k = 1 then 1 + b else if k = 2 then 10 ^ 30 - c else 1 + d) = v at *
    refine ⟨some (.int k), some (.lst [.int (1 + a), .int (1 + b)]), ?_⟩
    unfold sizeL
    simp [e1, e2, e3, e4, e5, hs, sz2, sz4, szm, t1, s1, -Int.reducePow]
theorem size_ex (S : Hs) (J : Jug n) (hn : n ≤ 800000) : ∃ (v u : Int) (J' : Jug (n + 10)), (∀ t, sizeF [.ref S.i] (hp S (jc J) t) = .ok (.tup [.int v, .int u]) (hp S (jc J') (t ++ [.dead]))) ∧ (1 ≤ v ∧ v ≤ 10 ^ 30) ∧ 1 ≤ u ∧ u ≤ 10 ^ 30 := by
  obtain ⟨v, J1, v0, v1, h1⟩ := size_turn S J (by omega)
  obtain ⟨u, J2, u0, u1, h2⟩ := size_turn S J1 (by omega)
  have sz2 : 2 ≤ sizeLine := by decide
  refine ⟨v, u, J2, fun t => ?_, ⟨v0, v1⟩, u0, u1⟩
  unfold sizeF
  rw [runDef_e, if_pos (show [D.ref S.i].length = 1 from rfl)]
  unfold sizeB
  have e0 : (sAsg (fLst false aNil) (gN 1)) (List.map some [D.ref S.i] ++ List.replicate (5 - 1) none) (hp S (jc J) t) = .nx [some (.ref S.i), some (.ref (S.cs.length + t.length)), none, none, none] (hp S (jc J) (t ++ [.lst []])) := by
    simp
  rw [sSeq_e, e0, Sr.bind_nx, sSeq_e, sFor_e]
  have er : iRg1 (aCons (fC (.int 2)) aNil) [some (.ref S.i), some (.ref (S.cs.length + t.length)), none, none, none] (hp S (jc J) (t ++ [.lst []])) = .ok [.int 0, .int 1] (hp S (jc J) (t ++ [.lst []])) := by
    simp
    rfl
  rw [er, sOfL_ok]
  obtain ⟨y1, z1, q1⟩ := h1 t [] (some (.int 0)) none none (by simp)
  obtain ⟨y2, z2, q2⟩ := h2 t ([] ++ [.int v]) (some (.int 1)) y1 z1 (by simp)
  rw [forL_nx (σ1 := [some (.ref S.i), some (.ref (S.cs.length + t.length)), some (.int 0), none, none]) (by simp) q1]
  rw [forL_nx (σ1 := [some (.ref S.i), some (.ref (S.cs.length + t.length)), some (.int 1), y1, z1]) (by simp) q2]
  rw [forL_nil, Sr.bind_nx]
  simp [sz2]
end
end PV

namespace PV
open PySem PySem.Spec PyProof.Rows L2

/-! ### comprehensions and loops, by what one turn does -/
def dd (k : Nat) : List Cell := List.replicate k .dead
@[simp] theorem dd_zero : dd 0 = [] := rfl
theorem dd_one : dd 1 = [.dead] := rfl
theorem dd_add (a b : Nat) : dd a ++ dd b = dd (a + b) := by unfold dd; rw [List.replicate_append_replicate]
theorem app_dd (c : List Cell) (a b : Nat) : c ++ dd a ++ dd b = c ++ dd (a + b) := by rw [List.append_assoc, dd_add]
@[simp ↓] theorem iSq_e {f : Fe} {σ : Sd} {cs : List Cell} : iSq f σ cs = (f σ cs).bnd fun d c => walk2 d c := rfl
@[simp ↓] theorem iEn_e {f : Fa} {σ : Sd} {cs : List Cell} : iEn f σ cs = (f σ cs).bnd fun d c => enm2 d c := rfl
section
variable {g : Gt} {ft : Ft} {fe : Fe} {σ : Sd}
theorem lcM_step {d : D} {ds : List D} {c c1 c2 : List Cell} {σ1 : Sd} {y : D} (h1 : g d σ c = some σ1) (h2 : ft σ1 c = .ok true c1) (h3 : fe σ1 c1 = .ok y c2) : lcM g ft fe σ (d :: ds) c = (lcM g ft fe σ ds c2).bnd fun ys c3 => .ok (y :: ys) c3 := by
  rw [lcM_cons, h1, lcS_s, h2, lcT_t, h3, lcV_ok]
theorem lcM_skip {d : D} {ds : List D} {c c1 : List Cell} {σ1 : Sd} (h1 : g d σ c = some σ1) (h2 : ft σ1 c = .ok false c1) : lcM g ft fe σ (d :: ds) c = lcM g ft fe σ ds c1 := by
  rw [lcM_cons, h1, lcS_s, h2, lcT_f]
/-- each item is made; the heap grows by dead cells -/
theorem lcM_map {α : Type} (P : List Cell → Prop) (hP : ∀ c k, P c → P (c ++ dd k)) (f h : α → D) : ∀ (xs : List α), (∀ x ∈ xs, ∃ k, ∀ c, P c → ∃ σ1, g (f x) σ c = some σ1 ∧ ft σ1 c = .ok true c ∧ fe σ1 c = .ok (h x) (c ++ dd k)) →
    ∃ k, ∀ c, P c → lcM g ft fe σ (xs.map f) c = .ok (xs.map h) (c ++ dd k)
  | [], _ => ⟨0, fun c _ => by simp⟩
  | x :: xs, H => by
    obtain ⟨k1, h1⟩ := H x (List.mem_cons_self ..)
    obtain ⟨k2, h2⟩ := lcM_map P hP f h xs fun y hy => H y (List.mem_cons_of_mem _ hy)
    refine ⟨k1 + k2, fun c hc => ?_⟩
    obtain ⟨σ1, e1, e2, e3⟩ := h1 c hc
    rw [List.map_cons, lcM_step e1 e2 e3, h2 _ (hP c k1 hc), app_dd]
    rfl
theorem lcM_map' {α : Type} (f h : α → D) (xs : List α) (H : ∀ x ∈ xs, ∃ k, ∀ c, ∃ σ1, g (f x) σ c = some σ1 ∧ ft σ1 c = .ok true c ∧ fe σ1 c = .ok (h x) (c ++ dd k)) :
    ∃ k, ∀ c, lcM g ft fe σ (xs.map f) c = .ok (xs.map h) (c ++ dd k) := by
  obtain ⟨k, e⟩ := lcM_map (fun _ => True) (fun _ _ _ => trivial) f h xs fun x hx => let ⟨k, q⟩ := H x hx; ⟨k, fun c _ => q c⟩
  exact ⟨k, fun c => e c trivial⟩
/-- .. without a trace -/
theorem lcM_pur {α : Type} {c : List Cell} (f h : α → D) : ∀ (xs : List α), (∀ x ∈ xs, ∃ σ1, g (f x) σ c = some σ1 ∧ ft σ1 c = .ok true c ∧ fe σ1 c = .ok (h x) c) → lcM g ft fe σ (xs.map f) c = .ok (xs.map h) c
  | [], _ => by simp
  | x :: xs, H => by
    obtain ⟨σ1, e1, e2, e3⟩ := H x (List.mem_cons_self ..)
    rw [List.map_cons, lcM_step e1 e2 e3, lcM_pur f h xs fun y hy => H y (List.mem_cons_of_mem _ hy)]
    rfl
theorem lcM_fil {α : Type} {c : List Cell} (f h : α → D) (p : α → Bool) : ∀ (xs : List α), (∀ x ∈ xs, ∃ σ1, g (f x) σ c = some σ1 ∧ ft σ1 c = .ok (p x) c ∧ (p x = true → fe σ1 c = .ok (h x) c)) → lcM g ft fe σ (xs.map f) c = .ok ((xs.filter p).map h) c
  | [], _ => by simp
  | x :: xs, H => by
    obtain ⟨σ1, e1, e2, e3⟩ := H x (List.mem_cons_self ..)
    have ih := lcM_fil f h p xs fun y hy => H y (List.mem_cons_of_mem _ hy)
    cases q : p x with
    | true =>
      rw [q] at e2
      rw [List.map_cons, lcM_step e1 e2 (e3 q), ih, List.filter_cons_of_pos q]
      rfl
    | false =>
      rw [q] at e2
      rw [List.map_cons, lcM_skip e1 e2, ih, List.filter_cons_of_neg (by rw [q]; decide)]
/-- .. with an invariant; what is made is only partly known -/
theorem lcM_inv (I : Nat → List Cell → Prop) (P : D → Prop) : ∀ (ds : List D) (k : Nat), (∀ i d c, ds[i]? = some d → I (k + i) c → ∃ σ1 y c2, g d σ c = some σ1 ∧ ft σ1 c = .ok true c ∧ fe σ1 c = .ok y c2 ∧ P y ∧ I (k + i + 1) c2) →
    ∀ c, I k c → ∃ ys c', lcM g ft fe σ ds c = .ok ys c' ∧ ys.length = ds.length ∧ (∀ y ∈ ys, P y) ∧ I (k + ds.length) c'
  | [], k, _, c, h => ⟨[], c, by simp, rfl, fun y hy => (by cases hy), h⟩
  | d :: ds, k, H, c, h => by
    obtain ⟨σ1, y, c2, e1, e2, e3, py, h2⟩ := H 0 d c rfl h
    obtain ⟨ys, c', e4, hl, hp, h4⟩ := lcM_inv I P ds (k + 1) (fun i d' c3 hd h3 => by
      obtain ⟨σ1, y, c2, e1, e2, e3, py, h2⟩ := H (i + 1) d' c3 (by simpa using hd) (by rw [show k + (i + 1) = k + 1 + i by omega]; exact h3)
      exact ⟨σ1, y, c2, e1, e2, e3, py, by rw [show k + 1 + i + 1 = k + (i + 1) + 1 by omega]; exact h2⟩) c2 h2
    refine ⟨y :: ys, c', ?_, by simp [hl], fun z hz => ?_, ?_⟩
    · rw [lcM_step e1 e2 e3, e4]; rfl
    · rcases List.mem_cons.mp hz with e | e
      · rw [e]; exact py
      · exact hp z e
    · rw [List.length_cons, show k + (ds.length + 1) = k + 1 + ds.length by omega]; exact h4
end
theorem map_of {α β : Type} {f : α → β} {Q : α → Prop} : ∀ {ys : List β}, (∀ y ∈ ys, ∃ r, y = f r ∧ Q r) → ∃ rs : List α, ys = rs.map f ∧ ∀ r ∈ rs, Q r
  | [], _ => ⟨[], rfl, fun r h => (by cases h)⟩
  | y :: ys, H => by
    obtain ⟨r, e, q⟩ := H y (List.mem_cons_self ..)
    obtain ⟨rs, e2, q2⟩ := map_of fun z hz => H z (List.mem_cons_of_mem _ hz)
    refine ⟨r :: rs, by rw [e, e2]; rfl, fun z hz => ?_⟩
    rcases List.mem_cons.mp hz with e | e
    · rw [e]; exact q
    · exact q2 z e
/-- a loop over what is known, that keeps an invariant told by what it has done -/
theorem forL_map {α : Type} {g : Gt} {fb : Fs} (f : α → D) (I : List α → Sd → List Cell → Prop) : ∀ (xs don : List α) (σ : Sd) (c : List Cell), I don σ c →
    (∀ pre x post σ c, xs = pre ++ x :: post → I (don ++ pre) σ c → ∃ σ1 σ2 c2, g (f x) σ c = some σ1 ∧ fb σ1 c = .nx σ2 c2 ∧ I (don ++ (pre ++ [x])) σ2 c2) →
    ∃ σ' c', forL g fb (xs.map f) σ c = .nx σ' c' ∧ I (don ++ xs) σ' c'
  | [], don, σ, c, h, _ => ⟨σ, c, rfl, by simpa using h⟩
  | x :: xs, don, σ, c, h, step => by
    obtain ⟨σ1, σ2, c2, e1, e2, h2⟩ := step [] x xs σ c rfl (by simpa using h)
    rw [List.nil_append] at h2
    obtain ⟨σ', c', e3, h3⟩ := forL_map f I xs (don ++ [x]) σ2 c2 h2 fun pre y post σ c e hI => by
      obtain ⟨s1, s2, c2, q1, q2, q3⟩ := step (x :: pre) y post σ c (by rw [e]; rfl) (by simpa using hI)
      exact ⟨s1, s2, c2, q1, q2, by simpa using q3⟩
    refine ⟨σ', c', ?_, by simpa using h3⟩
    rw [List.map_cons, forL_nx e1 e2, e3]
@[simp] theorem lmO_n {k : Out D} {t : Tg k} : lmO none k t = .no := rfl
@[simp] theorem dLen_ins {c : Nat} {fs : List (Str × D)} {cs : List Cell} : dLen [.ins c fs] cs = none := rfl
def gcO (o : Option (D × List Cell)) (k : Option (D × List Cell)) (t : Tg k := .mk) : Rs D := match o with
  | some r => some r
  | none => k
@[simp] theorem gcO_s {r : D × List Cell} {k : Option (D × List Cell)} {t : Tg k} : gcO (some r) k t = some r := rfl
@[simp] theorem gcO_n {k : Option (D × List Cell)} {t : Tg k} : gcO none k t = k := rfl
@[simp ↓] theorem gcAlt_e {g g' : GC} {ds : List D} {cs : List Cell} : gcAlt g g' ds cs = gcO (g ds cs) (g' ds cs) := by
  unfold gcAlt gcO
  cases g ds cs <;> rfl
theorem dOwnLen_s {c : Nat} {F : List D → List Cell → Out D} {x : D} {cs : List Cell} {fs : List (Str × D)} {n : Int} (h1 : insOf cs x = some (c, fs)) (h2 : F [x] cs = .ok (.int n) cs) (h3 : 0 ≤ n ∧ n < 2 ^ 63) : dOwnLen c F [x] cs = some (.int n, cs) := by
  show (match insOf cs x with
    | some (c', _) => if c' = c then match F [x] cs with
      | .ok (.int n) cs' => if 0 ≤ n ∧ n < 2 ^ 63 then some (D.int n, cs') else none
      | _ => none
      else none
    | none => none) = _
  rw [h1]
  show (if c = c then match F [x] cs with
      | .ok (.int n) cs' => if 0 ≤ n ∧ n < 2 ^ 63 then some (D.int n, cs') else none
      | _ => none
      else none) = _
  rw [if_pos rfl, h2]
  exact if_pos h3
@[simp] theorem unK_e {n l : Nat} {F : List D → List Cell → Out D} {g : List D → List D → List D} {ds : List D} {cs : List Cell} : unK n l F g ds cs = fnK n 0 l F g ds [] cs := rfl
/-! star calls, class methods -/
def stO (F : Fk) (o : Option (List D)) (c : List Cell) : Out D := match o with
  | some xs => F xs [] c
  | none => .no
@[simp] theorem stO_s {F : Fk} {xs : List D} {c : List Cell} : stO F (some xs) c = F xs [] c := rfl
theorem strO_e {F : Fk} {d : D} {c : List Cell} : strO F d c = stO F (seqOf c d) c := by
  unfold strO stO
  cases seqOf c d <;> rfl
@[simp] theorem seqOf_l {c : List Cell} {xs : List D} : seqOf c (.lst xs) = some xs := rfl
@[simp] theorem seqOf_t {c : List Cell} {xs : List D} : seqOf c (.tup xs) = some xs := rfl
@[simp ↓] theorem fStarG_e {F : Fk} {fe : Fe} {σ : Sd} {cs : List Cell} : fStarG F fe σ cs = (fe σ cs).bnd fun d c => stO F (seqOf c d) c := by
  unfold fStarG
  simp only [strO_e]
  rfl
def clsO (o : Option (Option D)) (c : Nat) (k : Out D) (t : Tg k := .mk) : Out D := match o with
  | some (some (.cl c')) => if c' = c then k else .no
  | _ => .no
@[simp] theorem clsO_s {c c' : Nat} {k : Out D} {t : Tg k} : clsO (some (some (.cl c'))) c k t = if c' = c then k else .no := rfl
@[simp ↓] theorem fStarL_e {i c : Nat} {F : Fk} {fe : Fe} {σ : Sd} {cs : List Cell} : fStarL i c F fe σ cs = clsO σ[i]? c ((fe σ cs).bnd fun d c => stO F (seqOf c d) c) := by
  unfold fStarL
  rcases σ[i]? with _ | (_ | d)
  · rfl
  · rfl
  · cases d <;> first | rfl | (simp only [clsO_s, strO_e]; rfl)
def cmO (d : D) (c : Nat) (k : Out D) (t : Tg k := .mk) : Out D := match d with
  | .cl c' => if c' = c then k else .no
  | _ => .no
@[simp] theorem cmO_s {c c' : Nat} {k : Out D} {t : Tg k} : cmO (.cl c') c k t = if c' = c then k else .no := rfl
@[simp ↓] theorem fCMeth_e {c : Nat} {F : List D → List Cell → Out D} {fo : Fe} {ga : Fa} {σ : Sd} {cs : List Cell} : fCMeth c F fo ga σ cs = (fo σ cs).bnd fun d c1 => cmO d c ((ga σ c1).bnd fun ds c2 => F (.cl c :: ds) c2) := by
  show (fo σ cs).bind _ = (fo σ cs).bind _
  congr 1
@[simp ↓] theorem fCMethK_e {c m : Nat} {F : Fk} {fo : Fe} {gk : Fa} {σ : Sd} {cs : List Cell} : fCMethK c m F fo gk σ cs = (fo σ cs).bnd fun d c1 => cmO d c ((gk σ c1).bnd fun es c2 => if es.length = m then F [.cl c] es c2 else .no) := by
  show (fo σ cs).bind _ = (fo σ cs).bind _
  congr 1
@[simp] theorem posK_e {F : List D → List Cell → Out D} {ds : List D} {cs : List Cell} : posK F ds [] cs = F ds cs := rfl
theorem runVar_e {n N : Nat} {fb : Fs} {ds : List D} {cs : List Cell} (h : n ≤ ds.length ∧ ds.length ≤ sizeLine) : runVar n N fb ds cs = runDef (n + 1) N fb (ds.take n ++ [.tup (ds.drop n)]) cs := if_pos h
def fAltO (a b : Out D) (t : Tg b := .mk) : Out D := match a with
  | .no => b
  | r => r
@[simp] theorem fAltO_n {b : Out D} {t : Tg b} : fAltO .no b t = b := rfl
@[simp] theorem fAltO_ok {b : Out D} {t : Tg b} {d : D} {c : List Cell} : fAltO (.ok d c) b t = .ok d c := rfl
@[simp] theorem fAltO_ex {b : Out D} {t : Tg b} {d : Xc} {c : List Cell} : fAltO (.ex d c) b t = .ex d c := rfl
@[simp ↓] theorem fAlt_e {f g : Fe} {σ : Sd} {cs : List Cell} : fAlt f g σ cs = fAltO (f σ cs) (g σ cs) := by
  unfold fAlt fAltO
  cases f σ cs <;> rfl
/-! lists' methods -/
def rvO (o : Option (Nat × List D)) (cs : List Cell) : Rs D := match o with
  | some (i, xs) => some (.non, cs.set i (.lst xs.reverse))
  | none => none
@[simp] theorem rvO_s {i : Nat} {xs : List D} {cs : List Cell} : rvO (some (i, xs)) cs = some (.non, cs.set i (.lst xs.reverse)) := rfl
@[simp] theorem mReverse_e {d : D} {cs : List Cell} : mReverse d [] cs = rvO (cellL d cs) cs := by
  unfold mReverse rvO
  rcases cellL d cs with _ | ⟨i, xs⟩ <;> rfl
def clrO (o : Option (Nat × List D)) (cs : List Cell) : Rs D := match o with
  | some (i, xs) => some (.non, cs.set i (.lst []))
  | none => none
@[simp] theorem clrO_s {i : Nat} {xs : List D} {cs : List Cell} : clrO (some (i, xs)) cs = some (.non, cs.set i (.lst [])) := rfl
@[simp] theorem mClear_e {d : D} {cs : List Cell} : mClear d [] cs = clrO (cellL d cs) cs := by
  unfold mClear clrO
  rcases cellL d cs with _ | ⟨i, xs⟩ <;> rfl
@[simp] theorem dIs_n {neg : Bool} {x : D} {cs : List Cell} : dIs neg x .non cs = some (.bl (if neg then !isNon x else isNon x), cs) := by
  cases x <;> rfl
@[simp] theorem isNon_n : isNon .non = true := rfl
@[simp] theorem isNon_t {xs : List D} : isNon (.tup xs) = false := rfl
@[simp] theorem isNon_i {c : Nat} {fs : List (Str × D)} : isNon (.ins c fs) = false := rfl
@[simp] theorem isNon_int {i : Int} : isNon (.int i) = false := rfl
@[simp] theorem isNon_str {i : Str} : isNon (.str i) = false := rfl
@[simp] theorem isNon_l {i : List D} : isNon (.lst i) = false := rfl
@[simp] theorem dTuple_t {xs : List D} {cs : List Cell} : dTuple [.tup xs] cs = some (.tup xs, cs) := rfl
@[simp] theorem dList_t {fz : Bool} {xs : List D} {cs : List Cell} : dList fz [.tup xs] cs = mkL fz xs cs := rfl
theorem dList_r {fz : Bool} {i : Nat} {cs : List Cell} {xs : List D} (h : cAt cs i = some (.lst xs)) : dList fz [.ref i] cs = mkL fz xs cs := by
  unfold dList
  simp [h]
/-! places behind a known front -/
@[simp] theorem gt_app {α : Type} {t u : List α} {k : Nat} : (t ++ u)[t.length + k]? = u[k]? := by
  rw [List.getElem?_append_right (Nat.le_add_right _ _)]; congr 1; omega
@[simp] theorem gt_app0 {α : Type} {t u : List α} : (t ++ u)[t.length]? = u[0]? := gt_app (k := 0)
@[simp] theorem set_app {α : Type} {t u : List α} {k : Nat} {x : α} : (t ++ u).set (t.length + k) x = t ++ u.set k x := by
  rw [List.set_append_right _ _ (Nat.le_add_right _ _)]; congr 2; omega
@[simp] theorem set_app0 {α : Type} {t u : List α} {x : α} : (t ++ u).set t.length x = t ++ u.set 0 x := set_app (k := 0)
@[simp] theorem cAt_app {t u : List Cell} {k : Nat} : cAt (t ++ u) (t.length + k) = u[k]? := gt_app
@[simp] theorem cAt_app0 {t u : List Cell} : cAt (t ++ u) t.length = u[0]? := gt_app0
@[simp] theorem dd_len {k : Nat} : (dd k).length = k := List.length_replicate
def lsO (fz : Bool) (o : Option (List D)) (cs : List Cell) : Rs D := match o with
  | some xs => mkL fz xs cs
  | none => none
@[simp] theorem lsO_s {fz : Bool} {xs : List D} {cs : List Cell} : lsO fz (some xs) cs = mkL fz xs cs := rfl
@[simp] theorem dList_ref {fz : Bool} {i : Nat} {cs : List Cell} : dList fz [.ref i] cs = lsO fz (sqO (cAt cs i)) cs := by
  show (match seqOf cs (.ref i) with
    | some xs => mkL fz xs cs
    | none => none) = _
  rw [seqOf_r]
  cases sqO (cAt cs i) <;> rfl
/-! loops over written lists -/
def fgO (o : Option Sd) (k : Sd → Sr) (t : Tg k := .mk) : Sr := match o with
  | some σ => k σ
  | none => .no
@[simp] theorem fgO_s {σ : Sd} {k : Sd → Sr} {t : Tg k} : fgO (some σ) k t = k σ := rfl
def fbO (r : Sr) (k : Sd → List Cell → Sr) (t : Tg k := .mk) : Sr := match r with
  | .nx σ c => k σ c
  | .ct σ c => k σ c
  | .bk σ c => .nx σ c
  | r => r
@[simp] theorem fbO_nx {σ : Sd} {c : List Cell} {k : Sd → List Cell → Sr} {t : Tg k} : fbO (.nx σ c) k t = k σ c := rfl
@[simp] theorem fbO_ct {σ : Sd} {c : List Cell} {k : Sd → List Cell → Sr} {t : Tg k} : fbO (.ct σ c) k t = k σ c := rfl
@[simp] theorem fbO_bk {σ : Sd} {c : List Cell} {k : Sd → List Cell → Sr} {t : Tg k} : fbO (.bk σ c) k t = .nx σ c := rfl
@[simp] theorem fbO_rt {d : D} {c : List Cell} {k : Sd → List Cell → Sr} {t : Tg k} : fbO (.rt d c) k t = .rt d c := rfl
@[simp] theorem fbO_ex {x : Xc} {σ : Sd} {c : List Cell} {k : Sd → List Cell → Sr} {t : Tg k} : fbO (.ex x σ c) k t = .ex x σ c := rfl
@[simp ↓] theorem forL_cons {g : Gt} {fb : Fs} {d : D} {ds : List D} {σ : Sd} {c : List Cell} : forL g fb (d :: ds) σ c = fgO (g d σ c) fun σ1 => fbO (fb σ1 c) fun σ2 c2 => forL g fb ds σ2 c2 := by
  show (match g d σ c with
    | none => Sr.no
    | some σ1 => match fb σ1 c with
      | .nx σ2 c2 => forL g fb ds σ2 c2
      | .ct σ2 c2 => forL g fb ds σ2 c2
      | .bk σ2 c2 => .nx σ2 c2
      | r => r) = _
  unfold fgO fbO
  cases g d σ c with
  | none => rfl
  | some σ1 => simp only []
theorem mulR {i j : Int} (h0 : 0 ≤ j) (h : j < 2 ^ 64) : mulOk i j := Or.inr (Or.inr ⟨by omega, h⟩)
def stA (o : Option (List D)) (k : List D → Out (List D)) (t : Tg k := .mk) : Out (List D) := match o with
  | some xs => k xs
  | none => .no
@[simp] theorem stA_s {xs : List D} {k : List D → Out (List D)} {t : Tg k} : stA (some xs) k t = k xs := rfl
@[simp ↓] theorem aStar_e {fe : Fe} {ga : Fa} {σ : Sd} {cs : List Cell} : aStar fe ga σ cs = (fe σ cs).bnd fun d c1 => stA (seqOf c1 d) fun xs => (ga σ c1).bnd fun ys c2 => Out.ok (xs ++ ys) c2 := by
  unfold aStar stA
  show Out.bind _ _ = Out.bind _ _
  refine congrArg _ (funext fun d => funext fun c => ?_)
  cases seqOf c d <;> rfl
end PV

namespace PV
open PySem PySem.Spec PyProof.Rows L2

/-! ### the references that laws k05 .. k14 draw -/
def place (r : Int) (f : Bool) : Prop := f = true → 0 ≤ r ∧ r < 10 ^ 30
structure Rf where
  r : Int
  c : Int
  f : Bool
  g : Bool
def Rf.ok (p : Rf) : Prop := place p.r p.f ∧ place p.c p.g
def Rf.tp (p : Rf) : D := .tup [.int p.r, .int p.c, .bl p.f, .bl p.g]
def oTp : Option Rf → D
  | none => .non
  | some p => p.tp
/-- a part that fits a place a of a range of L -/
def fitI (L a : Int) (r : Int) (f : Bool) : Prop := if f = true then 0 ≤ r ∧ r < L else 0 ≤ r + a ∧ r + a < L
/-- .. on a ring any distance of some size -/
def fitK (x : Str) (L a : Int) (r : Int) (f : Bool) : Prop := fitI L a r f ∨ (x = "ring" ∧ f = false)
def big (r : Int) : Prop := -(10 ^ 60) ≤ r ∧ r ≤ 10 ^ 60
structure Fit (x : Str) (L M a b : Int) (p : Rf) : Prop where
  r : fitK x L a p.r p.f
  c : fitK x M b p.c p.g
  br : big p.r
  bc : big p.c
def oFit (x : Str) (L M a b : Int) (p : Option Rf) : Prop := ∀ q, p = some q → Fit x L M a b q
theorem Fit.ok {x : Str} {L M a b : Int} {p : Rf} (h : Fit x L M a b p) (hL : L ≤ 10 ^ 30) (hM : M ≤ 10 ^ 30) : p.ok := by
  refine ⟨fun e => ?_, fun e => ?_⟩
  · rcases h.r with q | q
    · unfold fitI at q; rw [if_pos e] at q; exact ⟨q.1, Int.lt_of_lt_of_le q.2 hL⟩
    · rw [e] at q; exact absurd q.2 (by decide)
  · rcases h.c with q | q
    · unfold fitI at q; rw [if_pos e] at q; exact ⟨q.1, Int.lt_of_lt_of_le q.2 hM⟩
    · rw [e] at q; exact absurd q.2 (by decide)
def partL : Fs := (sSeq (sAsg (fOp2 (dEq false) (fCall (fnK 2 0 2 pourF (fun ds _ => ds)) (aCons (fVar 0) (aCons (fC (.int 3)) aNil)) aNil) (fC (.int 0))) (gN 9)) (sSeq (sAsg (fCall (fnK 2 0 2 nearF (fun ds _ => ds)) (aCons (fVar 0) (aCons (fVar 7) aNil)) aNil) (gN 10)) (sSeq (sIf (fNot (fTru (fVar 9))) (sSeq (sAsg (fOp2 dSub (fVar 10) (fVar 8)) (gN 10)) (sIf (fAnd (fTst (fOp2 (dEq false) (fVar 4) (fC (.str "ring")))) (fTst (fOp2 (dEq false) (fCall (fnK 2 0 2 pourF (fun ds _ => ds)) (aCons (fVar 0) (aCons (fC (.int 2)) aNil)) aNil) (fC (.int 0))))) (sAsg (fOp2 dSub (fCall (fnK 2 0 2 pourF (fun ds _ => ds)) (aCons (fVar 0) (aCons (fOp2 dPow (fC (.int 10)) (fC (.int 59))) aNil)) aNil) (fOp2 (dMul true) (fC (.int 5)) (fOp2 dPow (fC (.int 10)) (fC (.int 58))))) (gN 10)) sNx)) sNx) (sSeq (sEx (fLm mAppend (fVar 5) (aCons (fVar 10) aNil))) (sEx (fLm mAppend (fVar 6) (aCons (fVar 9) aNil)))))))
def part0 : Fs := (sIf (fTst (fOp2 (dEq false) (fCall (fnK 2 0 2 pourF (fun ds _ => ds)) (aCons (fVar 0) (aCons (fC (.int 8)) aNil)) aNil) (fC (.int 0)))) (sRet (fC .non)) sNx)
def part2 : Fs := (sFor (iSq (fLst true (aCons (fTup (aCons (fVar 1) (aCons (fOp2 dIx (fVar 3) (fC (.int 0))) aNil))) (aCons (fTup (aCons (fVar 2) (aCons (fOp2 dIx (fVar 3) (fC (.int 1))) aNil))) aNil)))) (gT 2 (gsCons (gN 7) (gsCons (gN 8) gsNil))) partL)
def part3 : Fs := (sRet (fTup (aCons (fOp2 dIx (fVar 5) (fC (.int 0))) (aCons (fOp2 dIx (fVar 5) (fC (.int 1))) (aCons (fOp2 dIx (fVar 6) (fC (.int 0))) (aCons (fOp2 dIx (fVar 6) (fC (.int 1))) aNil))))))
def partB : Fs := (sSeq part0 (sSeq (sPar 5 6 (aCons (fLst false aNil) (aCons (fLst false aNil) aNil))) (sSeq part2 (sSeq (sFrz 5) (sSeq (sFrz 6) part3)))))
def partF : List D → List Cell → Out D := runDef 5 11 partB
section
variable {n : Nat}
theorem part_turn (S : Hs) (J : Jug n) (hn : n ≤ 800000) {x : Str} (hx : okS x) {L a : Int} (h1 : 1 ≤ L) (h2 : L ≤ 10 ^ 30) (a0 : 0 ≤ a) (a1 : a < L) (t : List Cell) (ms fs : List D) (l1 : ms.length ≤ 5) (l2 : fs.length ≤ 5) (v1 v2 v3 v9 v10 : Option D) :
    ∃ (r : Int) (f : Bool) (J' : Jug (n + 6)) (u9 u10 : Option D), fitK x L a r f ∧ big r ∧
      partL [some (.ref S.i), v1, v2, v3, some (.str x), some (.ref (S.cs.length + t.length)), some (.ref (S.cs.length + (t.length + 1))), some (.int L), some (.int a), v9, v10] (hp S (jc J) (t ++ [.lst ms, .lst fs])) =
        .nx [some (.ref S.i), v1, v2, v3, some (.str x), some (.ref (S.cs.length + t.length)), some (.ref (S.cs.length + (t.length + 1))), some (.int L), some (.int a), u9, u10] (hp S (jc J') (t ++ [.lst (ms ++ [.int r]), .lst (fs ++ [.bl f])])) := by
  obtain ⟨k, J1, e1, k0, k1⟩ := pour_ex S J (s := 3) (by omega) (by decide) (by decide)
  obtain ⟨g, J2, e2, g0, g1⟩ := near_ex S J1 (by omega) h1 h2
  obtain ⟨z, J3, e3, z0, z1⟩ := pour_ex S J2 (s := 2) (by omega) (by decide) (by decide)
  obtain ⟨w, J4, e4, w0, w1⟩ := pour_ex S J3 (s := 10 ^ 59) (by omega) (by decide) (by decide +kernel)
  have up : ∀ {m : Nat} (J : Jug m), m ≤ n + 6 → ∃ J' : Jug (n + 6), jc J' = jc J := fun {m} J hm => ⟨⟨J.1, by obtain ⟨q1, q2, q3, q4, q5⟩ := J.2; exact ⟨q1, q2, q3, q4, by omega⟩⟩, rfl⟩
  obtain ⟨K2, eK2⟩ := up J2 (by omega)
  obtain ⟨K3, eK3⟩ := up J3 (by omega)
  obtain ⟨K4, eK4⟩ := up J4 (by omega)
  have t1 : powOk 10 59 := by decide +kernel
  have t2 : powOk 10 58 := by decide +kernel
  have s1 : ((59 : Int).toNat) = 59 := rfl
  have s2 : ((58 : Int).toNat) = 58 := rfl
  have m1 : mulOk 5 (10 ^ 58) := mulL (by decide) (by decide)
  have szm : ms.length < sizeLine := Nat.lt_of_le_of_lt l1 (by decide)
  have szf : fs.length < sizeLine := Nat.lt_of_le_of_lt l2 (by decide)
  have er : ∀ cs, dEq false (.str x) (.str "ring") cs = some (.bl (decide (x = "ring")), cs) := fun cs => dEq_s hx (by unfold okS; decide +kernel)
  have g2 : (t ++ [Cell.lst ms, .lst fs])[t.length + 1]? = some (.lst fs) := by
    rw [List.getElem?_append_right (by omega)]; simp
  have g3 : ∀ y, (t ++ [y, Cell.lst fs])[t.length + 1]? = some (.lst fs) := fun y => by
    rw [List.getElem?_append_right (by omega)]; simp
  have st : ∀ y, (t ++ [y, Cell.lst fs]).set (t.length + 1) (.lst (fs ++ [.bl (decide (k = 0))])) = t ++ [y, .lst (fs ++ [.bl (decide (k = 0))])] := fun y => by
    rw [List.set_append_right _ _ (by omega)]
    have : t.length + 1 - t.length = 1 := by omega
    rw [this]; rfl
  have b1 : g < 10 ^ 30 := Int.lt_of_lt_of_le g1 h2
  have b2 : a < 10 ^ 30 := Int.lt_of_lt_of_le a1 h2
  by_cases hk : k = 0
  · refine ⟨g, true, K2, some (.bl true), some (.int g), .inl (by unfold fitI; exact ⟨g0, g1⟩), ⟨by omega, by omega⟩, ?_⟩
    subst hk
    unfold partL
    simp only [decide_true] at st
    simp [e1, e2, szm, szf, g2, g3, st, eK2]
  · have hk' : decide (k = 0) = false := by simp [hk]
    rw [hk'] at st
    by_cases hr : x = "ring"
    · by_cases hz : z = 0
      · refine ⟨w - 5 * 10 ^ 58, false, K4, some (.bl false), some (.int (w - 5 * 10 ^ 58)), .inr ⟨hr, rfl⟩, ⟨by omega, by omega⟩, ?_⟩
        subst hz hr
        unfold partL
        simp [e1, e2, e3, e4, er, hk, szm, szf, g2, g3, st, eK4, t1, t2, s1, s2, m1, -Int.reducePow]
      · refine ⟨g - a, false, K3, some (.bl false), some (.int (g - a)), .inl (by unfold fitI; simp only [Bool.false_eq_true, if_false]; omega), ⟨by omega, by omega⟩, ?_⟩
        subst hr
        unfold partL
        simp [e1, e2, e3, er, hk, hz, szm, szf, g2, g3, st, eK3]
    · refine ⟨g - a, false, K2, some (.bl false), some (.int (g - a)), .inl (by unfold fitI; simp only [Bool.false_eq_true, if_false]; omega), ⟨by omega, by omega⟩, ?_⟩
      unfold partL
      simp [e1, e2, er, hr, hk, szm, szf, g2, g3, st, eK2]
theorem part_ex (S : Hs) (J : Jug n) (hn : n ≤ 700000) {x : Str} (hx : okS x) {L M a b : Int} (h1 : 1 ≤ L) (h2 : L ≤ 10 ^ 30) (a0 : 0 ≤ a) (a1 : a < L) (h3 : 1 ≤ M) (h4 : M ≤ 10 ^ 30) (b0 : 0 ≤ b) (b1 : b < M) (t : List Cell) :
    ∃ (p : Option Rf) (J' : Jug (n + 13)) (k : Nat), oFit x L M a b p ∧ partF [.ref S.i, .int L, .int M, .tup [.int a, .int b], .str x] (hp S (jc J) t) = .ok (oTp p) (hp S (jc J') (t ++ dd k)) := by
  obtain ⟨z, J1, e1, z0, z1⟩ := pour_ex S J (s := 8) (by omega) (by decide) (by decide)
  unfold partF
  rw [runDef_e, if_pos (show [D.ref S.i, .int L, .int M, .tup [.int a, .int b], .str x].length = 5 from rfl)]
  unfold partB
  by_cases hz : z = 0
  · subst hz
    have up : ∃ J' : Jug (n + 13), jc J' = jc J1 := ⟨⟨J1.1, by obtain ⟨q1, q2, q3, q4, q5⟩ := J1.2; exact ⟨q1, q2, q3, q4, by omega⟩⟩, rfl⟩
    obtain ⟨K1, eK1⟩ := up
    refine ⟨none, K1, 0, fun q h => (by cases h), ?_⟩
    simp [part0, e1, oTp, eK1]
  · obtain ⟨r, f, J2, u9, u10, fr, br, e2⟩ := part_turn S J1 (by omega) hx h1 h2 a0 a1 t [] [] (by simp) (by simp) (some (.int L)) (some (.int M)) (some (.tup [.int a, .int b])) none none
    obtain ⟨c, g, J3, w9, w10, fc, bc, e3⟩ := part_turn S J2 (by omega) hx h3 h4 b0 b1 t ([] ++ [.int r]) ([] ++ [.bl f]) (by simp) (by simp) (some (.int L)) (some (.int M)) (some (.tup [.int a, .int b])) u9 u10
    have sz2 : 2 ≤ sizeLine := by decide
    have sz4 : 4 ≤ sizeLine := by decide
    refine ⟨some ⟨r, c, f, g⟩, J3, 2, fun q h => by cases h; exact ⟨fr, fc, br, bc⟩, ?_⟩
    have h0 : part0 (List.map some [D.ref S.i, .int L, .int M, .tup [.int a, .int b], .str x] ++ List.replicate (11 - 5) none) (hp S (jc J) t) = .nx [some (.ref S.i), some (.int L), some (.int M), some (.tup [.int a, .int b]), some (.str x), none, none, none, none, none, none] (hp S (jc J1) t) := by
      simp [part0, e1, hz]
    have h1' : (sPar 5 6 (aCons (fLst false aNil) (aCons (fLst false aNil) aNil))) [some (.ref S.i), some (.int L), some (.int M), some (.tup [.int a, .int b]), some (.str x), none, none, none, none, none, none] (hp S (jc J1) t) =
        .nx [some (.ref S.i), some (.int L), some (.int M), some (.tup [.int a, .int b]), some (.str x), some (.ref (S.cs.length + t.length)), some (.ref (S.cs.length + (t.length + 1))), none, none, none, none] (hp S (jc J1) (t ++ [.lst [], .lst []])) := by
      simp [Nat.add_assoc]
    have h2' : part2 [some (.ref S.i), some (.int L), some (.int M), some (.tup [.int a, .int b]), some (.str x), some (.ref (S.cs.length + t.length)), some (.ref (S.cs.length + (t.length + 1))), none, none, none, none] (hp S (jc J1) (t ++ [.lst [], .lst []])) =
        .nx [some (.ref S.i), some (.int L), some (.int M), some (.tup [.int a, .int b]), some (.str x), some (.ref (S.cs.length + t.length)), some (.ref (S.cs.length + (t.length + 1))), some (.int M), some (.int b), w9, w10] (hp S (jc J3) (t ++ [.lst [.int r, .int c], .lst [.bl f, .bl g]])) := by
      unfold part2
      rw [sFor_e]
      have ei : iSq (fLst true (aCons (fTup (aCons (fVar 1) (aCons (fOp2 dIx (fVar 3) (fC (.int 0))) aNil))) (aCons (fTup (aCons (fVar 2) (aCons (fOp2 dIx (fVar 3) (fC (.int 1))) aNil))) aNil))) [some (.ref S.i), some (.int L), some (.int M), some (.tup [.int a, .int b]), some (.str x), some (.ref (S.cs.length + t.length)), some (.ref (S.cs.length + (t.length + 1))), none, none, none, none] (hp S (jc J1) (t ++ [.lst [], .lst []])) =
          .ok [.tup [.int L, .int a], .tup [.int M, .int b]] (hp S (jc J1) (t ++ [.lst [], .lst []])) := by
        simp [sz2]
      rw [ei, sOfL_ok, forL_nx (by simp) e2, forL_nx (by simp) e3, forL_nil]
      rfl
    rw [sSeq_e, h0, Sr.bind_nx, sSeq_e, h1', Sr.bind_nx, sSeq_e, h2', Sr.bind_nx]
    have g2 : ∀ y z, (t ++ [y, z])[t.length + 1]? = some z := fun y z => by
      rw [List.getElem?_append_right (by omega)]; simp
    have st : ∀ y z z' : Cell, (t ++ [y, z]).set (t.length + 1) z' = t ++ [y, z'] := fun y z z' => by
      rw [List.set_append_right _ _ (by omega)]
      have : t.length + 1 - t.length = 1 := by omega
      rw [this]; rfl
    simp [part3, g2, st, sz4, oTp, Rf.tp, dd]
theorem Jug.up {m k : Nat} (J : Jug m) (h : m ≤ k) : ∃ J' : Jug k, jc J' = jc J := ⟨⟨J.1, by obtain ⟨q1, q2, q3, q4, q5⟩ := J.2; exact ⟨q1, q2, q3, q4, by omega⟩⟩, rfl⟩
def partsC : Fe := (fLc true (iRg1 (aCons (fVar 5) aNil)) (gN 6) (fun _ c => .ok true c) (fCall (fnK 5 0 5 partF (fun ds _ => ds)) (aCons (fVar 0) (aCons (fVar 1) (aCons (fVar 2) (aCons (fVar 3) (aCons (fVar 4) aNil))))) aNil) [6])
def partsB : Fs := (sSeq (sAsg (fOp2 (dAdd true) (fC (.int 1)) (fCall (fnK 2 0 2 pourF (fun ds _ => ds)) (aCons (fVar 0) (aCons (fOp2 dIx (fLst true (aCons (fC (.int 3)) (aCons (fC (.int 20)) aNil))) (fCall (fnK 2 0 2 pourF (fun ds _ => ds)) (aCons (fVar 0) (aCons (fC (.int 2)) aNil)) aNil)) aNil)) aNil)) (gN 5)) (sRet partsC))
def partsF : List D → List Cell → Out D := runDef 5 7 partsB
theorem parts_ex (S : Hs) (J : Jug n) (hn : n ≤ 600000) {x : Str} (hx : okS x) {L M a b : Int} (h1 : 1 ≤ L) (h2 : L ≤ 10 ^ 30) (a0 : 0 ≤ a) (a1 : a < L) (h3 : 1 ≤ M) (h4 : M ≤ 10 ^ 30) (b0 : 0 ≤ b) (b1 : b < M) (t : List Cell) :
    ∃ (ps : List (Option Rf)) (J' : Jug (n + 262)) (k : Nat), (∀ p ∈ ps, oFit x L M a b p) ∧ (1 ≤ ps.length ∧ ps.length ≤ 20) ∧
      partsF [.ref S.i, .int L, .int M, .tup [.int a, .int b], .str x] (hp S (jc J) t) = .ok (.lst (ps.map oTp)) (hp S (jc J') (t ++ dd k)) := by
  obtain ⟨u, J1, e1, u0, u1⟩ := pour_ex S J (s := 2) (by omega) (by decide) (by decide)
  have hs : 0 < (if u = 0 then (3 : Int) else 20) ∧ (if u = 0 then (3 : Int) else 20) ≤ 20 ∧ (if u = 0 then (3 : Int) else 20).natAbs.log2 < 9000 := by
    split <;> exact ⟨by decide, by decide, by decide⟩
  obtain ⟨v, J2, e2, v0, v1⟩ := pour_ex S J1 (s := if u = 0 then 3 else 20) (by omega) hs.1 hs.2.2
  have hu : atI [D.int 3, D.int 20] u = some (.int (if u = 0 then 3 else 20)) := by rw [sel2 u0 u1, PV.ite_int]
  generalize (if u = 0 then (3 : Int) else 20) = z at *
  obtain ⟨N, hN⟩ : ∃ N : Nat, 1 + v = (N : Int) := ⟨(1 + v).toNat, by omega⟩
  have sz2 : 2 ≤ sizeLine := by decide
  obtain ⟨ys, c', e3, hl, hpp, m, J3, k, hm, rfl⟩ := lcM_inv (g := gN 6) (ft := fun _ c => .ok true c) (fe := (fCall (fnK 5 0 5 partF (fun ds _ => ds)) (aCons (fVar 0) (aCons (fVar 1) (aCons (fVar 2) (aCons (fVar 3) (aCons (fVar 4) aNil))))) aNil))
    (σ := [some (.ref S.i), some (.int L), some (.int M), some (.tup [.int a, .int b]), some (.str x), some (.int (1 + v)), none])
    (fun i c => ∃ (m : Nat) (J : Jug m) (k : Nat), m ≤ n + 2 + 13 * i ∧ c = hp S (jc J) (t ++ dd k)) (fun y => ∃ p, y = oTp p ∧ oFit x L M a b p) (rngD 0 N) 0 (by
      rintro i d c hd ⟨m, J, k, hm, rfl⟩
      obtain ⟨hi, rfl⟩ := rngD_get hd
      obtain ⟨p, J', k', hf, e⟩ := part_ex S J (by omega) hx h1 h2 a0 a1 h3 h4 b0 b1 (t ++ dd k)
      refine ⟨_, oTp p, _, rfl, rfl, ?_, ⟨p, rfl, hf⟩, m + 13, J', k + k', by omega, by rw [← app_dd]⟩
      simp [e]) (hp S (jc J2) t) ⟨n + 1 + 1, J2, 0, by omega, by simp⟩
  have hlr : (rngD 0 N).length = N := by simp [rngD]
  rw [hlr] at hl hm
  obtain ⟨J4, e4⟩ := Jug.up J3 (k := n + 262) (by omega)
  obtain ⟨ps, rfl, hps⟩ := map_of hpp
  rw [List.length_map] at hl
  refine ⟨ps, J4, k, hps, by omega, ?_⟩
  unfold partsF
  rw [runDef_e, if_pos (show [D.ref S.i, .int L, .int M, .tup [.int a, .int b], .str x].length = 5 from rfl)]
  unfold partsB
  have h0 : (sAsg (fOp2 (dAdd true) (fC (.int 1)) (fCall (fnK 2 0 2 pourF (fun ds _ => ds)) (aCons (fVar 0) (aCons (fOp2 dIx (fLst true (aCons (fC (.int 3)) (aCons (fC (.int 20)) aNil))) (fCall (fnK 2 0 2 pourF (fun ds _ => ds)) (aCons (fVar 0) (aCons (fC (.int 2)) aNil)) aNil)) aNil)) aNil)) (gN 5)) (List.map some [D.ref S.i, .int L, .int M, .tup [.int a, .int b], .str x] ++ List.replicate (7 - 5) none) (hp S (jc J) t) =
      .nx [some (.ref S.i), some (.int L), some (.int M), some (.tup [.int a, .int b]), some (.str x), some (.int (1 + v)), none] (hp S (jc J2) t) := by
    simp [e1, e2, hu, sz2]
  rw [sSeq_e, h0, Sr.bind_nx, sRet_e]
  have hb : -(2 ^ 62) ≤ (N : Int) ∧ (N : Int) < 2 ^ 62 := by omega
  have szl : (ps.map oTp).length ≤ sizeLine := by rw [List.length_map, hl]; exact Nat.le_trans (show N ≤ 20 by omega) (by decide)
  have e5 : partsC [some (.ref S.i), some (.int L), some (.int M), some (.tup [.int a, .int b]), some (.str x), some (.int (1 + v)), none] (hp S (jc J2) t) = .ok (.lst (ps.map oTp)) (hp S (jc J4) (t ++ dd k)) := by
    unfold partsC
    rw [fLc_e, iRg1_e]
    have : (aCons (fVar 5) aNil) [some (.ref S.i), some (.int L), some (.int M), some (.tup [.int a, .int b]), some (.str x), some (.int (1 + v)), none] (hp S (jc J2) t) = .ok [.int N] (hp S (jc J2) t) := by simp [hN]
    rw [this, Out.bnd_ok, rgO1_i, if_pos hb, Int.toNat_natCast, Out.bnd_ok, wipeD_cons, wipeD_nil]
    show lcE true (lcM _ _ _ [some (.ref S.i), some (.int L), some (.int M), some (.tup [.int a, .int b]), some (.str x), some (.int (1 + v)), none] _ _) = _
    rw [e3, lcE_ok, if_pos szl, e4]
    rfl
  rw [e5]
  rfl
end
end PV

namespace PV
open PySem PySem.Spec PyProof.Rows L2

/-! ### references and formulas as data -/
def rfs (r c : Int) (f g : Bool) : List (Str × D) := [("held_row", .int r), ("held_column", .int c), ("held_fixed_row", .bl f), ("held_fixed_column", .bl g)]
def rD (cR : Nat) (r c : Int) (f g : Bool) : D := .ins cR (rfs r c f g)
def oD (cR : Nat) : Option Rf → D
  | none => .non
  | some p => rD cR p.r p.c p.f p.g
def ffs (ds : List D) : List (Str × D) := [("held_parts", .tup ds)]
def fD (cF cR : Nat) (ps : List (Option Rf)) : D := .ins cF (ffs (ps.map (oD cR)))
theorem put1 (v : D) : putD ("held_row" : Str) v [] = [(("held_row" : Str), v)] := rfl
theorem put2 (a v : D) : putD ("held_column" : Str) v [(("held_row" : Str), a)] = [(("held_row" : Str), a), (("held_column" : Str), v)] := rfl
theorem put3 (a b v : D) : putD ("held_fixed_row" : Str) v [(("held_row" : Str), a), (("held_column" : Str), b)] = [(("held_row" : Str), a), (("held_column" : Str), b), (("held_fixed_row" : Str), v)] := rfl
theorem put4 (a b c v : D) : putD ("held_fixed_column" : Str) v [(("held_row" : Str), a), (("held_column" : Str), b), (("held_fixed_row" : Str), c)] = [(("held_row" : Str), a), (("held_column" : Str), b), (("held_fixed_row" : Str), c), (("held_fixed_column" : Str), v)] := rfl
theorem put5 (v : D) : putD ("held_parts" : Str) v [] = [(("held_parts" : Str), v)] := rfl
section
variable {r c : Int} {f g : Bool}
theorem lk1 : (rfs r c f g).lookup ("held_row" : Str) = some (.int r) := rfl
theorem lk2 : (rfs r c f g).lookup ("held_column" : Str) = some (.int c) := rfl
theorem lk3 : (rfs r c f g).lookup ("held_fixed_row" : Str) = some (.bl f) := rfl
theorem lk4 : (rfs r c f g).lookup ("held_fixed_column" : Str) = some (.bl g) := rfl
theorem lk5 : (rfs r c f g).lookup ("target" : Str) = none := rfl
theorem lk6 : (rfs r c f g).lookup ("moved" : Str) = none := rfl
theorem lk7 : (rfs r c f g).lookup ("text" : Str) = none := rfl
theorem lkF {ds : List D} : (ffs ds).lookup ("held_parts" : Str) = some (.tup ds) := rfl
theorem lkF1 {ds : List D} : (ffs ds).lookup ("broken" : Str) = none := rfl
theorem lkF2 {ds : List D} : (ffs ds).lookup ("moved" : Str) = none := rfl
@[simp] theorem ins_rD {cs : List Cell} {cR : Nat} : insOf cs (rD cR r c f g) = some (cR, rfs r c f g) := rfl
@[simp] theorem ins_fD {cs : List Cell} {cF cR : Nat} {ps : List (Option Rf)} : insOf cs (fD cF cR ps) = some (cF, ffs (ps.map (oD cR))) := rfl
@[simp] theorem kd_rD {cs : List Cell} {cR : Nat} : kdOf cs (rD cR r c f g) = some (.cl cR) := rfl
@[simp] theorem kd_fD {cs : List Cell} {cF cR : Nat} {ps : List (Option Rf)} : kdOf cs (fD cF cR ps) = some (.cl cF) := rfl
@[simp] theorem non_rD {cR : Nat} : isNon (rD cR r c f g) = false := rfl
@[simp] theorem non_fD {cF cR : Nat} {ps : List (Option Rf)} : isNon (fD cF cR ps) = false := rfl
@[simp] theorem dLen_fD {cs : List Cell} {cF cR : Nat} {ps : List (Option Rf)} : dLen [fD cF cR ps] cs = none := rfl
end
theorem isNon_oD {cR : Nat} (p : Option Rf) : isNon (oD cR p) = p.isNone := by cases p <;> rfl
theorem isNon_oTp (p : Option Rf) : isNon (oTp p) = p.isNone := by cases p <;> rfl
def tgt (r : Int) (f : Bool) (x : Int) : Int := if f = true then r else r + x
def mv (r : Int) (f : Bool) (d : Int) : Int := if f = true then r else r + d
def Rf.mv (p : Rf) (d e : Int) : Rf := ⟨PV.mv p.r p.f d, PV.mv p.c p.g e, p.f, p.g⟩
theorem Rf.mv_ok {p : Rf} (h : p.ok) (d e : Int) : (p.mv d e).ok := by
  refine ⟨fun q => ?_, fun q => ?_⟩
  · have q' : p.f = true := q
    show 0 ≤ PV.mv p.r p.f d ∧ PV.mv p.r p.f d < 10 ^ 30
    unfold PV.mv; rw [if_pos q']; exact h.1 q'
  · have q' : p.g = true := q
    show 0 ≤ PV.mv p.c p.g e ∧ PV.mv p.c p.g e < 10 ^ 30
    unfold PV.mv; rw [if_pos q']; exact h.2 q'
def oks (ps : List (Option Rf)) : Prop := ∀ p ∈ ps, ∀ q, p = some q → q.ok
/-- the places of the broken ones -/
def brk : Nat → List (Option Rf) → List D
  | _, [] => []
  | k, none :: ps => .int (k : Nat) :: brk (k + 1) ps
  | k, some _ :: ps => brk (k + 1) ps
theorem brk_gen {g : Gt} {ft : Ft} {fe : Fe} {σ : Sd} {f : Option Rf → D} {c : List Cell} (H : ∀ (k : Nat) (p : Option Rf), ∃ σ1, g (.tup [.int (k : Nat), f p]) σ c = some σ1 ∧ ft σ1 c = .ok p.isNone c ∧ (p = none → fe σ1 c = .ok (.int (k : Nat)) c)) :
    ∀ (ps : List (Option Rf)) (k : Nat), lcM g ft fe σ (enD k (ps.map f)) c = .ok (brk k ps) c
  | [], k => by simp [enD, brk]
  | p :: ps, k => by
    obtain ⟨σ1, e1, e2, e3⟩ := H k p
    have ih := brk_gen H ps (k + 1)
    show lcM g ft fe σ (.tup [.int (k : Nat), f p] :: enD (k + 1) (ps.map f)) c = _
    cases p with
    | none => rw [lcM_step e1 e2 (e3 rfl), ih]; rfl
    | some p => rw [lcM_skip e1 e2, ih]; rfl
theorem brk_len : ∀ (ps : List (Option Rf)) (k : Nat), (brk k ps).length ≤ ps.length
  | [], k => Nat.le_refl _
  | none :: ps, k => by simp [brk]; exact brk_len ps _
  | some _ :: ps, k => by simp [brk]; exact Nat.le_succ_of_le (brk_len ps _)
theorem blsOf_mapP {α : Type} (p : α → Bool) (xs : List α) : blsOf (xs.map fun x => .bl (p x)) = some (xs.map p) := by
  have e : (xs.map fun x => D.bl (p x)) = (xs.map p).map D.bl := by rw [List.map_map]; rfl
  rw [e, blsOf_map]
theorem dAll_map {α : Type} {cs : List Cell} (p : α → Bool) (xs : List α) : dAll [.lst (xs.map fun x => .bl (p x))] cs = some (.bl (xs.all p), cs) := by
  show (match (rdL cs (.lst (xs.map fun x => .bl (p x)))).bind blsOf with
    | some bs => some (D.bl (bs.all id), cs)
    | none => none) = _
  have e : rdL cs (.lst (xs.map fun x => .bl (p x))) = some (xs.map fun x => .bl (p x)) := rfl
  rw [e, Option.bind_some, blsOf_mapP]
  show some (D.bl ((xs.map p).all id), cs) = _
  rw [List.all_map]
  rfl
@[simp] theorem dInt_b {b : Bool} {cs : List Cell} : dInt [.bl b] cs = some (.int (if b then 1 else 0), cs) := rfl
end PV

namespace PV
open PySem PySem.Spec PyProof.Rows L2

/-! ### data without texts, of a size and a depth that are known -/
structure PK (p : PyData) (w d : Nat) : Prop where
  nt : noTxt p = true
  sh : p.showable = true
  cl : p.canLay0 = true
  dp : p.depth ≤ d
  wt : wgt p ≤ w
structure PKs (ps : List PyData) (w d : Nat) : Prop where
  nt : noTxts ps = true
  sh : PyData.showableAll ps = true
  cl : PyData.canLayAll0 ps = true
  dp : PyData.depthAll ps ≤ d
  wt : wgts ps ≤ w
theorem pk_none : PK .none 4 0 := ⟨rfl, rfl, rfl, Nat.le_refl _, by simp [wgt]⟩
theorem pk_bool (b : Bool) : PK (.bool b) 5 0 := ⟨rfl, rfl, rfl, Nat.le_refl _, by simp [wgt]⟩
theorem pk_int {i : Int} (h : sm i) : PK (.int i) 1921 0 := ⟨rfl, by have h' : i.natAbs.log2 < 1920 := h; simpa [PyData.showable] using h', rfl, Nat.le_refl _, by simp [wgt]⟩
theorem pks_nil : PKs [] 0 0 := ⟨rfl, rfl, rfl, Nat.le_refl _, Nat.le_refl _⟩
theorem pks_cons {p : PyData} {ps : List PyData} {w w' d d' : Nat} (h : PK p w d) (t : PKs ps w' d') : PKs (p :: ps) (w + 2 + w') (max d d') := by
  obtain ⟨a1, a2, a3, a4, a5⟩ := h
  obtain ⟨b1, b2, b3, b4, b5⟩ := t
  refine ⟨by simp [noTxts, a1, b1], by simp [PyData.showableAll, a2, b2], by simp [PyData.canLayAll0, a3, b3], ?_, ?_⟩
  · simp only [PyData.depthAll]; omega
  · simp only [wgts]; omega
theorem pk_list {ps : List PyData} {w d : Nat} (h : PKs ps w d) : PK (.list ps) (w + 2) (d + 1) := by
  obtain ⟨b1, b2, b3, b4, b5⟩ := h
  refine ⟨by simp [noTxt, b1], by simp [PyData.showable, b2], by simp [PyData.canLay0, b3], ?_, ?_⟩
  · simp only [PyData.depth]; omega
  · simp only [wgt]; omega
theorem pk_tuple {ps : List PyData} {w d : Nat} (h : PKs ps w d) : PK (.tuple ps) (w + 3) (d + 1) := by
  obtain ⟨b1, b2, b3, b4, b5⟩ := h
  refine ⟨by simp [noTxt, b1], by simp [PyData.showable, b2], by simp [PyData.canLay0, b3], ?_, ?_⟩
  · simp only [PyData.depth]; omega
  · simp only [wgt]; omega
theorem PK.mono {p : PyData} {w d w' d' : Nat} (h : PK p w d) (hw : w ≤ w' := by omega) (hd : d ≤ d' := by omega) : PK p w' d' := ⟨h.nt, h.sh, h.cl, Nat.le_trans h.dp hd, Nat.le_trans h.wt hw⟩
theorem PKs.mono {p : List PyData} {w d w' d' : Nat} (h : PKs p w d) (hw : w ≤ w' := by omega) (hd : d ≤ d' := by omega) : PKs p w' d' := ⟨h.nt, h.sh, h.cl, Nat.le_trans h.dp hd, Nat.le_trans h.wt hw⟩
theorem pks_all {w d : Nat} : ∀ {ps : List PyData}, (∀ p ∈ ps, PK p w d) → PKs ps (ps.length * (w + 2)) d
  | [], _ => ⟨rfl, rfl, rfl, Nat.zero_le _, by simp [wgts]⟩
  | p :: ps, h => by
    have ih := pks_all fun q hq => h q (List.mem_cons_of_mem _ hq)
    refine (pks_cons (h p (List.mem_cons_self ..)) ih).mono ?_ (by omega)
    rw [List.length_cons, Nat.succ_mul]; omega
theorem PK.rep {p : PyData} {w d : Nat} (h : PK p w d) (hr : rpOk p = true) (hw : w ≤ 2 ^ 24 := by omega) (hd : d ≤ 100 := by omega) : repOk p := ⟨h.nt, h.sh, hr, Nat.le_trans h.dp hd, Nat.le_trans h.wt hw⟩
theorem PK.shp {p : PyData} {w d : Nat} (h : PK p w d) (hd : d ≤ 64 := by omega) : SeqAt.shaped p = true := by
  unfold SeqAt.shaped
  rw [h.cl, Bool.true_and]
  exact decide_eq_true (Nat.le_trans h.dp hd)
mutual
theorem eqv_self : ∀ p : PyData, noTxt p = true → PyData.eqv p p = true
  | .none, _ => by simp only [PyData.eqv]
  | .bool b, _ => by simp only [PyData.eqv, beq_self_eq_true]
  | .int i, _ => by simp only [PyData.eqv, beq_self_eq_true]
  | .list xs, h => by simp only [PyData.eqv]; exact eqvs_self xs (by simpa [noTxt] using h)
  | .tuple xs, h => by simp only [PyData.eqv]; exact eqvs_self xs (by simpa [noTxt] using h)
  | .str _, h => by simp [noTxt] at h
  | .dict _, h => by simp [noTxt] at h
theorem eqvs_self : ∀ p : List PyData, noTxts p = true → PyData.eqvAll p p = true
  | [], _ => by simp only [PyData.eqvAll]
  | x :: xs, h => by
    have a : noTxt x = true ∧ noTxts xs = true := by simpa [noTxts] using h
    simp only [PyData.eqvAll, eqv_self x a.1, eqvs_self xs a.2, Bool.and_self]
end
/-- repr of one datum twice: the texts are equal -/
theorem dEq_rr2 {n : Bool} {p : PyData} {cs : List Cell} (h : repOk p) : dEq n (.str p.shown) (.str p.shown) cs = some (.bl (!n), cs) := by
  rw [dEq_sh h h]
  cases n <;> simp
/-- == of one datum twice -/
theorem eqO_rr {n : Bool} {p : PyData} {cs : List Cell} {w d : Nat} (h : PK p w d) (hd : d ≤ 64 := by omega) : eqO n (some p) (some p) cs = some (.bl (!n), cs) := by
  rw [eqO_s (h.shp hd) (h.shp hd), eqv_self p h.nt]
  cases n <;> rfl
/-! tuples of references as data -/
def Rf.pd (p : Rf) : PyData := .tuple [.int p.r, .int p.c, .bool p.f, .bool p.g]
def oPd : Option Rf → PyData
  | none => .none
  | some p => p.pd
@[simp] theorem toP0_oTp (p : Option Rf) : toP0 (oTp p) = some (oPd p) := by
  cases p with
  | none => simp [oTp, oPd]
  | some p => simp [oTp, oPd, Rf.tp, Rf.pd]
@[simp] theorem toP0s_oTp : ∀ ps : List (Option Rf), toP0s (ps.map oTp) = some (ps.map oPd)
  | [] => by simp
  | p :: ps => by rw [List.map_cons, toP0s_cons, toP0_oTp, toP0s_oTp ps, consP_s, List.map_cons]
def obig (p : Option Rf) : Prop := ∀ q, p = some q → (sm q.r ∧ sm q.c)
theorem sm_big {a : Int} (h : big a) : sm a := by
  obtain ⟨h1, h2⟩ := h
  have e : (10 : Int) ^ 60 < 2 ^ 250 := by decide
  exact log_mono (log_lt (k := 250) (by decide) (by omega) (by omega)) (by decide)
theorem oFit.big {x : Str} {L M a b : Int} {p : Option Rf} (h : oFit x L M a b p) : obig p := fun q e => ⟨sm_big (h q e).br, sm_big (h q e).bc⟩
theorem pk_oPd {p : Option Rf} (h : obig p) : PK (oPd p) 4000 1 := by
  cases p with
  | none => exact pk_none.mono
  | some p =>
    obtain ⟨h1, h2⟩ := h p rfl
    exact (pk_tuple (pks_cons (pk_int h1) (pks_cons (pk_int h2) (pks_cons (pk_bool _) (pks_cons (pk_bool _) pks_nil))))).mono
theorem pks_oPd {ps : List (Option Rf)} (h : ∀ p ∈ ps, obig p) (hl : ps.length ≤ 20) : PKs (ps.map oPd) 80100 1 := by
  have := pks_all (ps := ps.map oPd) (w := 4000) (d := 1) fun q hq => by
    obtain ⟨p, hp, rfl⟩ := List.mem_map.mp hq
    exact pk_oPd (h p hp)
  rw [List.length_map] at this
  exact this.mono (by omega)
def brkP : Nat → List (Option Rf) → List PyData
  | _, [] => []
  | k, none :: ps => .int (k : Nat) :: brkP (k + 1) ps
  | k, some _ :: ps => brkP (k + 1) ps
@[simp] theorem toP0s_brk : ∀ (ps : List (Option Rf)) (k : Nat), toP0s (brk k ps) = some (brkP k ps)
  | [], k => by simp [brk, brkP]
  | none :: ps, k => by simp [brk, brkP, toP0s_brk ps (k + 1)]
  | some _ :: ps, k => by simp [brk, brkP, toP0s_brk ps (k + 1)]
theorem pks_brk : ∀ (ps : List (Option Rf)) (k : Nat), k + ps.length ≤ 1000 → PKs (brkP k ps) (ps.length * 1923) 0
  | [], k, _ => pks_nil.mono
  | none :: ps, k, h => by
    rw [List.length_cons] at h
    have ih := pks_brk ps (k + 1) (by omega)
    exact (pks_cons (pk_int (i := (k : Nat)) (log_mono (log_lt (k := 100) (by decide) (by omega) (by omega)) (by decide))) ih).mono (by rw [List.length_cons, Nat.succ_mul]; omega)
  | some _ :: ps, k, h => by
    rw [List.length_cons] at h
    have ih := pks_brk ps (k + 1) (by omega)
    exact ih.mono (by rw [List.length_cons, Nat.succ_mul]; omega)
theorem small_sm {i : Int} (h1 : -(2 ^ 60) ≤ i := by omega) (h2 : i ≤ 2 ^ 60 := by omega) : sm i := log_mono (log_lt (k := 100) (by decide) (by omega) (by omega)) (by decide)
@[simp] theorem eqv_nil : PyData.eqv (.list []) (.list []) = true := by simp only [PyData.eqv, PyData.eqvAll]
@[simp] theorem shaped_nil : SeqAt.shaped (.list []) = true := by decide
/-! the law's loop over the script -/
theorem law_for {G : GC} (hG : ∀ xs cs, G [.arg xs] cs = some (.int xs.length, cs)) {q : Int} (q1 : 1 ≤ q) (q2 : q ≤ 63) {fb : Fs} {ns : List Int} {σ0 : Sd} (I : Sd → Prop) (h0 : I σ0) (hI : ∀ σ, I σ → σ[0]? = some (some (.arg (ns.map D.int))))
    (turn : ∀ (k : Nat) (σ : Sd) (cs : List Cell), k ≤ 63 → I σ → ∃ σ' cs', fb (σ.set 1 (some (.int k))) cs = .nx σ' cs' ∧ I σ') (cs : List Cell) :
    ∃ σ' cs', sFor (iRg1 (aCons (fCB dMax (aCons (fC (.int 1)) (aCons (fCB dMin (aCons (fC (.int q)) (aCons (fCB G (aCons (fVar 0) aNil)) aNil))) aNil))) aNil)) (gN 1) fb σ0 cs = .nx σ' cs' ∧ I σ' := by
  obtain ⟨j, ej, j0, j1⟩ : ∃ j : Int, j = (if (if (ns.length : Int) < q then (ns.length : Int) else q) > 1 then (if (ns.length : Int) < q then (ns.length : Int) else q) else 1) ∧ 0 ≤ j ∧ j ≤ 63 := by
    refine ⟨_, rfl, ?_, ?_⟩ <;> (split <;> (try split) <;> omega)
  have hb : -(2 ^ 62) ≤ j ∧ j < 2 ^ 62 := by omega
  have e2 : iRg1 (aCons (fCB dMax (aCons (fC (.int 1)) (aCons (fCB dMin (aCons (fC (.int q)) (aCons (fCB G (aCons (fVar 0) aNil)) aNil))) aNil))) aNil) σ0 cs = .ok (rngD 0 j.toNat) cs := by
    have : (fCB dMax (aCons (fC (.int 1)) (aCons (fCB dMin (aCons (fC (.int q)) (aCons (fCB G (aCons (fVar 0) aNil)) aNil))) aNil))) σ0 cs = .ok (.int j) cs := by
      rw [ej]
      simp [hI _ h0, hG]
    rw [iRg1_e, aCons_e, this]
    show rgO1 [.int j] cs = _
    rw [rgO1_i, if_pos hb]
  rw [sFor_e, e2, sOfL_ok]
  obtain ⟨σ', c', e3, h⟩ := forL_all (g := gN 1) (fb := fb) (ds := rngD 0 j.toNat) (σ := σ0) (c := cs) (fun i σ c => I σ) h0 (by
    rintro i d σ c hd h
    obtain ⟨hi, rfl⟩ := rngD_get hd
    obtain ⟨σ', cs', e, h'⟩ := turn i σ c (by omega) h
    exact ⟨_, _, cs', rfl, (by rw [Int.zero_add]; exact e), h'⟩)
  exact ⟨σ', c', e3, h⟩
theorem gcLen {c : Nat} {F : List D → List Cell → Out D} (xs : List D) (cs : List Cell) : gcAlt dLen (dOwnLen c F) [.arg xs] cs = some (.int xs.length, cs) := rfl
end PV

namespace PV
open PySem PySem.Spec PyProof.Rows L2

/-! ### sheets as data; what a copy does -/
inductive Kn where
  | plain | stop | ring
deriving DecidableEq
def Kn.s : Kn → Str
  | .plain => "plain"
  | .stop => "stop"
  | .ring => "ring"
theorem ok_plain : okS "plain" := by unfold okS; decide +kernel
theorem ok_stop : okS "stop" := by unfold okS; decide +kernel
theorem ok_ring : okS "ring" := by unfold okS; decide +kernel
theorem Kn.ok (k : Kn) : okS k.s := by cases k; exact ok_plain; exact ok_stop; exact ok_ring
section
variable {n : Bool} {cs : List Cell}
@[simp] theorem dEq_pp : dEq n (.str "plain") (.str "plain") cs = some (.bl (!n), cs) := by rw [dEq_s ok_plain ok_plain]; cases n <;> rfl
@[simp] theorem dEq_ps : dEq n (.str "plain") (.str "stop") cs = some (.bl n, cs) := by rw [dEq_s ok_plain ok_stop]; cases n <;> rfl
@[simp] theorem dEq_pr : dEq n (.str "plain") (.str "ring") cs = some (.bl n, cs) := by rw [dEq_s ok_plain ok_ring]; cases n <;> rfl
@[simp] theorem dEq_sp : dEq n (.str "stop") (.str "plain") cs = some (.bl n, cs) := by rw [dEq_s ok_stop ok_plain]; cases n <;> rfl
@[simp] theorem dEq_ss : dEq n (.str "stop") (.str "stop") cs = some (.bl (!n), cs) := by rw [dEq_s ok_stop ok_stop]; cases n <;> rfl
@[simp] theorem dEq_sr : dEq n (.str "stop") (.str "ring") cs = some (.bl n, cs) := by rw [dEq_s ok_stop ok_ring]; cases n <;> rfl
@[simp] theorem dEq_rp : dEq n (.str "ring") (.str "plain") cs = some (.bl n, cs) := by rw [dEq_s ok_ring ok_plain]; cases n <;> rfl
@[simp] theorem dEq_rs : dEq n (.str "ring") (.str "stop") cs = some (.bl n, cs) := by rw [dEq_s ok_ring ok_stop]; cases n <;> rfl
@[simp] theorem dEq_rrg : dEq n (.str "ring") (.str "ring") cs = some (.bl (!n), cs) := by rw [dEq_s ok_ring ok_ring]; cases n <;> rfl
end
def sfs (h w : Int) : List (Str × D) := [("held_rows", .int h), ("held_columns", .int w)]
def sD (c : Nat) (h w : Int) : D := .ins c (sfs h w)
section
variable {c : Nat} {h w : Int} {cs : List Cell}
@[simp] theorem ins_sD : insOf cs (sD c h w) = some (c, sfs h w) := rfl
@[simp] theorem kd_sD : kdOf cs (sD c h w) = some (.cl c) := rfl
@[simp] theorem non_sD : isNon (sD c h w) = false := rfl
theorem lkS1 : (sfs h w).lookup ("held_rows" : Str) = some (.int h) := rfl
theorem lkS2 : (sfs h w).lookup ("held_columns" : Str) = some (.int w) := rfl
theorem lkS3 : (sfs h w).lookup ("need_cell" : Str) = none := rfl
theorem lkS4 : (sfs h w).lookup ("need_copy" : Str) = none := rfl
theorem lkS5 : (sfs h w).lookup ("need_way" : Str) = none := rfl
theorem lkS6 : (sfs h w).lookup ("fits" : Str) = none := rfl
theorem lkS7 : (sfs h w).lookup ("fits_plainly" : Str) = none := rfl
theorem lkS8 : (sfs h w).lookup ("kept" : Str) = none := rfl
theorem lkS9 : (sfs h w).lookup ("held" : Str) = none := rfl
theorem lkS10 : (sfs h w).lookup ("copied" : Str) = none := rfl
theorem lkS11 : (sfs h w).lookup ("followed" : Str) = none := rfl
theorem lkS12 : (sfs h w).lookup ("safe" : Str) = none := rfl
theorem lkS13 : (sfs h w).lookup ("KIND" : Str) = none := rfl
theorem putS1 (v : D) : putD ("held_rows" : Str) v [] = [(("held_rows" : Str), v)] := rfl
theorem putS2 (a v : D) : putD ("held_columns" : Str) v [(("held_rows" : Str), a)] = [(("held_rows" : Str), a), (("held_columns" : Str), v)] := rfl
@[simp] theorem dIn_ins {neg : Bool} {x : D} {c : Nat} {fs : List (Str × D)} : dIn neg x (.ins c fs) cs = none := by
  show (match toP cs x, toP cs (.ins c fs) with
    | some d, some (.list ds) => if SeqAt.shaped d = true ∧ SeqAt.shaped (.list ds) = true then some (D.bl (if neg then !ds.any (fun z => PyData.eqv z d) else ds.any fun z => PyData.eqv z d), cs) else none
    | _, _ => none) = none
  have : toP cs (.ins c fs) = none := rfl
  rw [this]
  cases toP cs x <;> rfl
@[simp] theorem dIn_sD {neg : Bool} {x : D} : dIn neg x (sD c h w) cs = none := dIn_ins
@[simp] theorem dEq_sD {neg : Bool} {x : D} : dEq neg (sD c h w) x cs = none := dEq_ins
end
def biO (neg : Bool) (r : Out D) : Rs D := match r with
  | .ok (.bl b) cs' => some (.bl (if neg then !b else b), cs')
  | _ => none
@[simp] theorem biO_b {neg b : Bool} {cs : List Cell} : biO neg (.ok (.bl b) cs) = some (.bl (if neg then !b else b), cs) := rfl
def oiO (neg : Bool) (c : Nat) (o : Option (Nat × List (Str × D))) (r : Out D) (t : Tg r := .mk) : Rs D := match o with
  | some (c', _) => if c' = c then biO neg r else none
  | none => none
@[simp] theorem oiO_s {neg : Bool} {c c' : Nat} {fs : List (Str × D)} {r : Out D} {t : Tg r} : oiO neg c (some (c', fs)) r t = if c' = c then biO neg r else none := rfl
@[simp] theorem oiO_n {neg : Bool} {c : Nat} {r : Out D} {t : Tg r} : oiO neg c none r t = none := rfl
@[simp ↓] theorem dOwnIn_e {neg : Bool} {c : Nat} {F : List D → List Cell → Out D} {x y : D} {cs : List Cell} : dOwnIn neg c F x y cs = oiO neg c (insOf cs y) (F [y, x] cs) := by
  unfold dOwnIn oiO
  cases insOf cs y with
  | none => rfl
  | some p =>
    obtain ⟨c', fs⟩ := p
    show (if c' = c then _ else none) = if c' = c then _ else none
    by_cases h : c' = c
    · rw [if_pos h, if_pos h]
      unfold biO
      cases F [y, x] cs with
      | ok d cs' => cases d <;> rfl
      | ex x c => rfl
      | no => rfl
    · rw [if_neg h, if_neg h]

/-! what becomes of a distance -/
def stay (d lo hi L : Int) : Bool := decide (0 ≤ lo + d) && decide (hi + d < L)
def stp (d lo hi L : Int) : Int := if (if L - 1 - hi < d then L - 1 - hi else d) > -lo then (if L - 1 - hi < d then L - 1 - hi else d) else -lo
def keepP (H W t b l r : Int) : Option Rf → Option Rf
  | none => none
  | some p => if (p.f || stay p.r t b H) && (p.g || stay p.c l r W) then some p else none
def keepS (H W t b l r : Int) : Option Rf → Option Rf
  | none => none
  | some p => some ⟨if p.f then p.r else stp p.r t b H, if p.g then p.c else stp p.c l r W, p.f, p.g⟩
def keep (k : Kn) (H W t b l r : Int) (p : Option Rf) : Option Rf := match k with
  | .plain => keepP H W t b l r p
  | .stop => keepS H W t b l r p
  | .ring => p
def okp (p : Option Rf) : Prop := ∀ q, p = some q → q.ok
theorem keep_ok (k : Kn) {H W t b l r : Int} {p : Option Rf} (h : okp p) : okp (keep k H W t b l r p) := by
  cases k with
  | ring => exact h
  | plain =>
    intro q e
    cases p with
    | none => cases e
    | some p =>
      have e' : (if (p.f || stay p.r t b H) && (p.g || stay p.c l r W) then some p else none) = some q := e
      split at e'
      · cases e'; exact h _ rfl
      · cases e'
  | stop =>
    intro q e
    cases p with
    | none => cases e
    | some p =>
      cases e
      have hp := h p rfl
      refine ⟨fun e => ?_, fun e => ?_⟩
      · have e' : p.f = true := e
        show 0 ≤ (if p.f = true then p.r else _) ∧ (if p.f = true then p.r else _) < 10 ^ 30
        rw [if_pos e']; exact hp.1 e'
      · have e' : p.g = true := e
        show 0 ≤ (if p.g = true then p.c else _) ∧ (if p.g = true then p.c else _) < 10 ^ 30
        rw [if_pos e']; exact hp.2 e'
/-- whether a target is on the sheet -/
def onB (L a r : Int) (f : Bool) : Bool := decide (0 ≤ tgt r f a) && decide (tgt r f a < L)
def fitB (k : Kn) (H W a b : Int) (ps : List (Option Rf)) : Bool := ps.all fun p => match p with
  | none => true
  | some p => match k with
    | .ring => (!p.f || onB H a p.r p.f) && (!p.g || onB W b p.c p.g)
    | _ => onB H a p.r p.f && onB W b p.c p.g
theorem onB_of {L a r : Int} {f : Bool} (h : fitI L a r f) : onB L a r f = true := by
  unfold onB tgt
  unfold fitI at h
  cases f
  · simp at h ⊢; exact h
  · simp at h ⊢; exact h
theorem fitB_of {k : Kn} {H W a b : Int} {ps : List (Option Rf)} (h : ∀ p ∈ ps, oFit k.s H W a b p) : fitB k H W a b ps = true := by
  unfold fitB
  rw [List.all_eq_true]
  intro p hp
  cases p with
  | none => rfl
  | some p =>
    have q := h _ hp p rfl
    have nr : ∀ k : Kn, k ≠ .ring → k.s = "ring" → False := fun k => by cases k <;> intro h e <;> first | exact absurd rfl h | exact absurd e (by decide)
    cases k with
    | ring =>
      have h1 : (!p.f || onB H a p.r p.f) = true := by
        rcases q.r with z | z
        · rw [onB_of z, Bool.or_true]
        · rw [z.2]; rfl
      have h2 : (!p.g || onB W b p.c p.g) = true := by
        rcases q.c with z | z
        · rw [onB_of z, Bool.or_true]
        · rw [z.2]; rfl
      show ((!p.f || onB H a p.r p.f) && (!p.g || onB W b p.c p.g)) = true
      rw [h1, h2]; rfl
    | plain =>
      have h1 := onB_of (q.r.resolve_right fun z => nr .plain (by decide) z.1)
      have h2 := onB_of (q.c.resolve_right fun z => nr .plain (by decide) z.1)
      show (onB H a p.r p.f && onB W b p.c p.g) = true
      rw [h1, h2]; rfl
    | stop =>
      have h1 := onB_of (q.r.resolve_right fun z => nr .stop (by decide) z.1)
      have h2 := onB_of (q.c.resolve_right fun z => nr .stop (by decide) z.1)
      show (onB H a p.r p.f && onB W b p.c p.g) = true
      rw [h1, h2]; rfl

def tgP (a b : Int) : Option Rf → Int × Int
  | none => (0, 0)
  | some p => (tgt p.r p.f a, tgt p.c p.g b)
theorem fitB_split (H W a b : Int) (ps : List (Option Rf)) : fitB .plain H W a b ps = ((((ps.filter Option.isSome).map fun p => (tgP a b p).1).all fun x => decide (0 ≤ x) && decide (x < H)) && (((ps.filter Option.isSome).map fun p => (tgP a b p).2).all fun x => decide (0 ≤ x) && decide (x < W))) := by
  induction ps with
  | nil => rfl
  | cons p ps ih =>
    cases p with
    | none => exact ih
    | some p =>
      show (onB H a p.r p.f && onB W b p.c p.g && fitB .plain H W a b ps) = _
      rw [ih]
      simp only [List.filter_cons, Option.isSome_some, if_true, List.map_cons, List.all_cons, tgP, onB]
      generalize (decide (0 ≤ tgt p.r p.f a) && decide (tgt p.r p.f a < H)) = x1
      generalize (decide (0 ≤ tgt p.c p.g b) && decide (tgt p.c p.g b < W)) = x2
      cases x1 <;> cases x2 <;> simp
def oF : Option Rf → Bool
  | none => false
  | some p => p.f
def oG : Option Rf → Bool
  | none => false
  | some p => p.g
def oR : Option Rf → Int
  | none => 0
  | some p => p.r
def oC : Option Rf → Int
  | none => 0
  | some p => p.c
theorem fitB_ring (H W a b : Int) (ps : List (Option Rf)) : fitB .ring H W a b ps = (((((ps.filter Option.isSome).filter oF).map oR).all fun x => decide (0 ≤ x) && decide (x < H)) && ((((ps.filter Option.isSome).filter oG).map oC).all fun x => decide (0 ≤ x) && decide (x < W))) := by
  induction ps with
  | nil => rfl
  | cons p ps ih =>
    cases p with
    | none => exact ih
    | some p =>
      obtain ⟨r, c, f, g⟩ := p
      show ((!f || onB H a r f) && (!g || onB W b c g) && fitB .ring H W a b ps) = _
      rw [ih]
      cases f <;> cases g <;> simp [List.filter_cons, onB, tgt, oF, oG, oR, oC, Bool.and_assoc, Bool.and_left_comm]
/-! the law's own copy of a reference -/
def axisB : Fs := (sSeq (sIf (fOr (fTru (fVar 4)) (fOr (fTst (fOp2 (dEq false) (fVar 0) (fC (.str "ring")))) (fTst (fChain dLe dLt (fC (.int 0)) (fOp2 (dAdd true) (fVar 2) (fVar 3)) (fVar 1))))) (sRet (fVar 3)) sNx) (sSeq (sIf (fTst (fOp2 (dEq false) (fVar 0) (fC (.str "plain")))) (sRet (fC .non)) sNx) (sRet (fIfE (fTst (fOp2 dLt (fOp2 (dAdd true) (fVar 2) (fVar 3)) (fC (.int 0)))) (fOp2 dSub (fC (.int 0)) (fVar 2)) (fOp2 dSub (fOp2 dSub (fVar 1) (fC (.int 1))) (fVar 2))))))
def axisF : List D → List Cell → Out D := runDef 5 5 axisB
def oI0 : Option Int → D
  | none => .non
  | some i => .int i
def axV (k : Kn) (L a n : Int) (f : Bool) : Option Int := if f = true ∨ k = .ring ∨ (0 ≤ a + n ∧ a + n < L) then some n else if k = .plain then none else some (if a + n < 0 then 0 - a else L - 1 - a)
theorem axis_eq (k : Kn) (L a n : Int) (f : Bool) (cs : List Cell) : axisF [.str k.s, .int L, .int a, .int n, .bl f] cs = .ok (oI0 (axV k L a n f)) cs := by
  unfold axisF
  rw [runDef_e, if_pos (show [D.str k.s, .int L, .int a, .int n, .bl f].length = 5 from rfl)]
  unfold axisB axV
  by_cases h1 : 0 ≤ a + n <;> by_cases h2 : a + n < L <;> cases k <;> cases f <;> simp [Kn.s, h1, h2, oI0] <;> (try omega) <;> (by_cases h3 : a + n < 0 <;> simp [h3, oI0] <;> omega)
def stepB1 : Fs := (sAsg (fCall (fnK 5 0 5 axisF (fun ds _ => ds)) (aCons (fVar 0) (aCons (fVar 1) (aCons (fOp2 dIx (fVar 4) (fC (.int 0))) (aCons (fOp2 dIx (fVar 3) (fC (.int 0))) (aCons (fOp2 dIx (fVar 3) (fC (.int 2))) aNil))))) aNil) (gN 5))
def stepB2 : Fs := (sAsg (fCall (fnK 5 0 5 axisF (fun ds _ => ds)) (aCons (fVar 0) (aCons (fVar 2) (aCons (fOp2 dIx (fVar 4) (fC (.int 1))) (aCons (fOp2 dIx (fVar 3) (fC (.int 1))) (aCons (fOp2 dIx (fVar 3) (fC (.int 3))) aNil))))) aNil) (gN 6))
def stepB : Fs := (sSeq (sIf (fTst (fOp2 (dIs false) (fVar 3) (fC .non))) (sRet (fC .non)) sNx) (sSeq stepB1 (sSeq stepB2 (sSeq (sIf (fOr (fTst (fOp2 (dIs false) (fVar 5) (fC .non))) (fTst (fOp2 (dIs false) (fVar 6) (fC .non)))) (sRet (fC .non)) sNx) (sRet (fTup (aCons (fVar 5) (aCons (fVar 6) (aCons (fOp2 dIx (fVar 3) (fC (.int 2))) (aCons (fOp2 dIx (fVar 3) (fC (.int 3))) aNil))))))))))
def stepF : List D → List Cell → Out D := runDef 5 7 stepB
def stepV (k : Kn) (H W a b : Int) : Option Rf → Option Rf
  | none => none
  | some p => match axV k H a p.r p.f, axV k W b p.c p.g with
    | some r, some c => some ⟨r, c, p.f, p.g⟩
    | _, _ => none
theorem step_eq (k : Kn) (H W a b : Int) (p : Option Rf) (cs : List Cell) : stepF [.str k.s, .int H, .int W, oTp p, .tup [.int a, .int b]] cs = .ok (oTp (stepV k H W a b p)) cs := by
  have sz : 4 ≤ sizeLine := by decide
  unfold stepF
  rw [runDef_e, if_pos (show [D.str k.s, .int H, .int W, oTp p, .tup [.int a, .int b]].length = 5 from rfl)]
  unfold stepB
  cases p with
  | none => simp [oTp, stepV]
  | some p =>
    cases h1 : axV k H a p.r p.f with
    | none => cases h2 : axV k W b p.c p.g <;> simp [stepB1, stepB2, oTp, Rf.tp, axis_eq, h1, h2, oI0, stepV]
    | some r => cases h2 : axV k W b p.c p.g <;> simp [stepB1, stepB2, oTp, Rf.tp, axis_eq, h1, h2, oI0, stepV, sz]
/-- the law's copy is the document's -/
theorem stepV_keep {k : Kn} {H W a b : Int} (a0 : 0 ≤ a) (a1 : a < H) (b0 : 0 ≤ b) (b1 : b < W) (p : Option Rf) : stepV k H W a b p = keep k H W a a b b p := by
  cases p with
  | none => cases k <;> rfl
  | some p =>
    obtain ⟨r, c, f, g⟩ := p
    cases k with
    | ring => simp [stepV, axV, keep]
    | plain =>
      show (match axV .plain H a r f, axV .plain W b c g with
        | some r, some c => some (Rf.mk r c f g)
        | _, _ => none) = if (f || stay r a a H) && (g || stay c b b W) then some ⟨r, c, f, g⟩ else none
      have h1 : axV .plain H a r f = if (f || stay r a a H) = true then some r else none := by
        unfold axV stay
        by_cases q1 : 0 ≤ a + r <;> by_cases q2 : a + r < H <;> cases f <;> simp [q1, q2]
      have h2 : axV .plain W b c g = if (g || stay c b b W) = true then some c else none := by
        unfold axV stay
        by_cases q1 : 0 ≤ b + c <;> by_cases q2 : b + c < W <;> cases g <;> simp [q1, q2]
      rw [h1, h2]
      by_cases q1 : (f || stay r a a H) = true <;> by_cases q2 : (g || stay c b b W) = true <;> simp [q1, q2]
    | stop =>
      show (match axV .stop H a r f, axV .stop W b c g with
        | some r, some c => some (Rf.mk r c f g)
        | _, _ => none) = some ⟨if f then r else stp r a a H, if g then c else stp c b b W, f, g⟩
      have h1 : axV .stop H a r f = some (if f = true then r else stp r a a H) := by
        unfold axV stp
        by_cases q1 : 0 ≤ a + r <;> by_cases q2 : a + r < H <;> cases f <;> simp [q1, q2] <;> (repeat' split) <;> omega
      have h2 : axV .stop W b c g = some (if g = true then c else stp c b b W) := by
        unfold axV stp
        by_cases q1 : 0 ≤ b + c <;> by_cases q2 : b + c < W <;> cases g <;> simp [q1, q2] <;> (repeat' split) <;> omega
      rw [h1, h2]
theorem intsOf_mapP : ∀ xs : List Int, intsOf (xs.map D.int) = some xs := intsOf_map
theorem intsAt_l {α : Type} (xs : List Int) (c : List Cell) {x : Int} {l : List α} (f : α → Int) (h : xs = x :: l.map f) : intsAt c (.lst (.int x :: l.map fun p => .int (f p))) = some xs := by
  have e : (D.int x :: l.map fun p => D.int (f p)) = xs.map D.int := by rw [h, List.map_cons, List.map_map]; rfl
  rw [e]
  show (rdL c (.lst (xs.map D.int))).bind intsOf = _
  show (some (xs.map D.int)).bind intsOf = _
  rw [Option.bind_some, intsOf_map]
theorem dMin_l {c : List Cell} {xs : List D} : dMin [.lst xs] c = (match intsAt c (.lst xs) with
    | some (n :: ns) => some (D.int (minL (n :: ns)), c)
    | _ => none) := rfl
theorem dMax_l {c : List Cell} {xs : List D} : dMax [.lst xs] c = (match intsAt c (.lst xs) with
    | some (n :: ns) => some (D.int (maxL (n :: ns)), c)
    | _ => none) := rfl
theorem big_sm' {i : Int} (h1 : -(10 ^ 70) ≤ i) (h2 : i ≤ 10 ^ 70) : sm i := by
  have e : (10 : Int) ^ 70 < 2 ^ 250 := by decide
  exact log_mono (log_lt (k := 250) (by decide) (by omega) (by omega)) (by decide)
/-- numbers that repr takes -/
def bigs (p : Option Rf) : Prop := ∀ q, p = some q → big q.r ∧ big q.c
theorem bigs.ob {p : Option Rf} (h : bigs p) : obig p := fun q e => ⟨sm_big (h q e).1, sm_big (h q e).2⟩
theorem oFit.bigs {x : Str} {L M a b : Int} {p : Option Rf} (h : oFit x L M a b p) : bigs p := fun q e => ⟨(h q e).br, (h q e).bc⟩
theorem stp_big {d lo hi L : Int} (h : big d) (l0 : 0 ≤ lo) (l1 : lo ≤ 10 ^ 30) (h0 : 0 ≤ hi) (h1 : hi ≤ 10 ^ 30) (L0 : 0 ≤ L) (L1 : L ≤ 10 ^ 30) : big (stp d lo hi L) := by
  obtain ⟨a, b⟩ := h
  unfold stp big
  have e : (10 : Int) ^ 30 + 10 ^ 30 + 1 < 10 ^ 60 := by decide
  constructor <;> (repeat' split) <;> omega
theorem keep_bigs (k : Kn) {H W t b l r : Int} (H0 : 0 ≤ H) (H1 : H ≤ 10 ^ 30) (W0 : 0 ≤ W) (W1 : W ≤ 10 ^ 30) (t0 : 0 ≤ t) (t1 : t ≤ 10 ^ 30) (b0 : 0 ≤ b) (b1 : b ≤ 10 ^ 30) (l0 : 0 ≤ l) (l1 : l ≤ 10 ^ 30) (r0 : 0 ≤ r) (r1 : r ≤ 10 ^ 30) {p : Option Rf} (h : bigs p) : bigs (keep k H W t b l r p) := by
  cases k with
  | ring => exact h
  | plain =>
    intro q e
    cases p with
    | none => cases e
    | some p =>
      have e' : (if (p.f || stay p.r t b H) && (p.g || stay p.c l r W) then some p else none) = some q := e
      split at e'
      · cases e'; exact h _ rfl
      · cases e'
  | stop =>
    intro q e
    cases p with
    | none => cases e
    | some p =>
      cases e
      obtain ⟨h1, h2⟩ := h p rfl
      refine ⟨?_, ?_⟩
      · show big (if p.f = true then p.r else _)
        split
        · exact h1
        · exact stp_big h1 t0 t1 b0 b1 H0 H1
      · show big (if p.g = true then p.c else _)
        split
        · exact h2
        · exact stp_big h2 l0 l1 r0 r1 W0 W1
/-- fits, reference by reference -/
def fit1 (k : Kn) (H W a b : Int) (p : Option Rf) : Prop := ∀ q, p = some q → match k with
  | .ring => (q.f = true → 0 ≤ q.r ∧ q.r < H) ∧ (q.g = true → 0 ≤ q.c ∧ q.c < W)
  | _ => (0 ≤ tgt q.r q.f a ∧ tgt q.r q.f a < H) ∧ 0 ≤ tgt q.c q.g b ∧ tgt q.c q.g b < W
theorem fitB_iff {k : Kn} {H W a b : Int} {ps : List (Option Rf)} : fitB k H W a b ps = true ↔ ∀ p ∈ ps, fit1 k H W a b p := by
  unfold fitB
  rw [List.all_eq_true]
  refine forall_congr' fun p => forall_congr' fun _ => ?_
  cases p with
  | none => exact ⟨fun _ q e => (by cases e), fun _ => rfl⟩
  | some p =>
    obtain ⟨r, c, f, g⟩ := p
    cases k
    · constructor
      · intro h q e; cases e
        simpa [onB, and_assoc] using h
      · intro h; have := h _ rfl
        simpa [onB, and_assoc] using this
    · constructor
      · intro h q e; cases e
        simpa [onB, and_assoc] using h
      · intro h; have := h _ rfl
        simpa [onB, and_assoc] using this
    · constructor
      · intro h q e; cases e
        cases f <;> cases g <;> simpa [onB, tgt] using h
      · intro h; have := h _ rfl
        cases f <;> cases g <;> simpa [onB, tgt] using this
theorem fit1_of {k : Kn} {H W a b : Int} {p : Option Rf} (h : oFit k.s H W a b p) : fit1 k H W a b p := (fitB_iff (ps := [p])).mp (fitB_of (ps := [p]) fun q hq => by rw [List.mem_singleton.mp hq]; exact h) p (by simp)
/-- a copy to the same cell changes nothing -/
theorem keep_same {k : Kn} {H W a b : Int} {p : Option Rf} (h : fit1 k H W a b p) : keep k H W a a b b p = p := by
  cases p with
  | none => cases k <;> rfl
  | some p =>
    have q := h p rfl
    obtain ⟨r, c, f, g⟩ := p
    cases k with
    | ring => rfl
    | plain =>
      have q' : (0 ≤ tgt r f a ∧ tgt r f a < H) ∧ 0 ≤ tgt c g b ∧ tgt c g b < W := q
      show (if (f || stay r a a H) && (g || stay c b b W) then some (Rf.mk r c f g) else none) = some ⟨r, c, f, g⟩
      have h1 : (f || stay r a a H) = true := by
        cases f
        · simp [tgt] at q'; simp [stay]; omega
        · rfl
      have h2 : (g || stay c b b W) = true := by
        cases g
        · simp [tgt] at q'; simp [stay]; omega
        · rfl
      rw [h1, h2]; rfl
    | stop =>
      have q' : (0 ≤ tgt r f a ∧ tgt r f a < H) ∧ 0 ≤ tgt c g b ∧ tgt c g b < W := q
      show some (Rf.mk (if f then r else stp r a a H) (if g then c else stp c b b W) f g) = some ⟨r, c, f, g⟩
      have h1 : (if f = true then r else stp r a a H) = r := by
        cases f
        · simp [tgt] at q'
          simp only [Bool.false_eq_true, if_false]
          unfold stp; (repeat' split) <;> omega
        · rfl
      have h2 : (if g = true then c else stp c b b W) = c := by
        cases g
        · simp [tgt] at q'
          simp only [Bool.false_eq_true, if_false]
          unfold stp; (repeat' split) <;> omega
        · rfl
      rw [h1, h2]
/-- what is copied fits the other cell -/
theorem keep_fit {k : Kn} {H W a b t u l r a' b' : Int} (ht : 0 ≤ t) (hu : u < H) (hl : 0 ≤ l) (hr : r < W) (a0 : t ≤ a') (a1 : a' ≤ u) (b0 : l ≤ b') (b1 : b' ≤ r) {p : Option Rf} (h : fit1 k H W a b p) : fit1 k H W a' b' (keep k H W t u l r p) := by
  cases p with
  | none => cases k <;> (intro q e; cases e)
  | some p =>
    have q := h p rfl
    obtain ⟨x, y, f, g⟩ := p
    cases k with
    | ring => intro z e; cases e; exact q
    | plain =>
      have q' : (0 ≤ tgt x f a ∧ tgt x f a < H) ∧ 0 ≤ tgt y g b ∧ tgt y g b < W := q
      intro z e
      have e' : (if (f || stay x t u H) && (g || stay y l r W) then some (Rf.mk x y f g) else none) = some z := e
      split at e'
      · rename_i hs
        cases e'
        show (0 ≤ tgt x f a' ∧ tgt x f a' < H) ∧ 0 ≤ tgt y g b' ∧ tgt y g b' < W
        cases f <;> cases g <;> simp [tgt, stay] at q' hs ⊢ <;> omega
      · cases e'
    | stop =>
      have q' : (0 ≤ tgt x f a ∧ tgt x f a < H) ∧ 0 ≤ tgt y g b ∧ tgt y g b < W := q
      intro z e
      cases e
      show (0 ≤ tgt (if f then x else stp x t u H) f a' ∧ tgt (if f then x else stp x t u H) f a' < H) ∧ 0 ≤ tgt (if g then y else stp y l r W) g b' ∧ tgt (if g then y else stp y l r W) g b' < W
      have s1 : ∀ {d lo hi L c : Int}, 0 ≤ lo → hi < L → lo ≤ c → c ≤ hi → 0 ≤ stp d lo hi L + c ∧ stp d lo hi L + c < L := by
        intro d lo hi L c h1 h2 h3 h4
        unfold stp; constructor <;> (repeat' split) <;> omega
      have z1 := s1 (d := x) ht hu a0 a1
      have z2 := s1 (d := y) hl hr b0 b1
      cases f <;> cases g <;> simp [tgt] at q' ⊢ <;> omega
instance : DecidableEq Rf := fun p q => match p, q with
  | ⟨r, c, f, g⟩, ⟨r', c', f', g'⟩ => if h : r = r' ∧ c = c' ∧ f = f' ∧ g = g' then isTrue (by obtain ⟨h1, h2, h3, h4⟩ := h; rw [h1, h2, h3, h4]) else isFalse fun e => h (by cases e; exact ⟨rfl, rfl, rfl, rfl⟩)
theorem rf_eq {r c r' c' : Int} {f g f' g' : Bool} : (Rf.mk r c f g = ⟨r', c', f', g'⟩) ↔ (f = f' ∧ g = g') ∧ r = r' ∧ c = c' := by
  constructor
  · intro e; cases e; exact ⟨⟨rfl, rfl⟩, rfl, rfl⟩
  · rintro ⟨⟨rfl, rfl⟩, rfl, rfl⟩; rfl
/-- item by item, as far as both go -/
def zipEq : List (Option Rf) → List (Option Rf) → Bool
  | p :: ps, q :: qs => decide (p = q) && zipEq ps qs
  | _, _ => true
theorem zipEq_iff : ∀ ps qs : List (Option Rf), (zipEq ps qs && decide (ps.length = qs.length)) = decide (ps = qs)
  | [], [] => rfl
  | [], q :: qs => by simp [zipEq]
  | p :: ps, [] => by simp [zipEq]
  | p :: ps, q :: qs => by
    have ih := zipEq_iff ps qs
    by_cases h : p = q
    · subst h
      simp only [zipEq, decide_true, Bool.true_and, List.length_cons, Nat.add_right_cancel_iff, List.cons.injEq, true_and]
      exact ih
    · simp [zipEq, h]
theorem allG_items {G : GB} {f : Option Rf → D} {cs : List Cell} (h : ∀ p q, G (f p) (f q) cs = some (decide (p = q))) : ∀ ps qs : List (Option Rf), allG G (ps.map f) (qs.map f) cs = some (zipEq ps qs)
  | [], [] => rfl
  | [], q :: qs => rfl
  | p :: ps, [] => rfl
  | p :: ps, q :: qs => by
    have ih := allG_items h ps qs
    rw [List.map_cons, List.map_cons]
    unfold allG
    rw [h p q]
    by_cases e : p = q
    · simp only [e, decide_true, zipEq, Bool.true_and]; exact ih
    · simp [e, zipEq]
end PV

namespace PV
open PySem PySem.Spec PyProof.Rows L2

/-! ### ways of cells; what a way does -/
abbrev Ce := Int × Int
def ceD (p : Ce) : D := .tup [.int p.1, .int p.2]
def wfs (ps : List Ce) : List (Str × D) := [("held_cells", .lst (ps.map ceD))]
def wD (c : Nat) (ps : List Ce) : D := .ins c (wfs ps)
section
variable {c : Nat} {ps : List Ce} {cs : List Cell}
@[simp] theorem ins_wD : insOf cs (wD c ps) = some (c, wfs ps) := rfl
@[simp] theorem kd_wD : kdOf cs (wD c ps) = some (.cl c) := rfl
@[simp] theorem non_wD : isNon (wD c ps) = false := rfl
theorem lkW : (wfs ps).lookup ("held_cells" : Str) = some (.lst (ps.map ceD)) := rfl
theorem putW (v : D) : putD ("held_cells" : Str) v [] = [(("held_cells" : Str), v)] := rfl
end
@[simp] theorem toP0_ce (p : Ce) : toP0 (ceD p) = some (.tuple [.int p.1, .int p.2]) := by simp [ceD]
def cePd (p : Ce) : PyData := .tuple [.int p.1, .int p.2]
@[simp] theorem toP0s_ce : ∀ ps : List Ce, toP0s (ps.map ceD) = some (ps.map cePd)
  | [] => by simp
  | p :: ps => by rw [List.map_cons, toP0s_cons, toP0_ce, toP0s_ce ps, consP_s]; rfl
/-- a cell of a sheet -/
def onS (H W : Int) (p : Ce) : Prop := 0 ≤ p.1 ∧ p.1 < H ∧ 0 ≤ p.2 ∧ p.2 < W
theorem pk_ce {H W : Int} (H1 : H ≤ 10 ^ 30) (W1 : W ≤ 10 ^ 30) {p : Ce} (h : onS H W p) : PK (cePd p) 4000 1 := by
  obtain ⟨a, b, c, d⟩ := h
  have e : (10 : Int) ^ 30 < 10 ^ 60 := by decide
  exact (pk_tuple (pks_cons (pk_int (sm_big (show big p.1 from ⟨by omega, by omega⟩))) (pks_cons (pk_int (sm_big (show big p.2 from ⟨by omega, by omega⟩))) pks_nil))).mono
theorem pks_ce {H W : Int} (H1 : H ≤ 10 ^ 30) (W1 : W ≤ 10 ^ 30) {ps : List Ce} (h : ∀ p ∈ ps, onS H W p) {n : Nat} (hl : ps.length ≤ n) : PKs (ps.map cePd) (n * 4002) 1 := by
  have := pks_all (ps := ps.map cePd) (w := 4000) (d := 1) fun q hq => by
    obtain ⟨p, hp, rfl⟩ := List.mem_map.mp hq
    exact pk_ce H1 W1 (h p hp)
  rw [List.length_map] at this
  exact this.mono (Nat.mul_le_mul_right _ hl)

/-! two copies, one after another -/
theorem stp_stp {d t u a L : Int} (h0 : t ≤ u) (h1 : 0 ≤ t) (h2 : u < L) (a0 : 0 ≤ a) (a1 : a < L) : stp (stp d t u L) a a L = stp d (if a ≤ t then a else t) (if u ≤ a then a else u) L := by
  unfold stp
  (repeat' split) <;> omega
theorem stay_stay {d t u a L : Int} : (stay d t u L && stay d a a L) = stay d (if a ≤ t then a else t) (if u ≤ a then a else u) L := by
  unfold stay
  rw [Bool.eq_iff_iff]
  simp only [Bool.and_eq_true, decide_eq_true_eq]
  constructor
  · rintro ⟨⟨h1, h2⟩, h3, h4⟩
    constructor <;> split <;> assumption
  · rintro ⟨h1, h2⟩
    split at h1 <;> split at h2 <;> omega
theorem keep_keep (k : Kn) {H W t u l r a b : Int} (h0 : t ≤ u) (h1 : 0 ≤ t) (h2 : u < H) (h3 : l ≤ r) (h4 : 0 ≤ l) (h5 : r < W) (a0 : 0 ≤ a) (a1 : a < H) (b0 : 0 ≤ b) (b1 : b < W) (p : Option Rf) :
    keep k H W a a b b (keep k H W t u l r p) = keep k H W (if a ≤ t then a else t) (if u ≤ a then a else u) (if b ≤ l then b else l) (if r ≤ b then b else r) p := by
  cases p with
  | none => cases k <;> rfl
  | some p =>
    obtain ⟨x, y, f, g⟩ := p
    cases k with
    | ring => rfl
    | plain =>
      show keepP H W a a b b (if (f || stay x t u H) && (g || stay y l r W) then some ⟨x, y, f, g⟩ else none) = (if (f || stay x _ _ H) && (g || stay y _ _ W) then some ⟨x, y, f, g⟩ else none)
      rw [← stay_stay, ← stay_stay]
      generalize stay x t u H = s1
      generalize stay y l r W = s2
      have q : ∀ s3 s4 : Bool, stay x a a H = s3 → stay y b b W = s4 → keepP H W a a b b (if (f || s1) && (g || s2) then some ⟨x, y, f, g⟩ else none) = (if (f || s1 && s3) && (g || s2 && s4) then some (Rf.mk x y f g) else none) := by
        intro s3 s4 e3 e4
        cases f <;> cases g <;> cases s1 <;> cases s2 <;> cases s3 <;> cases s4 <;> simp [keepP, e3, e4]
      exact q _ _ rfl rfl
    | stop =>
      show some (Rf.mk (if f then (if f then x else stp x t u H) else stp (if f then x else stp x t u H) a a H) (if g then (if g then y else stp y l r W) else stp (if g then y else stp y l r W) b b W) f g) = some ⟨if f then x else stp x _ _ H, if g then y else stp y _ _ W, f, g⟩
      cases f <;> cases g <;> simp [stp_stp h0 h1 h2 a0 a1, stp_stp h3 h4 h5 b0 b1]
/-- the least and the greatest, gone on with -/
theorem minL_app (a : Int) : ∀ (xs : List Int) (b : Int), minL (a :: xs ++ [b]) = if b ≤ minL (a :: xs) then b else minL (a :: xs)
  | [], b => rfl
  | x :: xs, b => by
    have ih := minL_app x xs b
    show (if minL (x :: xs ++ [b]) ≤ a then minL (x :: xs ++ [b]) else a) = if b ≤ (if minL (x :: xs) ≤ a then minL (x :: xs) else a) then b else (if minL (x :: xs) ≤ a then minL (x :: xs) else a)
    rw [ih]
    (repeat' split) <;> omega
theorem maxL_app (a : Int) : ∀ (xs : List Int) (b : Int), maxL (a :: xs ++ [b]) = if maxL (a :: xs) ≤ b then b else maxL (a :: xs)
  | [], b => rfl
  | x :: xs, b => by
    have ih := maxL_app x xs b
    show (if a ≤ maxL (x :: xs ++ [b]) then maxL (x :: xs ++ [b]) else a) = if (if a ≤ maxL (x :: xs) then maxL (x :: xs) else a) ≤ b then b else (if a ≤ maxL (x :: xs) then maxL (x :: xs) else a)
    rw [ih]
    (repeat' split) <;> omega
/-- the sides of some cells -/
def tops (ps : List Ce) : Int := minL (ps.map (·.1))
def bots (ps : List Ce) : Int := maxL (ps.map (·.1))
def lefs (ps : List Ce) : Int := minL (ps.map (·.2))
def rigs (ps : List Ce) : Int := maxL (ps.map (·.2))
theorem tops_mem {ps : List Ce} (h : ps ≠ []) : ∃ p ∈ ps, p.1 = tops ps := by
  have := minL_mem (ns := ps.map (·.1)) (by simpa using h)
  obtain ⟨p, hp, e⟩ := List.mem_map.mp this
  exact ⟨p, hp, e⟩
theorem bots_mem {ps : List Ce} (h : ps ≠ []) : ∃ p ∈ ps, p.1 = bots ps := by
  have := maxL_mem (ns := ps.map (·.1)) (by simpa using h)
  obtain ⟨p, hp, e⟩ := List.mem_map.mp this
  exact ⟨p, hp, e⟩
theorem lefs_mem {ps : List Ce} (h : ps ≠ []) : ∃ p ∈ ps, p.2 = lefs ps := by
  have := minL_mem (ns := ps.map (·.2)) (by simpa using h)
  obtain ⟨p, hp, e⟩ := List.mem_map.mp this
  exact ⟨p, hp, e⟩
theorem rigs_mem {ps : List Ce} (h : ps ≠ []) : ∃ p ∈ ps, p.2 = rigs ps := by
  have := maxL_mem (ns := ps.map (·.2)) (by simpa using h)
  obtain ⟨p, hp, e⟩ := List.mem_map.mp this
  exact ⟨p, hp, e⟩
theorem tops_le {ps : List Ce} {p : Ce} (h : p ∈ ps) : tops ps ≤ p.1 := minL_le (List.mem_map_of_mem h)
theorem bots_ge {ps : List Ce} {p : Ce} (h : p ∈ ps) : p.1 ≤ bots ps := maxL_le (List.mem_map_of_mem h)
theorem lefs_le {ps : List Ce} {p : Ce} (h : p ∈ ps) : lefs ps ≤ p.2 := minL_le (List.mem_map_of_mem h)
theorem rigs_ge {ps : List Ce} {p : Ce} (h : p ∈ ps) : p.2 ≤ rigs ps := maxL_le (List.mem_map_of_mem h)
structure Sides (H W : Int) (ps : List Ce) : Prop where
  tb : tops ps ≤ bots ps
  t0 : 0 ≤ tops ps
  b1 : bots ps < H
  lr : lefs ps ≤ rigs ps
  l0 : 0 ≤ lefs ps
  r1 : rigs ps < W
theorem sides_of {H W : Int} {ps : List Ce} (h : ps ≠ []) (ho : ∀ p ∈ ps, onS H W p) : Sides H W ps := by
  obtain ⟨p1, m1, e1⟩ := tops_mem h
  obtain ⟨p2, m2, e2⟩ := bots_mem h
  obtain ⟨p3, m3, e3⟩ := lefs_mem h
  obtain ⟨p4, m4, e4⟩ := rigs_mem h
  refine ⟨?_, ?_, ?_, ?_, ?_, ?_⟩
  · rw [← e2]; exact tops_le m2
  · rw [← e1]; exact (ho p1 m1).1
  · rw [← e2]; exact (ho p2 m2).2.1
  · rw [← e4]; exact lefs_le m4
  · rw [← e3]; exact (ho p3 m3).2.2.1
  · rw [← e4]; exact (ho p4 m4).2.2.2
/-- what a way does to a reference -/
def walkK (k : Kn) (H W : Int) (ps : List Ce) (p : Option Rf) : Option Rf := keep k H W (tops ps) (bots ps) (lefs ps) (rigs ps) p
theorem walk_app {k : Kn} {H W : Int} {q : Ce} {ps : List Ce} (ho : ∀ p ∈ q :: ps, onS H W p) {c : Ce} (hc : onS H W c) (p : Option Rf) : keep k H W c.1 c.1 c.2 c.2 (walkK k H W (q :: ps) p) = walkK k H W (q :: ps ++ [c]) p := by
  have s := sides_of (by simp) ho
  unfold walkK
  rw [keep_keep k s.tb s.t0 s.b1 s.lr s.l0 s.r1 hc.1 hc.2.1 hc.2.2.1 hc.2.2.2]
  unfold tops bots lefs rigs
  rw [List.map_append, List.map_append, List.map_cons, List.map_cons, List.map_singleton, List.map_singleton, minL_app, maxL_app, minL_app, maxL_app]
theorem walk_one {k : Kn} {H W : Int} {q : Ce} {p : Option Rf} (h : fit1 k H W q.1 q.2 p) : walkK k H W [q] p = p := keep_same h
/-! slices of lists -/
@[simp] theorem dSl_l {fz : Bool} {xs : List D} {lo hi : Option Int} {cs : List Cell} : dSl fz (.lst xs) lo hi cs = mkL fz (cut xs lo hi) cs := rfl
theorem cut_hd {α : Type} (xs : List α) (k : Nat) : cut xs none (some (k : Int)) = xs.take k := by
  unfold cut
  rw [HT.sIx_none, HT.sIx_nat, List.drop_zero, Nat.sub_zero]
  rcases Nat.le_total k xs.length with h | h
  · rw [Nat.min_eq_left h]
  · rw [Nat.min_eq_right h, List.take_of_length_le (Nat.le_refl _), List.take_of_length_le h]
theorem cut_tl {α : Type} (xs : List α) (k : Nat) : cut xs (some (k : Int)) none = xs.drop k := by
  unfold cut
  rw [HT.sIx_none, HT.sIx_nat]
  rcases Nat.le_total k xs.length with h | h
  · rw [Nat.min_eq_left h, List.take_of_length_le (by rw [List.length_drop]; exact Nat.le_refl _)]
  · rw [Nat.min_eq_right h, List.drop_of_length_le (Nat.le_refl _), List.drop_of_length_le h, List.take_nil]
@[simp] theorem cut_1 {α : Type} {x : α} {xs : List α} : cut (x :: xs) none (some 1) = [x] := cut_hd (x :: xs) 1
@[simp] theorem cut_tl1 {α : Type} {x : α} {xs : List α} : cut (x :: xs) (some 1) none = xs := cut_tl (x :: xs) 1
/-- the law's way drawer -/
def wayL : Fs := (sSeq (sAsg (fCall (fnK 3 0 3 spotF (fun ds _ => ds)) (aCons (fVar 0) (aCons (fVar 1) (aCons (fVar 2) aNil))) aNil) (gN 7)) (sSeq (sIf (fTst (fOp2 (dEq false) (fVar 4) (fC (.int 0)))) (sAsg (fTup (aCons (fCB dMax (aCons (fC (.int 0)) (aCons (fCB dMin (aCons (fOp2 dSub (fVar 1) (fC (.int 1))) (aCons (fOp2 dSub (fOp2 (dAdd true) (fOp2 dIx (fOp2 dIx (fVar 5) (fOp1 dNeg (fC (.int 1)))) (fC (.int 0))) (fCall (fnK 2 0 2 pourF (fun ds _ => ds)) (aCons (fVar 0) (aCons (fC (.int 3)) aNil)) aNil)) (fC (.int 1))) aNil))) aNil))) (aCons (fOp2 dIx (fOp2 dIx (fVar 5) (fOp1 dNeg (fC (.int 1)))) (fC (.int 1))) aNil))) (gN 7)) sNx) (sSeq (sIf (fTst (fOp2 (dEq false) (fVar 4) (fC (.int 1)))) (sAsg (fIfE (fTst (fOp2 (dEq false) (fCall (fnK 2 0 2 pourF (fun ds _ => ds)) (aCons (fVar 0) (aCons (fC (.int 2)) aNil)) aNil) (fC (.int 0)))) (fTup (aCons (fOp2 dIx (fVar 7) (fC (.int 0))) (aCons (fOp2 dIx (fOp2 dIx (fVar 5) (fOp1 dNeg (fC (.int 1)))) (fC (.int 1))) aNil))) (fTup (aCons (fOp2 dIx (fOp2 dIx (fVar 5) (fOp1 dNeg (fC (.int 1)))) (fC (.int 0))) (aCons (fOp2 dIx (fVar 7) (fC (.int 1))) aNil)))) (gN 7)) sNx) (sEx (fLm mAppend (fVar 5) (aCons (fVar 7) aNil))))))
def wayB : Fs := (sSeq (sPar 4 5 (aCons (fCall (fnK 2 0 2 pourF (fun ds _ => ds)) (aCons (fVar 0) (aCons (fC (.int 3)) aNil)) aNil) (aCons (fLst false (aCons (fCall (fnK 3 0 3 spotF (fun ds _ => ds)) (aCons (fVar 0) (aCons (fVar 1) (aCons (fVar 2) aNil))) aNil) aNil)) aNil))) (sSeq (sFor (iRg1 (aCons (fCall (fnK 2 0 2 pourF (fun ds _ => ds)) (aCons (fVar 0) (aCons (fVar 3) aNil)) aNil) aNil)) (gN 6) wayL) (sSeq (sFrz 5) (sRet (fVar 5)))))
def wayF : List D → List Cell → Out D := runDef 4 8 wayB
theorem last_at {ps : List Ce} {q : Ce} : atI ((ps ++ [q]).map ceD) (-1) = some (ceD q) := by
  unfold atI ixN
  have hl : ((ps ++ [q]).map ceD).length = ps.length + 1 := by simp
  rw [hl]
  rw [if_neg (by omega), if_pos (by omega)]
  have : (-1 + ((ps.length + 1 : Nat) : Int)).toNat = ps.length := by omega
  show ((ps ++ [q]).map ceD)[(-1 + ((ps.length + 1 : Nat) : Int)).toNat]? = _
  rw [this, List.map_append, List.getElem?_append_right (by simp)]
  simp
section
variable {n : Nat}
theorem way_turn (S : Hs) (J : Jug n) (hn : n ≤ 700000) {H W : Int} (H1 : 1 ≤ H) (H2 : H ≤ 10 ^ 30) (W1 : 1 ≤ W) (W2 : W ≤ 10 ^ 30) {s : Int} (s0 : 0 ≤ s) (s1 : s < 3) (t : List Cell) (ps : List Ce) (q : Ce) (hq : onS H W q) (hl : ps.length ≤ 1000) (x3 x6 x7 : Option D) :
    ∃ (z : Ce) (J' : Jug (n + 7)), onS H W z ∧ wayL [some (.ref S.i), some (.int H), some (.int W), x3, some (.int s), some (.ref (S.cs.length + t.length)), x6, x7] (hp S (jc J) (t ++ [.lst ((ps ++ [q]).map ceD)])) =
      .nx [some (.ref S.i), some (.int H), some (.int W), x3, some (.int s), some (.ref (S.cs.length + t.length)), x6, some (ceD z)] (hp S (jc J') (t ++ [.lst ((ps ++ [q] ++ [z]).map ceD)])) := by
  obtain ⟨u, v, J1, e1, ⟨u0, u1⟩, v0, v1⟩ := spot_ex S J (by omega) H1 H2 W1 W2
  obtain ⟨a, J2, e2, a0, a1⟩ := pour_ex S J1 (s := 3) (by omega) (by decide) (by decide)
  obtain ⟨b, J3, e3, b0, b1⟩ := pour_ex S J1 (s := 2) (by omega) (by decide) (by decide)
  obtain ⟨K1, eK1⟩ := Jug.up J1 (k := n + 7) (by omega)
  obtain ⟨K2, eK2⟩ := Jug.up J2 (k := n + 7) (by omega)
  obtain ⟨K3, eK3⟩ := Jug.up J3 (k := n + 7) (by omega)
  have sz2 : 2 ≤ sizeLine := by decide
  have sz : ((ps ++ [q]).map ceD).length < sizeLine := by
    simp only [List.length_map, List.length_append, List.length_singleton]
    exact Nat.lt_of_le_of_lt (Nat.succ_le_succ hl) (by decide)
  have la := last_at (ps := ps) (q := q)
  obtain ⟨q1, q2⟩ := q
  obtain ⟨h1, h2, h3, h4⟩ := hq
  generalize hms : (ps ++ [(q1, q2)]).map ceD = ms at sz la
  have lce : ceD (q1, q2) = .tup [.int q1, .int q2] := rfl
  rw [lce] at la
  have app : ∀ z : Ce, (ps ++ [(q1, q2)] ++ [z]).map ceD = ms ++ [.tup [.int z.1, .int z.2]] := fun z => by rw [List.map_append, hms]; rfl
  have hs : s = 0 ∨ s = 1 ∨ s = 2 := by omega
  have h1' : 0 ≤ q1 := h1
  have h2' : q1 < H := h2
  rcases hs with rfl | rfl | rfl
  · obtain ⟨z', hz'⟩ : ∃ z' : Int, z' = (if q1 + a < H then q1 + a - 1 else H - 1) := ⟨_, rfl⟩
    have z0 : 0 ≤ (if z' > 0 then z' else 0) ∧ (if z' > 0 then z' else 0) < H := by
      have : z' < H := by rw [hz']; split <;> omega
      split <;> omega
    refine ⟨(if z' > 0 then z' else 0, q2), K2, ⟨z0.1, z0.2, h3, h4⟩, ?_⟩
    rw [app]
    unfold wayL
    simp [e1, e2, la, sz2, sz, eK2, ceD, ← hz']
  · by_cases hb : b = 0
    · refine ⟨(u, q2), K3, ⟨u0, u1, h3, h4⟩, ?_⟩
      subst hb
      rw [app]
      unfold wayL
      simp [e1, e3, la, sz2, sz, eK3, ceD]
    · refine ⟨(q1, v), K3, ⟨h1', h2', v0, v1⟩, ?_⟩
      rw [app]
      unfold wayL
      simp [e1, e3, hb, la, sz2, sz, eK3, ceD]
  · refine ⟨(u, v), K1, ⟨u0, u1, v0, v1⟩, ?_⟩
    rw [app]
    unfold wayL
    simp [e1, la, sz2, sz, eK1, ceD]
theorem way_ex (S : Hs) (J : Jug n) (hn : n ≤ 500000) {H W : Int} (H1 : 1 ≤ H) (H2 : H ≤ 10 ^ 30) (W1 : 1 ≤ W) (W2 : W ≤ 10 ^ 30) {m : Int} (m0 : 1 ≤ m) (m1 : m ≤ 300) (t : List Cell) :
    ∃ (q : Ce) (ps : List Ce) (J' : Jug (n + 2200)), onS H W q ∧ (∀ p ∈ ps, onS H W p) ∧ (ps.length : Int) < m ∧ wayF [.ref S.i, .int H, .int W, .int m] (hp S (jc J) t) = .ok (.lst ((q :: ps).map ceD)) (hp S (jc J') (t ++ [.dead])) := by
  obtain ⟨s, J1, e1, s0, s1⟩ := pour_ex S J (s := 3) (by omega) (by decide) (by decide)
  obtain ⟨u, v, J2, e2, ⟨u0, u1⟩, v0, v1⟩ := spot_ex S J1 (by omega) H1 H2 W1 W2
  obtain ⟨N, J3, e3, N0, N1⟩ := pour_ex S J2 (s := m) (by omega) (by omega) (log_mono (log_lt (k := 100) (by decide) (by omega) (by omega)) (by decide))
  have sz1 : 1 ≤ sizeLine := by decide
  have hb : -(2 ^ 62) ≤ N ∧ N < 2 ^ 62 := by omega
  unfold wayF
  rw [runDef_e, if_pos (show [D.ref S.i, .int H, .int W, .int m].length = 4 from rfl)]
  unfold wayB
  obtain ⟨σ', c', e4, x6, x7, ps, m', J4, rfl, hps, hl, hm, rfl⟩ := forL_all (g := gN 6) (fb := wayL) (ds := rngD 0 N.toNat) (σ := [some (.ref S.i), some (.int H), some (.int W), some (.int m), some (.int s), some (.ref (S.cs.length + t.length)), none, none]) (c := hp S (jc J3) (t ++ [.lst [ceD (u, v)]]))
    (fun i σ c => ∃ (x6 x7 : Option D) (ps : List Ce) (m' : Nat) (J : Jug m'), σ = [some (.ref S.i), some (.int H), some (.int W), some (.int m), some (.int s), some (.ref (S.cs.length + t.length)), x6, x7] ∧ (∀ p ∈ ps, onS H W p) ∧ ps.length = i ∧ m' ≤ n + 8 + 7 * i ∧ c = hp S (jc J) (t ++ [.lst (((u, v) :: ps).map ceD)]))
    ⟨none, none, [], _, J3, rfl, fun p hp => (by cases hp), rfl, by omega, rfl⟩ (by
      rintro i d σ c hd ⟨x6, x7, ps, m', J, rfl, hps, hl, hm, rfl⟩
      obtain ⟨hi, rfl⟩ := rngD_get hd
      obtain ⟨pre, q, hpq⟩ : ∃ pre q, (u, v) :: ps = pre ++ [q] := ⟨((u, v) :: ps).dropLast, ((u, v) :: ps).getLast (by simp), (List.dropLast_concat_getLast _).symm⟩
      have hq : onS H W q := by
        have : q ∈ (u, v) :: ps := by rw [hpq]; simp
        rcases List.mem_cons.mp this with e | e
        · rw [e]; exact ⟨u0, u1, v0, v1⟩
        · exact hps q e
      have hlp : pre.length = ps.length := by
        have := congrArg List.length hpq
        simp at this; exact this.symm
      obtain ⟨z, J', hz, e⟩ := way_turn S J (by omega) H1 H2 W1 W2 s0 s1 t pre q hq (by omega) (some (.int m)) (some (.int (0 + (i : Int)))) x7
      rw [← hpq] at e
      refine ⟨_, _, _, rfl, e, _, _, ps ++ [z], _, J', rfl, fun p hp => ?_, by simp [hl], by omega, rfl⟩
      rcases List.mem_append.mp hp with h | h
      · exact hps p h
      · rw [List.mem_singleton.mp h]; exact hz)
  have hlr : (rngD 0 N.toNat).length = N.toNat := by simp [rngD]
  rw [hlr] at hl hm
  obtain ⟨J5, e5⟩ := Jug.up J4 (k := n + 2200) (by omega)
  refine ⟨(u, v), ps, J5, ⟨u0, u1, v0, v1⟩, hps, by omega, ?_⟩
  have h0 : (sPar 4 5 (aCons (fCall (fnK 2 0 2 pourF (fun ds _ => ds)) (aCons (fVar 0) (aCons (fC (.int 3)) aNil)) aNil) (aCons (fLst false (aCons (fCall (fnK 3 0 3 spotF (fun ds _ => ds)) (aCons (fVar 0) (aCons (fVar 1) (aCons (fVar 2) aNil))) aNil) aNil)) aNil))) (List.map some [D.ref S.i, .int H, .int W, .int m] ++ List.replicate (8 - 4) none) (hp S (jc J) t) =
      .nx [some (.ref S.i), some (.int H), some (.int W), some (.int m), some (.int s), some (.ref (S.cs.length + t.length)), none, none] (hp S (jc J2) (t ++ [.lst [ceD (u, v)]])) := by
    simp [e1, e2, sz1, ceD]
  rw [sSeq_e, h0, Sr.bind_nx, sSeq_e, sFor_e]
  have hi : (iRg1 (aCons (fCall (fnK 2 0 2 pourF (fun ds _ => ds)) (aCons (fVar 0) (aCons (fVar 3) aNil)) aNil) aNil)) [some (.ref S.i), some (.int H), some (.int W), some (.int m), some (.int s), some (.ref (S.cs.length + t.length)), none, none] (hp S (jc J2) (t ++ [.lst [ceD (u, v)]])) = .ok (rngD 0 N.toNat) (hp S (jc J3) (t ++ [.lst [ceD (u, v)]])) := by
    rw [iRg1_e, aCons_e]
    have : (fCall (fnK 2 0 2 pourF (fun ds _ => ds)) (aCons (fVar 0) (aCons (fVar 3) aNil)) aNil) [some (.ref S.i), some (.int H), some (.int W), some (.int m), some (.int s), some (.ref (S.cs.length + t.length)), none, none] (hp S (jc J2) (t ++ [.lst [ceD (u, v)]])) = .ok (.int N) (hp S (jc J3) (t ++ [.lst [ceD (u, v)]])) := by simp [e3]
    rw [this]
    show rgO1 [.int N] _ = _
    rw [rgO1_i, if_pos hb]
  rw [hi, sOfL_ok, e4, Sr.bind_nx]
  simp [e5]
end
end PV

namespace PV
open PySem PySem.Spec PyProof.Rows L2

/-! ### cells that are safe -/
def rowsR (ps : List (Option Rf)) : List Int := ((ps.filter Option.isSome).filter fun p => !oF p).map oR
def colsR (ps : List (Option Rf)) : List Int := ((ps.filter Option.isSome).filter fun p => !oG p).map oC
def dws (k : Kn) (ps : List (Option Rf)) : List Int := 0 :: (if k = .ring then [] else rowsR ps)
def acs (k : Kn) (ps : List (Option Rf)) : List Int := 0 :: (if k = .ring then [] else colsR ps)
theorem mem_rowsR {ps : List (Option Rf)} {r : Int} : r ∈ rowsR ps ↔ ∃ q, some q ∈ ps ∧ q.f = false ∧ q.r = r := by
  unfold rowsR
  simp only [List.mem_map, List.mem_filter]
  constructor
  · rintro ⟨p, ⟨⟨h1, h2⟩, h3⟩, rfl⟩
    cases p with
    | none => cases h2
    | some q => exact ⟨q, h1, by simpa [oF] using h3, rfl⟩
  · rintro ⟨q, h1, h2, rfl⟩
    exact ⟨some q, ⟨⟨h1, rfl⟩, by simp [oF, h2]⟩, rfl⟩
theorem mem_colsR {ps : List (Option Rf)} {r : Int} : r ∈ colsR ps ↔ ∃ q, some q ∈ ps ∧ q.g = false ∧ q.c = r := by
  unfold colsR
  simp only [List.mem_map, List.mem_filter]
  constructor
  · rintro ⟨p, ⟨⟨h1, h2⟩, h3⟩, rfl⟩
    cases p with
    | none => cases h2
    | some q => exact ⟨q, h1, by simpa [oG] using h3, rfl⟩
  · rintro ⟨q, h1, h2, rfl⟩
    exact ⟨some q, ⟨⟨h1, rfl⟩, by simp [oG, h2]⟩, rfl⟩
theorem stp_id {d a L : Int} (a0 : 0 ≤ a) (a1 : a < L) : stp d a a L = d ↔ 0 ≤ a + d ∧ a + d < L := by
  unfold stp
  split <;> split <;> constructor <;> (intro h; try constructor) <;> omega
theorem keep1 {k : Kn} (hk : k ≠ .ring) {H W a b : Int} (a0 : 0 ≤ a) (a1 : a < H) (b0 : 0 ≤ b) (b1 : b < W) (q : Rf) : keep k H W a a b b (some q) = some q ↔ (q.f = false → 0 ≤ a + q.r ∧ a + q.r < H) ∧ (q.g = false → 0 ≤ b + q.c ∧ b + q.c < W) := by
  obtain ⟨r, c, f, g⟩ := q
  cases k with
  | ring => exact absurd rfl hk
  | plain =>
    show (if (f || stay r a a H) && (g || stay c b b W) then some (Rf.mk r c f g) else none) = _ ↔ _
    unfold stay
    cases f <;> cases g <;> simp [and_assoc]
  | stop =>
    show some (Rf.mk (if f then r else stp r a a H) (if g then c else stp c b b W) f g) = _ ↔ _
    rw [Option.some.injEq, Rf.mk.injEq]
    have h1 := stp_id (d := r) a0 a1
    have h2 := stp_id (d := c) b0 b1
    cases f <;> cases g <;> simp [h1, h2]
def sameB (k : Kn) (H W a b : Int) (ps : List (Option Rf)) : Bool := ps.all fun p => decide (stepV k H W a b p = p)
theorem mm_iff {a L : Int} {xs : List Int} : (∀ r ∈ 0 :: xs, 0 ≤ a + r ∧ a + r < L) ↔ -minL (0 :: xs) ≤ a ∧ a ≤ L - 1 - maxL (0 :: xs) := by
  constructor
  · intro h
    have h1 := h _ (minL_mem (ns := 0 :: xs) (by simp))
    have h2 := h _ (maxL_mem (ns := 0 :: xs) (by simp))
    omega
  · intro h r hr
    have h1 := minL_le hr
    have h2 := maxL_le hr
    omega
theorem same_iff (k : Kn) {H W a b : Int} (a0 : 0 ≤ a) (a1 : a < H) (b0 : 0 ≤ b) (b1 : b < W) (ps : List (Option Rf)) : sameB k H W a b ps = true ↔ (-minL (dws k ps) ≤ a ∧ a ≤ H - 1 - maxL (dws k ps)) ∧ -minL (acs k ps) ≤ b ∧ b ≤ W - 1 - maxL (acs k ps) := by
  unfold sameB
  rw [List.all_eq_true]
  simp only [decide_eq_true_eq, stepV_keep a0 a1 b0 b1]
  unfold dws acs
  rw [← mm_iff, ← mm_iff]
  by_cases hk : k = .ring
  · subst hk
    simp only [if_true, List.mem_singleton]
    constructor
    · intro _
      exact ⟨fun r hr => by subst hr; omega, fun r hr => by subst hr; omega⟩
    · intro _ p _
      rfl
  · rw [if_neg hk, if_neg hk]
    constructor
    · intro h
      refine ⟨fun r hr => ?_, fun r hr => ?_⟩
      · rcases List.mem_cons.mp hr with rfl | hr
        · omega
        · obtain ⟨q, h1, h2, rfl⟩ := mem_rowsR.mp hr
          exact ((keep1 hk a0 a1 b0 b1 q).mp (h _ h1)).1 h2
      · rcases List.mem_cons.mp hr with rfl | hr
        · omega
        · obtain ⟨q, h1, h2, rfl⟩ := mem_colsR.mp hr
          exact ((keep1 hk a0 a1 b0 b1 q).mp (h _ h1)).2 h2
    · rintro ⟨h1, h2⟩ p hp
      cases p with
      | none => cases k <;> rfl
      | some q => exact (keep1 hk a0 a1 b0 b1 q).mpr ⟨fun e => h1 _ (List.mem_cons_of_mem _ (mem_rowsR.mpr ⟨q, hp, e, rfl⟩)), fun e => h2 _ (List.mem_cons_of_mem _ (mem_colsR.mpr ⟨q, hp, e, rfl⟩))⟩
theorem same_map {k : Kn} {H W a b : Int} (a0 : 0 ≤ a) (a1 : a < H) (b0 : 0 ≤ b) (b1 : b < W) {ps : List (Option Rf)} (h : sameB k H W a b ps = true) : ps.map (keep k H W a a b b) = ps := by
  unfold sameB at h
  rw [List.all_eq_true] at h
  have : ∀ qs : List (Option Rf), (∀ p ∈ qs, keep k H W a a b b p = p) → qs.map (keep k H W a a b b) = qs := fun qs => by
    induction qs with
    | nil => intro _; rfl
    | cons q qs ih => intro h; rw [List.map_cons, h q (List.mem_cons_self ..), ih fun p hp => h p (List.mem_cons_of_mem _ hp)]
  exact this ps fun p hp => by
    have := h p hp
    rw [decide_eq_true_eq, stepV_keep a0 a1 b0 b1] at this
    exact this
theorem same_fit {k : Kn} {H W a b : Int} (a0 : 0 ≤ a) (a1 : a < H) (b0 : 0 ≤ b) (b1 : b < W) {ps : List (Option Rf)} (h : ∀ p ∈ ps, fit1 k H W a b p) : sameB k H W a b ps = true := by
  unfold sameB
  rw [List.all_eq_true]
  intro p hp
  rw [decide_eq_true_eq, stepV_keep a0 a1 b0 b1]
  exact keep_same (h p hp)
/-- a reference and another one, compared as tuples -/
theorem eqv_oPd (p q : Option Rf) : PyData.eqv (oPd p) (oPd q) = decide (p = q) := by
  cases p with
  | none => cases q with
    | none => rfl
    | some q => rfl
  | some p => cases q with
    | none => rfl
    | some q =>
      obtain ⟨r, c, f, g⟩ := p
      obtain ⟨r', c', f', g'⟩ := q
      rw [Bool.eq_iff_iff]
      cases f <;> cases g <;> cases f' <;> cases g' <;> simp [oPd, Rf.pd, PyData.eqv, PyData.eqvAll]
theorem shaped_oPd (p : Option Rf) : SeqAt.shaped (oPd p) = true := by
  cases p with
  | none => rfl
  | some p =>
    obtain ⟨r, c, f, g⟩ := p
    simp [oPd, Rf.pd, SeqAt.shaped, PyData.canLay0, PyData.canLayAll0, PyData.depth, PyData.depthAll]
theorem dEq_oTp (n : Bool) (p q : Option Rf) (cs : List Cell) : dEq n (oTp p) (oTp q) cs = some (.bl (if n then !decide (p = q) else decide (p = q)), cs) := by
  have h : ∀ p : Option Rf, toP cs (oTp p) = some (oPd p) := fun p => by
    cases p with
    | none => rfl
    | some p => exact toP0_oTp (some p)
  unfold dEq
  rw [h, h]
  simp only [shaped_oPd, eqv_oPd, and_self, if_true]
end PV

namespace PV
open PySem PySem.Spec PyProof.Rows L2

/-! ### lists of tuples of references, of cells, compared -/
theorem eqvs_oPd : ∀ ps qs : List (Option Rf), PyData.eqvAll (ps.map oPd) (qs.map oPd) = decide (ps = qs)
  | [], [] => by simp [PyData.eqvAll]
  | [], q :: qs => by simp [PyData.eqvAll]
  | p :: ps, [] => by simp [PyData.eqvAll]
  | p :: ps, q :: qs => by
    rw [List.map_cons, List.map_cons]
    simp only [PyData.eqvAll, eqv_oPd, eqvs_oPd ps qs]
    rw [Bool.eq_iff_iff]
    simp
theorem lay_oPd (p : Option Rf) : PyData.canLay0 (oPd p) = true ∧ PyData.depth (oPd p) ≤ 1 := by
  cases p with
  | none => exact ⟨rfl, by simp [oPd, PyData.depth]⟩
  | some p => exact ⟨by simp [oPd, Rf.pd, PyData.canLay0, PyData.canLayAll0], by simp [oPd, Rf.pd, PyData.depth, PyData.depthAll]⟩
theorem lays {α : Type} (f : α → PyData) (h : ∀ x, PyData.canLay0 (f x) = true ∧ PyData.depth (f x) ≤ 1) : ∀ xs : List α, PyData.canLayAll0 (xs.map f) = true ∧ PyData.depthAll (xs.map f) ≤ 1
  | [] => ⟨rfl, by simp [PyData.depthAll]⟩
  | x :: xs => by
    obtain ⟨h1, h2⟩ := h x
    obtain ⟨i1, i2⟩ := lays f h xs
    rw [List.map_cons]
    exact ⟨by simp [PyData.canLayAll0, h1, i1], by simp only [PyData.depthAll]; omega⟩
theorem shaped_oPds (ps : List (Option Rf)) : SeqAt.shaped (.list (ps.map oPd)) = true := by
  obtain ⟨h1, h2⟩ := lays oPd lay_oPd ps
  unfold SeqAt.shaped
  rw [Bool.and_eq_true, decide_eq_true_eq]
  refine ⟨by simp only [PyData.canLay0]; exact h1, ?_⟩
  simp only [PyData.depth]
  omega
theorem eqv_oPds (ps qs : List (Option Rf)) : PyData.eqv (.list (ps.map oPd)) (.list (qs.map oPd)) = decide (ps = qs) := by simp only [PyData.eqv, eqvs_oPd]
theorem dEq_ls (n : Bool) (ps qs : List (Option Rf)) (cs : List Cell) : dEq n (.lst (ps.map oTp)) (.lst (qs.map oTp)) cs = some (.bl (if n then !decide (ps = qs) else decide (ps = qs)), cs) := by
  rw [dEq_l, toP0s_oTp, toP0s_oTp]
  show eqO n (some (.list _)) (some (.list _)) cs = _
  rw [eqO_s (shaped_oPds ps) (shaped_oPds qs)]
  simp only [PyData.eqv, eqvs_oPd]
theorem dEq_ls0 (n : Bool) (ps : List (Option Rf)) (cs : List Cell) : dEq n (.lst (ps.map oTp)) (.lst []) cs = some (.bl (if n then !decide (ps = []) else decide (ps = [])), cs) := dEq_ls n ps [] cs
theorem eqv_ce (p q : Ce) : PyData.eqv (cePd p) (cePd q) = decide (p = q) := by
  obtain ⟨a, b⟩ := p
  obtain ⟨c, d⟩ := q
  rw [Bool.eq_iff_iff]
  simp [cePd, PyData.eqv, PyData.eqvAll]
theorem lay_ce (p : Ce) : PyData.canLay0 (cePd p) = true ∧ PyData.depth (cePd p) ≤ 1 := ⟨by simp [cePd, PyData.canLay0, PyData.canLayAll0], by simp [cePd, PyData.depth, PyData.depthAll]⟩
theorem eqvs_ce : ∀ ps qs : List Ce, PyData.eqvAll (ps.map cePd) (qs.map cePd) = decide (ps = qs)
  | [], [] => by simp [PyData.eqvAll]
  | [], q :: qs => by simp [PyData.eqvAll]
  | p :: ps, [] => by simp [PyData.eqvAll]
  | p :: ps, q :: qs => by
    rw [List.map_cons, List.map_cons]
    simp only [PyData.eqvAll, eqv_ce, eqvs_ce ps qs]
    rw [Bool.eq_iff_iff]
    simp
theorem shaped_ces (ps : List Ce) : SeqAt.shaped (.list (ps.map cePd)) = true := by
  obtain ⟨h1, h2⟩ := lays cePd lay_ce ps
  unfold SeqAt.shaped
  rw [Bool.and_eq_true, decide_eq_true_eq]
  refine ⟨by simp only [PyData.canLay0]; exact h1, ?_⟩
  simp only [PyData.depth]
  omega
theorem shaped_ce (p : Ce) : SeqAt.shaped (cePd p) = true := by
  obtain ⟨h1, h2⟩ := lay_ce p
  simp only [SeqAt.shaped, h1, Bool.true_and, decide_eq_true_eq]
  omega
theorem dEq_ce (n : Bool) (p q : Ce) (cs : List Cell) : dEq n (ceD p) (ceD q) cs = some (.bl (if n then !decide (p = q) else decide (p = q)), cs) := by
  have h : ∀ p : Ce, toP cs (ceD p) = some (cePd p) := fun p => toP0_ce p
  unfold dEq
  rw [h, h]
  simp only [shaped_ce, eqv_ce, and_self, if_true]
theorem eqv_ces (ps qs : List Ce) : PyData.eqv (.list (ps.map cePd)) (.list (qs.map cePd)) = decide (ps = qs) := by simp only [PyData.eqv, eqvs_ce]
theorem dEq_ces (n : Bool) (ps qs : List Ce) (cs : List Cell) : dEq n (.lst (ps.map ceD)) (.lst (qs.map ceD)) cs = some (.bl (if n then !decide (ps = qs) else decide (ps = qs)), cs) := by
  rw [dEq_l, toP0s_ce, toP0s_ce]
  show eqO n (some (.list _)) (some (.list _)) cs = _
  rw [eqO_s (shaped_ces ps) (shaped_ces qs)]
  simp only [PyData.eqv, eqvs_ce]
end PV

namespace PV
open PySem PySem.Spec PyProof.Rows L2

/-! ### the feed (laws k15 .. k28) -/
/-- any three numbers will do -/
abbrev Feed := Int × Int × Int
def fc (J : Feed) : Cell := .lst [.int J.1, .int J.2.1, .int J.2.2]
def mx1 (b c : Int) : Int := (b + 220009 * c) % 2305843009213693951
def mx2 (m c : Int) : Int := (m * m + 77003 * c * m + 71) % 2305843009213693951
def mx3 (m b c : Int) : Int := (m ^ 3 + b + 17 * c) % 2305843009213693951
def mxd (b c : Int) : Int := mx3 (mx2 (mx1 b c) c) b c
def fnd (b : Int) : Nat → Int → Int → Int
  | 0, _, f => f
  | k + 1, c, f => fnd b k (c + 1) (f * 10 ^ 13 + mxd b (c + 1) / 8191)
def bitO (d : D) (c : List Cell) : Out D := match d with
  | .int i => .ok (.int (Builtin.Int.intBits i : Nat)) c
  | _ => .no
@[simp] theorem bitO_i {i : Int} {c : List Cell} : bitO (.int i) c = .ok (.int (Builtin.Int.intBits i : Nat)) c := rfl
@[simp ↓] theorem fBits_e {fo : Fe} {σ : Sd} {cs : List Cell} : fBits fo σ cs = (fo σ cs).bnd fun d c => bitO d c := rfl
def pickL : Fs := (sSeq (sSub (fOp2 (dAdd true) (fOp2 dIx (fVar 0) (fC (.int 2))) (fC (.int 1))) (fVar 0) (fC (.int 2))) (sSeq (sAsg (fOp2 dMod (fOp2 (dAdd true) (fOp2 dIx (fVar 0) (fC (.int 1))) (fOp2 (dMul true) (fC (.int 220009)) (fOp2 dIx (fVar 0) (fC (.int 2))))) (fC (.int 2305843009213693951))) (gN 5)) (sSeq (sAsg (fOp2 dMod (fOp2 (dAdd true) (fOp2 (dAdd true) (fOp2 (dMul true) (fVar 5) (fVar 5)) (fOp2 (dMul true) (fOp2 (dMul true) (fC (.int 77003)) (fOp2 dIx (fVar 0) (fC (.int 2)))) (fVar 5))) (fC (.int 71))) (fC (.int 2305843009213693951))) (gN 5)) (sSeq (sAsg (fOp2 dMod (fOp2 (dAdd true) (fOp2 (dAdd true) (fOp2 dPow (fVar 5) (fC (.int 3))) (fOp2 dIx (fVar 0) (fC (.int 1)))) (fOp2 (dMul true) (fC (.int 17)) (fOp2 dIx (fVar 0) (fC (.int 2))))) (fC (.int 2305843009213693951))) (gN 5)) (sAsg (fOp2 (dAdd true) (fOp2 (dMul true) (fVar 3) (fOp2 dPow (fC (.int 10)) (fC (.int 13)))) (fOp2 dFdiv (fVar 5) (fC (.int 8191)))) (gN 3))))))
def pick0 : Fs := (sIf (fTst (fOp2 dGt (fOp2 dIx (fVar 0) (fC (.int 0))) (fC (.int 0)))) (sSeq (sAsg (fOp2 dMod (fOp2 dIx (fVar 0) (fC (.int 0))) (fVar 1)) (gN 2)) (sSeq (sSub (fOp2 dFdiv (fOp2 dIx (fVar 0) (fC (.int 0))) (fVar 1)) (fVar 0) (fC (.int 0))) (sRet (fVar 2)))) sNx)
def pick2 : Fs := (sFor (iRg1 (aCons (fOp2 (dAdd true) (fC (.int 1)) (fOp2 dFdiv (fBits (fVar 1)) (fC (.int 40)))) aNil)) (gN 4) pickL)
def pickB : Fs := (sSeq pick0 (sSeq (sAsg (fC (.int 0)) (gN 3)) (sSeq pick2 (sRet (fOp2 dMod (fVar 3) (fVar 1))))))
def pickF : List D → List Cell → Out D := runDef 2 6 pickB
theorem mod61 (x : Int) : 0 ≤ x % 2305843009213693951 ∧ x % 2305843009213693951 < 2305843009213693951 := ⟨Int.emod_nonneg _ (by decide), Int.emod_lt_of_pos _ (by decide)⟩
theorem pow3M {m : Int} (h0 : 0 ≤ m) (h1 : m < 2305843009213693951) : powOk m 3 :=
  ⟨by decide, by decide, Nat.lt_of_lt_of_le (log_lt (k := 61) (by decide) (by omega) (by omega)) (by decide)⟩
theorem pick_turn (S : Hs) (a b c : Int) (t : List Cell) (m f : Int) (x2 x4 x5 : Option D) :
    ∃ y, pickL [some (.ref S.i), some (.int m), x2, some (.int f), x4, x5] (hp S (.lst [.int a, .int b, .int c]) t) =
      .nx [some (.ref S.i), some (.int m), x2, some (.int (f * 10 ^ 13 + mxd b (c + 1) / 8191)), x4, y] (hp S (.lst [.int a, .int b, .int (c + 1)]) t) := by
  refine ⟨some (.int (mxd b (c + 1))), ?_⟩
  have i2 : ixN 3 2 = some 2 := by decide
  have s3 : ((3 : Int).toNat) = 3 := rfl
  have s13 : ((13 : Int).toNat) = 13 := rfl
  have t1 : powOk 10 13 := by decide +kernel
  have t3 : divOk 8191 := by decide +kernel
  have m1 : mulOk 220009 (c + 1) := mulL (by decide) (by decide)
  have m2 : mulOk 77003 (c + 1) := mulL (by decide) (by decide)
  have m3 : mulOk 17 (c + 1) := mulL (by decide) (by decide)
  have z1 := mod61 (b + 220009 * (c + 1))
  have e1 : mx1 b (c + 1) = (b + 220009 * (c + 1)) % 2305843009213693951 := rfl
  have m4 : mulOk (mx1 b (c + 1)) (mx1 b (c + 1)) := mulL (by rw [e1]; exact z1.1) (by rw [e1]; omega)
  have m5 : mulOk (77003 * (c + 1)) (mx1 b (c + 1)) := mulR (by rw [e1]; exact z1.1) (by rw [e1]; omega)
  have z2 := mod61 (mx1 b (c + 1) * mx1 b (c + 1) + 77003 * (c + 1) * mx1 b (c + 1) + 71)
  have e2 : mx2 (mx1 b (c + 1)) (c + 1) = (mx1 b (c + 1) * mx1 b (c + 1) + 77003 * (c + 1) * mx1 b (c + 1) + 71) % 2305843009213693951 := rfl
  have p2 : powOk (mx2 (mx1 b (c + 1)) (c + 1)) 3 := pow3M (by rw [e2]; exact z2.1) (by rw [e2]; exact z2.2)
  have e3 : mxd b (c + 1) = (mx2 (mx1 b (c + 1)) (c + 1) ^ 3 + b + 17 * (c + 1)) % 2305843009213693951 := rfl
  have m6 : mulOk f 10000000000000 := mulR (by decide) (by decide)
  have e10 : (10 : Int) ^ 13 = 10000000000000 := by decide
  have g1 : (0 : Int) < 2305843009213693951 := by decide
  unfold pickL
  simp [i2, s3, s13, t1, t3, m1, m2, m3, -Int.reducePow, -Int.reduceMod]
  rw [← e1]
  simp [m2, m4, m5, -Int.reducePow, -Int.reduceMod, s3, s13]
  rw [← e2]
  simp [p2, m3, -Int.reducePow, -Int.reduceMod, s3, s13]
  rw [← e3]
  simp [t1, t3, e10, m6]
theorem pick_loop (S : Hs) (a b : Int) (t : List Cell) (m : Int) (x2 : Option D) : ∀ (k : Nat) (ds : List D) (c f : Int) (x4 x5 : Option D), ds.length = k →
    ∃ y z, forL (gN 4) pickL ds [some (.ref S.i), some (.int m), x2, some (.int f), x4, x5] (hp S (.lst [.int a, .int b, .int c]) t) =
      .nx [some (.ref S.i), some (.int m), x2, some (.int (fnd b k c f)), y, z] (hp S (.lst [.int a, .int b, .int (c + k)]) t)
  | 0, ds, c, f, x4, x5, h => by
    rw [List.length_eq_zero_iff.mp h]
    exact ⟨x4, x5, by simp [fnd]⟩
  | k + 1, [], c, f, x4, x5, h => by cases h
  | k + 1, d :: ds, c, f, x4, x5, h => by
    obtain ⟨y, e⟩ := pick_turn S a b c t m f x2 (some d) x5
    obtain ⟨y', z', ih⟩ := pick_loop S a b t m x2 k ds (c + 1) (f * 10 ^ 13 + mxd b (c + 1) / 8191) (some d) y (by simpa using h)
    refine ⟨y', z', ?_⟩
    rw [forL_nx (σ1 := [some (.ref S.i), some (.int m), x2, some (.int f), some d, x5]) rfl e, ih]
    have : c + 1 + (k : Int) = c + ((k + 1 : Nat) : Int) := by omega
    rw [this]
    rfl
theorem ibits_le {m : Int} (h0 : 0 ≤ m) (h1 : m < 2 ^ 120) : Builtin.Int.intBits m < 121 := by
  have e0 : (0 : Int) ≤ 2 ^ 120 := by decide
  have := log_lt (x := m) (k := 120) (by decide) (by omega) h1
  unfold Builtin.Int.intBits
  split <;> omega
theorem pick_ex (S : Hs) (J : Feed) {m : Int} (h0 : 0 < m) (h1 : m < 2 ^ 120) : ∃ (v : Int) (J' : Feed), (∀ t, pickF [.ref S.i, .int m] (hp S (fc J) t) = .ok (.int v) (hp S (fc J') t)) ∧ 0 ≤ v ∧ v < m := by
  obtain ⟨a, b, c⟩ := J
  have e0 : (0 : Int) ≤ 2 ^ 120 := by decide
  have hm : m.natAbs.log2 < 9000 := log_mono (log_lt (k := 120) (by decide) (by omega) h1) (by decide)
  have hd : divOk m := ⟨h0, hm⟩
  have i0 : ixN 3 0 = some 0 := by decide
  by_cases q : 0 < a
  · refine ⟨a % m, (a / m, b, c), fun t => ?_, Int.emod_nonneg _ (by omega), Int.emod_lt_of_pos _ h0⟩
    unfold pickF
    rw [runDef_e, if_pos (show [D.ref S.i, D.int m].length = 2 from rfl)]
    unfold pickB pick0
    simp [fc, i0, q, h0, hd]
  · have hb := ibits_le (Int.le_of_lt h0) h1
    obtain ⟨k, hk⟩ : ∃ k : Nat, k = Builtin.Int.intBits m / 40 := ⟨_, rfl⟩
    have hk5 : k ≤ 3 := by omega
    have t40 : divOk 40 := by decide +kernel
    refine ⟨fnd b (1 + k) c 0 % m, (a, b, c + ((1 + k : Nat) : Int)), fun t => ?_, Int.emod_nonneg _ (by omega), Int.emod_lt_of_pos _ h0⟩
    have hkk : ((Builtin.Int.intBits m : Nat) : Int) / 40 = (k : Int) := by omega
    have hlo : -(2 : Int) ^ 62 ≤ 1 + (k : Int) := by omega
    have hhi : 1 + (k : Int) < (2 : Int) ^ 62 := by omega
    have ht : (1 + (k : Int)).toNat = 1 + k := by omega
    obtain ⟨y, z, el⟩ := pick_loop S a b t m none (1 + k) (rngD 0 (1 + k)) c 0 none none (by simp [rngD])
    unfold pickF
    rw [runDef_e, if_pos (show [D.ref S.i, D.int m].length = 2 from rfl)]
    show runO (pickB [some (.ref S.i), some (.int m), none, none, none, none] (hp S (fc (a, b, c)) t)) = _
    have st0 : pick0 [some (.ref S.i), some (.int m), none, none, none, none] (hp S (fc (a, b, c)) t) = .nx [some (.ref S.i), some (.int m), none, none, none, none] (hp S (fc (a, b, c)) t) := by
      unfold pick0
      simp [fc, q]
    have arg : (aCons (fOp2 (dAdd true) (fC (.int 1)) (fOp2 dFdiv (fBits (fVar 1)) (fC (.int 40)))) aNil) [some (.ref S.i), some (.int m), none, some (.int 0), none, none] (hp S (fc (a, b, c)) t) = .ok [.int (1 + (k : Int))] (hp S (fc (a, b, c)) t) := by
      simp [t40, hkk]
    have st2 : pick2 [some (.ref S.i), some (.int m), none, some (.int 0), none, none] (hp S (fc (a, b, c)) t) = .nx [some (.ref S.i), some (.int m), none, some (.int (fnd b (1 + k) c 0)), y, z] (hp S (fc (a, b, c + ((1 + k : Nat) : Int))) t) := by
      unfold pick2
      rw [sFor_e, iRg1_e, arg, Out.bnd_ok, rgO1_i, if_pos ⟨hlo, hhi⟩, sOfL_ok, ht]
      exact el
    unfold pickB
    rw [sSeq_e, st0, Sr.bind_nx, sSeq_e]
    show runO (Sr.bind (.nx [some (.ref S.i), some (.int m), none, some (.int 0), none, none] (hp S (fc (a, b, c)) t)) _) = _
    rw [Sr.bind_nx, sSeq_e, st2, Sr.bind_nx]
    generalize fnd b (1 + k) c 0 = w
    simp [h0]
def feedB : Fs := (sSeq (sAsg (fC (.int 0)) (gN 2)) (sSeq (sIf (fTst (fOp2 dLt (fVar 1) (fCB dLen (aCons (fVar 0) aNil)))) (sAsg (fOp2 dIx (fVar 0) (fVar 1)) (gN 2)) sNx) (sRet (fLst false (aCons (fCB dMax (aCons (fC (.int 0)) (aCons (fOp2 dSub (fCB dAbs (aCons (fVar 2) aNil)) (fOp2 dPow (fC (.int 10)) (fC (.int 18)))) aNil))) (aCons (fOp2 dMod (fOp2 (dAdd true) (fOp2 (dAdd true) (fOp2 (dMul true) (fVar 2) (fC (.int 227))) (fOp2 (dMul true) (fC (.int 6521)) (fVar 1))) (fC (.int 83))) (fC (.int 2305843009213693951))) (aCons (fC (.int 0)) aNil)))))))
def feedF : List D → List Cell → Out D := runDef 2 3 feedB
theorem feed_eq (ns : List Int) (k : Nat) (cs : List Cell) : ∃ J : Feed, feedF [.arg (ns.map D.int), .int k] cs = .ok (.ref cs.length) (cs ++ [fc J]) := by
  let x : Int := if h : k < ns.length then ns[k] else 0
  refine ⟨(if (if x < 0 then -x else x) - 10 ^ 18 > 0 then (if x < 0 then -x else x) - 10 ^ 18 else 0, (x * 227 + 6521 * (k : Int) + 83) % 2305843009213693951, 0), ?_⟩
  have t1 : powOk 10 18 := by decide +kernel
  have s1 : ((18 : Int).toNat) = 18 := rfl
  have m1 : ∀ y : Int, mulOk y 227 := fun y => mulR (by decide) (by decide)
  have m2 : ∀ y : Int, mulOk 6521 y := fun y => mulL (by decide) (by decide)
  have g1 : (0 : Int) < 2305843009213693951 := by decide
  have sz : 3 ≤ sizeLine := by decide
  unfold feedF
  rw [runDef_e, if_pos (show [D.arg (ns.map D.int), D.int k].length = 2 from rfl)]
  unfold feedB
  by_cases h : k < ns.length
  · have e : atI (ns.map D.int) (k : Int) = some (.int ns[k]) := atI_nat (by rw [List.getElem?_map, List.getElem?_eq_getElem h]; rfl)
    have ex : x = ns[k] := dif_pos h
    generalize ns[k] = y at e ex
    subst ex
    simp [h, e, fc, -Int.reducePow, -Int.reduceAdd, -Int.reduceMul, -Int.reduceMod, t1, s1, m1, m2, sz]
  · have ex : x = 0 := dif_neg h
    rw [ex]
    simp [h, fc, -Int.reducePow, -Int.reduceAdd, -Int.reduceMul, -Int.reduceMod, t1, s1, m1, m2, sz]
/-! ways that are drawn -/
abbrev onP (p : Ce) : Prop := onS (10 ^ 30) (10 ^ 30) p
theorem onS.up {H W : Int} (h2 : H ≤ 10 ^ 30) (w2 : W ≤ 10 ^ 30) {p : Ce} (h : onS H W p) : onP p := ⟨h.1, Int.lt_of_lt_of_le h.2.1 h2, h.2.2.1, Int.lt_of_lt_of_le h.2.2.2 w2⟩
def lnO (o : Option Cell) (cs : List Cell) : Rs D := match o with
  | some (.lst xs) => some (.int xs.length, cs)
  | _ => none
@[simp] theorem lnO_s {xs : List D} {cs : List Cell} : lnO (some (.lst xs)) cs = some (.int xs.length, cs) := rfl
@[simp] theorem dLen_r {i : Nat} {cs : List Cell} : dLen [.ref i] cs = lnO (cAt cs i) cs := by
  show (seqOf cs (.ref i)).map _ = _
  rw [seqOf_r]
  rcases cAt cs i with _ | (_ | _ | _) <;> rfl
def spotsL : Fs := (sSeq (sAsg (fAndV (fOp2 (dEq true) (fVar 10) (fLst true aNil)) (fOp2 (dEq false) (fCall (fnK 2 0 2 pickF (fun ds _ => ds)) (aCons (fVar 0) (aCons (fC (.int 5)) aNil)) aNil) (fC (.int 0)))) (gN 12)) (sSeq (sAsg (fTup (aCons (fOp2 (dAdd true) (fVar 8) (fCall (fnK 2 0 2 pickF (fun ds _ => ds)) (aCons (fVar 0) (aCons (fVar 6) aNil)) aNil)) (aCons (fOp2 (dAdd true) (fVar 9) (fCall (fnK 2 0 2 pickF (fun ds _ => ds)) (aCons (fVar 0) (aCons (fVar 7) aNil)) aNil)) aNil))) (gN 13)) (sEx (fLm mAppend (fVar 10) (aCons (fIfE (fTru (fVar 12)) (fOp2 dIx (fVar 10) (fCall (fnK 2 0 2 pickF (fun ds _ => ds)) (aCons (fVar 0) (aCons (fCB dLen (aCons (fVar 10) aNil)) aNil)) aNil)) (fVar 13)) aNil)))))
def spots0 : Fs := (sAsg (fOp2 dIx (fLst true (aCons (fOp2 (dAdd true) (fC (.int 1)) (fCall (fnK 2 0 2 pickF (fun ds _ => ds)) (aCons (fVar 0) (aCons (fVar 1) aNil)) aNil)) (aCons (fVar 1) (aCons (fOp2 (dAdd true) (fC (.int 1)) (fCall (fnK 2 0 2 pickF (fun ds _ => ds)) (aCons (fVar 0) (aCons (fCB dMin (aCons (fC (.int 4)) (aCons (fVar 1) aNil))) aNil)) aNil)) aNil)))) (fCall (fnK 2 0 2 pickF (fun ds _ => ds)) (aCons (fVar 0) (aCons (fC (.int 3)) aNil)) aNil)) (gN 5))
def spots1 : Fs := (sPar 6 7 (aCons (fOp2 (dAdd true) (fCall (fnK 2 0 2 pickF (fun ds _ => ds)) (aCons (fVar 0) (aCons (fVar 2) aNil)) aNil) (fC (.int 1))) (aCons (fOp2 (dAdd true) (fCall (fnK 2 0 2 pickF (fun ds _ => ds)) (aCons (fVar 0) (aCons (fVar 3) aNil)) aNil) (fC (.int 1))) aNil)))
def spots2 : Fs := (sAsg (fTup (aCons (fC (.int 0)) (aCons (fC (.int 0)) aNil))) (gT 2 (gsCons (gN 8) (gsCons (gN 9) gsNil))))
def spots3 : Fs := (sIf (fTru (fVar 4)) (sSeq (sAsg (fOp2 dIx (fLst true (aCons (fCall (fnK 2 0 2 pickF (fun ds _ => ds)) (aCons (fVar 0) (aCons (fOp2 (dAdd true) (fOp2 dSub (fOp2 dPow (fC (.int 10)) (fC (.int 30))) (fVar 6)) (fC (.int 1))) aNil)) aNil) (aCons (fOp2 dSub (fOp2 dPow (fC (.int 10)) (fC (.int 30))) (fVar 6)) aNil))) (fCall (fnK 2 0 2 pickF (fun ds _ => ds)) (aCons (fVar 0) (aCons (fC (.int 2)) aNil)) aNil)) (gN 8)) (sAsg (fOp2 dIx (fLst true (aCons (fCall (fnK 2 0 2 pickF (fun ds _ => ds)) (aCons (fVar 0) (aCons (fOp2 (dAdd true) (fOp2 dSub (fOp2 dPow (fC (.int 10)) (fC (.int 30))) (fVar 7)) (fC (.int 1))) aNil)) aNil) (aCons (fOp2 dSub (fOp2 dPow (fC (.int 10)) (fC (.int 30))) (fVar 7)) aNil))) (fCall (fnK 2 0 2 pickF (fun ds _ => ds)) (aCons (fVar 0) (aCons (fC (.int 2)) aNil)) aNil)) (gN 9))) sNx)
def spots5 : Fs := (sFor (iRg1 (aCons (fVar 5) aNil)) (gN 11) spotsL)
def spotsB : Fs := (sSeq spots0 (sSeq spots1 (sSeq spots2 (sSeq spots3 (sSeq (sAsg (fLst false aNil) (gN 10)) (sSeq spots5 (sSeq (sFrz 10) (sRet (fVar 10)))))))))
def spotsF : List D → List Cell → Out D := runDef 5 14 spotsB
theorem spots_turn (S : Hs) (J : Feed) (t : List Cell) (ws : List Ce) (hw : ws.length ≤ 1000) {dn ac lo ne : Int} (d0 : 0 < dn) (d1 : lo + dn ≤ 10 ^ 30) (a0 : 0 < ac) (a1 : ne + ac ≤ 10 ^ 30) (l0 : 0 ≤ lo) (n0 : 0 ≤ ne) (ho : ∀ p ∈ ws, onP p) (x1 x2 x3 x4 x5 x11 x12 x13 : Option D) :
    ∃ (z : Ce) (J' : Feed) (y12 y13 : Option D), onP z ∧ spotsL [some (.ref S.i), x1, x2, x3, x4, x5, some (.int dn), some (.int ac), some (.int lo), some (.int ne), some (.ref (S.cs.length + t.length)), x11, x12, x13] (hp S (fc J) (t ++ [.lst (ws.map ceD)])) =
      .nx [some (.ref S.i), x1, x2, x3, x4, x5, some (.int dn), some (.int ac), some (.int lo), some (.int ne), some (.ref (S.cs.length + t.length)), x11, y12, y13] (hp S (fc J') (t ++ [.lst ((ws ++ [z]).map ceD)])) := by
  have p30 : (10 : Int) ^ 30 < 2 ^ 120 := by decide
  have sz0 : 0 ≤ sizeLine := by decide
  have sz2 : 2 ≤ sizeLine := by decide
  have szw : (ws.map ceD).length < sizeLine := by rw [List.length_map]; exact Nat.lt_of_le_of_lt hw (by decide)
  have sh : SeqAt.shaped (.list (ws.map cePd)) = true := shaped_ces ws
  have sh0 : SeqAt.shaped (.list []) = true := shaped_ces []
  have ev : PyData.eqv (.list (ws.map cePd)) (.list []) = decide (ws = []) := eqv_ces ws []
  have tp : toP0s (ws.map ceD) = some (ws.map cePd) := toP0s_ce ws
  have tp0 : toP0s ([] : List D) = some [] := toP0s_ce []
  have app : ∀ z : Ce, (ws ++ [z]).map ceD = ws.map ceD ++ [.tup [.int z.1, .int z.2]] := fun z => by rw [List.map_append]; rfl
  have fresh : ∀ (J : Feed), ∃ (u v : Int) (J1 J2 : Feed), onP (lo + u, ne + v) ∧ (∀ t, pickF [.ref S.i, .int dn] (hp S (fc J) t) = .ok (.int u) (hp S (fc J1) t)) ∧ ∀ t, pickF [.ref S.i, .int ac] (hp S (fc J1) t) = .ok (.int v) (hp S (fc J2) t) := fun J => by
    obtain ⟨u, J1, e1, u0, u1⟩ := pick_ex S J d0 (by omega)
    obtain ⟨v, J2, e2, v0, v1⟩ := pick_ex S J1 a0 (by omega)
    exact ⟨u, v, J1, J2, ⟨show 0 ≤ lo + u by omega, show lo + u < _ by omega, show 0 ≤ ne + v by omega, show ne + v < _ by omega⟩, e1, e2⟩
  have at1 : ∀ m : List D, (t ++ [Cell.lst m])[t.length]? = some (.lst m) := fun m => by simp
  cases ws with
  | nil =>
    obtain ⟨u, v, J1, J2, o, e1, e2⟩ := fresh J
    refine ⟨(lo + u, ne + v), J2, some (.bl false), some (.tup [.int (lo + u), .int (ne + v)]), o, ?_⟩
    rw [app]
    unfold spotsL
    simp at sh tp ev szw
    simp [e1, e2, tp0, sh0, ev, eqO_s, PyData.eqv, PyData.eqvAll, sz0, sz2, szw]
  | cons w ws =>
    obtain ⟨a, J0, e0, _, _⟩ := pick_ex S J (m := 5) (by decide) (by decide)
    obtain ⟨u, v, J1, J2, o, e1, e2⟩ := fresh J0
    have ev' : PyData.eqv (.list ((w :: ws).map cePd)) (.list []) = false := by rw [ev]; simp
    by_cases ha : a = 0
    · have hl1 : (0 : Int) < ((w :: ws).length : Int) := by simp only [List.length_cons]; omega
      have hl2 : ((w :: ws).length : Int) < 2 ^ 120 := by
        have e : (1000 : Int) < 2 ^ 120 := by decide
        omega
      obtain ⟨i, J3, e3, i0, i1⟩ := pick_ex S J2 hl1 hl2
      obtain ⟨k, rfl⟩ := Int.eq_ofNat_of_zero_le i0
      have hk : k < (w :: ws).length := by omega
      refine ⟨(w :: ws)[k], J3, some (.bl true), some (.tup [.int (lo + u), .int (ne + v)]), ho _ (List.getElem_mem hk), ?_⟩
      have at2 : atI ((w :: ws).map ceD) (k : Int) = some (.tup [.int ((w :: ws)[k]).1, .int ((w :: ws)[k]).2]) := PV.atI_nat (by rw [List.getElem?_map, List.getElem?_eq_getElem hk]; rfl)
      rw [app]
      generalize (w :: ws)[k] = z at *
      have hlen : (((w :: ws).map ceD).length : Int) = ((w :: ws).length : Int) := by rw [List.length_map]
      generalize ((w :: ws).length : Int) = L at *
      generalize (w :: ws).map ceD = ms at *
      generalize (w :: ws).map cePd = mp at *
      unfold spotsL
      simp [e0, ha, e1, e2, e3, tp, tp0, sh, sh0, ev', eqO_s, sz0, sz2, szw, hlen, at2]
    · refine ⟨(lo + u, ne + v), J2, some (.bl false), some (.tup [.int (lo + u), .int (ne + v)]), o, ?_⟩
      rw [app]
      generalize (w :: ws).map ceD = ms at *
      generalize (w :: ws).map cePd = mp at *
      unfold spotsL
      simp [e0, ha, e1, e2, tp, tp0, sh, sh0, ev', eqO_s, sz0, sz2, szw]
theorem spots_ex (S : Hs) (J : Feed) {m : Int} (m0 : 1 ≤ m) (m1 : m ≤ 300) {hh ww : Int} (h0 : 1 ≤ hh) (h1 : hh ≤ 1000) (w0 : 1 ≤ ww) (w1 : ww ≤ 1000) (g : Bool) (t : List Cell) :
    ∃ (ws : List Ce) (J' : Feed), ws ≠ [] ∧ (ws.length : Int) ≤ m ∧ (∀ p ∈ ws, onP p) ∧ spotsF [.ref S.i, .int m, .int hh, .int ww, .bl g] (hp S (fc J) t) = .ok (.lst (ws.map ceD)) (hp S (fc J') (t ++ [.dead])) := by
  have pb : (2000 : Int) < 2 ^ 120 := by decide
  have p30 : (10 : Int) ^ 30 + 1000 < 2 ^ 120 := by decide
  have pp : (10 : Int) ^ 30 > 2000 := by decide
  have sz0 : 0 ≤ sizeLine := by decide
  have sz2 : 2 ≤ sizeLine := by decide
  have sz3 : 3 ≤ sizeLine := by decide
  obtain ⟨a, J1, e1, a0, a1⟩ := pick_ex S J (m := m) (by omega) (by omega)
  obtain ⟨b, J2, e2, b0, b1⟩ := pick_ex S J1 (m := if m < 4 then m else 4) (by split <;> omega) (by split <;> omega)
  obtain ⟨c, J3, e3, c0, c1⟩ := pick_ex S J2 (m := 3) (by decide) (by decide)
  obtain ⟨u, J4, e4, u0, u1⟩ := pick_ex S J3 (m := hh) (by omega) (by omega)
  obtain ⟨v, J5, e5, v0, v1⟩ := pick_ex S J4 (m := ww) (by omega) (by omega)
  obtain ⟨N, hN, n1, n2, at3⟩ : ∃ N : Nat, N = N ∧ 1 ≤ N ∧ (N : Int) ≤ m ∧ atI [D.int (1 + a), .int m, .int (1 + b)] c = some (.int N) := by
    have b2 : b < m := by revert b1; split <;> omega
    rw [sel3 c0 c1]
    have e : ∀ x : Int, 1 ≤ x → x ≤ m → ∃ N : Nat, N = N ∧ 1 ≤ N ∧ (N : Int) ≤ m ∧ some (D.int x) = some (.int N) := fun x x0 x1 => ⟨x.toNat, rfl, by omega, by omega, by rw [Int.toNat_of_nonneg (by omega)]⟩
    split
    · exact e _ (by omega) (by omega)
    · split
      · exact e _ (by omega) (by omega)
      · exact e _ (by omega) (by omega)
  have st0 : spots0 [some (.ref S.i), some (.int m), some (.int hh), some (.int ww), some (.bl g), none, none, none, none, none, none, none, none, none] (hp S (fc J) t) =
      .nx [some (.ref S.i), some (.int m), some (.int hh), some (.int ww), some (.bl g), some (.int N), none, none, none, none, none, none, none, none] (hp S (fc J3) t) := by
    unfold spots0
    simp [e1, e2, e3, sz3, at3]
  have st1 : spots1 [some (.ref S.i), some (.int m), some (.int hh), some (.int ww), some (.bl g), some (.int N), none, none, none, none, none, none, none, none] (hp S (fc J3) t) =
      .nx [some (.ref S.i), some (.int m), some (.int hh), some (.int ww), some (.bl g), some (.int N), some (.int (u + 1)), some (.int (v + 1)), none, none, none, none, none, none] (hp S (fc J5) t) := by
    unfold spots1
    simp [e4, e5]
  have st2 : spots2 [some (.ref S.i), some (.int m), some (.int hh), some (.int ww), some (.bl g), some (.int N), some (.int (u + 1)), some (.int (v + 1)), none, none, none, none, none, none] (hp S (fc J5) t) =
      .nx [some (.ref S.i), some (.int m), some (.int hh), some (.int ww), some (.bl g), some (.int N), some (.int (u + 1)), some (.int (v + 1)), some (.int 0), some (.int 0), none, none, none, none] (hp S (fc J5) t) := by
    unfold spots2
    simp [sz2]
  obtain ⟨lo, ne, J6, l0, l1, q0, q1, st3⟩ : ∃ (lo ne : Int) (J6 : Feed), 0 ≤ lo ∧ lo + (u + 1) ≤ 10 ^ 30 ∧ 0 ≤ ne ∧ ne + (v + 1) ≤ 10 ^ 30 ∧ spots3 [some (.ref S.i), some (.int m), some (.int hh), some (.int ww), some (.bl g), some (.int N), some (.int (u + 1)), some (.int (v + 1)), some (.int 0), some (.int 0), none, none, none, none] (hp S (fc J5) t) =
      .nx [some (.ref S.i), some (.int m), some (.int hh), some (.int ww), some (.bl g), some (.int N), some (.int (u + 1)), some (.int (v + 1)), some (.int lo), some (.int ne), none, none, none, none] (hp S (fc J6) t) := by
    cases g with
    | false => exact ⟨0, 0, J5, by omega, by omega, by omega, by omega, by unfold spots3; simp⟩
    | true =>
      obtain ⟨x, K1, f1, x0, x1⟩ := pick_ex S J5 (m := 10 ^ 30 - (u + 1) + 1) (by omega) (by omega)
      obtain ⟨y, K2, f2, y0, y1⟩ := pick_ex S K1 (m := 2) (by decide) (by decide)
      obtain ⟨x', K3, f3, x0', x1'⟩ := pick_ex S K2 (m := 10 ^ 30 - (v + 1) + 1) (by omega) (by omega)
      obtain ⟨y', K4, f4, y0', y1'⟩ := pick_ex S K3 (m := 2) (by decide) (by decide)
      have t1 : powOk 10 30 := by decide +kernel
      have s1 : ((30 : Int).toNat) = 30 := rfl
      refine ⟨if y = 0 then x else 10 ^ 30 - (u + 1), if y' = 0 then x' else 10 ^ 30 - (v + 1), K4, by split <;> omega, by split <;> omega, by split <;> omega, by split <;> omega, ?_⟩
      have g1 := sel2 (x := D.int x) (y := .int (10 ^ 30 - (u + 1))) y0 y1
      have g2 := sel2 (x := D.int x') (y := .int (10 ^ 30 - (v + 1))) y0' y1'
      rw [ite_int] at g1 g2
      unfold spots3
      simp [f1, f2, f3, f4, t1, s1, sz2, g1, g2, -Int.reducePow]
  have hlr : (rngD 0 N).length = N := by simp [rngD]
  obtain ⟨σ', c', e6, y11, y12, y13, ws, J7, rfl, hw, hl, rfl⟩ := forL_all (g := gN 11) (fb := spotsL) (ds := rngD 0 N) (σ := [some (.ref S.i), some (.int m), some (.int hh), some (.int ww), some (.bl g), some (.int N), some (.int (u + 1)), some (.int (v + 1)), some (.int lo), some (.int ne), some (.ref (S.cs.length + t.length)), none, none, none]) (c := hp S (fc J6) (t ++ [.lst []]))
    (fun i σ c => ∃ (y11 y12 y13 : Option D) (ws : List Ce) (J : Feed), σ = [some (.ref S.i), some (.int m), some (.int hh), some (.int ww), some (.bl g), some (.int N), some (.int (u + 1)), some (.int (v + 1)), some (.int lo), some (.int ne), some (.ref (S.cs.length + t.length)), y11, y12, y13] ∧ (∀ p ∈ ws, onP p) ∧ ws.length = i ∧ c = hp S (fc J) (t ++ [.lst (ws.map ceD)]))
    ⟨none, none, none, [], J6, rfl, fun p hp => (by cases hp), rfl, rfl⟩ (by
      rintro i d σ c hd ⟨y11, y12, y13, ws, J, rfl, hw, hl, rfl⟩
      obtain ⟨hi, rfl⟩ := rngD_get hd
      obtain ⟨z, J', z12, z13, oz, e⟩ := spots_turn S J t ws (by omega) (dn := u + 1) (ac := v + 1) (lo := lo) (ne := ne) (by omega) l1 (by omega) q1 l0 q0 hw (some (.int m)) (some (.int hh)) (some (.int ww)) (some (.bl g)) (some (.int N)) (some (.int (0 + (i : Int)))) y12 y13
      refine ⟨_, _, _, rfl, e, _, _, _, ws ++ [z], J', rfl, fun p hp => ?_, by simp [hl], rfl⟩
      rcases List.mem_append.mp hp with h | h
      · exact hw p h
      · rw [List.mem_singleton.mp h]; exact oz)
  rw [hlr] at hl
  refine ⟨ws, J7, fun h => by rw [h] at hl; simp at hl; omega, by omega, hw, ?_⟩
  have hb1 : -(2 ^ 62) ≤ (N : Int) := by omega
  have hb2 : (N : Int) < 2 ^ 62 := by omega
  unfold spotsF
  rw [runDef_e, if_pos (show [D.ref S.i, .int m, .int hh, .int ww, .bl g].length = 5 from rfl)]
  show runO (spotsB [some (.ref S.i), some (.int m), some (.int hh), some (.int ww), some (.bl g), none, none, none, none, none, none, none, none, none] _) = _
  unfold spotsB
  rw [sSeq_e, st0, Sr.bind_nx, sSeq_e, st1, Sr.bind_nx, sSeq_e, st2, Sr.bind_nx, sSeq_e, st3, Sr.bind_nx, sSeq_e]
  have st4 : sAsg (fLst false aNil) (gN 10) [some (.ref S.i), some (.int m), some (.int hh), some (.int ww), some (.bl g), some (.int N), some (.int (u + 1)), some (.int (v + 1)), some (.int lo), some (.int ne), none, none, none, none] (hp S (fc J6) t) =
      .nx [some (.ref S.i), some (.int m), some (.int hh), some (.int ww), some (.bl g), some (.int N), some (.int (u + 1)), some (.int (v + 1)), some (.int lo), some (.int ne), some (.ref (S.cs.length + t.length)), none, none, none] (hp S (fc J6) (t ++ [.lst []])) := by
    simp [sz0]
  rw [st4, Sr.bind_nx, sSeq_e]
  have st5 : spots5 [some (.ref S.i), some (.int m), some (.int hh), some (.int ww), some (.bl g), some (.int N), some (.int (u + 1)), some (.int (v + 1)), some (.int lo), some (.int ne), some (.ref (S.cs.length + t.length)), none, none, none] (hp S (fc J6) (t ++ [.lst []])) = .nx [some (.ref S.i), some (.int m), some (.int hh), some (.int ww), some (.bl g), some (.int N), some (.int (u + 1)), some (.int (v + 1)), some (.int lo), some (.int ne), some (.ref (S.cs.length + t.length)), y11, y12, y13] (hp S (fc J7) (t ++ [.lst (ws.map ceD)])) := by
    rw [← e6]
    unfold spots5
    rw [sFor_e, iRg1_e]
    show sOfL (Out.bnd (.ok [D.int (N : Int)] _) _) _ _ = _
    rw [Out.bnd_ok, rgO1_i, if_pos ⟨hb1, hb2⟩, sOfL_ok, Int.toNat_natCast]
  rw [st5, Sr.bind_nx]
  simp
end PV

namespace PV
open PySem PySem.Spec PyProof.Rows L2

/-! ### two ways, one after another -/
theorem stp2 {d t u t' u' L : Int} (h0 : t ≤ u) (h1 : 0 ≤ t) (h2 : u < L) (h3 : t' ≤ u') (h4 : 0 ≤ t') (h5 : u' < L) : stp (stp d t u L) t' u' L = stp d (if t' ≤ t then t' else t) (if u ≤ u' then u' else u) L := by
  unfold stp
  (repeat' split) <;> omega
theorem stay2 {d t u t' u' L : Int} : (stay d t u L && stay d t' u' L) = stay d (if t' ≤ t then t' else t) (if u ≤ u' then u' else u) L := by
  unfold stay
  rw [Bool.eq_iff_iff]
  simp only [Bool.and_eq_true, decide_eq_true_eq]
  constructor
  · rintro ⟨⟨h1, h2⟩, h3, h4⟩
    constructor <;> split <;> assumption
  · rintro ⟨h1, h2⟩
    split at h1 <;> split at h2 <;> omega
theorem keep2 (k : Kn) {H W t u l r t' u' l' r' : Int} (h0 : t ≤ u) (h1 : 0 ≤ t) (h2 : u < H) (h3 : l ≤ r) (h4 : 0 ≤ l) (h5 : r < W) (g0 : t' ≤ u') (g1 : 0 ≤ t') (g2 : u' < H) (g3 : l' ≤ r') (g4 : 0 ≤ l') (g5 : r' < W) (p : Option Rf) :
    keep k H W t' u' l' r' (keep k H W t u l r p) = keep k H W (if t' ≤ t then t' else t) (if u ≤ u' then u' else u) (if l' ≤ l then l' else l) (if r ≤ r' then r' else r) p := by
  cases p with
  | none => cases k <;> rfl
  | some p =>
    obtain ⟨x, y, f, g⟩ := p
    cases k with
    | ring => rfl
    | plain =>
      show keepP H W t' u' l' r' (if (f || stay x t u H) && (g || stay y l r W) then some ⟨x, y, f, g⟩ else none) = (if (f || stay x _ _ H) && (g || stay y _ _ W) then some ⟨x, y, f, g⟩ else none)
      rw [← stay2, ← stay2]
      generalize stay x t u H = s1
      generalize stay y l r W = s2
      have q : ∀ s3 s4 : Bool, stay x t' u' H = s3 → stay y l' r' W = s4 → keepP H W t' u' l' r' (if (f || s1) && (g || s2) then some ⟨x, y, f, g⟩ else none) = (if (f || s1 && s3) && (g || s2 && s4) then some (Rf.mk x y f g) else none) := by
        intro s3 s4 e3 e4
        cases f <;> cases g <;> cases s1 <;> cases s2 <;> cases s3 <;> cases s4 <;> simp [keepP, e3, e4]
      exact q _ _ rfl rfl
    | stop =>
      show some (Rf.mk (if f then (if f then x else stp x t u H) else stp (if f then x else stp x t u H) t' u' H) (if g then (if g then y else stp y l r W) else stp (if g then y else stp y l r W) l' r' W) f g) = some ⟨if f then x else stp x _ _ H, if g then y else stp y _ _ W, f, g⟩
      cases f <;> cases g <;> simp [stp2 h0 h1 h2 g0 g1 g2, stp2 h3 h4 h5 g3 g4 g5]
/-- least and greatest of a function of cells -/
theorem mn_of {f : Ce → Int} {ws : List Ce} {m : Int} (h1 : ∃ p ∈ ws, f p = m) (h2 : ∀ p ∈ ws, m ≤ f p) : minL (ws.map f) = m := by
  obtain ⟨p, hp, rfl⟩ := h1
  have e1 : minL (ws.map f) ≤ f p := minL_le (List.mem_map_of_mem hp)
  obtain ⟨q, hq, e2⟩ := List.mem_map.mp (minL_mem (ns := ws.map f) (by intro h; rw [List.map_eq_nil_iff] at h; subst h; cases hp))
  have := h2 q hq
  omega
theorem mx_of {f : Ce → Int} {ws : List Ce} {m : Int} (h1 : ∃ p ∈ ws, f p = m) (h2 : ∀ p ∈ ws, f p ≤ m) : maxL (ws.map f) = m := by
  obtain ⟨p, hp, rfl⟩ := h1
  have e1 : f p ≤ maxL (ws.map f) := maxL_le (List.mem_map_of_mem hp)
  obtain ⟨q, hq, e2⟩ := List.mem_map.mp (maxL_mem (ns := ws.map f) (by intro h; rw [List.map_eq_nil_iff] at h; subst h; cases hp))
  have := h2 q hq
  omega
theorem mn_ex {f : Ce → Int} {ws : List Ce} (h : ws ≠ []) : ∃ p ∈ ws, f p = minL (ws.map f) := List.mem_map.mp (minL_mem (by simpa using h))
theorem mx_ex {f : Ce → Int} {ws : List Ce} (h : ws ≠ []) : ∃ p ∈ ws, f p = maxL (ws.map f) := List.mem_map.mp (maxL_mem (by simpa using h))
theorem mn_le {f : Ce → Int} {ws : List Ce} {p : Ce} (h : p ∈ ws) : minL (ws.map f) ≤ f p := minL_le (List.mem_map_of_mem h)
theorem mx_ge {f : Ce → Int} {ws : List Ce} {p : Ce} (h : p ∈ ws) : f p ≤ maxL (ws.map f) := maxL_le (List.mem_map_of_mem h)
theorem mn_cut {f : Ce → Int} {ws A B : List Ce} (hA : A ≠ []) (hB : B ≠ []) (h : ∀ p, p ∈ ws ↔ p ∈ A ∨ p ∈ B) : (if minL (B.map f) ≤ minL (A.map f) then minL (B.map f) else minL (A.map f)) = minL (ws.map f) := by
  obtain ⟨p, hp, e1⟩ := mn_ex (f := f) hA
  obtain ⟨q, hq, e2⟩ := mn_ex (f := f) hB
  refine (mn_of ?_ fun r hr => ?_).symm
  · split
    · exact ⟨q, (h q).mpr (Or.inr hq), e2⟩
    · exact ⟨p, (h p).mpr (Or.inl hp), e1⟩
  · rcases (h r).mp hr with hr | hr <;> have := mn_le (f := f) hr <;> split <;> omega
theorem mx_cut {f : Ce → Int} {ws A B : List Ce} (hA : A ≠ []) (hB : B ≠ []) (h : ∀ p, p ∈ ws ↔ p ∈ A ∨ p ∈ B) : (if maxL (A.map f) ≤ maxL (B.map f) then maxL (B.map f) else maxL (A.map f)) = maxL (ws.map f) := by
  obtain ⟨p, hp, e1⟩ := mx_ex (f := f) hA
  obtain ⟨q, hq, e2⟩ := mx_ex (f := f) hB
  refine (mx_of ?_ fun r hr => ?_).symm
  · split
    · exact ⟨q, (h q).mpr (Or.inr hq), e2⟩
    · exact ⟨p, (h p).mpr (Or.inl hp), e1⟩
  · rcases (h r).mp hr with hr | hr <;> have := mx_ge (f := f) hr <;> split <;> omega
theorem walk_walk (k : Kn) {H W : Int} {ws A B : List Ce} (hA : A ≠ []) (hB : B ≠ []) (h : ∀ p, p ∈ ws ↔ p ∈ A ∨ p ∈ B) (ho : ∀ p ∈ ws, onS H W p) (p : Option Rf) : walkK k H W B (walkK k H W A p) = walkK k H W ws p := by
  have s1 := sides_of hA fun p hp => ho p ((h p).mpr (Or.inl hp))
  have s2 := sides_of hB fun p hp => ho p ((h p).mpr (Or.inr hp))
  unfold walkK
  rw [keep2 k s1.tb s1.t0 s1.b1 s1.lr s1.l0 s1.r1 s2.tb s2.t0 s2.b1 s2.lr s2.l0 s2.r1]
  unfold tops bots lefs rigs
  rw [mn_cut hA hB h, mn_cut hA hB h, mx_cut hA hB h, mx_cut hA hB h]
/-- the same frame: the same done -/
theorem walk_ext (k : Kn) {H W : Int} {A B : List Ce} (h : ∀ f : Ce → Int, f = Prod.fst ∨ f = Prod.snd → minL (A.map f) = minL (B.map f) ∧ maxL (A.map f) = maxL (B.map f)) (p : Option Rf) : walkK k H W A p = walkK k H W B p := by
  unfold walkK tops bots lefs rigs
  have h1 := h _ (Or.inl rfl)
  have h2 := h _ (Or.inr rfl)
  show keep k H W (minL (A.map Prod.fst)) (maxL (A.map Prod.fst)) (minL (A.map Prod.snd)) (maxL (A.map Prod.snd)) p = _
  rw [h1.1, h1.2, h2.1, h2.2]
theorem walk_inn (k : Kn) {H W : Int} {A B : List Ce} (hB : B ≠ []) (h1 : ∀ p ∈ B, p ∈ A) (h2 : ∀ p ∈ A, (∃ q ∈ B, p.1 = q.1) ∧ ∃ q ∈ B, p.2 = q.2) (p : Option Rf) : walkK k H W A p = walkK k H W B p := by
  refine walk_ext k (fun f hf => ?_) p
  have h3 : ∀ p ∈ A, ∃ q ∈ B, f p = f q := fun p hp => by
    rcases hf with rfl | rfl
    · exact (h2 p hp).1
    · exact (h2 p hp).2
  obtain ⟨a, ha, e1⟩ := mn_ex (f := f) hB
  obtain ⟨b, hb, e2⟩ := mx_ex (f := f) hB
  refine ⟨mn_of ⟨a, h1 a ha, e1⟩ fun p hp => ?_, mx_of ⟨b, h1 b hb, e2⟩ fun p hp => ?_⟩
  · obtain ⟨q, hq, e⟩ := h3 p hp
    rw [e]; exact mn_le hq
  · obtain ⟨q, hq, e⟩ := h3 p hp
    rw [e]; exact mx_ge hq

/-! ### upside down -/
def Rf.mir (H : Int) (p : Rf) : Rf := ⟨if p.f then H - 1 - p.r else 0 - p.r, p.c, p.f, p.g⟩
def mirK (H : Int) (p : Option Rf) : Option Rf := p.map (Rf.mir H)
def mirC (H : Int) (p : Ce) : Ce := (H - 1 - p.1, p.2)
theorem stp_mir {r t u H : Int} (h0 : t ≤ u) (h1 : 0 ≤ t) (h2 : u < H) : stp (0 - r) (H - 1 - u) (H - 1 - t) H = 0 - stp r t u H := by
  unfold stp
  (repeat' split) <;> omega
theorem stay_mir {r t u H : Int} : stay (0 - r) (H - 1 - u) (H - 1 - t) H = stay r t u H := by
  unfold stay
  rw [Bool.eq_iff_iff]
  simp only [Bool.and_eq_true, decide_eq_true_eq]
  omega
theorem keep_mir (k : Kn) {H W t u l r : Int} (h0 : t ≤ u) (h1 : 0 ≤ t) (h2 : u < H) (p : Option Rf) : keep k H W (H - 1 - u) (H - 1 - t) l r (mirK H p) = mirK H (keep k H W t u l r p) := by
  cases p with
  | none => cases k <;> rfl
  | some p =>
    obtain ⟨x, y, f, g⟩ := p
    cases k with
    | ring => rfl
    | plain =>
      have e := stay_mir (r := x) (t := t) (u := u) (H := H)
      generalize hs : stay x t u H = s at e
      cases f <;> cases s <;> cases hg : (g || stay y l r W) <;> simp [mirK, Rf.mir, keep, keepP, hs, hg] at e ⊢ <;> simp [e]
    | stop =>
      have e := stp_mir (r := x) h0 h1 h2
      cases f <;> simp [mirK, Rf.mir, keep, keepS] at e ⊢ <;> simp [e]
theorem tops_mir {H : Int} {ws : List Ce} (h : ws ≠ []) : tops (ws.map (mirC H)) = H - 1 - bots ws := by
  obtain ⟨p, hp, e⟩ := bots_mem h
  refine mn_of ⟨mirC H p, List.mem_map_of_mem hp, by show H - 1 - p.1 = _; rw [e]⟩ fun q hq => ?_
  obtain ⟨q', hq', rfl⟩ := List.mem_map.mp hq
  have := bots_ge hq'
  show _ ≤ H - 1 - q'.1
  omega
theorem bots_mir {H : Int} {ws : List Ce} (h : ws ≠ []) : bots (ws.map (mirC H)) = H - 1 - tops ws := by
  obtain ⟨p, hp, e⟩ := tops_mem h
  refine mx_of ⟨mirC H p, List.mem_map_of_mem hp, by show H - 1 - p.1 = _; rw [e]⟩ fun q hq => ?_
  obtain ⟨q', hq', rfl⟩ := List.mem_map.mp hq
  have := tops_le hq'
  show H - 1 - q'.1 ≤ _
  omega
theorem lefs_mir {H : Int} {ws : List Ce} : lefs (ws.map (mirC H)) = lefs ws := by
  unfold lefs; rw [List.map_map]; rfl
theorem rigs_mir {H : Int} {ws : List Ce} : rigs (ws.map (mirC H)) = rigs ws := by
  unfold rigs; rw [List.map_map]; rfl
theorem walk_mir (k : Kn) {H W : Int} {ws : List Ce} (h : ws ≠ []) (ho : ∀ p ∈ ws, onS H W p) (p : Option Rf) : walkK k H W (ws.map (mirC H)) (mirK H p) = mirK H (walkK k H W ws p) := by
  have s := sides_of h ho
  unfold walkK
  rw [tops_mir h, bots_mir h, lefs_mir, rigs_mir, keep_mir k s.tb s.t0 s.b1]
theorem on_mir {H W : Int} {p : Ce} (h : onS H W p) : onS H W (mirC H p) := by
  obtain ⟨h1, h2, h3, h4⟩ := h
  exact ⟨by show 0 ≤ H - 1 - p.1; omega, by show H - 1 - p.1 < H; omega, h3, h4⟩
theorem fit_mir {k : Kn} {H W : Int} {c : Ce} {p : Option Rf} (h : fit1 k H W c.1 c.2 p) : fit1 k H W (mirC H c).1 (mirC H c).2 (mirK H p) := by
  intro q e
  cases p with
  | none => cases e
  | some p =>
    have h := h p rfl
    obtain ⟨x, y, f, g⟩ := p
    cases e
    cases k with
    | ring =>
      obtain ⟨h1, h2⟩ := h
      refine ⟨fun hf => ?_, h2⟩
      have hf' : f = true := hf
      have := h1 hf'
      show 0 ≤ (if f then H - 1 - x else 0 - x) ∧ (if f then H - 1 - x else 0 - x) < H
      rw [if_pos hf']
      have h3 : 0 ≤ x ∧ x < H := this
      omega
    | plain =>
      obtain ⟨h1, h2⟩ := h
      refine ⟨?_, h2⟩
      cases f <;> simp [tgt, Rf.mir, mirC] at h1 ⊢ <;> omega
    | stop =>
      obtain ⟨h1, h2⟩ := h
      refine ⟨?_, h2⟩
      cases f <;> simp [tgt, Rf.mir, mirC] at h1 ⊢ <;> omega
theorem ok_of_fit {k : Kn} {H W : Int} (h2 : H ≤ 10 ^ 30) (w2 : W ≤ 10 ^ 30) {a b : Int} {p : Option Rf} (h : fit1 k H W a b p) : okp p := by
  intro q e
  have h := h q e
  obtain ⟨x, y, f, g⟩ := q
  refine ⟨fun hf => ?_, fun hg => ?_⟩
  · have hf' : f = true := hf
    subst hf'
    cases k <;> simp [tgt] at h <;> (show 0 ≤ x ∧ x < 10 ^ 30; omega)
  · have hg' : g = true := hg
    subst hg'
    cases k <;> simp [tgt] at h <;> (show 0 ≤ y ∧ y < 10 ^ 30; omega)

/-! ### rows and columns exchanged -/
def turK (p : Option Rf) : Option Rf := p.map fun p => ⟨p.c, p.r, p.g, p.f⟩
def turC (p : Ce) : Ce := (p.2, p.1)
theorem keep_tur (k : Kn) {H W t u l r : Int} (p : Option Rf) : keep k W H l r t u (turK p) = turK (keep k H W t u l r p) := by
  cases p with
  | none => cases k <;> rfl
  | some p =>
    obtain ⟨x, y, f, g⟩ := p
    cases k with
    | ring => rfl
    | stop => rfl
    | plain =>
      show (if (g || stay y l r W) && (f || stay x t u H) then some (Rf.mk y x g f) else none) = turK (if (f || stay x t u H) && (g || stay y l r W) then some ⟨x, y, f, g⟩ else none)
      generalize (f || stay x t u H) = s1
      generalize (g || stay y l r W) = s2
      cases s1 <;> cases s2 <;> rfl
theorem walk_tur (k : Kn) {H W : Int} {ws : List Ce} (p : Option Rf) : walkK k W H (ws.map turC) (turK p) = turK (walkK k H W ws p) := by
  unfold walkK
  rw [← keep_tur]
  unfold tops bots lefs rigs
  rw [List.map_map, List.map_map]
  rfl
theorem on_tur {H W : Int} {p : Ce} (h : onS H W p) : onS W H (turC p) := ⟨h.2.2.1, h.2.2.2, h.1, h.2.1⟩
theorem fit_tur {k : Kn} {H W : Int} {c : Ce} {p : Option Rf} (h : fit1 k H W c.1 c.2 p) : fit1 k W H (turC c).1 (turC c).2 (turK p) := by
  intro q e
  cases p with
  | none => cases e
  | some p =>
    have h := h p rfl
    cases e
    cases k <;> exact ⟨h.2, h.1⟩

/-! ### moved -/
def mvK (d e : Int) (p : Option Rf) : Option Rf := p.map fun p => p.mv d e
def shC (d e : Int) (p : Ce) : Ce := (p.1 + d, p.2 + e)
theorem stp_mv {r t u d L : Int} : stp (r + (0 - d)) (t + d) (u + d) L = stp r t u L + (0 - d) := by
  unfold stp
  (repeat' split) <;> omega
theorem stay_mv {r t u d L : Int} : stay (r + (0 - d)) (t + d) (u + d) L = stay r t u L := by
  unfold stay
  rw [Bool.eq_iff_iff]
  simp only [Bool.and_eq_true, decide_eq_true_eq]
  omega
theorem keep_mv (k : Kn) {H W t u l r d e : Int} (p : Option Rf) : keep k H W (t + d) (u + d) (l + e) (r + e) (mvK (0 - d) (0 - e) p) = mvK (0 - d) (0 - e) (keep k H W t u l r p) := by
  cases p with
  | none => cases k <;> rfl
  | some p =>
    obtain ⟨x, y, f, g⟩ := p
    cases k with
    | ring => rfl
    | plain =>
      have e1 := stay_mv (r := x) (t := t) (u := u) (d := d) (L := H)
      have e2 := stay_mv (r := y) (t := l) (u := r) (d := e) (L := W)
      show (if (f || stay (mv x f (0 - d)) (t + d) (u + d) H) && (g || stay (mv y g (0 - e)) (l + e) (r + e) W) then some (Rf.mk (mv x f (0 - d)) (mv y g (0 - e)) f g) else none) = mvK (0 - d) (0 - e) (if (f || stay x t u H) && (g || stay y l r W) then some ⟨x, y, f, g⟩ else none)
      generalize hs : stay x t u H = s at e1
      generalize hs2 : stay y l r W = s2 at e2
      unfold mv
      cases f <;> cases g <;> cases s <;> cases s2 <;> simp only [if_true, if_false, Bool.false_eq_true, Bool.true_or, Bool.false_or, Bool.and_true, Bool.true_and, Bool.and_false, Bool.false_and, e1, e2] <;> rfl
    | stop =>
      have e1 := stp_mv (r := x) (t := t) (u := u) (d := d) (L := H)
      have e2 := stp_mv (r := y) (t := l) (u := r) (d := e) (L := W)
      show some (Rf.mk (if f then mv x f (0 - d) else stp (mv x f (0 - d)) (t + d) (u + d) H) (if g then mv y g (0 - e) else stp (mv y g (0 - e)) (l + e) (r + e) W) f g) = some (Rf.mk (mv (if f then x else stp x t u H) f (0 - d)) (mv (if g then y else stp y l r W) g (0 - e)) f g)
      unfold mv
      cases f <;> cases g <;> simp only [if_true, if_false, Bool.false_eq_true, e1, e2]
theorem mv_mv {d e : Int} (p : Option Rf) : mvK d e (mvK (0 - d) (0 - e) p) = p := by
  cases p with
  | none => rfl
  | some p =>
    obtain ⟨x, y, f, g⟩ := p
    show some (Rf.mk (mv (mv x f (0 - d)) f d) (mv (mv y g (0 - e)) g e) f g) = _
    unfold mv
    cases f <;> cases g <;> simp
    all_goals (try constructor) <;> omega
theorem mn_sh {f : Ce → Int} {d : Int} {s : Ce → Ce} (h : ∀ p, f (s p) = f p + d) {ws : List Ce} (hw : ws ≠ []) : minL ((ws.map s).map f) = minL (ws.map f) + d := by
  obtain ⟨p, hp, e⟩ := mn_ex (f := f) hw
  refine mn_of ⟨s p, List.mem_map_of_mem hp, by rw [h, e]⟩ fun q hq => ?_
  obtain ⟨q', hq', rfl⟩ := List.mem_map.mp hq
  have := mn_le (f := f) hq'
  rw [h]; omega
theorem mx_sh {f : Ce → Int} {d : Int} {s : Ce → Ce} (h : ∀ p, f (s p) = f p + d) {ws : List Ce} (hw : ws ≠ []) : maxL ((ws.map s).map f) = maxL (ws.map f) + d := by
  obtain ⟨p, hp, e⟩ := mx_ex (f := f) hw
  refine mx_of ⟨s p, List.mem_map_of_mem hp, by rw [h, e]⟩ fun q hq => ?_
  obtain ⟨q', hq', rfl⟩ := List.mem_map.mp hq
  have := mx_ge (f := f) hq'
  rw [h]; omega
theorem walk_mv (k : Kn) {H W d e : Int} {ws : List Ce} (hw : ws ≠ []) (p : Option Rf) : walkK k H W (ws.map (shC d e)) (mvK (0 - d) (0 - e) p) = mvK (0 - d) (0 - e) (walkK k H W ws p) := by
  unfold walkK
  rw [← keep_mv]
  unfold tops bots lefs rigs
  rw [mn_sh (f := fun p => p.1) (s := shC d e) (d := d) (fun _ => rfl) hw, mx_sh (f := fun p => p.1) (s := shC d e) (d := d) (fun _ => rfl) hw, mn_sh (f := fun p => p.2) (s := shC d e) (d := e) (fun _ => rfl) hw, mx_sh (f := fun p => p.2) (s := shC d e) (d := e) (fun _ => rfl) hw]
theorem fit_mv {k : Kn} {H W d e : Int} {c : Ce} {p : Option Rf} (h : fit1 k H W c.1 c.2 p) : fit1 k H W (shC d e c).1 (shC d e c).2 (mvK (0 - d) (0 - e) p) := by
  intro q h'
  cases p with
  | none => cases h'
  | some p =>
    have h := h p rfl
    cases h'
    obtain ⟨x, y, f, g⟩ := p
    have e1 : ∀ (r : Int) (f : Bool) (a d : Int), tgt (mv r f (0 - d)) f (a + d) = tgt r f a := fun r f a d => by
      unfold tgt mv
      cases f <;> simp <;> omega
    cases k with
    | ring =>
      refine ⟨fun hf => ?_, fun hg => ?_⟩
      · have hf' : f = true := hf
        subst hf'
        exact h.1 rfl
      · have hg' : g = true := hg
        subst hg'
        exact h.2 rfl
    | plain =>
      show (0 ≤ tgt (mv x f (0 - d)) f (c.1 + d) ∧ tgt (mv x f (0 - d)) f (c.1 + d) < H) ∧ 0 ≤ tgt (mv y g (0 - e)) g (c.2 + e) ∧ tgt (mv y g (0 - e)) g (c.2 + e) < W
      rw [e1, e1]; exact h
    | stop =>
      show (0 ≤ tgt (mv x f (0 - d)) f (c.1 + d) ∧ tgt (mv x f (0 - d)) f (c.1 + d) < H) ∧ 0 ≤ tgt (mv y g (0 - e)) g (c.2 + e) ∧ tgt (mv y g (0 - e)) g (c.2 + e) < W
      rw [e1, e1]; exact h
/-- a formula fits behind a way -/
theorem walk_fit {k : Kn} {H W : Int} {ws : List Ce} {q c : Ce} (ho : ∀ p ∈ ws, onS H W p) (hq : q ∈ ws) (hc : c ∈ ws) {p : Option Rf} (h : fit1 k H W q.1 q.2 p) : fit1 k H W c.1 c.2 (walkK k H W ws p) := by
  have s := sides_of (by intro e; subst e; cases hq) ho
  exact keep_fit s.t0 s.b1 s.l0 s.r1 (tops_le hc) (bots_ge hc) (lefs_le hc) (rigs_ge hc) h
end PV

namespace PV
open PySem PySem.Spec PyProof.Rows L2

/-! ### frames of ways -/
structure Fm where
  a : Ce
  z : Ce
  t : Int
  b : Int
  l : Int
  r : Int
deriving DecidableEq
def fmfs (F : Fm) : List (Str × D) := [("begin", ceD F.a), ("end", ceD F.z), ("row_range", .tup [.int F.t, .int F.b]), ("column_range", .tup [.int F.l, .int F.r])]
def fmD (c : Nat) (F : Fm) : D := .ins c (fmfs F)
/-- what the constructor asks -/
structure Fm.ok (F : Fm) : Prop where
  t0 : 0 ≤ F.t
  b1 : F.b < 10 ^ 30
  l0 : 0 ≤ F.l
  r1 : F.r < 10 ^ 30
  a1 : F.t ≤ F.a.1 ∧ F.a.1 ≤ F.b
  a2 : F.l ≤ F.a.2 ∧ F.a.2 ≤ F.r
  z1 : F.t ≤ F.z.1 ∧ F.z.1 ≤ F.b
  z2 : F.l ≤ F.z.2 ∧ F.z.2 ≤ F.r
theorem Fm.ok.ca {F : Fm} (h : F.ok) : onP F.a := by
  obtain ⟨q1, q2, q3, q4, q5, q6, q7, q8⟩ := h
  exact ⟨by omega, by omega, by omega, by omega⟩
theorem Fm.ok.cz {F : Fm} (h : F.ok) : onP F.z := by
  obtain ⟨q1, q2, q3, q4, q5, q6, q7, q8⟩ := h
  exact ⟨by omega, by omega, by omega, by omega⟩
def sixD (F : Fm) : D := .tup [ceD F.a, ceD F.z, .int F.t, .int F.b, .int F.l, .int F.r]
def sixP (F : Fm) : PyData := .tuple [cePd F.a, cePd F.z, .int F.t, .int F.b, .int F.l, .int F.r]
section
variable {F : Fm} {cs : List Cell} {c : Nat}
@[simp] theorem ins_fmD : insOf cs (fmD c F) = some (c, fmfs F) := rfl
@[simp] theorem kd_fmD : kdOf cs (fmD c F) = some (.cl c) := rfl
@[simp] theorem non_fmD : isNon (fmD c F) = false := rfl
theorem lkM1 : (fmfs F).lookup ("begin" : Str) = some (ceD F.a) := rfl
theorem lkM2 : (fmfs F).lookup ("end" : Str) = some (ceD F.z) := rfl
theorem lkM3 : (fmfs F).lookup ("row_range" : Str) = some (.tup [.int F.t, .int F.b]) := rfl
theorem lkM4 : (fmfs F).lookup ("column_range" : Str) = some (.tup [.int F.l, .int F.r]) := rfl
theorem putM1 (v : D) : putD ("begin" : Str) v [] = [(("begin" : Str), v)] := rfl
theorem putM2 (a v : D) : putD ("end" : Str) v [(("begin" : Str), a)] = [(("begin" : Str), a), (("end" : Str), v)] := rfl
theorem putM3 (a b v : D) : putD ("row_range" : Str) v [(("begin" : Str), a), (("end" : Str), b)] = [(("begin" : Str), a), (("end" : Str), b), (("row_range" : Str), v)] := rfl
theorem putM4 (a b d v : D) : putD ("column_range" : Str) v [(("begin" : Str), a), (("end" : Str), b), (("row_range" : Str), d)] = [(("begin" : Str), a), (("end" : Str), b), (("row_range" : Str), d), (("column_range" : Str), v)] := rfl
end
@[simp] theorem toP0_six (F : Fm) : toP0 (sixD F) = some (sixP F) := by
  simp [sixD, sixP, cePd]
theorem eqv_six (F G : Fm) : PyData.eqv (sixP F) (sixP G) = decide (F = G) := by
  obtain ⟨⟨a1, a2⟩, ⟨z1, z2⟩, t, b, l, r⟩ := F
  obtain ⟨⟨a1', a2'⟩, ⟨z1', z2'⟩, t', b', l', r'⟩ := G
  rw [Bool.eq_iff_iff]
  simp [sixP, cePd, PyData.eqv, PyData.eqvAll, and_assoc]
theorem shaped_six (F : Fm) : SeqAt.shaped (sixP F) = true := by
  simp [SeqAt.shaped, sixP, cePd, PyData.canLay0, PyData.canLayAll0, PyData.depth, PyData.depthAll]
theorem dEq_six (n : Bool) (F G : Fm) (cs : List Cell) : dEq n (sixD F) (sixD G) cs = some (.bl (if n then !decide (F = G) else decide (F = G)), cs) := by
  have h : ∀ F : Fm, toP cs (sixD F) = some (sixP F) := fun F => toP0_six F
  unfold dEq
  rw [h, h]
  simp only [shaped_six, eqv_six, and_self, if_true]
/-- the four-tuples that Frame.__eq__ compares -/
theorem dEq_four (F G : Fm) (cs : List Cell) : dEq false (.tup [ceD F.a, ceD F.z, .tup [.int F.t, .int F.b], .tup [.int F.l, .int F.r]]) (.tup [ceD G.a, ceD G.z, .tup [.int G.t, .int G.b], .tup [.int G.l, .int G.r]]) cs = some (.bl (decide (F = G)), cs) := by
  have h : ∀ F : Fm, toP cs (.tup [ceD F.a, ceD F.z, .tup [.int F.t, .int F.b], .tup [.int F.l, .int F.r]]) = some (.tuple [cePd F.a, cePd F.z, .tuple [.int F.t, .int F.b], .tuple [.int F.l, .int F.r]]) := fun F => by
    show toP0 _ = _
    simp [cePd]
  have s : ∀ F : Fm, SeqAt.shaped (.tuple [cePd F.a, cePd F.z, .tuple [.int F.t, .int F.b], .tuple [.int F.l, .int F.r]]) = true := fun F => by
    simp [SeqAt.shaped, cePd, PyData.canLay0, PyData.canLayAll0, PyData.depth, PyData.depthAll]
  have e : PyData.eqv (.tuple [cePd F.a, cePd F.z, .tuple [.int F.t, .int F.b], .tuple [.int F.l, .int F.r]]) (.tuple [cePd G.a, cePd G.z, .tuple [.int G.t, .int G.b], .tuple [.int G.l, .int G.r]]) = decide (F = G) := by
    obtain ⟨⟨a1, a2⟩, ⟨z1, z2⟩, t, b, l, r⟩ := F
    obtain ⟨⟨a1', a2'⟩, ⟨z1', z2'⟩, t', b', l', r'⟩ := G
    rw [Bool.eq_iff_iff]
    simp [cePd, PyData.eqv, PyData.eqvAll, and_assoc]
  unfold dEq
  rw [h, h]
  simp only [s, e, and_self, if_true]
  rfl
/-- the frame of a way -/
def fmOf (ws : List Ce) : Fm := ⟨ws.headD (0, 0), ws.getLastD (0, 0), tops ws, bots ws, lefs ws, rigs ws⟩
theorem head_mem {ws : List Ce} (h : ws ≠ []) : ws.headD (0, 0) ∈ ws := by
  cases ws with
  | nil => exact absurd rfl h
  | cons w ws => simp
theorem last_mem {ws : List Ce} (h : ws ≠ []) : ws.getLastD (0, 0) ∈ ws := by
  rw [List.getLastD_eq_getLast?, List.getLast?_eq_some_getLast h]
  exact List.getLast_mem h
theorem fmOf_ok {ws : List Ce} (h : ws ≠ []) (ho : ∀ p ∈ ws, onP p) : (fmOf ws).ok := by
  obtain ⟨p1, m1, e1⟩ := tops_mem h
  obtain ⟨p2, m2, e2⟩ := bots_mem h
  obtain ⟨p3, m3, e3⟩ := lefs_mem h
  obtain ⟨p4, m4, e4⟩ := rigs_mem h
  have o1 := ho p1 m1; have o2 := ho p2 m2; have o3 := ho p3 m3; have o4 := ho p4 m4
  have a := head_mem h
  have z := last_mem h
  refine ⟨?_, ?_, ?_, ?_, ⟨tops_le a, bots_ge a⟩, ⟨lefs_le a, rigs_ge a⟩, ⟨tops_le z, bots_ge z⟩, ⟨lefs_le z, rigs_ge z⟩⟩
  · show 0 ≤ tops ws; rw [← e1]; exact o1.1
  · show bots ws < _; rw [← e2]; exact o2.2.1
  · show 0 ≤ lefs ws; rw [← e3]; exact o3.2.2.1
  · show rigs ws < _; rw [← e4]; exact o4.2.2.2
def Fm.add (F G : Fm) : Fm := ⟨F.a, G.z, if G.t < F.t then G.t else F.t, if F.b < G.b then G.b else F.b, if G.l < F.l then G.l else F.l, if F.r < G.r then G.r else F.r⟩
theorem Fm.add_ok {F G : Fm} (h : F.ok) (g : G.ok) : (F.add G).ok := by
  obtain ⟨q1, q2, q3, q4, q5, q6, q7, q8⟩ := h
  obtain ⟨p1, p2, p3, p4, p5, p6, p7, p8⟩ := g
  unfold Fm.add
  constructor <;> simp only <;> (repeat' split) <;> omega
/-- a way cut in two: the frames' sum -/
theorem fm_cut {ws A B : List Ce} (hA : A ≠ []) (hB : B ≠ []) (ha : A.headD (0, 0) = ws.headD (0, 0)) (hz : B.getLastD (0, 0) = ws.getLastD (0, 0)) (h : ∀ p, p ∈ ws ↔ p ∈ A ∨ p ∈ B) : (fmOf A).add (fmOf B) = fmOf ws := by
  have z1 := mn_cut (f := fun p : Ce => p.1) hA hB h
  have z2 := mx_cut (f := fun p : Ce => p.1) hA hB h
  have z3 := mn_cut (f := fun p : Ce => p.2) hA hB h
  have z4 := mx_cut (f := fun p : Ce => p.2) hA hB h
  unfold Fm.add fmOf
  have e1 : (if tops B < tops A then tops B else tops A) = tops ws := by
    unfold tops; rw [← z1]; (repeat' split) <;> omega
  have e2 : (if bots A < bots B then bots B else bots A) = bots ws := by
    unfold bots; rw [← z2]; (repeat' split) <;> omega
  have e3 : (if lefs B < lefs A then lefs B else lefs A) = lefs ws := by
    unfold lefs; rw [← z3]; (repeat' split) <;> omega
  have e4 : (if rigs A < rigs B then rigs B else rigs A) = rigs ws := by
    unfold rigs; rw [← z4]; (repeat' split) <;> omega
  simp only [ha, hz, e1, e2, e3, e4]
/-- ways with the same ends and the same cells -/
theorem fm_ext {A B : List Ce} (hA : A ≠ []) (ha : A.headD (0, 0) = B.headD (0, 0)) (hz : A.getLastD (0, 0) = B.getLastD (0, 0)) (h : ∀ p, p ∈ A ↔ p ∈ B) : fmOf A = fmOf B := by
  have m : ∀ f : Ce → Int, minL (A.map f) = minL (B.map f) := fun f => by
    obtain ⟨p, hp, e⟩ := mn_ex (f := f) hA
    exact (mn_of ⟨p, (h p).mp hp, e⟩ fun q hq => mn_le ((h q).mpr hq)).symm
  have x : ∀ f : Ce → Int, maxL (A.map f) = maxL (B.map f) := fun f => by
    obtain ⟨p, hp, e⟩ := mx_ex (f := f) hA
    exact (mx_of ⟨p, (h p).mp hp, e⟩ fun q hq => mx_ge ((h q).mpr hq)).symm
  unfold fmOf tops bots lefs rigs
  rw [ha, hz, m, m, x, x]
theorem pk_six {F : Fm} (h : F.ok) : PK (sixP F) 20000 2 := by
  obtain ⟨q1, q2, q3, q4, q5, q6, q7, q8⟩ := id h
  have e : (10 : Int) ^ 30 < 10 ^ 60 := by decide
  have s : ∀ {i : Int}, 0 ≤ i → i < 10 ^ 30 → PK (.int i) 1921 0 := fun {i} h0 h1 => pk_int (sm_big (show big i from ⟨by omega, by omega⟩))
  exact (pk_tuple (pks_cons (pk_ce (Int.le_refl _) (Int.le_refl _) h.ca) (pks_cons (pk_ce (Int.le_refl _) (Int.le_refl _) h.cz) (pks_cons (s (by omega) (by omega)) (pks_cons (s (by omega) (by omega)) (pks_cons (s (by omega) (by omega)) (pks_cons (s (by omega) (by omega)) pks_nil))))))).mono
end PV

namespace PV
open PySem PySem.Spec PyProof.Rows L2
/-! zip -/
def zpO (ds : List D) (c : List Cell) : Out (List D) := match ds with
  | [.lst xs, .lst ys] => .ok (zpD xs ys) c
  | [.tup xs, .tup ys] => .ok (zpD xs ys) c
  | _ => .no
@[simp] theorem zpO_l {xs ys : List D} {c : List Cell} : zpO [.lst xs, .lst ys] c = .ok (zpD xs ys) c := rfl
@[simp] theorem zpO_t {xs ys : List D} {c : List Cell} : zpO [.tup xs, .tup ys] c = .ok (zpD xs ys) c := rfl
@[simp ↓] theorem iZp_e {f : Fa} {σ : Sd} {cs : List Cell} : iZp f σ cs = (f σ cs).bnd fun ds c => zpO ds c := rfl
@[simp] theorem zpD_cc {x y : D} {xs ys : List D} : zpD (x :: xs) (y :: ys) = .tup [x, y] :: zpD xs ys := rfl
@[simp] theorem zpD_nl {ys : List D} : zpD [] ys = [] := rfl
@[simp] theorem zpD_nr {x : D} {xs : List D} : zpD (x :: xs) [] = [] := rfl
/-! try with a suite -/
def trE (i : Nat) : Sr → Sr
  | .nx τ c => .nx (τ.set i none) c
  | .bk τ c => .bk (τ.set i none) c
  | .ct τ c => .ct (τ.set i none) c
  | .rt d c => .rt d c
  | _ => .no
def trS (sub : Nat → Option Bool) (i : Nat) (fh : Fs) (r : Sr) (t : Tg fh := .mk) : Sr := match r with
  | .ex x σ' cs' => match sub x.1 with
    | some true => if x.2 = [] then trE i (fh (σ'.set i (some (.exn x.1))) cs') else .no
    | some false => .ex x σ' cs'
    | none => .no
  | r => r
@[simp ↓] theorem sTryS_e {sub : Nat → Option Bool} {i : Nat} {fb fh : Fs} {σ : Sd} {cs : List Cell} : sTryS sub i fb fh σ cs = trS sub i fh (fb σ cs) := by
  unfold sTryS trS
  cases fb σ cs <;> rfl
@[simp] theorem trS_nx {sub : Nat → Option Bool} {i : Nat} {fh : Fs} {σ : Sd} {cs : List Cell} {t : Tg fh} : trS sub i fh (.nx σ cs) t = .nx σ cs := rfl
@[simp] theorem trS_rt {sub : Nat → Option Bool} {i : Nat} {fh : Fs} {d : D} {cs : List Cell} {t : Tg fh} : trS sub i fh (.rt d cs) t = .rt d cs := rfl
theorem trS_ex {sub : Nat → Option Bool} {i c : Nat} {fh : Fs} {σ : Sd} {cs : List Cell} {t : Tg fh} (h : sub c = some true) : trS sub i fh (.ex (c, []) σ cs) t = trE i (fh (σ.set i (some (.exn c))) cs) := by
  unfold trS
  simp [h]
@[simp] theorem trE_nx {i : Nat} {σ : Sd} {cs : List Cell} : trE i (.nx σ cs) = .nx (σ.set i none) cs := rfl
@[simp] theorem trE_rt {i : Nat} {d : D} {cs : List Cell} : trE i (.rt d cs) = .rt d cs := rfl
def trP (sub : Nat → Option Bool) (fh : Fs) (r : Sr) (t : Tg fh := .mk) : Sr := match r with
  | .ex x σ' cs' => match sub x.1 with
    | some true => if x.2 = [] then (match fh σ' cs' with
      | .ex _ _ _ => .no
      | r => r) else .no
    | some false => .ex x σ' cs'
    | none => .no
  | r => r
@[simp ↓] theorem sTryO_e {sub : Nat → Option Bool} {fb fh : Fs} {σ : Sd} {cs : List Cell} : sTryO sub fb fh σ cs = trP sub fh (fb σ cs) := by
  unfold sTryO trP
  cases fb σ cs <;> rfl
@[simp] theorem trP_nx {sub : Nat → Option Bool} {fh : Fs} {σ : Sd} {cs : List Cell} {t : Tg fh} : trP sub fh (.nx σ cs) t = .nx σ cs := rfl
@[simp] theorem trP_rt {sub : Nat → Option Bool} {fh : Fs} {d : D} {cs : List Cell} {t : Tg fh} : trP sub fh (.rt d cs) t = .rt d cs := rfl
theorem trP_ex {sub : Nat → Option Bool} {c : Nat} {fh : Fs} {σ : Sd} {cs c2 : List Cell} {d : D} {t : Tg fh} (h : sub c = some true) (h2 : fh σ cs = .rt d c2) : trP sub fh (.ex (c, []) σ cs) t = .rt d c2 := by
  unfold trP
  simp [h, h2]
@[simp] theorem noXF_e {F : List D → List Cell → Out D} {ds : List D} {cs : List Cell} : noXF F ds cs = noX (F ds cs) := rfl
@[simp] theorem isNon_xn {c : Nat} : isNon (.exn c) = false := rfl
/-! places -/
@[simp] theorem at5 {x0 x1 x2 x3 x4 x5 : D} : atI [x0, x1, x2, x3, x4, x5] 5 = some x5 := rfl
@[simp] theorem raise_e {c : Nat} {σ : Sd} {cs : List Cell} : sRaise c σ cs = .ex (c, []) σ cs := rfl
/-! picks as functions -/
noncomputable section
def qv (S : Hs) (J : Feed) (m : Int) : Int := if h : 0 < m ∧ m < 2 ^ 120 then (pick_ex S J h.1 h.2).choose else 0
def qj (S : Hs) (J : Feed) (m : Int) : Feed := if h : 0 < m ∧ m < 2 ^ 120 then (pick_ex S J h.1 h.2).choose_spec.choose else J
end
theorem qv_spec {S : Hs} {J : Feed} {m : Int} (h0 : 0 < m) (h1 : m < 2 ^ 120) : (∀ t, pickF [.ref S.i, .int m] (hp S (fc J) t) = .ok (.int (qv S J m)) (hp S (fc (qj S J m)) t)) ∧ 0 ≤ qv S J m ∧ qv S J m < m := by
  have q := (pick_ex S J h0 h1).choose_spec.choose_spec
  unfold qv qj
  rw [dif_pos ⟨h0, h1⟩, dif_pos ⟨h0, h1⟩]
  exact q
theorem qpick_e {S : Hs} {J : Feed} {m : Int} {t : List Cell} (h0 : 0 < m) (h1 : m < 2 ^ 120) : pickF [.ref S.i, .int m] (hp S (fc J) t) = .ok (.int (qv S J m)) (hp S (fc (qj S J m)) t) := (qv_spec h0 h1).1 t
theorem qv_nn {S : Hs} {J : Feed} {m : Int} (h0 : 0 < m) (h1 : m < 2 ^ 120) : 0 ≤ qv S J m := (qv_spec h0 h1).2.1
theorem qv_lt {S : Hs} {J : Feed} {m : Int} (h0 : 0 < m) (h1 : m < 2 ^ 120) : qv S J m < m := (qv_spec h0 h1).2.2
def rgO2 (ds : List D) (c : List Cell) : Out (List D) := match ds with
  | [.int i, .int j] => if (-(2 ^ 62) ≤ i ∧ i < 2 ^ 62) ∧ (-(2 ^ 62) ≤ j ∧ j < 2 ^ 62) then .ok (rngD i (j - i).toNat) c else .no
  | _ => .no
/-! what a call leaves behind the cells -/
def jk (F : List D → List Cell → Out D) (ds : List D) (cs : List Cell) : List Cell := match F ds cs with
  | .ok _ c => c.drop cs.length
  | _ => []
theorem jk_e {F : List D → List Cell → Out D} {ds : List D} {cs : List Cell} {d : D} (h : ∃ t, F ds cs = .ok d (cs ++ t)) : F ds cs = .ok d (cs ++ jk F ds cs) := by
  obtain ⟨t, e⟩ := h
  unfold jk
  rw [e]
  simp
/-! evaluation by rules -/
section
variable {g : G2} {fa fb fe : Fe} {σ : Sd} {c c1 c2 c3 : List Cell} {x y z : D}
theorem op2_ok (h1 : fa σ c = .ok x c1) (h2 : fb σ c1 = .ok y c2) (h3 : g x y c2 = some (z, c3)) : fOp2 g fa fb σ c = .ok z c3 := by
  rw [fOp2_e, h1, Out.bnd_ok, h2, Out.bnd_ok, h3, up_some]
theorem lst1_ok (h : fe σ c = .ok x c1) : fLst true (aCons fe aNil) σ c = .ok (.lst [x]) c1 := by
  have s1 : 1 ≤ sizeLine := by decide
  rw [fLst_e, aCons_e, h, Out.bnd_ok, aNil_e, Out.bnd_ok, Out.bnd_ok]
  rw [if_pos (show [x].length ≤ sizeLine from s1), mkL_t, up_some]
theorem cb1_ok {gc : GC} (h : fe σ c = .ok x c1) (h2 : gc [x] c1 = some (y, c2)) : fCB gc (aCons fe aNil) σ c = .ok y c2 := by
  rw [fCB_e, aCons_e, h, Out.bnd_ok, aNil_e, Out.bnd_ok, Out.bnd_ok, h2, up_some]
theorem tst_ok {b : Bool} (h : fe σ c = .ok (.bl b) c1) : fTst fe σ c = .ok b c1 := by
  rw [fTst_e, h, Out.bnd_ok, boolO_b]
theorem dMul_li {xs : List D} {k : Int} {c : List Cell} (h : -(2 ^ 63) ≤ k ∧ k < 2 ^ 63 ∧ xs.length * k.toNat ≤ sizeLine) : dMul true (.lst xs) (.int k) c = some (.lst (rep k.toNat xs), c) := by
  have e : dMul true (.lst xs) (.int k) c = if -(2 ^ 63) ≤ k ∧ k < 2 ^ 63 ∧ xs.length * k.toNat ≤ sizeLine then mkL true (rep k.toNat xs) c else none := rfl
  rw [e, if_pos h]
  rfl
theorem rep_ce (m : Nat) (x : D) : rep m [x] = List.replicate m x := by
  unfold rep
  rw [List.flatten_replicate_singleton]
end
end PV

namespace PV
open PySem PySem.Spec PyProof.Rows L2
noncomputable section
def rectB_L0 : Fs := (sSeq (sPar 9 10 (aCons (fOp2 dIx (fLst true (aCons (fVar 3) (aCons (fVar 4) aNil))) (fOp2 dMod (fVar 8) (fC (.int 2)))) (aCons (fOp2 dIx (fLst true (aCons (fVar 5) (aCons (fVar 6) aNil))) (fOp2 dMod (fVar 8) (fC (.int 2)))) aNil))) (sEx (fLm mAppend (fVar 7) (aCons (fOp2 (dAdd true) (fVar 10) (fOp2 dIx (fLst true (aCons (fC (.int 0)) (aCons (fOp2 dSub (fVar 9) (fC (.int 1))) (aCons (fCall (fnK 2 0 2 pickF (fun ds _ => ds)) (aCons (fVar 0) (aCons (fVar 9) aNil)) aNil) aNil)))) (fCall (fnK 2 0 2 pickF (fun ds _ => ds)) (aCons (fVar 0) (aCons (fC (.int 3)) aNil)) aNil))) aNil))))
def rectB_0 : Fs := (sPar 3 4 (aCons (fOp2 (dAdd true) (fC (.int 1)) (fCall (fnK 2 0 2 pickF (fun ds _ => ds)) (aCons (fVar 0) (aCons (fVar 1) aNil)) aNil)) (aCons (fOp2 (dAdd true) (fC (.int 1)) (fCall (fnK 2 0 2 pickF (fun ds _ => ds)) (aCons (fVar 0) (aCons (fVar 1) aNil)) aNil)) aNil)))
def rectB_1 : Fs := (sPar 5 6 (aCons (fCall (fnK 2 0 2 pickF (fun ds _ => ds)) (aCons (fVar 0) (aCons (fC (.int 5)) aNil)) aNil) (aCons (fCall (fnK 2 0 2 pickF (fun ds _ => ds)) (aCons (fVar 0) (aCons (fC (.int 5)) aNil)) aNil) aNil)))
def rectB_2 : Fs := (sIf (fTru (fVar 2)) (sSeq (sAsg (fOp2 dIx (fLst true (aCons (fVar 3) (aCons (fOp2 (dAdd true) (fC (.int 1)) (fCall (fnK 2 0 2 pickF (fun ds _ => ds)) (aCons (fVar 0) (aCons (fOp2 dPow (fC (.int 10)) (fC (.int 29))) aNil)) aNil)) aNil))) (fCall (fnK 2 0 2 pickF (fun ds _ => ds)) (aCons (fVar 0) (aCons (fC (.int 2)) aNil)) aNil)) (gN 3)) (sSeq (sAsg (fOp2 dIx (fLst true (aCons (fVar 4) (aCons (fOp2 (dAdd true) (fC (.int 1)) (fCall (fnK 2 0 2 pickF (fun ds _ => ds)) (aCons (fVar 0) (aCons (fOp2 dPow (fC (.int 10)) (fC (.int 29))) aNil)) aNil)) aNil))) (fCall (fnK 2 0 2 pickF (fun ds _ => ds)) (aCons (fVar 0) (aCons (fC (.int 2)) aNil)) aNil)) (gN 4)) (sPar 5 6 (aCons (fCall (fnK 2 0 2 pickF (fun ds _ => ds)) (aCons (fVar 0) (aCons (fOp2 (dAdd true) (fOp2 dSub (fOp2 dPow (fC (.int 10)) (fC (.int 30))) (fVar 3)) (fC (.int 1))) aNil)) aNil) (aCons (fOp2 dIx (fLst true (aCons (fC (.int 0)) (aCons (fOp2 dSub (fOp2 dPow (fC (.int 10)) (fC (.int 30))) (fVar 4)) aNil))) (fCall (fnK 2 0 2 pickF (fun ds _ => ds)) (aCons (fVar 0) (aCons (fC (.int 2)) aNil)) aNil)) aNil))))) sNx)
def rectB_4 : Fs := (sFor (iRg1 (aCons (fC (.int 4)) aNil)) (gN 8) rectB_L0)
def rectB_5 : Fs := (sIf (fTst (fOp2 (dEq false) (fCall (fnK 2 0 2 pickF (fun ds _ => ds)) (aCons (fVar 0) (aCons (fC (.int 5)) aNil)) aNil) (fC (.int 0)))) (sAsg (fOp2 (dMul false) (fSl true (fVar 7) oNone (oSome (fC (.int 2)))) (fC (.int 2))) (gN 7)) sNx)
def rectB_6 : Fs := (sRet (fTup (aCons (fTup (aCons (fOp2 dIx (fVar 7) (fC (.int 0))) (aCons (fOp2 dIx (fVar 7) (fC (.int 1))) aNil))) (aCons (fTup (aCons (fOp2 dIx (fVar 7) (fC (.int 2))) (aCons (fOp2 dIx (fVar 7) (fC (.int 3))) aNil))) (aCons (fVar 5) (aCons (fOp2 dSub (fOp2 (dAdd true) (fVar 5) (fVar 3)) (fC (.int 1))) (aCons (fVar 6) (aCons (fOp2 dSub (fOp2 (dAdd true) (fVar 6) (fVar 4)) (fC (.int 1))) aNil))))))))
def rectB_t7 : Fs := rectB_6
def rectB_t6 : Fs := (sSeq rectB_5 rectB_t7)
def rectB_t5 : Fs := (sSeq (sFrz 7) rectB_t6)
def rectB_t4 : Fs := (sSeq rectB_4 rectB_t5)
def rectB_t3 : Fs := (sSeq (sAsg (fLst false aNil) (gN 7)) rectB_t4)
def rectB_t2 : Fs := (sSeq rectB_2 rectB_t3)
def rectB_t1 : Fs := (sSeq rectB_1 rectB_t2)
def rectB : Fs := (sSeq rectB_0 rectB_t1)
def rectF : List D → List Cell → Out D := runDef 3 11 rectB
end
/-! the rectangle with two cells that is drawn -/
section
variable (S : Hs)
/-- one of two -/
theorem pick2_at (J : Feed) {a b : Int} : ∃ (v : Int) (J' : Feed), (∀ t, pickF [.ref S.i, .int 2] (hp S (fc J) t) = .ok (.int v) (hp S (fc J') t)) ∧ (atI [D.int a, .int b] v = some (.int a) ∨ atI [D.int a, .int b] v = some (.int b)) := by
  obtain ⟨v, J', e, v0, v1⟩ := pick_ex S J (m := 2) (by decide) (by decide)
  refine ⟨v, J', e, ?_⟩
  by_cases h : v = 0
  · rw [h]; exact .inl rfl
  · have : v = 1 := by omega
    rw [this]; exact .inr rfl
theorem rect0 (J : Feed) (t : List Cell) {m : Int} (m0 : 1 ≤ m) (m1 : m ≤ 1000) (x2 x3 x4 : Option D) (r : Sd) : ∃ (h w : Int) (J' : Feed), 1 ≤ h ∧ h ≤ m ∧ 1 ≤ w ∧ w ≤ m ∧
    rectB_0 (some (.ref S.i) :: some (.int m) :: x2 :: x3 :: x4 :: r) (hp S (fc J) t) = .nx (some (.ref S.i) :: some (.int m) :: x2 :: some (.int h) :: some (.int w) :: r) (hp S (fc J') t) := by
  have p : (1000 : Int) < 2 ^ 120 := by decide
  obtain ⟨v, J1, e, v0, v1⟩ := pick_ex S J (m := m) (by omega) (by omega)
  obtain ⟨u, J2, e2, u0, u1⟩ := pick_ex S J1 (m := m) (by omega) (by omega)
  refine ⟨1 + v, 1 + u, J2, by omega, by omega, by omega, by omega, ?_⟩
  unfold rectB_0
  generalize pickF = pf at *
  simp [e, e2]
theorem rect1 (J : Feed) (t : List Cell) (x1 x2 x3 x4 x5 x6 : Option D) (r : Sd) : ∃ (a b : Int) (J' : Feed), 0 ≤ a ∧ a ≤ 4 ∧ 0 ≤ b ∧ b ≤ 4 ∧
    rectB_1 (some (.ref S.i) :: x1 :: x2 :: x3 :: x4 :: x5 :: x6 :: r) (hp S (fc J) t) = .nx (some (.ref S.i) :: x1 :: x2 :: x3 :: x4 :: some (.int a) :: some (.int b) :: r) (hp S (fc J') t) := by
  obtain ⟨v, J1, e, v0, v1⟩ := pick_ex S J (m := 5) (by decide) (by decide)
  obtain ⟨u, J2, e2, u0, u1⟩ := pick_ex S J1 (m := 5) (by decide) (by decide)
  refine ⟨v, u, J2, by omega, by omega, by omega, by omega, ?_⟩
  unfold rectB_1
  generalize pickF = pf at *
  simp [e, e2]
theorem rect2 (J : Feed) (t : List Cell) (g : Bool) {h w a b : Int} (h0 : 1 ≤ h) (h1 : h ≤ 1000) (w0 : 1 ≤ w) (w1 : w ≤ 1000) (a0 : 0 ≤ a) (a1 : a ≤ 4) (b0 : 0 ≤ b) (b1 : b ≤ 4) (x1 : Option D) (r : Sd) : ∃ (h' w' a' b' : Int) (J' : Feed),
    1 ≤ h' ∧ 1 ≤ w' ∧ 0 ≤ a' ∧ 0 ≤ b' ∧ a' + h' ≤ 10 ^ 30 ∧ b' + w' ≤ 10 ^ 30 ∧ h' ≤ 10 ^ 29 ∧ w' ≤ 10 ^ 29 ∧ (g = false → h' = h ∧ w' = w ∧ a' = a ∧ b' = b) ∧
    rectB_2 (some (.ref S.i) :: x1 :: some (.bl g) :: some (.int h) :: some (.int w) :: some (.int a) :: some (.int b) :: r) (hp S (fc J) t) =
      .nx (some (.ref S.i) :: x1 :: some (.bl g) :: some (.int h') :: some (.int w') :: some (.int a') :: some (.int b') :: r) (hp S (fc J') t) := by
  cases g with
  | false => exact ⟨h, w, a, b, J, h0, w0, a0, b0, by omega, by omega, by omega, by omega, fun _ => ⟨rfl, rfl, rfl, rfl⟩, by simp [rectB_2]⟩
  | true =>
    have s2 : 2 ≤ sizeLine := by decide
    have pw : ∀ c, dPow (.int 10) (.int 29) c = some (.int (10 ^ 29), c) := fun c => rfl
    have pw2 : ∀ c, dPow (.int 10) (.int 30) c = some (.int (10 ^ 30), c) := fun c => rfl
    have lt : (10 : Int) ^ 30 < 2 ^ 120 := by decide
    obtain ⟨v, J1, e1, v0, v1⟩ := pick_ex S J (m := 10 ^ 29) (by decide) (by decide)
    obtain ⟨k, J2, e2, k2⟩ := pick2_at S J1 (a := h) (b := 1 + v)
    obtain ⟨h', hh, q1⟩ : ∃ h' : Int, (1 ≤ h' ∧ h' ≤ 10 ^ 29) ∧ atI [D.int h, .int (1 + v)] k = some (.int h') := by
      rcases k2 with k2 | k2
      · exact ⟨h, ⟨h0, by omega⟩, k2⟩
      · exact ⟨1 + v, ⟨by omega, by omega⟩, k2⟩
    obtain ⟨u, J3, e3, u0, u1⟩ := pick_ex S J2 (m := 10 ^ 29) (by decide) (by decide)
    obtain ⟨l, J4, e4, l2⟩ := pick2_at S J3 (a := w) (b := 1 + u)
    obtain ⟨w', ww, q2⟩ : ∃ w' : Int, (1 ≤ w' ∧ w' ≤ 10 ^ 29) ∧ atI [D.int w, .int (1 + u)] l = some (.int w') := by
      rcases l2 with l2 | l2
      · exact ⟨w, ⟨w0, by omega⟩, l2⟩
      · exact ⟨1 + u, ⟨by omega, by omega⟩, l2⟩
    obtain ⟨a', J5, e5, a0', a1'⟩ := pick_ex S J4 (m := 10 ^ 30 - h' + 1) (by omega) (by omega)
    obtain ⟨n, J6, e6, n2⟩ := pick2_at S J5 (a := 0) (b := 10 ^ 30 - w')
    obtain ⟨b', bb, q3⟩ : ∃ b' : Int, (0 ≤ b' ∧ b' + w' ≤ 10 ^ 30) ∧ atI [D.int 0, .int (10 ^ 30 - w')] n = some (.int b') := by
      rcases n2 with n2 | n2
      · exact ⟨0, ⟨by decide, by omega⟩, n2⟩
      · exact ⟨10 ^ 30 - w', ⟨by omega, by omega⟩, n2⟩
    refine ⟨h', w', a', b', J6, hh.1, ww.1, a0', bb.1, by omega, bb.2, hh.2, ww.2, (fun z => nomatch z), ?_⟩
    unfold rectB_2
    generalize pickF = pf at *
    generalize dPow = dp at *
    generalize (10 : Int) ^ 30 = X at *
    generalize (10 : Int) ^ 29 = Y at *
    simp [pw, pw2, e1, e2, q1, e3, e4, q2, e5, e6, q3, s2]
theorem rect_turn (J : Feed) (t u : List Cell) {h w a b : Int} (h0 : 1 ≤ h) (w0 : 1 ≤ w) (h1 : h ≤ 10 ^ 29) (w1 : w ≤ 10 ^ 29) (k : Nat) (hk : k < 4) (xs : List D) (hx : xs.length ≤ 10) (x1 x2 x9 x10 : Option D) : ∃ (v : Int) (J' : Feed) (y9 y10 : Option D), 0 ≤ v ∧ v < (if k % 2 = 0 then h else w) ∧
    rectB_L0 [some (.ref S.i), x1, x2, some (.int h), some (.int w), some (.int a), some (.int b), some (.ref (S.cs.length + t.length)), some (.int k), x9, x10] (hp S (fc J) (t ++ .lst xs :: u)) =
      .nx [some (.ref S.i), x1, x2, some (.int h), some (.int w), some (.int a), some (.int b), some (.ref (S.cs.length + t.length)), some (.int k), y9, y10] (hp S (fc J') (t ++ .lst (xs ++ [.int ((if k % 2 = 0 then a else b) + v)]) :: u)) := by
  have lt : (10 : Int) ^ 29 < 2 ^ 120 := by decide
  have s2 : 2 ≤ sizeLine := by decide
  have s3 : 3 ≤ sizeLine := by decide
  have sx : xs.length < sizeLine := Nat.lt_of_le_of_lt hx (by decide)
  obtain ⟨sz, hsz⟩ : ∃ z : Int, z = if k % 2 = 0 then h else w := ⟨_, rfl⟩
  obtain ⟨lo, hlo⟩ : ∃ z : Int, z = if k % 2 = 0 then a else b := ⟨_, rfl⟩
  have km : (((k : Int) % 2) = 0 ∧ k % 2 = 0) ∨ (((k : Int) % 2) = 1 ∧ ¬ k % 2 = 0) := by omega
  have q1 : atI [D.int h, .int w] ((k : Int) % 2) = some (.int sz) := by
    rcases km with ⟨e, e'⟩ | ⟨e, e'⟩
    · rw [e, hsz, if_pos e']; rfl
    · rw [e, hsz, if_neg e']; rfl
  have q2 : atI [D.int a, .int b] ((k : Int) % 2) = some (.int lo) := by
    rcases km with ⟨e, e'⟩ | ⟨e, e'⟩
    · rw [e, hlo, if_pos e']; rfl
    · rw [e, hlo, if_neg e']; rfl
  have z0 : 1 ≤ sz := by rw [hsz]; split <;> omega
  have z1 : sz ≤ 10 ^ 29 := by rw [hsz]; split <;> omega
  rw [← hsz, ← hlo]
  obtain ⟨v, J1, e1, v0, v1⟩ := pick_ex S J (m := sz) (by omega) (by omega)
  obtain ⟨n, J2, e2, n0, n1⟩ := pick_ex S J1 (m := 3) (by decide) (by decide)
  obtain ⟨u', hu, q3⟩ : ∃ u' : Int, (0 ≤ u' ∧ u' < sz) ∧ atI [D.int 0, .int (sz - 1), .int v] n = some (.int u') := by
    have : n = 0 ∨ n = 1 ∨ n = 2 := by omega
    rcases this with rfl | rfl | rfl
    · exact ⟨0, ⟨by decide, by omega⟩, rfl⟩
    · exact ⟨sz - 1, ⟨by omega, by omega⟩, rfl⟩
    · exact ⟨v, ⟨v0, v1⟩, rfl⟩
  refine ⟨u', J2, some (.int sz), some (.int lo), hu.1, hu.2, ?_⟩
  unfold rectB_L0
  generalize pickF = pf at *
  simp [q1, q2, e1, e2, q3, s2, s3, sx]
theorem rect_ex (J : Feed) (t : List Cell) {m : Int} (m0 : 1 ≤ m) (m1 : m ≤ 1000) (g : Bool) : ∃ (F : Fm) (J' : Feed) (t' : List Cell), F.ok ∧ (g = false → F.t ≤ 4 ∧ F.l ≤ 4 ∧ F.b < F.t + m ∧ F.r < F.l + m) ∧ rectF [.ref S.i, .int m, .bl g] (hp S (fc J) t) = .ok (sixD F) (hp S (fc J') t') := by
  obtain ⟨h, w, J0, h0, h1, w0, w1, e0⟩ := rect0 S J t m0 m1 (some (.bl g)) none none [none, none, none, none, none, none]
  obtain ⟨a, b, J1, a0, a1, b0, b1, e1⟩ := rect1 S J0 t (some (.int m)) (some (.bl g)) (some (.int h)) (some (.int w)) none none [none, none, none, none]
  obtain ⟨h', w', a', b', J2, h0', w0', a0', b0', ah, bw, h29, w29, hg, e2⟩ := rect2 S J1 t g h0 (by omega) w0 (by omega) a0 a1 b0 b1 (some (.int m)) [none, none, none, none]
  obtain ⟨v0, J3, y9, y10, v00, v01, e3⟩ := rect_turn S J2 t [] (a := a') (b := b') h0' w0' h29 w29 0 (by decide) [] (by simp) (some (.int m)) (some (.bl g)) none none
  obtain ⟨v1, J4, z9, z10, v10, v11, e4⟩ := rect_turn S J3 t [] (a := a') (b := b') h0' w0' h29 w29 1 (by decide) ([] ++ [.int ((if 0 % 2 = 0 then a' else b') + v0)]) (by simp) (some (.int m)) (some (.bl g)) y9 y10
  obtain ⟨v2, J5, u9, u10, v20, v21, e5⟩ := rect_turn S J4 t [] (a := a') (b := b') h0' w0' h29 w29 2 (by decide) ([] ++ [.int ((if 0 % 2 = 0 then a' else b') + v0)] ++ [.int ((if 1 % 2 = 0 then a' else b') + v1)]) (by simp) (some (.int m)) (some (.bl g)) z9 z10
  obtain ⟨v3, J6, r9, r10, v30, v31, e6⟩ := rect_turn S J5 t [] (a := a') (b := b') h0' w0' h29 w29 3 (by decide) ([] ++ [.int ((if 0 % 2 = 0 then a' else b') + v0)] ++ [.int ((if 1 % 2 = 0 then a' else b') + v1)] ++ [.int ((if 2 % 2 = 0 then a' else b') + v2)]) (by simp) (some (.int m)) (some (.bl g)) u9 u10
  have v01 : v0 < h' := v01
  have v11 : v1 < w' := v11
  have v21 : v2 < h' := v21
  have v31 : v3 < w' := v31
  have fin : ([] ++ [.int ((if 0 % 2 = 0 then a' else b') + v0)] ++ [.int ((if 1 % 2 = 0 then a' else b') + v1)] ++ [.int ((if 2 % 2 = 0 then a' else b') + v2)] ++ [.int ((if 3 % 2 = 0 then a' else b') + v3)] : List D) = [.int (a' + v0), .int (b' + v1), .int (a' + v2), .int (b' + v3)] := rfl
  rw [fin] at e6
  obtain ⟨q, J7, e7, q0, q1⟩ := pick_ex S J6 (m := 5) (by decide) (by decide)
  have okF : ∀ (x y z u : Int), 0 ≤ x → x < h' → 0 ≤ y → y < w' → 0 ≤ z → z < h' → 0 ≤ u → u < w' → (⟨(a' + x, b' + y), (a' + z, b' + u), a', a' + h' - 1, b', b' + w' - 1⟩ : Fm).ok := fun x y z u _ _ _ _ _ _ _ _ =>
    ⟨a0', by simp only; omega, b0', by simp only; omega, by constructor <;> simp only <;> omega, by constructor <;> simp only <;> omega, by constructor <;> simp only <;> omega, by constructor <;> simp only <;> omega⟩
  have bd : ∀ (x y z u : Int), g = false → (⟨(a' + x, b' + y), (a' + z, b' + u), a', a' + h' - 1, b', b' + w' - 1⟩ : Fm).t ≤ 4 ∧ (⟨(a' + x, b' + y), (a' + z, b' + u), a', a' + h' - 1, b', b' + w' - 1⟩ : Fm).l ≤ 4 ∧ (⟨(a' + x, b' + y), (a' + z, b' + u), a', a' + h' - 1, b', b' + w' - 1⟩ : Fm).b < (⟨(a' + x, b' + y), (a' + z, b' + u), a', a' + h' - 1, b', b' + w' - 1⟩ : Fm).t + m ∧
      (⟨(a' + x, b' + y), (a' + z, b' + u), a', a' + h' - 1, b', b' + w' - 1⟩ : Fm).r < (⟨(a' + x, b' + y), (a' + z, b' + u), a', a' + h' - 1, b', b' + w' - 1⟩ : Fm).l + m := fun x y z u hh => by
    obtain ⟨r1, r2, r3, r4⟩ := hg hh
    simp only
    omega
  have s0 : 0 ≤ sizeLine := by decide
  have s2 : 2 ≤ sizeLine := by decide
  have s6 : 6 ≤ sizeLine := by decide
  have l4 : rectB_4 [some (.ref S.i), some (.int m), some (.bl g), some (.int h'), some (.int w'), some (.int a'), some (.int b'), some (.ref (S.cs.length + t.length)), none, none, none] (hp S (fc J2) (t ++ [.lst []])) =
      .nx [some (.ref S.i), some (.int m), some (.bl g), some (.int h'), some (.int w'), some (.int a'), some (.int b'), some (.ref (S.cs.length + t.length)), some (.int 3), r9, r10] (hp S (fc J6) (t ++ [.lst [.int (a' + v0), .int (b' + v1), .int (a' + v2), .int (b' + v3)]])) := by
    show forL (gN 8) rectB_L0 [.int ((0 : Nat) : Int), .int ((1 : Nat) : Int), .int ((2 : Nat) : Int), .int ((3 : Nat) : Int)] _ _ = _
    rw [forL_nx rfl e3, forL_nx rfl e4, forL_nx rfl e5, forL_nx rfl e6]
    rfl
  unfold rectF
  rw [runDef_e, if_pos (show [D.ref S.i, .int m, .bl g].length = 3 from rfl)]
  have c1 : cut [D.int (a' + v0), .int (b' + v1), .int (a' + v2), .int (b' + v3)] none (some 2) = [.int (a' + v0), .int (b' + v1)] := rfl
  have st : ∀ J', (∃ F : Fm, F.ok ∧ (g = false → F.t ≤ 4 ∧ F.l ≤ 4 ∧ F.b < F.t + m ∧ F.r < F.l + m) ∧ ∃ t', runO (((rectB_5 [some (.ref S.i), some (.int m), some (.bl g), some (.int h'), some (.int w'), some (.int a'), some (.int b'), some (.lst [.int (a' + v0), .int (b' + v1), .int (a' + v2), .int (b' + v3)]), some (.int 3), r9, r10] (hp S (fc J6) (t ++ [.dead])))).bind rectB_t7) = .ok (sixD F) (hp S (fc J') t')) →
      ∃ (F : Fm) (J' : Feed) (t' : List Cell), F.ok ∧ (g = false → F.t ≤ 4 ∧ F.l ≤ 4 ∧ F.b < F.t + m ∧ F.r < F.l + m) ∧ runO (rectB (([D.ref S.i, .int m, .bl g].map some) ++ List.replicate (11 - 3) none) (hp S (fc J) t)) = .ok (sixD F) (hp S (fc J') t') := fun J' ⟨F, ok, bd, t', e⟩ => by
    refine ⟨F, J', t', ok, bd, ?_⟩
    rw [← e]
    show runO (rectB [some (.ref S.i), some (.int m), some (.bl g), none, none, none, none, none, none, none, none] (hp S (fc J) t)) = _
    unfold rectB rectB_t1 rectB_t2 rectB_t3 rectB_t4 rectB_t5 rectB_t6
    rw [sSeq_e, e0, Sr.bind_nx, sSeq_e, e1, Sr.bind_nx, sSeq_e, e2, Sr.bind_nx, sSeq_e]
    have f1 : sAsg (fLst false aNil) (gN 7) [some (.ref S.i), some (.int m), some (.bl g), some (.int h'), some (.int w'), some (.int a'), some (.int b'), none, none, none, none] (hp S (fc J2) t) = .nx [some (.ref S.i), some (.int m), some (.bl g), some (.int h'), some (.int w'), some (.int a'), some (.int b'), some (.ref (S.cs.length + t.length)), none, none, none] (hp S (fc J2) (t ++ [.lst []])) := by simp [s0]
    rw [f1, Sr.bind_nx, sSeq_e, l4, Sr.bind_nx, sSeq_e]
    have f2 : sFrz 7 [some (.ref S.i), some (.int m), some (.bl g), some (.int h'), some (.int w'), some (.int a'), some (.int b'), some (.ref (S.cs.length + t.length)), some (.int 3), r9, r10] (hp S (fc J6) (t ++ [.lst [.int (a' + v0), .int (b' + v1), .int (a' + v2), .int (b' + v3)]])) =
        .nx [some (.ref S.i), some (.int m), some (.bl g), some (.int h'), some (.int w'), some (.int a'), some (.int b'), some (.lst [.int (a' + v0), .int (b' + v1), .int (a' + v2), .int (b' + v3)]), some (.int 3), r9, r10] (hp S (fc J6) (t ++ [.dead])) := by simp
    rw [f2, Sr.bind_nx]
    rfl
  refine st J7 ?_
  by_cases hq : q = 0
  · refine ⟨⟨(a' + v0, b' + v1), (a' + v0, b' + v1), a', a' + h' - 1, b', b' + w' - 1⟩, okF _ _ _ _ v00 v01 v10 v11 v00 v01 v10 v11, bd _ _ _ _, ?_⟩
    have m4 : ∀ c, dMul false (.lst [.int (a' + v0), .int (b' + v1)]) (.int 2) c = some (.ref c.length, c ++ [.lst [.int (a' + v0), .int (b' + v1), .int (a' + v0), .int (b' + v1)]]) := fun c => rfl
    subst hq
    unfold rectB_5 rectB_t7 rectB_6
    generalize pickF = pf at *
    simp [e7, c1, m4, s2, s6, sixD, ceD]
    exact ⟨_, rfl⟩
  · refine ⟨⟨(a' + v0, b' + v1), (a' + v2, b' + v3), a', a' + h' - 1, b', b' + w' - 1⟩, okF _ _ _ _ v00 v01 v10 v11 v20 v21 v30 v31, bd _ _ _ _, ?_⟩
    unfold rectB_5 rectB_t7 rectB_6
    generalize pickF = pf at *
    simp [e7, hq, s2, s6, sixD, ceD]
    exact ⟨_, rfl⟩
end
end PV

/-! counting lists of places that have some ends: the plain theory -/
namespace PV
open PySem PySem.Spec PyProof.Rows L2
/-- lists of m places of s that have w wanted ends -/
def nof (s : Int) (w m : Nat) : Int := if w = 0 then s ^ m else if w = 1 then s ^ m - (s - 1) ^ m else s ^ m - 2 * (s - 1) ^ m + (s - 2) ^ m
/-- groups of places that are alike -/
def grps (lo hi : Int) : List (Int × Int) := if lo = hi then [(lo, 1)] else [(lo, 1)] ++ (if hi - lo - 1 > 0 then [(lo + 1, hi - lo - 1)] else []) ++ [(hi, 1)]
/-- the wanted ends but one place -/
def wo (w : List Int) (p : Int) : List Int := w.filter fun e => decide (e ≠ p)
/-- wanted ends of a range -/
structure Ends' (lo hi : Int) (w : List Int) : Prop where
  le : lo ≤ hi
  mem : ∀ e ∈ w, e = lo ∨ e = hi
  nd : w.Nodup
theorem Ends'.wo {lo hi : Int} {w : List Int} (h : Ends' lo hi w) (p : Int) : Ends' lo hi (wo w p) :=
  ⟨h.le, fun e he => h.mem e (List.mem_filter.mp he).1, h.nd.sublist List.filter_sublist⟩
/-- what they can be -/
theorem Ends'.cases {lo hi : Int} {w : List Int} (h : Ends' lo hi w) : w = [] ∨ w = [lo] ∨ (lo < hi ∧ (w = [hi] ∨ w = [lo, hi] ∨ w = [hi, lo])) := by
  match w, h with
  | [], _ => exact .inl rfl
  | [a], h =>
    rcases h.mem a (by simp) with rfl | rfl
    · exact .inr (.inl rfl)
    · by_cases e : lo = a
      · subst e; exact .inr (.inl rfl)
      · have := h.le
        exact .inr (.inr ⟨by omega, .inl rfl⟩)
  | [a, b], h =>
    have nd := h.nd
    have ne : a ≠ b := by
      intro e
      subst e
      simp at nd
    have le := h.le
    rcases h.mem a (by simp) with rfl | rfl <;> rcases h.mem b (by simp) with rfl | rfl
    · exact absurd rfl ne
    · exact .inr (.inr ⟨by omega, .inr (.inl rfl)⟩)
    · exact .inr (.inr ⟨by omega, .inr (.inr rfl)⟩)
    · exact absurd rfl ne
  | a :: b :: c :: r, h =>
    have nd := h.nd
    simp only [List.nodup_cons, List.mem_cons, not_or] at nd
    have ha := h.mem a (by simp)
    have hb := h.mem b (by simp)
    have hc := h.mem c (by simp)
    omega
theorem nof0 (s : Int) (m : Nat) : nof s 0 m = s ^ m := rfl
theorem nof1 (s : Int) (m : Nat) : nof s 1 m = s ^ m - (s - 1) ^ m := rfl
theorem nof2 (s : Int) (m : Nat) : nof s 2 m = s ^ m - 2 * (s - 1) ^ m + (s - 2) ^ m := rfl
/-- all groups' weights together -/
def wsum (wt : Int → Int) : List (Int × Int) → Int
  | [] => 0
  | (st, sz) :: r => sz * wt st + wsum wt r
theorem wsum_app (wt : Int → Int) : ∀ a b, wsum wt (a ++ b) = wsum wt a + wsum wt b
  | [], b => by simp [wsum]
  | (st, sz) :: r, b => by
    show sz * wt st + wsum wt (r ++ b) = sz * wt st + wsum wt r + wsum wt b
    rw [wsum_app wt r b, Int.add_assoc]
/-- the recurrence: the first place, then the rest -/
theorem nof_rec {lo hi : Int} {w : List Int} (h : Ends' lo hi w) (m : Nat) : wsum (fun st => nof (hi - lo + 1) (wo w st).length m) (grps lo hi) = nof (hi - lo + 1) w.length (m + 1) := by
  have le := h.le
  by_cases e : lo = hi
  · subst e
    have s1 : lo - lo + 1 = 1 := by omega
    rw [s1]
    unfold grps
    rw [if_pos rfl]
    rcases h.cases with rfl | rfl | ⟨lt, _⟩
    · simp [wsum, wo, nof0, Int.one_pow]
    · have z : (0 : Int) ^ (m + 1) = 0 := by rw [Int.pow_succ, Int.mul_zero]
      simp [wsum, wo, nof0, nof1, Int.one_pow, z]
    · omega
  · have lt : lo < hi := by omega
    obtain ⟨n, hn⟩ : ∃ n : Int, n = hi - lo - 1 := ⟨_, rfl⟩
    have s2 : hi - lo + 1 = n + 2 := by omega
    have g : ∀ wt : Int → Int, (n = 0 ∨ True) → wsum wt (grps lo hi) = wt lo + n * wt (lo + 1) + wt hi := fun wt _ => by
      unfold grps
      rw [if_neg e, ← hn]
      by_cases z : n > 0
      · rw [if_pos z]
        simp [wsum]
        omega
      · have : n = 0 := by omega
        rw [if_neg z, this]
        simp [wsum]
    rw [g _ (.inr trivial), s2]
    have k1 : n + 2 - 1 = n + 1 := by omega
    have k2 : n + 2 - 2 = n := by omega
    have hl : ¬ hi = lo := by omega
    have hl2 : ¬ lo = hi := e
    have i1 : n = 0 ∨ (¬ lo = lo + 1 ∧ ¬ hi = lo + 1) := by omega
    have body : ∀ X Y Z : Int, (n ≠ 0 → Y = Z) → X + n * Y = X + n * Z := fun X Y Z q => by
      by_cases z : n = 0
      · rw [z]; simp
      · rw [q z]
    rcases h.cases with rfl | rfl | ⟨_, rfl | rfl | rfl⟩
    · simp only [wo, List.filter_nil, List.length_nil, nof0]
      rw [Int.pow_succ]
      generalize (n + 2) ^ m = A
      rw [Int.mul_add]
      have : n * A = A * n := Int.mul_comm _ _
      omega
    · have w1 : wo [lo] lo = [] := by simp [wo]
      have w2 : wo [lo] hi = [lo] := by simp [wo, hl2]
      rw [w1, w2, body _ _ (nof (n + 2) 1 m) (fun z => by
        have w3 : wo [lo] (lo + 1) = [lo] := by
          have t1 : ¬ lo = lo + 1 := by omega
          simp [wo, t1]
        rw [w3]; rfl)]
      show nof (n + 2) 0 m + n * nof (n + 2) 1 m + nof (n + 2) 1 m = nof (n + 2) 1 (m + 1)
      rw [nof0, nof1, nof1, k1, Int.pow_succ, Int.pow_succ]
      generalize (n + 2) ^ m = A
      generalize (n + 1) ^ m = B
      rw [Int.mul_sub, Int.mul_add, Int.mul_add]
      have a1 : n * A = A * n := Int.mul_comm _ _
      have a2 : n * B = B * n := Int.mul_comm _ _
      omega
    · have w1 : wo [hi] lo = [hi] := by simp [wo, hl]
      have w2 : wo [hi] hi = [] := by simp [wo]
      rw [w1, w2, body _ _ (nof (n + 2) 1 m) (fun z => by
        have w3 : wo [hi] (lo + 1) = [hi] := by
          have t1 : ¬ lo = lo + 1 := by omega
          have t2 : ¬ hi = lo + 1 := by omega
          simp [wo, t1, t2]
        rw [w3]; rfl)]
      show nof (n + 2) 1 m + n * nof (n + 2) 1 m + nof (n + 2) 0 m = nof (n + 2) 1 (m + 1)
      rw [nof0, nof1, nof1, k1, Int.pow_succ, Int.pow_succ]
      generalize (n + 2) ^ m = A
      generalize (n + 1) ^ m = B
      rw [Int.mul_sub, Int.mul_add, Int.mul_add]
      have a1 : n * A = A * n := Int.mul_comm _ _
      have a2 : n * B = B * n := Int.mul_comm _ _
      omega
    · have w1 : wo [lo, hi] lo = [hi] := by simp [wo, hl]
      have w2 : wo [lo, hi] hi = [lo] := by simp [wo, hl2]
      rw [w1, w2, body _ _ (nof (n + 2) 2 m) (fun z => by
        have w3 : wo [lo, hi] (lo + 1) = [lo, hi] := by
          have t1 : ¬ lo = lo + 1 := by omega
          have t2 : ¬ hi = lo + 1 := by omega
          simp [wo, t1, t2]
        rw [w3]; rfl)]
      show nof (n + 2) 1 m + n * nof (n + 2) 2 m + nof (n + 2) 1 m = nof (n + 2) 2 (m + 1)
      rw [nof1, nof2, nof2, k1, k2, Int.pow_succ, Int.pow_succ, Int.pow_succ]
      generalize (n + 2) ^ m = A
      generalize (n + 1) ^ m = B
      generalize n ^ m = C
      rw [Int.mul_add, Int.mul_sub, Int.mul_add, Int.mul_add]
      have a1 : n * A = A * n := Int.mul_comm _ _
      have a2 : n * (2 * B) = 2 * (B * n) := by rw [Int.mul_comm n (2 * B), Int.mul_assoc]
      have a3 : n * C = C * n := Int.mul_comm _ _
      omega
    · have w1 : wo [hi, lo] lo = [hi] := by simp [wo, hl]
      have w2 : wo [hi, lo] hi = [lo] := by simp [wo, hl2]
      rw [w1, w2, body _ _ (nof (n + 2) 2 m) (fun z => by
        have w3 : wo [hi, lo] (lo + 1) = [hi, lo] := by
          have t1 : ¬ lo = lo + 1 := by omega
          have t2 : ¬ hi = lo + 1 := by omega
          simp [wo, t1, t2]
        rw [w3]; rfl)]
      show nof (n + 2) 1 m + n * nof (n + 2) 2 m + nof (n + 2) 1 m = nof (n + 2) 2 (m + 1)
      rw [nof1, nof2, nof2, k1, k2, Int.pow_succ, Int.pow_succ, Int.pow_succ]
      generalize (n + 2) ^ m = A
      generalize (n + 1) ^ m = B
      generalize n ^ m = C
      rw [Int.mul_add, Int.mul_sub, Int.mul_add, Int.mul_add]
      have a1 : n * A = A * n := Int.mul_comm _ _
      have a2 : n * (2 * B) = 2 * (B * n) := by rw [Int.mul_comm n (2 * B), Int.mul_assoc]
      have a3 : n * C = C * n := Int.mul_comm _ _
      omega
theorem nof_z {lo hi : Int} {w : List Int} (h : Ends' lo hi w) : nof (hi - lo + 1) w.length 0 = if w = [] then 1 else 0 := by
  rcases h.cases with rfl | rfl | ⟨_, rfl | rfl | rfl⟩ <;> simp [nof]
theorem grp_pos {lo hi : Int} {g : Int × Int} (h : g ∈ grps lo hi) : 0 < g.2 := by
  unfold grps at h
  split at h
  · rw [List.mem_singleton.mp h]; exact Int.one_pos
  · simp only [List.mem_append, List.mem_singleton] at h
    rcases h with (rfl | h) | rfl
    · exact Int.one_pos
    · split at h
      · rw [List.mem_singleton.mp h]; assumption
      · cases h
    · exact Int.one_pos
theorem wsum_nn {wt : Int → Int} : ∀ {gs : List (Int × Int)}, (∀ g ∈ gs, 0 < g.2) → (∀ st, 0 ≤ wt st) → 0 ≤ wsum wt gs
  | [], _, _ => Int.le_refl _
  | (st, sz) :: r, h, h2 => by
    show 0 ≤ sz * wt st + wsum wt r
    have a : 0 ≤ sz * wt st := Int.mul_nonneg (Int.le_of_lt (h (st, sz) (List.mem_cons_self ..))) (h2 st)
    have b := wsum_nn (wt := wt) (gs := r) (fun g hg => h g (List.mem_cons_of_mem _ hg)) h2
    omega
theorem nof_nn {lo hi : Int} : ∀ (m : Nat) {w : List Int}, Ends' lo hi w → 0 ≤ nof (hi - lo + 1) w.length m
  | 0, w, h => by
    rw [nof_z h]
    split <;> decide
  | m + 1, w, h => by
    rw [← nof_rec h]
    exact wsum_nn (fun g hg => grp_pos hg) fun st => nof_nn m (h.wo st)
theorem wsum_le {f g : Int → Int} : ∀ {gs : List (Int × Int)}, (∀ p ∈ gs, 0 < p.2) → (∀ st, f st ≤ g st) → wsum f gs ≤ wsum g gs
  | [], _, _ => Int.le_refl _
  | (st, sz) :: r, h, h2 => by
    show sz * f st + wsum f r ≤ sz * g st + wsum g r
    have a : sz * f st ≤ sz * g st := Int.mul_le_mul_of_nonneg_left (h2 st) (Int.le_of_lt (h (st, sz) (List.mem_cons_self ..)))
    have b := wsum_le (f := f) (g := g) (gs := r) (fun p hp => h p (List.mem_cons_of_mem _ hp)) h2
    omega
theorem nof_le {lo hi : Int} : ∀ (m : Nat) {w : List Int}, Ends' lo hi w → nof (hi - lo + 1) w.length m ≤ (hi - lo + 1) ^ m
  | 0, w, h => by
    rw [nof_z h]
    split <;> simp
  | m + 1, w, h => by
    rw [← nof_rec h]
    have e : Ends' lo hi [] := ⟨h.le, fun e he => (List.not_mem_nil he).elim, List.nodup_nil⟩
    have q := nof_rec e m
    have a := wsum_le (f := fun st => nof (hi - lo + 1) (wo w st).length m) (g := fun st => nof (hi - lo + 1) (wo [] st).length m) (gs := grps lo hi) (fun p hp => grp_pos hp) fun st => by
      show _ ≤ nof (hi - lo + 1) 0 m
      rw [nof0]
      exact nof_le m (h.wo st)
    rw [q] at a
    exact a
/-- the place of the list with an index, and the rest of the index -/
def tk (wt : Int → Int) : List (Int × Int) → Int → Option (Int × Int)
  | [], _ => none
  | (st, sz) :: r, i => if i < sz * wt st then some (st + i / wt st, i % wt st) else tk wt r (i - sz * wt st)
theorem tk_ok {wt : Int → Int} (hn : ∀ st, 0 ≤ wt st) : ∀ {gs : List (Int × Int)} {i : Int}, (∀ g ∈ gs, 0 < g.2) → 0 ≤ i → i < wsum wt gs →
    ∃ (g : Int × Int) (q r : Int) (A B : List (Int × Int)), gs = A ++ g :: B ∧ tk wt gs i = some (g.1 + q, r) ∧ 0 ≤ q ∧ q < g.2 ∧ 0 ≤ r ∧ r < wt g.1 ∧ i = wsum wt A + q * wt g.1 + r
  | [], i, _, h0, h1 => by
    have : i < 0 := h1
    omega
  | (st, sz) :: r, i, hp, h0, h1 => by
    have h1' : i < sz * wt st + wsum wt r := h1
    by_cases c : i < sz * wt st
    · have sp : 0 < sz := hp (st, sz) (List.mem_cons_self ..)
      have wp : 0 < wt st := by
        rcases Int.lt_or_eq_of_le (hn st) with z | z
        · exact z
        · rw [← z, Int.mul_zero] at c
          omega
      refine ⟨(st, sz), i / wt st, i % wt st, [], r, rfl, ?_, Int.ediv_nonneg h0 (hn st), ?_, Int.emod_nonneg _ (by omega), Int.emod_lt_of_pos _ wp, ?_⟩
      · show (if i < sz * wt st then some (st + i / wt st, i % wt st) else _) = _
        rw [if_pos c]
      · exact Int.ediv_lt_of_lt_mul wp c
      · show i = 0 + i / wt st * wt st + i % wt st
        have := Int.mul_ediv_add_emod i (wt st)
        rw [Int.mul_comm] at this
        omega
    · obtain ⟨g, q, r', A, B, e, e2, q0, q1, r0, r1, e3⟩ := tk_ok hn (gs := r) (i := i - sz * wt st) (fun g hg => hp g (List.mem_cons_of_mem _ hg)) (by omega) (by omega)
      refine ⟨g, q, r', (st, sz) :: A, B, by rw [e]; rfl, ?_, q0, q1, r0, r1, ?_⟩
      · show (if i < sz * wt st then _ else tk wt r (i - sz * wt st)) = _
        rw [if_neg c]
        exact e2
      · show i = sz * wt st + wsum wt A + q * wt g.1 + r'
        omega
/-- what is wanted behind a place of a group -/
theorem wo_grp {lo hi : Int} {w : List Int} (h : Ends' lo hi w) {g : Int × Int} (hg : g ∈ grps lo hi) {q : Int} (q0 : 0 ≤ q) (q1 : q < g.2) : wo w (g.1 + q) = wo w g.1 ∧ lo ≤ g.1 + q ∧ g.1 + q ≤ hi := by
  have le := h.le
  unfold grps at hg
  split at hg
  · have e := List.mem_singleton.mp hg
    subst e
    have : q = 0 := by simp only at q1; omega
    subst this
    simp only [Int.add_zero]
    exact ⟨trivial, by omega, by omega⟩
  · rename_i ne
    simp only [List.mem_append, List.mem_singleton] at hg
    rcases hg with (rfl | hg) | rfl
    · have : q = 0 := by simp only at q1; omega
      subst this
      simp only [Int.add_zero]
      exact ⟨trivial, by omega, by omega⟩
    · split at hg
      · have e := List.mem_singleton.mp hg
        subst e
        simp only at q1 ⊢
        refine ⟨?_, by omega, by omega⟩
        unfold wo
        refine List.filter_congr fun x hx => ?_
        rcases h.mem x hx with rfl | rfl
        · have a : x ≠ x + 1 + q := by omega
          have b : x ≠ x + 1 := by omega
          simp [a, b]
        · have a : x ≠ lo + 1 + q := by omega
          have b : x ≠ lo + 1 := by omega
          simp [a, b]
      · cases hg
    · have : q = 0 := by simp only at q1; omega
      subst this
      simp only [Int.add_zero]
      exact ⟨trivial, by omega, by omega⟩
theorem atI_last {α : Type} {xs : List α} {x : α} : atI (xs ++ [x]) (-1) = some x := by
  unfold atI ixN
  have hl : (xs ++ [x]).length = xs.length + 1 := by simp
  rw [hl, if_neg (by omega), if_pos (by omega)]
  have e : (-1 + ((xs.length + 1 : Nat) : Int)).toNat = xs.length := by omega
  show (xs ++ [x])[(-1 + ((xs.length + 1 : Nat) : Int)).toNat]? = _
  rw [e]
  simp
/-- so many turns of a while -/
theorem while_n {ft : Ft} {fb : Fs} (σs : Nat → Sd) (cs : Nat → List Cell) (n : Nat) (hs : ∀ i, i < n → ft (σs i) (cs i) = .ok true (cs i) ∧ fb (σs i) (cs i) = .nx (σs (i + 1)) (cs (i + 1))) (he : ft (σs n) (cs n) = .ok false (cs n)) : sWhile ft fb (σs 0) (cs 0) = .nx (σs n) (cs n) := by
  have q : ∀ k i, i + k = n → whl ft fb (k + 1) (σs i) (cs i) = .nx (σs n) (cs n) := by
    intro k
    induction k with
    | zero =>
      intro i hi
      have : i = n := by omega
      subst this
      show sOf (ft (σs i) (cs i)) (σs i) _ = _
      rw [he]
      rfl
    | succ k ih =>
      intro i hi
      obtain ⟨h1, h2⟩ := hs i (by omega)
      show sOf (ft (σs i) (cs i)) (σs i) _ = _
      rw [h1]
      show (match fb (σs i) (cs i) with
        | .nx σ' c' => whl ft fb (k + 1) σ' c'
        | .ct σ' c' => whl ft fb (k + 1) σ' c'
        | .bk σ' c' => .nx σ' c'
        | r => r) = _
      rw [h2]
      exact ih (i + 1) (by omega)
  exact sWhile_eq (n := n + 1) (q n 0 (by omega)) (by intro z; cases z)
/-- the ends of a range that are none of two places -/
def me (lo hi x y : Int) : List Int := (if lo = hi then [lo] else [lo, hi]).filter fun e => !(decide (e = x) || decide (e = y))
theorem me_ends {lo hi x y : Int} (h : lo ≤ hi) : Ends' lo hi (me lo hi x y) := by
  unfold me
  refine ⟨h, fun e he => ?_, ?_⟩
  · have := (List.mem_filter.mp he).1
    split at this
    · exact .inl (List.mem_singleton.mp this)
    · simp only [List.mem_cons, List.not_mem_nil, or_false] at this
      exact this
  · refine List.Nodup.sublist List.filter_sublist ?_
    split
    · simp
    · rename_i ne
      simp [ne]
theorem me_len {lo hi x y : Int} : (me lo hi x y).length ≤ 2 := by
  unfold me
  refine Nat.le_trans (List.length_filter_le _ _) ?_
  split <;> simp
theorem dIn_t2 (n : Bool) (e x y : Int) (cs : List Cell) : dIn n (.int e) (.tup [.int x, .int y]) cs = some (.bl (if n then !(decide (e = x) || decide (e = y)) else (decide (e = x) || decide (e = y))), cs) := by
  have v : inV (V.int e) [V.int x, V.int y] = (decide (e = x) || decide (e = y)) := by
    have q : ∀ a b : Int, eqV (V.int a) (V.int b) = decide (b = a) := fun a b => by
      show decide (a = b) = _
      exact decide_eq_decide.mpr ⟨Eq.symm, Eq.symm⟩
    show (eqV (V.int x) (V.int e) || (eqV (V.int y) (V.int e) || false)) = _
    rw [q, q, Bool.or_false]
  show (match flatD (.int e), flatDs [.int x, .int y] with
    | some v, some vs => some (D.bl (if n then !inV v vs else inV v vs), cs)
    | _, _ => none) = _
  show some (D.bl (if n then !inV (V.int e) [V.int x, V.int y] else inV (V.int e) [V.int x, V.int y]), cs) = _
  rw [v]
theorem aug_ok {i : Nat} {op : Int → Int → Int} {f : Fe} {σ : Sd} {cs c : List Cell} {a b : Int} (h1 : σ[i]? = some (some (.int a))) (h2 : f σ cs = .ok (.int b) c) : sAug i op f σ cs = .nx (σ.set i (some (.int (op a b)))) c := by
  unfold sAug
  rw [h1, h2]
  rfl
theorem wsum_mul (wt : Int → Int) (k : Int) : ∀ gs, wsum (fun st => wt st * k) gs = wsum wt gs * k
  | [] => by simp [wsum]
  | (st, sz) :: r => by
    show sz * (wt st * k) + wsum _ r = (sz * wt st + wsum wt r) * k
    rw [wsum_mul wt k r, Int.add_mul, Int.mul_assoc]
theorem wsum_pos {wt : Int → Int} : ∀ {gs : List (Int × Int)}, (∀ g ∈ gs, 0 < g.2) → (∀ st, 0 ≤ wt st) → (∃ g ∈ gs, 0 < wt g.1) → 0 < wsum wt gs
  | [], _, _, h => by
    obtain ⟨g, hg, _⟩ := h
    cases hg
  | (st, sz) :: r, h1, h2, h => by
    obtain ⟨g, hg, hp⟩ := h
    show 0 < sz * wt st + wsum wt r
    have b := wsum_nn (wt := wt) (gs := r) (fun g hg => h1 g (List.mem_cons_of_mem _ hg)) h2
    rcases List.mem_cons.mp hg with rfl | hg
    · have := Int.mul_pos (h1 (st, sz) (List.mem_cons_self ..)) hp
      simp only at this
      omega
    · have a : 0 ≤ sz * wt st := Int.mul_nonneg (Int.le_of_lt (h1 (st, sz) (List.mem_cons_self ..))) (h2 st)
      have := wsum_pos (fun g hg => h1 g (List.mem_cons_of_mem _ hg)) h2 ⟨g, hg, hp⟩
      omega
theorem nof_pos {lo hi : Int} : ∀ (m : Nat) {w : List Int}, Ends' lo hi w → w.length ≤ m → 0 < nof (hi - lo + 1) w.length m
  | 0, w, h, hw => by
    have : w = [] := List.length_eq_zero_iff.mp (by omega)
    rw [nof_z h, if_pos this]
    decide
  | m + 1, w, h, hw => by
    rw [← nof_rec h]
    have lg : (lo, (1 : Int)) ∈ grps lo hi := by
      unfold grps
      split <;> simp
    have hg : (hi, (1 : Int)) ∈ grps lo hi := by
      unfold grps
      split
      · rename_i e
        rw [e]
        simp
      · simp
    refine wsum_pos (fun g hg => grp_pos hg) (fun st => nof_nn m (h.wo st)) ?_
    match w, h, hw with
    | [], h, hw => exact ⟨_, lg, nof_pos m (h.wo lo) (Nat.zero_le _)⟩
    | e :: r, h, hw =>
      have wl : (wo (e :: r) e).length ≤ m := by
        have : wo (e :: r) e = r.filter fun x => decide (x ≠ e) := by
          unfold wo
          rw [List.filter_cons_of_neg (by simp)]
        rw [this]
        refine Nat.le_trans (List.length_filter_le _ _) ?_
        simp only [List.length_cons] at hw
        omega
      rcases h.mem e (List.mem_cons_self ..) with z | z
      · exact ⟨_, lg, by subst z; exact nof_pos m (h.wo e) wl⟩
      · exact ⟨_, hg, by subst z; exact nof_pos m (h.wo e) wl⟩
/-- with some trace for each -/
theorem lcM_jk {g : Gt} {ft : Ft} {fe : Fe} {σ : Sd} {α : Type} (f h : α → D) : ∀ (xs : List α) (c : List Cell), (∀ x ∈ xs, ∀ c, ∃ σ1 t, g (f x) σ c = some σ1 ∧ ft σ1 c = .ok true c ∧ fe σ1 c = .ok (h x) (c ++ t)) → ∃ t, lcM g ft fe σ (xs.map f) c = .ok (xs.map h) (c ++ t)
  | [], c, _ => ⟨[], by simp⟩
  | x :: xs, c, H => by
    obtain ⟨σ1, t1, e1, e2, e3⟩ := H x (List.mem_cons_self ..) c
    obtain ⟨t2, ih⟩ := lcM_jk f h xs (c ++ t1) fun y hy => H y (List.mem_cons_of_mem _ hy)
    exact ⟨t1 ++ t2, by rw [List.map_cons, lcM_step e1 e2 e3, ih, List.append_assoc]; rfl⟩
/-- a loop whose turns leave something each -/
theorem forL_jk {g : Gt} {fb : Fs} (I : Sd → Prop) : ∀ (ds : List D) (σ : Sd) (c : List Cell), I σ → (∀ d ∈ ds, ∀ σ c, I σ → ∃ σ1 σ2 t, g d σ c = some σ1 ∧ fb σ1 c = .nx σ2 (c ++ t) ∧ I σ2) → ∃ σ' t, forL g fb ds σ c = .nx σ' (c ++ t) ∧ I σ'
  | [], σ, c, h, _ => ⟨σ, [], by simp, h⟩
  | d :: ds, σ, c, h, H => by
    obtain ⟨σ1, σ2, t1, e1, e2, h2⟩ := H d (List.mem_cons_self ..) σ c h
    obtain ⟨σ', t2, e, h'⟩ := forL_jk I ds σ2 (c ++ t1) h2 fun d hd => H d (List.mem_cons_of_mem _ hd)
    exact ⟨σ', t1 ++ t2, by rw [forL_nx e1 e2, e, List.append_assoc], h'⟩
theorem nof_small {s : Int} (hs : s.natAbs + 2 < 2 ^ 5) (n k : Nat) (hk : k ≤ 298) : (nof s n k).natAbs < 2 ^ 1600 := by
  have e : ∀ b : Int, b.natAbs < 2 ^ 5 → (b ^ k).natAbs ≤ 2 ^ 1590 := fun b hb => by
    rw [Int.natAbs_pow]
    have : b.natAbs ^ k ≤ (2 ^ 5) ^ k := Nat.pow_le_pow_left (Nat.le_of_lt hb) k
    rw [← Nat.pow_mul] at this
    exact Nat.le_trans this (Nat.pow_le_pow_right (by decide) (by omega))
  have a := e s (by omega)
  have b := e (s - 1) (by omega)
  have c := e (s - 2) (by omega)
  have e2 : (2 : Nat) ^ 1600 = 2 ^ 10 * 2 ^ 1590 := by rw [← Nat.pow_add]
  have q0 : 0 < (2 : Nat) ^ 1590 := Nat.pow_pos (by decide)
  rw [e2]
  unfold nof
  generalize (2 : Nat) ^ 1590 = P at *
  generalize s ^ k = A at *
  generalize (s - 1) ^ k = B at *
  generalize (s - 2) ^ k = C at *
  have : (2 : Nat) ^ 10 = 1024 := by decide
  rw [this]
  split
  · omega
  · split <;> omega
theorem nof_zero {s : Int} {n m : Nat} (hn : n ≤ 2) (h : m < n) : nof s n m = 0 := by
  have c : (n = 1 ∧ m = 0) ∨ (n = 2 ∧ m = 0) ∨ (n = 2 ∧ m = 1) := by omega
  rcases c with ⟨rfl, rfl⟩ | ⟨rfl, rfl⟩ | ⟨rfl, rfl⟩
  · simp [nof]
  · simp [nof]
  · have p : ∀ x : Int, x ^ 1 = x := fun x => by rw [Int.pow_succ, Int.pow_zero, Int.one_mul]
    rw [nof2, p, p, p]
    omega
/-! more rules -/
section
variable {f : Fe} {g : Fa} {σ : Sd} {c c1 c2 : List Cell} {x : D} {xs : List D}
theorem args_ok (h1 : f σ c = .ok x c1) (h2 : g σ c1 = .ok xs c2) : aCons f g σ c = .ok (x :: xs) c2 := by
  rw [aCons_e, h1, Out.bnd_ok, h2, Out.bnd_ok]
theorem call_ok {n : Nat} {F : List D → List Cell → Out D} (h1 : g σ c = .ok xs c1) (h2 : F xs c1 = .ok x c2) (hl : xs.length = n) : fCall (fnK n 0 n F (fun ds _ => ds)) g aNil σ c = .ok x c2 := by
  rw [fCall_e, h1, Out.bnd_ok, aNil_e, Out.bnd_ok, fnK_e, if_pos ⟨hl, hl⟩, h2]
end
end PV


namespace Ck22
open PySem PySem.Spec PyProof.Rows L2 PV
/-! ### ways -/
theorem wplace_eq {r : Int} (cs : List Cell) (h : 0 ≤ r ∧ r < 10 ^ 30) : F_is_place [.int r] cs = .ok (.bl true) cs := by
  unfold F_is_place
  rw [runDef_e, if_pos (show [D.int r].length = 1 from rfl)]
  unfold b_is_place
  have h2 : r < 1000000000000000000000000000000 := h.2
  simp [h.1, h2, dIsI, kdOf, clsOf, okKd]
theorem wcell_eq (cs : List Cell) {p : Ce} (h : onP p) : F_is_cell [ceD p] cs = .ok (.bl true) cs := by
  unfold F_is_cell
  rw [runDef_e, if_pos (show [ceD p].length = 1 from rfl)]
  unfold b_is_cell ceD
  simp [wplace_eq _ ⟨h.1, h.2.1⟩, wplace_eq _ ⟨h.2.2.1, h.2.2.2⟩, dIsI, kdOf, clsOf, okKd]

/-! ### frames -/
theorem needc_eq (cs : List Cell) {p : Ce} (h : onP p) : F_need_cell [ceD p] cs = .ok .non cs := by
  unfold F_need_cell
  rw [runDef_e, if_pos (show [ceD p].length = 1 from rfl)]
  unfold b_need_cell
  simp [wcell_eq cs h]
theorem needr_eq {lo hi x y : Int} (h0 : 0 ≤ lo) (h1 : hi < 10 ^ 30) (x0 : lo ≤ x) (x1 : x ≤ hi) (y0 : lo ≤ y) (y1 : y ≤ hi) (cs : List Cell) : F_need_range [.int lo, .int hi, .tup [.int x, .int y]] cs = .ok .non cs := by
  unfold F_need_range
  rw [runDef_e, if_pos (show [D.int lo, .int hi, .tup [.int x, .int y]].length = 3 from rfl)]
  have ea : ∀ c, dAll [.lst [.bl true, .bl true]] c = some (.bl true, c) := fun c => rfl
  have sz : 2 ≤ sizeLine := by decide
  have p1 := wplace_eq cs (show 0 ≤ lo ∧ lo < 10 ^ 30 by omega)
  have p2 := wplace_eq cs (show 0 ≤ hi ∧ hi < 10 ^ 30 by omega)
  simp [b_need_range, p1, p2, x0, x1, y0, y1, ea, sz]
theorem finit_eq (F : Fm) (h : F.ok) (cs : List Cell) : F_Frame___init [.ref cs.length, ceD F.a, ceD F.z, .int F.t, .int F.b, .int F.l, .int F.r] (cs ++ [.ins 0 []]) = .ok .non (cs ++ [.ins 0 (fmfs F)]) := by
  unfold F_Frame___init
  rw [runDef_e, if_pos (show [D.ref cs.length, ceD F.a, ceD F.z, .int F.t, .int F.b, .int F.l, .int F.r].length = 7 from rfl)]
  have c1 := fun c => needc_eq c h.ca
  have c2 := fun c => needc_eq c h.cz
  have r1 := needr_eq h.t0 h.b1 h.a1.1 h.a1.2 h.z1.1 h.z1.2
  have r2 := needr_eq h.l0 h.r1 h.a2.1 h.a2.2 h.z2.1 h.z2.2
  have i1 : ∀ (p : Ce) c, dIx (ceD p) (.int 0) c = some (.int p.1, c) := fun p c => rfl
  have i2 : ∀ (p : Ce) c, dIx (ceD p) (.int 1) c = some (.int p.2, c) := fun p c => rfl
  have sz : 2 ≤ sizeLine := by decide
  simp [b_Frame___init, b_Frame___init_2, b_Frame___init_3, b_Frame___init_t1, b_Frame___init_t2, b_Frame___init_t3, b_Frame___init_t4, b_Frame___init_t5, b_Frame___init_t6, b_Frame___init_t7, c1, c2, r1, r2, i1, i2, sz, putM1, putM2, putM3, putM4, fmfs]
theorem mkFm (F : Fm) (h : F.ok) (cs : List Cell) : mkK 0 true (fnK 7 0 7 F_Frame___init (fun ds _ => ds)) [ceD F.a, ceD F.z, .int F.t, .int F.b, .int F.l, .int F.r] [] cs = .ok (fmD 0 F) (cs ++ [.dead]) := by
  rw [mkK_e]
  simp [finit_eq F h cs, fmD]
theorem int_first {ws : List Ce} (h : ws ≠ []) : atI (ws.map ceD) 0 = some (ceD (ws.headD (0, 0))) := by
  cases ws with
  | nil => exact absurd rfl h
  | cons w ws => rw [List.map_cons, atI_0]; rfl
theorem int_last {ws : List Ce} (h : ws ≠ []) : atI (ws.map ceD) (-1) = some (ceD (ws.getLastD (0, 0))) := by
  obtain ⟨pre, q, rfl⟩ : ∃ pre q, ws = pre ++ [q] := ⟨ws.dropLast, ws.getLast h, (List.dropLast_concat_getLast h).symm⟩
  rw [last_at]
  simp [List.getLastD_eq_getLast?]
theorem ints_map {ws : List Ce} (h : ws ≠ []) (f : Ce → Int) (c : List Cell) : intsAt c (.lst (ws.map fun p => .int (f p))) = some (ws.map f) := by
  cases ws with
  | nil => exact absurd rfl h
  | cons w ws => exact intsAt_l ((w :: ws).map f) c f rfl
theorem min_map {ws : List Ce} (h : ws ≠ []) (f : Ce → Int) (c : List Cell) : dMin [.lst (ws.map fun p => .int (f p))] c = some (.int (minL (ws.map f)), c) := by
  have e := ints_map h f c
  rw [dMin_l, e]
  cases ws with
  | nil => exact absurd rfl h
  | cons w ws => rfl
theorem max_map {ws : List Ce} (h : ws ≠ []) (f : Ce → Int) (c : List Cell) : dMax [.lst (ws.map fun p => .int (f p))] c = some (.int (maxL (ws.map f)), c) := by
  have e := ints_map h f c
  rw [dMax_l, e]
  cases ws with
  | nil => exact absurd rfl h
  | cons w ws => rfl
theorem ptop_eq (F : Fm) (cs : List Cell) : F_Frame_top [fmD 0 F] cs = .ok (.int F.t) cs := by
  unfold F_Frame_top
  rw [runDef_e, if_pos (show [fmD 0 F].length = 1 from rfl)]
  simp [b_Frame_top, lkM3]
theorem pbot_eq (F : Fm) (cs : List Cell) : F_Frame_bottom [fmD 0 F] cs = .ok (.int F.b) cs := by
  unfold F_Frame_bottom
  rw [runDef_e, if_pos (show [fmD 0 F].length = 1 from rfl)]
  simp [b_Frame_bottom, lkM3]
theorem plef_eq (F : Fm) (cs : List Cell) : F_Frame_left [fmD 0 F] cs = .ok (.int F.l) cs := by
  unfold F_Frame_left
  rw [runDef_e, if_pos (show [fmD 0 F].length = 1 from rfl)]
  simp [b_Frame_left, lkM4]
theorem prig_eq (F : Fm) (cs : List Cell) : F_Frame_right [fmD 0 F] cs = .ok (.int F.r) cs := by
  unfold F_Frame_right
  rw [runDef_e, if_pos (show [fmD 0 F].length = 1 from rfl)]
  simp [b_Frame_right, lkM4]

/-! ### counting -/
theorem missing_eq (lo hi x y : Int) (cs : List Cell) : F_missing_ends [.int lo, .int hi, .tup [.int x, .int y]] cs = .ok (.lst ((me lo hi x y).map .int)) cs := by
  unfold F_missing_ends
  rw [runDef_e, if_pos (show [D.int lo, .int hi, .tup [.int x, .int y]].length = 3 from rfl)]
  show runO (b_missing_ends [some (.int lo), some (.int hi), some (.tup [.int x, .int y]), none, none] cs) = _
  have s1 : 1 ≤ sizeLine := by decide
  have s2 : 2 ≤ sizeLine := by decide
  have fl : ∀ (es : List Int) (σ : Sd) c, σ.length = 5 → σ[2]? = some (some (.tup [.int x, .int y])) → lcM (gN 4) (fTst (fOp2 (dIn true) (fVar 4) (fVar 2))) (fVar 4) σ (es.map .int) c = .ok ((es.filter fun e => !(decide (e = x) || decide (e = y))).map .int) c := fun es σ c hσ h2 =>
    lcM_fil D.int D.int _ es fun e he => ⟨_, rfl, by
      have q := fun c => dIn_t2 true e x y c
      have l2 : (σ.set 4 (some (D.int e)))[2]? = some (some (.tup [.int x, .int y])) := by rw [List.getElem?_set_ne (by decide)]; exact h2
      have l4 : (σ.set 4 (some (D.int e)))[4]? = some (some (.int e)) := List.getElem?_set_self (by omega)
      generalize σ.set 4 (some (D.int e)) = τ at *
      generalize dIn true = di at *
      simp [l2, l4, q], fun _ => by
      have l4 : (σ.set 4 (some (D.int e)))[4]? = some (some (.int e)) := List.getElem?_set_self (by omega)
      simp [l4]⟩
  have sz : ∀ es : List Int, es.length ≤ 2 → (es.filter fun e => !(decide (e = x) || decide (e = y))).length ≤ sizeLine := fun es h => Nat.le_trans (Nat.le_trans (List.length_filter_le _ _) h) (by decide)
  unfold b_missing_ends me
  by_cases h : lo = hi
  · rw [if_pos h]
    have f1 := fl [lo] [some (.int lo), some (.int hi), some (.tup [.int x, .int y]), some (.lst [.int lo]), none]
    have z1 := sz [lo] (by simp)
    generalize ([lo].filter fun e => !(decide (e = x) || decide (e = y))) = fr at *
    generalize fTst (fOp2 (dIn true) (fVar 4) (fVar 2)) = ff at *
    simp [h, s1] at f1 ⊢
    simp [f1, z1]
  · rw [if_neg h]
    have f1 := fl [lo, hi] [some (.int lo), some (.int hi), some (.tup [.int x, .int y]), some (.lst [.int lo, .int hi]), none]
    have z1 := sz [lo, hi] (by simp)
    generalize ([lo, hi].filter fun e => !(decide (e = x) || decide (e = y))) = fr at *
    generalize fTst (fOp2 (dIn true) (fVar 4) (fVar 2)) = ff at *
    simp [h, s2] at f1 ⊢
    simp [f1, z1]
def mr (F : Fm) : List Int := me F.t F.b F.a.1 F.z.1
def mc (F : Fm) : List Int := me F.l F.r F.a.2 F.z.2
theorem mr_eq (F : Fm) (cs : List Cell) : F_Frame_missing_rows [fmD 0 F] cs = .ok (.lst ((mr F).map .int)) cs := by
  have e := missing_eq F.t F.b F.a.1 F.z.1
  have i1 : ∀ (p : Ce) c, dIx (ceD p) (.int 0) c = some (.int p.1, c) := fun p c => rfl
  have s2 : 2 ≤ sizeLine := by decide
  unfold F_Frame_missing_rows mr
  rw [runDef_e, if_pos (show [fmD 0 F].length = 1 from rfl)]
  unfold b_Frame_missing_rows
  simp [lkM1, lkM2, lkM3, i1, e, s2]
theorem mc_eq (F : Fm) (cs : List Cell) : F_Frame_missing_columns [fmD 0 F] cs = .ok (.lst ((mc F).map .int)) cs := by
  have e := missing_eq F.l F.r F.a.2 F.z.2
  have i1 : ∀ (p : Ce) c, dIx (ceD p) (.int 1) c = some (.int p.2, c) := fun p c => rfl
  have s2 : 2 ≤ sizeLine := by decide
  unfold F_Frame_missing_columns mc
  rw [runDef_e, if_pos (show [fmD 0 F].length = 1 from rfl)]
  unfold b_Frame_missing_columns
  simp [lkM1, lkM2, lkM4, i1, e, s2]
/-- the fewest copies -/
def few (F : Fm) : Int := if (mr F).length = 0 ∧ (mc F).length = 0 ∧ F.a = F.z then 0 else 1 + ((max (mr F).length (mc F).length : Nat) : Int)
theorem few_eq (F : Fm) (cs : List Cell) : F_Frame_fewest [fmD 0 F] cs = .ok (.int (few F)) cs := by
  have e1 := mr_eq F
  have e2 := mc_eq F
  have lr : (fmfs F).lookup ("missing_rows" : Str) = none := rfl
  have lc : (fmfs F).lookup ("missing_columns" : Str) = none := rfl
  obtain ⟨m, hm⟩ : ∃ m : Int, m = (if (((mc F).length : Nat) : Int) > (((mr F).length : Nat) : Int) then (((mc F).length : Nat) : Int) else (((mr F).length : Nat) : Int)) := ⟨_, rfl⟩
  have hm2 : m = ((max (mr F).length (mc F).length : Nat) : Int) := by rw [hm]; split <;> omega
  have mx : ∀ c, dMax [.int ((((mr F).map D.int).length : Nat) : Int), .int ((((mc F).map D.int).length : Nat) : Int)] c = some (.int m, c) := fun c => by
    rw [List.length_map, List.length_map, hm]
    rfl
  have dq : ∀ c, dEq false (ceD F.a) (ceD F.z) c = some (.bl (decide (F.a = F.z)), c) := fun c => by rw [dEq_ce]; rfl
  unfold F_Frame_fewest
  rw [runDef_e, if_pos (show [fmD 0 F].length = 1 from rfl)]
  unfold b_Frame_fewest
  generalize dMax = dm at *
  generalize (mr F).map D.int = ml at *
  generalize (mc F).map D.int = cl at *
  have fw : few F = if m = 0 ∧ F.a = F.z then 0 else 1 + m := by
    unfold few
    rw [hm2]
    by_cases q : F.a = F.z
    · by_cases z : (mr F).length = 0 ∧ (mc F).length = 0
      · rw [if_pos ⟨z.1, z.2, q⟩, if_pos ⟨by omega, q⟩]
      · rw [if_neg fun y => z ⟨y.1, y.2.1⟩, if_neg fun y => z (by omega)]
    · rw [if_neg fun y => q y.2.2, if_neg fun y => q y.2]
  rw [fw]
  by_cases z : m = 0
  · by_cases q : F.a = F.z
    · have dq' : ∀ c, dEq false (ceD F.a) (ceD F.z) c = some (.bl true, c) := fun c => by rw [dq, decide_eq_true q]
      rw [if_pos ⟨z, q⟩]
      simp [lkM1, lkM2, lr, lc, e1, e2, mx, dq', z]
    · rw [if_neg fun y => q y.2]
      simp [lkM1, lkM2, lr, lc, e1, e2, mx, dq, z, q]
  · rw [if_neg fun y => z y.1]
    simp [lkM1, lkM2, lr, lc, e1, e2, mx, dq, z]
/-! powers -/
theorem pow_small {b : Int} (h : b.natAbs < 2 ^ 110) (k : Nat) : (b ^ k).natAbs < 2 ^ (110 * k + 1) := by
  rw [Int.natAbs_pow]
  have : b.natAbs ^ k ≤ (2 ^ 110) ^ k := Nat.pow_le_pow_left (Nat.le_of_lt h) k
  rw [← Nat.pow_mul] at this
  exact Nat.lt_of_le_of_lt this (Nat.pow_lt_pow_right (by decide) (by omega))
theorem log_le {n k : Nat} (h : n < 2 ^ k) : n.log2 ≤ k := by
  by_cases z : n = 0
  · rw [z]
    simp
  · exact Nat.le_of_lt ((Nat.log2_lt z).mpr h)
theorem mul_log {i j : Int} {a b : Nat} (h1 : i.natAbs < 2 ^ a) (h2 : j.natAbs < 2 ^ b) (h : a + b < 1000000) : mulOk i j := .inl (by have := log_le h1; have := log_le h2; omega)
def pows (b : Int) (m : Nat) : List D := (List.range (m + 1)).map fun k => .int (b ^ k)
theorem powers_eq {b : Int} (hb : b.natAbs < 2 ^ 110) (m : Nat) (hm : m ≤ 1000) (cs : List Cell) : F_powers_of [.int b, .int m] cs = .ok (.lst (pows b m)) (cs ++ [.dead]) := by
  have s1 : 1 ≤ sizeLine := by decide
  have hlen : ∀ i, (pows b i).length = i + 1 := fun i => by unfold pows; rw [List.length_map, List.length_range]
  have w := while_n (ft := fTst (fOp2 dLe (fCB dLen (aCons (fVar 2) aNil)) (fVar 1))) (fb := b_powers_of_L0) (fun i => [some (.int b), some (.int m), some (.ref cs.length)]) (fun i => cs ++ [.lst (pows b i)]) m (fun i hi => by
    have lst : atI (pows b i) (-1) = some (.int (b ^ i)) := by
      unfold pows
      rw [List.range_succ, List.map_append]
      exact atI_last
    have mo : mulOk (b ^ i) b := mul_log (pow_small hb i) hb (by omega)
    have sz : (pows b i).length < sizeLine := Nat.lt_of_le_of_lt (by rw [hlen]; omega : (pows b i).length ≤ 1001) (by decide)
    have nx : pows b i ++ [.int (b ^ i * b)] = pows b (i + 1) := by
      show _ = (List.range (i + 1 + 1)).map _
      rw [List.range_succ, List.map_append]
      show _ = pows b i ++ [.int (b ^ (i + 1))]
      rw [Int.pow_succ]
    have le : ((pows b i).length : Int) ≤ (m : Int) := by rw [hlen]; omega
    constructor
    · generalize pows b i = pb at *
      simp [le]
    · unfold b_powers_of_L0
      rw [← nx]
      generalize pows b i = pb at *
      generalize b ^ i = bi at *
      simp [lst, mo, sz]) (by
    have le : ¬ ((pows b m).length : Int) ≤ (m : Int) := by rw [hlen]; omega
    generalize pows b m = pb at *
    simp [le])
  unfold F_powers_of
  rw [runDef_e, if_pos (show [D.int b, .int m].length = 2 from rfl)]
  show runO (b_powers_of [some (.int b), some (.int m), none] cs) = _
  unfold b_powers_of
  have e0 : sAsg (fLst false (aCons (fC (.int 1)) aNil)) (gN 2) [some (.int b), some (.int m), none] cs = .nx [some (.int b), some (.int m), some (.ref cs.length)] (cs ++ [.lst (pows b 0)]) := by
    have p0 : pows b 0 = [.int 1] := by simp [pows]
    rw [p0]
    simp [s1]
  rw [sSeq_e, e0, Sr.bind_nx, sSeq_e, w, Sr.bind_nx]
  generalize pows b m = pb at *
  simp
/-! covers -/
def cvfs (lo hi : Int) (ws : List Int) (m : Nat) : List (Str × D) := [("low", .int lo), ("high", .int hi), ("wanted", .lst (ws.map .int)), ("tables", .lst ((List.range (ws.length + 1)).map fun j : Nat => .lst (pows (hi - lo + 1 - j) m)))]
def cvD (lo hi : Int) (ws : List Int) (m : Nat) : D := .ins 1 (cvfs lo hi ws m)
theorem putV1 (v : D) : putD ("low" : Str) v [] = [(("low" : Str), v)] := rfl
theorem putV2 (a v : D) : putD ("high" : Str) v [(("low" : Str), a)] = [(("low" : Str), a), (("high" : Str), v)] := rfl
theorem putV3 (a b v : D) : putD ("wanted" : Str) v [(("low" : Str), a), (("high" : Str), b)] = [(("low" : Str), a), (("high" : Str), b), (("wanted" : Str), v)] := rfl
theorem putV4 (a b d v : D) : putD ("tables" : Str) v [(("low" : Str), a), (("high" : Str), b), (("wanted" : Str), d)] = [(("low" : Str), a), (("high" : Str), b), (("wanted" : Str), d), (("tables" : Str), v)] := rfl
@[simp] theorem ins_cvD {lo hi : Int} {ws : List Int} {m : Nat} {cs : List Cell} : insOf cs (cvD lo hi ws m) = some (1, cvfs lo hi ws m) := rfl
theorem lkV1 {lo hi : Int} {ws : List Int} {m : Nat} : (cvfs lo hi ws m).lookup ("low" : Str) = some (.int lo) := rfl
theorem lkV2 {lo hi : Int} {ws : List Int} {m : Nat} : (cvfs lo hi ws m).lookup ("high" : Str) = some (.int hi) := rfl
theorem lkV3 {lo hi : Int} {ws : List Int} {m : Nat} : (cvfs lo hi ws m).lookup ("wanted" : Str) = some (.lst (ws.map .int)) := rfl
theorem lkV4 {lo hi : Int} {ws : List Int} {m : Nat} : (cvfs lo hi ws m).lookup ("tables" : Str) = some (.lst ((List.range (ws.length + 1)).map fun j : Nat => .lst (pows (hi - lo + 1 - j) m))) := rfl
theorem lkV5 {lo hi : Int} {ws : List Int} {m : Nat} : (cvfs lo hi ws m).lookup ("number_of" : Str) = none := rfl
theorem lkV6 {lo hi : Int} {ws : List Int} {m : Nat} : (cvfs lo hi ws m).lookup ("groups" : Str) = none := rfl
theorem lcM_dd {g : Gt} {ft : Ft} {fe : Fe} {σ : Sd} {α : Type} (f h : α → D) : ∀ (xs : List α) (c : List Cell), (∀ x ∈ xs, ∀ c, ∃ σ1, g (f x) σ c = some σ1 ∧ ft σ1 c = .ok true c ∧ fe σ1 c = .ok (h x) (c ++ [.dead])) → lcM g ft fe σ (xs.map f) c = .ok (xs.map h) (c ++ dd xs.length)
  | [], c, _ => by simp
  | x :: xs, c, H => by
    obtain ⟨σ1, e1, e2, e3⟩ := H x (List.mem_cons_self ..) c
    have ih := lcM_dd f h xs (c ++ [.dead]) fun y hy => H y (List.mem_cons_of_mem _ hy)
    have e : dd (x :: xs).length = [.dead] ++ dd xs.length := by rw [← dd_one, dd_add, Nat.add_comm]; rfl
    rw [List.map_cons, lcM_step e1 e2 e3, ih, e]
    simp
noncomputable abbrev mkVF : Fk := mkK 1 true (fnK 5 0 5 F_Cover___init (fun ds _ => ds))
def tabs (lo hi : Int) (n m : Nat) : List D := (List.range (n + 1)).map fun j : Nat => .lst (pows (hi - lo + 1 - j) m)
theorem tabs_eq (lo hi s : Int) (hs : s = hi - lo + 1) (l : lo ≤ hi) (b : hi - lo < 10 ^ 30) (n : Nat) (hw : n ≤ 2) (m : Nat) (hm : m ≤ 1000) (σ : Sd) (c : List Cell) (hl : σ.length = 7) (h5 : σ[5]? = some (some (.int s))) (h4 : σ[4]? = some (some (.int m))) :
    lcM (gN 6) (fun _ c => .ok true c) (fCall (fnK 2 0 2 F_powers_of (fun ds _ => ds)) (aCons (fOp2 dSub (fVar 5) (fVar 6)) (aCons (fVar 4) aNil)) aNil) σ (rngD 0 (n + 1)) c = .ok (tabs lo hi n m) (c ++ dd (n + 1)) := by
  have big : (10 : Int) ^ 30 < 2 ^ 100 := by decide
  have q := lcM_dd (g := gN 6) (ft := fun _ c => .ok true c) (fe := fCall (fnK 2 0 2 F_powers_of (fun ds _ => ds)) (aCons (fOp2 dSub (fVar 5) (fVar 6)) (aCons (fVar 4) aNil)) aNil) (σ := σ) (fun j : Nat => D.int (0 + j)) (fun j : Nat => .lst (pows (hi - lo + 1 - j) m)) (List.range (n + 1)) c (fun j hj c => ⟨_, rfl, rfl, by
    have hj' : j < n + 1 := List.mem_range.mp hj
    have p := powers_eq (b := s - j) (by omega) m hm c
    have e : (0 : Int) + (j : Int) = j := by omega
    have l5 : (σ.set 6 (some (D.int (0 + (j : Int)))))[5]? = some (some (.int s)) := by rw [List.getElem?_set_ne (by decide)]; exact h5
    have l4 : (σ.set 6 (some (D.int (0 + (j : Int)))))[4]? = some (some (.int m)) := by rw [List.getElem?_set_ne (by decide)]; exact h4
    have l6 : (σ.set 6 (some (D.int (0 + (j : Int)))))[6]? = some (some (.int j)) := by rw [List.getElem?_set_self (by omega), e]
    generalize σ.set 6 (some (D.int (0 + (j : Int)))) = τ at *
    rw [← hs]
    generalize pows (s - j) m = pj at *
    simp [l4, l5, l6, p]⟩)
  rw [List.length_range] at q
  exact q
theorem vinit_eq (lo hi : Int) (l : lo ≤ hi) (b : hi - lo < 10 ^ 30) (W : List D) (hw : W.length ≤ 2) (m : Nat) (hm : m ≤ 1000) (cs : List Cell) : F_Cover___init [.ref cs.length, .int lo, .int hi, .lst W, .int m] (cs ++ [.ins 1 []]) = .ok .non (cs ++ .ins 1 [("low", .int lo), ("high", .int hi), ("wanted", .lst W), ("tables", .lst (tabs lo hi W.length m))] :: dd (W.length + 1)) := by
  obtain ⟨s, hs⟩ : ∃ s : Int, s = hi - lo + 1 := ⟨_, rfl⟩
  have hk := tabs_eq lo hi s hs l b W.length hw m hm
  have sz : (tabs lo hi W.length m).length ≤ sizeLine := Nat.le_trans (by unfold tabs; simp; omega : _ ≤ 3) (by decide)
  have rg : ∀ σ c, iRg1 (aCons (fOp2 (dAdd true) (fCB dLen (aCons (fVar 3) aNil)) (fC (.int 1))) aNil) (some (.ref cs.length) :: some (.int lo) :: some (.int hi) :: some (.lst W) :: σ) c = .ok (rngD 0 (W.length + 1)) c := fun σ c => by
    have q : ∀ τ c, aCons (fOp2 (dAdd true) (fCB dLen (aCons (fVar 3) aNil)) (fC (.int 1))) aNil (some (.ref cs.length) :: some (.int lo) :: some (.int hi) :: some (.lst W) :: τ) c = .ok [.int ((W.length : Int) + 1)] c := fun τ c => by
      simp
    have r62 : -(2 ^ 62) ≤ ((W.length : Int) + 1) ∧ ((W.length : Int) + 1) < 2 ^ 62 := by omega
    have rn : ((W.length : Int) + 1).toNat = W.length + 1 := by omega
    rw [iRg1_e, q, Out.bnd_ok, rgO1_i, if_pos r62, rn]
  unfold F_Cover___init
  rw [runDef_e, if_pos (show [D.ref cs.length, .int lo, .int hi, .lst W, .int m].length = 5 from rfl)]
  show runO (b_Cover___init [some (.ref cs.length), some (.int lo), some (.int hi), some (.lst W), some (.int m), none, none] _) = _
  unfold b_Cover___init
  have e1 : sFld [1] "low" (fVar 1) (fVar 0) [some (.ref cs.length), some (.int lo), some (.int hi), some (.lst W), some (.int m), none, none] (cs ++ [.ins 1 []]) = .nx [some (.ref cs.length), some (.int lo), some (.int hi), some (.lst W), some (.int m), none, none] (cs ++ [.ins 1 [("low", .int lo)]]) := by
    simp [putV1]
  have e2 : sFld [1] "high" (fVar 2) (fVar 0) [some (.ref cs.length), some (.int lo), some (.int hi), some (.lst W), some (.int m), none, none] (cs ++ [.ins 1 [("low", .int lo)]]) = .nx [some (.ref cs.length), some (.int lo), some (.int hi), some (.lst W), some (.int m), none, none] (cs ++ [.ins 1 [("low", .int lo), ("high", .int hi)]]) := by
    simp [putV2]
  have e3 : sFld [1] "wanted" (fVar 3) (fVar 0) [some (.ref cs.length), some (.int lo), some (.int hi), some (.lst W), some (.int m), none, none] (cs ++ [.ins 1 [("low", .int lo), ("high", .int hi)]]) = .nx [some (.ref cs.length), some (.int lo), some (.int hi), some (.lst W), some (.int m), none, none] (cs ++ [.ins 1 [("low", .int lo), ("high", .int hi), ("wanted", .lst W)]]) := by
    simp [putV3]
  have e4 : ∀ c, sAsg (fOp2 (dAdd true) (fOp2 dSub (fVar 2) (fVar 1)) (fC (.int 1))) (gN 5) [some (.ref cs.length), some (.int lo), some (.int hi), some (.lst W), some (.int m), none, none] c = .nx [some (.ref cs.length), some (.int lo), some (.int hi), some (.lst W), some (.int m), some (.int s), none] c := fun c => by
    simp [← hs]
  rw [sSeq_e, e1, Sr.bind_nx, sSeq_e, e2, Sr.bind_nx, sSeq_e, e3, Sr.bind_nx, sSeq_e, e4, Sr.bind_nx]
  have e5 : ∀ c, fLc true (iRg1 (aCons (fOp2 (dAdd true) (fCB dLen (aCons (fVar 3) aNil)) (fC (.int 1))) aNil)) (gN 6) (fun _ c => .ok true c) (fCall (fnK 2 0 2 F_powers_of (fun ds _ => ds)) (aCons (fOp2 dSub (fVar 5) (fVar 6)) (aCons (fVar 4) aNil)) aNil) [6] [some (.ref cs.length), some (.int lo), some (.int hi), some (.lst W), some (.int m), some (.int s), none] c = .ok (.lst (tabs lo hi W.length m)) (c ++ dd (W.length + 1)) := fun c => by
    have hk' := hk [some (.ref cs.length), some (.int lo), some (.int hi), some (.lst W), some (.int m), some (.int s), none] c rfl rfl rfl
    rw [fLc_e, rg, Out.bnd_ok]
    show lcE true (lcM _ _ _ [some (.ref cs.length), some (.int lo), some (.int hi), some (.lst W), some (.int m), some (.int s), none] (rngD 0 (W.length + 1)) c) = _
    rw [hk']
    simp [sz]
  unfold b_Cover___init_4
  rw [sFld_e, e5]
  generalize tabs lo hi W.length m = tb at *
  simp [putV4]
theorem mkV (lo hi : Int) (l : lo ≤ hi) (b : hi - lo < 10 ^ 30) (ws : List Int) (hw : ws.length ≤ 2) (m : Nat) (hm : m ≤ 1000) (cs : List Cell) : mkVF [.int lo, .int hi, .lst (ws.map .int), .int m] [] cs = .ok (cvD lo hi ws m) (cs ++ dd (ws.length + 2)) := by
  have hF := vinit_eq lo hi l b (ws.map .int) (by rw [List.length_map]; exact hw) m hm cs
  rw [List.length_map] at hF
  show mkK _ _ _ _ _ _ = _
  have ed : dd (ws.length + 2) = .dead :: dd (ws.length + 1) := rfl
  rw [mkK_e, ed]
  show _ = Out.ok (D.ins 1 [("low", .int lo), ("high", .int hi), ("wanted", .lst (ws.map .int)), ("tables", .lst (tabs lo hi ws.length m))]) _
  generalize tabs lo hi ws.length m = tb at *
  generalize F_Cover___init = FI at *
  simp [hF]
theorem pows_at {b : Int} {m k : Nat} (h : k ≤ m) : atI (pows b m) k = some (.int (b ^ k)) := by
  refine PV.atI_nat ?_
  unfold pows
  rw [List.getElem?_map, List.getElem?_range (by omega)]
  rfl
theorem tabs_at {lo hi : Int} {n m j : Nat} (h : j ≤ n) : atI (tabs lo hi n m) j = some (.lst (pows (hi - lo + 1 - j) m)) := by
  refine PV.atI_nat ?_
  unfold tabs
  rw [List.getElem?_map, List.getElem?_range (by omega)]
  rfl
theorem two_mul_ok {b : Int} (h : b.natAbs < 2 ^ 110) {k : Nat} (hk : k ≤ 1000) : mulOk 2 (b ^ k) := mul_log (a := 2) (by decide) (pow_small h k) (by omega)
/-- number_of -/
theorem number_eq {lo hi : Int} (l : lo ≤ hi) (b : hi - lo < 10 ^ 30) {ws : List Int} {m : Nat} (hm : m ≤ 1000) (w : List Int) (hw : w.length ≤ ws.length) (h2 : ws.length ≤ 2) (k : Nat) (hk : k ≤ m) (cs : List Cell) :
    F_Cover_number_of [cvD lo hi ws m, .lst (w.map .int), .int k] cs = .ok (.int (nof (hi - lo + 1) w.length k)) cs := by
  have big : (10 : Int) ^ 30 < 2 ^ 100 := by decide
  obtain ⟨s, hs⟩ : ∃ s : Int, s = hi - lo + 1 := ⟨_, rfl⟩
  have lk : (cvfs lo hi ws m).lookup ("tables" : Str) = some (.lst (tabs lo hi ws.length m)) := rfl
  have t0 : atI (tabs lo hi ws.length m) 0 = some (.lst (pows s m)) := by rw [hs]; have := @tabs_at lo hi ws.length m 0 (by omega); simpa using this
  have p0 : atI (pows s m) k = some (.int (s ^ k)) := pows_at hk
  have hwl : (w.map D.int).length = w.length := List.length_map ..
  unfold F_Cover_number_of
  rw [runDef_e, if_pos (show [cvD lo hi ws m, D.lst (w.map .int), .int k].length = 3 from rfl)]
  show runO (b_Cover_number_of [some (cvD lo hi ws m), some (.lst (w.map .int)), some (.int k)] cs) = _
  rw [← hs]
  unfold b_Cover_number_of
  have c : w.length = 0 ∨ w.length = 1 ∨ w.length = 2 := by omega
  rcases c with c | c | c
  · rw [c, nof0]
    generalize pows s m = P0 at *
    generalize w.map D.int = W at *
    rw [c] at hwl
    generalize s ^ k = A at *
    simp [hwl, lk, t0, p0]
  · have t1 : atI (tabs lo hi ws.length m) 1 = some (.lst (pows (s - 1) m)) := by rw [hs]; exact @tabs_at lo hi ws.length m 1 (by omega)
    have p1 : atI (pows (s - 1) m) k = some (.int ((s - 1) ^ k)) := pows_at hk
    rw [c, nof1]
    generalize pows (s - 1) m = P1 at *
    generalize pows s m = P0 at *
    generalize w.map D.int = W at *
    rw [c] at hwl
    generalize (s - 1) ^ k = B at *
    generalize s ^ k = A at *
    simp [hwl, lk, t0, p0, t1, p1]
  · have t1 : atI (tabs lo hi ws.length m) 1 = some (.lst (pows (s - 1) m)) := by rw [hs]; exact @tabs_at lo hi ws.length m 1 (by omega)
    have p1 : atI (pows (s - 1) m) k = some (.int ((s - 1) ^ k)) := pows_at hk
    have t2 : atI (tabs lo hi ws.length m) 2 = some (.lst (pows (s - 2) m)) := by rw [hs]; exact @tabs_at lo hi ws.length m 2 (by omega)
    have p2 : atI (pows (s - 2) m) k = some (.int ((s - 2) ^ k)) := pows_at hk
    have mo : mulOk 2 ((s - 1) ^ k) := two_mul_ok (by omega) (by omega)
    rw [c, nof2]
    generalize pows (s - 1) m = P1 at *
    generalize pows (s - 2) m = P2 at *
    generalize pows s m = P0 at *
    generalize w.map D.int = W at *
    rw [c] at hwl
    generalize (s - 1) ^ k = B at *
    generalize (s - 2) ^ k = C at *
    generalize s ^ k = A at *
    simp [hwl, lk, t0, p0, t1, p1, t2, p2, mo]
/-! taken -/
def wtF (s : Int) (w : List Int) (k : Nat) (f : Int) (st : Int) : Int := nof s (wo w st).length k * f
theorem wo_len (w : List Int) (p : Int) : (wo w p).length ≤ w.length := List.length_filter_le _ _
theorem nof_bd {s : Int} (hs : s.natAbs + 2 < 2 ^ 105) (n k : Nat) (hk : k ≤ 1000) : (nof s n k).natAbs < 2 ^ 120000 := by
  have a := pow_small (b := s) (by omega) k
  have b := pow_small (b := s - 1) (by omega) k
  have c := pow_small (b := s - 2) (by omega) k
  have e : 2 ^ (110 * k + 1) ≤ 2 ^ 119990 := Nat.pow_le_pow_right (by decide) (by omega)
  have e2 : (2 : Nat) ^ 120000 = 2 ^ 10 * 2 ^ 119990 := by rw [← Nat.pow_add]
  rw [e2]
  unfold nof
  generalize (2 : Nat) ^ 119990 = P at *
  generalize (2 : Nat) ^ (110 * k + 1) = Q at *
  generalize s ^ k = A at *
  generalize (s - 1) ^ k = B at *
  generalize (s - 2) ^ k = C at *
  have : (2 : Nat) ^ 10 = 1024 := by decide
  rw [this]
  split
  · omega
  · split <;> omega
theorem forL_rt {g : Gt} {fb : Fs} {d : D} {ds : List D} {σ σ1 : Sd} {c c2 : List Cell} {r : D} (h1 : g d σ c = some σ1) (h2 : fb σ1 c = .rt r c2) : forL g fb (d :: ds) σ c = .rt r c2 := by
  rw [forL_cons, h1]
  show fbO (fb σ1 c) _ = _
  rw [h2]
  rfl
/-! both ranges -/
def cvR (F : Fm) (m : Nat) : D := cvD F.t F.b (mr F) m
def cvC (F : Fm) (m : Nat) : D := cvD F.l F.r (mc F) m
def szR (F : Fm) : Int := F.b - F.t + 1
def szC (F : Fm) : Int := F.r - F.l + 1
def nwith (F : Fm) (n : Nat) : Int := if n = 0 then (if few F = 0 then 1 else 0) else nof (szR F) (mr F).length (n - 1) * nof (szC F) (mc F).length (n - 1)
def cvk (F : Fm) : Nat := ((mr F).length + 2) + ((mc F).length + 2)
theorem covers_eq (F : Fm) (ok : F.ok) (m : Nat) (hm : m ≤ 1000) (cs : List Cell) : F_covers_of [fmD 0 F, .int m] cs = .ok (.tup [cvR F m, cvC F m]) (cs ++ dd (cvk F)) := by
  have a1 := ok.a1
  have a2 := ok.a2
  have b1 := ok.b1
  have r1 := ok.r1
  have t0 := ok.t0
  have l0 := ok.l0
  have v1 := fun cs => mkV F.t F.b (by omega) (by omega) (mr F) me_len m hm cs
  have v2 := fun cs => mkV F.l F.r (by omega) (by omega) (mc F) me_len m hm cs
  have e1 := mr_eq F
  have e2 := mc_eq F
  have p1 := ptop_eq F
  have p2 := pbot_eq F
  have p3 := plef_eq F
  have p4 := prig_eq F
  have lr : (fmfs F).lookup ("missing_rows" : Str) = none := rfl
  have lc : (fmfs F).lookup ("missing_columns" : Str) = none := rfl
  have ic : ∀ cs, insOf cs (fmD 0 F) = some (0, fmfs F) := fun cs => rfl
  have s2 : 2 ≤ sizeLine := by decide
  have ed : cs ++ dd (cvk F) = cs ++ dd ((mr F).length + 2) ++ dd ((mc F).length + 2) := by unfold cvk; rw [app_dd]
  unfold F_covers_of cvR cvC
  rw [runDef_e, if_pos (show [fmD 0 F, D.int m].length = 2 from rfl)]
  show runO (b_covers_of [some (fmD 0 F), some (.int m), none] cs) = _
  rw [ed]
  unfold b_covers_of
  show runO (sSeq (sAsg (fCall mkVF _ _) _) (sRet (fTup (aCons (fVar 2) (aCons (fCall mkVF _ _) aNil)))) _ _) = _
  generalize mkVF = mv at *
  generalize cvD F.t F.b (mr F) m = c1 at *
  generalize cvD F.l F.r (mc F) m = c2 at *
  generalize (mr F).map D.int = M1 at *
  generalize (mc F).map D.int = M2 at *
  generalize dd ((mr F).length + 2) = d1 at *
  generalize dd ((mc F).length + 2) = d2 at *
  generalize fmD 0 F = fm at *
  generalize fmfs F = ff at *
  simp [ic, lr, lc, e1, e2, p1, p2, p3, p4, v1, v2, s2]
theorem need_eq (n : Nat) (h : n ≤ 299) (cs : List Cell) : F_need_copies [.int n] cs = .ok .non cs := by
  unfold F_need_copies
  rw [runDef_e, if_pos (show [D.int n].length = 1 from rfl)]
  have h0 : (0 : Int) ≤ (n : Int) := by omega
  have h1 : (n : Int) ≤ 299 := by omega
  simp [b_need_copies, h0, h1]
theorem numberR (F : Fm) (ok : F.ok) (m : Nat) (hm : m ≤ 1000) (w : List Int) (hw : w.length ≤ (mr F).length) (k : Nat) (hk : k ≤ m) (cs : List Cell) : F_Cover_number_of [cvR F m, .lst (w.map .int), .int k] cs = .ok (.int (nof (szR F) w.length k)) cs := by
  have a1 := ok.a1
  have b1 := ok.b1
  have t0 := ok.t0
  exact number_eq (by omega) (by omega) hm w hw me_len k hk cs
theorem numberC (F : Fm) (ok : F.ok) (m : Nat) (hm : m ≤ 1000) (w : List Int) (hw : w.length ≤ (mc F).length) (k : Nat) (hk : k ≤ m) (cs : List Cell) : F_Cover_number_of [cvC F m, .lst (w.map .int), .int k] cs = .ok (.int (nof (szC F) w.length k)) cs := by
  have a2 := ok.a2
  have r1 := ok.r1
  have l0 := ok.l0
  exact number_eq (by omega) (by omega) hm w hw me_len k hk cs
theorem nofR_bd (F : Fm) (ok : F.ok) (n k : Nat) (hk : k ≤ 1000) : (nof (szR F) n k).natAbs < 2 ^ 120000 := by
  have big : (10 : Int) ^ 30 < 2 ^ 100 := by decide
  have a1 := ok.a1
  have b1 := ok.b1
  have t0 := ok.t0
  exact nof_bd (by unfold szR; omega) n k hk
theorem nofC_bd (F : Fm) (ok : F.ok) (n k : Nat) (hk : k ≤ 1000) : (nof (szC F) n k).natAbs < 2 ^ 120000 := by
  have big : (10 : Int) ^ 30 < 2 ^ 100 := by decide
  have a1 := ok.a2
  have b1 := ok.r1
  have t0 := ok.l0
  exact nof_bd (by unfold szC; omega) n k hk
/-- number_with -/
theorem nwith_eq (F : Fm) (ok : F.ok) (n : Nat) (hn : n ≤ 300) (cs : List Cell) : F_number_with [fmD 0 F, .int n] cs = .ok (.int (nwith F n)) (cs ++ dd (if n = 0 then 0 else cvk F)) := by
  have ic : ∀ cs, insOf cs (fmD 0 F) = some (0, fmfs F) := fun cs => rfl
  have lf : (fmfs F).lookup ("fewest" : Str) = none := rfl
  have fe := few_eq F
  have di : ∀ (b : Bool) c, dInt [.bl b] c = some (.int (if b then 1 else 0), c) := fun b c => by cases b <;> rfl
  unfold F_number_with
  rw [runDef_e, if_pos (show [fmD 0 F, D.int n].length = 2 from rfl)]
  show runO (b_number_with [some (fmD 0 F), some (.int n), none, none] cs) = _
  unfold b_number_with nwith
  by_cases z : n = 0
  · subst z
    have z0 : ((0 : Nat) : Int) = 0 := rfl
    rw [z0, if_pos rfl, if_pos rfl]
    generalize dInt = dI at *
    generalize fmD 0 F = fm at *
    generalize fmfs F = ff at *
    by_cases y : few F = 0
    · rw [if_pos y]
      rw [y] at fe
      simp [ic, lf, fe, di]
    · rw [if_neg y]
      simp [ic, lf, fe, di, y]
  · rw [if_neg z, if_neg z]
    have z' : ¬ (n : Int) = 0 := by omega
    have en : (n : Int) - 1 = ((n - 1 : Nat) : Int) := by omega
    have cv := covers_eq F ok (n - 1) (by omega)
    have n1 := numberR F ok (n - 1) (by omega) (mr F) (Nat.le_refl _) (n - 1) (Nat.le_refl _)
    have n2 := numberC F ok (n - 1) (by omega) (mc F) (Nat.le_refl _) (n - 1) (Nat.le_refl _)
    have mo : mulOk (nof (szR F) (mr F).length (n - 1)) (nof (szC F) (mc F).length (n - 1)) := mul_log (nofR_bd F ok _ _ (by omega)) (nofC_bd F ok _ _ (by omega)) (by decide)
    have i1 : ∀ cs, insOf cs (cvR F (n - 1)) = some (1, cvfs F.t F.b (mr F) (n - 1)) := fun cs => rfl
    have i2 : ∀ cs, insOf cs (cvC F (n - 1)) = some (1, cvfs F.l F.r (mc F) (n - 1)) := fun cs => rfl
    have k1 : (cvfs F.t F.b (mr F) (n - 1)).lookup ("wanted" : Str) = some (.lst ((mr F).map .int)) := rfl
    have k2 : (cvfs F.l F.r (mc F) (n - 1)).lookup ("wanted" : Str) = some (.lst ((mc F).map .int)) := rfl
    have o1 : (cvfs F.t F.b (mr F) (n - 1)).lookup ("number_of" : Str) = none := rfl
    have o2 : (cvfs F.l F.r (mc F) (n - 1)).lookup ("number_of" : Str) = none := rfl
    generalize nof (szR F) (mr F).length (n - 1) = N1 at *
    generalize nof (szC F) (mc F).length (n - 1) = N2 at *
    generalize cvR F (n - 1) = c1 at *
    generalize cvC F (n - 1) = c2 at *
    generalize cvfs F.t F.b (mr F) (n - 1) = f1 at *
    generalize cvfs F.l F.r (mc F) (n - 1) = f2 at *
    generalize (mr F).map D.int = M1 at *
    generalize (mc F).map D.int = M2 at *
    generalize dd (cvk F) = dk at *
    generalize fmD 0 F = fm at *
    simp [z, en, cv, i1, i2, k1, k2, o1, o2, n1, n2, mo]
theorem count_eq (F : Fm) (ok : F.ok) (n : Nat) (hn : n ≤ 299) (cs : List Cell) : F_count_ways [fmD 0 F, .int n] cs = .ok (.int (nwith F n)) (cs ++ dd (if n = 0 then 0 else cvk F)) := by
  have e1 := need_eq n hn
  have e2 := nwith_eq F ok n (by omega)
  unfold F_count_ways
  rw [runDef_e, if_pos (show [fmD 0 F, D.int n].length = 2 from rfl)]
  generalize fmD 0 F = fm at *
  simp [b_count_ways, e1, e2]

theorem pick_is : F_law_pick = pickF := rfl
theorem feed_is : F_law_feed = feedF := rfl
theorem rect_is : F_law_rect = rectF := rfl
end Ck22


namespace Ck22
open PySem PySem.Spec PyProof.Rows L2 PV
/-! counting by lists that have some of the missing ends -/
/-- the row of counts after some turns -/
def cts (s : Int) (n m : Nat) : List Int := if n = 0 then [s ^ m] else if n = 1 then [(s - 1) ^ m, s ^ m - (s - 1) ^ m] else [(s - 2) ^ m, 2 * ((s - 1) ^ m - (s - 2) ^ m), s ^ m - 2 * (s - 1) ^ m + (s - 2) ^ m]
theorem lists_turn {s : Int} (hs : s.natAbs + 2 < 2 ^ 105) (n m : Nat) (hn : n ≤ 2) (k : Nat) (hk : k < 999) (x4 x5 x6 x7 : Option D) (c : List Cell) : ∃ y5 y6 y7, b_law_lists_L1 [some (.int s), some (.int n), some (.int m), some (.lst ((cts s n k).map .int)), x4, x5, x6, x7] c =
    .nx [some (.int s), some (.int n), some (.int m), some (.lst ((cts s n (k + 1)).map .int)), x4, y5, y6, y7] (c ++ [.dead]) := by
  have s1 : 1 ≤ sizeLine := by decide
  have s2 : 2 ≤ sizeLine := by decide
  have s3 : 3 ≤ sizeLine := by decide
  have A := pow_small (b := s) (by omega) k
  have B := pow_small (b := s - 1) (by omega) k
  have C := pow_small (b := s - 2) (by omega) k
  have e : 2 ^ (110 * k + 1) ≤ 2 ^ 119990 := Nat.pow_le_pow_right (by decide) (by omega)
  have e2 : (2 : Nat) ^ 120000 = 2 ^ 10 * 2 ^ 119990 := by rw [← Nat.pow_add]
  have e10 : (2 : Nat) ^ 10 = 1024 := by decide
  rw [e10] at e2
  have q : ∀ i j : Int, i.natAbs < 2 ^ 120000 → j.natAbs < 2 ^ 110 → mulOk i j := fun i j h1 h2 => mul_log h1 h2 (by decide)
  have pa : s ^ (k + 1) = s ^ k * s := Int.pow_succ ..
  have pb : (s - 1) ^ (k + 1) = (s - 1) ^ k * (s - 1) := Int.pow_succ ..
  have pc : (s - 2) ^ (k + 1) = (s - 2) ^ k * (s - 2) := Int.pow_succ ..
  generalize (2 : Nat) ^ 120000 = Z at *
  generalize (2 : Nat) ^ 119990 = P at *
  generalize (2 : Nat) ^ (110 * k + 1) = Q at *
  have c3 : n = 0 ∨ n = 1 ∨ n = 2 := by omega
  have en1 : ∀ x, enD 0 [x] = [.tup [.int 0, x]] := fun x => rfl
  have en2 : ∀ x y, enD 0 [x, y] = [.tup [.int 0, x], .tup [.int 1, y]] := fun x y => rfl
  have en3 : ∀ x y z, enD 0 [x, y, z] = [.tup [.int 0, x], .tup [.int 1, y], .tup [.int 2, z]] := fun x y z => rfl
  have ix10 : ixN 1 0 = some 0 := rfl
  have ix20 : ixN 2 0 = some 0 := rfl
  have ix21 : ixN 2 1 = some 1 := rfl
  have ix30 : ixN 3 0 = some 0 := rfl
  have ix31 : ixN 3 1 = some 1 := rfl
  have ix32 : ixN 3 2 = some 2 := rfl
  unfold b_law_lists_L1 b_law_lists_L0
  rcases c3 with rfl | rfl | rfl
  · have r1 : ∀ c, dMul false (.lst [.int 0]) (.int 1) c = some (.ref c.length, c ++ [.lst [.int 0]]) := fun c => rfl
    have ea : cts s 0 k = [s ^ k] := rfl
    have eb : cts s 0 (k + 1) = [s ^ k * s] := by rw [← pa]; rfl
    rw [ea, eb]
    generalize s ^ k = a at *
    have m1 := q a s (by omega) (by omega)
    generalize dMul false = dz at *
    simp [s1, r1, m1, enm2, en1, en2, en3, ix10, ix20, ix21, ix30, ix31, ix32]
  · have r1 : ∀ c, dMul false (.lst [.int 0]) (.int 2) c = some (.ref c.length, c ++ [.lst [.int 0, .int 0]]) := fun c => rfl
    have ea : cts s 1 k = [(s - 1) ^ k, s ^ k - (s - 1) ^ k] := rfl
    have eb : cts s 1 (k + 1) = [(s - 1) ^ k * (s - 1), (s - 1) ^ k * 1 + (s ^ k - (s - 1) ^ k) * s] := by
      show [(s - 1) ^ (k + 1), s ^ (k + 1) - (s - 1) ^ (k + 1)] = _
      rw [pa, pb, Int.mul_one, Int.sub_mul, Int.mul_sub]
      congr 2
      omega
    rw [ea, eb]
    generalize s ^ k = a at *
    generalize (s - 1) ^ k = b at *
    have m1 := q b (s - 1) (by omega) (by omega)
    have m2 := q b 1 (by omega) (by decide)
    have m3 := q (a - b) s (by omega) (by omega)
    generalize a - b = d at *
    generalize dMul false = dz at *
    simp [s1, s2, r1, m1, m2, m3, enm2, en1, en2, en3, ix10, ix20, ix21, ix30, ix31, ix32]
  · have r1 : ∀ c, dMul false (.lst [.int 0]) (.int 3) c = some (.ref c.length, c ++ [.lst [.int 0, .int 0, .int 0]]) := fun c => rfl
    have ea : cts s 2 k = [(s - 2) ^ k, 2 * ((s - 1) ^ k - (s - 2) ^ k), s ^ k - 2 * (s - 1) ^ k + (s - 2) ^ k] := rfl
    have eb : cts s 2 (k + 1) = [(s - 2) ^ k * (s - 2), (s - 2) ^ k * 2 + 2 * ((s - 1) ^ k - (s - 2) ^ k) * (s - 1), 2 * ((s - 1) ^ k - (s - 2) ^ k) * 1 + (s ^ k - 2 * (s - 1) ^ k + (s - 2) ^ k) * s] := by
      show [(s - 2) ^ (k + 1), 2 * ((s - 1) ^ (k + 1) - (s - 2) ^ (k + 1)), s ^ (k + 1) - 2 * (s - 1) ^ (k + 1) + (s - 2) ^ (k + 1)] = _
      rw [pa, pb, pc]
      generalize s ^ k = a
      generalize (s - 1) ^ k = b
      generalize (s - 2) ^ k = d
      have x1 : (2 * (b - d)) * (s - 1) = 2 * ((b - d) * (s - 1)) := Int.mul_assoc ..
      have x2 : (a - 2 * b + d) * s = a * s - 2 * (b * s) + d * s := by rw [Int.add_mul, Int.sub_mul, Int.mul_assoc]
      have y1 : b * (s - 1) = b * s - b := by rw [Int.mul_sub, Int.mul_one]
      have y2 : d * (s - 2) = d * s - d * 2 := by rw [Int.mul_sub]
      have y3 : (b - d) * (s - 1) = b * s - d * s - (b - d) := by rw [Int.mul_sub, Int.mul_one, Int.sub_mul]
      have z1 : 2 * (b * (s - 1) - d * (s - 2)) = d * 2 + 2 * (b - d) * (s - 1) := by rw [x1, y1, y2, y3]; omega
      have z2 : a * s - 2 * (b * (s - 1)) + d * (s - 2) = 2 * (b - d) * 1 + (a - 2 * b + d) * s := by rw [x2, y1, y2, Int.mul_one]; omega
      rw [z1, z2]
    rw [ea, eb]
    generalize s ^ k = a at *
    generalize (s - 1) ^ k = b at *
    generalize (s - 2) ^ k = d at *
    have m1 := q d (s - 2) (by omega) (by omega)
    have m2 := q d 2 (by omega) (by decide)
    have m3 := q (2 * (b - d)) (s - 1) (by omega) (by omega)
    have m4 := q (2 * (b - d)) 1 (by omega) (by decide)
    have m5 := q (a - 2 * b + d) s (by omega) (by omega)
    generalize a - 2 * b + d = y at *
    generalize 2 * (b - d) = x at *
    generalize dMul false = dz at *
    simp [s1, s2, s3, r1, m1, m2, m3, m4, m5, enm2, en1, en2, en3, ix10, ix20, ix21, ix30, ix31, ix32]
theorem lists_eq {s : Int} (hs : s.natAbs + 2 < 2 ^ 105) (n : Nat) (hn : n ≤ 2) (m : Nat) (hm : m ≤ 999) (cs : List Cell) : ∃ t, F_law_lists [.int s, .int n, .int m] cs = .ok (.int (nof s n m)) (cs ++ t) := by
  have z : [D.int 1] ++ rep n [D.int 0] = (cts s n 0).map .int := by
    have c3 : n = 0 ∨ n = 1 ∨ n = 2 := by omega
    rcases c3 with rfl | rfl | rfl <;> simp [cts, rep]
  have zl : (cts s n 0).length = n + 1 := by
    have c3 : n = 0 ∨ n = 1 ∨ n = 2 := by omega
    rcases c3 with rfl | rfl | rfl <;> rfl
  have e0 : sAsg (fOp2 (dAdd true) (fLst true (aCons (fC (.int 1)) aNil)) (fOp2 (dMul true) (fLst true (aCons (fC (.int 0)) aNil)) (fVar 1))) (gN 3) [some (.int s), some (.int n), some (.int m), none, none, none, none, none] cs = .nx [some (.int s), some (.int n), some (.int m), some (.lst ((cts s n 0).map .int)), none, none, none, none] cs := by
    rw [← z]
    have c3 : n = 0 ∨ n = 1 ∨ n = 2 := by omega
    rcases c3 with rfl | rfl | rfl <;> rfl
  have st : ∀ j, j ≤ m → ∃ y4 y5 y6 y7 t, forL (gN 4) b_law_lists_L1 (rngD 0 j) [some (.int s), some (.int n), some (.int m), some (.lst ((cts s n 0).map .int)), none, none, none, none] cs = .nx [some (.int s), some (.int n), some (.int m), some (.lst ((cts s n j).map .int)), y4, y5, y6, y7] (cs ++ t) := fun j hj => by
    obtain ⟨σ', c', e, y4, y5, y6, y7, t, rfl, rfl⟩ := forL_all (g := gN 4) (fb := b_law_lists_L1) (ds := rngD 0 j) (σ := [some (.int s), some (.int n), some (.int m), some (.lst ((cts s n 0).map .int)), none, none, none, none]) (c := cs)
      (fun i σ c => ∃ y4 y5 y6 y7 t, σ = [some (.int s), some (.int n), some (.int m), some (.lst ((cts s n i).map .int)), y4, y5, y6, y7] ∧ c = cs ++ t)
      ⟨none, none, none, none, [], rfl, by simp⟩ (by
        rintro i d σ c hd ⟨y4, y5, y6, y7, t, rfl, rfl⟩
        obtain ⟨hi, rfl⟩ := rngD_get hd
        obtain ⟨z5, z6, z7, e⟩ := lists_turn hs n m hn i (by omega) (some (.int (0 + i))) y5 y6 y7 (cs ++ t)
        exact ⟨_, _, _, rfl, e, _, _, _, _, t ++ [.dead], rfl, by simp⟩)
    have hl : (rngD 0 j).length = j := by simp [rngD]
    rw [hl] at e
    exact ⟨y4, y5, y6, y7, t, e⟩
  obtain ⟨y4, y5, y6, y7, t, e⟩ := st m (Nat.le_refl _)
  have it : iRg1 (aCons (fVar 2) aNil) [some (.int s), some (.int n), some (.int m), some (.lst ((cts s n 0).map .int)), none, none, none, none] cs = .ok (rngD 0 m) cs := by
    have q : aCons (fVar 2) aNil [some (.int s), some (.int n), some (.int m), some (.lst ((cts s n 0).map .int)), none, none, none, none] cs = .ok [.int m] cs := rfl
    have r62 : -(2 ^ 62) ≤ (m : Int) ∧ (m : Int) < 2 ^ 62 := by omega
    have rn : (m : Int).toNat = m := by omega
    rw [iRg1_e, q, Out.bnd_ok, rgO1_i, if_pos r62, rn]
  have lst : atI ((cts s n m).map D.int) n = some (.int (nof s n m)) := by
    have c3 : n = 0 ∨ n = 1 ∨ n = 2 := by omega
    rcases c3 with rfl | rfl | rfl <;> rfl
  refine ⟨t, ?_⟩
  unfold F_law_lists
  rw [runDef_e, if_pos (show [D.int s, .int n, .int m].length = 3 from rfl)]
  show runO (b_law_lists [some (.int s), some (.int n), some (.int m), none, none, none, none, none] cs) = _
  unfold b_law_lists
  rw [sSeq_e, e0, Sr.bind_nx, sSeq_e, sFor_e, it, sOfL_ok, e, Sr.bind_nx]
  generalize (cts s n m).map D.int = L at *
  generalize nof s n m = N at *
  simp [lst]
/-! the missing ends by sorting -/
theorem srt2 {x y : Int} (h : x ≤ y) : srt [x, y] = if x = y then [x] else [x, y] := by
  show (if x < y then [x, y] else if x = y then [y] else y :: insI x []) = _
  by_cases e : x = y
  · rw [if_pos e, if_neg (by omega), if_pos e, e]
  · rw [if_pos (show x < y by omega), if_neg e]
theorem dSS2 {x y : Int} (h : x ≤ y) (c : List Cell) : dSS [.lst [.int x, .int y]] c = some (.lst ((if x = y then [x] else [x, y]).map .int), c) := by
  rw [← srt2 h]
  rfl
theorem ends_lc (x y u v : Int) (fa : Fe) (σ : Sd) (hσ : σ.length = 9) (c : List Cell) (hf : ∀ e, fa (σ.set 8 (some (.int e))) c = .ok (.tup [.int u, .int v]) c) : lcM (gN 8) (fTst (fOp2 (dIn true) (fVar 8) fa)) (fVar 8) σ ((if x = y then [x] else [x, y]).map .int) c = .ok ((me x y u v).map .int) c :=
  lcM_fil D.int D.int _ _ fun e he => ⟨_, rfl, by
    have q := fun c => dIn_t2 true e u v c
    have f := hf e
    have l8 : (σ.set 8 (some (D.int e)))[8]? = some (some (.int e)) := List.getElem?_set_self (by omega)
    generalize σ.set 8 (some (D.int e)) = τ at *
    generalize dIn true = di at *
    simp [l8, f, q], fun _ => by
    have l8 : (σ.set 8 (some (D.int e)))[8]? = some (some (.int e)) := List.getElem?_set_self (by omega)
    simp [l8]⟩
theorem ends_eq (F : Fm) (ok : F.ok) (cs : List Cell) : F_law_ends [sixD F] cs = .ok (.lst [.lst ((mr F).map .int), .lst ((mc F).map .int)]) cs := by
  have a1 := ok.a1
  have a2 := ok.a2
  have q1 := fun c => dSS2 (x := F.t) (y := F.b) (by omega) c
  have q2 := fun c => dSS2 (x := F.l) (y := F.r) (by omega) c
  have i0 : ∀ (p : Ce) c, dIx (ceD p) (.int 0) c = some (.int p.1, c) := fun p c => rfl
  have i1 : ∀ (p : Ce) c, dIx (ceD p) (.int 1) c = some (.int p.2, c) := fun p c => rfl
  have s2 : 2 ≤ sizeLine := by decide
  have m1 : ((mr F).map D.int).length ≤ sizeLine := by rw [List.length_map]; exact Nat.le_trans me_len (by decide)
  have m2 : ((mc F).map D.int).length ≤ sizeLine := by rw [List.length_map]; exact Nat.le_trans me_len (by decide)
  have l1 : ∀ c, lcM (gN 8) (fTst (fOp2 (dIn true) (fVar 8) (fTup (aCons (fOp2 dIx (fVar 1) (fC (.int 0))) (aCons (fOp2 dIx (fVar 2) (fC (.int 0))) aNil))))) (fVar 8) [some (sixD F), some (ceD F.a), some (ceD F.z), some (.int F.t), some (.int F.b), some (.int F.l), some (.int F.r), none, none] ((if F.t = F.b then [F.t] else [F.t, F.b]).map .int) c = .ok ((mr F).map .int) c := fun c =>
    ends_lc F.t F.b F.a.1 F.z.1 _ _ rfl c fun e => by
      generalize dIx = ix at *
      simp [i0, s2]
  have l2 : ∀ x7 c, lcM (gN 8) (fTst (fOp2 (dIn true) (fVar 8) (fTup (aCons (fOp2 dIx (fVar 1) (fC (.int 1))) (aCons (fOp2 dIx (fVar 2) (fC (.int 1))) aNil))))) (fVar 8) [some (sixD F), some (ceD F.a), some (ceD F.z), some (.int F.t), some (.int F.b), some (.int F.l), some (.int F.r), x7, none] ((if F.l = F.r then [F.l] else [F.l, F.r]).map .int) c = .ok ((mc F).map .int) c := fun x7 c =>
    ends_lc F.l F.r F.a.2 F.z.2 _ _ rfl c fun e => by
      generalize dIx = ix at *
      simp [i1, s2]
  unfold F_law_ends
  rw [runDef_e, if_pos (show [sixD F].length = 1 from rfl)]
  show runO (b_law_ends [some (sixD F), none, none, none, none, none, none, none, none] cs) = _
  unfold b_law_ends
  have e0 : sAsg (fVar 0) (gT 6 (gsCons (gN 1) (gsCons (gN 2) (gsCons (gN 3) (gsCons (gN 4) (gsCons (gN 5) (gsCons (gN 6) gsNil))))))) [some (sixD F), none, none, none, none, none, none, none, none] cs = .nx [some (sixD F), some (ceD F.a), some (ceD F.z), some (.int F.t), some (.int F.b), some (.int F.l), some (.int F.r), none, none] cs := rfl
  rw [sSeq_e, e0, Sr.bind_nx]
  generalize (mr F).map D.int = M1 at *
  generalize (mc F).map D.int = M2 at *
  generalize (if F.t = F.b then [F.t] else [F.t, F.b]).map D.int = E1 at *
  generalize (if F.l = F.r then [F.l] else [F.l, F.r]).map D.int = E2 at *
  generalize fTst (fOp2 (dIn true) (fVar 8) (fTup (aCons (fOp2 dIx (fVar 1) (fC (.int 0))) (aCons (fOp2 dIx (fVar 2) (fC (.int 0))) aNil)))) = T1 at *
  generalize fTst (fOp2 (dIn true) (fVar 8) (fTup (aCons (fOp2 dIx (fVar 1) (fC (.int 1))) (aCons (fOp2 dIx (fVar 2) (fC (.int 1))) aNil)))) = T2 at *
  generalize dSS = ds at *
  generalize sixD F = sx at *
  generalize ceD F.a = ca at *
  generalize ceD F.z = cz at *
  simp [q1, q2, l1, l2, s2, m1, m2]

theorem lawframe_eq (F : Fm) (h : F.ok) (cs : List Cell) : F_law_frame [sixD F] cs = .ok (fmD 0 F) (cs ++ [.dead]) := by
  have mk := mkFm F h cs
  unfold F_law_frame
  rw [runDef_e, if_pos (show [sixD F].length = 1 from rfl)]
  unfold b_law_frame sixD
  generalize (mkK 0 true (fnK 7 0 7 F_Frame___init (fun ds _ => ds))) = mm at *
  simp [mk]
section
variable (F : Fm) (ok : F.ok)
include ok
theorem eR : Ends' F.t F.b (mr F) := me_ends (by have := ok.a1; omega)
theorem eC : Ends' F.l F.r (mc F) := me_ends (by have := ok.a2; omega)
/-- some way has so many copies, if they are enough -/
theorem nw_pos (n : Nat) : 0 < nwith F n ↔ few F ≤ (n : Int) := by
  have a : (mr F).length ≤ 2 := me_len
  have b : (mc F).length ≤ 2 := me_len
  unfold nwith
  by_cases z : n = 0
  · subst z
    rw [if_pos rfl]
    have : 0 ≤ few F := by
      unfold few
      split <;> omega
    split <;> omega
  · rw [if_neg z]
    have f : few F ≤ (n : Int) ↔ (mr F).length ≤ n - 1 ∧ (mc F).length ≤ n - 1 := by
      unfold few
      split
      · omega
      · omega
    rw [f]
    constructor
    · intro h
      constructor
      · refine Nat.le_of_not_lt fun q => ?_
        rw [nof_zero a q, Int.zero_mul] at h
        exact absurd h (by decide)
      · refine Nat.le_of_not_lt fun q => ?_
        rw [nof_zero b q, Int.mul_zero] at h
        exact absurd h (by decide)
    · rintro ⟨h1, h2⟩
      exact Int.mul_pos (nof_pos _ (eR F ok) h1) (nof_pos _ (eC F ok) h2)
theorem szR_bd : (szR F).natAbs + 2 < 2 ^ 105 := by
  have big : (10 : Int) ^ 30 < 2 ^ 100 := by decide
  have a1 := ok.a1
  have b1 := ok.b1
  have t0 := ok.t0
  unfold szR
  omega
theorem szC_bd : (szC F).natAbs + 2 < 2 ^ 105 := by
  have big : (10 : Int) ^ 30 < 2 ^ 100 := by decide
  have a1 := ok.a2
  have b1 := ok.r1
  have t0 := ok.l0
  unfold szC
  omega
omit ok in
theorem ends_dEq (M1 M2 : List Int) (h1 : M1.length ≤ 2) (h2 : M2.length ≤ 2) (c : List Cell) : dEq false (.lst [.lst (M1.map .int), .lst (M2.map .int)]) (.lst [.lst [], .lst []]) c = some (.bl (decide (M1.length = 0 ∧ M2.length = 0)), c) := by
  match M1, h1, M2, h2 with
  | [], _, [], _ => kernel_rfl
  | [], _, [x], _ => kernel_rfl
  | [], _, [x, y], _ => kernel_rfl
  | [u], _, [], _ => kernel_rfl
  | [u], _, [x], _ => kernel_rfl
  | [u], _, [x, y], _ => kernel_rfl
  | [u, v], _, [], _ => kernel_rfl
  | [u, v], _, [x], _ => kernel_rfl
  | [u, v], _, [x, y], _ => kernel_rfl
theorem lnumber_eq (n : Nat) (hn : n ≤ 299) (cs : List Cell) : ∃ t, F_law_number [sixD F, .int n] cs = .ok (.int (nwith F n)) (cs ++ t) := by
  have en := ends_eq F ok
  have a : (mr F).length ≤ 2 := me_len
  have b : (mc F).length ≤ 2 := me_len
  unfold F_law_number
  rw [runDef_e, if_pos (show [sixD F, D.int n].length = 2 from rfl)]
  show ∃ t, runO (b_law_number [some (sixD F), some (.int n), none, none] cs) = _
  unfold b_law_number
  have p0 : ∀ c, b_law_number_0 [some (sixD F), some (.int n), none, none] c = .nx [some (sixD F), some (.int n), some (.lst [.lst ((mr F).map .int), .lst ((mc F).map .int)]), none] c := fun c => by
    unfold b_law_number_0
    generalize sixD F = sx at *
    simp [en]
  rw [sSeq_e, p0, Sr.bind_nx, sSeq_e]
  have x0 : ∀ c, dIx (sixD F) (.int 0) c = some (ceD F.a, c) := fun c => rfl
  have x1 : ∀ c, dIx (sixD F) (.int 1) c = some (ceD F.z, c) := fun c => rfl
  have x2 : ∀ c, dIx (sixD F) (.int 2) c = some (.int F.t, c) := fun c => rfl
  have x3 : ∀ c, dIx (sixD F) (.int 3) c = some (.int F.b, c) := fun c => rfl
  have x4 : ∀ c, dIx (sixD F) (.int 4) c = some (.int F.l, c) := fun c => rfl
  have x5 : ∀ c, dIx (sixD F) (.int 5) c = some (.int F.r, c) := fun c => rfl
  by_cases z : n = 0
  · subst z
    have z0 : ((0 : Nat) : Int) = 0 := rfl
    have e1 := ends_dEq (mr F) (mc F) a b
    have e2 : ∀ c, dEq false (ceD F.a) (ceD F.z) c = some (.bl (decide (F.a = F.z)), c) := fun c => by rw [dEq_ce]; rfl
    have di : ∀ (b : Bool) c, dInt [.bl b] c = some (.int (if b then 1 else 0), c) := fun b c => by cases b <;> rfl
    have d0 : ∀ c, dEq false (.int 0) (.int 0) c = some (.bl true, c) := fun c => rfl
    have s2 : 2 ≤ sizeLine := by decide
    have nw : nwith F 0 = if (mr F).length = 0 ∧ (mc F).length = 0 ∧ F.a = F.z then 1 else 0 := by
      unfold nwith few
      rw [if_pos rfl]
      by_cases h : (mr F).length = 0 ∧ (mc F).length = 0 ∧ F.a = F.z
      · rw [if_pos h, if_pos h, if_pos rfl]
      · rw [if_neg h, if_neg h, if_neg (by omega)]
    refine ⟨[], ?_⟩
    rw [nw, List.append_nil]
    unfold b_law_number_1
    rw [z0]
    generalize (mr F).map D.int = M1 at *
    generalize (mc F).map D.int = M2 at *
    generalize (mr F).length = l1 at *
    generalize (mc F).length = l2 at *
    generalize dEq false = dE at *
    generalize dInt = dI at *
    generalize dIx = ix at *
    generalize sixD F = sx at *
    by_cases h1 : l1 = 0 ∧ l2 = 0
    · by_cases h2 : F.a = F.z
      · rw [if_pos ⟨h1.1, h1.2, h2⟩]
        rw [decide_eq_true h1] at e1
        rw [decide_eq_true h2] at e2
        simp [d0, e1, e2, x0, x1, di, s2]
      · rw [if_neg fun y => h2 y.2.2]
        rw [decide_eq_true h1] at e1
        rw [decide_eq_false h2] at e2
        simp [d0, e1, e2, x0, x1, di, s2]
    · rw [if_neg fun y => h1 ⟨y.1, y.2.1⟩]
      rw [decide_eq_false h1] at e1
      simp [d0, e1, di, s2]
  · have zi : ¬ (n : Int) = 0 := by omega
    have p1 : ∀ c, b_law_number_1 [some (sixD F), some (.int n), some (.lst [.lst ((mr F).map .int), .lst ((mc F).map .int)]), none] c = .nx [some (sixD F), some (.int n), some (.lst [.lst ((mr F).map .int), .lst ((mc F).map .int)]), none] c := fun c => by
      have t : fTst (fOp2 (dEq false) (fVar 1) (fC (.int 0))) [some (sixD F), some (.int n), some (.lst [.lst ((mr F).map .int), .lst ((mc F).map .int)]), none] c = .ok false c := tst_ok (op2_ok rfl rfl (show _ = some (D.bl false, c) by simp [z]))
      unfold b_law_number_1
      rw [sIf_e, t, sOfL_ok, if_neg (by decide)]
      rfl
    obtain ⟨t1, e1⟩ := lists_eq (szR_bd F ok) (mr F).length a (n - 1) (by omega) cs
    obtain ⟨t2, e2⟩ := lists_eq (szC_bd F ok) (mc F).length b (n - 1) (by omega) (cs ++ t1)
    have ei : (n : Int) - 1 = ((n - 1 : Nat) : Int) := by omega
    have nw : nwith F n = nof (szR F) (mr F).length (n - 1) * nof (szC F) (mc F).length (n - 1) := by
      unfold nwith
      rw [if_neg z]
    have mo : mulOk (nof (szR F) (mr F).length (n - 1)) (nof (szC F) (mc F).length (n - 1)) := mul_log (nofR_bd F ok _ _ (by omega)) (nofC_bd F ok _ _ (by omega)) (by decide)
    have er : F.b - F.t + 1 = szR F := rfl
    have ec : F.r - F.l + 1 = szC F := rfl
    have g1 : ((mr F).map D.int).length = (mr F).length := List.length_map ..
    have g2 : ((mc F).map D.int).length = (mc F).length := List.length_map ..
    have y0 : ∀ c (u v : D), dIx (.lst [u, v]) (.int 0) c = some (u, c) := fun c u v => rfl
    have y1 : ∀ c (u v : D), dIx (.lst [u, v]) (.int 1) c = some (v, c) := fun c u v => rfl
    refine ⟨t1 ++ t2, ?_⟩
    rw [nw, ← List.append_assoc, p1, Sr.bind_nx, sSeq_e]
    generalize nof (szR F) (mr F).length (n - 1) = N1 at *
    generalize nof (szC F) (mc F).length (n - 1) = N2 at *
    generalize (mr F).map D.int = M1 at *
    generalize (mc F).map D.int = M2 at *
    have p2 : b_law_number_2 [some (sixD F), some (.int n), some (.lst [.lst M1, .lst M2]), none] cs = .nx [some (sixD F), some (.int n), some (.lst [.lst M1, .lst M2]), some (.int N1)] (cs ++ t1) := by
      have A1 : fOp2 (dAdd true) (fOp2 dSub (fOp2 dIx (fVar 0) (fC (.int 3))) (fOp2 dIx (fVar 0) (fC (.int 2)))) (fC (.int 1)) [some (sixD F), some (.int n), some (.lst [.lst M1, .lst M2]), none] cs = .ok (.int (szR F)) cs := op2_ok (op2_ok (op2_ok rfl rfl (x3 cs)) (op2_ok rfl rfl (x2 cs)) rfl) rfl rfl
      have A2 : fCB dLen (aCons (fOp2 dIx (fVar 2) (fC (.int 0))) aNil) [some (sixD F), some (.int n), some (.lst [.lst M1, .lst M2]), none] cs = .ok (.int (mr F).length) cs := cb1_ok (op2_ok rfl rfl (y0 cs _ _)) (show some (D.int M1.length, cs) = _ by rw [g1])
      have A3 : fOp2 dSub (fVar 1) (fC (.int 1)) [some (sixD F), some (.int n), some (.lst [.lst M1, .lst M2]), none] cs = .ok (.int ((n - 1 : Nat) : Int)) cs := op2_ok rfl rfl (show some (D.int ((n : Int) - 1), cs) = _ by rw [ei])
      unfold b_law_number_2
      rw [sAsgN_e, call_ok (n := 3) (args_ok A1 (args_ok A2 (args_ok A3 aNil_e))) e1 rfl, sOfL_ok]
      rfl
    have p3 : b_law_number_3 [some (sixD F), some (.int n), some (.lst [.lst M1, .lst M2]), some (.int N1)] (cs ++ t1) = .rt (.int (N1 * N2)) (cs ++ t1 ++ t2) := by
      generalize cs ++ t1 = c1 at *
      have A1 : fOp2 (dAdd true) (fOp2 dSub (fOp2 dIx (fVar 0) (fC (.int 5))) (fOp2 dIx (fVar 0) (fC (.int 4)))) (fC (.int 1)) [some (sixD F), some (.int n), some (.lst [.lst M1, .lst M2]), some (.int N1)] c1 = .ok (.int (szC F)) c1 := op2_ok (op2_ok (op2_ok rfl rfl (x5 c1)) (op2_ok rfl rfl (x4 c1)) rfl) rfl rfl
      have A2 : fCB dLen (aCons (fOp2 dIx (fVar 2) (fC (.int 1))) aNil) [some (sixD F), some (.int n), some (.lst [.lst M1, .lst M2]), some (.int N1)] c1 = .ok (.int (mc F).length) c1 := cb1_ok (op2_ok rfl rfl (y1 c1 _ _)) (show some (D.int M2.length, c1) = _ by rw [g2])
      have A3 : fOp2 dSub (fVar 1) (fC (.int 1)) [some (sixD F), some (.int n), some (.lst [.lst M1, .lst M2]), some (.int N1)] c1 = .ok (.int ((n - 1 : Nat) : Int)) c1 := op2_ok rfl rfl (show some (D.int ((n : Int) - 1), c1) = _ by rw [ei])
      unfold b_law_number_3
      rw [sRet_e, op2_ok rfl (call_ok (n := 3) (args_ok A1 (args_ok A2 (args_ok A3 aNil_e))) e2 rfl) (show _ = some (D.int (N1 * N2), c1 ++ t2) by rw [dMul_i, if_pos mo]), sOfL_ok]
    rw [p2, Sr.bind_nx, p3]
    rfl
end
section
variable (F : Fm) (ok : F.ok)
include ok
theorem rL0 (n : Nat) (hn : n ≤ 299) (x0 x3 x5 : Option D) (c : List Cell) : ∃ y5 t, b_law_right_L0 [x0, some (sixD F), some (fmD 0 F), x3, some (.int n), x5] c = .nx [x0, some (sixD F), some (fmD 0 F), x3, some (.int n), y5] (c ++ t) := by
  obtain ⟨t1, e1⟩ := lnumber_eq F ok n hn c
  have ce := count_eq F ok n hn (c ++ t1)
  have fe := few_eq F
  have ps := nw_pos F ok n
  have ic : ∀ cs, insOf cs (fmD 0 F) = some (0, fmfs F) := fun cs => rfl
  have lf : (fmfs F).lookup ("fewest" : Str) = none := rfl
  have dq : ∀ (a : Int) c, dEq true (.int a) (.int a) c = some (.bl false, c) := fun a c => by simp
  have db : ∀ (a : Bool) c, dEq true (.bl a) (.bl a) c = some (.bl false, c) := fun a c => by cases a <;> rfl
  generalize dd (if n = 0 then 0 else cvk F) = dk at *
  refine ⟨some (.int (nwith F n)), t1 ++ dk, ?_⟩
  rw [← List.append_assoc]
  have g1 : fOp2 dGt (fVar 5) (fC (.int 0)) [x0, some (sixD F), some (fmD 0 F), x3, some (.int n), some (.int (nwith F n))] (c ++ t1 ++ dk) = .ok (.bl (decide (0 < nwith F n))) (c ++ t1 ++ dk) := op2_ok rfl rfl rfl
  have g2 : fOp2 dGe (fVar 4) (fMeth 0 "fewest" (fnK 1 0 1 F_Frame_fewest (fun ds _ => ds)) (fVar 2) aNil aNil) [x0, some (sixD F), some (fmD 0 F), x3, some (.int n), some (.int (nwith F n))] (c ++ t1 ++ dk) = .ok (.bl (decide (0 < nwith F n))) (c ++ t1 ++ dk) := by
    have e : fMeth 0 "fewest" (fnK 1 0 1 F_Frame_fewest (fun ds _ => ds)) (fVar 2) aNil aNil [x0, some (sixD F), some (fmD 0 F), x3, some (.int n), some (.int (nwith F n))] (c ++ t1 ++ dk) = .ok (.int (few F)) (c ++ t1 ++ dk) := by
      generalize F_Frame_fewest = FF at *
      generalize fmD 0 F = fm at *
      simp [ic, lf, fe]
    refine op2_ok rfl e ?_
    show some (D.bl (decide (few F ≤ (n : Int))), _) = _
    rw [decide_eq_decide.mpr ps]
  have q1 : fTst (fOp2 (dEq true) (fCall (fnK 2 0 2 F_count_ways (fun ds _ => ds)) (aCons (fVar 2) (aCons (fVar 4) aNil)) aNil) (fVar 5)) [x0, some (sixD F), some (fmD 0 F), x3, some (.int n), some (.int (nwith F n))] (c ++ t1) = .ok false (c ++ t1 ++ dk) :=
    tst_ok (op2_ok (call_ok (n := 2) (args_ok rfl (args_ok rfl aNil_e)) ce rfl) rfl (dq _ _))
  have q2 : fTst (fOp2 (dEq true) (fOp2 dGt (fVar 5) (fC (.int 0))) (fOp2 dGe (fVar 4) (fMeth 0 "fewest" (fnK 1 0 1 F_Frame_fewest (fun ds _ => ds)) (fVar 2) aNil aNil))) [x0, some (sixD F), some (fmD 0 F), x3, some (.int n), some (.int (nwith F n))] (c ++ t1 ++ dk) = .ok false (c ++ t1 ++ dk) := tst_ok (op2_ok g1 g2 (db _ _))
  have e0 : sAsg (fCall (fnK 2 0 2 F_law_number (fun ds _ => ds)) (aCons (fVar 1) (aCons (fVar 4) aNil)) aNil) (gN 5) [x0, some (sixD F), some (fmD 0 F), x3, some (.int n), x5] c = .nx [x0, some (sixD F), some (fmD 0 F), x3, some (.int n), some (.int (nwith F n))] (c ++ t1) := by
    rw [sAsgN_e, call_ok (n := 2) (args_ok rfl (args_ok rfl aNil_e)) e1 rfl, sOfL_ok]
    rfl
  unfold b_law_right_L0
  rw [sSeq_e, e0, Sr.bind_nx]
  generalize fTst (fOp2 (dEq true) (fCall (fnK 2 0 2 F_count_ways (fun ds _ => ds)) (aCons (fVar 2) (aCons (fVar 4) aNil)) aNil) (fVar 5)) = T1 at *
  generalize fTst (fOp2 (dEq true) (fOp2 dGt (fVar 5) (fC (.int 0))) (fOp2 dGe (fVar 4) (fMeth 0 "fewest" (fnK 1 0 1 F_Frame_fewest (fun ds _ => ds)) (fVar 2) aNil aNil))) = T2 at *
  clear e0 e1 ce fe g1 g2
  generalize sixD F = sx at *
  generalize fmD 0 F = fm at *
  simp only [List.append_assoc] at q1 q2
  simp [q1, q2]
end
theorem few_nat (F : Fm) : ∃ n : Nat, few F = (n : Int) ∧ n ≤ 3 := by
  have a : (mr F).length ≤ 2 := me_len
  have b : (mc F).length ≤ 2 := me_len
  unfold few
  split
  · exact ⟨0, rfl, by decide⟩
  · exact ⟨1 + max (mr F).length (mc F).length, by omega, by omega⟩
theorem right_eq (S : Hs) (J : Feed) (t : List Cell) (F : Fm) (ok : F.ok) : ∃ (J' : Feed) (t' : List Cell), F_law_right [.ref S.i, sixD F] (hp S (fc J) t) = .ok (.bl true) (hp S (fc J') t') := by
  have fr := lawframe_eq F ok
  have L0 := rL0 F ok
  have fe := few_eq F
  obtain ⟨fn, hfn, fn3⟩ := few_nat F
  rw [hfn] at fe
  obtain ⟨v, J1, ev, v0, v1⟩ := pick_ex S J (m := 300) (by decide) (by decide)
  obtain ⟨u, J2, eu, u0, u1⟩ := pick_ex S J1 (m := 30) (by decide) (by decide)
  obtain ⟨un, rfl⟩ : ∃ un : Nat, u = (un : Int) := ⟨u.toNat, by omega⟩
  obtain ⟨vn, rfl⟩ : ∃ vn : Nat, v = (vn : Int) := ⟨v.toNat, by omega⟩
  unfold F_law_right
  rw [runDef_e, if_pos (show [D.ref S.i, sixD F].length = 2 from rfl)]
  show ∃ J' t', runO (b_law_right [some (.ref S.i), some (sixD F), none, none, none, none] (hp S (fc J) t)) = _
  unfold b_law_right
  have p0 : b_law_right_0 [some (.ref S.i), some (sixD F), none, none, none, none] (hp S (fc J) t) = .nx [some (.ref S.i), some (sixD F), some (fmD 0 F), none, none, none] (hp S (fc J) (t ++ [.dead])) := by
    simp [b_law_right_0, fr]
  rw [sSeq_e, p0, Sr.bind_nx, sSeq_e]
  have s9 : 9 ≤ sizeLine := by decide
  have p1 : ∀ t, b_law_right_1 [some (.ref S.i), some (sixD F), some (fmD 0 F), none, none, none] (hp S (fc J) t) = .nx [some (.ref S.i), some (sixD F), some (fmD 0 F), some (.lst ([0, 1, 2, 3, 4, 299, vn, un, fn].map fun n : Nat => D.int n)), none, none] (hp S (fc J2) t) := fun t => by
    have ic : ∀ cs, insOf cs (fmD 0 F) = some (0, fmfs F) := fun cs => rfl
    have lf : (fmfs F).lookup ("fewest" : Str) = none := rfl
    unfold b_law_right_1
    rw [pick_is]
    generalize F_Frame_fewest = FF at *
    generalize pickF = pf at *
    generalize fmD 0 F = fm at *
    simp [ic, lf, fe, ev, eu, s9]
  rw [p1, Sr.bind_nx, sSeq_e]
  obtain ⟨σ2, t2, e2, y4, y5, rfl⟩ := forL_jk (g := gN 4) (fb := b_law_right_L0) (fun σ => ∃ y4 y5, σ = [some (.ref S.i), some (sixD F), some (fmD 0 F), some (.lst ([0, 1, 2, 3, 4, 299, vn, un, fn].map fun n : Nat => D.int n)), y4, y5]) (([0, 1, 2, 3, 4, 299, vn, un, fn] : List Nat).map fun n : Nat => D.int n) [some (.ref S.i), some (sixD F), some (fmD 0 F), some (.lst ([0, 1, 2, 3, 4, 299, vn, un, fn].map fun n : Nat => D.int n)), none, none] (hp S (fc J2) (t ++ [.dead])) ⟨_, _, rfl⟩ (by
    rintro d hd' σ c ⟨y4, y5, rfl⟩
    obtain ⟨n, hn', rfl⟩ := List.mem_map.mp hd'
    have hn : n ≤ 299 := by
      simp only [List.mem_cons, List.not_mem_nil, or_false] at hn'
      omega
    obtain ⟨z5, t, e⟩ := L0 n hn (some (.ref S.i)) (some (.lst ([0, 1, 2, 3, 4, 299, vn, un, fn].map fun n : Nat => D.int n))) y5 c
    exact ⟨_, _, t, rfl, e, _, _, rfl⟩)
  have p2 : b_law_right_2 [some (.ref S.i), some (sixD F), some (fmD 0 F), some (.lst ([0, 1, 2, 3, 4, 299, vn, un, fn].map fun n : Nat => D.int n)), none, none] (hp S (fc J2) (t ++ [.dead])) = .nx [some (.ref S.i), some (sixD F), some (fmD 0 F), some (.lst ([0, 1, 2, 3, 4, 299, vn, un, fn].map fun n : Nat => D.int n)), y4, y5] (hp S (fc J2) (t ++ [.dead] ++ t2)) := by
    rw [hp_app] at e2
    exact e2
  rw [p2, Sr.bind_nx]
  have ce := count_eq F ok vn (by omega) (hp S (fc J2) (t ++ [.dead] ++ t2))
  obtain ⟨t3, e3⟩ := lnumber_eq F ok vn (by omega) (hp S (fc J2) (t ++ [.dead] ++ t2) ++ dd (if vn = 0 then 0 else cvk F))
  have x6 : ∀ (σ : Sd) c, fOp2 dIx (fVar 3) (fC (.int 6)) (some (.ref S.i) :: some (sixD F) :: some (fmD 0 F) :: some (.lst ([0, 1, 2, 3, 4, 299, vn, un, fn].map fun n : Nat => D.int n)) :: σ) c = .ok (.int vn) c := fun σ c => rfl
  have dq : ∀ (a : Int) c, dEq false (.int a) (.int a) c = some (.bl true, c) := fun a c => by simp
  have A : fCall (fun ds es cs => if es.length = 2 then (fnK 0 2 2 F_count_ways gK_count_ways_0_copies_frame) ds es cs else .no) aNil (aCons (fOp2 dIx (fVar 3) (fC (.int 6))) (aCons (fVar 2) aNil)) [some (.ref S.i), some (sixD F), some (fmD 0 F), some (.lst ([0, 1, 2, 3, 4, 299, vn, un, fn].map fun n : Nat => D.int n)), y4, y5] (hp S (fc J2) (t ++ [.dead] ++ t2)) = .ok (.int (nwith F vn)) (hp S (fc J2) (t ++ [.dead] ++ t2) ++ dd (if vn = 0 then 0 else cvk F)) := by
    rw [fCall_e, aNil_e, Out.bnd_ok, args_ok (x6 _ _) (args_ok rfl aNil_e), Out.bnd_ok]
    exact ce
  refine ⟨J2, t ++ [.dead] ++ t2 ++ dd (if vn = 0 then 0 else cvk F) ++ t3, ?_⟩
  unfold b_law_right_3
  rw [sRet_e, op2_ok A (call_ok (n := 2) (args_ok rfl (args_ok (x6 _ _) aNil_e)) e3 rfl) (dq _ _), sOfL_ok, hp_app, hp_app]
  rfl
/-! the law -/
theorem pick2 (S : Hs) (J : Feed) : ∃ (v : Int) (J' : Feed) (z : Int), (∀ t, pickF [.ref S.i, .int 2] (hp S (fc J) t) = .ok (.int v) (hp S (fc J') t)) ∧ atI [D.int 9, .int 2] v = some (.int z) ∧ 1 ≤ z ∧ z ≤ 1000 := by
  obtain ⟨v, J', e, v0, v1⟩ := pick_ex S J (m := 2) (by decide) (by decide)
  have : v = 0 ∨ v = 1 := by omega
  rcases this with rfl | rfl
  · exact ⟨0, J', 9, e, rfl, by decide, by decide⟩
  · exact ⟨1, J', 2, e, rfl, by decide, by decide⟩
theorem great_turn (S : Hs) (J : Feed) (t : List Cell) (g : Bool) (x0 x1 x4 x5 : Option D) : ∃ (J' : Feed) (t' : List Cell), b_law_L0 [x0, x1, some (.ref S.i), some (.bl g), x4, x5] (hp S (fc J) t) = .nx [x0, x1, some (.ref S.i), some (.bl g), x4, x5] (hp S (fc J') t') := by
  obtain ⟨v, J1, z, e1, a1, z1, z2⟩ := pick2 S J
  obtain ⟨F, J2, t2, ok, _, r2⟩ := rect_ex S J1 t (m := z) z1 z2 g
  obtain ⟨J3, t3, e3⟩ := right_eq S J2 t2 F ok
  have s2 : 2 ≤ sizeLine := by decide
  refine ⟨J3, t3, ?_⟩
  unfold b_law_L0
  rw [rect_is, pick_is]
  generalize rectF = rf at *
  generalize pickF = pf at *
  generalize F_law_right = FR at *
  generalize sixD F = sx at *
  simp [e1, a1, r2, e3, s2]
theorem turn_eq (ns : List Int) (k : Nat) (hk : k ≤ 63) (x2 x3 x4 x5 : Option D) (cs : List Cell) : ∃ (y2 y3 : Option D) (cs' : List Cell), b_law_L1 [some (.arg (ns.map D.int)), some (.int k), x2, x3, x4, x5] cs = .nx [some (.arg (ns.map D.int)), some (.int k), y2, y3, x4, x5] cs' := by
  obtain ⟨J, hJ⟩ := feed_eq ns k cs
  obtain ⟨S0, hi0, e0⟩ := hp_of (cs := cs ++ [fc J]) (i := cs.length) (x := fc J) (by rw [List.getElem?_append_right (Nat.le_refl _), Nat.sub_self]; rfl)
  obtain ⟨J1, t1, e1⟩ := great_turn S0 J [] false (some (.arg (ns.map D.int))) (some (.int k)) x4 x5
  obtain ⟨J2, t2, e2⟩ := great_turn S0 J1 t1 true (some (.arg (ns.map D.int))) (some (.int k)) x4 x5
  obtain ⟨J3, t3, e3⟩ := great_turn S0 J2 t2 false (some (.arg (ns.map D.int))) (some (.int k)) x4 x5
  rw [hi0] at e1 e2 e3
  refine ⟨some (.ref cs.length), some (.bl false), hp S0 (fc J3) t3, ?_⟩
  have f1 : sAsg (fCall (fnK 2 0 2 F_law_feed (fun ds _ => ds)) (aCons (fVar 0) (aCons (fVar 1) aNil)) aNil) (gN 2) [some (.arg (ns.map D.int)), some (.int k), x2, x3, x4, x5] cs = .nx [some (.arg (ns.map D.int)), some (.int k), some (.ref cs.length), x3, x4, x5] (hp S0 (fc J) []) := by
    rw [feed_is, ← e0]
    generalize feedF = ff at *
    simp [hJ]
  unfold b_law_L1
  rw [sSeq_e, f1, Sr.bind_nx]
  show forL (gN 3) b_law_L0 [.bl false, .bl true, .bl false] _ _ = _
  rw [forL_nx rfl e1, forL_nx rfl e2, forL_nx rfl e3]
  rfl
def F5 : Fm := ⟨(5, 5), (7, 5), 1, 7, 5, 5⟩
theorem ok5 : F5.ok := ⟨by decide, by decide, by decide, by decide, by decide, by decide, by decide, by decide⟩
theorem plain : ∀ ns : List Int, ns.length ≤ 63 → ∃ cs, F_law [.arg (ns.map D.int)] [] = .ok (.bl true) cs := by
  intro ns hl
  unfold F_law
  rw [runDef_e, if_pos (show [D.arg (ns.map D.int)].length = 1 from rfl)]
  obtain ⟨σ', c', e, x, y, z, rfl⟩ := law_for (G := dLen) (fun _ _ => rfl) (q := 4) (by omega) (by omega) (fb := b_law_L1) (ns := ns) (σ0 := [some (.arg (ns.map D.int)), none, none, none, none, none])
    (fun σ => ∃ x y z, σ = [some (.arg (ns.map D.int)), x, y, z, none, none]) ⟨_, _, _, rfl⟩ (by rintro σ ⟨x, y, z, rfl⟩; rfl) (by
      rintro k σ cs hk ⟨x, y, z, rfl⟩
      obtain ⟨a, b, cs', e⟩ := turn_eq ns k hk y z none none cs
      exact ⟨_, cs', e, _, _, _, rfl⟩) []
  have e4 : List.map some [D.arg (ns.map D.int)] ++ List.replicate (6 - 1) none = [some (.arg (ns.map D.int)), none, none, none, none, none] := rfl
  rw [e4]
  unfold b_law
  rw [sSeq_e, e, Sr.bind_nx, sSeq_e]
  have f5 : ∀ cs, mkK 0 true (fnK 7 0 7 F_Frame___init (fun ds _ => ds)) [.tup [.int 5, .int 5], .tup [.int 7, .int 5], .int 1, .int 7, .int 5, .int 5] [] cs = .ok (fmD 0 F5) (cs ++ [.dead]) := fun cs => mkFm _ ok5 cs
  have s2 : 2 ≤ sizeLine := by decide
  have s3 : 3 ≤ sizeLine := by decide
  have p1 : sAsg (fCall (mkK 0 true (fnK 7 0 7 F_Frame___init (fun ds _ => ds))) (aCons (fTup (aCons (fC (.int 5)) (aCons (fC (.int 5)) aNil))) (aCons (fTup (aCons (fC (.int 7)) (aCons (fC (.int 5)) aNil))) (aCons (fC (.int 1)) (aCons (fC (.int 7)) (aCons (fC (.int 5)) (aCons (fC (.int 5)) aNil)))))) aNil) (gN 4) [some (.arg (ns.map D.int)), x, y, z, none, none] c' = .nx [some (.arg (ns.map D.int)), x, y, z, some (fmD 0 F5), none] (c' ++ [.dead]) := by
    generalize mkK 0 true (fnK 7 0 7 F_Frame___init (fun ds _ => ds)) = mm at *
    generalize fmD 0 F5 = fm at *
    simp [f5, s2]
  rw [p1, Sr.bind_nx]
  obtain ⟨t1, e1⟩ := lcM_jk (g := gN 5) (ft := fun _ c => .ok true c) (fe := fCall (fnK 2 0 2 F_count_ways (fun ds _ => ds)) (aCons (fVar 4) (aCons (fVar 5) aNil)) aNil) (σ := [some (.arg (ns.map D.int)), x, y, z, some (fmD 0 F5), none]) (fun n : Nat => D.int n) (fun n => .int (nwith F5 n)) [1, 2, 3] (c' ++ [.dead]) (fun n hn' c => by
    have hn : n ≤ 299 := by
      simp only [List.mem_cons, List.not_mem_nil, or_false] at hn'
      omega
    exact ⟨_, _, rfl, rfl, call_ok (n := 2) (args_ok rfl (args_ok rfl aNil_e)) (count_eq F5 ok5 n hn c) rfl⟩)
  have n1 : nwith F5 1 = 0 := by decide
  have n2 : nwith F5 2 = 1 := by decide
  have n3 : nwith F5 3 = 13 := by decide
  have e1' : lcM (gN 5) (fun _ c => .ok true c) (fCall (fnK 2 0 2 F_count_ways (fun ds _ => ds)) (aCons (fVar 4) (aCons (fVar 5) aNil)) aNil) [some (.arg (ns.map D.int)), x, y, z, some (fmD 0 F5), none] [.int 1, .int 2, .int 3] (c' ++ [.dead]) = .ok [.int 0, .int 1, .int 13] (c' ++ [.dead] ++ t1) := by
    rw [← n1, ← n2, ← n3]
    exact e1
  have L : fLc true (iSq (fTup (aCons (fC (.int 1)) (aCons (fC (.int 2)) (aCons (fC (.int 3)) aNil))))) (gN 5) (fun _ c => .ok true c) (fCall (fnK 2 0 2 F_count_ways (fun ds _ => ds)) (aCons (fVar 4) (aCons (fVar 5) aNil)) aNil) [5] [some (.arg (ns.map D.int)), x, y, z, some (fmD 0 F5), none] (c' ++ [.dead]) = .ok (.lst [.int 0, .int 1, .int 13]) (c' ++ [.dead] ++ t1) := by
    rw [fLc_e]
    show lcE true (lcM _ _ _ [some (.arg (ns.map D.int)), x, y, z, some (fmD 0 F5), none] [.int 1, .int 2, .int 3] (c' ++ [.dead])) = _
    rw [e1', lcE_ok, if_pos (show [D.int 0, .int 1, .int 13].length ≤ sizeLine from s3)]
    rfl
  refine ⟨c' ++ [.dead] ++ t1, ?_⟩
  rw [sRet_e, op2_ok L (show _ = Out.ok (D.lst [.int 0, .int 1, .int 13]) (c' ++ [.dead] ++ t1) from rfl) (show dEq false (.lst [.int 0, .int 1, .int 13]) (.lst [.int 0, .int 1, .int 13]) _ = some (.bl true, c' ++ [.dead] ++ t1) by kernel_rfl), sOfL_ok]
  rfl
end Ck22

/-! the end by one run and one list of checks over the part of the heap that the module's names reach -/
namespace PVH
open PySem PySem.Spec PyProof.Rows L2 PV

/-- a def of the text: where it stands, its names, its statement, its defaults -/
structure Fd where
  adr : PySem.W.Frag → Addr
  name : Str
  qual : Str
  st : Stmt
  dfl : List V
def Fd.seen (K : PySem.W.Frag) (d : Fd) : He.FnW := match K.lookup (d.adr K) with
  | some ⟨_, _, .func q, _⟩ => some (q.name, q.qualname, q.params, q.body, q.scope, q.globals, q.closure, q.builtins)
  | _ => none
def Fd.want (d : Fd) : He.FnW := some (d.name, d.qual, defArgs d.st, .stmts (defBody d.st), defScope d.st, mainGlobals, [], builtinsNs)
def Fd.good (K : PySem.W.Frag) (d : Fd) : Bool := PySem.W.keepIn K (.ref (d.adr K)) && (match K.lookup (d.adr K) with
  | some ⟨_, _, .func q, _⟩ => PySem.W.codeIn K q.code d.qual && (He.dflB K q.defaults d.dfl && He.kwdB K q.kwdefaults [])
  | _ => false)
theorem Fd.funD {K : PySem.W.Frag} {d : Fd} (e : d.seen K = d.want) (c : d.good K = true) : ∃ fd, FunD K d.name d.qual (defArgs d.st) (defBody d.st) (defScope d.st) d.dfl [] (d.adr K) fd := by
  obtain ⟨kp, c2⟩ := He.ba c
  unfold Fd.seen at e
  cases q : K.lookup (d.adr K) with
  | none =>
    rw [q] at c2; cases c2
  | some o =>
    obtain ⟨oc, od, dt, osl⟩ := o
    rw [q] at c2 e
    cases dt with
    | func fd =>
      obtain ⟨n1, n2, n3, n4, n5, n6, n7, n8, n9, n10, n11, n12, n13, n14, n15⟩ := fd
      unfold Fd.want at e
      simp only [Option.some.injEq, Prod.mk.injEq] at e
      obtain ⟨h1, h2, h3, h4, h5, h6, h7, h8⟩ := e
      subst h1 h2 h3 h4 h5 h6 h7 h8
      have c3 : (PySem.W.codeIn K n13 d.qual && (He.dflB K n8 d.dfl && He.kwdB K n9 [])) = true := c2
      obtain ⟨k1, k2⟩ := He.ba c3
      obtain ⟨k3, k4⟩ := He.ba k2
      exact ⟨_, ⟨oc, od, n8, n9, n10, n11, n12, n13, n14, osl, rfl, q, k1, He.dflB_ok k3, He.kwdB_ok k4⟩, kp⟩
    | _ => cases c2

/-! addresses and tokens by a look -/
def hd (o : Option (List Value)) : Addr := match o with
  | some (.ref a :: _) => a
  | _ => 0
def tl (o : Option (List Value)) : List Value := match o with
  | some (_ :: r) => r
  | _ => []
def tkV (o : Option (Option Value)) : Tok := match o with
  | some (some (.int _ t)) => t
  | some (some (.str _ t)) => t
  | _ => default
def tkC (o : Option PySem.W.CFound) : Tok := match o with
  | some (.val (.str _ t)) => t
  | _ => default
def cz (o : Option PySem.W.CFound) : Addr := match o with
  | some (.get _ (.ref z) _ _) => z
  | _ => 0
def eqC : PySem.W.CFound → PySem.W.CFound → Bool
  | .val a, .val b => decide (a = b)
  | .get a b c d, .get a' b' c' d' => decide (a = a') && (decide (b = b') && (decide (c = c') && decide (d = d')))
  | _, _ => false
theorem eqC_ok {x y : PySem.W.CFound} (h : eqC x y = true) : x = y := by
  cases x with
  | val a => cases y with
    | val b => exact congrArg _ (of_decide_eq_true h)
    | get _ _ _ _ => cases h
  | get a b c d => cases y with
    | val b => cases h
    | get a' b' c' d' =>
      obtain ⟨h1, h⟩ := He.ba h
      obtain ⟨h2, h⟩ := He.ba h
      obtain ⟨h3, h4⟩ := He.ba h
      rw [of_decide_eq_true h1, of_decide_eq_true h2, of_decide_eq_true h3, of_decide_eq_true h4]
def isC (o : Option PySem.W.CFound) (y : PySem.W.CFound) : Bool := match o with
  | some x => eqC x y
  | none => false
theorem isC_ok {o : Option PySem.W.CFound} {y : PySem.W.CFound} (h : isC o y = true) : o = some y := by
  cases o with
  | none => cases h
  | some x => exact congrArg some (eqC_ok h)
theorem ex_ok {α : Type} {o : Option α} (h : o.isSome = true) : ∃ x, o = some x := by
  cases o with
  | none => cases h
  | some x => exact ⟨x, rfl⟩

/-! the Hook -/
def look (ck : PySem.W.Frag → List Bool) (fn : List Fd) (K : PySem.W.Frag) : He.AlD := ((ck K).all id && fn.all (Fd.good K), fn.map (Fd.seen K))
def lookG (as : List Addr) (ck : PySem.W.Frag → List Bool) (fn : List Fd) (g : Addr → Option Obj) : He.AlD := look ck fn (He.frG g as)
def Says (ck : PySem.W.Frag → List Bool) (fn : List Fd) (K : PySem.W.Frag) : Prop := look ck fn K = (true, fn.map Fd.want)
def hook (as : List Addr) (ck : PySem.W.Frag → List Bool) (fn : List Fd) : PySem.W.Hook where
  α := He.AlD
  obs := fun s => lookG as ck fn s.heap.get?
  val := fun _ => (true, fn.map Fd.want)
  says := fun _ h => ∃ K : PySem.W.Frag, K.In h ∧ Says ck fn K
  of := fun _ _ e => ⟨_, He.frG_in, e⟩
  keeps := fun _ _ _ ⟨K, hK, c⟩ k => ⟨K, PySem.W.Frag.In.keeps hK k, c⟩
def ob (as : List Addr) (ck : PySem.W.Frag → List Bool) (fn : List Fd) (s : PySem.W.SharedT) : He.AlD := lookG as ck fn (HandSHeadRun.getT s)
theorem ob_eq (as : List Addr) (ck : PySem.W.Frag → List Bool) (fn : List Fd) (s : PySem.W.SharedT) : ob as ck fn s = (hook as ck fn).obs s.abs := by
  have e : HandSHeadRun.getT s = s.abs.heap.get? := funext (HandSHeadRun.getT_eq s)
  unfold ob
  rw [e] <;> rfl
section
variable {ck : PySem.W.Frag → List Bool} {fn : List Fd} {K : PySem.W.Frag}
theorem Says.at_ (c : Says ck fn K) (i : Nat) {b : Bool} (h : (ck K)[i]? = some b) : b = true := by
  have c1 := (He.ba (congrArg (fun z : He.AlD => z.1) c : ((ck K).all id && fn.all (Fd.good K)) = true)).1
  exact List.all_eq_true.mp c1 b (List.mem_of_getElem? h)
theorem Says.dec (c : Says ck fn K) (i : Nat) {p : Prop} [Decidable p] (h : (ck K)[i]? = some (decide p)) : p := of_decide_eq_true (c.at_ i h)
theorem Says.def_ (c : Says ck fn K) (i : Nat) {d : Fd} (h : fn[i]? = some d) : ∃ fd, FunD K d.name d.qual (defArgs d.st) (defBody d.st) (defScope d.st) d.dfl [] (d.adr K) fd := by
  have c2 := (He.ba (congrArg (fun z : He.AlD => z.1) c : ((ck K).all id && fn.all (Fd.good K)) = true)).2
  have e : fn.map (Fd.seen K) = fn.map Fd.want := congrArg (fun z : He.AlD => z.2) c
  have e2 : (fn.map (Fd.seen K))[i]? = (fn.map Fd.want)[i]? := by rw [e]
  rw [List.getElem?_map, List.getElem?_map, h] at e2
  exact Fd.funD (Option.some.inj e2) (List.all_eq_true.mp c2 d (List.mem_of_getElem? h))
end
/-- the goal that the head leaves -/
theorem walk_inE {l : PySem.W.OpenLaw} {n k : Nat} {q : Program} {loose : List Str} {XP : (Str → Option Value) → Heap → Prop} {YP : World → Heap → Prop} {d : DefRec} {x : Str} {F : List D → List Cell → Out D}
    (hn : l.most = some n) (hn2 : n ≤ sizeLine) (hdf : d.params.defaults = []) (hr : Room k callerA)
    (B : ∀ (w : World) (mg : Str → Option Value) (fa : Addr) (h : Heap), YP w h → h.Ns mainGlobals mg → mg d.name = some (.ref fa) →
      ∃ (K : PySem.W.Frag) (cm : Nat → Addr) (fd : FuncData), K.In h ∧ (∀ (s : Shared) (u : Value), BindsTo s fd ⟨[u], []⟩ [(x, u)]) ∧ ∀ base : Heap, K.In base → base.Ns mainGlobals mg → FnB l.prog w K mg base cm k fa fd [x] F)
    (hF : ∀ ns : List Int, ns.length ≤ n → ∃ cs, F [.arg (ns.map D.int)] [] = .ok (.bl true) cs) : PySem.W.WalkO q loose XP YP l.row.toRowW d [] (fun f vs => PySem.call f vs) := by
  refine Att.attach_call hn hdf fun w s0 s1 mg mb fa o pm cd doc a vs ns G Y ho hd hcd hmg hobj hints hlen hg => ?_
  obtain ⟨K, cm, fd, KX, hb, hB⟩ := B w mg fa _ Y G.T.g hmg
  exact law_in KX G.T.g G.T.b G.T.builtins G.T.nolimit hg hobj hints (Nat.le_trans hlen hn2) hr hB hb (hF ns hlen)
end PVH

namespace Ck22
open PySem PySem.Spec L2 PV
def a_C_Frame (K : PySem.W.Frag) : Addr := He.ga K "Frame"
def a_C_Cover (K : PySem.W.Frag) : Addr := He.ga K "Cover"
def a_f_law_feed (K : PySem.W.Frag) : Addr := He.ga K "_law_feed"
def a_f_is_place (K : PySem.W.Frag) : Addr := He.ga K "is_place"
def a_f_is_cell (K : PySem.W.Frag) : Addr := He.ga K "is_cell"
def a_f_need_cell (K : PySem.W.Frag) : Addr := He.ga K "need_cell"
def a_f_need_range (K : PySem.W.Frag) : Addr := He.ga K "need_range"
def a_f_Frame___init (K : PySem.W.Frag) : Addr := He.ma K (a_C_Frame K) "__init__"
def a_f_law_frame (K : PySem.W.Frag) : Addr := He.ga K "_law_frame"
def a_f_law_pick (K : PySem.W.Frag) : Addr := He.ga K "_law_pick"
def a_f_missing_ends (K : PySem.W.Frag) : Addr := He.ga K "missing_ends"
def a_f_Frame_missing_rows (K : PySem.W.Frag) : Addr := He.ma K (a_C_Frame K) "missing_rows"
def a_f_Frame_missing_columns (K : PySem.W.Frag) : Addr := He.ma K (a_C_Frame K) "missing_columns"
def a_f_Frame_fewest (K : PySem.W.Frag) : Addr := He.ma K (a_C_Frame K) "fewest"
def a_f_law_ends (K : PySem.W.Frag) : Addr := He.ga K "_law_ends"
def a_f_law_lists (K : PySem.W.Frag) : Addr := He.ga K "_law_lists"
def a_f_law_number (K : PySem.W.Frag) : Addr := He.ga K "_law_number"
def a_f_need_copies (K : PySem.W.Frag) : Addr := He.ga K "need_copies"
def a_f_powers_of (K : PySem.W.Frag) : Addr := He.ga K "powers_of"
def a_f_Cover___init (K : PySem.W.Frag) : Addr := He.ma K (a_C_Cover K) "__init__"
def a_q_Frame_top (K : PySem.W.Frag) : Addr := He.ma K (a_C_Frame K) "top"
def a_f_Frame_top (K : PySem.W.Frag) : Addr := PVH.hd (PySem.W.recIn K (a_q_Frame_top K) "property")
def a_r_Frame_top (K : PySem.W.Frag) : List Value := PVH.tl (PySem.W.recIn K (a_q_Frame_top K) "property")
def a_q_Frame_bottom (K : PySem.W.Frag) : Addr := He.ma K (a_C_Frame K) "bottom"
def a_f_Frame_bottom (K : PySem.W.Frag) : Addr := PVH.hd (PySem.W.recIn K (a_q_Frame_bottom K) "property")
def a_r_Frame_bottom (K : PySem.W.Frag) : List Value := PVH.tl (PySem.W.recIn K (a_q_Frame_bottom K) "property")
def a_q_Frame_left (K : PySem.W.Frag) : Addr := He.ma K (a_C_Frame K) "left"
def a_f_Frame_left (K : PySem.W.Frag) : Addr := PVH.hd (PySem.W.recIn K (a_q_Frame_left K) "property")
def a_r_Frame_left (K : PySem.W.Frag) : List Value := PVH.tl (PySem.W.recIn K (a_q_Frame_left K) "property")
def a_q_Frame_right (K : PySem.W.Frag) : Addr := He.ma K (a_C_Frame K) "right"
def a_f_Frame_right (K : PySem.W.Frag) : Addr := PVH.hd (PySem.W.recIn K (a_q_Frame_right K) "property")
def a_r_Frame_right (K : PySem.W.Frag) : List Value := PVH.tl (PySem.W.recIn K (a_q_Frame_right K) "property")
def a_f_covers_of (K : PySem.W.Frag) : Addr := He.ga K "covers_of"
def a_f_Cover_number_of (K : PySem.W.Frag) : Addr := He.ma K (a_C_Cover K) "number_of"
def a_f_number_with (K : PySem.W.Frag) : Addr := He.ga K "number_with"
def a_f_count_ways (K : PySem.W.Frag) : Addr := He.ga K "count_ways"
def a_f_law_right (K : PySem.W.Frag) : Addr := He.ga K "_law_right"
def a_f_law_rect (K : PySem.W.Frag) : Addr := He.ga K "_law_rect"
def a_f_law (K : PySem.W.Frag) : Addr := He.ga K "law"
def a_tk_LIMIT (K : PySem.W.Frag) : Tok := PVH.tkV (PySem.W.nsIn K mainGlobals "LIMIT")
def a_tk_MOST_COPIES (K : PySem.W.Frag) : Tok := PVH.tkV (PySem.W.nsIn K mainGlobals "MOST_COPIES")
def chk (K : PySem.W.Frag) : List Bool := [
  decide (PySem.W.nsIn K mainGlobals "Frame" = some (some (.ref (a_C_Frame K)))),
  decide (PySem.W.nsIn K mainGlobals "Cover" = some (some (.ref (a_C_Cover K)))),
  decide (PySem.W.nsIn K mainGlobals "_law_feed" = some (some (.ref (a_f_law_feed K)))),
  decide (PySem.W.nsIn K mainGlobals "is_place" = some (some (.ref (a_f_is_place K)))),
  decide (PySem.W.nsIn K mainGlobals "is_cell" = some (some (.ref (a_f_is_cell K)))),
  decide (PySem.W.nsIn K mainGlobals "need_cell" = some (some (.ref (a_f_need_cell K)))),
  decide (PySem.W.nsIn K mainGlobals "need_range" = some (some (.ref (a_f_need_range K)))),
  decide (PySem.W.findIn K (.ref (a_C_Frame K)) "__init__" = some (some (.ref (a_f_Frame___init K)))),
  decide (PySem.W.nsIn K mainGlobals "_law_frame" = some (some (.ref (a_f_law_frame K)))),
  decide (PySem.W.nsIn K mainGlobals "_law_pick" = some (some (.ref (a_f_law_pick K)))),
  decide (PySem.W.nsIn K mainGlobals "missing_ends" = some (some (.ref (a_f_missing_ends K)))),
  decide (PySem.W.findIn K (.ref (a_C_Frame K)) "missing_rows" = some (some (.ref (a_f_Frame_missing_rows K)))),
  decide (PySem.W.findIn K (.ref (a_C_Frame K)) "missing_columns" = some (some (.ref (a_f_Frame_missing_columns K)))),
  decide (PySem.W.findIn K (.ref (a_C_Frame K)) "fewest" = some (some (.ref (a_f_Frame_fewest K)))),
  decide (PySem.W.nsIn K mainGlobals "_law_ends" = some (some (.ref (a_f_law_ends K)))),
  decide (PySem.W.nsIn K mainGlobals "_law_lists" = some (some (.ref (a_f_law_lists K)))),
  decide (PySem.W.nsIn K mainGlobals "_law_number" = some (some (.ref (a_f_law_number K)))),
  decide (PySem.W.nsIn K mainGlobals "need_copies" = some (some (.ref (a_f_need_copies K)))),
  decide (PySem.W.nsIn K mainGlobals "powers_of" = some (some (.ref (a_f_powers_of K)))),
  decide (PySem.W.findIn K (.ref (a_C_Cover K)) "__init__" = some (some (.ref (a_f_Cover___init K)))),
  decide (PySem.W.findIn K (.ref (a_C_Frame K)) "top" = some (some (.ref (a_q_Frame_top K)))),
  decide (PySem.W.specialIn K (.ref (a_q_Frame_top K)) "__get__" = some (some (.builtin "property.__get__"))),
  decide (PySem.W.takesIn K (.ref (a_q_Frame_top K)) = some true),
  decide (PySem.W.recIn K (a_q_Frame_top K) "property" = some (.ref (a_f_Frame_top K) :: (a_r_Frame_top K))),
  decide (PySem.W.findIn K (.ref (a_C_Frame K)) "bottom" = some (some (.ref (a_q_Frame_bottom K)))),
  decide (PySem.W.specialIn K (.ref (a_q_Frame_bottom K)) "__get__" = some (some (.builtin "property.__get__"))),
  decide (PySem.W.takesIn K (.ref (a_q_Frame_bottom K)) = some true),
  decide (PySem.W.recIn K (a_q_Frame_bottom K) "property" = some (.ref (a_f_Frame_bottom K) :: (a_r_Frame_bottom K))),
  decide (PySem.W.findIn K (.ref (a_C_Frame K)) "left" = some (some (.ref (a_q_Frame_left K)))),
  decide (PySem.W.specialIn K (.ref (a_q_Frame_left K)) "__get__" = some (some (.builtin "property.__get__"))),
  decide (PySem.W.takesIn K (.ref (a_q_Frame_left K)) = some true),
  decide (PySem.W.recIn K (a_q_Frame_left K) "property" = some (.ref (a_f_Frame_left K) :: (a_r_Frame_left K))),
  decide (PySem.W.findIn K (.ref (a_C_Frame K)) "right" = some (some (.ref (a_q_Frame_right K)))),
  decide (PySem.W.specialIn K (.ref (a_q_Frame_right K)) "__get__" = some (some (.builtin "property.__get__"))),
  decide (PySem.W.takesIn K (.ref (a_q_Frame_right K)) = some true),
  decide (PySem.W.recIn K (a_q_Frame_right K) "property" = some (.ref (a_f_Frame_right K) :: (a_r_Frame_right K))),
  decide (PySem.W.nsIn K mainGlobals "covers_of" = some (some (.ref (a_f_covers_of K)))),
  decide (PySem.W.findIn K (.ref (a_C_Cover K)) "number_of" = some (some (.ref (a_f_Cover_number_of K)))),
  decide (PySem.W.nsIn K mainGlobals "number_with" = some (some (.ref (a_f_number_with K)))),
  decide (PySem.W.nsIn K mainGlobals "count_ways" = some (some (.ref (a_f_count_ways K)))),
  decide (PySem.W.nsIn K mainGlobals "_law_right" = some (some (.ref (a_f_law_right K)))),
  decide (PySem.W.nsIn K mainGlobals "_law_rect" = some (some (.ref (a_f_law_rect K)))),
  decide (PySem.W.nsIn K mainGlobals "law" = some (some (.ref (a_f_law K)))),
  decide (PySem.W.nsIn K mainGlobals "range" = some none),
  decide (PySem.W.nsIn K mainGlobals "max" = some none),
  decide (PySem.W.nsIn K mainGlobals "min" = some none),
  decide (PySem.W.nsIn K mainGlobals "len" = some none),
  decide (PySem.W.nsIn K mainGlobals "abs" = some none),
  PySem.W.makesIn K (a_C_Frame K),
  PySem.W.isFn K (.ref (a_f_Frame___init K)),
  PySem.W.keepIn K (.ref (a_C_Frame K)),
  decide (PySem.W.nsIn K mainGlobals "isinstance" = some none),
  decide (PySem.W.nsIn K mainGlobals "tuple" = some none),
  decide (PySem.W.nsIn K mainGlobals "int" = some none),
  decide (PySem.W.nsIn K mainGlobals "bool" = some none),
  decide (PySem.W.nsIn K mainGlobals "LIMIT" = some (some (.int 1000000000000000000000000000000 (a_tk_LIMIT K)))),
  decide (PySem.W.nsIn K mainGlobals "all" = some none),
  PySem.W.isFn K (.ref (a_f_Frame_fewest K)),
  PySem.W.isFn K (.ref (a_f_Frame_missing_rows K)),
  PySem.W.isFn K (.ref (a_f_Frame_missing_columns K)),
  decide (PySem.W.nsIn K mainGlobals "sorted" = some none),
  decide (PySem.W.nsIn K mainGlobals "set" = some none),
  decide (PySem.W.nsIn K mainGlobals "enumerate" = some none),
  decide (PySem.W.nsIn K mainGlobals "MOST_COPIES" = some (some (.int 299 (a_tk_MOST_COPIES K)))),
  PySem.W.makesIn K (a_C_Cover K),
  PySem.W.isFn K (.ref (a_f_Cover___init K)),
  PySem.W.keepIn K (.ref (a_C_Cover K)),
  PySem.W.isFn K (.ref (a_f_Cover_number_of K)),
  decide (PySem.W.findIn K (.ref (a_C_Frame K)) "begin" = some none),
  decide (PySem.W.findIn K (.ref (a_C_Frame K)) "end" = some none),
  decide (PySem.W.findIn K (.ref (a_C_Frame K)) "row_range" = some none),
  decide (PySem.W.findIn K (.ref (a_C_Frame K)) "column_range" = some none),
  decide (PySem.W.findIn K (.ref (a_C_Cover K)) "low" = some none),
  decide (PySem.W.findIn K (.ref (a_C_Cover K)) "high" = some none),
  decide (PySem.W.findIn K (.ref (a_C_Cover K)) "wanted" = some none),
  decide (PySem.W.findIn K (.ref (a_C_Cover K)) "tables" = some none),
  decide (PySem.W.specialIn K (.builtin "object.__class__") "__get__" = some (some (.builtin "getset_descriptor.__get__"))),
  decide (PySem.W.takesIn K (.builtin "object.__class__") = some true),
  decide (PySem.W.findIn K (.ref (a_C_Frame K)) "__class__" = some (some (.builtin "object.__class__"))),
  decide (PySem.W.mroIn K (a_C_Frame K) (.type "object") = some true),
  decide (PySem.W.findIn K (.ref (a_C_Cover K)) "__class__" = some (some (.builtin "object.__class__"))),
  decide (PySem.W.mroIn K (a_C_Cover K) (.type "object") = some true),
  decide (PySem.W.subIn K (.type "NoneType") (.type "int") = some false),
  decide (PySem.W.subIn K (.type "NoneType") (.type "bool") = some false),
  decide (PySem.W.subIn K (.type "NoneType") (.type "tuple") = some false),
  decide (PySem.W.subIn K (.type "bool") (.type "int") = some true),
  decide (PySem.W.subIn K (.type "bool") (.type "bool") = some true),
  decide (PySem.W.subIn K (.type "bool") (.type "tuple") = some false),
  decide (PySem.W.subIn K (.type "int") (.type "int") = some true),
  decide (PySem.W.subIn K (.type "int") (.type "bool") = some false),
  decide (PySem.W.subIn K (.type "int") (.type "tuple") = some false),
  decide (PySem.W.subIn K (.type "str") (.type "int") = some false),
  decide (PySem.W.subIn K (.type "str") (.type "bool") = some false),
  decide (PySem.W.subIn K (.type "str") (.type "tuple") = some false),
  decide (PySem.W.subIn K (.type "tuple") (.type "int") = some false),
  decide (PySem.W.subIn K (.type "tuple") (.type "bool") = some false),
  decide (PySem.W.subIn K (.type "tuple") (.type "tuple") = some true),
  decide (PySem.W.subIn K (.type "list") (.type "int") = some false),
  decide (PySem.W.subIn K (.type "list") (.type "bool") = some false),
  decide (PySem.W.subIn K (.type "list") (.type "tuple") = some false),
  decide (PySem.W.subIn K (.type "dict") (.type "int") = some false),
  decide (PySem.W.subIn K (.type "dict") (.type "bool") = some false),
  decide (PySem.W.subIn K (.type "dict") (.type "tuple") = some false),
  decide (PySem.W.subIn K (.ref (a_C_Frame K)) (.type "int") = some false),
  decide (PySem.W.subIn K (.ref (a_C_Frame K)) (.type "bool") = some false),
  decide (PySem.W.subIn K (.ref (a_C_Frame K)) (.type "tuple") = some false),
  decide (PySem.W.subIn K (.ref (a_C_Cover K)) (.type "int") = some false),
  decide (PySem.W.subIn K (.ref (a_C_Cover K)) (.type "bool") = some false),
  decide (PySem.W.subIn K (.ref (a_C_Cover K)) (.type "tuple") = some false),
  PySem.W.plainGet K (a_C_Frame K) Str.empty,
  PySem.W.hasDictIn K (a_C_Frame K),
  PySem.W.plainOver K (a_C_Frame K),
  decide (PySem.W.findIn K (.ref (a_C_Frame K)) "__setattr__" = some (some (.builtin "object.__setattr__"))),
  PySem.W.plainGet K (a_C_Cover K) Str.empty,
  PySem.W.hasDictIn K (a_C_Cover K),
  PySem.W.plainOver K (a_C_Cover K),
  decide (PySem.W.findIn K (.ref (a_C_Cover K)) "__setattr__" = some (some (.builtin "object.__setattr__")))]
def fds : List PVH.Fd := [⟨a_f_law_feed, "_law_feed", "_law_feed", s_law_feed, []⟩,
  ⟨a_f_is_place, "is_place", "is_place", s_is_place, []⟩,
  ⟨a_f_is_cell, "is_cell", "is_cell", s_is_cell, []⟩,
  ⟨a_f_need_cell, "need_cell", "need_cell", s_need_cell, []⟩,
  ⟨a_f_need_range, "need_range", "need_range", s_need_range, []⟩,
  ⟨a_f_Frame___init, "__init__", "Frame.__init__", s_Frame___init, []⟩,
  ⟨a_f_law_frame, "_law_frame", "_law_frame", s_law_frame, []⟩,
  ⟨a_f_law_pick, "_law_pick", "_law_pick", s_law_pick, []⟩,
  ⟨a_f_missing_ends, "missing_ends", "missing_ends", s_missing_ends, []⟩,
  ⟨a_f_Frame_missing_rows, "missing_rows", "Frame.missing_rows", s_Frame_missing_rows, []⟩,
  ⟨a_f_Frame_missing_columns, "missing_columns", "Frame.missing_columns", s_Frame_missing_columns, []⟩,
  ⟨a_f_Frame_fewest, "fewest", "Frame.fewest", s_Frame_fewest, []⟩,
  ⟨a_f_law_ends, "_law_ends", "_law_ends", s_law_ends, []⟩,
  ⟨a_f_law_lists, "_law_lists", "_law_lists", s_law_lists, []⟩,
  ⟨a_f_law_number, "_law_number", "_law_number", s_law_number, []⟩,
  ⟨a_f_need_copies, "need_copies", "need_copies", s_need_copies, []⟩,
  ⟨a_f_powers_of, "powers_of", "powers_of", s_powers_of, []⟩,
  ⟨a_f_Cover___init, "__init__", "Cover.__init__", s_Cover___init, []⟩,
  ⟨a_f_Frame_top, "top", "Frame.top", s_Frame_top, []⟩,
  ⟨a_f_Frame_bottom, "bottom", "Frame.bottom", s_Frame_bottom, []⟩,
  ⟨a_f_Frame_left, "left", "Frame.left", s_Frame_left, []⟩,
  ⟨a_f_Frame_right, "right", "Frame.right", s_Frame_right, []⟩,
  ⟨a_f_covers_of, "covers_of", "covers_of", s_covers_of, []⟩,
  ⟨a_f_Cover_number_of, "number_of", "Cover.number_of", s_Cover_number_of, []⟩,
  ⟨a_f_number_with, "number_with", "number_with", s_number_with, []⟩,
  ⟨a_f_count_ways, "count_ways", "count_ways", s_count_ways, []⟩,
  ⟨a_f_law_right, "_law_right", "_law_right", s_law_right, []⟩,
  ⟨a_f_law_rect, "_law_rect", "_law_rect", s_law_rect, []⟩,
  ⟨a_f_law, "law", "law", s_law, []⟩]
def loose0 : List PySem.Str := ["_wall", "CopyError", "InvalidCell", "InvalidFrame", "InvalidNumber", "LIMIT", "is_place", "is_cell", "need_cell", "need_range", "missing_ends", "Frame", "MOST_COPIES", "powers_of", "Cover", "covers_of", "need_copies", "number_with", "count_ways", "_law_feed", "_law_pick", "_law_frame", "_law_rect", "_law_ends", "_law_lists", "_law_number", "_law_right"]
def loose : List PySem.Str := loose0
abbrev R : PySem.W.OpenRow := PySem.W.OpenLaw.row PySem.Challenge.rw_copyways_k22_ways_of_many_copies_counted
def seen0 : List Addr := [3, 2, 6, 4, 21, 31, 44, 56, 68, 77, 84, 91, 96, 101, 208, 219, 248, 259, 266, 273, 280, 287, 294, 301, 308, 313, 320, 327, 334, 339, 20, 30, 43, 55, 67, 76, 83, 90, 95, 100, 207, 218, 247, 258, 265, 272, 279, 286, 293, 300, 307, 312, 319, 326, 333, 338, 29, 32, 42, 54, 66, 115, 123, 131, 139, 147, 155, 163, 170, 177, 184, 191, 198, 205, 206, 209, 210, 231, 238, 245, 246, 249, 250, 114, 122, 130, 138, 146, 154, 162, 169, 176, 183, 190, 197, 204, 230, 237, 244, 121]
def seen1 : List Addr := [129, 137, 145, 153, 161]
def seen : List Addr := seen0 ++ (seen1)
theorem run (w : World) : HandSHeadRun.RunEq R (PySem.W.view R.prog [32]) (PVH.hook seen chk fds) (PVH.ob seen chk fds) 14000 loose w := by
  intro os
  kernel_rfl
theorem facts {w : World} {K : PySem.W.Frag} {h : Heap} {mg : Str → Option Value} {fa : Addr} (X : K.In h) (G : h.Ns mainGlobals mg) (hfa : mg "law" = some (.ref fa)) (c : PVH.Says chk fds K) :
    ∃ (cm : Nat → Addr) (fd : FuncData), (∀ (s : Shared) (u : Value), BindsTo s fd ⟨[u], []⟩ [("_law_script", u)]) ∧ ∀ base : Heap, K.In base → base.Ns mainGlobals mg → FnB PySem.Challenge.rw_copyways_k22_ways_of_many_copies_counted.prog w K mg base cm 8 fa fd ["_law_script"] F_law := by
  obtain ⟨d_law_feed, hF_law_feed⟩ := PVH.Says.def_ c 0 rfl
  obtain ⟨d_is_place, hF_is_place⟩ := PVH.Says.def_ c 1 rfl
  obtain ⟨d_is_cell, hF_is_cell⟩ := PVH.Says.def_ c 2 rfl
  obtain ⟨d_need_cell, hF_need_cell⟩ := PVH.Says.def_ c 3 rfl
  obtain ⟨d_need_range, hF_need_range⟩ := PVH.Says.def_ c 4 rfl
  obtain ⟨d_Frame___init, hF_Frame___init⟩ := PVH.Says.def_ c 5 rfl
  obtain ⟨d_law_frame, hF_law_frame⟩ := PVH.Says.def_ c 6 rfl
  obtain ⟨d_law_pick, hF_law_pick⟩ := PVH.Says.def_ c 7 rfl
  obtain ⟨d_missing_ends, hF_missing_ends⟩ := PVH.Says.def_ c 8 rfl
  obtain ⟨d_Frame_missing_rows, hF_Frame_missing_rows⟩ := PVH.Says.def_ c 9 rfl
  obtain ⟨d_Frame_missing_columns, hF_Frame_missing_columns⟩ := PVH.Says.def_ c 10 rfl
  obtain ⟨d_Frame_fewest, hF_Frame_fewest⟩ := PVH.Says.def_ c 11 rfl
  obtain ⟨d_law_ends, hF_law_ends⟩ := PVH.Says.def_ c 12 rfl
  obtain ⟨d_law_lists, hF_law_lists⟩ := PVH.Says.def_ c 13 rfl
  obtain ⟨d_law_number, hF_law_number⟩ := PVH.Says.def_ c 14 rfl
  obtain ⟨d_need_copies, hF_need_copies⟩ := PVH.Says.def_ c 15 rfl
  obtain ⟨d_powers_of, hF_powers_of⟩ := PVH.Says.def_ c 16 rfl
  obtain ⟨d_Cover___init, hF_Cover___init⟩ := PVH.Says.def_ c 17 rfl
  obtain ⟨d_Frame_top, hF_Frame_top⟩ := PVH.Says.def_ c 18 rfl
  obtain ⟨d_Frame_bottom, hF_Frame_bottom⟩ := PVH.Says.def_ c 19 rfl
  obtain ⟨d_Frame_left, hF_Frame_left⟩ := PVH.Says.def_ c 20 rfl
  obtain ⟨d_Frame_right, hF_Frame_right⟩ := PVH.Says.def_ c 21 rfl
  obtain ⟨d_covers_of, hF_covers_of⟩ := PVH.Says.def_ c 22 rfl
  obtain ⟨d_Cover_number_of, hF_Cover_number_of⟩ := PVH.Says.def_ c 23 rfl
  obtain ⟨d_number_with, hF_number_with⟩ := PVH.Says.def_ c 24 rfl
  obtain ⟨d_count_ways, hF_count_ways⟩ := PVH.Says.def_ c 25 rfl
  obtain ⟨d_law_right, hF_law_right⟩ := PVH.Says.def_ c 26 rfl
  obtain ⟨d_law_rect, hF_law_rect⟩ := PVH.Says.def_ c 27 rfl
  obtain ⟨d_law, hF_law⟩ := PVH.Says.def_ c 28 rfl
  exact all_mk (l := PySem.Challenge.rw_copyways_k22_ways_of_many_copies_counted) (C_Frame := a_C_Frame K) (C_Cover := a_C_Cover K) (f_law_feed := a_f_law_feed K) (f_is_place := a_f_is_place K) (f_is_cell := a_f_is_cell K) (f_need_cell := a_f_need_cell K) (f_need_range := a_f_need_range K) (f_Frame___init := a_f_Frame___init K) (f_law_frame := a_f_law_frame K) (f_law_pick := a_f_law_pick K) (f_missing_ends := a_f_missing_ends K) (f_Frame_missing_rows := a_f_Frame_missing_rows K) (f_Frame_missing_columns := a_f_Frame_missing_columns K) (f_Frame_fewest := a_f_Frame_fewest K) (f_law_ends := a_f_law_ends K) (f_law_lists := a_f_law_lists K) (f_law_number := a_f_law_number K) (f_need_copies := a_f_need_copies K) (f_powers_of := a_f_powers_of K) (f_Cover___init := a_f_Cover___init K) (q_Frame_top := a_q_Frame_top K) (f_Frame_top := a_f_Frame_top K) (r_Frame_top := a_r_Frame_top K) (q_Frame_bottom := a_q_Frame_bottom K) (f_Frame_bottom := a_f_Frame_bottom K) (r_Frame_bottom := a_r_Frame_bottom K) (q_Frame_left := a_q_Frame_left K) (f_Frame_left := a_f_Frame_left K) (r_Frame_left := a_r_Frame_left K) (q_Frame_right := a_q_Frame_right K) (f_Frame_right := a_f_Frame_right K) (r_Frame_right := a_r_Frame_right K) (f_covers_of := a_f_covers_of K) (f_Cover_number_of := a_f_Cover_number_of K) (f_number_with := a_f_number_with K) (f_count_ways := a_f_count_ways K) (f_law_right := a_f_law_right K) (f_law_rect := a_f_law_rect K) (f_law := a_f_law K) (tk_LIMIT := a_tk_LIMIT K) (tk_MOST_COPIES := a_tk_MOST_COPIES K) X G hfa
    (PVH.Says.dec c 0 rfl)
    (PVH.Says.dec c 1 rfl)
    (PVH.Says.dec c 2 rfl)
    hF_law_feed
    (PVH.Says.dec c 3 rfl)
    hF_is_place
    (PVH.Says.dec c 4 rfl)
    hF_is_cell
    (PVH.Says.dec c 5 rfl)
    hF_need_cell
    (PVH.Says.dec c 6 rfl)
    hF_need_range
    (PVH.Says.dec c 7 rfl)
    hF_Frame___init
    (PVH.Says.dec c 8 rfl)
    hF_law_frame
    (PVH.Says.dec c 9 rfl)
    hF_law_pick
    (PVH.Says.dec c 10 rfl)
    hF_missing_ends
    (PVH.Says.dec c 11 rfl)
    hF_Frame_missing_rows
    (PVH.Says.dec c 12 rfl)
    hF_Frame_missing_columns
    (PVH.Says.dec c 13 rfl)
    hF_Frame_fewest
    (PVH.Says.dec c 14 rfl)
    hF_law_ends
    (PVH.Says.dec c 15 rfl)
    hF_law_lists
    (PVH.Says.dec c 16 rfl)
    hF_law_number
    (PVH.Says.dec c 17 rfl)
    hF_need_copies
    (PVH.Says.dec c 18 rfl)
    hF_powers_of
    (PVH.Says.dec c 19 rfl)
    hF_Cover___init
    (PVH.Says.dec c 20 rfl)
    (PVH.Says.dec c 21 rfl)
    (PVH.Says.dec c 22 rfl)
    (PVH.Says.dec c 23 rfl)
    hF_Frame_top
    (PVH.Says.dec c 24 rfl)
    (PVH.Says.dec c 25 rfl)
    (PVH.Says.dec c 26 rfl)
    (PVH.Says.dec c 27 rfl)
    hF_Frame_bottom
    (PVH.Says.dec c 28 rfl)
    (PVH.Says.dec c 29 rfl)
    (PVH.Says.dec c 30 rfl)
    (PVH.Says.dec c 31 rfl)
    hF_Frame_left
    (PVH.Says.dec c 32 rfl)
    (PVH.Says.dec c 33 rfl)
    (PVH.Says.dec c 34 rfl)
    (PVH.Says.dec c 35 rfl)
    hF_Frame_right
    (PVH.Says.dec c 36 rfl)
    hF_covers_of
    (PVH.Says.dec c 37 rfl)
    hF_Cover_number_of
    (PVH.Says.dec c 38 rfl)
    hF_number_with
    (PVH.Says.dec c 39 rfl)
    hF_count_ways
    (PVH.Says.dec c 40 rfl)
    hF_law_right
    (PVH.Says.dec c 41 rfl)
    hF_law_rect
    (PVH.Says.dec c 42 rfl)
    hF_law
    (PVH.Says.dec c 43 rfl)
    (PVH.Says.dec c 44 rfl)
    (PVH.Says.dec c 45 rfl)
    (PVH.Says.dec c 46 rfl)
    (PVH.Says.dec c 47 rfl)
    (PVH.Says.at_ c 48 rfl)
    (PVH.Says.at_ c 49 rfl)
    (PVH.Says.at_ c 50 rfl)
    (PVH.Says.dec c 51 rfl)
    (PVH.Says.dec c 52 rfl)
    (PVH.Says.dec c 53 rfl)
    (PVH.Says.dec c 54 rfl)
    (PVH.Says.dec c 55 rfl)
    (PVH.Says.dec c 56 rfl)
    (PVH.Says.at_ c 57 rfl)
    (PVH.Says.at_ c 58 rfl)
    (PVH.Says.at_ c 59 rfl)
    (PVH.Says.dec c 60 rfl)
    (PVH.Says.dec c 61 rfl)
    (PVH.Says.dec c 62 rfl)
    (PVH.Says.dec c 63 rfl)
    (PVH.Says.at_ c 64 rfl)
    (PVH.Says.at_ c 65 rfl)
    (PVH.Says.at_ c 66 rfl)
    (PVH.Says.at_ c 67 rfl)
    (PVH.Says.dec c 68 rfl)
    (PVH.Says.dec c 69 rfl)
    (PVH.Says.dec c 70 rfl)
    (PVH.Says.dec c 71 rfl)
    (PVH.Says.dec c 72 rfl)
    (PVH.Says.dec c 73 rfl)
    (PVH.Says.dec c 74 rfl)
    (PVH.Says.dec c 75 rfl)
    (PVH.Says.dec c 76 rfl)
    (PVH.Says.dec c 77 rfl)
    (PVH.Says.dec c 78 rfl)
    (PVH.Says.dec c 79 rfl)
    (PVH.Says.dec c 80 rfl)
    (PVH.Says.dec c 81 rfl)
    (PVH.Says.dec c 82 rfl)
    (PVH.Says.dec c 83 rfl)
    (PVH.Says.dec c 84 rfl)
    (PVH.Says.dec c 85 rfl)
    (PVH.Says.dec c 86 rfl)
    (PVH.Says.dec c 87 rfl)
    (PVH.Says.dec c 88 rfl)
    (PVH.Says.dec c 89 rfl)
    (PVH.Says.dec c 90 rfl)
    (PVH.Says.dec c 91 rfl)
    (PVH.Says.dec c 92 rfl)
    (PVH.Says.dec c 93 rfl)
    (PVH.Says.dec c 94 rfl)
    (PVH.Says.dec c 95 rfl)
    (PVH.Says.dec c 96 rfl)
    (PVH.Says.dec c 97 rfl)
    (PVH.Says.dec c 98 rfl)
    (PVH.Says.dec c 99 rfl)
    (PVH.Says.dec c 100 rfl)
    (PVH.Says.dec c 101 rfl)
    (PVH.Says.dec c 102 rfl)
    (PVH.Says.dec c 103 rfl)
    (PVH.Says.dec c 104 rfl)
    (PVH.Says.dec c 105 rfl)
    (PVH.Says.dec c 106 rfl)
    (PVH.Says.dec c 107 rfl)
    (PVH.Says.dec c 108 rfl)
    (PVH.Says.at_ c 109 rfl)
    (PVH.Says.at_ c 110 rfl)
    (PVH.Says.at_ c 111 rfl)
    (PVH.Says.dec c 112 rfl)
    (PVH.Says.at_ c 113 rfl)
    (PVH.Says.at_ c 114 rfl)
    (PVH.Says.at_ c 115 rfl)
    (PVH.Says.dec c 116 rfl)
end Ck22
open PySem PySem.W PySem.Calls PyProof.Rows in
set_option maxRecDepth 100000 in
set_option maxHeartbeats 0 in
theorem PySem.Challenge.cw_copyways_k22_ways_of_many_copies_counted_holds : PySem.Challenge.rw_copyways_k22_ways_of_many_copies_counted.Holds := by
  w_on; o_law
  refine HandSHeadRun.head_any (r := (OpenLaw.row PySem.Challenge.rw_copyways_k22_ways_of_many_copies_counted)) (q := view (OpenLaw.row PySem.Challenge.rw_copyways_k22_ways_of_many_copies_counted).prog [32]) (H := PVH.hook Ck22.seen Ck22.chk Ck22.fds) (ob := PVH.ob Ck22.seen Ck22.chk Ck22.fds) (M := 14000) (loose := Ck22.loose) (d := HandSHeadRun.topDef (OpenLaw.row PySem.Challenge.rw_copyways_k22_ways_of_many_copies_counted).prog 32) (kwd := []) (PVH.ob_eq Ck22.seen Ck22.chk Ck22.fds)
    (by kernel_rfl) (fun s => by kernel_rfl) Ck22.run (by kernel_rfl) (by kernel_rfl) (by kernel_rfl) (by rfl) (by first | assumption | decide +kernel) (by decide +kernel) ⟨rfl, rfl, rfl, rfl, rfl, by decide +kernel⟩ ?hw ?hc
  case hw => w_witness2
  case hc =>
    refine PVH.walk_inE (l := PySem.Challenge.rw_copyways_k22_ways_of_many_copies_counted) (n := 63) (k := 8) (x := "_law_script") (F := Ck22.F_law) rfl (by decide) (by kernel_rfl) ⟨rfl, by decide, by decide⟩ ?B Ck22.plain
    intro w mg fa h Y G hmg0
    obtain ⟨K, KX, c⟩ := Y
    have hmg : mg ("law" : PySem.Str) = some (.ref fa) := by
      have e : (HandSHeadRun.topDef (OpenLaw.row PySem.Challenge.rw_copyways_k22_ways_of_many_copies_counted).prog 32).name = ("law" : PySem.Str) := by kernel_rfl
      rw [← e]
      exact hmg0
    obtain ⟨cm, fd, hb, hF⟩ := Ck22.facts (w := w) KX G hmg c
    exact ⟨K, cm, fd, KX, hb, hF⟩
