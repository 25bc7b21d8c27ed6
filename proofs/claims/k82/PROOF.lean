import PyProof.Rows.All
import Wide.All
import OpenK.AllK
import Wide.FinOn
import HandS.Base
import HandS.Call
import HandS.Exc
import HandS.List
import HandS.Comp
import HandS.Ends
import HandS.Dict
import HandS.Iter
import HandS.Text
import HandS.Words
import HandS.WordsList
import HandS.Wide
import HandS.Deep
import HandS.IsInst
import HandS.Style
import HandS.Defaults
import HandS.Star
import HandS.ClsMeth
import HandS.Property
import HandS.MakeKw
import HandS.MakeKwOnly
import HandS.RaiseMore
import HandS.Flow
import HandS.Zip
import PyProof.ReprRoads
import OpenK.KCls
import HandS.Head0
import HandS.Head1
import HandS.Head2
import HandS.HeadHook1
import HandS.HeadHook2
import HandS.ExcInit
import HandS.OwnEq
import HandS.FStr
import KE.GoesEnum
import HandS.WideBits
import HandS.TryMany
import HandS.TryOnly
import KE.KExcPX
import KE.KExcIs
import KE.KOpsOwn
import HandS.HotCalls
import HandS.SetFor
import HandS.Strs
import HandS.SortInts
import HandS.OwnIter
import KE.KDictZip
import PyProof.P3In
import PyProof.CallFns
import KE.SortData
import KE.LtData
import PyProof.ListRange
import PyProof.RangeFor
import HandS.TupAny
import HandS.ExcField
import PyProof.ListStr
import PyProof.StrOps2
import HandS.Conv
import PyProof.FitsInt
import PyProof.Rows.RegStrFacts
import PyProof.Rows.ReprOcc
import PyProof.Rows.StrIntSpec
import HandS.Codes
import PyProof.Rows.StrFirst
import PySem.Challenge.RW_copyways_k82_texts_of_no_formula
set_option Elab.async false
set_option linter.all false
set_option maxRecDepth 100000
set_option maxHeartbeats 4000000
namespace PV
open PySem PySem.Spec PyProof.Rows L2
inductive D where
  | non | bl (b : Bool) | int (i : Int) | str (x : Str)
  | tup (xs : List D) | lst (xs : List D) | arg (xs : List D) | argT (xs : List D)
  | dic (kvs : List (Key × D))
  | ins (c : Nat) (fs : List (Str × D))
  | ref (i : Nat)
  | cl (c : Nat)
  | ty (n : String)
  | exn (c : Nat)
  | exw (c : Nat) (fs : List (Str × D))
inductive Cell where
  | lst (xs : List D)
  | ins (c : Nat) (fs : List (Str × D))
  | dead
def exPhi (C a : Addr) : Heap → Prop := fun h => ∃ o vs, h.get? a = some o ∧ o.cls = .ref C ∧ o.dict = none ∧ o.data = .fields vs
def exPhiW (C dd a : Addr) : Heap → Prop := fun h => ∃ o vs, h.get? a = some o ∧ o.cls = .ref C ∧ o.dict = some dd ∧ o.data = .fields vs
structure Wd where
  G : Hp
  r : List Addr
  pn : List (Addr × HO)
structure Wd.le (A B : Wd) : Prop where
  g : ∀ a o, A.G a = some o → B.G a = some o
  r : ∀ (i : Nat) (a : Addr), A.r[i]? = some a → B.r[i]? = some a
  p : B.pn = A.pn
theorem Wd.le.refl (A : Wd) : A.le A := ⟨fun _ _ h => h, fun _ _ h => h, rfl⟩
theorem Wd.le.trans {A B C : Wd} (x : A.le B) (y : B.le C) : A.le C := ⟨fun a o h => y.g a o (x.g a o h), fun i a h => y.r i a (x.r i a h), y.p.trans x.p⟩
section
variable (K : PySem.W.Frag) (cm : Nat → Addr) (W : Wd)
mutual
inductive Rp : D → V → Prop
  | non : Rp .non .non
  | bl (b : Bool) : Rp (.bl b) (.bl b)
  | int (i : Int) : Rp (.int i) (.int i)
  | str (x : Str) : Rp (.str x) (.str x)
  | tup {ds : List D} {a : Addr} {xs : List V} : W.G a = some (.tup xs) → Rps ds xs → Rp (.tup ds) (.ref a)
  | lst {ds : List D} {a : Addr} {xs : List V} : W.G a = some (.lst xs) → Rps ds xs → Rp (.lst ds) (.ref a)
  | arg {ds : List D} {a : Addr} {xs : List V} : SqL K W.G a xs → Rps ds xs → Rp (.arg ds) (.ref a)
  | argT {ds : List D} {a : Addr} {xs : List V} : SqT K W.G a xs → Rps ds xs → Rp (.argT ds) (.ref a)
  | dic {ds : List (Key × D)} {a : Addr} {xs : List (Key × V)} : W.G a = some (.dK xs) → Rpk ds xs → Rp (.dic ds) (.ref a)
  | ins {c : Nat} {fs : List (Str × D)} {a dx : Addr} {vs : List (Str × V)} : W.G a = some (.ins (cm c) dx vs) → Rpf fs vs → Rp (.ins c fs) (.ref a)
  | ref {i : Nat} {a : Addr} : W.r[i]? = some a → Rp (.ref i) (.ref a)
  | cl (c : Nat) : Rp (.cl c) (.ref (cm c))
  | ty (n : String) : Rp (.ty n) (.ty n)
  | exn {c : Nat} {a : Addr} : W.G a = some (.ext (exPhi (cm c) a)) → Rp (.exn c) (.ref a)
  | exw {c : Nat} {fs : List (Str × D)} {a dd : Addr} {vs : List (Str × V)} : W.G a = some (.ext (exPhiW (cm c) dd a)) → W.G dd = some (.xd vs) → Rpf fs vs → Rp (.exw c fs) (.ref a)
inductive Rps : List D → List V → Prop
  | nil : Rps [] []
  | cons {d : D} {v : V} {ds : List D} {vs : List V} : Rp d v → Rps ds vs → Rps (d :: ds) (v :: vs)
inductive Rpf : List (Str × D) → List (Str × V) → Prop
  | nil : Rpf [] []
  | cons {k : Str} {d : D} {v : V} {ds : List (Str × D)} {vs : List (Str × V)} : Rp d v → Rpf ds vs → Rpf ((k, d) :: ds) ((k, v) :: vs)
inductive Rpk : List (Key × D) → List (Key × V) → Prop
  | nil : Rpk [] []
  | cons {k : Key} {d : D} {v : V} {ds : List (Key × D)} {vs : List (Key × V)} : Rp d v → Rpk ds vs → Rpk ((k, d) :: ds) ((k, v) :: vs)
end
end
section
variable {K : PySem.W.Frag} {cm : Nat → Addr} {W W' : Wd} {H H' : Hp}
theorem rd_le {G G' : Hp} (g : ∀ a o, G a = some o → G' a = some o) {a : Addr} {u : HO} (h : Rd G a u) : Rd G' a u := by
  rcases h with h | ⟨o, h⟩
  · exact .inl (g _ _ h)
  · exact .inr ⟨o, g _ _ h⟩
theorem sqL_le {G G' : Hp} (g : ∀ a o, G a = some o → G' a = some o) {a : Addr} {xs : List V} (h : SqL K G a xs) : SqL K G' a xs := by
  rcases h with h | h
  · exact .inl (rd_le g h)
  · exact .inr h
theorem sqT_le {G G' : Hp} (g : ∀ a o, G a = some o → G' a = some o) {a : Addr} {xs : List V} (h : SqT K G a xs) : SqT K G' a xs := by
  rcases h with h | h
  · exact .inl (rd_le g h)
  · exact .inr h
mutual
theorem Rp.up' (lg : ∀ a o, W.G a = some o → W'.G a = some o) (lr : ∀ (i : Nat) (a : Addr), W.r[i]? = some a → W'.r[i]? = some a) : ∀ {d : D} {v : V}, Rp K cm W d v → Rp K cm W' d v
  | _, _, .non => .non
  | _, _, .bl b => .bl b
  | _, _, .int b => .int b
  | _, _, .str b => .str b
  | _, _, .tup h r => .tup (lg _ _ h) (Rps.up' lg lr r)
  | _, _, .argT h r => .argT (sqT_le lg h) (Rps.up' lg lr r)
  | _, _, .lst h r => .lst (lg _ _ h) (Rps.up' lg lr r)
  | _, _, .arg h r => .arg (sqL_le lg h) (Rps.up' lg lr r)
  | _, _, .dic h r => .dic (lg _ _ h) (Rpk.up' lg lr r)
  | _, _, .ins h r => .ins (lg _ _ h) (Rpf.up' lg lr r)
  | _, _, .ref h => .ref (lr _ _ h)
  | _, _, .cl c => .cl c
  | _, _, .ty c => .ty c
  | _, _, .exn h => .exn (lg _ _ h)
  | _, _, .exw h h2 r => .exw (lg _ _ h) (lg _ _ h2) (Rpf.up' lg lr r)
theorem Rps.up' (lg : ∀ a o, W.G a = some o → W'.G a = some o) (lr : ∀ (i : Nat) (a : Addr), W.r[i]? = some a → W'.r[i]? = some a) : ∀ {d : List D} {v : List V}, Rps K cm W d v → Rps K cm W' d v
  | _, _, .nil => .nil
  | _, _, .cons h r => .cons (Rp.up' lg lr h) (Rps.up' lg lr r)
theorem Rpf.up' (lg : ∀ a o, W.G a = some o → W'.G a = some o) (lr : ∀ (i : Nat) (a : Addr), W.r[i]? = some a → W'.r[i]? = some a) : ∀ {d : List (Str × D)} {v : List (Str × V)}, Rpf K cm W d v → Rpf K cm W' d v
  | _, _, .nil => .nil
  | _, _, .cons h r => .cons (Rp.up' lg lr h) (Rpf.up' lg lr r)
theorem Rpk.up' (lg : ∀ a o, W.G a = some o → W'.G a = some o) (lr : ∀ (i : Nat) (a : Addr), W.r[i]? = some a → W'.r[i]? = some a) : ∀ {d : List (Key × D)} {v : List (Key × V)}, Rpk K cm W d v → Rpk K cm W' d v
  | _, _, .nil => .nil
  | _, _, .cons h r => .cons (Rp.up' lg lr h) (Rpk.up' lg lr r)
end
theorem Rp.up (le : W.le W') {d : D} {v : V} (h : Rp K cm W d v) : Rp K cm W' d v := h.up' le.g le.r
theorem Rps.up (le : W.le W') {d : List D} {v : List V} (h : Rps K cm W d v) : Rps K cm W' d v := h.up' le.g le.r
theorem Rpf.up (le : W.le W') {d : List (Str × D)} {v : List (Str × V)} (h : Rpf K cm W d v) : Rpf K cm W' d v := h.up' le.g le.r
theorem Rpk.up (le : W.le W') {d : List (Key × D)} {v : List (Key × V)} (h : Rpk K cm W d v) : Rpk K cm W' d v := h.up' le.g le.r
theorem Rps.length : ∀ {ds : List D} {vs : List V}, Rps K cm W ds vs → ds.length = vs.length
  | _, _, .nil => rfl
  | _, _, .cons _ t => by simp [Rps.length t]
theorem Rps.get : ∀ {ds : List D} {vs : List V} {i : Nat} {d : D}, Rps K cm W ds vs → ds[i]? = some d → ∃ v, vs[i]? = some v ∧ Rp K cm W d v
  | _, _, i, _, .nil, e => by simp at e
  | _, _, 0, _, .cons h _, e => by simp at e; subst e; exact ⟨_, rfl, h⟩
  | _, _, i + 1, d, .cons _ t, e => by
    obtain ⟨v, h1, h2⟩ := Rps.get (i := i) (d := d) t (by simpa using e)
    exact ⟨v, by simpa using h1, h2⟩
theorem Rps.app : ∀ {ds es : List D} {vs us : List V}, Rps K cm W ds vs → Rps K cm W es us → Rps K cm W (ds ++ es) (vs ++ us)
  | _, _, _, _, .nil, s => s
  | _, _, _, _, .cons h t, s => .cons h (Rps.app t s)
theorem Rps.set {d : D} {v : V} (r : Rp K cm W d v) : ∀ {ds : List D} {vs : List V} (i : Nat), Rps K cm W ds vs → Rps K cm W (ds.set i d) (vs.set i v)
  | _, _, _, .nil => .nil
  | _, _, 0, .cons _ t => .cons r t
  | _, _, i + 1, .cons q t => .cons q (Rps.set r i t)
theorem Rps.take : ∀ {ds : List D} {vs : List V} (n : Nat), Rps K cm W ds vs → Rps K cm W (ds.take n) (vs.take n)
  | _, _, 0, _ => by simp; exact .nil
  | _, _, _ + 1, .nil => .nil
  | _, _, n + 1, .cons r t => .cons r (Rps.take n t)
theorem Rps.drop : ∀ {ds : List D} {vs : List V} (n : Nat), Rps K cm W ds vs → Rps K cm W (ds.drop n) (vs.drop n)
  | _, _, 0, r => r
  | _, _, _ + 1, .nil => .nil
  | _, _, n + 1, .cons _ t => Rps.drop n t
theorem Rps.dropLast {ds : List D} {vs : List V} (h : Rps K cm W ds vs) : Rps K cm W ds.dropLast vs.dropLast := by
  rw [List.dropLast_eq_take, List.dropLast_eq_take, h.length]
  exact h.take _
theorem Rps.ints : ∀ {ns : List Int} {vs : List V}, Rps K cm W (ns.map D.int) vs → vs = ns.map V.int
  | [], _, .nil => rfl
  | n :: ns, _, .cons h t => by
    cases h
    rw [Rps.ints t]; rfl
theorem Rps.bls : ∀ {ns : List Bool} {vs : List V}, Rps K cm W (ns.map D.bl) vs → vs = ns.map V.bl
  | [], _, .nil => rfl
  | n :: ns, _, .cons h t => by
    cases h
    rw [Rps.bls t]; rfl
theorem Rpf.look : ∀ {ds : List (Str × D)} {vs : List (Str × V)} {f : Str} {d : D}, Rpf K cm W ds vs → ds.lookup f = some d → ∃ v, vs.lookup f = some v ∧ Rp K cm W d v
  | _, _, _, _, .nil, e => by simp at e
  | (k, x) :: ds, (_, v) :: vs, f, d, .cons h t, e => by
    rw [List.lookup_cons] at e
    rw [List.lookup_cons]
    cases q : (f == k) with
    | true => rw [q] at e; simp at e; subst e; exact ⟨v, rfl, h⟩
    | false => rw [q] at e; exact Rpf.look t e
theorem Rpf.length : ∀ {ds : List (Str × D)} {vs : List (Str × V)}, Rpf K cm W ds vs → ds.length = vs.length
  | _, _, .nil => rfl
  | _, _, .cons _ t => by simp [Rpf.length t]
theorem Rpk.length : ∀ {ds : List (Key × D)} {vs : List (Key × V)}, Rpk K cm W ds vs → ds.length = vs.length
  | _, _, .nil => rfl
  | _, _, .cons _ t => by simp [Rpk.length t]
def putD (f : Str) (d : D) : List (Str × D) → List (Str × D)
  | [] => [(f, d)]
  | (k, x) :: r => if k = f then (k, d) :: r else (k, x) :: putD f d r
theorem Rpf.put {f : Str} {d : D} {v : V} (h : Rp K cm W d v) : ∀ {ds : List (Str × D)} {vs : List (Str × V)}, Rpf K cm W ds vs → Rpf K cm W (putD f d ds) (putF f v vs)
  | _, _, .nil => .cons h .nil
  | (k, x) :: ds, (_, y) :: vs, .cons q t => by
    show Rpf K cm W (if k = f then (k, d) :: ds else (k, x) :: putD f d ds) (if k = f then (k, v) :: vs else (k, y) :: putF f v vs)
    by_cases e : k = f
    · rw [if_pos e, if_pos e]; exact .cons h t
    · rw [if_neg e, if_neg e]; exact .cons q (Rpf.put h t)
variable (K cm W) in
def CellAt (g : Option HO) (c : Cell) (o : Option HO) : Prop := match c with
  | .lst ds => g = none ∧ ∃ xs, o = some (.lst xs) ∧ Rps K cm W ds xs
  | .ins c fs => g = none ∧ ∃ dx vs, o = some (.ins (cm c) dx vs) ∧ Rpf K cm W fs vs
  | .dead => True
theorem CellAt.up' (lg : ∀ a o, W.G a = some o → W'.G a = some o) (lr : ∀ (i : Nat) (a : Addr), W.r[i]? = some a → W'.r[i]? = some a) {g : Option HO} {c : Cell} {o : Option HO} (h : CellAt K cm W g c o) : CellAt K cm W' g c o := by
  cases c with
  | lst ds => obtain ⟨a, xs, e, r⟩ := h; exact ⟨a, xs, e, r.up' lg lr⟩
  | ins c fs => obtain ⟨a, dx, vs, e, r⟩ := h; exact ⟨a, dx, vs, e, r.up' lg lr⟩
  | dead => trivial
theorem CellAt.up (le : W.le W') {g : Option HO} {c : Cell} {o : Option HO} (h : CellAt K cm W g c o) : CellAt K cm W' g c o := h.up' le.g le.r
variable (K cm) in
structure Rel (W : Wd) (cs : List Cell) (H : Hp) : Prop where
  sub : ∀ a o, W.G a = some o → H a = some o
  len : W.r.length = cs.length
  nd : W.r.Nodup
  ex : ∀ a, a ∈ W.r → ∃ o, H a = some o
  cel : ∀ (i : Nat) (a : Addr) (c : Cell), W.r[i]? = some a → cs[i]? = some c → CellAt K cm W (W.G a) c (H a)
  pin : ∀ p, p ∈ W.pn → H p.1 = some p.2 ∧ W.G p.1 = none ∧ p.1 ∉ W.r
theorem Rel.junk {cs : List Cell} (R : Rel K cm W cs H) {p : Addr} {o : HO} (hp : H p = none) : Rel K cm W cs (upd H p o) := by
  have ne : ∀ a u, H a = some u → a ≠ p := fun a u e => ne_of_none e hp
  refine ⟨fun a u e => ?_, R.len, R.nd, fun a h => ?_, fun i a c h1 h2 => ?_, fun q hq => ?_⟩
  · have := R.sub a u e
    rw [upd_ne (ne a u this)]; exact this
  · obtain ⟨u, e⟩ := R.ex a h
    exact ⟨u, by rw [upd_ne (ne a u e)]; exact e⟩
  · obtain ⟨u, e⟩ := R.ex a (List.mem_of_getElem? h1)
    rw [upd_ne (ne a u e)]; exact R.cel i a c h1 h2
  · obtain ⟨e1, e2, e3⟩ := R.pin q hq
    exact ⟨by rw [upd_ne (ne _ _ e1)]; exact e1, e2, e3⟩
theorem le_upd {W : Wd} {p : Addr} {o : HO} (hp : W.G p = none) : W.le ⟨upd W.G p o, W.r, W.pn⟩ := ⟨fun a u e => by
  show upd W.G p o a = some u
  rw [upd_ne (ne_of_none e hp)]; exact e, fun _ _ h => h, rfl⟩
theorem Rel.gfree {cs : List Cell} (R : Rel K cm W cs H) {p : Addr} (hp : H p = none) : W.G p = none := by
  cases e : W.G p with
  | none => rfl
  | some o => have := R.sub p o e; rw [hp] at this; cases this
theorem Rel.newG {cs : List Cell} (R : Rel K cm W cs H) {p : Addr} (o : HO) (hp : H p = none) : W.le ⟨upd W.G p o, W.r, W.pn⟩ ∧ Rel K cm ⟨upd W.G p o, W.r, W.pn⟩ cs (upd H p o) := by
  have gp := R.gfree hp
  have le : W.le ⟨upd W.G p o, W.r, W.pn⟩ := le_upd gp
  have R2 := R.junk (o := o) hp
  refine ⟨le, ⟨fun a u e => ?_, R2.len, R2.nd, R2.ex, fun i a c h1 h2 => ?_, fun q hq => ?_⟩⟩
  · by_cases q : a = p
    · subst q
      have e' : upd W.G a o a = some u := e
      rw [upd_same] at e' ⊢; exact e'
    · have e' : upd W.G p o a = some u := e
      rw [upd_ne q] at e'
      exact R2.sub a u e'
  · have h1' : W.r[i]? = some a := h1
    obtain ⟨u, e⟩ := R.ex a (List.mem_of_getElem? h1')
    have q : a ≠ p := ne_of_none e hp
    show CellAt K cm _ (upd W.G p o a) c _
    rw [upd_ne q]
    exact (R2.cel i a c h1' h2).up le
  · have hq' : q ∈ W.pn := hq
    obtain ⟨e1, e2, e3⟩ := R2.pin q hq'
    refine ⟨e1, ?_, e3⟩
    show upd W.G p o q.1 = none
    rw [upd_ne (ne_of_none (R.pin q hq').1 hp)]; exact e2
theorem Rel.newC {cs : List Cell} (R : Rel K cm W cs H) {p : Addr} {c : Cell} {o : HO} (hp : H p = none) (hc : CellAt K cm W none c (some o)) : W.le ⟨W.G, W.r ++ [p], W.pn⟩ ∧ Rel K cm ⟨W.G, W.r ++ [p], W.pn⟩ (cs ++ [c]) (upd H p o) ∧ (W.r ++ [p])[cs.length]? = some p := by
  have gp := R.gfree hp
  have le : W.le ⟨W.G, W.r ++ [p], W.pn⟩ := ⟨fun _ _ h => h, fun i a h => by
    show (W.r ++ [p])[i]? = some a
    rw [List.getElem?_append_left (List.getElem?_eq_some_iff.mp h).1]; exact h, rfl⟩
  have R2 := R.junk (o := o) hp
  refine ⟨le, ⟨R2.sub, ?_, ?_, fun a h => ?_, fun i a c' h1 h2 => ?_, fun q hq => ?_⟩, ?_⟩
  · show (W.r ++ [p]).length = _
    rw [List.length_append, List.length_append, R.len]; rfl
  · show (W.r ++ [p]).Nodup
    rw [List.nodup_append]
    refine ⟨R.nd, by simp, fun a ha b hb => ?_⟩
    obtain ⟨u, e⟩ := R.ex a ha
    have : b = p := by simpa using hb
    rw [this]; exact ne_of_none e hp
  · have h' : a ∈ W.r ++ [p] := h
    rcases List.mem_append.mp h' with z | z
    · exact R2.ex a z
    · have : a = p := by simpa using z
      rw [this]; exact ⟨o, upd_same⟩
  · have h1' : (W.r ++ [p])[i]? = some a := h1
    by_cases hi : i < W.r.length
    · rw [List.getElem?_append_left hi] at h1'
      rw [List.getElem?_append_left (by rw [← R.len]; exact hi)] at h2
      exact (R2.cel i a c' h1' h2).up le
    · have hi' : i = W.r.length := by
        have := (List.getElem?_eq_some_iff.mp h1').1
        rw [List.length_append] at this
        simp at this; omega
      subst hi'
      rw [List.getElem?_append_right (Nat.le_refl _)] at h1'
      rw [R.len, List.getElem?_append_right (Nat.le_refl _)] at h2
      simp at h1' h2
      subst h1' h2
      show CellAt K cm _ (W.G p) c _
      rw [gp, upd_same]
      exact hc.up le
  · have hq' : q ∈ W.pn := hq
    obtain ⟨e1, e2, e3⟩ := R2.pin q hq'
    refine ⟨e1, e2, ?_⟩
    show q.1 ∉ W.r ++ [p]
    intro z
    rcases List.mem_append.mp z with z | z
    · exact e3 z
    · exact ne_of_none (R.pin q hq').1 hp (by simpa using z)
  · rw [← R.len, List.getElem?_append_right (Nat.le_refl _)]; simp
theorem Rel.setC {cs : List Cell} (R : Rel K cm W cs H) {i : Nat} {a : Addr} {c c' : Cell} {o : HO} (hi : W.r[i]? = some a) (hc : cs[i]? = some c) (hd : c ≠ .dead) (hc' : CellAt K cm W none c' (some o)) : W.G a = none ∧ Rel K cm W (cs.set i c') (upd H a o) := by
  have g0 : W.G a = none := by
    have := R.cel i a c hi hc
    cases c with
    | lst ds => exact this.1
    | ins c fs => exact this.1
    | dead => exact absurd rfl hd
  have ne : ∀ b u, W.G b = some u → b ≠ a := fun b u e z => by rw [z, g0] at e; cases e
  refine ⟨g0, ⟨fun b u e => ?_, ?_, R.nd, fun b h => ?_, fun j b c2 h1 h2 => ?_, fun q hq => ?_⟩⟩
  · rw [upd_ne (ne b u e)]; exact R.sub b u e
  · rw [List.length_set]; exact R.len
  · by_cases q : b = a
    · rw [q]; exact ⟨o, upd_same⟩
    · rw [upd_ne q]; exact R.ex b h
  · by_cases q : j = i
    · subst q
      have lt : j < cs.length := (List.getElem?_eq_some_iff.mp hc).1
      rw [List.getElem?_set_self lt] at h2
      cases h2
      rw [hi] at h1; cases h1
      rw [g0, upd_same]; exact hc'
    · rw [List.getElem?_set_ne (Ne.symm q)] at h2
      have nb : b ≠ a := fun z => by
        subst z
        obtain ⟨l1, e1⟩ := List.getElem?_eq_some_iff.mp h1
        obtain ⟨l2, e2⟩ := List.getElem?_eq_some_iff.mp hi
        exact q ((List.getElem_inj R.nd).mp (e1.trans e2.symm))
      rw [upd_ne nb]; exact R.cel j b c2 h1 h2
  · obtain ⟨e1, e2, e3⟩ := R.pin q hq
    exact ⟨by rw [upd_ne fun z => e3 (by rw [z]; exact List.mem_of_getElem? hi)]; exact e1, e2, e3⟩
theorem Rel.frz {cs : List Cell} (R : Rel K cm W cs H) {i : Nat} {a : Addr} {c : Cell} {o : HO} (hi : W.r[i]? = some a) (hc : cs[i]? = some c) (hd : c ≠ .dead) (ho : H a = some o) : W.le ⟨upd W.G a o, W.r, W.pn⟩ ∧ Rel K cm ⟨upd W.G a o, W.r, W.pn⟩ (cs.set i .dead) H := by
  have g0 : W.G a = none := by
    have := R.cel i a c hi hc
    cases c with
    | lst ds => exact this.1
    | ins c fs => exact this.1
    | dead => exact absurd rfl hd
  have le : W.le ⟨upd W.G a o, W.r, W.pn⟩ := le_upd g0
  refine ⟨le, ⟨fun b u e => ?_, ?_, R.nd, R.ex, fun j b c2 h1 h2 => ?_, fun q hq => ?_⟩⟩
  · have e' : upd W.G a o b = some u := e
    by_cases q : b = a
    · subst q
      rw [upd_same] at e'; rw [ho]; exact e'
    · rw [upd_ne q] at e'; exact R.sub b u e'
  · rw [List.length_set]; exact R.len
  · have h1' : W.r[j]? = some b := h1
    by_cases q : j = i
    · subst q
      have lt : j < cs.length := (List.getElem?_eq_some_iff.mp hc).1
      rw [List.getElem?_set_self lt] at h2
      cases h2
      trivial
    · rw [List.getElem?_set_ne (Ne.symm q)] at h2
      have nb : b ≠ a := fun z => by
        subst z
        obtain ⟨l1, e1⟩ := List.getElem?_eq_some_iff.mp h1'
        obtain ⟨l2, e2⟩ := List.getElem?_eq_some_iff.mp hi
        exact q ((List.getElem_inj R.nd).mp (e1.trans e2.symm))
      show CellAt K cm _ (upd W.G a o b) c2 _
      rw [upd_ne nb]
      exact (R.cel j b c2 h1' h2).up le
  · have hq' : q ∈ W.pn := hq
    obtain ⟨e1, e2, e3⟩ := R.pin q hq'
    refine ⟨e1, ?_, e3⟩
    show upd W.G a o q.1 = none
    rw [upd_ne fun z => e3 (by rw [z]; exact List.mem_of_getElem? hi)]; exact e2
end
section
variable {K : PySem.W.Frag} {cm : Nat → Addr} {W : Wd} {H : Hp} {cs : List Cell}
def Wd.pinned (W : Wd) (a : Addr) (o : HO) : Wd := ⟨W.G, W.r, (a, o) :: W.pn⟩
theorem Rel.pinUp (R : Rel K cm W cs H) {a : Addr} {o : HO} (ha : H a = none) : Rel K cm (W.pinned a o) cs (upd H a o) := by
  have R2 := R.junk (o := o) ha
  refine ⟨R2.sub, R2.len, R2.nd, R2.ex, fun i b c h1 h2 => CellAt.up' (W := W) (W' := W.pinned a o) (fun _ _ h => h) (fun _ _ h => h) (R2.cel i b c h1 h2), fun q hq => ?_⟩
  rcases List.mem_cons.mp (show q ∈ (a, o) :: W.pn from hq) with e | e
  · subst e
    exact ⟨upd_same, R.gfree ha, fun z => by
      obtain ⟨u, e⟩ := R.ex _ z
      rw [ha] at e; cases e⟩
  · exact R2.pin q e
theorem Rel.pinSet {a : Addr} {o o' : HO} (hn : ∀ p ∈ W.pn, p.1 ≠ a) (R : Rel K cm (W.pinned a o) cs H) : Rel K cm (W.pinned a o') cs (upd H a o') := by
  obtain ⟨e1, e2, e3⟩ := R.pin (a, o) (List.mem_cons_self)
  have e2' : W.G a = none := e2
  have e3' : a ∉ W.r := e3
  refine ⟨fun b u e => ?_, R.len, R.nd, fun b h => ?_, fun i b c h1 h2 => ?_, fun q hq => ?_⟩
  · have e' : W.G b = some u := e
    rw [upd_ne (ne_of_none e' e2')]; exact R.sub b u e
  · have h' : b ∈ W.r := h
    rw [upd_ne fun z => e3' (by rw [← z]; exact h')]; exact R.ex b h
  · have h1' : W.r[i]? = some b := h1
    rw [upd_ne fun z => e3' (by rw [← z]; exact List.mem_of_getElem? h1')]
    exact CellAt.up' (W := W.pinned a o) (W' := W.pinned a o') (fun _ _ h => h) (fun _ _ h => h) (R.cel i b c h1 h2)
  · rcases List.mem_cons.mp (show q ∈ (a, o') :: W.pn from hq) with e | e
    · subst e
      exact ⟨upd_same, e2, e3⟩
    · obtain ⟨x1, x2, x3⟩ := R.pin q (List.mem_cons_of_mem _ e)
      exact ⟨by rw [upd_ne (hn q e)]; exact x1, x2, x3⟩
theorem Rel.pinG {a : Addr} {o : HO} (hn : ∀ p ∈ W.pn, p.1 ≠ a) (R : Rel K cm (W.pinned a o) cs H) : W.le ⟨upd W.G a o, W.r, W.pn⟩ ∧ Rel K cm ⟨upd W.G a o, W.r, W.pn⟩ cs H := by
  obtain ⟨e1, e2, e3⟩ := R.pin (a, o) (List.mem_cons_self)
  have e2' : W.G a = none := e2
  have e3' : a ∉ W.r := e3
  have le : W.le ⟨upd W.G a o, W.r, W.pn⟩ := le_upd e2'
  refine ⟨le, ⟨fun b u e => ?_, R.len, R.nd, R.ex, fun i b c h1 h2 => ?_, fun q hq => ?_⟩⟩
  · have e' : upd W.G a o b = some u := e
    by_cases z : b = a
    · subst z
      rw [upd_same] at e'; cases e'; exact e1
    · rw [upd_ne z] at e'; exact R.sub b u e'
  · have h1' : W.r[i]? = some b := h1
    show CellAt K cm _ (upd W.G a o b) c _
    rw [upd_ne fun z => e3' (by rw [← z]; exact List.mem_of_getElem? h1')]
    exact CellAt.up' (W := W.pinned a o) (W' := ⟨upd W.G a o, W.r, W.pn⟩) le.g le.r (R.cel i b c h1 h2)
  · have hq' : q ∈ W.pn := hq
    obtain ⟨x1, x2, x3⟩ := R.pin q (List.mem_cons_of_mem _ hq')
    exact ⟨x1, by show upd W.G a o q.1 = none; rw [upd_ne (hn q hq')]; exact x2, x3⟩
theorem Rel.pinC {a : Addr} {o : HO} {c : Cell} (hn : ∀ p ∈ W.pn, p.1 ≠ a) (R : Rel K cm (W.pinned a o) cs H) (hc : CellAt K cm W none c (some o)) :
    W.le ⟨W.G, W.r ++ [a], W.pn⟩ ∧ Rel K cm ⟨W.G, W.r ++ [a], W.pn⟩ (cs ++ [c]) H ∧ (W.r ++ [a])[cs.length]? = some a := by
  obtain ⟨e1, e2, e3⟩ := R.pin (a, o) (List.mem_cons_self)
  have e2' : W.G a = none := e2
  have e3' : a ∉ W.r := e3
  have hl : W.r.length = cs.length := R.len
  have le : W.le ⟨W.G, W.r ++ [a], W.pn⟩ := ⟨fun _ _ h => h, fun i b h => by
    show (W.r ++ [a])[i]? = some b
    rw [List.getElem?_append_left (List.getElem?_eq_some_iff.mp h).1]; exact h, rfl⟩
  refine ⟨le, ⟨R.sub, ?_, ?_, fun b h => ?_, fun i b c' h1 h2 => ?_, fun q hq => ?_⟩, ?_⟩
  · show (W.r ++ [a]).length = _
    rw [List.length_append, List.length_append, hl]; rfl
  · show (W.r ++ [a]).Nodup
    rw [List.nodup_append]
    refine ⟨R.nd, by simp, fun x hx y hy z => ?_⟩
    have : y = a := by simpa using hy
    exact e3' (by rw [← this, ← z]; exact hx)
  · rcases List.mem_append.mp (show b ∈ W.r ++ [a] from h) with z | z
    · exact R.ex b z
    · have : b = a := by simpa using z
      rw [this]; exact ⟨o, e1⟩
  · have h1' : (W.r ++ [a])[i]? = some b := h1
    by_cases hi : i < W.r.length
    · rw [List.getElem?_append_left hi] at h1'
      rw [List.getElem?_append_left (by rw [← hl]; exact hi)] at h2
      exact CellAt.up' (W := W.pinned a o) (W' := ⟨W.G, W.r ++ [a], W.pn⟩) le.g le.r (R.cel i b c' h1' h2)
    · have hi' : i = W.r.length := by
        have := (List.getElem?_eq_some_iff.mp h1').1
        rw [List.length_append] at this
        simp at this; omega
      subst hi'
      rw [List.getElem?_append_right (Nat.le_refl _)] at h1'
      rw [hl, List.getElem?_append_right (Nat.le_refl _)] at h2
      simp at h1' h2
      subst h1' h2
      show CellAt K cm _ (W.G a) c (H a)
      rw [e2', show H a = some o from e1]
      exact hc.up' le.g le.r
  · have hq' : q ∈ W.pn := hq
    obtain ⟨x1, x2, x3⟩ := R.pin q (List.mem_cons_of_mem _ hq')
    refine ⟨x1, x2, ?_⟩
    show q.1 ∉ W.r ++ [a]
    intro z
    rcases List.mem_append.mp z with z | z
    · exact x3 z
    · exact hn q hq' (by simpa using z)
  · rw [← hl, List.getElem?_append_right (Nat.le_refl _)]; simp
end
abbrev Sd := List (Option D)
section
variable {K : PySem.W.Frag} {cm : Nat → Addr} {W W' : Wd}
variable (K cm W) in
structure En (σd : Sd) (σ : L2.St) : Prop where
  len : σd.length = σ.length
  at_ : ∀ (i : Nat) (d : D), σd[i]? = some (some d) → ∃ v, σ[i]? = some (some v) ∧ Rp K cm W d v
theorem En.up (le : W.le W') {σd : Sd} {σ : L2.St} (h : En K cm W σd σ) : En K cm W' σd σ := ⟨h.len, fun i d e => let ⟨v, a, b⟩ := h.at_ i d e; ⟨v, a, b.up le⟩⟩
theorem En.set {σd : Sd} {σ : L2.St} (h : En K cm W σd σ) {d : D} {v : V} (i : Nat) (r : Rp K cm W d v) : En K cm W (σd.set i (some d)) (σ.set i (some v)) := by
  refine ⟨by rw [List.length_set, List.length_set]; exact h.len, fun j d' e => ?_⟩
  by_cases q : j = i
  · subst q
    have lt : j < σd.length := by
      have := (List.getElem?_eq_some_iff.mp e).1
      rw [List.length_set] at this; exact this
    rw [List.getElem?_set_self lt] at e
    cases e
    exact ⟨v, List.getElem?_set_self (by rw [← h.len]; exact lt), r⟩
  · rw [List.getElem?_set_ne (Ne.symm q)] at e ⊢
    exact h.at_ j d' e
theorem En.weak {σd σd' : Sd} {σ : L2.St} (h : En K cm W σd σ) (hl : σd'.length = σd.length) (w : ∀ (i : Nat) (d : D), σd'[i]? = some (some d) → σd[i]? = some (some d)) : En K cm W σd' σ :=
  ⟨hl.trans h.len, fun i d e => h.at_ i d (w i d e)⟩
end
abbrev Rs (α : Type) := Option (α × List Cell)
abbrev Xc := Nat × List (Str × D)
inductive Out (α : Type) where
  | ok (a : α) (cs : List Cell) | ex (x : Xc) (cs : List Cell) | no
def Out.bind {α β : Type} (r : Out α) (k : α → List Cell → Out β) : Out β := match r with
  | .ok a c => k a c
  | .ex x c => .ex x c
  | .no => .no
@[simp] theorem Out.bind_ok {α β : Type} {a : α} {c : List Cell} {k : α → List Cell → Out β} : Out.bind (.ok a c) k = k a c := rfl
@[simp] theorem Out.bind_ex {α β : Type} {a : Xc} {c : List Cell} {k : α → List Cell → Out β} : Out.bind (.ex a c) k = .ex a c := rfl
@[simp] theorem Out.bind_no {α β : Type} {k : α → List Cell → Out β} : Out.bind (.no : Out α) k = .no := rfl
def up {α : Type} (r : Rs α) : Out α := match r with
  | some (a, c) => .ok a c
  | none => .no
@[simp] theorem up_some {α : Type} {a : α} {c : List Cell} : up (some (a, c)) = .ok a c := rfl
@[simp] theorem up_none {α : Type} : up (none : Rs α) = .no := rfl
abbrev Fe := Sd → List Cell → Out D
abbrev Ft := Sd → List Cell → Out Bool
abbrev Fa := Sd → List Cell → Out (List D)
inductive Sr where
  | nx (σ : Sd) (cs : List Cell) | rt (d : D) (cs : List Cell) | bk (σ : Sd) (cs : List Cell) | ct (σ : Sd) (cs : List Cell) | ex (x : Xc) (σ : Sd) (cs : List Cell) | no
abbrev Fs := Sd → List Cell → Sr
section
variable (K : PySem.W.Frag) (cm : Nat → Addr) (Y : WX) (σ : L2.St)
def Post (W : Wd) (r : Rs D) (Q : VK) : Prop := ∃ d cs, r = some (d, cs) ∧ ∀ W' H' v, W.le W' → Rel K cm W' cs H' → Rp K cm W' d v → Q v H'
def Pay (W : Wd) (fs : List (Str × D)) (dd : Option Addr) (H : Hp) : Prop := (fs = [] ∧ dd = none) ∨ fs ≠ [] ∧ ∃ a vs, dd = some a ∧ H a = some (.xd vs) ∧ W.G a = some (.xd vs) ∧ Rpf K cm W fs vs
def Wish (W : Wd) (x : Xc) (cs : List Cell) : Prop := ∀ W' H' dd, W.le W' → Rel K cm W' cs H' → Pay K cm W' x.2 dd H' → Y (.ref (cm x.1)) dd σ H'
def PostE (W : Wd) (r : Out D) (Q : VK) : Prop := match r with
  | .ok d cs => ∀ W' H' v, W.le W' → Rel K cm W' cs H' → Rp K cm W' d v → Q v H'
  | .ex x cs => Wish K cm Y σ W x cs
  | .no => False
def PostB (W : Wd) (r : Out Bool) (Q : Bool → Hp → Prop) : Prop := match r with
  | .ok d cs => ∀ W' H', W.le W' → Rel K cm W' cs H' → Q d H'
  | .ex x cs => Wish K cm Y σ W x cs
  | .no => False
def PostA (W : Wd) (r : Out (List D)) (Q : List V → Hp → Prop) : Prop := match r with
  | .ok d cs => ∀ W' H' v, W.le W' → Rel K cm W' cs H' → Rps K cm W' d v → Q v H'
  | .ex x cs => Wish K cm Y σ W x cs
  | .no => False
end
section
variable (K : PySem.W.Frag) (cm : Nat → Addr) (Y : WX)
def PostS (W : Wd) (r : Sr) (E : Ends) : Prop := match r with
  | .nx σd cs => ∀ W' H' σ, W.le W' → Rel K cm W' cs H' → En K cm W' σd σ → E.nx σ H'
  | .bk σd cs => ∀ W' H' σ, W.le W' → Rel K cm W' cs H' → En K cm W' σd σ → E.bk σ H'
  | .ct σd cs => ∀ W' H' σ, W.le W' → Rel K cm W' cs H' → En K cm W' σd σ → E.ct σ H'
  | .rt d cs => ∀ W' H' v, W.le W' → Rel K cm W' cs H' → Rp K cm W' d v → E.rt v H'
  | .ex x σd cs => ∀ W' H' σ dd, W.le W' → Rel K cm W' cs H' → En K cm W' σd σ → Pay K cm W' x.2 dd H' → Y (.ref (cm x.1)) dd σ H'
  | .no => False
def tE (f : Fe) : TE := fun σ H Q => ∃ W σd cs, Rel K cm W cs H ∧ En K cm W σd σ ∧ PostE K cm Y σ W (f σd cs) Q
def tT (f : Ft) : TT := fun σ H Q => ∃ W σd cs, Rel K cm W cs H ∧ En K cm W σd σ ∧ PostB K cm Y σ W (f σd cs) Q
def tA (f : Fa) : TA := fun σ H Q => ∃ W σd cs, Rel K cm W cs H ∧ En K cm W σd σ ∧ PostA K cm Y σ W (f σd cs) Q
def tS (f : Fs) : TS := fun E σ H => ∃ W σd cs, Rel K cm W cs H ∧ En K cm W σd σ ∧ PostS K cm Y W (f σd cs) E
end
section
variable {K : PySem.W.Frag} {cm : Nat → Addr} {Y : WX} {σ : L2.St} {W W1 : Wd}
theorem Post.up (le : W.le W1) {r : Rs D} {Q : VK} (h : Post K cm W r Q) : Post K cm W1 r Q := let ⟨d, cs, e, k⟩ := h; ⟨d, cs, e, fun W' H' v l => k W' H' v (le.trans l)⟩
theorem Wish.up (le : W.le W1) {x : Xc} {cs : List Cell} (h : Wish K cm Y σ W x cs) : Wish K cm Y σ W1 x cs := fun W' H' dd l => h W' H' dd (le.trans l)
theorem PostE.up (le : W.le W1) {r : Out D} {Q : VK} (h : PostE K cm Y σ W r Q) : PostE K cm Y σ W1 r Q := by
  cases r with
  | ok d cs => exact fun W' H' v l => h W' H' v (le.trans l)
  | ex x cs => exact Wish.up le h
  | no => exact h
theorem PostB.up (le : W.le W1) {r : Out Bool} {Q : Bool → Hp → Prop} (h : PostB K cm Y σ W r Q) : PostB K cm Y σ W1 r Q := by
  cases r with
  | ok d cs => exact fun W' H' l => h W' H' (le.trans l)
  | ex x cs => exact Wish.up le h
  | no => exact h
theorem PostA.up (le : W.le W1) {r : Out (List D)} {Q : List V → Hp → Prop} (h : PostA K cm Y σ W r Q) : PostA K cm Y σ W1 r Q := by
  cases r with
  | ok d cs => exact fun W' H' v l => h W' H' v (le.trans l)
  | ex x cs => exact Wish.up le h
  | no => exact h
theorem PostS.up (le : W.le W1) {r : Sr} {E : Ends} (h : PostS K cm Y W r E) : PostS K cm Y W1 r E := by
  cases r with
  | nx σ cs => exact fun W' H' v l => h W' H' v (le.trans l)
  | bk σ cs => exact fun W' H' v l => h W' H' v (le.trans l)
  | ct σ cs => exact fun W' H' v l => h W' H' v (le.trans l)
  | rt σ cs => exact fun W' H' v l => h W' H' v (le.trans l)
  | ex x σ cs => exact fun W' H' v dd l => h W' H' v dd (le.trans l)
  | no => exact h
theorem Post.here {d : D} {cs : List Cell} {H : Hp} {v : V} {Q : VK} (h : Post K cm W (some (d, cs)) Q) (R : Rel K cm W cs H) (r : Rp K cm W d v) : Q v H := by
  obtain ⟨d', cs', e, k⟩ := h
  cases e
  exact k W H v (.refl W) R r
theorem PostE.here {d : D} {cs : List Cell} {H : Hp} {v : V} {Q : VK} (h : PostE K cm Y σ W (.ok d cs) Q) (R : Rel K cm W cs H) (r : Rp K cm W d v) : Q v H := h W H v (.refl W) R r
theorem PostB.here {d : Bool} {cs : List Cell} {H : Hp} {Q : Bool → Hp → Prop} (h : PostB K cm Y σ W (.ok d cs) Q) (R : Rel K cm W cs H) : Q d H := h W H (.refl W) R
theorem PostA.here {d : List D} {cs : List Cell} {H : Hp} {v : List V} {Q : List V → Hp → Prop} (h : PostA K cm Y σ W (.ok d cs) Q) (R : Rel K cm W cs H) (r : Rps K cm W d v) : Q v H := h W H v (.refl W) R r
theorem Post.ne {r : Rs D} {Q : VK} (h : Post K cm W r Q) : r ≠ none := by obtain ⟨d, cs, e, _⟩ := h; rw [e]; simp
theorem PostE.down {r : Rs D} {Q : VK} (h : PostE K cm Y σ W (PV.up r) Q) : Post K cm W r Q := by
  cases r with
  | none => exact h.elim
  | some p => obtain ⟨d, cs⟩ := p; exact ⟨d, cs, rfl, h⟩
structure Asks (K : PySem.W.Frag) (cm : Nat → Addr) (Y : WX) (σ : L2.St) (W : Wd) {β : Type} (P : Out β → Prop) : Prop where
  no : ¬ P .no
  ex : ∀ x c, P (.ex x c) → Wish K cm Y σ W x c
theorem asksE {Q : VK} : Asks K cm Y σ W (fun r => PostE K cm Y σ W r Q) := ⟨fun h => h, fun _ _ h => h⟩
theorem asksB {Q : Bool → Hp → Prop} : Asks K cm Y σ W (fun r => PostB K cm Y σ W r Q) := ⟨fun h => h, fun _ _ h => h⟩
theorem asksA {Q : List V → Hp → Prop} : Asks K cm Y σ W (fun r => PostA K cm Y σ W r Q) := ⟨fun h => h, fun _ _ h => h⟩
theorem tE_go {f : Fe} {H : Hp} {σd : Sd} {cs : List Cell} {β : Type} {k : D → List Cell → Out β} {P : Out β → Prop} (R : Rel K cm W cs H) (E : En K cm W σd σ) {Q : VK}
    (hP : Asks K cm Y σ W P) (h : P (Out.bind (f σd cs) k)) (go : ∀ d c1, f σd cs = .ok d c1 → P (k d c1) → ∀ W' H' v, W.le W' → Rel K cm W' c1 H' → En K cm W' σd σ → Rp K cm W' d v → Q v H') : tE K cm Y f σ H Q := by
  refine ⟨W, σd, cs, R, E, ?_⟩
  cases e : f σd cs with
  | no => rw [e] at h; exact (hP.no h).elim
  | ex x c => rw [e] at h; exact hP.ex x c h
  | ok d c1 => rw [e] at h; exact fun W' H' v l R' r => go d c1 e h W' H' v l R' (E.up l) r
theorem tT_go {f : Ft} {H : Hp} {σd : Sd} {cs : List Cell} {β : Type} {k : Bool → List Cell → Out β} {P : Out β → Prop} (R : Rel K cm W cs H) (E : En K cm W σd σ) {Q : Bool → Hp → Prop}
    (hP : Asks K cm Y σ W P) (h : P (Out.bind (f σd cs) k)) (go : ∀ d c1, f σd cs = .ok d c1 → P (k d c1) → ∀ W' H', W.le W' → Rel K cm W' c1 H' → En K cm W' σd σ → Q d H') : tT K cm Y f σ H Q := by
  refine ⟨W, σd, cs, R, E, ?_⟩
  cases e : f σd cs with
  | no => rw [e] at h; exact (hP.no h).elim
  | ex x c => rw [e] at h; exact hP.ex x c h
  | ok d c1 => rw [e] at h; exact fun W' H' l R' => go d c1 e h W' H' l R' (E.up l)
theorem tA_go {f : Fa} {H : Hp} {σd : Sd} {cs : List Cell} {β : Type} {k : List D → List Cell → Out β} {P : Out β → Prop} (R : Rel K cm W cs H) (E : En K cm W σd σ) {Q : List V → Hp → Prop}
    (hP : Asks K cm Y σ W P) (h : P (Out.bind (f σd cs) k)) (go : ∀ d c1, f σd cs = .ok d c1 → P (k d c1) → ∀ W' H' v, W.le W' → Rel K cm W' c1 H' → En K cm W' σd σ → Rps K cm W' d v → Q v H') : tA K cm Y f σ H Q := by
  refine ⟨W, σd, cs, R, E, ?_⟩
  cases e : f σd cs with
  | no => rw [e] at h; exact (hP.no h).elim
  | ex x c => rw [e] at h; exact hP.ex x c h
  | ok d c1 => rw [e] at h; exact fun W' H' v l R' r => go d c1 e h W' H' v l R' (E.up l) r
end
section
variable (X : Cx) (cm : Nat → Addr) (Y : WX)
abbrev FE (e : Expr) (f : Fe) : Prop := PE X e (tE X.K cm Y f)
abbrev FT (e : Expr) (f : Ft) : Prop := PT X e (tT X.K cm Y f)
abbrev FW (e : Expr) (f : Ft) : Prop := PW X e (tT X.K cm Y f)
abbrev FA (es : List Expr) (f : Fa) : Prop := PA X es (tA X.K cm Y f)
abbrev FS (st : Stmt) (f : Fs) : Prop := PS X st (tS X.K cm Y f)
abbrev FSs (st : List Stmt) (f : Fs) : Prop := PSs X st (tS X.K cm Y f)
end
section
variable {X : Cx} {cm : Nat → Addr}
theorem PE.weak {e : Expr} {t t' : TE} (h : PE X e t) (m : ∀ σ H Q, t' σ H Q → t σ H Q) : PE X e t' := ⟨fun pins s σ H Q I q => h.run pins s σ H Q I (m σ H Q q)⟩
theorem PT.weak {e : Expr} {t t' : TT} (h : PT X e t) (m : ∀ σ H Q, t' σ H Q → t σ H Q) : PT X e t' := ⟨fun pins s σ H Q I q => h.run pins s σ H Q I (m σ H Q q)⟩
theorem PW.weak {e : Expr} {t t' : TT} (h : PW X e t) (m : ∀ σ H Q, t' σ H Q → t σ H Q) : PW X e t' := ⟨fun wh pins s σ H Q I q => h.run wh pins s σ H Q I (m σ H Q q)⟩
theorem PA.weak {e : List Expr} {t t' : TA} (h : PA X e t) (m : ∀ σ H Q, t' σ H Q → t σ H Q) : PA X e t' := ⟨fun pos pins s σ H Q I q => h.run pos pins s σ H Q I (m σ H Q q)⟩
theorem PS.weak {e : Stmt} {t t' : TS} (h : PS X e t) (m : ∀ E σ H, t' E σ H → t E σ H) : PS X e t' := ⟨fun pins s σ H E I q => h.run pins s σ H E I (m E σ H q)⟩
theorem PSs.weak {e : List Stmt} {t t' : TS} (h : PSs X e t) (m : ∀ E σ H, t' E σ H → t E σ H) : PSs X e t' := ⟨fun pins s σ H E I q => h.run pins s σ H E I (m E σ H q)⟩
end
end PV
namespace PV
open PySem PySem.Spec PyProof.Rows L2
def lstOf (cs : List Cell) : D → Option (List D)
  | .lst xs => some xs
  | .ref i => match cs[i]? with
    | some (.lst xs) => some xs
    | _ => none
  | _ => none
def seqOf (cs : List Cell) : D → Option (List D)
  | .lst xs => some xs
  | .tup xs => some xs
  | .arg xs => some xs
  | .argT xs => some xs
  | .ref i => match cs[i]? with
    | some (.lst xs) => some xs
    | _ => none
  | _ => none
def mkL (fz : Bool) (ds : List D) (cs : List Cell) : Rs D := if fz = true then some (.lst ds, cs) else some (.ref cs.length, cs ++ [.lst ds])
@[simp] theorem mkL_t (ds : List D) (cs : List Cell) : mkL true ds cs = some (.lst ds, cs) := rfl
@[simp] theorem mkL_f (ds : List D) (cs : List Cell) : mkL false ds cs = some (.ref cs.length, cs ++ [.lst ds]) := rfl
mutual
def toP0 : D → Option PyData
  | .non => some .none
  | .bl b => some (.bool b)
  | .int i => some (.int i)
  | .str x => some (.str x)
  | .tup xs => (toP0s xs).map .tuple
  | .lst xs => (toP0s xs).map .list
  | .arg xs => (toP0s xs).map .list
  | .argT xs => (toP0s xs).map .tuple
  | _ => none
def toP0s : List D → Option (List PyData)
  | [] => some []
  | d :: ds => match toP0 d, toP0s ds with
    | some p, some ps => some (p :: ps)
    | _, _ => none
end
def toP (cs : List Cell) : D → Option PyData
  | .ref i => match cs[i]? with
    | some (.lst xs) => (toP0s xs).map .list
    | _ => none
  | d => toP0 d
section
variable {K : PySem.W.Frag} {cm : Nat → Addr} {W : Wd} {H : Hp} {cs : List Cell}
theorem lst_of (R : Rel K cm W cs H) {d : D} {v : V} {ds : List D} (r : Rp K cm W d v) (h : lstOf cs d = some ds) : ∃ a xs, v = .ref a ∧ H a = some (.lst xs) ∧ Rps K cm W ds xs := by
  cases r with
  | lst g q => cases h; exact ⟨_, _, rfl, R.sub _ _ g, q⟩
  | @ref i a e =>
    have h' : (match cs[i]? with | some (.lst xs) => some xs | _ => none) = some ds := h
    split at h'
    · rename_i xs ec
      cases h'
      obtain ⟨_, ys, e2, q⟩ := R.cel i a _ e ec
      exact ⟨a, ys, rfl, e2, q⟩
    · cases h'
  | _ => cases h
theorem seq_of (R : Rel K cm W cs H) {d : D} {v : V} {ds : List D} (r : Rp K cm W d v) (h : seqOf cs d = some ds) : ∃ a xs, v = .ref a ∧ (SqL K H a xs ∨ SqT K H a xs) ∧ Rps K cm W ds xs := by
  cases r with
  | lst g q => cases h; exact ⟨_, _, rfl, .inl (SqL.of (R.sub _ _ g)), q⟩
  | tup g q => cases h; exact ⟨_, _, rfl, .inr (SqT.of (R.sub _ _ g)), q⟩
  | argT g q => cases h; exact ⟨_, _, rfl, .inr (sqT_le R.sub g), q⟩
  | arg g q => cases h; exact ⟨_, _, rfl, .inl (sqL_le R.sub g), q⟩
  | @ref i a e =>
    have h' : (match cs[i]? with | some (.lst xs) => some xs | _ => none) = some ds := h
    split at h'
    · rename_i xs ec
      cases h'
      obtain ⟨_, ys, e2, q⟩ := R.cel i a _ e ec
      exact ⟨a, ys, rfl, .inl (SqL.of e2), q⟩
    · cases h'
  | _ => cases h
theorem Post.mkL {fz : Bool} {ds : List D} {xs : List V} {Q : VK} (P : Post K cm W (mkL fz ds cs) Q) (R : Rel K cm W cs H) (r : Rps K cm W ds xs) : ∀ p, H p = none → Q (.ref p) (upd H p (.lst xs)) := fun p hp => by
  obtain ⟨d, c, e, k⟩ := P
  cases fz with
  | true =>
    cases e
    obtain ⟨le, R'⟩ := R.newG (.lst xs) hp
    exact k _ _ _ le R' (.lst upd_same (r.up le))
  | false =>
    cases e
    obtain ⟨le, R', e⟩ := R.newC (c := .lst ds) (o := .lst xs) hp ⟨rfl, xs, rfl, r⟩
    exact k _ _ _ le R' (.ref e)
theorem Post.mkT {ds : List D} {xs : List V} {Q : VK} (P : Post K cm W (some (.tup ds, cs)) Q) (R : Rel K cm W cs H) (r : Rps K cm W ds xs) : ∀ p, H p = none → Q (.ref p) (upd H p (.tup xs)) := fun p hp => by
  obtain ⟨d, c, e, k⟩ := P
  cases e
  obtain ⟨le, R'⟩ := R.newG (.tup xs) hp
  exact k _ _ _ le R' (.tup upd_same (r.up le))
mutual
theorem toP0_ok (g : ∀ a o, W.G a = some o → H a = some o) : ∀ {d : D} {v : V} {p : PyData}, Rp K cm W d v → toP0 d = some p → Dp K H v p
  | _, _, _, .non, e => by simp only [toP0] at e; cases e; exact .non
  | _, _, _, .bl b, e => by simp only [toP0] at e; cases e; exact .bl b
  | _, _, _, .int b, e => by simp only [toP0] at e; cases e; exact .int b
  | _, _, _, .str b, e => by simp only [toP0] at e; cases e; exact .str b
  | _, _, _, .tup (ds := ds) h r, e => by
    simp only [toP0] at e
    cases q : toP0s ds with
    | none => rw [q] at e; cases e
    | some ps => rw [q] at e; cases e; exact .tup (SqT.of (g _ _ h)) (toP0s_ok g r q)
  | _, _, _, .lst (ds := ds) h r, e => by
    simp only [toP0] at e
    cases q : toP0s ds with
    | none => rw [q] at e; cases e
    | some ps => rw [q] at e; cases e; exact .lst (SqL.of (g _ _ h)) (toP0s_ok g r q)
  | _, _, _, .arg (ds := ds) h r, e => by
    simp only [toP0] at e
    cases q : toP0s ds with
    | none => rw [q] at e; cases e
    | some ps => rw [q] at e; cases e; exact .lst (sqL_le g h) (toP0s_ok g r q)
  | _, _, _, .argT (ds := ds) h r, e => by
    simp only [toP0] at e
    cases q : toP0s ds with
    | none => rw [q] at e; cases e
    | some ps => rw [q] at e; cases e; exact .tup (sqT_le g h) (toP0s_ok g r q)
  | _, _, _, .dic h r, e => by simp only [toP0] at e; cases e
  | _, _, _, .ins h r, e => by simp only [toP0] at e; cases e
  | _, _, _, .ref h, e => by simp only [toP0] at e; cases e
  | _, _, _, .cl c, e => by simp only [toP0] at e; cases e
  | _, _, _, .ty c, e => by simp only [toP0] at e; cases e
  | _, _, _, .exn c, e => by simp only [toP0] at e; cases e
  | _, _, _, .exw c _ _, e => by simp only [toP0] at e; cases e
theorem toP0s_ok (g : ∀ a o, W.G a = some o → H a = some o) : ∀ {ds : List D} {vs : List V} {ps : List PyData}, Rps K cm W ds vs → toP0s ds = some ps → DpAll K H vs ps
  | _, _, _, .nil, e => by simp only [toP0s] at e; cases e; exact .nil
  | _, _, _, .cons (d := d) (ds := ds) h r, e => by
    simp only [toP0s] at e
    cases q : toP0 d with
    | none => rw [q] at e; cases e
    | some p =>
      cases q2 : toP0s ds with
      | none => rw [q, q2] at e; cases e
      | some ps => rw [q, q2] at e; cases e; exact .cons (toP0_ok g h q) (toP0s_ok g r q2)
end
theorem toP_ok (R : Rel K cm W cs H) {d : D} {v : V} {p : PyData} (r : Rp K cm W d v) (e : toP cs d = some p) : Dp K H v p := by
  cases d with
  | ref i =>
    have h' : (match cs[i]? with | some (.lst xs) => (toP0s xs).map PyData.list | _ => none) = some p := e
    split at h'
    · rename_i xs ec
      cases q : toP0s xs with
      | none => rw [q] at h'; cases h'
      | some ps =>
        rw [q] at h'; cases h'
        cases r with
        | @ref _ a ei =>
          obtain ⟨_, ys, e2, q2⟩ := R.cel i a _ ei ec
          exact .lst (SqL.of e2) (toP0s_ok R.sub q2 q)
    · cases h'
  | non => exact toP0_ok R.sub r e
  | bl b => exact toP0_ok R.sub r e
  | int b => exact toP0_ok R.sub r e
  | str b => exact toP0_ok R.sub r e
  | exn b => exact toP0_ok R.sub r e
  | exw c b => exact toP0_ok R.sub r e
  | tup b => exact toP0_ok R.sub r e
  | lst b => exact toP0_ok R.sub r e
  | arg b => exact toP0_ok R.sub r e
  | argT b => exact toP0_ok R.sub r e
  | dic b => exact toP0_ok R.sub r e
  | ins c b => exact toP0_ok R.sub r e
  | cl b => exact toP0_ok R.sub r e
  | ty b => exact toP0_ok R.sub r e
end
section
variable (K : PySem.W.Frag) (cm : Nat → Addr)
abbrev G2 := D → D → List Cell → Rs D
def rO1 (g : D → List Cell → Rs D) : V → Hp → VK → Prop := fun x H Q => ∃ W dx cs, Rel K cm W cs H ∧ Rp K cm W dx x ∧ Post K cm W (g dx cs) Q
def rO2 (g : G2) : R2 := fun x y H Q => ∃ W dx dy cs, Rel K cm W cs H ∧ Rp K cm W dx x ∧ Rp K cm W dy y ∧ Post K cm W (g dx dy cs) Q
def rCa (g : List D → List Cell → Rs D) : List V → Hp → VK → Prop := fun xs H Q => ∃ W ds cs, Rel K cm W cs H ∧ Rps K cm W ds xs ∧ Post K cm W (g ds cs) Q
def rMt (g : D → List D → List Cell → Rs D) : V → List V → Hp → VK → Prop := fun x xs H Q => ∃ W d ds cs, Rel K cm W cs H ∧ Rp K cm W d x ∧ Rps K cm W ds xs ∧ Post K cm W (g d ds cs) Q
end
def fOp2 (g : G2) (fa fb : Fe) : Fe := fun σ cs => (fa σ cs).bind fun x c1 => (fb σ c1).bind fun y c2 => up (g x y c2)
def fOp1 (g : D → List Cell → Rs D) (fa : Fe) : Fe := fun σ cs => (fa σ cs).bind fun d c => up (g d c)
def fTst (f : Fe) : Ft := fun σ cs => (f σ cs).bind fun d c => match d with
  | .bl b => .ok b c
  | _ => .no
def fVar (i : Nat) : Fe := fun σ cs => match σ[i]? with
  | some (some d) => .ok d cs
  | _ => .no
def fC (d : D) : Fe := fun _ cs => .ok d cs
section
variable {X : Cx} {cm : Nat → Addr} {Y : WX} {e a b c : Expr} {fa fb fc f : Fe} {pos : Pos}
theorem fe_var {i : Nat} {x : Str} (h : PE X (.Name x pos) (tVar i)) : FE X cm Y (.Name x pos) (fVar i) := PE.weak h fun σ H Q ⟨W, σd, cs, R, E, P⟩ => by
  unfold fVar at P
  split at P
  · rename_i d' hd
    obtain ⟨v, hv, r⟩ := E.at_ _ _ hd
    exact ⟨v, hv, P.here R r⟩
  · exact P.elim
theorem fv (i : Nat) {x : Str} (hN : X.N[i]? = some x := by rfl) (hv : Vis X.env.scope x := by first | exact Or.inl rfl | exact Or.inr (Or.inl rfl) | exact Or.inr (Or.inr rfl)) (hd : (x == ("__debug__" : Str)) = false := by decide)
    (hcd : (x == ("__classdict__" : Str)) = false := by decide) : FE X cm Y (.Name x pos) (fVar i) := fe_var (pe_var hN hv hd hcd)
theorem fe_c {v : V} {d : D} (h : PE X e (tC v)) (r : ∀ W, Rp X.K cm W d v) : FE X cm Y e (fC d) := PE.weak h fun σ H Q ⟨W, σd, cs, R, E, P⟩ => P.here R (r W)
theorem fe_int {i j} : FE X cm Y (.Constant (.int i) j pos) (fC (.int i)) := fe_c pe_int fun _ => .int i
theorem fe_bl {i j} : FE X cm Y (.Constant (.bool i) j pos) (fC (.bl i)) := fe_c pe_bl fun _ => .bl i
theorem fe_non {j} : FE X cm Y (.Constant .none j pos) (fC .non) := fe_c pe_non fun _ => .non
theorem fe_str {i j} : FE X cm Y (.Constant (.str i) j pos) (fC (.str i)) := fe_c pe_str fun _ => .str i
theorem fe_glob {x : Str} {v : V} {u : Value} (d : D) (hg : Gl X x) (hm : X.mg x = some u) (r : RelV v u) (rd : ∀ W, Rp X.K cm W d v) (hd : (x == ("__debug__" : Str)) = false := by decide) : FE X cm Y (.Name x pos) (fC d) := fe_c (pe_glob hg hm r hd) rd
theorem fe_gcl {x : Str} (c : Nat) (hm : X.mg x = some (.ref (cm c))) (hg : Gl X x := by rfl) (hd : (x == ("__debug__" : Str)) = false := by decide) : FE X cm Y (.Name x pos) (fC (.cl c)) := fe_glob (v := .ref (cm c)) (.cl c) hg hm rfl (fun _ => .cl c) hd
theorem fe_gint {x : Str} (n : Int) {t : Tok} (hm : X.mg x = some (.int n t)) (hg : Gl X x := by rfl) (hd : (x == ("__debug__" : Str)) = false := by decide) : FE X cm Y (.Name x pos) (fC (.int n)) := fe_glob (v := .int n) (.int n) hg hm ⟨_, rfl⟩ (fun _ => .int n) hd
theorem fe_gstr {x : Str} (n : Str) {t : Tok} (hm : X.mg x = some (.str n t)) (hg : Gl X x := by rfl) (hd : (x == ("__debug__" : Str)) = false := by decide) : FE X cm Y (.Name x pos) (fC (.str n)) := fe_glob (v := .str n) (.str n) hg hm ⟨_, rfl⟩ (fun _ => .str n) hd
theorem fe_ty {x : Str} (n : String) (hm : X.mg x = none) (hv : bootBuiltins x = some (.type n)) (hg : Gl X x := by rfl) (hn : x ≠ "__name__" := by decide) (hd : (x == ("__debug__" : Str)) = false := by decide) : FE X cm Y (.Name x pos) (fC (.ty n)) :=
  fe_c (pe_bltn hg hm hv (v := .ty n) rfl hn hd) fun _ => .ty n
theorem two_go {K : PySem.W.Frag} {g : G2} {σ : L2.St} {H : Hp} {Q : VK} (m : tE K cm Y (fOp2 g fa fb) σ H Q) : tOp (rO2 K cm g) (tE K cm Y fa) (tE K cm Y fb) σ H Q := by
  obtain ⟨W, σd, cs, R, E, h⟩ := m
  refine tE_go R E asksE h fun d c1 _ h1 W1 H1 v l1 R1 E1 r1 => ?_
  refine tE_go R1 E1 asksE (h1.up l1) fun d2 c2 _ h2 W2 H2 v2 l2 R2 E2 r2 => ?_
  exact ⟨W2, d, d2, c2, R2, r1.up l2, r2, (PostE.down h2).up l2⟩
theorem fe_op {op : Operator} {g : G2} (ho : OpR X (binaryOp op) (rO2 X.K cm g)) (ha : FE X cm Y a fa) (hb : FE X cm Y b fb) : FE X cm Y (.BinOp a op b pos) (fOp2 g fa fb) := PE.weak (pe_op ho ha hb) fun _ _ _ => two_go
theorem fe_un {op : UnaryOp} {g : D → List Cell → Rs D} (ho : UnR X (unaryOp op) (rO1 X.K cm g)) (ha : FE X cm Y a fa) : FE X cm Y (.UnaryOp op a pos) (fOp1 g fa) := PE.weak (pe_un ho ha) fun σ H Q ⟨W, σd, cs, R, E, h⟩ =>
  tE_go R E asksE h fun d c1 _ h1 W1 H1 v l1 R1 E1 r1 => ⟨W1, d, c1, R1, r1, (PostE.down h1).up l1⟩
theorem fe_cmp {op : CmpOp} {g : G2} (ho : OpR X (compareOp op) (rO2 X.K cm g)) (ha : FE X cm Y a fa) (hb : FE X cm Y b fb) (hm : behindInMarks op b = false) : FE X cm Y (.Compare a [op] [b] pos) (fOp2 g fa fb) := PE.weak (pe_cmpR ho ha hb hm) fun _ _ _ => two_go
theorem tst_go {t : TE} {σ : L2.St} {H : Hp} {Q : Bool → Hp → Prop} {K : PySem.W.Frag} (m : tT K cm Y (fTst f) σ H Q) (k : ∀ Q, tE K cm Y f σ H Q → t σ H Q) : tTest t σ H Q := by
  obtain ⟨W, σd, cs, R, E, h⟩ := m
  refine k _ (tE_go R E asksB h fun d c1 _ h1 W1 H1 v l1 R1 E1 r1 => ?_)
  cases r1 with
  | bl b => exact ⟨b, rfl, (h1.up l1).here R1⟩
  | _ => exact h1.elim
theorem ft_cmp {op : CmpOp} {g : G2} (ho : OpR X (compareOp op) (rO2 X.K cm g)) (ha : FE X cm Y a fa) (hb : FE X cm Y b fb) (hm : behindInMarks op b = false) : FT X cm Y (.Compare a [op] [b] pos) (fTst (fOp2 g fa fb)) :=
  PT.weak (pt_cmpR ho ha hb hm) fun _ _ _ m => tst_go m fun _ => two_go
def fChain (g g' : G2) (fa fb fc : Fe) : Fe := fun σ cs => (fa σ cs).bind fun x c1 => (fb σ c1).bind fun y c2 => (up (g x y c2)).bind fun z c3 => match z with
  | .bl true => (fc σ c3).bind fun w c4 => up (g' y w c4)
  | .bl false => .ok (.bl false) c3
  | _ => .no
theorem chain_go {K : PySem.W.Frag} {g g' : G2} {σ : L2.St} {H : Hp} {Q : VK} (m : tE K cm Y (fChain g g' fa fb fc) σ H Q) : tChain (rO2 K cm g) (rO2 K cm g') (tE K cm Y fa) (tE K cm Y fb) (tE K cm Y fc) σ H Q := by
  obtain ⟨W, σd, cs, R, E, h⟩ := m
  refine tE_go R E asksE h fun d c1 _ h1 W1 H1 v l1 R1 E1 r1 => ?_
  refine tE_go R1 E1 asksE (h1.up l1) fun d2 c2 _ h2 W2 H2 v2 l2 R2 E2 r2 => ?_
  cases e3 : g d d2 c2 with
  | none => rw [e3] at h2; exact h2.elim
  | some p =>
    obtain ⟨z, c3⟩ := p
    rw [e3] at h2
    refine ⟨W2, d, d2, c2, R2, r1.up l2, r2, z, c3, e3, fun W3 H3 v3 l3 R3 r3 => ?_⟩
    have h3 := (h2.up l2).up l3
    cases r3 with
    | bl k =>
      refine ⟨k, rfl, ?_⟩
      cases k with
      | false => exact iteF (h3.here R3 (.bl false))
      | true =>
        refine iteT (tE_go R3 (E2.up l3) asksE h3 fun d4 c4 _ h4 W4 H4 v4 l4 R4 E4 r4 => ?_)
        exact ⟨W4, d2, d4, c4, R4, (r2.up l3).up l4, r4, (PostE.down h4).up l4⟩
    | _ => exact h3.elim
theorem fe_chain {op op' : CmpOp} {g g' : G2} (ho : OpR X (compareOp op) (rO2 X.K cm g)) (ho' : OpR X (compareOp op') (rO2 X.K cm g')) (ha : FE X cm Y a fa) (hb : FE X cm Y b fb) (hc : FE X cm Y c fc)
    (hm : lastMarks [op, op'] [b, c] = false := by with_unfolding_all rfl) : FE X cm Y (.Compare a [op, op'] [b, c] pos) (fChain g g' fa fb fc) := PE.weak (pe_chain ho ho' ha hb hc hm) fun _ _ _ => chain_go
theorem ft_chain {op op' : CmpOp} {g g' : G2} (ho : OpR X (compareOp op) (rO2 X.K cm g)) (ho' : OpR X (compareOp op') (rO2 X.K cm g')) (ha : FE X cm Y a fa) (hb : FE X cm Y b fb) (hc : FE X cm Y c fc)
    (hm : lastMarks [op, op'] [b, c] = false := by with_unfolding_all rfl) : FT X cm Y (.Compare a [op, op'] [b, c] pos) (fTst (fChain g g' fa fb fc)) := PT.weak (pt_chain ho ho' ha hb hc hm) fun _ _ _ m => tst_go m fun _ => chain_go
def dTru (cs : List Cell) : D → Option Bool
  | .non => some false
  | .bl b => some b
  | .int i => some (i != 0)
  | .str x => if x.length ≤ sizeLine then some ((x.length : Int) != 0) else none
  | d => (seqOf cs d).map fun xs => !xs.isEmpty
theorem tru_of {K : PySem.W.Frag} {W : Wd} {H : Hp} {cs : List Cell} (R : Rel K cm W cs H) {d : D} {v : V} {k : Bool} (r : Rp K cm W d v) (h : dTru cs d = some k) : TruV K v H k := by
  have sq : ∀ {ds : List D}, seqOf cs d = some ds → k = !ds.isEmpty → TruV K v H k := fun {ds} e ek => by
    obtain ⟨a, xs, rfl, q, rr⟩ := seq_of R r e
    have : (!ds.isEmpty) = !xs.isEmpty := by cases rr <;> rfl
    rw [this] at ek
    rcases q with q | q
    · exact .inl ⟨xs, q, ek⟩
    · exact .inr (.inl ⟨xs, q, ek⟩)
  have fin : (seqOf cs d).map (fun xs => !xs.isEmpty) = some k → TruV K v H k := fun e => by
    cases q : seqOf cs d with
    | none => rw [q] at e; cases e
    | some ds => rw [q] at e; cases e; exact sq q rfl
  cases d with
  | non => cases h; cases r; rfl
  | bl b => cases h; cases r; rfl
  | int b => cases h; cases r; rfl
  | str x =>
    cases r
    simp only [dTru] at h
    split at h
    · rename_i hl; cases h; exact ⟨hl, rfl⟩
    · cases h
  | tup xs => exact fin h
  | lst xs => exact fin h
  | arg xs => exact fin h
  | argT xs => exact fin h
  | dic xs => exact fin h
  | ins c xs => exact fin h
  | ref i => exact fin h
  | cl c => exact fin h
  | ty n => exact fin h
  | exn n => exact fin h
  | exw n b => exact fin h
def fTru (f : Fe) : Ft := fun σ cs => (f σ cs).bind fun d c => match dTru c d with
  | some k => .ok k c
  | none => .no
theorem ft_truth (ha : FE X cm Y a fa) (he : ∀ whole, isTrue a X.env whole = (do let v ← whole; standAt a.pos; holding [v] (truthy v)) := by intro _; rfl) : FT X cm Y a (fTru fa) := PT.weak (pt_truth ha he) fun σ H Q ⟨W, σd, cs, R, E, h⟩ =>
  tE_go R E asksB h fun d c1 _ h1 W1 H1 v l1 R1 E1 r1 => by
    cases e : dTru c1 d with
    | none => rw [e] at h1; exact h1.elim
    | some k => rw [e] at h1; exact ⟨k, tru_of R1 r1 e, (h1.up l1).here R1⟩
variable {ta tb tc : Ft} {rest : List Expr}
def fAnd (s t : Ft) : Ft := fun σ cs => (s σ cs).bind fun c c1 => if c = true then t σ c1 else .ok false c1
def fOr (s t : Ft) : Ft := fun σ cs => (s σ cs).bind fun c c1 => if c = true then .ok true c1 else t σ c1
def fNot (s : Ft) : Ft := fun σ cs => (s σ cs).bind fun c c1 => Out.ok (!c) c1
theorem fw_and1 (ha : FT X cm Y a ta) : FW X cm Y (.BoolOp .And [a] pos) ta := pw_and1 ha
theorem fw_or1 (ha : FT X cm Y a ta) : FW X cm Y (.BoolOp .Or [a] pos) ta := pw_or1 ha
theorem fw_and (ha : FT X cm Y a ta) (hb : FW X cm Y (.BoolOp .And (b :: rest) pos) tb) : FW X cm Y (.BoolOp .And (a :: b :: rest) pos) (fAnd ta tb) := PW.weak (pw_and ha hb) fun σ H Q ⟨W, σd, cs, R, E, h⟩ =>
  tT_go R E asksB h fun d c1 _ h1 W1 H1 l1 R1 E1 => by
    cases d with
    | true => exact iteT ⟨W1, σd, c1, R1, E1, h1.up l1⟩
    | false => exact iteF ((h1.up l1).here R1)
theorem fw_or (ha : FT X cm Y a ta) (hb : FW X cm Y (.BoolOp .Or (b :: rest) pos) tb) : FW X cm Y (.BoolOp .Or (a :: b :: rest) pos) (fOr ta tb) := PW.weak (pw_or ha hb) fun σ H Q ⟨W, σd, cs, R, E, h⟩ =>
  tT_go R E asksB h fun d c1 _ h1 W1 H1 l1 R1 E1 => by
    cases d with
    | true => exact iteT ((h1.up l1).here R1)
    | false => exact iteF ⟨W1, σd, c1, R1, E1, h1.up l1⟩
theorem ft_w (h : FW X cm Y a ta) : FT X cm Y a ta := h.pt
theorem ft_not (ha : FT X cm Y a ta) : FT X cm Y (.UnaryOp .Not a pos) (fNot ta) := PT.weak (pt_not ha) fun σ H Q ⟨W, σd, cs, R, E, h⟩ =>
  tT_go R E asksB h fun d c1 _ h1 W1 H1 l1 R1 E1 => (h1.up l1).here R1
def fAndV (fa fb : Fe) : Fe := fun σ cs => (fa σ cs).bind fun d c1 => match d with
  | .bl true => fb σ c1
  | .bl false => .ok (.bl false) c1
  | _ => .no
def fOrV (fa fb : Fe) : Fe := fun σ cs => (fa σ cs).bind fun d c1 => match d with
  | .bl false => fb σ c1
  | .bl true => .ok (.bl true) c1
  | _ => .no
theorem fe_one {op} (h : FE X cm Y a fa) : FE X cm Y (.BoolOp op [a] pos) fa := pe_one h
theorem fe_and (ha : FE X cm Y a fa) (hb : FE X cm Y (.BoolOp .And (b :: rest) pos) fb) : FE X cm Y (.BoolOp .And (a :: b :: rest) pos) (fAndV fa fb) := PE.weak (pe_and ha hb) fun σ H Q ⟨W, σd, cs, R, E, h⟩ =>
  tE_go R E asksE h fun d c1 _ h1 W1 H1 v l1 R1 E1 r1 => by
    cases r1 with
    | bl k =>
      cases k with
      | true => exact ⟨true, rfl, iteT ⟨W1, σd, c1, R1, E1, h1.up l1⟩⟩
      | false => exact ⟨false, rfl, iteF ((h1.up l1).here R1 (.bl false))⟩
    | _ => exact h1.elim
theorem fe_or (ha : FE X cm Y a fa) (hb : FE X cm Y (.BoolOp .Or (b :: rest) pos) fb) : FE X cm Y (.BoolOp .Or (a :: b :: rest) pos) (fOrV fa fb) := PE.weak (pe_or ha hb) fun σ H Q ⟨W, σd, cs, R, E, h⟩ =>
  tE_go R E asksE h fun d c1 _ h1 W1 H1 v l1 R1 E1 r1 => by
    cases r1 with
    | bl k =>
      cases k with
      | false => exact ⟨false, rfl, iteF ⟨W1, σd, c1, R1, E1, h1.up l1⟩⟩
      | true => exact ⟨true, rfl, iteT ((h1.up l1).here R1 (.bl true))⟩
    | _ => exact h1.elim
def fNotV (fa : Fe) : Fe := fun σ cs => (fa σ cs).bind fun d c1 => match d with
  | .bl k => .ok (.bl (!k)) c1
  | _ => .no
theorem fe_not (ha : FE X cm Y a fa) : FE X cm Y (.UnaryOp .Not a pos) (fNotV fa) := PE.weak (pe_not ha) fun σ H Q ⟨W, σd, cs, R, E, h⟩ =>
  tE_go R E asksE h fun d c1 _ h1 W1 H1 v l1 R1 E1 r1 => by
    cases r1 with
    | bl k => exact ⟨k, rfl, (h1.up l1).here R1 (.bl _)⟩
    | _ => exact h1.elim
def fIfE (t : Ft) (fa fb : Fe) : Fe := fun σ cs => (t σ cs).bind fun c c1 => if c = true then fa σ c1 else fb σ c1
theorem fe_if (hc : FT X cm Y c tc) (ha : FE X cm Y a fa) (hb : FE X cm Y b fb) : FE X cm Y (.IfExp c a b pos) (fIfE tc fa fb) := PE.weak (pe_ifExp hc ha hb) fun σ H Q ⟨W, σd, cs, R, E, h⟩ =>
  tT_go R E asksE h fun d c1 _ h1 W1 H1 l1 R1 E1 => by
    cases d with
    | true => exact iteT ⟨W1, σd, c1, R1, E1, h1.up l1⟩
    | false => exact iteF ⟨W1, σd, c1, R1, E1, h1.up l1⟩
def fAlt (f g : Fe) : Fe := fun σ cs => match f σ cs with
  | .no => g σ cs
  | r => r
def frzD (d : D) (cs : List Cell) : Rs D := match d with
  | .ref i => match cs[i]? with
    | some (.lst xs) => some (.lst xs, cs.set i .dead)
    | some (.ins c fs) => some (.ins c fs, cs.set i .dead)
    | _ => none
  | _ => none
theorem frz_go {K : PySem.W.Frag} {W : Wd} {H : Hp} {cs : List Cell} (R : Rel K cm W cs H) {d : D} {v : V} {Q : VK} (r : Rp K cm W d v) (P : Post K cm W (frzD d cs) Q) : Q v H := by
  cases r with
  | @ref i a e =>
    have P' : Post K cm W (match cs[i]? with
      | some (.lst xs) => some (D.lst xs, cs.set i .dead)
      | some (.ins c fs) => some (.ins c fs, cs.set i .dead)
      | _ => none) Q := P
    split at P'
    · rename_i xs ec
      obtain ⟨_, ys, e2, q⟩ := R.cel i a _ e ec
      obtain ⟨le, R2⟩ := R.frz e ec (by simp) e2
      obtain ⟨_, _, e3, k⟩ := P'
      cases e3
      exact k _ _ _ le R2 (.lst upd_same (q.up le))
    · rename_i c fs ec
      obtain ⟨_, dx, ys, e2, q⟩ := R.cel i a _ e ec
      obtain ⟨le, R2⟩ := R.frz e ec (by simp) e2
      obtain ⟨_, _, e3, k⟩ := P'
      cases e3
      exact k _ _ _ le R2 (.ins upd_same (q.up le))
    · exact absurd rfl P'.ne
  | _ => exact absurd rfl P.ne
def fFrz (f : Fe) : Fe := fun σ cs => (f σ cs).bind fun d c => up (frzD d c)
theorem fe_frz (h : FE X cm Y e fa) : FE X cm Y e (fFrz fa) := PE.weak h fun σ H Q ⟨W, σd, cs, R, E, h⟩ =>
  tE_go R E asksE h fun d c1 _ h1 W1 H1 v l1 R1 E1 r1 => frz_go R1 r1 ((PostE.down h1).up l1)
end
end PV
namespace PV
open PySem PySem.Spec PyProof.Rows L2
section
variable {X : Cx} {cm : Nat → Addr}
def mulOk (i j : Int) : Prop := i.natAbs.log2 + j.natAbs.log2 < 1000000 ∨ ((-(2 ^ 64) < i ∧ i < 2 ^ 64) ∨ (-(2 ^ 64) < j ∧ j < 2 ^ 64))
instance (i j : Int) : Decidable (mulOk i j) := by unfold mulOk; infer_instance
def powOk (i j : Int) : Prop := 0 ≤ j ∧ j ≤ 1000 ∧ i.natAbs.log2 < 100000
instance (i j : Int) : Decidable (powOk i j) := by unfold powOk; infer_instance
def divOk (j : Int) : Prop := 0 < j ∧ j.natAbs.log2 < 9000
instance (j : Int) : Decidable (divOk j) := by unfold divOk; infer_instance
def dAdd (fz : Bool) : G2 := fun x y cs => match x, y with
  | .int i, .int j => some (.int (i + j), cs)
  | .str i, .str j => if i.length + j.length ≤ sizeLine then some (.str (i ++ j), cs) else none
  | .tup (a :: xs), .tup ys => if (a :: xs).length + ys.length ≤ sizeLine then some (.tup ((a :: xs) ++ ys), cs) else none
  | x, y => match lstOf cs x, lstOf cs y with
    | some xs, some ys => if xs.length + ys.length ≤ sizeLine then mkL fz (xs ++ ys) cs else none
    | _, _ => none
theorem postLists {W : Wd} {H : Hp} {cs : List Cell} {fz : Bool} {Q : VK} (R : Rel X.K cm W cs H) {dx dy : D} {x y : V} (r1 : Rp X.K cm W dx x) (r2 : Rp X.K cm W dy y)
    (P : Post X.K cm W (match lstOf cs dx, lstOf cs dy with
    | some xs, some ys => if xs.length + ys.length ≤ sizeLine then PV.mkL fz (xs ++ ys) cs else none
    | _, _ => none) Q) : rCat x y H Q := by
  split at P
  · rename_i xs ys e1 e2
    split at P
    · rename_i hl
      obtain ⟨l, vs, rfl, h1, q1⟩ := lst_of R r1 e1
      obtain ⟨b, us, rfl, h2, q2⟩ := lst_of R r2 e2
      exact ⟨l, b, vs, us, rfl, rfl, h1, h2, by rw [← q1.length, ← q2.length]; exact hl, P.mkL R (q1.app q2)⟩
    · exact absurd rfl P.ne
  · exact absurd rfl P.ne
theorem op_dAdd (fz : Bool) : OpR X (binaryOp .Add) (rO2 X.K cm (dAdd fz)) := by
  intro pins s σ H x y v u Q I rx ry h
  obtain ⟨W, dx, dy, cs, R, r1, r2, P⟩ := h
  have lists : Post X.K cm W (match lstOf cs dx, lstOf cs dy with
    | some xs, some ys => if xs.length + ys.length ≤ sizeLine then mkL fz (xs ++ ys) cs else none
    | _, _ => none) Q → wpAny (model X.prog X.w) X.A (binaryOp .Add v u) (EP X pins σ Q) X.xe s := fun P => op_cat pins s σ H x y v u Q I rx ry (postLists R r1 r2 P)
  unfold dAdd at P
  split at P
  · cases r1; cases r2
    exact op_add pins s σ H _ _ v u Q I rx ry ⟨_, _, rfl, rfl, P.here R (.int _)⟩
  · cases r1; cases r2
    split at P
    · rename_i hl
      exact op_add_str pins s σ H _ _ v u Q I rx ry ⟨_, _, rfl, rfl, hl, P.here R (.str _)⟩
    · exact absurd rfl P.ne
  · rename_i a xs ys
    split at P
    · rename_i hl
      cases r1 with
      | tup g1 q1 =>
        cases r2 with
        | tup g2 q2 =>
          have ne : ∀ {us : List V}, Rps X.K cm W (a :: xs) us → us ≠ [] := fun h z => by subst z; cases h
          refine op_catT pins s σ H _ _ v u Q I rx ry ⟨_, _, _, _, rfl, rfl, SqT.of (R.sub _ _ g1), SqT.of (R.sub _ _ g2), ne q1, by rw [← q1.length, ← q2.length]; exact hl, fun z => ?_, fun z => ?_⟩
          · subst z
            cases q2
            rw [List.append_nil] at P
            exact P.here R (.tup g1 q1)
          · exact P.mkT R (q1.app q2)
    · exact absurd rfl P.ne
  · exact lists P
def dSub : G2 := fun x y cs => match x, y with
  | .int i, .int j => some (.int (i - j), cs)
  | _, _ => none
theorem op_dSub : OpR X (binaryOp .Sub) (rO2 X.K cm dSub) := by
  intro pins s σ H x y v u Q I rx ry h
  obtain ⟨W, dx, dy, cs, R, r1, r2, P⟩ := h
  unfold dSub at P
  split at P
  · cases r1; cases r2
    exact op_sub pins s σ H _ _ v u Q I rx ry ⟨_, _, rfl, rfl, P.here R (.int _)⟩
  · exact absurd rfl P.ne
def rep {α : Type} (k : Nat) (xs : List α) : List α := (List.replicate k xs).flatten
theorem Rps.rep {K : PySem.W.Frag} {W : Wd} {ds : List D} {xs : List V} (r : Rps K cm W ds xs) : ∀ k, Rps K cm W (rep k ds) (rep k xs)
  | 0 => .nil
  | k + 1 => by
    show Rps K cm W ((List.replicate (k + 1) ds).flatten) ((List.replicate (k + 1) xs).flatten)
    rw [List.replicate_succ, List.replicate_succ, List.flatten_cons, List.flatten_cons]
    exact r.app (Rps.rep r k)
def dMul (fz : Bool) : G2 := fun x y cs => match x, y with
  | .int i, .int j => if mulOk i j then some (.int (i * j), cs) else none
  | x, .int k => match lstOf cs x with
    | some xs => if -(2 ^ 63) ≤ k ∧ k < 2 ^ 63 ∧ xs.length * k.toNat ≤ sizeLine then mkL fz (rep k.toNat xs) cs else none
    | none => none
  | _, _ => none
theorem mul_ok {i j : Int} (h : mulOk i j) : IntMulOk i j := by
  rcases h with h | h
  · exact CMulW.ok h
  · exact CMul.ok h
theorem op_dMul (fz : Bool) : OpR X (binaryOp .Mult) (rO2 X.K cm (dMul fz)) := by
  intro pins s σ H x y v u Q I rx ry h
  obtain ⟨W, dx, dy, cs, R, r1, r2, P⟩ := h
  unfold dMul at P
  split at P
  · cases r1; cases r2
    split at P
    · rename_i hm
      obtain ⟨t, rfl⟩ := rx
      obtain ⟨t', rfl⟩ := ry
      exact mul_int ⟨.int _, H, I.tok _, ⟨_, rfl⟩, P.here R (.int _)⟩ (mul_ok hm)
    · exact absurd rfl P.ne
  · split at P
    · rename_i xs e
      split at P
      · rename_i hl
        cases r2
        obtain ⟨l, vs, rfl, h1, q1⟩ := lst_of R r1 e
        exact op_rep pins s σ H _ _ v u Q I rx ry ⟨l, _, vs, rfl, rfl, h1, hl.1, hl.2.1, by rw [← q1.length]; exact hl.2.2, P.mkL R (q1.rep _)⟩
      · exact absurd rfl P.ne
    · exact absurd rfl P.ne
  · exact absurd rfl P.ne
def dFdiv : G2 := fun x y cs => match x, y with
  | .int i, .int j => if divOk j then some (.int (i / j), cs) else none
  | _, _ => none
theorem op_dFdiv : OpR X (binaryOp .FloorDiv) (rO2 X.K cm dFdiv) := by
  intro pins s σ H x y v u Q I rx ry h
  obtain ⟨W, dx, dy, cs, R, r1, r2, P⟩ := h
  unfold dFdiv at P
  split at P
  · cases r1; cases r2
    split at P
    · rename_i hm
      exact op_fdivW pins s σ H _ _ v u Q I rx ry ⟨_, _, rfl, rfl, hm, P.here R (.int _)⟩
    · exact absurd rfl P.ne
  · exact absurd rfl P.ne
def dMod : G2 := fun x y cs => match x, y with
  | .int i, .int j => if 0 < j then some (.int (i % j), cs) else none
  | _, _ => none
theorem op_dMod : OpR X (binaryOp .Mod) (rO2 X.K cm dMod) := by
  intro pins s σ H x y v u Q I rx ry h
  obtain ⟨W, dx, dy, cs, R, r1, r2, P⟩ := h
  unfold dMod at P
  split at P
  · cases r1; cases r2
    split at P
    · rename_i hm
      exact op_mod pins s σ H _ _ v u Q I rx ry ⟨_, _, rfl, rfl, hm, P.here R (.int _)⟩
    · exact absurd rfl P.ne
  · exact absurd rfl P.ne
def dPow : G2 := fun x y cs => match x, y with
  | .int i, .int j => if powOk i j then some (.int (i ^ j.toNat), cs) else none
  | _, _ => none
theorem bits_le (i : Int) : Builtin.Int.intBits i ≤ i.natAbs.log2 + 1 := by
  unfold Builtin.Int.intBits
  split <;> omega
theorem op_dPow : OpR X (binaryOp .Pow) (rO2 X.K cm dPow) := by
  intro pins s σ H x y v u Q I rx ry h
  obtain ⟨W, dx, dy, cs, R, r1, r2, P⟩ := h
  unfold dPow at P
  split at P
  · rename_i i j
    cases r1; cases r2
    split at P
    · rename_i hm
      obtain ⟨t, rfl⟩ := rx
      obtain ⟨t', rfl⟩ := ry
      refine pow_int hm.1 ?_ ⟨.int _, H, I.tok _, ⟨_, rfl⟩, P.here R (.int _)⟩
      have h1 := bits_le i
      have h2 := hm.2.2
      have h3 : ((Builtin.Int.intBits i : Nat) : Int) ≤ 100000 := by omega
      have h4 : ((Builtin.Int.intBits i : Nat) : Int) * j ≤ 100000 * 1000 := Int.mul_le_mul h3 hm.2.1 hm.1 (by omega)
      exact Int.le_trans h4 (by decide)
    · exact absurd rfl P.ne
  · exact absurd rfl P.ne
def dNeg : D → List Cell → Rs D := fun x cs => match x with
  | .int i => some (.int (-i), cs)
  | _ => none
theorem op_dNeg : UnR X (unaryOp .USub) (rO1 X.K cm dNeg) := by
  intro pins s σ H x v Q I rx h
  obtain ⟨W, dx, cs, R, r1, P⟩ := h
  unfold dNeg at P
  split at P
  · cases r1
    exact un_neg pins s σ H _ v Q I rx ⟨_, rfl, P.here R (.int _)⟩
  · exact absurd rfl P.ne
def dCmp (p : Int → Int → Bool) : G2 := fun x y cs => match x, y with
  | .int i, .int j => some (.bl (p i j), cs)
  | _, _ => none
theorem cmp_of {op : CmpOp} {p : Int → Int → Bool} (ho : OpR X (compareOp op) (rI0 fun i j => .bl (p i j))) : OpR X (compareOp op) (rO2 X.K cm (dCmp p)) := by
  intro pins s σ H x y v u Q I rx ry h
  obtain ⟨W, dx, dy, cs, R, r1, r2, P⟩ := h
  unfold dCmp at P
  split at P
  · cases r1; cases r2
    exact ho pins s σ H _ _ v u Q I rx ry ⟨_, _, rfl, rfl, P.here R (.bl _)⟩
  · exact absurd rfl P.ne
abbrev dLt : G2 := dCmp fun i j => decide (i < j)
abbrev dLe : G2 := dCmp fun i j => decide (i ≤ j)
abbrev dGt : G2 := dCmp fun i j => decide (j < i)
theorem op_dLt : OpR X (compareOp .Lt) (rO2 X.K cm dLt) := cmp_of op_lt
theorem op_dLe : OpR X (compareOp .LtE) (rO2 X.K cm dLe) := cmp_of op_le
theorem op_dGt : OpR X (compareOp .Gt) (rO2 X.K cm dGt) := cmp_of op_gt
def dEq (neg : Bool) : G2 := fun x y cs => match toP cs x, toP cs y with
  | some p, some q => if SeqAt.shaped p = true ∧ SeqAt.shaped q = true then some (.bl (if neg then !PyData.eqv p q else PyData.eqv p q), cs) else none
  | _, _ => none
theorem op_dEq (hu : X.A.units + 64 < cLine) : OpR X (compareOp .Eq) (rO2 X.K cm (dEq false)) := by
  intro pins s σ H x y v u Q I rx ry h
  obtain ⟨W, dx, dy, cs, R, r1, r2, P⟩ := h
  unfold dEq at P
  split at P
  · rename_i p q e1 e2
    split at P
    · rename_i hs
      exact op_eqD hu pins s σ H _ _ v u Q I rx ry ⟨p, q, toP_ok R r1 e1, toP_ok R r2 e2, hs.1, hs.2, P.here R (.bl _)⟩
    · exact absurd rfl P.ne
  · exact absurd rfl P.ne
theorem op_dNe (hu : X.A.units + 64 < cLine) : OpR X (compareOp .NotEq) (rO2 X.K cm (dEq true)) := by
  intro pins s σ H x y v u Q I rx ry h
  obtain ⟨W, dx, dy, cs, R, r1, r2, P⟩ := h
  unfold dEq at P
  split at P
  · rename_i p q e1 e2
    split at P
    · rename_i hs
      exact op_neD hu pins s σ H _ _ v u Q I rx ry ⟨p, q, toP_ok R r1 e1, toP_ok R r2 e2, hs.1, hs.2, P.here R (.bl _)⟩
    · exact absurd rfl P.ne
  · exact absurd rfl P.ne
def isNon : D → Bool
  | .non => true
  | _ => false
theorem isNon_of {K : PySem.W.Frag} {W : Wd} {d : D} {v : V} (r : Rp K cm W d v) : decide (v = V.non) = isNon d := by
  cases r <;> rfl
def dIs (neg : Bool) : G2 := fun x y cs => match x, y with
  | x, .non => some (.bl (if neg then !isNon x else isNon x), cs)
  | .bl a, .bl b => some (.bl (if neg then !decide (a = b) else decide (a = b)), cs)
  | _, _ => none
theorem op_dIs : OpR X (compareOp .Is) (rO2 X.K cm (dIs false)) := by
  intro pins s σ H x y v u Q I rx ry h
  obtain ⟨W, dx, dy, cs, R, r1, r2, P⟩ := h
  unfold dIs at P
  split at P
  · cases r2
    exact op_isN pins s σ H _ _ v u Q I rx ry ⟨rfl, by rw [isNon_of r1]; exact P.here R (.bl _)⟩
  · cases r1; cases r2
    exact op_isBl pins s σ H _ _ v u Q I rx ry ⟨_, _, rfl, rfl, P.here R (.bl _)⟩
  · exact absurd rfl P.ne
def flatD : D → Option V
  | .non => some .non
  | .bl b => some (.bl b)
  | .int i => some (.int i)
  | .str x => some (.str x)
  | _ => none
def flatDs : List D → Option (List V)
  | [] => some []
  | d :: ds => match flatD d, flatDs ds with
    | some v, some vs => some (v :: vs)
    | _, _ => none
theorem flatD_of {K : PySem.W.Frag} {W : Wd} {d : D} {v w : V} (r : Rp K cm W d v) (e : flatD d = some w) : v = w ∧ flatV w = true := by
  cases r <;> first | (cases e; exact ⟨rfl, rfl⟩) | cases e
theorem flatDs_of {K : PySem.W.Frag} {W : Wd} : ∀ {ds : List D} {vs ws : List V}, Rps K cm W ds vs → flatDs ds = some ws → vs = ws ∧ ws.all flatV = true
  | _, _, _, .nil, e => by cases e; exact ⟨rfl, rfl⟩
  | d :: ds, _, _, .cons h r, e => by
    unfold flatDs at e
    split at e
    · rename_i v vs e1 e2
      cases e
      obtain ⟨a, b⟩ := flatD_of h e1
      obtain ⟨c, f⟩ := flatDs_of r e2
      subst a c
      exact ⟨rfl, by rw [List.all_cons, b, f]; rfl⟩
    · cases e
def dIn (neg : Bool) : G2 := fun x y cs => match y with
  | .tup ys => match flatD x, flatDs ys with
    | some v, some vs => some (.bl (if neg then !inV v vs else inV v vs), cs)
    | _, _ => none
  | y => match toP cs x, toP cs y with
    | some d, some (.list ds) => if SeqAt.shaped d = true ∧ SeqAt.shaped (.list ds) = true then some (.bl (if neg then !ds.any (fun z => PyData.eqv z d) else ds.any fun z => PyData.eqv z d), cs) else none
    | _, _ => none
theorem op_dIn (hu : X.A.units + 65 < cLine) : OpR X (compareOp .In) (rO2 X.K cm (dIn false)) := by
  intro pins s σ H x y v u Q I rx ry h
  obtain ⟨W, dx, dy, cs, R, r1, r2, P⟩ := h
  unfold dIn at P
  split at P
  · split at P
    · rename_i w ws e1 e2
      cases r2 with
      | tup g q =>
        obtain ⟨a, b⟩ := flatD_of r1 e1
        obtain ⟨c, f⟩ := flatDs_of q e2
        subst a c
        exact op_in_seq pins s σ H _ _ v u Q I rx ry ⟨_, _, rfl, .inr (SqT.of (R.sub _ _ g)), b, f, P.here R (.bl _)⟩
    · exact absurd rfl P.ne
  · split at P
    · rename_i d ds e1 e2
      split at P
      · rename_i hs
        exact op_inD hu pins s σ H _ _ v u Q I rx ry ⟨d, ds, toP_ok R r1 e1, toP_ok R r2 e2, hs.1, hs.2, P.here R (.bl _)⟩
      · exact absurd rfl P.ne
    · exact absurd rfl P.ne
theorem op_dNotIn (hu : X.A.units + 65 < cLine) : OpR X (compareOp .NotIn) (rO2 X.K cm (dIn true)) := by
  intro pins s σ H x y v u Q I rx ry h
  obtain ⟨W, dx, dy, cs, R, r1, r2, P⟩ := h
  unfold dIn at P
  split at P
  · split at P
    · rename_i w ws e1 e2
      cases r2 with
      | tup g q =>
        obtain ⟨a, b⟩ := flatD_of r1 e1
        obtain ⟨c, f⟩ := flatDs_of q e2
        subst a c
        exact op_notIn_seq pins s σ H _ _ v u Q I rx ry ⟨_, _, rfl, .inr (SqT.of (R.sub _ _ g)), b, f, P.here R (.bl _)⟩
    · exact absurd rfl P.ne
  · split at P
    · rename_i d ds e1 e2
      split at P
      · rename_i hs
        exact op_notInD hu pins s σ H _ _ v u Q I rx ry ⟨d, ds, toP_ok R r1 e1, toP_ok R r2 e2, hs.1, hs.2, P.here R (.bl _)⟩
      · exact absurd rfl P.ne
    · exact absurd rfl P.ne
theorem atI_rps {K : PySem.W.Frag} {W : Wd} {ds : List D} {vs : List V} (r : Rps K cm W ds vs) {i : Int} {d : D} (h : atI ds i = some d) : ∃ v, atI vs i = some v ∧ Rp K cm W d v := by
  unfold atI at h ⊢
  rw [← r.length]
  cases e : ixN ds.length i with
  | none => rw [e] at h; cases h
  | some j =>
    rw [e] at h
    obtain ⟨v, h1, h2⟩ := r.get (show ds[j]? = some d from h)
    exact ⟨v, h1, h2⟩
def dIx : G2 := fun x y cs => match y with
  | .int i => match x with
    | .str z => if z.length ≤ sizeLine then (atI z.cps.toList i).map fun c => (.str ⟨#[c]⟩, cs) else none
    | x => match seqOf cs x with
      | some xs => (atI xs i).map fun d => (d, cs)
      | none => none
  | _ => none
theorem ix_d : IxR X (rO2 X.K cm dIx) := by
  intro value slice pins s σ H x y v u Q I rx ry h hs
  obtain ⟨W, dx, dy, cs, R, r1, r2, P⟩ := h
  unfold dIx at P
  split at P
  · rename_i i
    cases r2
    split at P
    · rename_i z
      cases r1
      split at P
      · rename_i hl
        cases e : atI z.cps.toList i with
        | none => rw [e] at P; exact absurd rfl P.ne
        | some c =>
          rw [e] at P
          exact ix_str value slice pins s σ H _ _ v u Q I rx ry ⟨z, i, c, rfl, rfl, hl, e, P.here R (.str _)⟩ hs
      · exact absurd rfl P.ne
    · split at P
      · rename_i xs e
        obtain ⟨a, vs, rfl, hq, rr⟩ := seq_of R r1 e
        cases e2 : atI xs i with
        | none => rw [e2] at P; exact absurd rfl P.ne
        | some d =>
          rw [e2] at P
          obtain ⟨w, h1, h2⟩ := atI_rps rr e2
          rcases hq with hq | hq
          · exact ix_list value slice pins s σ H _ _ v u Q I rx ry ⟨a, vs, i, w, rfl, rfl, hq, h1, P.here R h2⟩ hs
          · exact ix_tup value slice pins s σ H _ _ v u Q I rx ry ⟨a, vs, i, w, rfl, rfl, hq, h1, P.here R h2⟩ hs
      · exact absurd rfl P.ne
  · exact absurd rfl P.ne
variable {Y : WX} {a b e : Expr} {fa fb fe fl fh : Fe} {pos p2 : Pos}
theorem fe_ix (ha : FE X cm Y a fa) (hb : FE X cm Y b fb) (hs : PlainIx b := by intro _ _; rfl) : FE X cm Y (.Subscript a b pos) (fOp2 dIx fa fb) := PE.weak (pe_ix ix_d ha hb hs) fun _ _ _ => two_go
abbrev Fo := Sd → List Cell → Out (Option Int)
def oNone : Fo := fun _ cs => .ok none cs
def oSome (f : Fe) : Fo := fun σ cs => (f σ cs).bind fun d c => match d with
  | .int i => .ok (some i) c
  | _ => .no
def PostO (K : PySem.W.Frag) (cm : Nat → Addr) (Y : WX) (σ : L2.St) (W : Wd) (r : Out (Option Int)) (Q : Option Int → Hp → Prop) : Prop := match r with
  | .ok d cs => ∀ W' H', W.le W' → Rel K cm W' cs H' → Q d H'
  | .ex x cs => Wish K cm Y σ W x cs
  | .no => False
theorem asksO {K : PySem.W.Frag} {W : Wd} {σ : L2.St} {Q : Option Int → Hp → Prop} : Asks K cm Y σ W (fun r => PostO K cm Y σ W r Q) := ⟨fun h => h, fun _ _ h => h⟩
theorem PostO.up {K : PySem.W.Frag} {W W1 : Wd} {σ : L2.St} (le : W.le W1) {r : Out (Option Int)} {Q : Option Int → Hp → Prop} (h : PostO K cm Y σ W r Q) : PostO K cm Y σ W1 r Q := by
  cases r with
  | ok d cs => exact fun W' H' l => h W' H' (le.trans l)
  | ex x cs => exact Wish.up le h
  | no => exact h
def tO (K : PySem.W.Frag) (cm : Nat → Addr) (Y : WX) (f : Fo) : L2.St → Hp → (Option Int → Hp → Prop) → Prop := fun σ H Q => ∃ W σd cs, Rel K cm W cs H ∧ En K cm W σd σ ∧ PostO K cm Y σ W (f σd cs) Q
theorem tO_go {K : PySem.W.Frag} {W : Wd} {σ : L2.St} {f : Fo} {H : Hp} {σd : Sd} {cs : List Cell} {β : Type} {k : Option Int → List Cell → Out β} {P : Out β → Prop} (R : Rel K cm W cs H) (E : En K cm W σd σ) {Q : Option Int → Hp → Prop}
    (hP : Asks K cm Y σ W P) (h : P (Out.bind (f σd cs) k)) (go : ∀ d c1, f σd cs = .ok d c1 → P (k d c1) → ∀ W' H', W.le W' → Rel K cm W' c1 H' → En K cm W' σd σ → Q d H') : tO K cm Y f σ H Q := by
  refine ⟨W, σd, cs, R, E, ?_⟩
  cases e : f σd cs with
  | no => rw [e] at h; exact (hP.no h).elim
  | ex x c => rw [e] at h; exact hP.ex x c h
  | ok d c1 => rw [e] at h; exact fun W' H' l R' => go d c1 e h W' H' l R' (E.up l)
theorem PO.weak {o : Option Expr} {t t' : L2.St → Hp → (Option Int → Hp → Prop) → Prop} (h : PO X o t) (m : ∀ σ H Q, t' σ H Q → t σ H Q) : PO X o t' := ⟨fun pins s σ H Q I q => h.run pins s σ H Q I (m σ H Q q)⟩
theorem fo_none : PO X none (tO X.K cm Y oNone) := PO.weak po_none fun σ H Q ⟨W, σd, cs, R, E, P⟩ => P W H (.refl W) R
theorem fo_some (h : FE X cm Y e fe) : PO X (some e) (tO X.K cm Y (oSome fe)) := PO.weak (po_some h) fun σ H Q ⟨W, σd, cs, R, E, P⟩ => by
  refine tE_go R E asksO P fun d c1 _ h1 W1 H1 v l1 R1 E1 r1 => ?_
  cases r1 with
  | int i => exact ⟨i, rfl, (h1.up l1) W1 H1 (.refl W1) R1⟩
  | _ => exact h1.elim
def cut {α : Type} (xs : List α) (lo hi : Option Int) : List α := (xs.drop (HT.sIx xs.length 0 lo)).take (HT.sIx xs.length xs.length hi - HT.sIx xs.length 0 lo)
theorem Rps.cut {K : PySem.W.Frag} {W : Wd} {ds : List D} {vs : List V} (r : Rps K cm W ds vs) (lo hi : Option Int) : Rps K cm W (cut ds lo hi) (cutV vs lo hi) := by
  unfold PV.cut cutV
  rw [r.length]
  exact (r.drop _).take _
def dSl (fz : Bool) (x : D) (lo hi : Option Int) (cs : List Cell) : Rs D := match x with
  | .str z => if z.length ≤ sizeLine then some (.str (cutS z lo hi), cs) else none
  | .tup xs => if HT.sIx xs.length 0 lo = 0 ∧ HT.sIx xs.length xs.length hi = xs.length then none else some (.tup (cut xs lo hi), cs)
  | .argT _ => none
  | x => match seqOf cs x with
    | some xs => mkL fz (cut xs lo hi) cs
    | none => none
def fSl (fz : Bool) (f : Fe) (lo hi : Fo) : Fe := fun σ cs => (f σ cs).bind fun x c1 => (lo σ c1).bind fun l c2 => (hi σ c2).bind fun u c3 => up (dSl fz x l u c3)
theorem sl_d {W : Wd} (fz : Bool) : SlR X (fun x lo hi H Q => ∃ W d cs, Rel X.K cm W cs H ∧ Rp X.K cm W d x ∧ Post X.K cm W (dSl fz d lo hi cs) Q) := by
  intro pins s σ H x v vl vu lo hi sl Q I rx hs pl pu h
  obtain ⟨W, d, cs, R, r, P⟩ := h
  unfold dSl at P
  split at P
  · rename_i z
    cases r
    split at P
    · rename_i hl
      exact sl_str pins s σ H _ v vl vu lo hi sl Q I rx hs pl pu ⟨z, rfl, hl, P.here R (.str _)⟩
    · exact absurd rfl P.ne
  · rename_i xs
    split at P
    · exact absurd rfl P.ne
    · rename_i hn
      cases r with
      | tup g q =>
        refine sl_tup pins s σ H _ v vl vu lo hi sl Q I rx hs pl pu ⟨_, _, rfl, SqT.of (R.sub _ _ g), ?_, P.mkT R (q.cut lo hi)⟩
        rw [← q.length]; exact hn
  · exact absurd rfl P.ne
  · rename_i d _ nt nt2
    split at P
    · rename_i xs e
      obtain ⟨a, vs, rfl, hq, rr⟩ := seq_of R r e
      rcases hq with hq | hq
      · exact sl_list pins s σ H _ v vl vu lo hi sl Q I rx hs pl pu ⟨a, vs, rfl, hq, P.mkL R (rr.cut lo hi)⟩
      · exfalso
        cases r with
        | tup g q => exact nt _ rfl
        | argT g q => exact nt2 _ rfl
        | lst g q => 
          have e1 := I.tuple hq
          obtain ⟨its, _, ⟨o, e1, c1, _⟩, _⟩ := e1
          obtain ⟨its2, _, ⟨o2, _, e2, c2, _⟩, _⟩ := I.list (SqL.of (R.sub _ _ g))
          rw [e1] at e2; cases e2
          rw [c1] at c2; exact absurd (Value.type.inj c2) (by decide)
        | arg g q =>
          obtain ⟨its, _, ⟨o, e1, c1, _⟩, _⟩ := I.tuple hq
          obtain ⟨its2, _, ⟨o2, _, e2, c2, _⟩, _⟩ := I.list (sqL_le R.sub g)
          rw [e1] at e2; cases e2
          rw [c1] at c2; exact absurd (Value.type.inj c2) (by decide)
        | @ref i a ei =>
          have h' : (match cs[i]? with | some (.lst xs) => some xs | _ => none) = some xs := e
          split at h'
          · rename_i ys ec
            obtain ⟨_, zs, e3, _⟩ := R.cel i a _ ei ec
            obtain ⟨its, _, ⟨o, e1, c1, _⟩, _⟩ := I.tuple hq
            obtain ⟨its2, _, ⟨o2, _, e2, c2, _⟩, _⟩ := I.list (SqL.of e3)
            rw [e1] at e2; cases e2
            rw [c1] at c2; exact absurd (Value.type.inj c2) (by decide)
          · cases h'
        | _ => cases e
    · exact absurd rfl P.ne
theorem fe_slice (fz : Bool) {lo hi : Option Expr} {ol oh : Fo} (he : FE X cm Y e fe) (hl : PO X lo (tO X.K cm Y ol)) (hh : PO X hi (tO X.K cm Y oh)) : FE X cm Y (.Subscript e (.Slice lo hi none p2) pos) (fSl fz fe ol oh) :=
  PE.weak (pe_slice (sl_d (W := ⟨fun _ => none, [], []⟩) fz) he hl hh) fun σ H Q ⟨W, σd, cs, R, E, h⟩ => by
    refine tE_go R E asksE h fun d c1 _ h1 W1 H1 v l1 R1 E1 r1 => ?_
    refine tO_go R1 E1 asksE (h1.up l1) fun o c2 _ h2 W2 H2 l2 R2 E2 => ?_
    refine tO_go R2 E2 asksE (h2.up l2) fun o3 c3 _ h3 W3 H3 l3 R3 E3 => ?_
    exact ⟨W3, d, c3, R3, (r1.up l2).up l3, (PostE.down h3).up l3⟩
variable {es : List Expr} {gs : Fa}
def aNil : Fa := fun _ cs => .ok [] cs
def aCons (f : Fe) (g : Fa) : Fa := fun σ cs => (f σ cs).bind fun d c1 => (g σ c1).bind fun ds c2 => Out.ok (d :: ds) c2
theorem fa_nil : FA X cm Y [] aNil := PA.weak pa_nil fun σ H Q ⟨W, σd, cs, R, E, P⟩ => P.here R .nil
theorem fa_cons (ha : FE X cm Y e fe) (hr : FA X cm Y es gs) (hs : starEach (e :: es) X.env = (false, eval e X.env) :: starEach es X.env := by rfl) : FA X cm Y (e :: es) (aCons fe gs) := PA.weak (pa_cons ha hr hs) fun σ H Q ⟨W, σd, cs, R, E, h⟩ => by
  refine tE_go R E asksA h fun d c1 _ h1 W1 H1 v l1 R1 E1 r1 => ?_
  refine tA_go R1 E1 asksA (h1.up l1) fun d2 c2 _ h2 W2 H2 v2 l2 R2 E2 r2 => ?_
  exact (h2.up l2).here R2 (.cons (r1.up l2) r2)
def fTup (g : Fa) : Fe := fun σ cs => (g σ cs).bind fun ds c => if ds.length ≤ sizeLine then .ok (.tup ds) c else .no
theorem fe_tup {x1} (h : FA X cm Y es gs) : FE X cm Y (.Tuple es x1 pos) (fTup gs) := PE.weak (pe_tup h) fun σ H Q ⟨W, σd, cs, R, E, h⟩ => by
  refine tA_go R E asksE h fun d c1 _ h1 W1 H1 v l1 R1 E1 r1 => ?_
  split at h1
  · rename_i hl
    exact ⟨by rw [← r1.length]; exact hl, (PostE.down (r := some (.tup d, c1)) (h1.up l1)).mkT R1 r1⟩
  · exact h1.elim
def fLst (fz : Bool) (g : Fa) : Fe := fun σ cs => (g σ cs).bind fun ds c => if ds.length ≤ sizeLine then up (mkL fz ds c) else .no
theorem fe_lst (fz : Bool) (h : FA X cm Y es gs) : FE X cm Y (.List es pos) (fLst fz gs) := PE.weak (pe_lst h) fun σ H Q ⟨W, σd, cs, R, E, h⟩ => by
  refine tA_go R E asksE h fun d c1 _ h1 W1 H1 v l1 R1 E1 r1 => ?_
  split at h1
  · rename_i hl
    exact ⟨by rw [← r1.length]; exact hl, (PostE.down (h1.up l1)).mkL R1 r1⟩
  · exact h1.elim
abbrev GC := List D → List Cell → Rs D
def fCB (g : GC) (fa : Fa) : Fe := fun σ cs => (fa σ cs).bind fun d c => up (g d c)
theorem cb_go {K : PySem.W.Frag} {g : GC} {σ : L2.St} {H : Hp} {Q : VK} (m : tE K cm Y (fCB g gs) σ H Q) : tCB (rCa K cm g) (tA K cm Y gs) σ H Q := by
  obtain ⟨W, σd, cs, R, E, h⟩ := m
  exact tA_go R E asksE h fun d c1 _ h1 W1 H1 v l1 R1 E1 r1 => ⟨W1, d, c1, R1, r1, (PostE.down h1).up l1⟩
theorem fe_callB {g : GC} {id : String} {x : Str} {p : Pos} (hc : CallR X (.builtin id) (rCa X.K cm g)) (hm : X.mg x = none) (hv : bootBuiltins x = some (.builtin id)) (ha : FA X cm Y (e :: es) gs) (hg : Gl X x := by rfl) (hn : x ≠ "__name__" := by decide) (hdb : (x == ("__debug__" : Str)) = false := by decide)
    (he : starEach (e :: es) X.env = (false, eval e X.env) :: starEach es X.env := by rfl) (hpl : (backTo pos (starEach es X.env)).any (·.1) = false := by rfl) : FE X cm Y (.Call (.Name x p) (e :: es) [] pos) (fCB g gs) := PE.weak (pe_callB hc hg hm hv ha hn hdb he hpl) fun _ _ _ => cb_go
theorem fe_callTy {g : GC} {T : String} {x : Str} {p : Pos} (hc : CallR X (.type T) (rCa X.K cm g)) (hm : X.mg x = none) (hv : bootBuiltins x = some (.type T)) (ha : FA X cm Y (e :: es) gs) (hg : Gl X x := by rfl) (hn : x ≠ "__name__" := by decide) (hdb : (x == ("__debug__" : Str)) = false := by decide)
    (he : starEach (e :: es) X.env = (false, eval e X.env) :: starEach es X.env := by rfl) (hpl : (backTo pos (starEach es X.env)).any (·.1) = false := by rfl) : FE X cm Y (.Call (.Name x p) (e :: es) [] pos) (fCB g gs) := PE.weak (pe_callTy hc hg hm hv ha hn hdb he hpl) fun _ _ _ => cb_go
section
theorem Rps.one {K : PySem.W.Frag} {W : Wd} {d : D} {vs : List V} (r : Rps K cm W [d] vs) : ∃ v, vs = [v] ∧ Rp K cm W d v := by
  cases r with | cons h t => cases t; exact ⟨_, rfl, h⟩
theorem Rps.two {K : PySem.W.Frag} {W : Wd} {d d' : D} {vs : List V} (r : Rps K cm W [d, d'] vs) : ∃ v w, vs = [v, w] ∧ Rp K cm W d v ∧ Rp K cm W d' w := by
  cases r with | cons h t => cases t with | cons h2 t => cases t; exact ⟨_, _, rfl, h, h2⟩
def dLen : GC := fun ds cs => match ds with
  | [.str x] => if x.length ≤ sizeLine then some (.int x.length, cs) else none
  | [d] => (seqOf cs d).map fun xs => (.int xs.length, cs)
  | _ => none
theorem call_dLen : CallR X (.builtin "len") (rCa X.K cm dLen) := by
  intro pins s σ H xs us Q I rx h
  obtain ⟨W, ds, cs, R, r, P⟩ := h
  unfold dLen at P
  split at P
  · split at P
    · rename_i hl
      obtain ⟨v, rfl, q1⟩ := r.one
      cases q1
      exact call_len_str pins s σ H _ us Q I rx ⟨_, rfl, hl, P.here R (.int _)⟩
    · exact absurd rfl P.ne
  · rename_i d _
    obtain ⟨v, rfl, q1⟩ := r.one
    cases e : seqOf cs d with
    | none => rw [e] at P; exact absurd rfl P.ne
    | some ys =>
      rw [e] at P
      obtain ⟨a, vs, rfl, hq, rr⟩ := seq_of R q1 e
      exact call_len_seq pins s σ H _ us Q I rx ⟨a, vs, rfl, hq, by rw [← rr.length]; exact P.here R (.int _)⟩
  · exact absurd rfl P.ne
def dAbs : GC := fun ds cs => match ds with
  | [.int i] => some (.int (if i < 0 then -i else i), cs)
  | _ => none
theorem call_dAbs : CallR X (.builtin "abs") (rCa X.K cm dAbs) := by
  intro pins s σ H xs us Q I rx h
  obtain ⟨W, ds, cs, R, r, P⟩ := h
  unfold dAbs at P
  split at P
  · obtain ⟨v, rfl, q1⟩ := r.one
    cases q1
    exact call_abs pins s σ H _ us Q I rx ⟨_, rfl, P.here R (.int _)⟩
  · exact absurd rfl P.ne
def isI : D → Option Int
  | .int i => some i
  | _ => none
def isB : D → Option Bool
  | .bl i => some i
  | _ => none
theorem isI_eq {d : D} {i : Int} (h : isI d = some i) : d = .int i := by
  cases d <;> first | (cases h; rfl) | cases h
theorem isB_eq {d : D} {i : Bool} (h : isB d = some i) : d = .bl i := by
  cases d <;> first | (cases h; rfl) | cases h
def intsOf : List D → Option (List Int)
  | [] => some []
  | d :: r => match isI d, intsOf r with
    | some i, some l => some (i :: l)
    | _, _ => none
theorem intsOf_eq : ∀ {ds : List D} {ns : List Int}, intsOf ds = some ns → ds = ns.map D.int
  | [], _, e => by cases e; rfl
  | d :: r, ns, e => by
    unfold intsOf at e
    split at e
    · rename_i i l e1 e2
      cases e
      rw [isI_eq e1, intsOf_eq e2]; rfl
    · cases e
def blsOf : List D → Option (List Bool)
  | [] => some []
  | d :: r => match isB d, blsOf r with
    | some i, some l => some (i :: l)
    | _, _ => none
theorem blsOf_eq : ∀ {ds : List D} {ns : List Bool}, blsOf ds = some ns → ds = ns.map D.bl
  | [], _, e => by cases e; rfl
  | d :: r, ns, e => by
    unfold blsOf at e
    split at e
    · rename_i i l e1 e2
      cases e
      rw [isB_eq e1, blsOf_eq e2]; rfl
    · cases e
theorem blsOf_map : ∀ ns : List Bool, blsOf (ns.map D.bl) = some ns
  | [] => rfl
  | n :: ns => by simp only [List.map_cons, blsOf, isB, blsOf_map ns]
def rdL (cs : List Cell) : D → Option (List D)
  | .lst xs => some xs
  | .arg xs => some xs
  | .ref i => match cs[i]? with
    | some (.lst xs) => some xs
    | _ => none
  | _ => none
theorem rdL_of {K : PySem.W.Frag} {W : Wd} {H : Hp} {cs : List Cell} (R : Rel K cm W cs H) {d : D} {v : V} {ds : List D} (r : Rp K cm W d v) (h : rdL cs d = some ds) : ∃ a xs, v = .ref a ∧ SqL K H a xs ∧ Rps K cm W ds xs := by
  cases r with
  | lst g q => cases h; exact ⟨_, _, rfl, SqL.of (R.sub _ _ g), q⟩
  | arg g q => cases h; exact ⟨_, _, rfl, sqL_le R.sub g, q⟩
  | @ref i a e =>
    have h' : (match cs[i]? with | some (.lst xs) => some xs | _ => none) = some ds := h
    split at h'
    · rename_i xs ec
      cases h'
      obtain ⟨_, ys, e2, q⟩ := R.cel i a _ e ec
      exact ⟨a, ys, rfl, SqL.of e2, q⟩
    · cases h'
  | _ => cases h
def intsAt (cs : List Cell) (d : D) : Option (List Int) := (rdL cs d).bind intsOf
theorem intsAt_of {K : PySem.W.Frag} {W : Wd} {H : Hp} {cs : List Cell} (R : Rel K cm W cs H) {d : D} {v : V} {ns : List Int} (r : Rp K cm W d v) (h : intsAt cs d = some ns) : ∃ a, v = .ref a ∧ SqL K H a (ns.map V.int) := by
  unfold intsAt at h
  cases e : rdL cs d with
  | none => rw [e] at h; cases h
  | some ds =>
    rw [e] at h
    obtain ⟨a, xs, rfl, hq, rr⟩ := rdL_of R r e
    rw [intsOf_eq h] at rr
    rw [rr.ints] at hq
    exact ⟨a, rfl, hq⟩
def maxL : List Int → Int
  | [] => 0
  | [a] => a
  | a :: r => if a ≤ maxL r then maxL r else a
def minL : List Int → Int
  | [] => 0
  | [a] => a
  | a :: r => if minL r ≤ a then minL r else a
theorem maxL_le : ∀ {ns : List Int} {y : Int}, y ∈ ns → y ≤ maxL ns
  | [a], y, h => by simp at h; subst h; exact Int.le_refl _
  | a :: b :: r, y, h => by
    show y ≤ if a ≤ maxL (b :: r) then maxL (b :: r) else a
    rcases List.mem_cons.mp h with e | h
    · subst e; split <;> omega
    · have := maxL_le h
      split <;> omega
theorem maxL_mem : ∀ {ns : List Int}, ns ≠ [] → maxL ns ∈ ns
  | [a], _ => by simp [maxL]
  | a :: b :: r, _ => by
    show (if a ≤ maxL (b :: r) then maxL (b :: r) else a) ∈ _
    split
    · exact List.mem_cons_of_mem _ (maxL_mem (by simp))
    · simp
theorem minL_le : ∀ {ns : List Int} {y : Int}, y ∈ ns → minL ns ≤ y
  | [a], y, h => by simp at h; subst h; exact Int.le_refl _
  | a :: b :: r, y, h => by
    show (if minL (b :: r) ≤ a then minL (b :: r) else a) ≤ y
    rcases List.mem_cons.mp h with e | h
    · subst e; split <;> omega
    · have := minL_le h
      split <;> omega
theorem minL_mem : ∀ {ns : List Int}, ns ≠ [] → minL ns ∈ ns
  | [a], _ => by simp [minL]
  | a :: b :: r, _ => by
    show (if minL (b :: r) ≤ a then minL (b :: r) else a) ∈ _
    split
    · exact List.mem_cons_of_mem _ (minL_mem (by simp))
    · simp
def dMax : GC := fun ds cs => match ds with
  | [.int i, .int j] => some (.int (if j > i then j else i), cs)
  | [d] => match intsAt cs d with
    | some (n :: ns) => some (.int (maxL (n :: ns)), cs)
    | _ => none
  | _ => none
theorem call_dMax (hc : X.calm = true) : CallR X (.builtin "max") (rCa X.K cm dMax) := by
  intro pins s σ H xs us Q I rx h
  obtain ⟨W, ds, cs, R, r, P⟩ := h
  unfold dMax at P
  split at P
  · obtain ⟨v, w, rfl, q1, q2⟩ := r.two
    cases q1; cases q2
    exact call_max2 hc pins s σ H _ us Q I rx ⟨_, _, rfl, P.here R (.int _)⟩
  · obtain ⟨v, rfl, q1⟩ := r.one
    split at P
    · rename_i n ns e
      obtain ⟨a, rfl, hq⟩ := intsAt_of R q1 e
      refine cr_max hc pins s σ H _ us Q I rx ⟨a, _, rfl, hq, by simp, fun m hm hle => ?_⟩
      have e2 : m = maxL (n :: ns) := Int.le_antisymm (maxL_le hm) (hle _ (maxL_mem (by simp)))
      subst e2
      exact P.here R (.int _)
    · exact absurd rfl P.ne
  · exact absurd rfl P.ne
def dMin : GC := fun ds cs => match ds with
  | [.int i, .int j] => some (.int (if j < i then j else i), cs)
  | [d] => match intsAt cs d with
    | some (n :: ns) => some (.int (minL (n :: ns)), cs)
    | _ => none
  | _ => none
theorem call_dMin (hc : X.calm = true) : CallR X (.builtin "min") (rCa X.K cm dMin) := by
  intro pins s σ H xs us Q I rx h
  obtain ⟨W, ds, cs, R, r, P⟩ := h
  unfold dMin at P
  split at P
  · obtain ⟨v, w, rfl, q1, q2⟩ := r.two
    cases q1; cases q2
    exact call_min2 hc pins s σ H _ us Q I rx ⟨_, _, rfl, P.here R (.int _)⟩
  · obtain ⟨v, rfl, q1⟩ := r.one
    split at P
    · rename_i n ns e
      obtain ⟨a, rfl, hq⟩ := intsAt_of R q1 e
      refine cr_min hc pins s σ H _ us Q I rx ⟨a, _, rfl, hq, by simp, fun m hm hle => ?_⟩
      have e2 : m = minL (n :: ns) := Int.le_antisymm (hle _ (minL_mem (by simp))) (minL_le hm)
      subst e2
      exact P.here R (.int _)
    · exact absurd rfl P.ne
  · exact absurd rfl P.ne
def dAll : GC := fun ds cs => match ds with
  | [d] => match (rdL cs d).bind blsOf with
    | some bs => some (.bl (bs.all id), cs)
    | none => none
  | _ => none
theorem blsAt_of {K : PySem.W.Frag} {W : Wd} {H : Hp} {cs : List Cell} (R : Rel K cm W cs H) {d : D} {v : V} {ns : List Bool} (r : Rp K cm W d v) (h : (rdL cs d).bind blsOf = some ns) : ∃ a, v = .ref a ∧ SqL K H a (ns.map V.bl) := by
  cases e : rdL cs d with
  | none => rw [e] at h; cases h
  | some ds =>
    rw [e] at h
    obtain ⟨a, xs, rfl, hq, rr⟩ := rdL_of R r e
    rw [blsOf_eq h] at rr
    rw [rr.bls] at hq
    exact ⟨a, rfl, hq⟩
theorem call_dAll (hc : X.calm = true) : CallR X (.builtin "all") (rCa X.K cm dAll) := by
  intro pins s σ H xs us Q I rx h
  obtain ⟨W, ds, cs, R, r, P⟩ := h
  unfold dAll at P
  split at P
  · obtain ⟨v, rfl, q1⟩ := r.one
    split at P
    · rename_i bs e
      obtain ⟨a, rfl, hq⟩ := blsAt_of R q1 e
      exact cr_all hc pins s σ H _ us Q I rx ⟨a, _, rfl, hq, P.here R (.bl _)⟩
    · exact absurd rfl P.ne
  · exact absurd rfl P.ne
def dInt : GC := fun ds cs => match ds with
  | [.int i] => some (.int i, cs)
  | [.bl k] => some (.int (if k then 1 else 0), cs)
  | _ => none
theorem call_dInt : CallR X (.type "int") (rCa X.K cm dInt) := by
  intro pins s σ H xs us Q I rx h
  obtain ⟨W, ds, cs, R, r, P⟩ := h
  unfold dInt at P
  split at P
  · obtain ⟨v, rfl, q1⟩ := r.one
    cases q1
    exact call_int1 pins s σ H _ us Q I rx (.inl ⟨_, rfl, P.here R (.int _)⟩)
  · obtain ⟨v, rfl, q1⟩ := r.one
    cases q1
    exact call_int1 pins s σ H _ us Q I rx (.inr ⟨_, rfl, P.here R (.int _)⟩)
  · exact absurd rfl P.ne
def dList (fz : Bool) : GC := fun ds cs => match ds with
  | [d] => match seqOf cs d with
    | some xs => mkL fz xs cs
    | none => none
  | _ => none
theorem call_dList (fz : Bool) : CallR X (.type "list") (rCa X.K cm (dList fz)) := by
  intro pins s σ H xs us Q I rx h
  obtain ⟨W, ds, cs, R, r, P⟩ := h
  unfold dList at P
  split at P
  · obtain ⟨v, rfl, q1⟩ := r.one
    split at P
    · rename_i ys e
      obtain ⟨a, vs, rfl, hq, rr⟩ := seq_of R q1 e
      exact call_list_of pins s σ H _ us Q I rx ⟨a, vs, rfl, hq, P.mkL R rr⟩
    · exact absurd rfl P.ne
  · exact absurd rfl P.ne
def dTuple : GC := fun ds cs => match ds with
  | [.tup xs] => some (.tup xs, cs)
  | [d] => match rdL cs d with
    | some xs => some (.tup xs, cs)
    | none => none
  | _ => none
theorem call_dTuple : CallR X (.type "tuple") (rCa X.K cm dTuple) := by
  intro pins s σ H xs us Q I rx h
  obtain ⟨W, ds, cs, R, r, P⟩ := h
  unfold dTuple at P
  split at P
  · obtain ⟨v, rfl, q1⟩ := r.one
    cases q1 with
    | tup g q => exact call_tuple_of pins s σ H _ us Q I rx ⟨_, _, rfl, .inr ⟨SqT.of (R.sub _ _ g), P.here R (.tup g q)⟩⟩
  · obtain ⟨v, rfl, q1⟩ := r.one
    split at P
    · rename_i ys e
      obtain ⟨a, vs, rfl, hq, rr⟩ := rdL_of R q1 e
      exact call_tuple_of pins s σ H _ us Q I rx ⟨a, vs, rfl, .inl ⟨hq, P.mkT R rr⟩⟩
    · exact absurd rfl P.ne
  · exact absurd rfl P.ne
def rpOk : PyData → Bool
  | .int _ | .list _ | .tuple _ => true
  | _ => false
def dRepr : GC := fun ds cs => match ds with
  | [d] => match toP cs d with
    | some p => if rpOk p = true ∧ p.showable = true ∧ p.hasDict = false ∧ p.depth ≤ 100 ∧ p.shown.length ≤ sizeLine then some (.str p.shown, cs) else none
    | none => none
  | _ => none
end
end
end PV
namespace PV
open PySem PySem.Spec PyProof.Rows L2
section
variable (K : PySem.W.Frag) (cm : Nat → Addr)
def PostF (W : Wd) (r : Out D) (Q : VK) (E : XK) : Prop := match r with
  | .ok d cs => ∀ W' H' v, W.le W' → Rel K cm W' cs H' → Rp K cm W' d v → Q v H'
  | .ex x cs => ∀ W' H' dd, W.le W' → Rel K cm W' cs H' → Pay K cm W' x.2 dd H' → E (.ref (cm x.1)) dd H'
  | .no => False
end
def FnB (P : Program) (w : World) (K : PySem.W.Frag) (mg : Str → Option Value) (base : Heap) (cm : Nat → Addr) (k : Nat) (f : Addr) (fd : FuncData) (ps : List Str) (F : List D → List Cell → Out D) : Prop :=
  ∀ (A : Around) (outer : List Env) (s : Shared) (H : Hp) (args : Args) (us : List Value) (vs : List V) (Q : VK) (E : XK) (W : Wd) (ds : List D) (cs : List Cell),
    Room k A → A.guards = some [] → Env0 P w K mg base A outer s H → BindsTo s fd args (ps.zip us) → Vals vs us → vs.length = ps.length → Rel K cm W cs H → Rps K cm W ds vs → PostF K cm W (F ds cs) Q E →
      codeAny (model P w) A (.call (.ref f) args) (CR (L2.CX P w) outer P w H s Q E) s
def runDef (n N : Nat) (fb : Fs) : List D → List Cell → Out D := fun ds cs => if ds.length = n then match fb (ds.map some ++ List.replicate (N - n) none) cs with
  | .nx _ c => .ok .non c
  | .rt d c => .ok d c
  | .ex x _ c => .ex x c
  | _ => .no
  else .no
theorem start_en {K : PySem.W.Frag} {cm : Nat → Addr} {W : Wd} {ds : List D} {vs : List V} (r : Rps K cm W ds vs) (N : List Str) (hl : vs.length ≤ N.length) : En K cm W (ds.map some ++ List.replicate (N.length - ds.length) none) (L2.start N vs) := by
  have e := r.length
  unfold L2.start
  refine ⟨by simp [e], fun i d h => ?_⟩
  by_cases hi : i < ds.length
  · rw [List.getElem?_append_left (by simpa using hi), List.getElem?_map] at h
    cases q : ds[i]? with
    | none => rw [q] at h; cases h
    | some d' =>
      rw [q] at h; cases h
      obtain ⟨v, h1, h2⟩ := r.get q
      refine ⟨v, ?_, h2⟩
      rw [List.getElem?_append_left (by simpa [← e] using hi), List.getElem?_map, h1]; rfl
  · rw [List.getElem?_append_right (by simpa using Nat.le_of_not_lt hi), List.getElem?_replicate] at h
    split at h <;> cases h
section
variable {P : Program} {w : World} {K : PySem.W.Frag} {mg : Str → Option Value} {base : Heap} {cm : Nat → Addr}
abbrev yOf (E : XK) : WX := fun c d _ H => E c d H
theorem PostF.toS {W : Wd} {r : Sr} {Q : VK} {E : XK} (h : PostF K cm W (match r with
  | .nx _ c => .ok .non c
  | .rt d c => .ok d c
  | .ex x _ c => .ex x c
  | _ => .no) Q E) : PostS K cm (yOf E) W r { nx := fun _ H' => Q .non H', rt := Q } := by
  cases r with
  | nx σ c => exact fun W' H' σ l R _ => h W' H' .non l R .non
  | rt d c => exact h
  | ex x σ c => exact fun W' H' σ dd l R _ p => h W' H' dd l R p
  | bk σ c => exact h.elim
  | ct σ c => exact h.elim
  | no => exact h.elim
theorem fn_body {x qual : Str} {params : Arguments} {body : List Stmt} {scope : Scope} {dvs : List V} {kws : List (Str × V)} {f : Addr} {fd : FuncData} {N ps : List Str} {k : Nat} {fb : Fs} (F : FunD K x qual params body scope dvs kws f fd) (S : FnScope N ps scope)
    (hb : ∀ (cdv : Value) (A : Around) (outer : List Env) (s : Shared) (H : Hp) (E : XK), Room k (A.deeper (envOfC qual scope s.heap.objs.size f cdv)) → (A.deeper (envOfC qual scope s.heap.objs.size f cdv)).guards = some [] →
      FSs (cxOf (L2.CX P w) P w K mg base N qual scope f cdv A outer s H E) cm (yOf E) body fb) : FnB P w K mg base cm (k + 1) f fd ps (runDef ps.length N.length fb) := by
  intro A outer s H args us vs Q E W ds cs hr hg e0 hbi rv hl R r h
  obtain ⟨oc, od, dV, kV, doc, pm, an, cdv, ct, osl, rfl, lk, hcd, _, _⟩ := F.ex
  have hpl : ps.length ≤ N.length := by have := congrArg List.length S.pre; rw [List.length_take] at this; omega
  have hd : ds.length = ps.length := by rw [r.length]; exact hl
  refine StX.run_bnd (G := fun xs H2 => xs = vs ∧ H2 = H) lk hcd S hr e0 (fun A' Ex Q' go => ?_) fun s2 H2 xs g hr2 => ?_
  · exact hbi _ _ _ _ (go s H vs us e0 Un.refl rfl (fun _ _ z => z) rv hl ⟨rfl, rfl⟩)
  · obtain ⟨rfl, rfl⟩ := g
    refine ⟨_, hb cdv A outer s2 H2 E hr2 hg, W, _, cs, R, start_en r N (by rw [hl]; exact hpl), ?_⟩
    unfold runDef at h
    rw [if_pos hd] at h
    rw [hd]
    exact h.toS
theorem FnB.mono {j k : Nat} {f : Addr} {fd : FuncData} {ps : List Str} {F : List D → List Cell → Out D} (h : FnB P w K mg base cm j f fd ps F) (l : j ≤ k) : FnB P w K mg base cm k f fd ps F :=
  fun A outer s H args us vs Q E W ds cs hr => h A outer s H args us vs Q E W ds cs (hr.mono l)
end
abbrev Fk := List D → List D → List Cell → Out D
structure Cal (X : Cx) (cm : Nat → Addr) (Y : WX) (v : Value) (ks : List Str) (F : Fk) : Prop where
  kp : PySem.W.keepIn X.K v = true
  run : ∀ (pins : List (Addr × Obj)) (s : Shared) (σ : L2.St) (H : Hp) (us ws : List Value) (vs zs : List V) (Q : VK) (W : Wd) (ds es : List D) (cs : List Cell), Inv X pins σ H s → Vals vs us → Vals zs ws → zs.length = ks.length →
    Rel X.K cm W cs H → Rps X.K cm W ds vs → Rps X.K cm W es zs → PostE X.K cm Y σ W (F ds es cs) Q → wpAny (model X.prog X.w) X.A (call v us (ks.zip ws)) (EP X pins σ Q) X.xe s
structure Arg (K : PySem.W.Frag) (cm : Nat → Addr) (fd : FuncData) (ps : List Str) (n : Nat) (ks : List Str) (g : List D → List D → List D) : Prop where
  to : ∃ (gv : List Value → List Value → List Value) (gV : List V → List V → List V), (∀ (s : Shared) (us ws : List Value), K.In s.heap → us.length = n → ws.length = ks.length → BindsTo s fd ⟨us, ks.zip ws⟩ (ps.zip (gv us ws))) ∧
    (∀ {vs us zs ws}, Vals vs us → Vals zs ws → Vals (gV vs zs) (gv us ws)) ∧ ∀ {W ds vs es zs}, Rps K cm W ds vs → Rps K cm W es zs → Rps K cm W (g ds es) (gV vs zs)
section
variable {X : Cx} {cm : Nat → Addr} {Y : WX} {k n : Nat} {f C : Addr} {fd : FuncData} {ps ks : List Str} {F : List D → List Cell → Out D} {g : List D → List D → List D}
def fnK (n m l : Nat) (F : List D → List Cell → Out D) (g : List D → List D → List D) : Fk := fun ds es cs => if ds.length = n ∧ (g ds es).length = l then F (g ds es) cs else .no
theorem PostE.toF {K : PySem.W.Frag} {W : Wd} {σ : L2.St} {r : Out D} {Q : VK} (h : PostE K cm Y σ W r Q) : PostF K cm W r Q fun c d H => Y c d σ H := by
  cases r with
  | ok d cs => exact h
  | ex x cs => exact h
  | no => exact h
theorem run_def {pins : List (Addr × Obj)} {s : Shared} {σ : L2.St} {H : Hp} {us ws : List Value} {vs zs : List V} {Q : VK} {W : Wd} {ds es : List D} {cs : List Cell} {A : Around}
    (B : FnB X.prog X.w X.K X.mg X.base cm k f fd ps F) (a : Arg X.K cm fd ps n ks g) (hr : Room k A) (hg : A.guards = some []) (hA : A.frames = some X.stack) (tk : Takes X Y) (I : Inv X pins σ H s) (r : Vals vs us) (rz : Vals zs ws) (hz : zs.length = ks.length)
    (R : Rel X.K cm W cs H) (q : Rps X.K cm W ds vs) (qz : Rps X.K cm W es zs) (h : PostE X.K cm Y σ W (fnK n ks.length ps.length F g ds es cs) Q) :
    codeAny (model X.prog X.w) A (.call (.ref f) ⟨us, ks.zip ws⟩) (fun r s' => match r with
      | .ok (.ret u) => EP X pins σ Q u s'
      | .ok _ => False
      | .error e => X.xe e s') s := by
  obtain ⟨gv, gV, b1, b2, b3⟩ := a.to
  unfold fnK at h
  split at h
  · rename_i hl
    have e0 := I.env0
    have e1 : Env0 X.prog X.w X.K X.mg X.base A X.stack s H := ⟨hA, e0.mod, e0.bs, e0.bsz, e0.funs, e0.frf, e0.hok, e0.bare⟩
    refine codeAny_mono (B A X.stack s H ⟨us, ks.zip ws⟩ (gv us ws) (gV vs zs) Q _ W (g ds es) cs hr hg e1 (b1 s us ws I.kIn ?_ ?_) (b2 r rz) ?_ R (b3 q qz) (PostE.toF h)) fun rr s' hq => ?_
    · rw [← r.length, ← q.length]; exact hl.1
    · rw [← rz.length]; exact hz
    · rw [← (b3 q qz).length]; exact hl.2
    · cases rr with
      | error e => exact tk e s' (XE.of_call I (fun _ _ _ z => z) hq)
      | ok fl =>
        cases fl with
        | ret u => exact I.after hq
        | next => exact hq.elim
        | brk => exact hq.elim
        | cont => exact hq.elim
  · exact h.elim
theorem cal_fn (B : FnB X.prog X.w X.K X.mg X.base cm k f fd ps F) (a : Arg X.K cm fd ps n ks g) (hr : Room k X.A) (hg : X.A.guards = some []) (tk : Takes X Y) (kp : PySem.W.keepIn X.K (.ref f) = true) : Cal X cm Y (.ref f) ks (fnK n ks.length ps.length F g) :=
  ⟨kp, fun pins s σ H us ws vs zs Q W ds es cs I r rz hz R q qz h => wpAny_call (codeAny_mono (run_def B a hr hg I.ok.frames tk I r rz hz R q qz h) fun rr s' hq => by
    cases rr with
    | error e => exact hq
    | ok fl => cases fl <;> exact hq)⟩
def mkK (c : Nat) (fz : Bool) (F : Fk) : Fk := fun ds es cs => (F (.ref cs.length :: ds) es (cs ++ [.ins c []])).bind fun d c1 => match d with
  | .non => if fz = true then up (frzD (.ref cs.length) c1) else .ok (.ref cs.length) c1
  | _ => .no
theorem cal_make {c : Nat} (fz : Bool) (M : Mk X.K (cm c) f) (B : FnB X.prog X.w X.K X.mg X.base cm k f fd ps F) (a : Arg X.K cm fd ps n ks g) (hr : Room (k + 1) X.A) (hg : X.A.guards = some []) (tk : Takes X Y) :
    Cal X cm Y (.ref (cm c)) ks (mkK c fz (fnK n ks.length ps.length F g)) := by
  refine ⟨M.kp, fun pins s σ H us ws vs zs Q W ds es cs I r rz hz R q qz h => ?_⟩
  have I2 := Inv.made (C := cm c) I
  have R1 := R.junk (p := s.heap.objs.size) (o := .own (s.heap.objs.size + 1)) (I.hok.fresh (Nat.le_refl _))
  have hf : upd H s.heap.objs.size (.own (s.heap.objs.size + 1)) (s.heap.objs.size + 1) = none := by
    rw [upd_ne (Nat.succ_ne_self _)]
    exact I.hok.fresh (Nat.le_succ _)
  obtain ⟨le, R2, e⟩ := R1.newC (c := .ins c []) (o := .ins (cm c) s.heap.objs.size []) hf ⟨rfl, _, _, rfl, .nil⟩
  refine wpAny_call (make_map (f := f) I.kIn M.makes M.init (beq_iff_eq.mp M.fn) (codeAny_mono (run_def (A := X.A.under (.builtin "type.__call__" ⟨.ref (cm c) :: us, ks.zip ws⟩)) (us := .ref (s.heap.objs.size + 1) :: us) (vs := .ref (s.heap.objs.size + 1) :: vs) (Y := Y)
    (ds := .ref cs.length :: ds) (Q := fun v H2 => v = .non ∧ Q (.ref (s.heap.objs.size + 1)) H2) B a (hr.make (cm c) us _) ?_ ?_ tk I2 (.cons rfl r) rz hz R2 (.cons (.ref e) (q.up le)) (qz.up le) ?_) fun rr s' hq => ?_))
  · first
      | exact hg
      | (simp [Around.under, Code.guards, Code.isGuard, guardIds, pushGuards, hg])
  · have := (I.env0.make (cm c) us (ks.zip ws)).frames
    exact this
  · unfold mkK at h
    cases q1 : fnK n ks.length ps.length F g (.ref cs.length :: ds) es (cs ++ [.ins c []]) with
    | no => rw [q1] at h; exact h.elim
    | ex x c1 => rw [q1] at h; exact Wish.up le h
    | ok d c1 =>
      rw [q1] at h
      intro W' H' v l R' r'
      cases r' with
      | non =>
        refine ⟨rfl, ?_⟩
        have h' : PostE X.K cm Y σ W (if fz = true then up (frzD (.ref cs.length) c1) else .ok (.ref cs.length) c1) Q := h
        cases fz with
        | true =>
          rw [if_pos rfl] at h'
          exact frz_go R' (.ref (l.r _ _ e)) ((PostE.down h').up (le.trans l))
        | false =>
          rw [if_neg Bool.false_ne_true] at h'
          exact h' W' H' _ (le.trans l) R' (.ref (l.r _ _ e))
      | _ => exact h.elim
  · cases rr with
    | error e => exact hq
    | ok fl =>
      cases fl with
      | ret u =>
        obtain ⟨v, H', I3, rv, ev, q3⟩ := hq
        subst ev
        exact ⟨rv, ⟨.ref (s.heap.objs.size + 1), H', I3, rfl, q3⟩⟩
      | next => exact hq
      | brk => exact hq
      | cont => exact hq
end
abbrev FKw (X : Cx) (cm : Nat → Addr) (Y : WX) (kws : List Keyword) (f : Fa) : Prop := PK X kws (tA X.K cm Y f)
def fCall (F : Fk) (ga gk : Fa) : Fe := fun σ cs => (ga σ cs).bind fun ds c1 => (gk σ c1).bind fun es c2 => F ds es c2
section
variable {X : Cx} {cm : Nat → Addr} {Y : WX} {v : Value} {ks : List Str} {F : Fk} {x : Str} {e : Expr} {es : List Expr} {kws : List Keyword} {p pos kpos : Pos} {ga gk : Fa} {fe : Fe}
theorem PK.weak {kws : List Keyword} {t t' : TA} (h : PK X kws t) (m : ∀ σ H Q, t' σ H Q → t σ H Q) : PK X kws t' := ⟨fun pos pins s σ H Q I q => h.run pos pins s σ H Q I (m σ H Q q)⟩
theorem fk_nil : FKw X cm Y [] aNil := PK.weak pk_nil fun σ H Q ⟨W, σd, cs, R, E, P⟩ => P.here R .nil
theorem fk_cons {nm : Option Str} (ha : FE X cm Y e fe) (hr : FKw X cm Y kws gk) : FKw X cm Y (⟨nm, e, kpos⟩ :: kws) (aCons fe gk) := PK.weak (pk_cons ha hr) fun σ H Q ⟨W, σd, cs, R, E, h⟩ => by
  refine tE_go R E asksA h fun d c1 _ h1 W1 H1 v l1 R1 E1 r1 => ?_
  refine tA_go R1 E1 asksA (h1.up l1) fun d2 c2 _ h2 W2 H2 v2 l2 R2 E2 r2 => ?_
  exact (h2.up l2).here R2 (.cons (r1.up l2) r2)
theorem fe_call (c : Cal X cm Y v [] F) (hm : X.mg x = some v) (ha : FA X cm Y (e :: es) ga) (hg : Gl X x := by rfl) (hdb : (x == ("__debug__" : Str)) = false := by decide)
    (he : starEach (e :: es) X.env = (false, eval e X.env) :: starEach es X.env := by rfl) (hpl : (backTo pos (starEach es X.env)).any (·.1) = false := by rfl) : FE X cm Y (.Call (.Name x p) (e :: es) [] pos) (fCall F ga aNil) := by
  refine ⟨fun pins s σ H Q I ⟨W, σd, cs, R, E, h⟩ => ?_⟩
  refine wpAny_Call_Name_kw (ld_glob I hg hm ?_ hdb)
  have t := tA_go (Q := fun vs H1 => ∃ W1 ds c1, Rel X.K cm W1 c1 H1 ∧ Rps X.K cm W1 ds vs ∧ PostE X.K cm Y σ W1 (F ds [] c1) Q) R E asksE h fun d c1 _ h1 W1 H1 v l1 R1 E1 r1 => ⟨W1, d, c1, R1, r1, h1.up l1⟩
  refine PySem.W.callWith_K (h₀ := X.base) I.ok.mod.kin c.kp (thn (ha.run pos pins s σ H _ I t) fun us s1 ⟨vs, H1, I1, rv, W1, ds, c1, R1, r1, h1⟩ => ⟨I1.kIn, ?_⟩) he hpl
  exact c.run pins s1 σ H1 us [] vs [] Q W1 ds [] c1 I1 rv .nil rfl R1 r1 .nil h1
theorem fe_call0 (c : Cal X cm Y v [] F) (hm : X.mg x = some v) (hg : Gl X x := by rfl) (hdb : (x == ("__debug__" : Str)) = false := by decide) : FE X cm Y (.Call (.Name x p) [] [] pos) (fCall F aNil aNil) := by
  refine ⟨fun pins s σ H Q I ⟨W, σd, cs, R, E, h⟩ => ?_⟩
  refine wpAny_Call_Name_kw (ld_glob I hg hm ?_ hdb)
  exact PySem.W.callWith_K0 I.kIn c.kp (c.run pins s σ H [] [] [] [] Q W [] [] cs I .nil .nil rfl R .nil .nil h)
theorem fe_callK0 (c : Cal X cm Y v ks F) (hm : X.mg x = some v) (hk : FKw X cm Y kws gk) (hg : Gl X x := by rfl) (hdb : (x == ("__debug__" : Str)) = false := by decide)
    (hall : (backToKw pos (keywordEach kws X.env)).all (·.1.isSome) = true := by rfl) (hks : (backToKw pos (keywordEach kws X.env)).filterMap (·.1) = ks := by rfl)
    (hpl : ((backTo pos (starEach [] X.env)).any (·.1) || (backToKw pos (keywordEach kws X.env)).any (·.1.isNone)) = false := by rfl) :
    FE X cm Y (.Call (.Name x p) [] kws pos) (fCall (fun ds es cs => if es.length = ks.length then F ds es cs else .no) aNil gk) := by
  refine ⟨fun pins s σ H Q I ⟨W, σd, cs, R, E, h⟩ => ?_⟩
  refine wpAny_Call_Name_kw (ld_glob I hg hm ?_ hdb)
  have t := tA_go (Q := fun zs H2 => ∃ W2 es c2, Rel X.K cm W2 c2 H2 ∧ Rps X.K cm W2 es zs ∧ PostE X.K cm Y σ W2 (if es.length = ks.length then F [] es c2 else .no) Q) R E asksE (show PostE X.K cm Y σ W ((gk σd cs).bind fun es c2 => if es.length = ks.length then F [] es c2 else .no) Q from h) fun d2 c2 _ h2 W2 H2 v2 l2 R2 E2 r2 => ⟨W2, d2, c2, R2, r2, h2.up l2⟩
  refine PySem.W.callWith_KW0 (h₀ := X.base) I.ok.mod.kin c.kp hall ?_ hpl
  refine thn (hk.run pos pins s σ H _ I t) fun ws s2 ⟨zs, H2, I2, rz, W2, es2, c2, R2, r2, h2⟩ => ⟨I2.kIn, ?_⟩
  rw [hks]
  split at h2
  · rename_i hl
    exact c.run pins s2 σ H2 [] ws [] zs Q W2 [] es2 c2 I2 .nil rz (by rw [← r2.length]; exact hl) R2 .nil r2 h2
  · exact h2.elim
def insOf (cs : List Cell) : D → Option (Nat × List (Str × D))
  | .ins c fs => some (c, fs)
  | .ref i => match cs[i]? with
    | some (.ins c fs) => some (c, fs)
    | _ => none
  | _ => none
theorem ins_of {K : PySem.W.Frag} {W : Wd} {H : Hp} {cs : List Cell} (R : Rel K cm W cs H) {d : D} {v : V} {c : Nat} {fs : List (Str × D)} (r : Rp K cm W d v) (h : insOf cs d = some (c, fs)) : ∃ a dx vs, v = .ref a ∧ H a = some (.ins (cm c) dx vs) ∧ Rpf K cm W fs vs := by
  cases r with
  | ins g q => cases h; exact ⟨_, _, _, rfl, R.sub _ _ g, q⟩
  | @ref i a e =>
    have h' : (match cs[i]? with | some (.ins c fs) => some (c, fs) | _ => none) = some (c, fs) := h
    split at h'
    · rename_i c2 fs2 ec
      cases h'
      obtain ⟨_, dx, ys, e2, q⟩ := R.cel i a _ e ec
      exact ⟨a, dx, ys, rfl, e2, q⟩
    · cases h'
  | _ => cases h
variable {o : Expr} {fo : Fe} {f m : Str} {apos : Pos}
def fFld (cl : List Nat) (f : Str) (fo : Fe) : Fe := fun σ cs => (fo σ cs).bind fun d c1 => match insOf c1 d with
  | some (c, fs) => if cl.contains c = true then match fs.lookup f with
    | some v => .ok v c1
    | none => .no
    else .no
  | none => .no
theorem fe_fld (cl : List Nat) (h : ∀ c ∈ cl, Cls X.K (cm c) ∧ NoAttr X.K (cm c) f) (he : FE X cm Y o fo) (hb : attributeBase o f X.env (eval o X.env) = eval o X.env := by rfl) : FE X cm Y (.Attribute o f pos) (fFld cl f fo) := PE.weak (pe_fld he hb) fun σ H Q ⟨W, σd, cs, R, E, P⟩ => by
  refine tE_go R E asksE P fun d c1 _ h1 W1 H1 v l1 R1 E1 r1 => ?_
  split at h1
  · rename_i c fs e1
    split at h1
    · rename_i hc
      split at h1
      · rename_i z e2
        obtain ⟨a, dx, vs, rfl, h2, q⟩ := ins_of R1 r1 e1
        obtain ⟨y, h3, r3⟩ := q.look e2
        obtain ⟨k1, k2⟩ := h c (by simpa using hc)
        exact ⟨a, cm c, dx, vs, y, rfl, h2, k1, k2, h3, (h1.up l1).here R1 r3⟩
      · exact h1.elim
    · exact h1.elim
  · exact h1.elim
def noX (r : Out D) : Out D := match r with
  | .ex _ _ => .no
  | r => r
@[simp] theorem noX_ok (d : D) (c : List Cell) : noX (.ok d c) = .ok d c := rfl
def fProp (c : Nat) (F : List D → List Cell → Out D) (fo : Fe) : Fe := fun σ cs => (fo σ cs).bind fun d c1 => match insOf c1 d with
  | some (c', _) => if c' = c then noX (F [d] c1) else .no
  | none => .no
theorem noX_y {K : PySem.W.Frag} {W : Wd} {σ : L2.St} {r : Out D} {Q : VK} (h : PostE K cm Y σ W (noX r) Q) : PostE K cm (fun _ _ _ _ => False) σ W r Q := by
  cases r with
  | ok d c => exact h
  | ex x c => exact h.elim
  | no => exact h.elim
theorem takes_none {X : Cx} : Takes X.nox (fun _ _ _ _ => False) := fun _ _ ⟨_, _, _, _, _, _, _, _, _, _, _, _, _, _, _, _, w⟩ => w.elim
theorem fe_prop {c k : Nat} {pa g : Addr} {fd : FuncData} {G : List D → List Cell → Out D} (he : FE X cm Y o fo) (hc : Cls X.K (cm c)) (hp : PropOf X.K (cm c) f pa g) (B : FnB X.prog X.w X.K X.mg X.base cm k g fd ["self"] G)
    (a : Arg X.K cm fd ["self"] 1 [] (fun ds _ => ds)) (hr : Room (k + 1) X.A) (hg : X.A.guards = some []) (hb : attributeBase o f X.env (eval o X.env) = eval o X.env := by rfl) : FE X cm Y (.Attribute o f pos) (fProp c G fo) := by
  refine ⟨fun pins s σ H Q I ⟨W, σd, cs, R, E, P⟩ => ?_⟩
  refine attr_of hb (thn (he.run pins s σ H _ I (tE_go (Q := fun v H1 => ∃ W1 d c1 fs, Rel X.K cm W1 c1 H1 ∧ Rp X.K cm W1 d v ∧ insOf c1 d = some (c, fs) ∧ PostE X.K cm Y σ W1 (noX (G [d] c1)) Q) R E asksE P fun d c1 _ h1 W1 H1 v l1 R1 E1 r1 => ?_)) fun u s1 ⟨v, H1, I1, rv, W1, d, c1, fs, R1, r1, e1, h1⟩ => ?_)
  · split at h1
    · rename_i c' fs e1
      split at h1
      · rename_i e2
        subst e2
        exact ⟨W1, d, c1, fs, R1, r1, e1, h1.up l1⟩
      · exact h1.elim
    · exact h1.elim
  · obtain ⟨x, dx, vs, rfl, h2, q⟩ := ins_of R1 r1 e1
    obtain rfl : u = Value.ref x := rv
    obtain ⟨mA, O, _, _, _, _⟩ := ins_get I1.hok h2
    obtain ⟨od, J, _⟩ := O.look
    obtain ⟨rest, hrec⟩ := hp.rec_
    have I2 := I1.tok (s1.toks + 1)
    have hcls : (PySem.W.clsIn X.K (cm c)).isSome = true := by
      obtain ⟨cd, hc, _⟩ := PySem.W.any_some hc.hd
      rw [hc]; rfl
    refine PySem.W.get_bind I1.kIn J (PySem.W.plainGet_of (hc.get f)).1 (PySem.W.findObj_data hcls hp.at_ hp.get hp.tak) (PySem.W.plainGet_of (hc.get f)).2 (wpAny_call (PySem.W.prop_get (s := { s1 with toks := s1.toks + 1 }) I1.kIn hrec ?_))
    refine codeAny_mono (run_def (X := X.nox) (Y := fun _ _ _ _ => False) (A := X.A.in1) (us := [.ref x]) (ws := []) (vs := [.ref x]) (zs := []) (Q := Q) (ds := [d]) (es := []) (cs := c1) B a hr.in1 hg I2.ok.frames takes_none (I2.wish _) (.cons rfl .nil) .nil rfl R1 (.cons r1 .nil) .nil ?_) fun rr s' hq => ?_
    · unfold fnK
      rw [if_pos ⟨rfl, rfl⟩]
      exact noX_y h1
    · cases rr with
      | error er => exact False.elim hq
      | ok fl =>
        cases fl with
        | ret u =>
          obtain ⟨z, H', I3, rz, q3⟩ := hq
          show wpAny _ _ (handedOut u) _ _ _
          rw [PySem.W.handedOut_of (handed_of rz)]
          exact wpAny_pure ⟨z, H', I3.unwish, rz, q3⟩
        | next => exact hq
        | brk => exact hq
        | cont => exact hq
def fMeth (c : Nat) (m : Str) (F : Fk) (fo : Fe) (ga gk : Fa) : Fe := fun σ cs => (fo σ cs).bind fun d c1 => match insOf c1 d with
  | some (c', fs) => if c' = c ∧ fs.lookup m = none then (ga σ c1).bind fun ds c2 => (gk σ c2).bind fun es c3 => F (d :: ds) es c3 else .no
  | none => .no
end
end PV
namespace PV
open PySem PySem.Spec PyProof.Rows L2
def sOf {α : Type} (r : Out α) (σ : Sd) (k : α → List Cell → Sr) : Sr := match r with
  | .ok a c => k a c
  | .ex x c => .ex x σ c
  | .no => .no
@[simp] theorem sOf_ok {α : Type} {a : α} {c : List Cell} {σ : Sd} {k : α → List Cell → Sr} : sOf (.ok a c) σ k = k a c := rfl
@[simp] theorem sOf_ex {α : Type} {x : Xc} {c : List Cell} {σ : Sd} {k : α → List Cell → Sr} : sOf (.ex x c) σ k = .ex x σ c := rfl
@[simp] theorem sOf_no {α : Type} {σ : Sd} {k : α → List Cell → Sr} : sOf (.no : Out α) σ k = .no := rfl
section
variable {X : Cx} {cm : Nat → Addr} {Y : WX} {W : Wd} {σ : L2.St} {σd : Sd} {cs : List Cell} {H : Hp} {E : Ends}
theorem goS {f : Fe} {k : D → List Cell → Sr} {Q : VK} (R : Rel X.K cm W cs H) (N : En X.K cm W σd σ) (h : PostS X.K cm Y W (sOf (f σd cs) σd k) E)
    (go : ∀ d c1, PostS X.K cm Y W (k d c1) E → ∀ W' H' v, W.le W' → Rel X.K cm W' c1 H' → En X.K cm W' σd σ → Rp X.K cm W' d v → Q v H') : tE X.K cm Y f σ H Q := by
  refine ⟨W, σd, cs, R, N, ?_⟩
  cases e : f σd cs with
  | no => rw [e] at h; exact h.elim
  | ex x c => rw [e] at h; exact fun W' H' dd l R' p => h W' H' σ dd l R' (N.up l) p
  | ok d c1 => rw [e] at h; exact fun W' H' v l R' r => go d c1 h W' H' v l R' (N.up l) r
theorem goB {f : Ft} {k : Bool → List Cell → Sr} {Q : Bool → Hp → Prop} (R : Rel X.K cm W cs H) (N : En X.K cm W σd σ) (h : PostS X.K cm Y W (sOf (f σd cs) σd k) E)
    (go : ∀ d c1, PostS X.K cm Y W (k d c1) E → ∀ W' H', W.le W' → Rel X.K cm W' c1 H' → En X.K cm W' σd σ → Q d H') : tT X.K cm Y f σ H Q := by
  refine ⟨W, σd, cs, R, N, ?_⟩
  cases e : f σd cs with
  | no => rw [e] at h; exact h.elim
  | ex x c => rw [e] at h; exact fun W' H' dd l R' p => h W' H' σ dd l R' (N.up l) p
  | ok d c1 => rw [e] at h; exact fun W' H' l R' => go d c1 h W' H' l R' (N.up l)
theorem goA {f : Fa} {k : List D → List Cell → Sr} {Q : List V → Hp → Prop} (R : Rel X.K cm W cs H) (N : En X.K cm W σd σ) (h : PostS X.K cm Y W (sOf (f σd cs) σd k) E)
    (go : ∀ d c1, PostS X.K cm Y W (k d c1) E → ∀ W' H' v, W.le W' → Rel X.K cm W' c1 H' → En X.K cm W' σd σ → Rps X.K cm W' d v → Q v H') : tA X.K cm Y f σ H Q := by
  refine ⟨W, σd, cs, R, N, ?_⟩
  cases e : f σd cs with
  | no => rw [e] at h; exact h.elim
  | ex x c => rw [e] at h; exact fun W' H' dd l R' p => h W' H' σ dd l R' (N.up l) p
  | ok d c1 => rw [e] at h; exact fun W' H' v l R' r => go d c1 h W' H' v l R' (N.up l) r
end
section
variable {X : Cx} {cm : Nat → Addr} {Y : WX} {st : Stmt} {rest : List Stmt} {e o i tg : Expr} {f g : Fs} {fe fo fi : Fe} {ft : Ft} {pos p1 p2 : Pos}
def sNx : Fs := fun σ c => .nx σ c
def sSeq (f g : Fs) : Fs := fun σ cs => match f σ cs with
  | .nx σ' c => g σ' c
  | r => r
theorem fs_nil : FSs X cm Y [] sNx := PSs.weak pss_nil fun E σ H ⟨W, σd, cs, R, N, P⟩ => P W H σ (.refl W) R N
theorem seq_go {K : PySem.W.Frag} {E : Ends} {σ : L2.St} {H : Hp} (m : tS K cm Y (sSeq f g) E σ H) : tSeq (tS K cm Y f) (tS K cm Y g) E σ H := by
  obtain ⟨W, σd, cs, R, N, P⟩ := m
  refine ⟨W, σd, cs, R, N, ?_⟩
  unfold sSeq at P
  cases q : f σd cs with
  | nx σ' c => rw [q] at P; exact fun W' H' σ2 l R' N' => ⟨W', σ', c, R', N', PostS.up l P⟩
  | rt d c => rw [q] at P; exact P
  | bk σ' c => rw [q] at P; exact P
  | ct σ' c => rw [q] at P; exact P
  | ex x σ' c => rw [q] at P; exact P
  | no => rw [q] at P; exact P
theorem fs_cons (h1 : FS X cm Y st f) (h2 : FSs X cm Y rest g) : FSs X cm Y (st :: rest) (sSeq f g) := PSs.weak (pss_cons h1 h2) fun _ _ _ => seq_go
theorem fs_one (h1 : FS X cm Y st f) : FSs X cm Y [st] f := pss_one h1
theorem fs_never : FS X cm Y st (fun _ _ => .no) := ⟨fun _ _ _ _ _ _ ⟨_, _, _, _, _, P⟩ => P.elim⟩
def sRet (f : Fe) : Fs := fun σ cs => sOf (f σ cs) σ fun d c => .rt d c
theorem fs_ret (h : FE X cm Y e fe) : FS X cm Y (.Return (some e) pos) (sRet fe) := PS.weak (ps_ret h) fun E σ H ⟨W, σd, cs, R, N, P⟩ => goS R N P fun d c1 h1 W1 H1 v l R1 N1 r1 => h1 W1 H1 v l R1 r1
def sEx (f : Fe) : Fs := fun σ cs => sOf (f σ cs) σ fun _ c => .nx σ c
theorem fs_expr (h : FE X cm Y e fe) (hs : swapsWith e none pos.line X.env = pure false := by rfl) : FS X cm Y (.Expr e pos) (sEx fe) := PS.weak (ps_expr h hs) fun E σ H ⟨W, σd, cs, R, N, P⟩ => goS R N P fun d c1 h1 W1 H1 v l R1 N1 r1 => h1 W1 H1 σ l R1 N1
def sIf (t : Ft) (f g : Fs) : Fs := fun σ cs => sOf (t σ cs) σ fun b c => if b = true then f σ c else g σ c
theorem fs_if {a b : List Stmt} (hc : FT X cm Y e ft) (ha : FSs X cm Y a f) (hb : FSs X cm Y b g) : FS X cm Y (.If e a b pos) (sIf ft f g) := PS.weak (ps_if hc ha hb) fun E σ H ⟨W, σd, cs, R, N, P⟩ => goB R N P fun d c1 h1 W1 H1 l R1 N1 => by
  cases d with
  | true => exact iteT ⟨W1, σd, c1, R1, N1, PostS.up l h1⟩
  | false => exact iteF ⟨W1, σd, c1, R1, N1, PostS.up l h1⟩
abbrev Gt := D → Sd → List Cell → Option Sd
def tG (K : PySem.W.Frag) (cm : Nat → Addr) (js : List Nat) (g : Gt) : TG := fun v σ H Q => ∃ W σd cs d σ', Rel K cm W cs H ∧ En K cm W σd σ ∧ Rp K cm W d v ∧ g d σd cs = some σ' ∧ ∀ σ2, En K cm W σ' σ2 → (∀ vs : List Nat, (∀ j ∈ js, j ∈ vs) → wipe σ2 vs = wipe σ vs) → Q σ2 H
abbrev FG (X : Cx) (cm : Nat → Addr) (tg : Expr) (js : List Nat) (g : Gt) : Prop := PG X tg (tG X.K cm js g)
theorem PG.weak {tg : Expr} {t t' : TG} (h : PG X tg t) (m : ∀ v σ H Q, t' v σ H Q → t v σ H Q) : PG X tg t' := ⟨fun pins s σ H v u Q I r q => h.run pins s σ H v u Q I r (m v σ H Q q)⟩
def gN (i : Nat) : Gt := fun d σ _ => some (σ.set i (some d))
theorem wipe_set {i : Nat} {x : Option V} : ∀ {vs : List Nat} {σ : L2.St}, i ∈ vs → wipe (σ.set i x) vs = wipe σ vs
  | [], _, h => nomatch h
  | j :: vs, σ, h => by
    by_cases q : i ∈ vs
    · show (wipe (σ.set i x) vs).set j none = (wipe σ vs).set j none
      rw [wipe_set q]
    · have e : i = j := by
        rcases List.mem_cons.mp h with z | z
        · exact z
        · exact absurd z q
      subst e
      have c : ∀ (l : List Nat) (τ : L2.St), i ∉ l → (wipe (τ.set i x) l).set i none = (wipe τ l).set i none := by
        intro l
        induction l with
        | nil => intro τ _; show (τ.set i x).set i none = τ.set i none; rw [List.set_set]
        | cons a l ih =>
          intro τ hn
          have ha : a ≠ i := fun z => hn (by rw [z]; exact List.mem_cons_self)
          show ((wipe (τ.set i x) l).set a none).set i none = ((wipe τ l).set a none).set i none
          rw [List.set_comm _ _ ha, List.set_comm _ _ ha, ih τ fun z => hn (List.mem_cons_of_mem _ z)]
      exact c vs σ q
theorem fg_name {i : Nat} {x : Str} (hN : X.N.Nodup) (hi : X.N[i]? = some x) (hx : Loc X.env.scope x) (hf : X.fn x = true ∨ X.env.scope.names.lookup x = some .local := by first | exact .inl rfl | exact .inr rfl | assumption) : FG X cm (.Name x pos) [i] (gN i) :=
  PG.weak (pg_name hN hi hx hf) fun v σ H Q ⟨W, σd, cs, d, σ', R, N, r, e, k⟩ => by
    cases e
    exact k _ (N.set i r) fun vs h => wipe_set (h i (by simp))
abbrev Gts := List D → Sd → List Cell → Option Sd
def tGs (K : PySem.W.Frag) (cm : Nat → Addr) (js : List Nat) (g : Gts) : TGs := fun xs σ H Q => ∃ W σd cs ds σ', Rel K cm W cs H ∧ En K cm W σd σ ∧ Rps K cm W ds xs ∧ g ds σd cs = some σ' ∧ ∀ σ2, En K cm W σ' σ2 → (∀ vs : List Nat, (∀ j ∈ js, j ∈ vs) → wipe σ2 vs = wipe σ vs) → Q σ2 H
abbrev FGs (X : Cx) (cm : Nat → Addr) (ts : List Expr) (js : List Nat) (g : Gts) : Prop := PGs X ts (tGs X.K cm js g)
theorem PGs.weak {tg : List Expr} {t t' : TGs} (h : PGs X tg t) (m : ∀ v σ H Q, t' v σ H Q → t v σ H Q) : PGs X tg t' := ⟨fun pins s σ H v u Q I r q => h.run pins s σ H v u Q I r (m v σ H Q q)⟩
def gsNil : Gts := fun ds σ _ => match ds with
  | [] => some σ
  | _ => none
def gsCons (g : Gt) (h : Gts) : Gts := fun ds σ c => match ds with
  | d :: r => (g d σ c).bind fun σ1 => h r σ1 c
  | [] => none
theorem fgs_nil : FGs X cm [] [] gsNil := PGs.weak pgs_nil fun v σ H Q ⟨W, σd, cs, d, σ', R, N, r, e, k⟩ => by
  unfold gsNil at e
  split at e
  · cases e; cases r
    exact ⟨rfl, k _ N fun _ _ => rfl⟩
  · cases e
theorem fgs_cons {es : List Expr} {j1 j2 : List Nat} {g : Gt} {gs : Gts} (h1 : FG X cm e j1 g) (h2 : FGs X cm es j2 gs) (hs : (assignEach (e :: es) X.env).map (·.2) = assign e X.env :: (assignEach es X.env).map (·.2) := by rfl) : FGs X cm (e :: es) (j1 ++ j2) (gsCons g gs) :=
  PGs.weak (pgs_cons h1 h2 hs) fun v σ H Q ⟨W, σd, cs, d, σ', R, N, r, e, k⟩ => by
    unfold gsCons at e
    split at e
    · rename_i d0 ds
      cases q : g d0 σd cs with
      | none => rw [q] at e; cases e
      | some σ1 =>
        rw [q] at e
        cases r with
        | cons r1 r2 =>
          refine ⟨_, _, rfl, W, σd, cs, d0, σ1, R, N, r1, q, fun σ2 N2 w2 => ⟨W, σ1, cs, ds, σ', R, N2, r2, e, fun σ3 N3 w3 => k σ3 N3 fun vs h => ?_⟩⟩
          exact (w3 vs fun j hj => h j (List.mem_append_right _ hj)).trans (w2 vs fun j hj => h j (List.mem_append_left _ hj))
    · cases e
def gT (n : Nat) (g : Gts) : Gt := fun d σ c => match d with
  | .tup xs => if xs.length = n then g xs σ c else none
  | _ => none
theorem fg_tup {es : List Expr} {k n : Nat} {js : List Nat} {g : Gts} (hc : X.calm = true) (h : FGs X cm es js g) (hn : (assignEach es X.env).length = n := by rfl) (hst : (assignEach es X.env).findIdx? (·.1) = none := by rfl) : FG X cm (.Tuple es k pos) js (gT n g) :=
  PG.weak (pg_tup hc h hn hst) fun v σ H Q ⟨W, σd, cs, d, σ', R, N, r, e, k⟩ => by
    unfold gT at e
    split at e
    · split at e
      · rename_i hl
        cases r with
        | tup q1 q2 => exact ⟨_, _, rfl, SqT.of (R.sub _ _ q1), by rw [← q2.length]; exact hl, W, σd, cs, _, σ', R, N, q2, e, k⟩
      · cases e
    · cases e
def sAsg (f : Fe) (g : Gt) : Fs := fun σ cs => sOf (f σ cs) σ fun d c => match g d σ c with
  | some σ' => .nx σ' c
  | none => .no
theorem fs_set {i : Nat} {x : Str} (hN : X.N.Nodup) (hi : X.N[i]? = some x) (hx : Loc X.env.scope x) (he : FE X cm Y e fe) (hs : swapsWith e (some (.Name x p1)) pos.line X.env = pure false := by rfl) (hf : X.fn x = true ∨ X.env.scope.names.lookup x = some .local := by first | exact .inl rfl | exact .inr rfl | assumption) :
    FS X cm Y (.Assign [.Name x p1] e pos) (sAsg fe (gN i)) := PS.weak (ps_set hN hi hx he hs hf) fun E σ H ⟨W, σd, cs, R, N, P⟩ => by
  refine goS R N P fun d c1 h1 W1 H1 v l R1 N1 r1 => ?_
  exact h1 W1 H1 _ l R1 (N1.set i r1)
def sPar (i j : Nat) (f : Fa) : Fs := fun σ cs => sOf (f σ cs) σ fun ds c => match ds with
  | [a, b] => .nx ((σ.set i (some a)).set j (some b)) c
  | _ => .no
theorem fs_par {i j : Nat} {x y : Str} {a b : Expr} {fa : Fa} {px py pt pt2 : Pos} {kt k2} (hc : X.calm = true) (hN : X.N.Nodup) (hi : X.N[i]? = some x) (hj : X.N[j]? = some y) (hij : i ≠ j)
    (hx : X.env.scope.names.lookup x = some .local) (hy : X.env.scope.names.lookup y = some .local) (ha : FA X cm Y [a, b] fa)
    (hw : swappedStores [.Tuple [.Name x px, .Name y py] kt pt] (.Tuple [a, b] k2 pt2) X.env = pure (some [x, y]))
    (hs : swapsWithSole [.Tuple [.Name x px, .Name y py] kt pt] (.Tuple [a, b] k2 pt2) pos.line X.env = pure false := by rfl) :
    FS X cm Y (.Assign [.Tuple [.Name x px, .Name y py] kt pt] (.Tuple [a, b] k2 pt2) pos) (sPar i j fa) := PS.weak (ps_par hc hN hi hj hij hx hy ha hw hs) fun E σ H ⟨W, σd, cs, R, N, P⟩ => by
  refine goA R N P fun ds c1 h1 W1 H1 vs l R1 N1 r1 => ?_
  split at h1
  · cases r1 with
    | cons q1 r1 => cases r1 with
      | cons q2 r1 =>
        cases r1
        exact ⟨_, _, rfl, h1 W1 H1 _ l R1 ((N1.set i q1).set j q2)⟩
  · exact h1.elim
def sPar3 (i j k : Nat) (f : Fa) : Fs := fun σ cs => sOf (f σ cs) σ fun ds c => match ds with
  | [a, b, d] => .nx (((σ.set i (some a)).set j (some b)).set k (some d)) c
  | _ => .no
def setC (d i v : D) (cs : List Cell) : Option (List Cell) := match d, i with
  | .ref n, .int k => match cs[n]? with
    | some (.lst xs) => match ixN xs.length k with
      | some j => some (cs.set n (.lst (xs.set j v)))
      | none => none
    | _ => none
  | _, _ => none
def sSub (fe fo fi : Fe) : Fs := fun σ cs => sOf (fe σ cs) σ fun v c1 => sOf (fo σ c1) σ fun d c2 => sOf (fi σ c2) σ fun i c3 => match setC d i v c3 with
  | some c => .nx σ c
  | none => .no
theorem fs_sub (he : FE X cm Y e fe) (ho : FE X cm Y o fo) (hi : FE X cm Y i fi) (ha : ∀ v, assign (.Subscript o i p1) X.env v = (do
      let ov ← holding [v] (eval o X.env)
      let iv ← holding [v, ov] (eval i X.env)
      standAt p1
      holding [v, ov, iv] (setItem ov iv v)
      release [v, ov, iv] []) := by intro _; rfl)
    (hs : swapsWithSole [.Subscript o i p1] e pos.line X.env = pure false := by rfl) (hw : swappedStores [.Subscript o i p1] e X.env = pure none := by rfl) (h1 : (assignEach [.Subscript o i p1] X.env).map (·.2) = [assign (.Subscript o i p1) X.env] := by rfl) :
    FS X cm Y (.Assign [.Subscript o i p1] e pos) (sSub fe fo fi) := PS.weak (ps_asg he (pg_sub ho hi set_list ha) hs hw h1) fun E σ H ⟨W, σd, cs, R, N, P⟩ => by
  refine goS R N P fun v c1 h1 W1 H1 x l1 R1 N1 r1 => ?_
  refine goS R1 N1 (PostS.up l1 h1) fun d c2 h2 W2 H2 y l2 R2 N2 r2 => ?_
  refine goS R2 N2 (PostS.up l2 h2) fun ix c3 h3 W3 H3 z l3 R3 N3 r3 => ?_
  unfold setC at h3
  split at h3
  · rename_i c hs
    split at hs
    · rename_i n k
      split at hs
      · rename_i xs ec
        split at hs
        · rename_i j ej
          cases hs
          cases r3
          cases r2 with
          | @ref _ a ea =>
            have ea3 := l3.r _ _ ea
            obtain ⟨_, ys, e2, q⟩ := R3.cel n a _ ea3 ec
            refine ⟨a, ys, _, j, rfl, rfl, e2, by rw [← q.length]; exact ej, ?_⟩
            obtain ⟨_, R4⟩ := R3.setC (c' := .lst (xs.set j v)) (o := .lst (ys.set j x)) ea3 ec (by simp) ⟨rfl, _, rfl, q.set ((r1.up l2).up l3) j⟩
            exact h3 W3 _ σ l3 R4 N3
        · cases hs
      · cases hs
    · cases hs
  · exact h3.elim
def setF (cl : List Nat) (f : Str) (d v : D) (cs : List Cell) : Option (List Cell) := match d with
  | .ref n => match cs[n]? with
    | some (.ins c fs) => if cl.contains c = true ∧ fs.length < 1000 then some (cs.set n (.ins c (putD f v fs))) else none
    | _ => none
  | _ => none
def sFld (cl : List Nat) (f : Str) (fe fo : Fe) : Fs := fun σ cs => sOf (fe σ cs) σ fun v c1 => sOf (fo σ c1) σ fun d c2 => match setF cl f d v c2 with
  | some c => .nx σ c
  | none => .no
theorem fs_fld (cl : List Nat) {f : Str} (h : ∀ c ∈ cl, Cls X.K (cm c) ∧ NoAttr X.K (cm c) f) (ho : FE X cm Y o fo) (he : FE X cm Y e fe) (hs : swapsWith e (some (.Attribute o f p1)) pos.line X.env = pure false := by rfl) :
    FS X cm Y (.Assign [.Attribute o f p1] e pos) (sFld cl f fe fo) := PS.weak (ps_fld ho he hs) fun E σ H ⟨W, σd, cs, R, N, P⟩ => by
  refine goS R N P fun v c1 h1 W1 H1 x l1 R1 N1 r1 => ?_
  refine goS R1 N1 (PostS.up l1 h1) fun d c2 h2 W2 H2 y l2 R2 N2 r2 => ?_
  unfold setF at h2
  split at h2
  · rename_i c hs
    split at hs
    · rename_i n
      split at hs
      · rename_i c0 fs ec
        split at hs
        · rename_i hc
          cases hs
          cases r2 with
          | @ref _ a ea =>
            obtain ⟨_, dx, ys, e2, q⟩ := R2.cel n a _ ea ec
            obtain ⟨k1, k2⟩ := h c0 (by simpa using hc.1)
            refine ⟨a, cm c0, dx, ys, rfl, e2, k1, k2, by rw [← q.length]; exact hc.2, ?_⟩
            obtain ⟨_, R4⟩ := R2.setC (c' := .ins c0 (putD f v fs)) (o := .ins (cm c0) dx (putF f x ys)) ea ec (by simp) ⟨rfl, _, _, rfl, q.put (r1.up l2)⟩
            exact h2 W2 _ σ l2 R4 N2
        · cases hs
      · cases hs
    · cases hs
  · exact h2.elim
def sFrz (i : Nat) : Fs := fun σ cs => match σ[i]? with
  | some (some d) => match frzD d cs with
    | some (d', c) => .nx (σ.set i (some d')) c
    | none => .no
  | _ => .no
theorem fs_frz (i : Nat) {sts : List Stmt} (h : FSs X cm Y sts f) : FSs X cm Y sts (sSeq (sFrz i) f) := PSs.weak h fun E σ H ⟨W, σd, cs, R, N, P⟩ => by
  unfold sSeq sFrz at P
  cases q : σd[i]? with
  | none => rw [q] at P; exact P.elim
  | some o =>
    cases o with
    | none => rw [q] at P; exact P.elim
    | some d =>
      rw [q] at P
      cases q2 : frzD d cs with
      | none => simp only [q2] at P; exact P.elim
      | some p =>
        obtain ⟨d', c⟩ := p
        simp only [q2] at P
        obtain ⟨v, hv, r⟩ := N.at_ i d q
        have z : Post X.K cm W (frzD d cs) fun v' H' => v' = v → tS X.K cm Y f E σ H' := ⟨d', c, q2, fun W' H' v' l R' r' ev => ?_⟩
        · exact frz_go R r z rfl
        · subst ev
          refine ⟨W', σd.set i (some d'), c, R', ?_, PostS.up l P⟩
          have N' := (N.up l).set i r'
          have e : σ.set i (some v') = σ := by
            have hi : i < σ.length := (List.getElem?_eq_some_iff.mp hv).1
            have := (List.getElem?_eq_some_iff.mp hv).2
            rw [← this]; exact List.set_getElem_self hi
          rw [e] at N'
          exact N'
def sAug (i : Nat) (op : Int → Int → Int) (f : Fe) : Fs := fun σ cs => match σ[i]? with
  | some (some (.int a)) => sOf (f σ cs) σ fun d c => match d with
    | .int b => .nx (σ.set i (some (.int (op a b)))) c
    | _ => .no
  | _ => .no
end
section
variable {X : Cx} {cm : Nat → Addr} {Y : WX} {e tg iter : Expr} {body : List Stmt} {ft : Ft} {fb : Fs} {pos : Pos}
def Yields (K : PySem.W.Frag) (cm : Nat → Addr) (W₀ : Wd) (ds : List D) (J : It) : Prop := ∀ (i : Nat) (W : Wd) (cs : List Cell) (H : Hp), W₀.le W ∨ (∃ a o, (W₀.pinned a o).le W) → Rel K cm W cs H →
  (∀ d, ds[i]? = some d → J.go i H ∧ ∀ x H', J.yld i H x H' → ∃ W', W.le W' ∧ Rel K cm W' cs H' ∧ Rp K cm W' d x) ∧ (ds[i]? = none → J.stop i H)
abbrev Fi := Sd → List Cell → Out (List D)
def PostI (K : PySem.W.Frag) (cm : Nat → Addr) (Y : WX) (σ : L2.St) (W : Wd) (r : Out (List D)) (Q : It → Hp → Prop) : Prop := match r with
  | .ok ds cs => ∀ W' H' J, W.le W' → Rel K cm W' cs H' → Yields K cm W' ds J → Q J H'
  | .ex x cs => Wish K cm Y σ W x cs
  | .no => False
theorem asksI {K : PySem.W.Frag} {W : Wd} {σ : L2.St} {Q : It → Hp → Prop} : Asks K cm Y σ W (fun r => PostI K cm Y σ W r Q) := ⟨fun h => h, fun _ _ h => h⟩
def wI (K : PySem.W.Frag) (cm : Nat → Addr) (Y : WX) (f : Fi) : TI := fun σ H Q => ∃ W σd cs, Rel K cm W cs H ∧ En K cm W σd σ ∧ PostI K cm Y σ W (f σd cs) Q
abbrev FI (X : Cx) (cm : Nat → Addr) (Y : WX) (tg iter : Expr) (f : Fi) : Prop := PI X tg iter (wI X.K cm Y f)
theorem PI.weak {t t' : TI} (h : PI X tg iter t) (m : ∀ σ H Q, t' σ H Q → t σ H Q) : PI X tg iter t' := ⟨fun pins s σ H Q I q => h.run pins s σ H Q I (m σ H Q q)⟩
theorem pin_le {W₀ W : Wd} (h : W₀.le W ∨ ∃ a o, (W₀.pinned a o).le W) : (∀ a o, W₀.G a = some o → W.G a = some o) ∧ ∀ (i : Nat) (a : Addr), W₀.r[i]? = some a → W.r[i]? = some a := by
  rcases h with h | ⟨a, o, h⟩
  · exact ⟨h.g, h.r⟩
  · exact ⟨h.g, h.r⟩
def iSeq (f : Fe) : Fi := fun σ cs => (f σ cs).bind fun d c => match d with
  | .lst xs => .ok xs c
  | .arg xs => .ok xs c
  | _ => .no
def iTupD (f : Fe) : Fi := fun σ cs => (f σ cs).bind fun d c => match d with
  | .tup xs => .ok xs c
  | .argT xs => .ok xs c
  | _ => .no
theorem get_lt {α : Type} {xs : List α} {i : Nat} {x : α} (h : xs[i]? = some x) : i < xs.length := (List.getElem?_eq_some_iff.mp h).1
variable {fe : Fe} {l : Expr}
theorem fi_list (hl : FE X cm Y l fe) : FI X cm Y tg l (iSeq fe) := PI.weak (pi_list hl) fun σ H Q ⟨W, σd, cs, R, N, P⟩ => by
  refine tE_go R N asksI P fun d c1 _ h1 W1 H1 v l1 R1 N1 r1 => ?_
  have fin : ∀ {a : Addr} {xs : List D} {vs : List V}, (∀ G' : Hp, (∀ a o, W1.G a = some o → G' a = some o) → SqL X.K G' a vs) → Rps X.K cm W1 xs vs → PostI X.K cm Y σ W (.ok xs c1) Q → ∃ b, V.ref a = .ref b ∧ (∃ ys, SqL X.K H1 b ys) ∧ Q (Itl X.K b) H1 := fun {a xs vs} g q h => by
    refine ⟨a, rfl, ⟨vs, g H1 R1.sub⟩, h W1 H1 _ l1 R1 fun i W2 cs2 H2 l2 R2 => ?_⟩
    obtain ⟨lg, lr⟩ := pin_le l2
    have s2 : SqL X.K H2 a vs := sqL_le R2.sub (g W2.G lg)
    refine ⟨fun d hd => ?_, fun hd => ⟨vs, s2, ?_⟩⟩
    · obtain ⟨x, hx, rx⟩ := q.get hd
      refine ⟨⟨vs, x, s2, hx⟩, fun y H3 z => ?_⟩
      obtain ⟨e, y3⟩ := z
      subst e
      have hy := y3 vs s2
      rw [hx] at hy
      cases hy
      exact ⟨W2, .refl W2, R2, rx.up' lg lr⟩
    · rw [← q.length]; exact List.getElem?_eq_none_iff.mp hd
  split at h1
  · cases r1 with
    | lst g q => exact fin (fun G' hg => SqL.of (hg _ _ g)) q h1
  · cases r1 with
    | arg g q => exact fin (fun G' hg => sqL_le hg g) q h1
  · exact h1.elim
theorem fi_tup (hl : FE X cm Y l fe) : FI X cm Y tg l (iTupD fe) := PI.weak (pi_tup hl) fun σ H Q ⟨W, σd, cs, R, N, P⟩ => by
  refine tE_go R N asksI P fun d c1 _ h1 W1 H1 v l1 R1 N1 r1 => ?_
  have fin : ∀ {a : Addr} {xs : List D} {vs : List V}, (∀ G' : Hp, (∀ a o, W1.G a = some o → G' a = some o) → SqT X.K G' a vs) → Rps X.K cm W1 xs vs → PostI X.K cm Y σ W (.ok xs c1) Q → ∃ b, V.ref a = .ref b ∧ (∃ ys, SqT X.K H1 b ys) ∧ Q (Itt X.K b) H1 := fun {a xs vs} g q h => by
    refine ⟨a, rfl, ⟨vs, g H1 R1.sub⟩, h W1 H1 _ l1 R1 fun i W2 cs2 H2 l2 R2 => ?_⟩
    obtain ⟨lg, lr⟩ := pin_le l2
    have s2 : SqT X.K H2 a vs := sqT_le R2.sub (g W2.G lg)
    refine ⟨fun d hd => ?_, fun hd => ⟨vs, s2, ?_⟩⟩
    · obtain ⟨x, hx, rx⟩ := q.get hd
      refine ⟨⟨vs, x, s2, hx⟩, fun y H3 z => ?_⟩
      obtain ⟨e, y3⟩ := z
      subst e
      have hy := y3 vs s2
      rw [hx] at hy
      cases hy
      exact ⟨W2, .refl W2, R2, rx.up' lg lr⟩
    · rw [← q.length]; exact List.getElem?_eq_none_iff.mp hd
  split at h1
  · cases r1 with
    | tup g q => exact fin (fun G' hg => SqT.of (hg _ _ g)) q h1
  · cases r1 with
    | argT g q => exact fin (fun G' hg => sqT_le hg g) q h1
  · exact h1.elim
def rngD (lo : Int) (n : Nat) : List D := (List.range n).map fun i : Nat => D.int (lo + i)
theorem yields_rng {K : PySem.W.Frag} {W : Wd} (lo : Int) (n : Nat) : Yields K cm W (rngD lo n) (Itr lo n) := fun i W2 cs2 H2 l2 R2 => by
  refine ⟨fun d hd => ?_, fun hd => ?_⟩
  · have hi : i < n := by have := get_lt hd; unfold rngD at this; simpa using this
    refine ⟨hi, fun y H3 z => ?_⟩
    obtain ⟨e, y3⟩ := z
    subst e y3
    unfold rngD at hd
    rw [List.getElem?_map, List.getElem?_range hi] at hd
    cases hd
    exact ⟨W2, .refl W2, R2, .int _⟩
  · have := List.getElem?_eq_none_iff.mp hd
    unfold rngD at this
    show n ≤ i
    simpa using this
def iRg1 (f : Fa) : Fi := fun σ cs => (f σ cs).bind fun ds c => match ds with
  | [.int j] => if -(2 ^ 62) ≤ j ∧ j < 2 ^ 62 then .ok (rngD 0 j.toNat) c else .no
  | _ => .no
def iRg2 (f : Fa) : Fi := fun σ cs => (f σ cs).bind fun ds c => match ds with
  | [.int i, .int j] => if -(2 ^ 62) ≤ i ∧ i < 2 ^ 62 ∧ -(2 ^ 62) ≤ j ∧ j < 2 ^ 62 then .ok (rngD i (j - i).toNat) c else .no
  | _ => .no
theorem fi_range1 {a : Expr} {fa : Fa} {p : Pos} (hm : X.mg "range" = none) (ha : FA X cm Y [a] fa) (hg : Gl X "range" := by rfl) (hs : starEach [a] X.env = [(false, eval a X.env)] := by rfl) : FI X cm Y tg (.Call (.Name "range" p) [a] [] pos) (iRg1 fa) := PI.weak (pi_range1 hg hm ha hs) fun σ H Q ⟨W, σd, cs, R, N, P⟩ => by
  refine tA_go R N asksI P fun d c1 _ h1 W1 H1 v l1 R1 N1 r1 => ?_
  split at h1
  · split at h1
    · rename_i hb
      obtain ⟨x, rfl, q⟩ := r1.one
      cases q
      exact ⟨_, rfl, hb.1, hb.2, h1 W1 H1 _ l1 R1 (yields_rng 0 _)⟩
    · exact h1.elim
  · exact h1.elim
def forL (g : Gt) (fb : Fs) : List D → Fs
  | [] => fun σ c => .nx σ c
  | d :: ds => fun σ c => match g d σ c with
    | none => .no
    | some σ1 => match fb σ1 c with
      | .nx σ2 c2 => forL g fb ds σ2 c2
      | .ct σ2 c2 => forL g fb ds σ2 c2
      | .bk σ2 c2 => .nx σ2 c2
      | r => r
def sFor (f : Fi) (g : Gt) (fb : Fs) : Fs := fun σ cs => sOf (f σ cs) σ fun ds c => forL g fb ds σ c
theorem fs_for {f : Fi} {js : List Nat} {g : Gt} (hp : PassesOwn (model X.prog X.w) X.A X.env X.xe) (hc : X.calm = true) (hi : FI X cm Y tg iter f) (hg : FG X cm tg js g) (hb : FSs X cm Y body fb)
    (hs : ∀ x, foldedSetIterable iter X.env x = pure x := by intro _; rfl) : FS X cm Y (.For tg iter body [] pos) (sFor f g fb) := PS.weak (ps_for hp hc hi hg hb hs) fun E σ H ⟨W, σd, cs, R, N, P⟩ => by
  refine ⟨W, σd, cs, R, N, ?_⟩
  unfold sFor at P
  cases e : f σd cs with
  | no => rw [e] at P; exact P.elim
  | ex x c => rw [e] at P; exact fun W' H' dd l R' p => P W' H' σ dd l R' (N.up l) p
  | ok ds c1 =>
    rw [e] at P
    intro W1 H1 J l1 R1 yl
    refine ⟨fun i m σ H => m = ds.length - i ∧ ∃ W2 σ2 c2, W1.le W2 ∧ Rel X.K cm W2 c2 H ∧ En X.K cm W2 σ2 σ ∧ PostS X.K cm Y W2 (forL g fb (ds.drop i) σ2 c2) E, ⟨_, rfl, W1, σd, c1, .refl W1, R1, N.up l1, by rw [List.drop_zero]; exact PostS.up l1 P⟩, ?_⟩
    rintro i m σ H ⟨rfl, W2, σ2, c2, l2, R2, N2, P2⟩
    obtain ⟨y1, y2⟩ := yl i W2 c2 H (.inl l2) R2
    cases hd : ds[i]? with
    | none =>
      refine .inl ⟨y2 hd, ?_⟩
      rw [List.drop_eq_nil_of_le (List.getElem?_eq_none_iff.mp hd)] at P2
      exact P2 W2 H σ (.refl W2) R2 N2
    | some d =>
      obtain ⟨go, y3⟩ := y1 d hd
      have hlt := get_lt hd
      refine .inr ⟨go, fun σ' H' => ∃ W2 σ2 c2, W1.le W2 ∧ Rel X.K cm W2 c2 H' ∧ En X.K cm W2 σ2 σ' ∧ PostS X.K cm Y W2 (forL g fb (ds.drop (i + 1)) σ2 c2) E, fun σ' H' z => ⟨ds.length - (i + 1), by omega, rfl, z⟩, fun x H' yy => ?_⟩
      obtain ⟨W3, l3, R3, r3⟩ := y3 x H' yy
      have ed : ds.drop i = d :: ds.drop (i + 1) := by
        rw [List.drop_eq_getElem_cons hlt]
        rw [List.getElem?_eq_getElem hlt] at hd
        cases hd; rfl
      rw [ed] at P2
      have P3 : PostS X.K cm Y W2 (match g d σ2 c2 with
        | none => .no
        | some σ1 => match fb σ1 c2 with
          | .nx σ2 c2 => forL g fb (ds.drop (i + 1)) σ2 c2
          | .ct σ2 c2 => forL g fb (ds.drop (i + 1)) σ2 c2
          | .bk σ2 c2 => .nx σ2 c2
          | r => r) E := P2
      cases q : g d σ2 c2 with
      | none => rw [q] at P3; exact P3.elim
      | some σ3 =>
        rw [q] at P3
        refine ⟨W3, σ2, c2, d, σ3, R3, N2.up l3, r3, q, fun σ4 N4 _ => ⟨W3, σ3, c2, R3, N4, ?_⟩⟩
        have P4 : PostS X.K cm Y W2 (match fb σ3 c2 with
          | .nx σ2 c2 => forL g fb (ds.drop (i + 1)) σ2 c2
          | .ct σ2 c2 => forL g fb (ds.drop (i + 1)) σ2 c2
          | .bk σ2 c2 => .nx σ2 c2
          | r => r) E := P3
        cases q2 : fb σ3 c2 with
        | nx σ' c' => rw [q2] at P4; exact fun W5 H5 σ5 l5 R5 N5 => ⟨W5, σ', c', (l2.trans l3).trans l5, R5, N5, PostS.up (l3.trans l5) P4⟩
        | ct σ' c' => rw [q2] at P4; exact fun W5 H5 σ5 l5 R5 N5 => ⟨W5, σ', c', (l2.trans l3).trans l5, R5, N5, PostS.up (l3.trans l5) P4⟩
        | bk σ' c' => rw [q2] at P4; exact fun W5 H5 σ5 l5 R5 N5 => P4 W5 H5 σ5 (l3.trans l5) R5 N5
        | rt d c' => rw [q2] at P4; exact fun W5 H5 v l5 R5 r5 => P4 W5 H5 v (l3.trans l5) R5 r5
        | ex x σ' c' => rw [q2] at P4; exact fun W5 H5 σ5 dd l5 R5 N5 p => P4 W5 H5 σ5 dd (l3.trans l5) R5 N5 p
        | no => rw [q2] at P4; exact P4.elim
end
end PV
namespace PV
open PySem PySem.Spec PyProof.Rows L2
def wipeD (σ : Sd) : List Nat → Sd
  | [] => σ
  | v :: vs => (wipeD σ vs).set v none
theorem En.up' {K : PySem.W.Frag} {cm : Nat → Addr} {W W' : Wd} (lg : ∀ a o, W.G a = some o → W'.G a = some o) (lr : ∀ (i : Nat) (a : Addr), W.r[i]? = some a → W'.r[i]? = some a) {σd : Sd} {σ : L2.St} (h : En K cm W σd σ) : En K cm W' σd σ :=
  ⟨h.len, fun i d e => let ⟨v, a, b⟩ := h.at_ i d e; ⟨v, a, b.up' lg lr⟩⟩
theorem En.wipe {K : PySem.W.Frag} {cm : Nat → Addr} {W : Wd} {σd : Sd} {σ : L2.St} (h : En K cm W σd σ) : ∀ vs, En K cm W (wipeD σd vs) (wipe σ vs)
  | [] => h
  | v :: vs => by
    have ih := En.wipe h vs
    refine ⟨?_, fun i d e => ?_⟩
    · show ((wipeD σd vs).set v none).length = ((L2.wipe σ vs).set v none).length
      rw [List.length_set, List.length_set]; exact ih.len
    · have e' : ((wipeD σd vs).set v none)[i]? = some (some d) := e
      show ∃ w, ((L2.wipe σ vs).set v none)[i]? = some (some w) ∧ _
      by_cases q : i = v
      · subst q
        have lt : i < (wipeD σd vs).length := by
          have := get_lt e'
          rw [List.length_set] at this; exact this
        rw [List.getElem?_set_self lt] at e'
        cases e'
      · rw [List.getElem?_set_ne (Ne.symm q)] at e' ⊢
        exact ih.at_ i d e'
def lcM (g : Gt) (ft : Ft) (fe : Fe) (σ : Sd) : List D → List Cell → Out (List D)
  | [], c => .ok [] c
  | d :: ds, c => match g d σ c with
    | none => .no
    | some σ1 => match ft σ1 c with
      | .ok true c1 => match fe σ1 c1 with
        | .ok y c2 => (lcM g ft fe σ ds c2).bind fun ys c3 => .ok (y :: ys) c3
        | _ => .no
      | .ok false c1 => lcM g ft fe σ ds c1
      | _ => .no
def lcE (fz : Bool) (r : Out (List D)) : Out D := match r with
  | .ok xs c => if xs.length ≤ sizeLine then up (mkL fz xs c) else .no
  | _ => .no
def fLc (fz : Bool) (fi : Fi) (g : Gt) (ft : Ft) (fe : Fe) (vs : List Nat) : Fe := fun σ cs => (fi σ cs).bind fun ds c => lcE fz (lcM g ft fe (wipeD σ vs) ds c)
abbrev FTs (X : Cx) (cm : Nat → Addr) (Y : WX) (ifs : List Expr) (f : Ft) : Prop := PTs X ifs (tT X.K cm Y f)
theorem PTs.weak {X : Cx} {ifs : List Expr} {t t' : TT} (h : PTs X ifs t) (m : ∀ σ H Q, t' σ H Q → t σ H Q) : PTs X ifs t' := ⟨fun pins s σ H Q I q => h.run pins s σ H Q I (m σ H Q q)⟩
abbrev yNo : WX := fun _ _ _ _ => False
section
variable {X : Cx} {cm : Nat → Addr} {Y : WX} {elt tg iter : Expr} {ifs : List Expr} {scope : Scope} {own : List (Str × Nat)} {pos : Pos} {fi : Fi} {g : Gt} {ft : Ft} {fe : Fe}
theorem fts_nil : FTs X cm Y [] (fun _ c => .ok true c) := PTs.weak pts_nil fun σ H Q ⟨W, σd, cs, R, N, P⟩ => P W H (.refl W) R
theorem fts_one {c : Expr} (h : FT X cm Y c ft) : FTs X cm Y [c] ft := pts_one h
theorem lc_go (fz : Bool) {js vs : List Nat} {K : PySem.W.Frag} (hj : ∀ j ∈ js, j ∈ vs) {σ : L2.St} {H : Hp} {Q : VK} (m : tE K cm Y (fLc fz fi g ft fe vs) σ H Q) :
    tLc (wI K cm Y fi) (tG K cm js g) (tT K cm yNo ft) (tE K cm yNo fe) vs σ H Q := by
  obtain ⟨W, σd, cs, R, N, P⟩ := m
  refine ⟨W, σd, cs, R, N, ?_⟩
  unfold fLc at P
  cases e : fi σd cs with
  | no => rw [e] at P; exact P.elim
  | ex x c => rw [e] at P; exact P
  | ok ds c1 =>
    rw [e] at P
    intro W1 H1 J l1 R1 yl D0 hD
    have hn : ∀ p ∈ W1.pn, p.1 ≠ D0 := fun p hp => ne_of_none (R1.pin p hp).1 hD
    have P1 : PostE K cm Y σ W1 (lcE fz (lcM g ft fe (wipeD σd vs) ds c1)) Q := PostE.up l1 P
    refine ⟨fun i m H => m = ds.length - i ∧ ∃ G2 r2 c2 acc accD rest c', (W1.pinned D0 (.lst acc)).le ((⟨G2, r2, W1.pn⟩ : Wd).pinned D0 (.lst acc)) ∧ Rel K cm ((⟨G2, r2, W1.pn⟩ : Wd).pinned D0 (.lst acc)) c2 H ∧ Rps K cm ((⟨G2, r2, W1.pn⟩ : Wd).pinned D0 (.lst acc)) accD acc ∧
      lcM g ft fe (wipeD σd vs) (ds.drop i) c2 = .ok rest c' ∧ (accD ++ rest).length ≤ sizeLine ∧ PostE K cm Y σ W1 (up (mkL fz (accD ++ rest) c')) Q, ⟨ds.length, by simp, ?_⟩, ?_⟩
    · unfold lcE at P1
      split at P1
      · rename_i xs c' ex
        split at P1
        · rename_i hl
          exact ⟨W1.G, W1.r, c1, [], [], xs, c', Wd.le.refl _, R1.pinUp hD, .nil, by rw [List.drop_zero]; exact ex, hl, P1⟩
        · exact P1.elim
      · exact P1.elim
    · rintro i m H2 ⟨rfl, G2, r2, c2, acc, accD, rest, c', l2, R2, q2, e2, hl, P2⟩
      obtain ⟨y1, y2⟩ := yl i _ c2 H2 (.inr ⟨D0, .lst acc, l2⟩) R2
      cases hd : ds[i]? with
      | none =>
        refine .inl ⟨y2 hd, ?_⟩
        rw [List.drop_eq_nil_of_le (List.getElem?_eq_none_iff.mp hd)] at e2
        cases e2
        rw [List.append_nil] at P2
        have P3 := PostE.down P2
        obtain ⟨d, c, e3, k⟩ := P3
        have lb : W1.le ⟨G2, r2, W1.pn⟩ := ⟨l2.g, l2.r, rfl⟩
        cases fz with
        | true =>
          cases e3
          obtain ⟨l4, R4⟩ := Rel.pinG (W := ⟨G2, r2, W1.pn⟩) hn R2
          exact k _ _ _ (lb.trans l4) R4 (.lst upd_same (Rps.up' (W := (⟨G2, r2, W1.pn⟩ : Wd).pinned D0 (.lst acc)) (W' := ⟨upd G2 D0 (.lst acc), r2, W1.pn⟩) l4.g l4.r q2))
        | false =>
          cases e3
          obtain ⟨l4, R4, e4⟩ := Rel.pinC (W := ⟨G2, r2, W1.pn⟩) (c := .lst accD) hn R2 ⟨rfl, acc, rfl, Rps.up' (W := (⟨G2, r2, W1.pn⟩ : Wd).pinned D0 (.lst acc)) (W' := ⟨G2, r2, W1.pn⟩) (fun _ _ h => h) (fun _ _ h => h) q2⟩
          exact k _ _ _ (lb.trans l4) R4 (.ref e4)
      | some d =>
        obtain ⟨go, y3⟩ := y1 d hd
        have hlt := get_lt hd
        refine .inr ⟨go, _, fun H' z => ⟨ds.length - (i + 1), by omega, rfl, z⟩, fun x H' yy => ?_⟩
        obtain ⟨W3, l3, R3, r3⟩ := y3 x H' yy
        have ed : ds.drop i = d :: ds.drop (i + 1) := by
          rw [List.drop_eq_getElem_cons hlt]
          rw [List.getElem?_eq_getElem hlt] at hd
          cases hd; rfl
        rw [ed] at e2
        have N3 : En K cm W3 (wipeD σd vs) (L2.wipe σ vs) := (N.wipe vs).up' (fun a o h => l3.g a o (l2.g a o (l1.g a o h))) (fun i a h => l3.r i a (l2.r i a (l1.r i a h)))
        have fin : ∀ {W5 : Wd} {c5 : List Cell} {H5 : Hp} {accD' : List D} {acc' : List V} {rest' : List D}, (W1.pinned D0 (.lst acc')).le W5 → Rel K cm W5 c5 H5 → Rps K cm W5 accD' acc' → lcM g ft fe (wipeD σd vs) (ds.drop (i + 1)) c5 = .ok rest' c' →
            (accD' ++ rest').length ≤ sizeLine → PostE K cm Y σ W1 (up (mkL fz (accD' ++ rest') c')) Q → ∃ G2 r2 c2 acc accD rest c', (W1.pinned D0 (.lst acc)).le ((⟨G2, r2, W1.pn⟩ : Wd).pinned D0 (.lst acc)) ∧ Rel K cm ((⟨G2, r2, W1.pn⟩ : Wd).pinned D0 (.lst acc)) c2 H5 ∧ Rps K cm ((⟨G2, r2, W1.pn⟩ : Wd).pinned D0 (.lst acc)) accD acc ∧
            lcM g ft fe (wipeD σd vs) (ds.drop (i + 1)) c2 = .ok rest c' ∧ (accD ++ rest).length ≤ sizeLine ∧ PostE K cm Y σ W1 (up (mkL fz (accD ++ rest) c')) Q := fun {W5 c5 H5 accD' acc' rest'} l5 R5 q5 e5 h5 P5 => by
          obtain ⟨G5, r5, pn5⟩ := W5
          have ep : pn5 = (D0, .lst acc') :: W1.pn := l5.p
          subst ep
          exact ⟨G5, r5, c5, acc', accD', rest', c', l5, R5, q5, e5, h5, P5⟩
        unfold lcM at e2
        cases eg : g d (wipeD σd vs) c2 with
        | none => rw [eg] at e2; cases e2
        | some σ1 =>
          rw [eg] at e2
          refine ⟨W3, wipeD σd vs, c2, d, σ1, R3, N3, r3, eg, fun σ2 N4 w4 => ⟨?_, ?_⟩⟩
          · have ww : ∀ (l : List Nat) (τ : L2.St), L2.wipe (L2.wipe τ vs) vs = L2.wipe τ vs := fun _ τ => by
              have set_idem : ∀ (l : List Nat) (τ : L2.St) (j : Nat), j ∈ l → (L2.wipe τ l).set j none = L2.wipe τ l := by
                intro l
                induction l with
                | nil => intro τ j h; cases h
                | cons a l ih =>
                  intro τ j h
                  show ((L2.wipe τ l).set a none).set j none = (L2.wipe τ l).set a none
                  by_cases q : j = a
                  · subst q; rw [List.set_set]
                  · have hj' : j ∈ l := by
                      rcases List.mem_cons.mp h with z | z
                      · exact absurd z q
                      · exact z
                    rw [List.set_comm _ _ (Ne.symm q), ih τ j hj']
              have all : ∀ l' : List Nat, (∀ j ∈ l', j ∈ vs) → L2.wipe (L2.wipe τ vs) l' = L2.wipe τ vs := by
                intro l'
                induction l' with
                | nil => intro _; rfl
                | cons a l' ih =>
                  intro h
                  show (L2.wipe (L2.wipe τ vs) l').set a none = _
                  rw [ih fun j hj => h j (List.mem_cons_of_mem _ hj)]
                  exact set_idem vs τ a (h a List.mem_cons_self)
              exact all vs fun j hj => hj
            have := w4 vs hj
            rw [ww vs σ] at this
            exact this
          · have e3 : (match ft σ1 c2 with
              | .ok true c1 => match fe σ1 c1 with
                | .ok y c2 => (lcM g ft fe (wipeD σd vs) (ds.drop (i + 1)) c2).bind fun ys c3 => .ok (y :: ys) c3
                | _ => .no
              | .ok false c1 => lcM g ft fe (wipeD σd vs) (ds.drop (i + 1)) c1
              | _ => .no) = .ok rest c' := e2
            refine ⟨W3, σ1, c2, R3, N4, ?_⟩
            cases et : ft σ1 c2 with
            | no => rw [et] at e3; cases e3
            | ex x c => rw [et] at e3; cases e3
            | ok b c3 =>
              rw [et] at e3
              intro W4 H4 l4 R4
              have l24 := (l2.trans l3).trans l4
              cases b with
              | false =>
                refine iteF ?_
                exact fin l24 R4 (q2.up' (fun a o h => l4.g a o (l3.g a o h)) (fun i a h => l4.r i a (l3.r i a h))) e3 hl P2
              | true =>
                refine iteT ⟨W4, σ1, c3, R4, N4.up l4, ?_⟩
                have e4 : (match fe σ1 c3 with
                  | .ok y c2 => (lcM g ft fe (wipeD σd vs) (ds.drop (i + 1)) c2).bind fun ys c3 => .ok (y :: ys) c3
                  | _ => .no) = .ok rest c' := e3
                cases ee : fe σ1 c3 with
                | no => rw [ee] at e4; cases e4
                | ex x c => rw [ee] at e4; cases e4
                | ok y c4 =>
                  rw [ee] at e4
                  intro W5 H5 v l5 R5 r5
                  have l25 := l24.trans l5
                  have hpin := R5.pin (D0, .lst acc) (by rw [l25.p]; exact List.mem_cons_self)
                  have e5 : (lcM g ft fe (wipeD σd vs) (ds.drop (i + 1)) c4).bind (fun ys c3 => .ok (y :: ys) c3) = .ok rest c' := e4
                  cases e6 : lcM g ft fe (wipeD σd vs) (ds.drop (i + 1)) c4 with
                  | no => rw [e6] at e5; cases e5
                  | ex x c => rw [e6] at e5; cases e5
                  | ok ys c5 =>
                    rw [e6] at e5
                    cases e5
                    have qacc := q2.up' (W' := W5) (fun a o h => l5.g a o (l4.g a o (l3.g a o h))) (fun i a h => l5.r i a (l4.r i a (l3.r i a h)))
                    refine ⟨acc, hpin.1, ?_, ?_⟩
                    · rw [← qacc.length]
                      rw [List.length_append, List.length_cons] at hl
                      omega
                    · obtain ⟨G5, r5', pn5⟩ := W5
                      have ep : pn5 = (D0, .lst acc) :: W1.pn := l25.p
                      subst ep
                      have R6 := Rel.pinSet (W := ⟨G5, r5', W1.pn⟩) (o' := .lst (acc ++ [v])) hn R5
                      refine ⟨G5, r5', c4, acc ++ [v], accD ++ [y], ys, _, ⟨l25.g, l25.r, rfl⟩, R6, ?_, e6, ?_, ?_⟩
                      · exact Rps.up' (W := (⟨G5, r5', W1.pn⟩ : Wd).pinned D0 (.lst acc)) (W' := (⟨G5, r5', W1.pn⟩ : Wd).pinned D0 (.lst (acc ++ [v]))) (fun _ _ h => h) (fun _ _ h => h) (qacc.app (.cons r5 .nil))
                      · rw [List.append_assoc]; exact hl
                      · rw [List.append_assoc]; exact P2
theorem fe_lc (fz : Bool) {js : List Nat} (hc : X.calm = true) (hN : X.N.Nodup) (hi : FI X cm Y tg iter fi) (ok : BlkOk X.N X.env.scope scope own)
    (hg : ∀ (s : Shared) (H : Hp) (C : Addr) (cl : List (Str × Addr)) (fp : List Addr), FG (X.blk s H scope (compEnvC scope cl C X.env) fp) cm tg js g)
    (ht : ∀ (s : Shared) (H : Hp) (C : Addr) (cl : List (Str × Addr)) (fp : List Addr), FTs (X.blk s H scope (compEnvC scope cl C X.env) fp) cm yNo ifs ft)
    (he : ∀ (s : Shared) (H : Hp) (C : Addr) (cl : List (Str × Addr)) (fp : List Addr), FE (X.blk s H scope (compEnvC scope cl C X.env) fp) cm yNo elt fe)
    (hj : ∀ j ∈ js, j ∈ own.map (·.2)) (hs : ∀ x, foldedSetIterable iter X.env x = pure x := by intro _; rfl) : FE X cm Y (.ListComp elt [⟨tg, iter, ifs, 0⟩] scope pos) (fLc fz fi g ft fe (own.map (·.2))) :=
  PE.weak (pe_lc hc hN hi ok hg ht he hs) fun _ _ _ => lc_go fz hj
def enD : Nat → List D → List D
  | _, [] => []
  | i, d :: ds => .tup [.int (i : Nat), d] :: enD (i + 1) ds
theorem enD_get : ∀ {ds : List D} {k i : Nat} {e : D}, (enD k ds)[i]? = some e → ∃ d, ds[i]? = some d ∧ e = .tup [.int ((k + i : Nat) : Int), d]
  | d :: ds, k, 0, e, h => by
    unfold enD at h
    simp at h
    exact ⟨d, rfl, h.symm⟩
  | d :: ds, k, i + 1, e, h => by
    unfold enD at h
    rw [List.getElem?_cons_succ] at h
    obtain ⟨d', h1, h2⟩ := enD_get h
    exact ⟨d', by simpa using h1, by rw [h2, show k + 1 + i = k + (i + 1) by omega]⟩
theorem enD_len : ∀ {ds : List D} {k : Nat}, (enD k ds).length = ds.length
  | [], _ => rfl
  | d :: ds, k => by
    show (enD (k + 1) ds).length + 1 = ds.length + 1
    rw [enD_len]
def iEnm (f : Fa) : Fi := fun σ cs => (f σ cs).bind fun ds c => match ds with
  | [.lst xs] => .ok (enD 0 xs) c
  | _ => .no
theorem tup2 {K : PySem.W.Frag} {W : Wd} {H : Hp} {cs : List Cell} (R : Rel K cm W cs H) {T : Addr} (hT : H T = none) {a b : D} {x y : V} (r1 : Rp K cm W a x) (r2 : Rp K cm W b y) : ∃ W', W.le W' ∧ Rel K cm W' cs (upd H T (.tup [x, y])) ∧ Rp K cm W' (.tup [a, b]) (.ref T) := by
  obtain ⟨le, R'⟩ := R.newG (.tup [x, y]) hT
  exact ⟨_, le, R', .tup upd_same (.cons (r1.up le) (.cons (r2.up le) .nil))⟩
theorem fi_enum {e : Expr} {fa : Fa} {p tpos : Pos} {elts : List Expr} {kk : Nat} (hm : X.mg "enumerate" = none) (ha : FA X cm Y [e] fa) (hg : Gl X "enumerate" := by rfl) (hs : starEach [e] X.env = [(false, eval e X.env)] := by rfl) :
    FI X cm Y (.Tuple elts kk tpos) (.Call (.Name "enumerate" p) [e] [] pos) (iEnm fa) := PI.weak (pi_enum hg hm ha hs) fun σ H Q ⟨W, σd, cs, R, N, P⟩ => by
  refine tA_go R N asksI P fun d c1 _ h1 W1 H1 v l1 R1 N1 r1 => ?_
  split at h1
  · obtain ⟨w, rfl, q⟩ := r1.one
    cases q with
    | @lst xs a vs g q =>
      refine ⟨a, vs, rfl, SqL.of (R1.sub _ _ g), h1 W1 H1 _ l1 R1 fun i W2 cs2 H2 l2 R2 => ?_⟩
      obtain ⟨lg, lr⟩ := pin_le l2
      have s2 : SqL X.K H2 a vs := SqL.of (R2.sub _ _ (lg _ _ g))
      refine ⟨fun d hd => ?_, fun hd => ⟨vs, s2, ?_⟩⟩
      · obtain ⟨d', h2, rfl⟩ := enD_get hd
        obtain ⟨x, hx, rx⟩ := q.get h2
        refine ⟨⟨vs, x, s2, hx⟩, fun y H3 z => ?_⟩
        obtain ⟨T, x', rfl, hT, rfl, hq⟩ := z
        have hy := hq vs s2
        rw [hx] at hy
        cases hy
        rw [Nat.zero_add]
        exact tup2 R2 hT (.int _) (rx.up' lg lr)
      · rw [← q.length, ← enD_len (k := 0)]; exact List.getElem?_eq_none_iff.mp hd
  · exact h1.elim
def zpD : List D → List D → List D
  | a :: as, b :: bs => .tup [a, b] :: zpD as bs
  | _, _ => []
def iZp (f : Fa) : Fi := fun σ cs => (f σ cs).bind fun ds c => match ds with
  | [.lst xs, .lst ys] => .ok (zpD xs ys) c
  | [.tup xs, .tup ys] => .ok (zpD xs ys) c
  | _ => .no
theorem call_dRepr (hg : X.A.guards = some []) (hu : X.A.units + 200 < cLine) : CallR X (.builtin "repr") (rCa X.K cm dRepr) := by
  intro pins s σ H xs us Q I rx h
  obtain ⟨W, ds, cs, R, r, P⟩ := h
  unfold dRepr at P
  split at P
  · obtain ⟨v, rfl, q⟩ := r.one
    split at P
    · rename_i p e
      split at P
      · rename_i hp
        obtain ⟨h0, h1, h2, h3, h4⟩ := hp
        obtain ⟨u, rfl, ru⟩ := vals1 rx
        have dp := toP_ok R q e
        cases dp with
        | int i =>
          have l2 : i.natAbs.log2 < 1920 := by simpa [PyData.showable] using h1
          refine SkE.call_repr_int pins s σ H _ _ Q I (.cons ru .nil) ⟨i, rfl, l2, ?_⟩
          have := P.here R (.str _)
          simpa only [PyData.shown] using this
        | @lst a vs ps g hs =>
          obtain rfl : u = Value.ref a := ru
          obtain ⟨as, rd⟩ := Dp.reads I _ _ _ (Dp.lst g hs) rfl
          refine repr_of_reads' rd h1 (PyData.noDict_hsm h2) hg (by omega) (fun _ _ z => z) (fun h' u' tk hk => ?_) h4
          exact ⟨.str _, H, I.kept (t' := tk) hk, ⟨_, rfl⟩, P.here R (.str _)⟩
        | @tup a vs ps g hs =>
          obtain rfl : u = Value.ref a := ru
          obtain ⟨as, rd⟩ := Dp.reads I _ _ _ (Dp.tup g hs) rfl
          refine repr_of_reads' rd h1 (PyData.noDict_hsm h2) hg (by omega) (fun _ _ z => z) (fun h' u' tk hk => ?_) h4
          exact ⟨.str _, H, I.kept (t' := tk) hk, ⟨_, rfl⟩, P.here R (.str _)⟩
        | non => cases h0
        | bl b => cases h0
        | str x => cases h0
      · exact absurd rfl P.ne
    · exact absurd rfl P.ne
  · exact absurd rfl P.ne
inductive Kd where
  | ty (n : String) | cl (c : Nat)
def kdV (cm : Nat → Addr) : Kd → Value
  | .ty n => .type n
  | .cl c => .ref (cm c)
def kdOf (cs : List Cell) : D → Option Kd
  | .non => some (.ty "NoneType")
  | .bl _ => some (.ty "bool")
  | .int _ => some (.ty "int")
  | .str _ => some (.ty "str")
  | .tup _ => some (.ty "tuple")
  | .lst _ => some (.ty "list")
  | .dic _ => some (.ty "dict")
  | .ins c _ => some (.cl c)
  | .ref i => match cs[i]? with
    | some (.lst _) => some (.ty "list")
    | some (.ins c _) => some (.cl c)
    | _ => none
  | _ => none
structure InsOk (K : PySem.W.Frag) (C : Addr) : Prop where
  cl : Cls K C
  ha : PySem.W.findIn K (.ref C) "__class__" = some (some (.builtin "object.__class__"))
  hn : PySem.W.specialIn K (.builtin "object.__class__") "__get__" = some (some (.builtin "getset_descriptor.__get__"))
  ht : PySem.W.takesIn K (.builtin "object.__class__") = some true
  hm : PySem.W.mroIn K C (.type "object") = some true
structure Tab (K : PySem.W.Frag) (cm : Nat → Addr) (n : Nat) (tab : Kd → Kd → Option Bool) : Prop where
  ins : ∀ c, c < n → InsOk K (cm c)
  ans : ∀ a b r, tab a b = some r → PySem.W.kitOne K (kdV cm a) (kdV cm b) = some r
def okKd (n : Nat) : Kd → Bool
  | .ty _ => true
  | .cl c => decide (c < n)
def clsOf : D → Option Kd
  | .cl c => some (.cl c)
  | .ty n => some (.ty n)
  | _ => none
def clsOfs : List D → Option (List Kd)
  | [] => some []
  | d :: ds => match clsOf d, clsOfs ds with
    | some k, some ks => some (k :: ks)
    | _, _ => none
def anyTab (tab : Kd → Kd → Option Bool) (t : Kd) : List Kd → Option Bool
  | [] => some false
  | c :: r => match tab t c with
    | some true => some true
    | some false => anyTab tab t r
    | none => none
def dIsI (n : Nat) (tab : Kd → Kd → Option Bool) : GC := fun ds cs => match ds with
  | [x, .tup ts] => match kdOf cs x, clsOfs ts with
    | some k, some ks => if okKd n k = true then match anyTab tab k ks with
      | some b => some (.bl b, cs)
      | none => none
      else none
    | _, _ => none
  | [x, c] => match kdOf cs x, clsOf c with
    | some k, some k' => if okKd n k = true then match tab k k' with
      | some b => some (.bl b, cs)
      | none => none
      else none
    | _, _ => none
  | _ => none
theorem tyX_of {K : PySem.W.Frag} {n : Nat} {tab : Kd → Kd → Option Bool} (T : Tab K cm n tab) {W : Wd} {H : Hp} {cs : List Cell} (R : Rel K cm W cs H) {d : D} {v : V} {k : Kd} (r : Rp K cm W d v) (e : kdOf cs d = some k) (ok : okKd n k = true) : TyX K H v (kdV cm k) := by
  cases r with
  | non => cases e; exact .base .non
  | bl b => cases e; exact .base (.bl b)
  | int b => cases e; exact .base (.int b)
  | str b => cases e; exact .base (.str b)
  | tup g q => cases e; exact .base (.tup (R.sub _ _ g))
  | lst g q => cases e; exact .base (.lst (R.sub _ _ g))
  | arg g q => cases e
  | argT g q => cases e
  | dic g q => cases e; exact .base (.dK (R.sub _ _ g))
  | @ins c fs a dx vs g q =>
    cases e
    have i := T.ins c (by simpa [okKd] using ok)
    exact .base (.ins (R.sub _ _ g) i.cl i.ha i.hn i.ht i.hm)
  | @ref i a ei =>
    have e' : (match cs[i]? with
      | some (.lst _) => some (Kd.ty "list")
      | some (.ins c _) => some (.cl c)
      | _ => none) = some k := e
    split at e'
    · rename_i xs ec
      cases e'
      obtain ⟨_, ys, e2, q⟩ := R.cel i a _ ei ec
      exact .base (.lst e2)
    · rename_i c fs ec
      cases e'
      obtain ⟨_, dx, ys, e2, q⟩ := R.cel i a _ ei ec
      have io := T.ins c (by simpa [okKd] using ok)
      exact .base (.ins e2 io.cl io.ha io.hn io.ht io.hm)
    · cases e'
  | exn g => cases e
  | exw g _ _ => cases e
  | cl c => cases e
  | ty c => cases e
theorem cls_of {K : PySem.W.Frag} {W : Wd} {d : D} {v : V} {k : Kd} (r : Rp K cm W d v) (e : clsOf d = some k) : ClsV v (kdV cm k) := by
  cases r <;> first | (cases e; first | exact .own _ | exact .ty _) | cases e
theorem clss_of {K : PySem.W.Frag} {W : Wd} : ∀ {ds : List D} {vs : List V} {ks : List Kd}, Rps K cm W ds vs → clsOfs ds = some ks → Paired ClsV vs (ks.map (kdV cm))
  | _, _, _, .nil, e => by cases e; exact .nil
  | d :: ds, _, _, .cons h r, e => by
    unfold clsOfs at e
    split at e
    · rename_i k ks e1 e2
      cases e
      exact .cons (cls_of h e1) (clss_of r e2)
    · cases e
theorem anyTab_ok {K : PySem.W.Frag} {n : Nat} {tab : Kd → Kd → Option Bool} (T : Tab K cm n tab) {t : Kd} : ∀ {ks : List Kd} {b : Bool}, anyTab tab t ks = some b → PySem.W.kitAny K (kdV cm t) (ks.map (kdV cm)) = some b
  | [], b, e => by cases e; rfl
  | c :: r, b, e => by
    unfold anyTab at e
    show (match PySem.W.kitOne K (kdV cm t) (kdV cm c) with
      | some true => some true
      | some false => PySem.W.kitAny K (kdV cm t) (r.map (kdV cm))
      | none => none) = some b
    split at e
    · rename_i q; cases e; rw [T.ans _ _ _ q]
    · rename_i q; rw [T.ans _ _ _ q]; exact anyTab_ok T e
    · cases e
theorem call_dIsI {n : Nat} {tab : Kd → Kd → Option Bool} (T : Tab X.K cm n tab) : CallR X (.builtin "isinstance") (rCa X.K cm (dIsI n tab)) := by
  intro pins s σ H xs us Q I rx h
  obtain ⟨W, ds, cs, R, r, P⟩ := h
  unfold dIsI at P
  split at P
  · rename_i x ts
    obtain ⟨v, w, rfl, q1, q2⟩ := r.two
    split at P
    · rename_i k ks e1 e2
      split at P
      · rename_i ok
        split at P
        · rename_i b e3
          have ty := tyX_of T R q1 e1 ok
          cases q2 with
          | @tup _ tp ws g qs =>
            have cv := clss_of qs e2
            exact call_isiT pins s σ H _ us Q I rx ⟨v, tp, ws, kdV cm k, _, b, rfl, R.sub _ _ g, cv, ty, anyTab_ok T e3, P.here R (.bl _)⟩
        · exact absurd rfl P.ne
      · exact absurd rfl P.ne
    · exact absurd rfl P.ne
  · rename_i x c _
    obtain ⟨v, w, rfl, q1, q2⟩ := r.two
    split at P
    · rename_i k k' e1 e2
      split at P
      · rename_i ok
        split at P
        · rename_i b e3
          exact call_isi pins s σ H _ us Q I rx ⟨v, w, kdV cm k, kdV cm k', b, rfl, cls_of q2 e2, tyX_of T R q1 e1 ok, T.ans _ _ _ e3, P.here R (.bl _)⟩
        · exact absurd rfl P.ne
      · exact absurd rfl P.ne
    · exact absurd rfl P.ne
  · exact absurd rfl P.ne
end
end PV
namespace PV
open PySem PySem.Spec PyProof.Rows L2
abbrev GM := D → List D → List Cell → Rs D
def cellL (d : D) (cs : List Cell) : Option (Nat × List D) := match d with
  | .ref i => match cs[i]? with
    | some (.lst xs) => some (i, xs)
    | _ => none
  | _ => none
theorem cell_of {K : PySem.W.Frag} {cm : Nat → Addr} {W : Wd} {H : Hp} {cs : List Cell} (R : Rel K cm W cs H) {d : D} {v : V} {i : Nat} {xs : List D} (r : Rp K cm W d v) (h : cellL d cs = some (i, xs)) :
    ∃ a vs, v = .ref a ∧ H a = some (.lst vs) ∧ Rps K cm W xs vs ∧ W.r[i]? = some a ∧ cs[i]? = some (.lst xs) := by
  cases r with
  | @ref j a e =>
    have h' : (match cs[j]? with | some (.lst xs) => some (j, xs) | _ => none) = some (i, xs) := h
    split at h'
    · rename_i ys ec
      cases h'
      obtain ⟨_, vs, e2, q⟩ := R.cel _ a _ e ec
      exact ⟨a, vs, rfl, e2, q, e, ec⟩
    · cases h'
  | _ => cases h
theorem Rel.wrL {K : PySem.W.Frag} {cm : Nat → Addr} {W : Wd} {H : Hp} {cs : List Cell} (R : Rel K cm W cs H) {i : Nat} {a : Addr} {xs ys : List D} {us : List V} (hi : W.r[i]? = some a) (hc : cs[i]? = some (.lst xs)) (q : Rps K cm W ys us) :
    Rel K cm W (cs.set i (.lst ys)) (upd H a (.lst us)) := (R.setC (c' := .lst ys) (o := .lst us) hi hc (by simp) ⟨rfl, _, rfl, q⟩).2
def mAppend : GM := fun d as cs => match cellL d cs, as with
  | some (i, xs), [v] => if xs.length < sizeLine then some (.non, cs.set i (.lst (xs ++ [v]))) else none
  | _, _ => none
def mExtend : GM := fun d as cs => match cellL d cs, as with
  | some (i, xs), [v] => match lstOf cs v with
    | some ys => if xs.length + ys.length ≤ sizeLine then some (.non, cs.set i (.lst (xs ++ ys))) else none
    | none => none
  | _, _ => none
def mReverse : GM := fun d as cs => match cellL d cs, as with
  | some (i, xs), [] => some (.non, cs.set i (.lst xs.reverse))
  | _, _ => none
def mClear : GM := fun d as cs => match cellL d cs, as with
  | some (i, xs), [] => some (.non, cs.set i (.lst []))
  | _, _ => none
section
variable {X : Cx} {cm : Nat → Addr} {Y : WX}
theorem mt_dAppend : MtR X "list.append" (rMt X.K cm mAppend) := by
  intro pins s σ H x xs v us Q I rx ru h
  obtain ⟨W, d, ds, cs, R, r, rs, P⟩ := h
  unfold mAppend at P
  split at P
  · rename_i i ys w e
    split at P
    · rename_i hl
      obtain ⟨a, vs, rfl, h1, q, e1, e2⟩ := cell_of R r e
      obtain ⟨z, rfl, rz⟩ := rs.one
      exact mt_append pins s σ H _ _ v us Q I rx ru ⟨a, vs, z, rfl, rfl, h1, by rw [← q.length]; exact hl, P.here (R.wrL e1 e2 (q.app (.cons rz .nil))) .non⟩
    · exact absurd rfl P.ne
  · exact absurd rfl P.ne
def fLm (g : GM) (fo : Fe) (fa : Fa) : Fe := fun σ cs => (fo σ cs).bind fun d c1 => match cellL d c1 with
  | some _ => (fa σ c1).bind fun as c2 => up (g d as c2)
  | none => .no
variable {o e : Expr} {es : List Expr} {fo : Fe} {fa : Fa} {name : Str} {apos cpos : Pos} {id : String} {g : GM}
theorem fe_lm (slot : Slot "list" name id) (hty : typeOf (.builtin id) = pure (.type "method_descriptor")) (hm : MtR X id (rMt X.K cm g)) (ho : FE X cm Y o fo) (ha : FA X cm Y (e :: es) fa)
    (hbase : attributeBase o name X.env (eval o X.env) = eval o X.env := by rfl)
    (hfew : ((backTo cpos (starEach (e :: es) X.env)).all (fun x => !x.1) && (backToKw cpos (keywordEach [] X.env)).all (fun x => x.1.isSome)
      && decide ((e :: es).length + ([] : List Keyword).length + (if ([] : List Keyword).isEmpty then 0 else 1) < 30)) = true := by rfl)
    (hline : (apos.endLine == cpos.line) = true := by rfl) (hs : starEach (e :: es) X.env = (false, eval e X.env) :: starEach es X.env := by rfl) (hplain : (backTo cpos (starEach es X.env)).any (·.1) = false := by rfl) :
    FE X cm Y (.Call (.Attribute o name apos) (e :: es) [] cpos) (fLm g fo fa) := PE.weak (pe_bm PySem.F.plainAttrs_list slot hty hm ho ha hbase hfew hline hs hplain) fun σ H Q ⟨W, σd, cs, R, N, P⟩ => by
  refine tE_go R N asksE P fun d c1 _ h1 W1 H1 v l1 R1 N1 r1 => ?_
  split at h1
  · rename_i p ep
    obtain ⟨i, xs⟩ := p
    obtain ⟨a, vs, rfl, h2, q, e1, e2⟩ := cell_of R1 r1 ep
    refine ⟨.inl ⟨rfl, vs, SqL.of h2⟩, tA_go R1 N1 asksE (PostE.up l1 h1) fun as c2 _ h3 W2 H2 us l2 R2 N2 r2 => ?_⟩
    exact ⟨W2, d, as, c2, R2, r1.up l2, r2, (PostE.down h3).up l2⟩
  · exact h1.elim
end
section
variable {K : PySem.W.Frag} {cm : Nat → Addr} {x qual : Str} {params : Arguments} {body : List Stmt} {scope : Scope} {dvs : List V} {kws : List (Str × V)} {f : Addr} {fd : FuncData} {ps ks : List Str} {n : Nat}
theorem arg_all (F : FunD K x qual params body scope [] kws f fd) (hn : ps.length = n)
    (h : ∀ (kV doc pm : Value) (an : Option Addr) (cdv ct : Value) (us : List Value), us.length = ps.length → bindArgs (PySem.W.fnOf x qual params body scope .none kV doc pm an cdv ct) ⟨us, []⟩ = pure (ps.zip us)) : Arg K cm fd ps n [] (fun ds _ => ds) := by
  obtain ⟨oc, od, dV, kV, doc, pm, an, cdv, ct, osl, rfl, lk, hcd, hD, hK⟩ := F.ex
  rcases hD with ⟨_, rfl⟩ | ⟨e, _⟩
  · exact ⟨fun us _ => us, fun vs _ => vs, fun s us ws _ l1 _ => .of_eq (h kV doc pm an cdv ct us (by rw [hn]; exact l1)), fun r _ => r, fun r _ => r⟩
  · exact absurd rfl e
theorem arg_kw (F : FunD K x qual params body scope [] kws f fd) (g : {α : Type} → List α → List α → List α)
    (hg : ∀ {α β : Type} {S : α → β → Prop} {a : List α} {b : List β} {a' : List α} {b' : List β}, Paired S a b → Paired S a' b' → Paired S (g a a') (g b b'))
    (h : ∀ (kV doc pm : Value) (an : Option Addr) (cdv ct : Value) (us ws : List Value), us.length = n → ws.length = ks.length → bindArgs (PySem.W.fnOf x qual params body scope .none kV doc pm an cdv ct) ⟨us, ks.zip ws⟩ = pure (ps.zip (g us ws))) : Arg K cm fd ps n ks (fun ds es => g ds es) := by
  obtain ⟨oc, od, dV, kV, doc, pm, an, cdv, ct, osl, rfl, lk, hcd, hD, hK⟩ := F.ex
  rcases hD with ⟨_, rfl⟩ | ⟨e, _⟩
  · refine ⟨fun us ws => g us ws, fun vs zs => g vs zs, fun s us ws _ l1 l2 => .of_eq (h kV doc pm an cdv ct us ws l1 l2), fun r rz => hg r rz, fun {W ds vs es zs} r rz => ?_⟩
    have to : ∀ {ds : List D} {vs : List V}, Rps K cm W ds vs → Paired (Rp K cm W) ds vs := fun {ds vs} r => by
      induction ds generalizing vs with
      | nil => cases r; exact .nil
      | cons d ds ih => cases r with | cons h t => exact .cons h (ih t)
    have of : ∀ {ds : List D} {vs : List V}, Paired (Rp K cm W) ds vs → Rps K cm W ds vs := fun {ds vs} r => by
      induction ds generalizing vs with
      | nil => cases r; exact .nil
      | cons d ds ih => cases r with | cons h t => exact .cons h (ih t)
    exact of (hg (to r) (to rz))
  · exact absurd rfl e
theorem arg_dfl (F : FunD K x qual params body scope dvs kws f fd) (dds : List D) (hd : dvs ≠ []) (hdd : ∀ W, Rps K cm W dds dvs) (g : {α : Type} → List α → List α → List α → List α)
    (hg : ∀ {α β : Type} {S : α → β → Prop} {a : List α} {b : List β} {a' : List α} {b' : List β} {c : List α} {c' : List β}, Paired S a b → Paired S c c' → Paired S a' b' → Paired S (g a c a') (g b c' b'))
    (h : ∀ (T : Addr) (kV doc pm : Value) (an : Option Addr) (cdv ct : Value) (us its ws : List Value), us.length = n → its.length = dvs.length → ws.length = ks.length →
      ∃ k, bindArgs (PySem.W.fnOf x qual params body scope (.ref T) kV doc pm an cdv ct) ⟨us, ks.zip ws⟩ = seqItems? (.ref T) >>= k ∧ k (some its.toArray) = pure (ps.zip (g us its ws))) : Arg K cm fd ps n ks (fun ds es => g ds dds es) := by
  obtain ⟨oc, od, dV, kV, doc, pm, an, cdv, ct, osl, rfl, lk, hcd, hD, hK⟩ := F.ex
  rcases hD with ⟨e, _⟩ | ⟨_, T, o, its, m, rfl, lT, oT, rT⟩
  · exact absurd e hd
  · refine ⟨fun us ws => g us its ws, fun vs zs => g vs dvs zs, fun s us ws X l1 l2 => ?_, fun r rz => hg r rT rz, fun {W ds vs es zs} r rz => ?_⟩
    · obtain ⟨k, e1, e2⟩ := h T kV doc pm an cdv ct us its ws l1 rT.length.symm l2
      refine BindsTo.of_looks fun M => ?_
      rw [e1]
      exact looks_items X lT oT (.of_pure e2)
    · have to : ∀ {ds : List D} {vs : List V}, Rps K cm W ds vs → Paired (Rp K cm W) ds vs := fun {ds vs} r => by
        induction ds generalizing vs with
        | nil => cases r; exact .nil
        | cons d ds ih => cases r with | cons h t => exact .cons h (ih t)
      have of : ∀ {ds : List D} {vs : List V}, Paired (Rp K cm W) ds vs → Rps K cm W ds vs := fun {ds vs} r => by
        induction ds generalizing vs with
        | nil => cases r; exact .nil
        | cons d ds ih => cases r with | cons h t => exact .cons h (ih t)
      exact of (hg (to r) (to (hdd W)) (to rz))
theorem Vals.ints_of {ns : List Int} : ∀ {W : Wd}, Rps K cm W (ns.map D.int) (ns.map V.int) := fun {W} => by
  induction ns with
  | nil => exact .nil
  | cons n ns ih => exact .cons (.int n) ih
end
section
variable {P : Program} {w : World} {K : PySem.W.Frag} {mg mb : Str → Option Value} {cm : Nat → Addr} {k : Nat} {fa a : Addr} {fd : FuncData} {x : Str} {F : List D → List Cell → Out D} {s1 : Shared} {us : List Value} {ns : List Int}
theorem law_in (KX : K.In s1.heap) (hns : s1.heap.Ns mainGlobals mg) (hb : s1.heap.Ns builtinsNs mb) (hbb : ∀ x : Str, x ≠ "__name__" → mb x = bootBuiltins x) (hlim : s1.heap.NoLimit) (hg : s1.gens = #[])
    (ha : s1.heap.get? a = some { cls := .type "list", data := .seq us.toArray }) (hi : IntsAre us ns) (hl : ns.length ≤ sizeLine) (hr : Room k callerA)
    (B : ∀ base : Heap, K.In base → base.Ns mainGlobals mg → FnB P w K mg base cm k fa fd [x] F) (hbi : ∀ (s : Shared) (u : Value), BindsTo s fd ⟨[u], []⟩ [(x, u)])
    (hF : ∃ cs, F [.arg (ns.map D.int)] [] = .ok (.bl true) cs) :
    codeAny (model P w) callerA (.call (.ref fa) ⟨[.ref a], []⟩) (fun r s' => r = .ok (.ret (.bool true)) ∧ OldK s1.heap s'.heap ∧ s'.os = s1.os ∧ AllBare s'.gens) s1 := by
  have rv : Vals (ns.map V.int) us := vals_of_ints hi
  have go : ∀ H : Hp, Only H → SqL K H a (ns.map V.int) → HOk P w H s1.heap → (∀ c, H c ≠ none → c = a) → (H a ≠ none → K.lookup a = none) →
      codeAny (model P w) callerA (.call (.ref fa) ⟨[.ref a], []⟩) (fun r s' => r = .ok (.ret (.bool true)) ∧ OldK s1.heap s'.heap ∧ s'.os = s1.os ∧ AllBare s'.gens) s1 := by
    intro H hO hS hok hA hK
    have isNone : ∀ {c : Addr}, c ≠ a → H c = none := fun {c} h => by
      cases q : H c with
      | none => rfl
      | some u => exact absurd (hA c (by rw [q]; simp)) h
    have noD : ∀ {c : Addr} {o : Obj} {es : Array DictEntry} {ep : Nat}, s1.heap.get? c = some o → o.data = .dict es ep → H c = none := fun {c o es ep} e d => isNone fun z => by
      subst z
      rw [ha] at e
      cases e
      exact nomatch (show Data.seq us.toArray _ = Data.dict es ep from d)
    have nsH : ∀ {c : Addr} {m : Str → Option Value}, s1.heap.Ns c m → (hidT s1.heap H).Ns c m := fun {c m} h => by
      obtain ⟨o, es, ep, e, d, q⟩ := h
      exact ⟨o, es, ep, hidT_get e (noD e d), d, q⟩
    have kH : K.In (hidT s1.heap H) := fun c o e => hidT_get (KX c o e) (by
      by_cases z : c = a
      · subst z
        cases q : H c with
        | none => rfl
        | some u => rw [hK (by rw [q]; simp)] at e; cases e
      · exact isNone z)
    obtain ⟨mc, hc1, hc2⟩ := hlim
    have md : Mod K mg (hidT s1.heap H) := ⟨kH, nsH hns, ⟨mb, nsH hb, hbb⟩, mc, nsH hc1, hc2⟩
    have en : Env0 P w K mg (hidT s1.heap H) callerA [] s1 H := ⟨rfl, md, fun _ _ => of_hidT, Nat.le_of_eq (hidT_size s1.heap H), True.intro, (fun c hc => by cases hc), hok, .of_eq hg⟩
    obtain ⟨cs, eF⟩ := hF
    have R0 : Rel K cm ⟨H, [], []⟩ [] H := ⟨fun _ _ h => h, rfl, List.nodup_nil, fun c h => (by cases h), fun i c d h _ => (by simp at h), fun q hq => (by cases hq)⟩
    refine codeAny_mono (B _ kH (nsH hns) callerA [] s1 H ⟨[.ref a], []⟩ [.ref a] [.ref a] (fun v _ => v = .bl true) (fun _ _ _ => False) ⟨H, [], []⟩ [.arg (ns.map D.int)] [] hr rfl en (hbi s1 (.ref a)) (.cons rfl .nil) rfl R0 (.cons (.arg hS Vals.ints_of) .nil) ?_) fun r s' h => ?_
    · rw [eF]
      intro W' H' v _ _ r'
      cases r'
      rfl
    · cases r with
      | error e =>
        obtain ⟨_, _, _, _, _, _, _, _, _, _, _, _, z⟩ := h
        exact z.elim
      | ok fl =>
        cases fl with
        | ret u =>
          obtain ⟨v, H', os, bare, un, hok', r', q⟩ := h
          obtain rfl : v = .bl true := q
          obtain rfl : u = Value.bool true := r'
          refine ⟨rfl, OldK.of_keep fun c o e => ?_, os, bare⟩
          cases q : H c with
          | none => exact un.keep c o e q (fun z => by cases z) (fun z => by cases z)
          | some y =>
            rcases hO c with z | ⟨ob, xs, z⟩
            · rw [q] at z; cases z
            · obtain ⟨e1, _⟩ := hok c _ z
              obtain ⟨e2, _⟩ := hok' c _ (un.frzs c ob _ z)
              rw [e] at e1
              cases e1
              exact e2
        | next => exact h.elim
        | brk => exact h.elim
        | cont => exact h.elim
  by_cases hk : K.lookup a = none
  · let fz : HO := .frz { cls := .type "list", data := .seq us.toArray } (.lst (ns.map V.int))
    refine go (fun c => if c = a then some fz else none) (fun c => ?_) (.inl (.inr ⟨_, if_pos rfl⟩)) (fun c u z => ?_) (fun c z => ?_) fun _ => hk
    · by_cases q : c = a
      · exact .inr ⟨_, _, if_pos q⟩
      · exact .inl (if_neg q)
    · by_cases q : c = a
      · subst q
        have z' : some fz = some u := (if_pos rfl).symm.trans z
        cases z'
        exact ⟨ha, by rw [List.length_map]; exact hl, us, 0, rv, ha⟩
      · have z' : (none : Option HO) = some u := (if_neg q).symm.trans z
        cases z'
    · by_cases q : c = a
      · exact q
      · exact absurd (if_neg q) z
  · obtain ⟨o, eo⟩ := Option.ne_none_iff_exists'.mp hk
    have e := KX a o eo
    rw [ha] at e
    cases e
    refine go (fun _ => none) (fun _ => .inl rfl) (.inr ⟨_, us.toArray, _, eo, rfl, rfl, rfl, ?_, by simpa using rv⟩) (fun c u z => nomatch (show (none : Option HO) = some u from z)) (fun c z => absurd rfl z) fun z => absurd rfl z
    rw [List.size_toArray, ← rv.length, List.length_map]; exact hl
end
end PV
namespace PVH
open PySem PySem.Spec PyProof.Rows L2 PV
structure Fd where
  adr : PySem.W.Frag → Addr
  name : Str
  qual : Str
  st : Stmt
  dfl : List V
def Fd.seen (K : PySem.W.Frag) (d : Fd) : He.FnW := match K.lookup (d.adr K) with
  | some ⟨_, _, .func q, _⟩ => some (q.name, q.qualname, q.params, q.body, q.scope, q.globals, q.closure, q.builtins)
  | _ => none
def Fd.want (d : Fd) : He.FnW := some (d.name, d.qual, defArgs d.st, .stmts (defBody d.st), defScope d.st, mainGlobals, [], builtinsNs)
def Fd.good (K : PySem.W.Frag) (d : Fd) : Bool := PySem.W.keepIn K (.ref (d.adr K)) && (match K.lookup (d.adr K) with
  | some ⟨_, _, .func q, _⟩ => PySem.W.codeIn K q.code d.qual && (He.dflB K q.defaults d.dfl && He.kwdB K q.kwdefaults [])
  | _ => false)
theorem Fd.funD {K : PySem.W.Frag} {d : Fd} (e : d.seen K = d.want) (c : d.good K = true) : ∃ fd, FunD K d.name d.qual (defArgs d.st) (defBody d.st) (defScope d.st) d.dfl [] (d.adr K) fd := by
  obtain ⟨kp, c2⟩ := He.ba c
  unfold Fd.seen at e
  cases q : K.lookup (d.adr K) with
  | none =>
    rw [q] at c2; cases c2
  | some o =>
    obtain ⟨oc, od, dt, osl⟩ := o
    rw [q] at c2 e
    cases dt with
    | func fd =>
      obtain ⟨n1, n2, n3, n4, n5, n6, n7, n8, n9, n10, n11, n12, n13, n14, n15⟩ := fd
      unfold Fd.want at e
      simp only [Option.some.injEq, Prod.mk.injEq] at e
      obtain ⟨h1, h2, h3, h4, h5, h6, h7, h8⟩ := e
      subst h1 h2 h3 h4 h5 h6 h7 h8
      have c3 : (PySem.W.codeIn K n13 d.qual && (He.dflB K n8 d.dfl && He.kwdB K n9 [])) = true := c2
      obtain ⟨k1, k2⟩ := He.ba c3
      obtain ⟨k3, k4⟩ := He.ba k2
      exact ⟨_, ⟨oc, od, n8, n9, n10, n11, n12, n13, n14, osl, rfl, q, k1, He.dflB_ok k3, He.kwdB_ok k4⟩, kp⟩
    | _ => cases c2
def hd (o : Option (List Value)) : Addr := match o with
  | some (.ref a :: _) => a
  | _ => 0
def tl (o : Option (List Value)) : List Value := match o with
  | some (_ :: r) => r
  | _ => []
def tkV (o : Option (Option Value)) : Tok := match o with
  | some (some (.int _ t)) => t
  | some (some (.str _ t)) => t
  | _ => default
def cz (o : Option PySem.W.CFound) : Addr := match o with
  | some (.get _ (.ref z) _ _) => z
  | _ => 0
def eqC : PySem.W.CFound → PySem.W.CFound → Bool
  | .val a, .val b => decide (a = b)
  | .get a b c d, .get a' b' c' d' => decide (a = a') && (decide (b = b') && (decide (c = c') && decide (d = d')))
  | _, _ => false
theorem eqC_ok {x y : PySem.W.CFound} (h : eqC x y = true) : x = y := by
  cases x with
  | val a => cases y with
    | val b => exact congrArg _ (of_decide_eq_true h)
    | get _ _ _ _ => cases h
  | get a b c d => cases y with
    | val b => cases h
    | get a' b' c' d' =>
      obtain ⟨h1, h⟩ := He.ba h
      obtain ⟨h2, h⟩ := He.ba h
      obtain ⟨h3, h4⟩ := He.ba h
      rw [of_decide_eq_true h1, of_decide_eq_true h2, of_decide_eq_true h3, of_decide_eq_true h4]
def isC (o : Option PySem.W.CFound) (y : PySem.W.CFound) : Bool := match o with
  | some x => eqC x y
  | none => false
theorem isC_ok {o : Option PySem.W.CFound} {y : PySem.W.CFound} (h : isC o y = true) : o = some y := by
  cases o with
  | none => cases h
  | some x => exact congrArg some (eqC_ok h)
def look (ck : PySem.W.Frag → List Bool) (fn : List Fd) (K : PySem.W.Frag) : He.AlD := ((ck K).all id && fn.all (Fd.good K), fn.map (Fd.seen K))
def lookG (as : List Addr) (ck : PySem.W.Frag → List Bool) (fn : List Fd) (g : Addr → Option Obj) : He.AlD := look ck fn (He.frG g as)
def Says (ck : PySem.W.Frag → List Bool) (fn : List Fd) (K : PySem.W.Frag) : Prop := look ck fn K = (true, fn.map Fd.want)
def hook (as : List Addr) (ck : PySem.W.Frag → List Bool) (fn : List Fd) : PySem.W.Hook where
  α := He.AlD
  obs := fun s => lookG as ck fn s.heap.get?
  val := fun _ => (true, fn.map Fd.want)
  says := fun _ h => ∃ K : PySem.W.Frag, K.In h ∧ Says ck fn K
  of := fun _ _ e => ⟨_, He.frG_in, e⟩
  keeps := fun _ _ _ ⟨K, hK, c⟩ k => ⟨K, PySem.W.Frag.In.keeps hK k, c⟩
def ob (as : List Addr) (ck : PySem.W.Frag → List Bool) (fn : List Fd) (s : PySem.W.SharedT) : He.AlD := lookG as ck fn (HandSHeadRun.getT s)
theorem ob_eq (as : List Addr) (ck : PySem.W.Frag → List Bool) (fn : List Fd) (s : PySem.W.SharedT) : ob as ck fn s = (hook as ck fn).obs s.abs := by
  have e : HandSHeadRun.getT s = s.abs.heap.get? := funext (HandSHeadRun.getT_eq s)
  unfold ob
  rw [e] <;> rfl
section
variable {ck : PySem.W.Frag → List Bool} {fn : List Fd} {K : PySem.W.Frag}
theorem Says.at_ (c : Says ck fn K) (i : Nat) {b : Bool} (h : (ck K)[i]? = some b) : b = true := by
  have c1 := (He.ba (congrArg (fun z : He.AlD => z.1) c : ((ck K).all id && fn.all (Fd.good K)) = true)).1
  exact List.all_eq_true.mp c1 b (List.mem_of_getElem? h)
theorem Says.dec (c : Says ck fn K) (i : Nat) {p : Prop} [Decidable p] (h : (ck K)[i]? = some (decide p)) : p := of_decide_eq_true (c.at_ i h)
theorem Says.def_ (c : Says ck fn K) (i : Nat) {d : Fd} (h : fn[i]? = some d) : ∃ fd, FunD K d.name d.qual (defArgs d.st) (defBody d.st) (defScope d.st) d.dfl [] (d.adr K) fd := by
  have c2 := (He.ba (congrArg (fun z : He.AlD => z.1) c : ((ck K).all id && fn.all (Fd.good K)) = true)).2
  have e : fn.map (Fd.seen K) = fn.map Fd.want := congrArg (fun z : He.AlD => z.2) c
  have e2 : (fn.map (Fd.seen K))[i]? = (fn.map Fd.want)[i]? := by rw [e]
  rw [List.getElem?_map, List.getElem?_map, h] at e2
  exact Fd.funD (Option.some.inj e2) (List.all_eq_true.mp c2 d (List.mem_of_getElem? h))
end
theorem walk_inE {l : PySem.W.OpenLaw} {n k : Nat} {q : Program} {loose : List Str} {XP : (Str → Option Value) → Heap → Prop} {YP : World → Heap → Prop} {d : DefRec} {x : Str} {F : List D → List Cell → Out D}
    (hn : l.most = some n) (hn2 : n ≤ sizeLine) (hdf : d.params.defaults = []) (hr : Room k callerA)
    (B : ∀ (w : World) (mg : Str → Option Value) (fa : Addr) (h : Heap), YP w h → h.Ns mainGlobals mg → mg d.name = some (.ref fa) →
      ∃ (K : PySem.W.Frag) (cm : Nat → Addr) (fd : FuncData), K.In h ∧ (∀ (s : Shared) (u : Value), BindsTo s fd ⟨[u], []⟩ [(x, u)]) ∧ ∀ base : Heap, K.In base → base.Ns mainGlobals mg → FnB l.prog w K mg base cm k fa fd [x] F)
    (hF : ∀ ns : List Int, ns.length ≤ n → ∃ cs, F [.arg (ns.map D.int)] [] = .ok (.bl true) cs) : PySem.W.WalkO q loose XP YP l.row.toRowW d [] (fun f vs => PySem.call f vs) := by
  refine Att.attach_call hn hdf fun w s0 s1 mg mb fa o pm cd doc a vs ns G Y ho hd hcd hmg hobj hints hlen hg => ?_
  obtain ⟨K, cm, fd, KX, hb, hB⟩ := B w mg fa _ Y G.T.g hmg
  exact law_in KX G.T.g G.T.b G.T.builtins G.T.nolimit hg hobj hints (Nat.le_trans hlen hn2) hr hB hb (hF ns hlen)
end PVH
namespace PV
open PySem PySem.Spec PyProof.Rows L2
def oexIn (K : PySem.W.Frag) (C : Addr) : Bool := match K.lookup C with
  | some ⟨.type "type", _, .cls cd, sl⟩ => (match cd.mro, sl.toList with
    | .ref C' :: bm, [_, _, _, _, some (.builtin n), _] => C' == C && n == "ValueError.__new__" && !cd.hasDel && cd.hasDict && PySem.HandSPX.refsVE bm
    | _, _ => false)
  | _ => false
theorem oexC_of {K : PySem.W.Frag} {C : Addr} (q : oexIn K C = true) (h2 : PySem.W.findIn K (.ref C) "__setattr__" = some (some (.builtin "object.__setattr__"))) (h3 : PySem.W.subIn K (.ref C) (.type "BaseException") = some true)
    (h4 : PySem.W.typeIn K (.ref C) = some (.type "type")) (h5 : PySem.W.keepIn K (.ref C) = true) : OexC K C := by
  refine ⟨?_, h2, h3, h4, h5⟩
  unfold oexIn at q
  split at q
  · rename_i dd cd sl ho
    split at q
    · rename_i C' bm k0 k1 k2 k3 n k5 hm hs
      simp only [Bool.and_eq_true, beq_iff_eq, Bool.not_eq_true'] at q
      obtain ⟨⟨⟨⟨rfl, rfl⟩, hdel⟩, hdic⟩, ht⟩ := q
      obtain ⟨nm, bs, mro, ns, qn, hd, sn, sub, ab, col, del⟩ := cd
      dsimp only at hm hdel hdic
      subst hm hdel hdic
      have hsl : sl = #[k0, k1, k2, k3, some (.builtin "ValueError.__new__"), k5] := by
        obtain ⟨l⟩ := sl
        simp only at hs
        rw [hs]
      subst hsl
      exact ⟨nm, qn, ns, bs, bm, sn, sub, ab, col, dd, k0, k1, k2, k3, k5, ho, ht⟩
    · cases q
  · cases q
end PV
namespace Ck82
open PySem PySem.Spec L2 PV
def top (i : Nat) : Stmt := PySem.Challenge.pw_copyways_k82_texts_of_no_formula.main.body.getD i (.Pass ⟨0, 0, 0, 0⟩)
abbrev s_law_tape : Stmt := top 29
abbrev s_law_next : Stmt := top 30
abbrev s_law_any : Stmt := top 32
abbrev s_law_word : Stmt := top 33
abbrev s_law_signs : Stmt := top 38
abbrev s_law_bent : Stmt := top 39
abbrev s_Formula_parts : Stmt := inClass (top 17) 2
abbrev s_Reference_row : Stmt := inClass (top 14) 1
abbrev s_Reference_column : Stmt := inClass (top 14) 2
abbrev s_Reference_fixed_row : Stmt := inClass (top 14) 3
abbrev s_Reference_fixed_column : Stmt := inClass (top 14) 4
abbrev s_law_seen : Stmt := top 31
abbrev s_number_in : Stmt := top 23
abbrev s_distance_in : Stmt := top 24
abbrev s_part_in : Stmt := top 25
abbrev s_is_integer : Stmt := top 10
abbrev s_is_place : Stmt := top 11
abbrev s_is_part : Stmt := top 12
abbrev s_Reference___init : Stmt := inClass (top 14) 0
abbrev s_reference_in : Stmt := top 26
abbrev s_InvalidText___init : Stmt := inClass (top 7) 0
abbrev s_Formula___init : Stmt := inClass (top 17) 0
abbrev s_Formula_of : Stmt := inClass (top 17) 1
abbrev s_read_formula : Stmt := top 27
abbrev s_law_told : Stmt := top 40
abbrev s_law_number : Stmt := top 34
abbrev s_law_side : Stmt := top 35
abbrev s_law_part_in : Stmt := top 36
abbrev s_law_read : Stmt := top 37
abbrev s_law : Stmt := top 41
def a_C_InvalidText (K : PySem.W.Frag) : Addr := He.ga K "InvalidText"
def a_C_Formula (K : PySem.W.Frag) : Addr := He.ga K "Formula"
def a_C_Reference (K : PySem.W.Frag) : Addr := He.ga K "Reference"
def a_C_CopyError (K : PySem.W.Frag) : Addr := He.ga K "CopyError"
def a_C_InvalidFormula (K : PySem.W.Frag) : Addr := He.ga K "InvalidFormula"
def a_C_InvalidNumber (K : PySem.W.Frag) : Addr := He.ga K "InvalidNumber"
def a_C_InvalidReference (K : PySem.W.Frag) : Addr := He.ga K "InvalidReference"
def a_C_InvalidWay (K : PySem.W.Frag) : Addr := He.ga K "InvalidWay"
def a_f_law_tape (K : PySem.W.Frag) : Addr := He.ga K "_law_tape"
def a_f_law_next (K : PySem.W.Frag) : Addr := He.ga K "_law_next"
def a_f_law_any (K : PySem.W.Frag) : Addr := He.ga K "_law_any"
def a_f_law_word (K : PySem.W.Frag) : Addr := He.ga K "_law_word"
def a_f_law_signs (K : PySem.W.Frag) : Addr := He.ga K "_law_signs"
def a_f_law_bent (K : PySem.W.Frag) : Addr := He.ga K "_law_bent"
def a_q_Formula_parts (K : PySem.W.Frag) : Addr := He.ma K (a_C_Formula K) "parts"
def a_f_Formula_parts (K : PySem.W.Frag) : Addr := PVH.hd (PySem.W.recIn K (a_q_Formula_parts K) "property")
def a_r_Formula_parts (K : PySem.W.Frag) : List Value := PVH.tl (PySem.W.recIn K (a_q_Formula_parts K) "property")
def a_q_Reference_row (K : PySem.W.Frag) : Addr := He.ma K (a_C_Reference K) "row"
def a_f_Reference_row (K : PySem.W.Frag) : Addr := PVH.hd (PySem.W.recIn K (a_q_Reference_row K) "property")
def a_r_Reference_row (K : PySem.W.Frag) : List Value := PVH.tl (PySem.W.recIn K (a_q_Reference_row K) "property")
def a_q_Reference_column (K : PySem.W.Frag) : Addr := He.ma K (a_C_Reference K) "column"
def a_f_Reference_column (K : PySem.W.Frag) : Addr := PVH.hd (PySem.W.recIn K (a_q_Reference_column K) "property")
def a_r_Reference_column (K : PySem.W.Frag) : List Value := PVH.tl (PySem.W.recIn K (a_q_Reference_column K) "property")
def a_q_Reference_fixed_row (K : PySem.W.Frag) : Addr := He.ma K (a_C_Reference K) "fixed_row"
def a_f_Reference_fixed_row (K : PySem.W.Frag) : Addr := PVH.hd (PySem.W.recIn K (a_q_Reference_fixed_row K) "property")
def a_r_Reference_fixed_row (K : PySem.W.Frag) : List Value := PVH.tl (PySem.W.recIn K (a_q_Reference_fixed_row K) "property")
def a_q_Reference_fixed_column (K : PySem.W.Frag) : Addr := He.ma K (a_C_Reference K) "fixed_column"
def a_f_Reference_fixed_column (K : PySem.W.Frag) : Addr := PVH.hd (PySem.W.recIn K (a_q_Reference_fixed_column K) "property")
def a_r_Reference_fixed_column (K : PySem.W.Frag) : List Value := PVH.tl (PySem.W.recIn K (a_q_Reference_fixed_column K) "property")
def a_f_law_seen (K : PySem.W.Frag) : Addr := He.ga K "_law_seen"
def a_f_number_in (K : PySem.W.Frag) : Addr := He.ga K "number_in"
def a_f_distance_in (K : PySem.W.Frag) : Addr := He.ga K "distance_in"
def a_f_part_in (K : PySem.W.Frag) : Addr := He.ga K "part_in"
def a_f_is_integer (K : PySem.W.Frag) : Addr := He.ga K "is_integer"
def a_f_is_place (K : PySem.W.Frag) : Addr := He.ga K "is_place"
def a_f_is_part (K : PySem.W.Frag) : Addr := He.ga K "is_part"
def a_f_Reference___init (K : PySem.W.Frag) : Addr := He.ma K (a_C_Reference K) "__init__"
def a_f_reference_in (K : PySem.W.Frag) : Addr := He.ga K "reference_in"
def a_f_InvalidText___init (K : PySem.W.Frag) : Addr := He.ma K (a_C_InvalidText K) "__init__"
def a_f_Formula___init (K : PySem.W.Frag) : Addr := He.ma K (a_C_Formula K) "__init__"
def a_z_Formula_of (K : PySem.W.Frag) : Addr := PVH.cz (PySem.W.findCls K (.ref (a_C_Formula K)) (.type "type") "of")
def a_f_Formula_of (K : PySem.W.Frag) : Addr := PVH.hd (PySem.W.recIn K (a_z_Formula_of K) "classmethod")
def a_rz_Formula_of (K : PySem.W.Frag) : List Value := PVH.tl (PySem.W.recIn K (a_z_Formula_of K) "classmethod")
def a_f_read_formula (K : PySem.W.Frag) : Addr := He.ga K "read_formula"
def a_f_law_told (K : PySem.W.Frag) : Addr := He.ga K "_law_told"
def a_f_law_number (K : PySem.W.Frag) : Addr := He.ga K "_law_number"
def a_f_law_side (K : PySem.W.Frag) : Addr := He.ga K "_law_side"
def a_f_law_part_in (K : PySem.W.Frag) : Addr := He.ga K "_law_part_in"
def a_f_law_read (K : PySem.W.Frag) : Addr := He.ga K "_law_read"
def a_f_law (K : PySem.W.Frag) : Addr := He.ga K "law"
def a_tk_MOST_DIGITS (K : PySem.W.Frag) : Tok := PVH.tkV (PySem.W.nsIn K mainGlobals "MOST_DIGITS")
def a_tk_DIGITS (K : PySem.W.Frag) : Tok := PVH.tkV (PySem.W.nsIn K mainGlobals "DIGITS")
def a_tk_GREATEST (K : PySem.W.Frag) : Tok := PVH.tkV (PySem.W.nsIn K mainGlobals "GREATEST")
def a_tk_MOST_PARTS_texts (K : PySem.W.Frag) : Tok := PVH.tkV (PySem.W.nsIn K mainGlobals "MOST_PARTS_texts")
def a_tk_BROKEN (K : PySem.W.Frag) : Tok := PVH.tkV (PySem.W.nsIn K mainGlobals "BROKEN")
def a_tk_MOST_PARTS_formulas (K : PySem.W.Frag) : Tok := PVH.tkV (PySem.W.nsIn K mainGlobals "MOST_PARTS_formulas")
def chk (K : PySem.W.Frag) : List Bool := [
  decide (PySem.W.nsIn K mainGlobals "InvalidText" = some (some (.ref (a_C_InvalidText K)))),
  decide (PySem.W.nsIn K mainGlobals "Formula" = some (some (.ref (a_C_Formula K)))),
  decide (PySem.W.nsIn K mainGlobals "Reference" = some (some (.ref (a_C_Reference K)))),
  decide (PySem.W.nsIn K mainGlobals "CopyError" = some (some (.ref (a_C_CopyError K)))),
  decide (PySem.W.nsIn K mainGlobals "InvalidFormula" = some (some (.ref (a_C_InvalidFormula K)))),
  decide (PySem.W.nsIn K mainGlobals "InvalidNumber" = some (some (.ref (a_C_InvalidNumber K)))),
  decide (PySem.W.nsIn K mainGlobals "InvalidReference" = some (some (.ref (a_C_InvalidReference K)))),
  decide (PySem.W.nsIn K mainGlobals "InvalidWay" = some (some (.ref (a_C_InvalidWay K)))),
  decide (PySem.W.nsIn K mainGlobals "_law_tape" = some (some (.ref (a_f_law_tape K)))),
  decide (PySem.W.nsIn K mainGlobals "_law_next" = some (some (.ref (a_f_law_next K)))),
  decide (PySem.W.nsIn K mainGlobals "_law_any" = some (some (.ref (a_f_law_any K)))),
  decide (PySem.W.nsIn K mainGlobals "_law_word" = some (some (.ref (a_f_law_word K)))),
  decide (PySem.W.nsIn K mainGlobals "_law_signs" = some (some (.ref (a_f_law_signs K)))),
  decide (PySem.W.nsIn K mainGlobals "_law_bent" = some (some (.ref (a_f_law_bent K)))),
  decide (PySem.W.findIn K (.ref (a_C_Formula K)) "parts" = some (some (.ref (a_q_Formula_parts K)))),
  decide (PySem.W.specialIn K (.ref (a_q_Formula_parts K)) "__get__" = some (some (.builtin "property.__get__"))),
  decide (PySem.W.takesIn K (.ref (a_q_Formula_parts K)) = some true),
  decide (PySem.W.recIn K (a_q_Formula_parts K) "property" = some (.ref (a_f_Formula_parts K) :: (a_r_Formula_parts K))),
  decide (PySem.W.findIn K (.ref (a_C_Reference K)) "row" = some (some (.ref (a_q_Reference_row K)))),
  decide (PySem.W.specialIn K (.ref (a_q_Reference_row K)) "__get__" = some (some (.builtin "property.__get__"))),
  decide (PySem.W.takesIn K (.ref (a_q_Reference_row K)) = some true),
  decide (PySem.W.recIn K (a_q_Reference_row K) "property" = some (.ref (a_f_Reference_row K) :: (a_r_Reference_row K))),
  decide (PySem.W.findIn K (.ref (a_C_Reference K)) "column" = some (some (.ref (a_q_Reference_column K)))),
  decide (PySem.W.specialIn K (.ref (a_q_Reference_column K)) "__get__" = some (some (.builtin "property.__get__"))),
  decide (PySem.W.takesIn K (.ref (a_q_Reference_column K)) = some true),
  decide (PySem.W.recIn K (a_q_Reference_column K) "property" = some (.ref (a_f_Reference_column K) :: (a_r_Reference_column K))),
  decide (PySem.W.findIn K (.ref (a_C_Reference K)) "fixed_row" = some (some (.ref (a_q_Reference_fixed_row K)))),
  decide (PySem.W.specialIn K (.ref (a_q_Reference_fixed_row K)) "__get__" = some (some (.builtin "property.__get__"))),
  decide (PySem.W.takesIn K (.ref (a_q_Reference_fixed_row K)) = some true),
  decide (PySem.W.recIn K (a_q_Reference_fixed_row K) "property" = some (.ref (a_f_Reference_fixed_row K) :: (a_r_Reference_fixed_row K))),
  decide (PySem.W.findIn K (.ref (a_C_Reference K)) "fixed_column" = some (some (.ref (a_q_Reference_fixed_column K)))),
  decide (PySem.W.specialIn K (.ref (a_q_Reference_fixed_column K)) "__get__" = some (some (.builtin "property.__get__"))),
  decide (PySem.W.takesIn K (.ref (a_q_Reference_fixed_column K)) = some true),
  decide (PySem.W.recIn K (a_q_Reference_fixed_column K) "property" = some (.ref (a_f_Reference_fixed_column K) :: (a_r_Reference_fixed_column K))),
  decide (PySem.W.nsIn K mainGlobals "_law_seen" = some (some (.ref (a_f_law_seen K)))),
  decide (PySem.W.nsIn K mainGlobals "number_in" = some (some (.ref (a_f_number_in K)))),
  decide (PySem.W.nsIn K mainGlobals "distance_in" = some (some (.ref (a_f_distance_in K)))),
  decide (PySem.W.nsIn K mainGlobals "part_in" = some (some (.ref (a_f_part_in K)))),
  decide (PySem.W.nsIn K mainGlobals "is_integer" = some (some (.ref (a_f_is_integer K)))),
  decide (PySem.W.nsIn K mainGlobals "is_place" = some (some (.ref (a_f_is_place K)))),
  decide (PySem.W.nsIn K mainGlobals "is_part" = some (some (.ref (a_f_is_part K)))),
  decide (PySem.W.findIn K (.ref (a_C_Reference K)) "__init__" = some (some (.ref (a_f_Reference___init K)))),
  decide (PySem.W.nsIn K mainGlobals "reference_in" = some (some (.ref (a_f_reference_in K)))),
  decide (PySem.W.findIn K (.ref (a_C_InvalidText K)) "__init__" = some (some (.ref (a_f_InvalidText___init K)))),
  decide (PySem.W.findIn K (.ref (a_C_Formula K)) "__init__" = some (some (.ref (a_f_Formula___init K)))),
  PVH.isC (PySem.W.findCls K (.ref (a_C_Formula K)) (.type "type") "of") (.get (.builtin "classmethod.__get__") (.ref (a_z_Formula_of K)) .none (.ref (a_C_Formula K))),
  decide (PySem.W.recIn K (a_z_Formula_of K) "classmethod" = some (.ref (a_f_Formula_of K) :: (a_rz_Formula_of K))),
  PySem.W.fnIn K (a_f_Formula_of K),
  decide (PySem.W.nsIn K mainGlobals "read_formula" = some (some (.ref (a_f_read_formula K)))),
  decide (PySem.W.nsIn K mainGlobals "_law_told" = some (some (.ref (a_f_law_told K)))),
  decide (PySem.W.nsIn K mainGlobals "_law_number" = some (some (.ref (a_f_law_number K)))),
  decide (PySem.W.nsIn K mainGlobals "_law_side" = some (some (.ref (a_f_law_side K)))),
  decide (PySem.W.nsIn K mainGlobals "_law_part_in" = some (some (.ref (a_f_law_part_in K)))),
  decide (PySem.W.nsIn K mainGlobals "_law_read" = some (some (.ref (a_f_law_read K)))),
  decide (PySem.W.nsIn K mainGlobals "law" = some (some (.ref (a_f_law K)))),
  decide (PySem.W.nsIn K mainGlobals "range" = some none),
  decide (PySem.W.nsIn K mainGlobals "max" = some none),
  decide (PySem.W.nsIn K mainGlobals "min" = some none),
  decide (PySem.W.nsIn K mainGlobals "len" = some none),
  decide (PySem.W.nsIn K mainGlobals "abs" = some none),
  decide (PySem.W.nsIn K mainGlobals "str" = some none),
  decide (PySem.W.nsIn K mainGlobals "repr" = some none),
  decide (PySem.W.nsIn K mainGlobals "list" = some none),
  decide (PySem.W.nsIn K mainGlobals "enumerate" = some none),
  decide (PySem.W.nsIn K mainGlobals "MOST_DIGITS" = some (some (.int 30 (a_tk_MOST_DIGITS K)))),
  decide (PySem.W.nsIn K mainGlobals "all" = some none),
  decide (PySem.W.nsIn K mainGlobals "DIGITS" = some (some (.str "0123456789" (a_tk_DIGITS K)))),
  decide (PySem.W.nsIn K mainGlobals "int" = some none),
  PySem.W.makesIn K (a_C_Reference K),
  PySem.W.isFn K (.ref (a_f_Reference___init K)),
  PySem.W.keepIn K (.ref (a_C_Reference K)),
  decide (PySem.W.nsIn K mainGlobals "isinstance" = some none),
  decide (PySem.W.nsIn K mainGlobals "bool" = some none),
  decide (PySem.W.nsIn K mainGlobals "GREATEST" = some (some (.int 1000000000000000000000000000000 (a_tk_GREATEST K)))),
  decide (PySem.W.nsIn K mainGlobals "MOST_PARTS_texts" = some (some (.int 20 (a_tk_MOST_PARTS_texts K)))),
  decide (PySem.W.nsIn K mainGlobals "BROKEN" = some (some (.str "#" (a_tk_BROKEN K)))),
  PySem.W.makesIn K (a_C_Formula K),
  PySem.W.isFn K (.ref (a_f_Formula___init K)),
  PySem.W.keepIn K (.ref (a_C_Formula K)),
  decide (PySem.W.nsIn K mainGlobals "MOST_PARTS_formulas" = some (some (.int 20 (a_tk_MOST_PARTS_formulas K)))),
  decide (PySem.W.nsIn K mainGlobals "tuple" = some none),
  decide (PySem.W.nsIn K mainGlobals "ValueError" = some none),
  PySem.W.isClsIn K (a_C_InvalidText K),
  decide (PySem.W.subIn K (.ref (a_C_InvalidText K)) (.ref (a_C_InvalidText K)) = some true),
  oexIn K (a_C_InvalidText K),
  decide (PySem.W.findIn K (.ref (a_C_InvalidText K)) "__setattr__" = some (some (.builtin "object.__setattr__"))),
  PySem.W.keepIn K (.ref (a_C_InvalidText K)),
  decide (PySem.W.subIn K (.ref (a_C_InvalidText K)) (.type "BaseException") = some true),
  decide (PySem.W.typeIn K (.ref (a_C_InvalidText K)) = some (.type "type")),
  decide (PySem.W.typeIn K (.ref (a_f_InvalidText___init K)) = some (.type "function")),
  decide (PySem.W.findIn K (.ref (a_C_InvalidText K)) "word" = some none),
  PySem.W.readsIn K (a_C_CopyError K) (.type "type"),
  decide (PySem.W.specialIn K (.ref (a_C_CopyError K)) "__getattribute__" = some (some (.builtin "type.__getattribute__"))),
  PVH.isC (PySem.W.findCls K (.ref (a_C_CopyError K)) (.type "type") "__init__") (.val (.builtin "ValueError.__init__")),
  PySem.W.readsIn K (a_C_Formula K) (.type "type"),
  decide (PySem.W.specialIn K (.ref (a_C_Formula K)) "__getattribute__" = some (some (.builtin "type.__getattribute__"))),
  decide (PySem.W.specialIn K (.builtin "object.__class__") "__get__" = some (some (.builtin "getset_descriptor.__get__"))),
  decide (PySem.W.takesIn K (.builtin "object.__class__") = some true),
  PySem.W.isClsIn K (a_C_InvalidText K),
  decide (PySem.W.findIn K (.ref (a_C_InvalidText K)) "__getattribute__" = some (some (.builtin "BaseException.__getattribute__"))),
  decide (PySem.W.findIn K (.ref (a_C_InvalidText K)) "__getattr__" = some none),
  decide (PySem.W.findIn K (.ref (a_C_InvalidText K)) "__class__" = some (some (.builtin "object.__class__"))),
  decide (PySem.W.mroIn K (a_C_InvalidText K) (.type "object") = some true),
  decide (PySem.W.findIn K (.ref (a_C_InvalidText K)) "__getattribute__" = some (some (.builtin "BaseException.__getattribute__"))),
  decide (PySem.W.findIn K (.ref (a_C_InvalidText K)) "__getattr__" = some none),
  decide (PySem.W.subIn K (.ref (a_C_InvalidText K)) (.type "BaseException") = some true),
  PySem.W.hasDictIn K (a_C_InvalidText K),
  decide (PySem.W.findIn K (.ref (a_C_InvalidText K)) "word" = some none),
  decide (PySem.W.findIn K (.ref (a_C_Formula K)) "held_parts" = some none),
  decide (PySem.W.findIn K (.ref (a_C_Reference K)) "held_row" = some none),
  decide (PySem.W.findIn K (.ref (a_C_Reference K)) "held_column" = some none),
  decide (PySem.W.findIn K (.ref (a_C_Reference K)) "held_fixed_row" = some none),
  decide (PySem.W.findIn K (.ref (a_C_Reference K)) "held_fixed_column" = some none),
  decide (PySem.W.specialIn K (.builtin "object.__class__") "__get__" = some (some (.builtin "getset_descriptor.__get__"))),
  decide (PySem.W.takesIn K (.builtin "object.__class__") = some true),
  decide (PySem.W.findIn K (.ref (a_C_Reference K)) "__class__" = some (some (.builtin "object.__class__"))),
  decide (PySem.W.mroIn K (a_C_Reference K) (.type "object") = some true),
  decide (PySem.W.findIn K (.ref (a_C_Formula K)) "__class__" = some (some (.builtin "object.__class__"))),
  decide (PySem.W.mroIn K (a_C_Formula K) (.type "object") = some true),
  PySem.W.isClsIn K (a_C_InvalidFormula K),
  decide (PySem.W.typeIn K (.ref (a_C_InvalidFormula K)) = some (.type "type")),
  PySem.W.isClsIn K (a_C_InvalidNumber K),
  decide (PySem.W.typeIn K (.ref (a_C_InvalidNumber K)) = some (.type "type")),
  PySem.W.isClsIn K (a_C_InvalidReference K),
  decide (PySem.W.typeIn K (.ref (a_C_InvalidReference K)) = some (.type "type")),
  PySem.W.isClsIn K (a_C_InvalidWay K),
  decide (PySem.W.typeIn K (.ref (a_C_InvalidWay K)) = some (.type "type")),
  PySem.W.isClsIn K (a_C_Reference K),
  decide (PySem.W.typeIn K (.ref (a_C_Reference K)) = some (.type "type")),
  decide (PySem.W.subIn K (.ref (a_C_InvalidText K)) (.ref (a_C_InvalidFormula K)) = some false),
  decide ((Value.ref (a_C_InvalidText K) == Value.ref (a_C_InvalidFormula K)) = false),
  decide (PySem.W.subIn K (.ref (a_C_InvalidText K)) (.ref (a_C_InvalidNumber K)) = some false),
  decide ((Value.ref (a_C_InvalidText K) == Value.ref (a_C_InvalidNumber K)) = false),
  decide (PySem.W.subIn K (.ref (a_C_InvalidText K)) (.ref (a_C_InvalidReference K)) = some false),
  decide ((Value.ref (a_C_InvalidText K) == Value.ref (a_C_InvalidReference K)) = false),
  decide (PySem.W.subIn K (.ref (a_C_InvalidText K)) (.ref (a_C_InvalidWay K)) = some false),
  decide ((Value.ref (a_C_InvalidText K) == Value.ref (a_C_InvalidWay K)) = false),
  decide (PySem.W.subIn K (.ref (a_C_InvalidText K)) (.type "ValueError") = some true),
  decide (PySem.W.subIn K (.type "NoneType") (.type "int") = some false),
  decide (PySem.W.subIn K (.type "NoneType") (.type "bool") = some false),
  decide (PySem.W.subIn K (.type "NoneType") (.ref (a_C_Reference K)) = some false),
  decide (PySem.W.subIn K (.type "NoneType") (.type "list") = some false),
  decide (PySem.W.subIn K (.type "bool") (.type "int") = some true),
  decide (PySem.W.subIn K (.type "bool") (.type "bool") = some true),
  decide (PySem.W.subIn K (.type "bool") (.ref (a_C_Reference K)) = some false),
  decide (PySem.W.subIn K (.type "bool") (.type "list") = some false),
  decide (PySem.W.subIn K (.type "int") (.type "int") = some true),
  decide (PySem.W.subIn K (.type "int") (.type "bool") = some false),
  decide (PySem.W.subIn K (.type "int") (.ref (a_C_Reference K)) = some false),
  decide (PySem.W.subIn K (.type "int") (.type "list") = some false),
  decide (PySem.W.subIn K (.type "str") (.type "int") = some false),
  decide (PySem.W.subIn K (.type "str") (.type "bool") = some false),
  decide (PySem.W.subIn K (.type "str") (.ref (a_C_Reference K)) = some false),
  decide (PySem.W.subIn K (.type "str") (.type "list") = some false),
  decide (PySem.W.subIn K (.type "tuple") (.type "int") = some false),
  decide (PySem.W.subIn K (.type "tuple") (.type "bool") = some false),
  decide (PySem.W.subIn K (.type "tuple") (.ref (a_C_Reference K)) = some false),
  decide (PySem.W.subIn K (.type "tuple") (.type "list") = some false),
  decide (PySem.W.subIn K (.type "list") (.type "int") = some false),
  decide (PySem.W.subIn K (.type "list") (.type "bool") = some false),
  decide (PySem.W.subIn K (.type "list") (.ref (a_C_Reference K)) = some false),
  decide (PySem.W.subIn K (.type "list") (.type "list") = some true),
  decide (PySem.W.subIn K (.type "dict") (.type "int") = some false),
  decide (PySem.W.subIn K (.type "dict") (.type "bool") = some false),
  decide (PySem.W.subIn K (.type "dict") (.ref (a_C_Reference K)) = some false),
  decide (PySem.W.subIn K (.type "dict") (.type "list") = some false),
  decide (PySem.W.subIn K (.ref (a_C_Reference K)) (.type "int") = some false),
  decide (PySem.W.subIn K (.ref (a_C_Reference K)) (.type "bool") = some false),
  decide (PySem.W.subIn K (.ref (a_C_Reference K)) (.ref (a_C_Reference K)) = some true),
  decide (PySem.W.subIn K (.ref (a_C_Reference K)) (.type "list") = some false),
  decide (PySem.W.subIn K (.ref (a_C_Formula K)) (.type "int") = some false),
  decide (PySem.W.subIn K (.ref (a_C_Formula K)) (.type "bool") = some false),
  decide (PySem.W.subIn K (.ref (a_C_Formula K)) (.ref (a_C_Reference K)) = some false),
  decide ((Value.ref (a_C_Formula K) == Value.ref (a_C_Reference K)) = false),
  decide (PySem.W.subIn K (.ref (a_C_Formula K)) (.type "list") = some false),
  PySem.W.plainGet K (a_C_Formula K) Str.empty,
  PySem.W.hasDictIn K (a_C_Formula K),
  PySem.W.plainOver K (a_C_Formula K),
  decide (PySem.W.findIn K (.ref (a_C_Formula K)) "__setattr__" = some (some (.builtin "object.__setattr__"))),
  PySem.W.plainGet K (a_C_Reference K) Str.empty,
  PySem.W.hasDictIn K (a_C_Reference K),
  PySem.W.plainOver K (a_C_Reference K),
  decide (PySem.W.findIn K (.ref (a_C_Reference K)) "__setattr__" = some (some (.builtin "object.__setattr__")))]
def fds : List PVH.Fd := [⟨a_f_law_tape, "_law_tape", "_law_tape", s_law_tape, []⟩,
  ⟨a_f_law_next, "_law_next", "_law_next", s_law_next, []⟩,
  ⟨a_f_law_any, "_law_any", "_law_any", s_law_any, []⟩,
  ⟨a_f_law_word, "_law_word", "_law_word", s_law_word, []⟩,
  ⟨a_f_law_signs, "_law_signs", "_law_signs", s_law_signs, []⟩,
  ⟨a_f_law_bent, "_law_bent", "_law_bent", s_law_bent, []⟩,
  ⟨a_f_Formula_parts, "parts", "Formula.parts", s_Formula_parts, []⟩,
  ⟨a_f_Reference_row, "row", "Reference.row", s_Reference_row, []⟩,
  ⟨a_f_Reference_column, "column", "Reference.column", s_Reference_column, []⟩,
  ⟨a_f_Reference_fixed_row, "fixed_row", "Reference.fixed_row", s_Reference_fixed_row, []⟩,
  ⟨a_f_Reference_fixed_column, "fixed_column", "Reference.fixed_column", s_Reference_fixed_column, []⟩,
  ⟨a_f_law_seen, "_law_seen", "_law_seen", s_law_seen, []⟩,
  ⟨a_f_number_in, "number_in", "number_in", s_number_in, []⟩,
  ⟨a_f_distance_in, "distance_in", "distance_in", s_distance_in, []⟩,
  ⟨a_f_part_in, "part_in", "part_in", s_part_in, []⟩,
  ⟨a_f_is_integer, "is_integer", "is_integer", s_is_integer, []⟩,
  ⟨a_f_is_place, "is_place", "is_place", s_is_place, []⟩,
  ⟨a_f_is_part, "is_part", "is_part", s_is_part, []⟩,
  ⟨a_f_Reference___init, "__init__", "Reference.__init__", s_Reference___init, [.bl false, .bl false]⟩,
  ⟨a_f_reference_in, "reference_in", "reference_in", s_reference_in, []⟩,
  ⟨a_f_InvalidText___init, "__init__", "InvalidText.__init__", s_InvalidText___init, []⟩,
  ⟨a_f_Formula___init, "__init__", "Formula.__init__", s_Formula___init, []⟩,
  ⟨a_f_Formula_of, "of", "Formula.of", s_Formula_of, []⟩,
  ⟨a_f_read_formula, "read_formula", "read_formula", s_read_formula, []⟩,
  ⟨a_f_law_told, "_law_told", "_law_told", s_law_told, []⟩,
  ⟨a_f_law_number, "_law_number", "_law_number", s_law_number, []⟩,
  ⟨a_f_law_side, "_law_side", "_law_side", s_law_side, []⟩,
  ⟨a_f_law_part_in, "_law_part_in", "_law_part_in", s_law_part_in, []⟩,
  ⟨a_f_law_read, "_law_read", "_law_read", s_law_read, []⟩,
  ⟨a_f_law, "law", "law", s_law, []⟩]
def loose0 : List PySem.Str := ["_wall", "CopyError", "InvalidReference", "InvalidFormula", "InvalidWay", "InvalidNumber", "InvalidText", "GREATEST", "is_integer", "is_place", "is_part", "part_text", "Reference", "MOST_PARTS_formulas", "Formula", "DIGITS", "MOST_DIGITS", "MOST_PARTS_texts", "BROKEN", "number_in", "distance_in", "part_in", "reference_in", "read_formula", "_law_tape", "_law_next", "_law_seen", "_law_any", "_law_word", "_law_number"]
def loose1 : List PySem.Str := ["_law_side", "_law_part_in", "_law_read", "_law_signs", "_law_bent", "_law_told"]
def loose : List PySem.Str := loose0 ++ (loose1)
abbrev R : PySem.W.OpenRow := PySem.W.OpenLaw.row PySem.Challenge.rw_copyways_k82_texts_of_no_formula
def seen0 : List Addr := [3, 2, 6, 4, 21, 31, 44, 56, 68, 80, 99, 108, 115, 122, 129, 207, 277, 286, 293, 300, 307, 314, 321, 328, 335, 342, 349, 354, 361, 368, 375, 382, 389, 396, 401, 20, 30, 43, 55, 67, 79, 98, 107, 114, 121, 128, 206, 276, 285, 292, 299, 306, 313, 320, 327, 334, 341, 348, 353, 360, 367, 374, 381, 388, 395, 400, 29, 32, 42, 54, 66, 78, 96, 97, 144, 152, 160, 168, 176, 183, 190, 197, 204, 205, 208, 209, 223, 232, 241, 248, 255, 262, 267, 274, 275, 278, 279, 95, 143, 137]
def seen1 : List Addr := [151, 159, 167, 175, 182, 189, 196, 203, 222, 230, 240, 247, 254, 261, 266, 273, 150, 158, 166, 174, 229, 239]
def seen : List Addr := seen0 ++ (seen1)
theorem run (w : World) : HandSHeadRun.RunEq R (PySem.W.view R.prog [41]) (PVH.hook seen chk fds) (PVH.ob seen chk fds) 14000 loose w := by
  intro os
  kernel_rfl
end Ck82
namespace PV
open PySem PySem.Spec PyProof.Rows L2
instance : DecidableEq Kd := fun a b => match a, b with
  | .ty x, .ty y => if h : x = y then isTrue (by rw [h]) else isFalse fun e => h (by cases e; rfl)
  | .cl x, .cl y => if h : x = y then isTrue (by rw [h]) else isFalse fun e => h (by cases e; rfl)
  | .ty _, .cl _ => isFalse fun e => nomatch e
  | .cl _, .ty _ => isFalse fun e => nomatch e
def tabOf (L : List (Kd × Kd × Bool)) (a b : Kd) : Option Bool := (L.find? fun q => decide (q.1 = a ∧ q.2.1 = b)).map (·.2.2)
theorem tab_ans {K : PySem.W.Frag} {cm : Nat → Addr} {L : List (Kd × Kd × Bool)} (h : ∀ q ∈ L, PySem.W.kitOne K (kdV cm q.1) (kdV cm q.2.1) = some q.2.2) : ∀ a b r, tabOf L a b = some r → PySem.W.kitOne K (kdV cm a) (kdV cm b) = some r := by
  intro a b r e
  unfold tabOf at e
  cases q : L.find? fun q => decide (q.1 = a ∧ q.2.1 = b) with
  | none => rw [q] at e; cases e
  | some p =>
    rw [q] at e
    have e' : p.2.2 = r := by simpa using e
    have h1 := List.mem_of_find?_eq_some q
    have h2 := List.find?_some q
    have h3 : p.1 = a ∧ p.2.1 = b := by simpa using h2
    have h4 := h p h1
    rw [h3.1, h3.2, e'] at h4
    exact h4
theorem all_cons {α : Type} {p : α → Prop} {x : α} {xs : List α} (h : p x) (t : ∀ y ∈ xs, p y) : ∀ y ∈ x :: xs, p y := fun y hy => by
  rcases List.mem_cons.mp hy with e | e
  · rw [e]; exact h
  · exact t y e
theorem room65 {k : Nat} {A : Around} (r : Room k A) : A.units + 65 < cLine := by have := r.un; omega
theorem room200 {k : Nat} {A : Around} (r : Room k A) : A.units + 200 < cLine := by have := r.un; omega
theorem ptake {α β : Type} {S : α → β → Prop} : ∀ (n : Nat) {a : List α} {b : List β}, Paired S a b → Paired S (a.take n) (b.take n)
  | 0, _, _, _ => .nil
  | n + 1, _, _, .nil => .nil
  | n + 1, _, _, .cons h t => .cons h (ptake n t)
theorem pdrop {α β : Type} {S : α → β → Prop} : ∀ (n : Nat) {a : List α} {b : List β}, Paired S a b → Paired S (a.drop n) (b.drop n)
  | 0, _, _, h => h
  | n + 1, _, _, .nil => .nil
  | n + 1, _, _, .cons _ t => pdrop n t
theorem papp {α β : Type} {S : α → β → Prop} {a' : List α} {b' : List β} : ∀ {a : List α} {b : List β}, Paired S a b → Paired S a' b' → Paired S (a ++ a') (b ++ b')
  | _, _, .nil, h => h
  | _, _, .cons h t, k => .cons h (papp t k)
theorem tkNo {X : Cx} : Takes X yNo := fun _ _ ⟨_, _, _, _, _, _, _, _, _, _, _, _, _, _, _, _, w⟩ => w.elim
section
variable {X : Cx} {cm : Nat → Addr} {Y : WX} {k n m l c : Nat} {f : Addr} {fd : FuncData} {ps ks : List Str} {F : List D → List Cell → Out D} {g : List D → List D → List D}
theorem cal_f (B : FnB X.prog X.w X.K X.mg X.base cm k f fd ps F) (a : Arg X.K cm fd ps n ks g) (hr : Room k X.A) (hg : X.A.guards = some []) (tk : Takes X Y) (kp : PySem.W.keepIn X.K (.ref f) = true) (hm : ks.length = m := by rfl) (hl : ps.length = l := by rfl) : Cal X cm Y (.ref f) ks (fnK n m l F g) := by
  subst hm hl
  exact cal_fn B a hr hg tk kp
theorem cal_mk (fz : Bool) (M : Mk X.K (cm c) f) (B : FnB X.prog X.w X.K X.mg X.base cm k f fd ps F) (a : Arg X.K cm fd ps n ks g) (hr : Room (k + 1) X.A) (hg : X.A.guards = some []) (tk : Takes X Y) (hm : ks.length = m := by rfl) (hl : ps.length = l := by rfl) :
    Cal X cm Y (.ref (cm c)) ks (mkK c fz (fnK n m l F g)) := by
  subst hm hl
  exact cal_make fz M B a hr hg tk
theorem blk_of {N : List Str} {sc scope : Scope} {own : List (Str × Nat)} (h1 : X.N = N) (h2 : X.env.scope = sc) (h : blkC N sc scope own = true) : BlkOk X.N X.env.scope scope own := by
  subst h1 h2
  exact blkOk_by h
end
theorem pvkit_ty {K : PySem.W.Frag} {t : Value} {T : String} {r : Bool} (hs : PySem.W.subIn K t (.type T) = some r) (hm : PySem.W.kitMeta T = true) (hne : (t == Value.type T) = true → r = true) : PySem.W.kitOne K t (.type T) = some r := by
  unfold PySem.W.kitOne
  split
  · rename_i z; rw [hne z]
  · show (if PySem.W.kitMeta T = true then PySem.W.subIn K t (.type T) else none) = some r
    rw [if_pos hm]
    exact hs
theorem pvkit_cl {K : PySem.W.Frag} {t : Value} {C : Addr} {r : Bool} (hs : PySem.W.subIn K t (.ref C) = some r) (h1 : PySem.W.isClsIn K C = true) (h2 : PySem.W.typeIn K (.ref C) = some (.type "type")) (hne : (t == Value.ref C) = true → r = true) : PySem.W.kitOne K t (.ref C) = some r := by
  unfold PySem.W.kitOne
  split
  · rename_i z; rw [hne z]
  · show (if ((PySem.W.clsIn K C).isSome && PySem.W.typeIn K (Value.ref C) == some (Value.type "type")) = true then PySem.W.subIn K t (Value.ref C) else none) = some r
    have h1' : (PySem.W.clsIn K C).isSome = true := h1
    rw [h1', h2]
    exact hs
end PV
namespace PV
open PySem PySem.Spec PyProof.Rows L2
section
variable {prog : Program} {w : World} {A : Around} {E : Value → Shared → Prop} {s : Shared} {K : PySem.W.Frag} {x C L f : Addr} {h₀ : Heap} {m : Str → Option Value} {ox : Obj} {od : Option Obj} {b tb : Value}
end
structure OwnE (K : PySem.W.Frag) (cm : Nat → Addr) (c : Nat) (f : Addr) (nf : List Kd) : Prop where
  eq : PySem.W.findIn K (.ref (cm c)) "__eq__" = some (some (.ref f))
  ne : PySem.W.findIn K (.ref (cm c)) "__ne__" = some (some (.builtin "object.__ne__"))
  fn : PySem.W.isFn K (.ref f) = true
  hm : PySem.W.mroIn K (cm c) (.type "object") = some true
  nf : ∀ k ∈ nf, PySem.W.notFirst K (cm c) (kdV cm k) = true
def gAlt (g g' : G2) : G2 := fun x y cs => match g x y cs with
  | some r => some r
  | none => g' x y cs
section
variable {X : Cx} {cm : Nat → Addr} {k n c : Nat} {f : Addr} {fd : FuncData} {F : List D → List Cell → Out D} {tab : Kd → Kd → Option Bool} {nf : List Kd} {ps : List Str}
theorem op_alt {op : Value → Value → Sem Value} {g g' : G2} (h : OpR X op (rO2 X.K cm g)) (h' : OpR X op (rO2 X.K cm g')) : OpR X op (rO2 X.K cm (gAlt g g')) := by
  intro pins s σ H x y v u Q I rx ry ⟨W, dx, dy, cs, R, r1, r2, P⟩
  unfold gAlt at P
  cases q : g dx dy cs with
  | some r =>
    rw [q] at P
    exact h pins s σ H x y v u Q I rx ry ⟨W, dx, dy, cs, R, r1, r2, by rw [q]; exact P⟩
  | none =>
    rw [q] at P
    exact h' pins s σ H x y v u Q I rx ry ⟨W, dx, dy, cs, R, r1, r2, P⟩
end
end PV
namespace PV
open PySem PySem.Spec PyProof.Rows L2
def fmtO (d : D) (c : List Cell) : Out D := match d with
  | .str y => if y.length ≤ sizeLine then .ok (.str y) c else .no
  | .int i => if i.natAbs.log2 < 1920 then .ok (.str (toString i)) c else .no
  | _ => .no
def fFmt (f : Fe) : Fe := fun σ cs => (f σ cs).bind fun d c => fmtO d c
def joinF : List Fe → Str → Fe
  | [], acc => fun _ cs => .ok (.str acc) cs
  | f :: r, acc => fun σ cs => (f σ cs).bind fun d c => match d with
    | .str y => if (acc ++ y).length ≤ sizeLine then joinF r (acc ++ y) σ c else .no
    | _ => .no
section
variable {X : Cx} {cm : Nat → Addr} {Y : WX} {e e1 e2 : Expr} {rest : List Expr} {f : Fe} {fs : List Fe} {pos : Pos}
def dispF : List (Key × Fe) → Sd → List Cell → Option (List (Key × D) × List Cell)
  | [], _, cs => some ([], cs)
  | (k, f) :: r, σ, cs => match f σ cs with
    | .ok d c => (dispF r σ c).map fun p => ((k, d) :: p.1, p.2)
    | _ => none
def fDsp (kfs : List (Key × Fe)) : Fe := fun σ cs => match dispF kfs σ cs with
  | some (kvs, c) => if (kvs.map (·.1)).Nodup ∧ kvs.length ≤ 15 then .ok (.dic kvs) c else .no
  | none => .no
def fDsp0 : Fe := fun _ cs => .ok (.dic []) cs
end
end PV
namespace PV
open PySem PySem.Spec PyProof.Rows L2
def FnP (P : Program) (w : World) (K : PySem.W.Frag) (mg : Str → Option Value) (base : Heap) (cm : Nat → Addr) (k : Nat) (f : Addr) (F : List D → List Cell → Out D) : Prop :=
  ∀ (A : Around) (outer : List Env) (s : Shared) (H : Hp) (us : List Value) (vs : List V) (Q : VK) (E : XK) (W : Wd) (ds : List D) (cs : List Cell),
    Room k A → A.guards = some [] → Env0 P w K mg base A outer s H → Vals vs us → Rel K cm W cs H → Rps K cm W ds vs → PostF K cm W (F ds cs) Q E →
      codeAny (model P w) A (.call (.ref f) ⟨us, []⟩) (CR (L2.CX P w) outer P w H s Q E) s
def runVar (n N : Nat) (fb : Fs) : List D → List Cell → Out D := fun ds cs => if n ≤ ds.length ∧ ds.length ≤ sizeLine then runDef (n + 1) N fb (ds.take n ++ [.tup (ds.drop n)]) cs else .no
section
variable {P : Program} {w : World} {K : PySem.W.Frag} {mg : Str → Option Value} {base : Heap} {cm : Nat → Addr}
theorem PostF.up {W W1 : Wd} (le : W.le W1) {r : Out D} {Q : VK} {E : XK} (h : PostF K cm W r Q E) : PostF K cm W1 r Q E := by
  cases r with
  | ok d cs => exact fun W' H' v l => h W' H' v (le.trans l)
  | ex x cs => exact fun W' H' dd l => h W' H' dd (le.trans l)
  | no => exact h
theorem fn_var {x qual pv : Str} {params : Arguments} {body : List Stmt} {scope : Scope} {kws : List (Str × V)} {f : Addr} {fd : FuncData} {N ps : List Str} {k : Nat} {fb : Fs} (F : FunD K x qual params body scope [] kws f fd) (S : FnScope N (ps ++ [pv]) scope)
    (hbi : ∀ (kV doc pm : Value) (an : Option Addr) (cdv ct : Value) (us rest : List Value), us.length = ps.length → bindArgs (PySem.W.fnOf x qual params body scope .none kV doc pm an cdv ct) ⟨us ++ rest, []⟩ = (newTuple rest >>= fun t => pure (ps.zip us ++ [(pv, t)])))
    (hb : ∀ (cdv : Value) (A : Around) (outer : List Env) (s : Shared) (H : Hp) (E : XK), Room k (A.deeper (envOfC qual scope s.heap.objs.size f cdv)) → (A.deeper (envOfC qual scope s.heap.objs.size f cdv)).guards = some [] →
      FSs (cxOf (L2.CX P w) P w K mg base N qual scope f cdv A outer s H E) cm (yOf E) body fb) : FnP P w K mg base cm (k + 1) f (runVar ps.length N.length fb) := by
  intro A outer s H us vs Q E W ds cs hr hg e0 rv R r h
  unfold runVar at h
  split at h
  · rename_i hn
    obtain ⟨oc, od, dV, kV, doc, pm, an, cdv, ct, osl, rfl, lk, hcd, hD, _⟩ := F.ex
    rcases hD with ⟨_, rfl⟩ | ⟨e, _⟩
    · have hpl : (ps ++ [pv]).length ≤ N.length := by have := congrArg List.length S.pre; rw [List.length_take] at this; omega
      have lv : ds.length = vs.length := r.length
      have hsp : vs = vs.take ps.length ++ vs.drop ps.length := (List.take_append_drop _ _).symm
      rw [hsp] at rv
      obtain ⟨u1, u2, rfl, r1, r2⟩ := StX.vals_split rv
      have l1 : u1.length = ps.length := by rw [← r1.length, List.length_take]; omega
      have l2 : u2.length ≤ sizeLine := by rw [← r2.length, List.length_drop]; omega
      have hn0 : H s.heap.objs.size = Option.none := e0.hok.fresh (Nat.le_refl _)
      refine StX.run_bnd lk hcd S hr e0 (G := fun xs H2 => ∃ p, H p = Option.none ∧ xs = vs.take ps.length ++ [V.ref p] ∧ H2 = upd H p (.tup (vs.drop ps.length))) (fun A' Ex Q' go => ?_) fun s2 H2 xs ⟨p, hp, ex, eH⟩ hr' => ?_
      · rw [hbi kV doc pm an cdv ct u1 u2 l1]
        refine wpAny_bind (wpAny_newTuple (wpAny_pure ?_) l2)
        have new : ObjOk P w (upd H s.heap.objs.size (.tup (vs.drop ps.length))) (s.heap.push ({ cls := .type "tuple", data := .seq u2.toArray } : Obj)) s.heap.objs.size (.tup (vs.drop ps.length)) :=
          ⟨by rw [r2.length]; exact l2, u2, r2, ⟨_, Heap.get?_push_size _ rfl, rfl, _, rfl⟩⟩
        have un := StX.un_laid (fs := frs outer) (s := s) (o := ({ cls := .type "tuple", data := .seq u2.toArray } : Obj)) (u := .tup (vs.drop ps.length)) hn0
        have z := go _ _ (vs.take ps.length ++ [V.ref s.heap.objs.size]) (u1 ++ [Value.ref s.heap.objs.size]) (StX.env0_laid e0 new) un rfl (fun e s' => StX.cxUp outer s H _ _ E e s' un (fun b o q => Heap.get?_push_of_some _ q) rfl) (r1.append (.cons rfl .nil))
          (by rw [List.length_append, List.length_append, List.length_take]; simp; omega) ⟨_, hn0, rfl, rfl⟩
        rw [List.zip_append l1.symm] at z
        exact z
      · subst ex eH
        obtain ⟨le, R2⟩ := R.newG (.tup (vs.drop ps.length)) hp
        have r' : Rps K cm ⟨upd W.G p (.tup (vs.drop ps.length)), W.r, W.pn⟩ (ds.take ps.length ++ [.tup (ds.drop ps.length)]) (vs.take ps.length ++ [V.ref p]) := ((r.up le).take _).app (.cons (.tup upd_same ((r.up le).drop _)) .nil)
        have hl : (ds.take ps.length ++ [D.tup (ds.drop ps.length)]).length = ps.length + 1 := by rw [List.length_append, List.length_take]; simp; omega
        refine ⟨_, hb cdv A outer s2 _ E hr' hg, _, _, cs, R2, start_en r' N (by rw [← r'.length, hl]; simpa using hpl), ?_⟩
        unfold runDef at h
        rw [if_pos hl] at h
        rw [hl]
        have h' : PostF K cm ⟨upd W.G p (.tup (vs.drop ps.length)), W.r, W.pn⟩ _ Q E := PostF.up le h
        exact h'.toS
    · exact absurd rfl e
  · exact h.elim
end
section
variable {X : Cx} {cm : Nat → Addr} {Y : WX} {k c : Nat} {f : Addr} {F : List D → List Cell → Out D}
theorem FnP.of {P : Program} {w : World} {K : PySem.W.Frag} {mg : Str → Option Value} {base : Heap} {fd : FuncData} {ps : List Str} {n l : Nat} {g : List D → List D → List D} (B : FnB P w K mg base cm k f fd ps F) (a : Arg K cm fd ps n [] g) (hl : ps.length = l := by rfl) :
    FnP P w K mg base cm k f (fun ds cs => fnK n 0 l F g ds [] cs) := by
  subst hl
  intro A outer s H us vs Q E W ds cs hr hg e0 rv R r h
  obtain ⟨gv, gV, b1, b2, b3⟩ := a.to
  replace h : PostF K cm W (if ds.length = n ∧ (g ds []).length = ps.length then F (g ds []) cs else .no) Q E := h
  split at h
  · rename_i hl
    have X : K.In s.heap := e0.mod.kin.keeps fun b o e => (e0.bs b o e).1
    refine B A outer s H ⟨us, []⟩ (gv us []) (gV vs []) Q E W (g ds []) cs hr hg e0 ?_ (b2 rv .nil) ?_ R (b3 r .nil) h
    · have := b1 s us [] X (by rw [← rv.length, ← r.length]; exact hl.1) rfl
      exact this
    · rw [← (b3 r .nil).length]; exact hl.2
  · exact h.elim
theorem run_p {pins : List (Addr × Obj)} {s : Shared} {σ : L2.St} {H : Hp} {us : List Value} {vs : List V} {Q : VK} {W : Wd} {ds : List D} {cs : List Cell} {A : Around}
    (B : FnP X.prog X.w X.K X.mg X.base cm k f F) (hr : Room k A) (hg : A.guards = some []) (hA : A.frames = some X.stack) (tk : Takes X Y) (I : Inv X pins σ H s) (r : Vals vs us)
    (R : Rel X.K cm W cs H) (q : Rps X.K cm W ds vs) (h : PostE X.K cm Y σ W (F ds cs) Q) :
    codeAny (model X.prog X.w) A (.call (.ref f) ⟨us, []⟩) (fun r s' => match r with
      | .ok (.ret u) => EP X pins σ Q u s'
      | .ok _ => False
      | .error e => X.xe e s') s := by
  have e0 := I.env0
  have e1 : Env0 X.prog X.w X.K X.mg X.base A X.stack s H := ⟨hA, e0.mod, e0.bs, e0.bsz, e0.funs, e0.frf, e0.hok, e0.bare⟩
  refine codeAny_mono (B A X.stack s H us vs Q _ W ds cs hr hg e1 r R q (PostE.toF h)) fun rr s' hq => ?_
  cases rr with
  | error e => exact tk e s' (XE.of_call I (fun _ _ _ z => z) hq)
  | ok fl =>
    cases fl with
    | ret u => exact I.after hq
    | next => exact hq.elim
    | brk => exact hq.elim
    | cont => exact hq.elim
def posK (F : List D → List Cell → Out D) : Fk := fun ds es cs => match es with
  | [] => F ds cs
  | _ => .no
theorem cal_makeP (fz : Bool) (M : Mk X.K (cm c) f) (B : FnP X.prog X.w X.K X.mg X.base cm k f F) (hr : Room (k + 1) X.A) (hg : X.A.guards = some []) (tk : Takes X Y) : Cal X cm Y (.ref (cm c)) [] (mkK c fz (posK F)) := by
  refine ⟨M.kp, fun pins s σ H us ws vs zs Q W ds es cs I r rz hz R q qz h => ?_⟩
  have ez : zs = [] := List.length_eq_zero_iff.mp hz
  subst ez
  cases rz
  cases qz
  have I2 := Inv.made (C := cm c) I
  have R1 := R.junk (p := s.heap.objs.size) (o := .own (s.heap.objs.size + 1)) (I.hok.fresh (Nat.le_refl _))
  have hf : upd H s.heap.objs.size (.own (s.heap.objs.size + 1)) (s.heap.objs.size + 1) = none := by
    rw [upd_ne (Nat.succ_ne_self _)]
    exact I.hok.fresh (Nat.le_succ _)
  obtain ⟨le, R2, e⟩ := R1.newC (c := .ins c []) (o := .ins (cm c) s.heap.objs.size []) hf ⟨rfl, _, _, rfl, .nil⟩
  refine wpAny_call (make_map (f := f) I.kIn M.makes M.init (beq_iff_eq.mp M.fn) (codeAny_mono (run_p (A := X.A.under (.builtin "type.__call__" ⟨.ref (cm c) :: us, []⟩)) (us := .ref (s.heap.objs.size + 1) :: us) (vs := .ref (s.heap.objs.size + 1) :: vs) (Y := Y)
    (ds := .ref cs.length :: ds) (Q := fun v H2 => v = .non ∧ Q (.ref (s.heap.objs.size + 1)) H2) B (hr.make (cm c) us []) ?_ ?_ tk I2 (.cons rfl r) R2 (.cons (.ref e) (q.up le)) ?_) fun rr s' hq => ?_))
  · first
      | exact hg
      | (simp [Around.under, Code.guards, Code.isGuard, guardIds, pushGuards, hg])
  · have := (I.env0.make (cm c) us []).frames
    exact this
  · unfold mkK at h
    cases q1 : posK F (.ref cs.length :: ds) [] (cs ++ [.ins c []]) with
    | no => rw [q1] at h; exact h.elim
    | ex x c1 =>
      have q1' : F (.ref cs.length :: ds) (cs ++ [.ins c []]) = .ex x c1 := q1
      rw [q1']
      rw [q1] at h; exact Wish.up le h
    | ok d c1 =>
      have q1' : F (.ref cs.length :: ds) (cs ++ [.ins c []]) = .ok d c1 := q1
      rw [q1']
      rw [q1] at h
      intro W' H' v l R' r'
      cases r' with
      | non =>
        refine ⟨rfl, ?_⟩
        have h' : PostE X.K cm Y σ W (if fz = true then PV.up (frzD (.ref cs.length) c1) else .ok (.ref cs.length) c1) Q := h
        cases fz with
        | true =>
          rw [if_pos rfl] at h'
          exact frz_go R' (.ref (l.r _ _ e)) ((PostE.down h').up (le.trans l))
        | false =>
          rw [if_neg Bool.false_ne_true] at h'
          exact h' W' H' _ (le.trans l) R' (.ref (l.r _ _ e))
      | _ => exact h.elim
  · cases rr with
    | error e => exact hq
    | ok fl =>
      cases fl with
      | ret u =>
        obtain ⟨v, H', I3, rv, ev, q3⟩ := hq
        subst ev
        exact ⟨rv, ⟨.ref (s.heap.objs.size + 1), H', I3, rfl, q3⟩⟩
      | next => exact hq
      | brk => exact hq
      | cont => exact hq
end
def strO (F : Fk) (d : D) (c : List Cell) : Out D := match seqOf c d with
  | some xs => F xs [] c
  | none => .no
def fStarL (i c : Nat) (F : Fk) (fe : Fe) : Fe := fun σ cs => match σ[i]? with
  | some (some (.cl c')) => if c' = c then (fe σ cs).bind fun d c1 => strO F d c1 else .no
  | _ => .no
def fStarG (F : Fk) (fe : Fe) : Fe := fun σ cs => (fe σ cs).bind fun d c1 => strO F d c1
def fCMeth (c : Nat) (F : List D → List Cell → Out D) (fo : Fe) (ga : Fa) : Fe := fun σ cs => (fo σ cs).bind fun d c1 => match d with
  | .cl c' => if c' = c then (ga σ c1).bind fun ds c2 => F (.cl c :: ds) c2 else .no
  | _ => .no
section
variable {X : Cx} {cm : Nat → Addr} {Y : WX} {k i c : Nat} {F : Fk} {x : Str} {e o : Expr} {es : List Expr} {fe fo : Fe} {ga : Fa} {p sp pos apos : Pos} {v : Value}
theorem star_go {pins : List (Addr × Obj)} {s : Shared} {σ : L2.St} {H : Hp} {Q : VK} {W : Wd} {d : D} {c1 : List Cell} {u : Value} {y : V} (cl : Cal X cm Y v [] F) (I : Inv X pins σ H s) (ry : RelV y u) (R : Rel X.K cm W c1 H) (r : Rp X.K cm W d y) (h : PostE X.K cm Y σ W (strO F d c1) Q) :
    PySem.W.StarOf (model X.prog X.w) X.A X.xe u (fun vs s₂ => X.K.In s₂.heap ∧ wpAny (model X.prog X.w) X.A (call v ([] ++ vs)) (EP X pins σ Q) X.xe s₂) s := by
  unfold strO at h
  split at h
  · rename_i xs ex
    obtain ⟨a, vs, rfl, hq, rr⟩ := seq_of R r ex
    obtain rfl : u = Value.ref a := ry
    exact StX.star_any I hq.symm fun us s2 I2 rv => ⟨I2.kIn, cl.run pins s2 σ H us [] vs [] Q W xs [] c1 I2 rv .nil rfl R rr .nil h⟩
  · exact h.elim
theorem fe_starL (cl : Cal X cm Y (.ref (cm c)) [] F) (hN : X.N[i]? = some x) (hv : Vis X.env.scope x) (he : FE X cm Y e fe) (hdb : (x == ("__debug__" : Str)) = false := by decide) (hcd : (x == ("__classdict__" : Str)) = false := by decide)
    (hst : starEach [.Starred e sp] X.env = [(true, eval e X.env)] := by rfl) : FE X cm Y (.Call (.Name x p) [.Starred e sp] [] pos) (fStarL i c F fe) := by
  refine ⟨fun pins s σ H Q I ⟨W, σd, cs, R, N, P⟩ => ?_⟩
  unfold fStarL at P
  split at P
  · rename_i c' hi
    split at P
    · rename_i hc
      subst hc
      obtain ⟨w, hw, rw0⟩ := N.at_ i _ hi
      cases rw0
      refine wpAny_Call_Name_kw (thn ((pe_var (pos := p) hN hv hdb hcd).run pins s σ H (fun v H1 => v = .ref (cm c') ∧ H1 = H) I ⟨.ref (cm c'), hw, rfl, rfl⟩) fun u s1 ⟨v, H1, I1, r1, q1⟩ => ?_)
      obtain ⟨rfl, rfl⟩ := q1
      obtain rfl : u = Value.ref (cm c') := r1
      refine PySem.W.callWith_S (h₀ := X.base) I.ok.mod.kin cl.kp (thn (he.run pins s1 σ _ _ I1 (tE_go (Q := fun y H1 => ∃ W1 d c1, Rel X.K cm W1 c1 H1 ∧ Rp X.K cm W1 d y ∧ PostE X.K cm Y σ W1 (strO F d c1) Q) R N asksE P fun d c1 _ h1 W1 H1 y l1 R1 N1 r1 => ⟨W1, d, c1, R1, r1, h1.up l1⟩)) fun u s1 ⟨y, H1, I1, ry, W1, d, c1, R1, r1, h1⟩ => ?_) hst
      exact star_go cl I1 ry R1 r1 h1
    · exact P.elim
  · exact P.elim
theorem fe_cmeth {g q : Addr} {mc : Value} {m : Str} {G : List D → List Cell → Out D} {pl : Sem Bool} (ho : FE X cm Y o fo) (r : ClX.CRead X.K (cm c) mc) (cc : ClX.CMet X.K (cm c) mc m q g) (B : FnP X.prog X.w X.K X.mg X.base cm k g G) (hr : Room k X.A) (hg : X.A.guards = some []) (tk : Takes X Y) (ha : FA X cm Y (e :: es) ga)
    (hst : starEach (e :: es) X.env = (false, eval e X.env) :: starEach es X.env := by rfl) (hpl : (backTo pos (starEach es X.env)).any (·.1) = false := by rfl)
    (ht : eval (.Call (.Attribute o m apos) (e :: es) [] pos) X.env = (do
      let ov ← eval o X.env
      standAt apos.atName
      let (f, first) ← holding [ov] (getMethod ov m pl)
      callWith pos f first (backTo pos (starEach (e :: es) X.env)) (backToKw pos (keywordEach [] X.env))) := by rfl) :
    FE X cm Y (.Call (.Attribute o m apos) (e :: es) [] pos) (fCMeth c G fo ga) := by
  refine ⟨fun pins s σ H Q I ⟨W, σd, cs, R, N, P⟩ => ?_⟩
  refine PySem.W.methodCall_KW (pl := pl) (thn (ho.run pins s σ H _ I (tE_go (Q := fun x H1 => x = .ref (cm c) ∧ ∃ W1 c1, Rel X.K cm W1 c1 H1 ∧ En X.K cm W1 σd σ ∧ PostE X.K cm Y σ W1 ((ga σd c1).bind fun ds c2 => G (.cl c :: ds) c2) Q) R N asksE P fun d c1 _ h1 W1 H1 y l1 R1 N1 r1 => ?_)) fun u s1 ⟨x, H1, I1, rx, ex, W1, c1, R1, N1, h1⟩ => ?_) ht
  · split at h1
    · split at h1
      · rename_i c' hc
        subst hc
        cases r1
        exact ⟨rfl, W1, c1, R1, N1, h1.up l1⟩
      · exact h1.elim
    · exact h1.elim
  · subst ex
    obtain rfl : u = Value.ref (cm c) := rx
    refine ClX.getmethcm_ok I1 r cc fun s2 I2 => ?_
    have t := tA_go (Q := fun vs H2 => ∃ W2 ds c2, Rel X.K cm W2 c2 H2 ∧ Rps X.K cm W2 ds vs ∧ PostE X.K cm Y σ W2 (G (.cl c :: ds) c2) Q) R1 N1 asksE h1 fun d2 c2 _ h2 W2 H2 v2 l2 R2 E2 r2 => ⟨W2, d2, c2, R2, r2, h2.up l2⟩
    refine ClX.callwith_cm I2 (ClX.base_none I1 (Nat.le_refl _)) cc.fi (thn (ha.run pos _ s2 σ H1 _ I2 t) fun us s3 ⟨vs, H2, I3, rv, W2, ds, c2, R2, r2, h2⟩ => ⟨⟨ClX.pin_at I3, I3.kIn⟩, ?_⟩) hst hpl
    have z : wpAny (model X.prog X.w) X.A (call (.ref s1.heap.objs.size) us) (EP X ((s1.heap.objs.size, PySem.W.methodObj (.ref g) (.ref (cm c))) :: pins) σ Q) X.xe s3 :=
      wpAny_call (PySem.W.method_call (ClX.pin_at I3) (codeAny_mono (run_p (us := .ref (cm c) :: us) (vs := .ref (cm c) :: vs) B hr hg I3.ok.frames tk I3 (.cons rfl rv) R2 (.cons (.cl c) r2) h2) fun rr s' hq => by
        cases rr with
        | error e => exact hq
        | ok fl => cases fl <;> exact hq))
    exact thn z fun _ _ y => ClX.unpinE y
end
end PV
namespace PV
open PySem PySem.Spec PyProof.Rows L2
structure OwnM (K : PySem.W.Frag) (cm : Nat → Addr) (c : Nat) (m : Str) (f : Addr) : Prop where
  at_ : PySem.W.findIn K (.ref (cm c)) m = some (some (.ref f))
  fn : PySem.W.isFn K (.ref f) = true
section
variable {X : Cx} {cm : Nat → Addr} {k c : Nat} {f : Addr} {F : List D → List Cell → Out D}
def gcAlt (g g' : GC) : GC := fun ds cs => match g ds cs with
  | some r => some r
  | none => g' ds cs
theorem call_alt {id : Value} {g g' : GC} (h : CallR X id (rCa X.K cm g)) (h' : CallR X id (rCa X.K cm g')) : CallR X id (rCa X.K cm (gcAlt g g')) := by
  intro pins s σ H xs us Q I rx ⟨W, ds, cs, R, r, P⟩
  unfold gcAlt at P
  cases q : g ds cs with
  | some z =>
    rw [q] at P
    exact h pins s σ H xs us Q I rx ⟨W, ds, cs, R, r, by rw [q]; exact P⟩
  | none =>
    rw [q] at P
    exact h' pins s σ H xs us Q I rx ⟨W, ds, cs, R, r, P⟩
end
end PV
namespace PV
open PySem PySem.SeqAt GQ
open AutoSeq1 (wpAny_loadPart')
open MeetsSeq MeetsSeq2 MeetsSeq3 SeqRoads2
section
variable {prog : Program} {w : World} {A : Around} {R : Result → Shared → Prop}
end
section
variable {prog : Program} {w : World} {A : Around} {E : Value → Shared → Prop} {s : Shared}
end
end PV
namespace PV
open PySem PySem.Spec PyProof.Rows L2
section
variable {K : PySem.W.Frag} {cm : Nat → Addr} {W : Wd}
end
end PV
namespace PV
open PySem PySem.Spec PyProof.Rows L2
def fCon (c : Nat) (f : Str) (dv : D) (fo : Fe) : Fe := fun σ cs => (fo σ cs).bind fun d c1 => match insOf c1 d with
  | some (c', fs) => if c' = c ∧ fs.lookup f = none then .ok dv c1 else .no
  | none => .no
def fCMethK (c m : Nat) (F : Fk) (fo : Fe) (gk : Fa) : Fe := fun σ cs => (fo σ cs).bind fun d c1 => match d with
  | .cl c' => if c' = c then (gk σ c1).bind fun es c2 => if es.length = m then F [.cl c] es c2 else .no else .no
  | _ => .no
section
variable {X : Cx} {cm : Nat → Addr} {Y : WX} {k c : Nat} {f : Fe} {fo : Fe} {gk : Fa} {e o : Expr} {pos apos : Pos} {kws : List Keyword} {ks : List Str} {nm m : Str} {v : V} {u mc : Value} {dv : D}
end
end PV
namespace PV
open PySem PySem.Spec PyProof.Rows L2
theorem meets_enumerate_newB1 {v : Value} {o : Obj} {H : Heap → Prop} (B : Begins v o H) :
    Meets (Builtin.«enumerate.__new__» ⟨[.type "enumerate", v], []⟩) (fun _ R s => H s.heap ∧
      R (.ok (.ret (.ref (s.heap.push o).objs.size))) { s with heap := (s.heap.push o).push { cls := .type "enumerate", data := .fields #[.none, .bool false, .ref s.heap.objs.size, rawInt 0, .none, .none] } }) :=
  .of_wp fun prog w A R s h => by
    obtain ⟨hp, g, d, tk, os⟩ := s; obtain ⟨h1, h⟩ := h
    have hsub := sub_enumerate
    have q1 : ∀ {A' : Around} {E : Value → Shared → Prop} {Q : Value → Shared → Prop}, Q (.ref hp.objs.size) ⟨hp.push o, g, d, tk, os⟩ → wpAny (model prog w) A' (pyIter v) Q E ⟨hp, g, d, tk, os⟩ :=
      fun q => B.iter prog w _ _ ⟨hp, g, d, tk, os⟩ _ h1 q
    wp_walk using q1
    refine wpAny_stack_any fun st => wpAny_pure ?_
    split
    · rename_i c _ _ _ _ _
      cases (c == Value.type "enumerate")
      · wp_walk using q1
        exact ⟨_, rfl, h⟩
      · wp_walk using q1
        exact ⟨_, rfl, h⟩
    · wp_walk using q1
      exact ⟨_, rfl, h⟩
section
variable {prog : Program} {w : World} {A : Around} {E : Value → Shared → Prop} {s : Shared}
theorem enum_begins1 {v : Value} {o : Obj} {H : Heap → Prop} {Q : Value → Shared → Prop} (B : Begins v o H) (h1 : H s.heap)
    (h : ∀ h', IsEnum h' (s.heap.objs.size + 1) s.heap.objs.size 0 .none → h'.get? s.heap.objs.size = some o → h'.objs.size = s.heap.objs.size + 2 →
      (∀ b o, s.heap.get? b = some o → h'.get? b = some o) → Q (.ref (s.heap.objs.size + 1)) { s with heap := h' }) :
    wpAny (model prog w) A (call (.type "enumerate") [v]) Q E s := by
  refine callType_new F.called_enumerate (by decide) (F.typeCall_enumerate_1 _) (F.newCall_enumerate_1 _) (fun obj => F.args_object_init_2 obj _) F.entry_enumerate_new
    (meets_enumerate_newB1 B) ⟨h1, ?_⟩
  have hz : (s.heap.push o).objs.size = s.heap.objs.size + 1 := Heap.size_push ..
  show _ ∧ _
  rw [hz]
  have he : IsEnum ((s.heap.push o).push { cls := .type "enumerate", data := .fields #[.none, .bool false, .ref s.heap.objs.size, rawInt 0, .none, .none] }) (s.heap.objs.size + 1) s.heap.objs.size 0 .none := by
    have := Heap.get?_push_size (s.heap.push o) (o := { cls := .type "enumerate", data := .fields #[.none, .bool false, .ref s.heap.objs.size, rawInt 0, .none, .none] }) rfl
    rw [hz] at this; exact this
  refine ⟨⟨_, he, rfl⟩, h _ he (Heap.get?_push_of_some _ (Heap.get?_push_size _ B.free)) (by rw [Heap.size_push, hz]) fun b o x => Heap.get?_push_of_some _ (Heap.get?_push_of_some _ x)⟩
theorem wpAny_pyNext_enum_endT {e it l : Addr} {i : Nat} {items : Array Value} {old : Value} {Q : Option Value → Shared → Prop} (hh : A.handled = none)
    (he : IsEnum s.heap e it i old) (hit : s.heap.IsTupleIter it l i) (hl : s.heap.IsTuple l items) (hx : items[i]? = none)
    (hQ : ∀ h', Heap.ExtBut it s.heap h' → Q none { s with heap := h' }) : wpAny (model prog w) A (pyNext (.ref e)) Q E s := by
  have hT : s.TypeIs (.ref e) "enumerate" := ⟨_, he, rfl⟩
  unfold pyNext
  refine wpAny_bind (wpAny_attempt (wpAny_callSpecial?_slot (name := Str.ofString "__next__") hT F.slot_enumerate_next
    (wpAny_call_entry F.slot_enumerate_next hT F.entry_enumerate_next ?_ (F.args_enumerate_next_1 _))))
  show wpAny _ _ (field (.ref e) 2 >>= _) _ _ _
  refine wpAny_bind (wpAny_field he rfl (x := .ref it) rfl ?_)
  refine wpAny_bind (wpAny_nextOf_tuple_end hh hit hl hx fun h' x he' hx' => ?_)
  obtain ⟨o, ho, hc⟩ := hx'
  refine wpAny_bind (wpAny_isInstance (T := "StopIteration") (b := true) ⟨o, ho, hc⟩ isSubtype_stop ?_)
  exact wpAny_pure (hQ _ he')
end
def IteT (K : PySem.W.Frag) (a : Addr) : It :=
  ⟨fun i H => ∃ (xs : List V) (x : V), SqT K H a xs ∧ xs[i]? = some x, fun i H v H' => ∃ T x, v = .ref T ∧ H T = none ∧ H' = upd H T (.tup [.int (i : Nat), x]) ∧ ∀ xs, SqT K H a xs → xs[i]? = some x, fun i H => ∃ xs : List V, SqT K H a xs ∧ xs.length ≤ i⟩
theorem turn_enumT {P : Program} {w : World} {K : PySem.W.Frag} {elts : List Expr} {kk : Nat} {tpos : Pos} (a e it : Addr) :
    Turn P w K (.Tuple elts kk tpos) (IteT K a) [e, it] e (fun i h => (∃ old, IsEnum h e it ((i : Nat) : Int) old) ∧ h.IsTupleIter it a i ∧ e ≠ it ∧ e ≠ a ∧ a ≠ it) where
  mem := by simp
  obj := fun i h st b hb => by
    obtain ⟨⟨old, he⟩, ⟨o, ho, hc, hd⟩, _⟩ := st
    have e' : b = e ∨ b = it := by simpa using hb
    rcases e' with z | z
    · rw [z]; exact ⟨_, he, fun v q => nomatch q⟩
    · rw [z]; exact ⟨o, ho, fun v q => by rw [hd] at q; cases q⟩
  keep := fun i h h' st k => let ⟨⟨old, he⟩, hi, hne⟩ := st; ⟨⟨old, k e (by simp) _ he⟩, hi.at fun o q => k it (by simp) o q, hne⟩
  item := by
    intro X hP hw hK hc i pins s σ H E I hf st hg
    subst hP hw hK
    obtain ⟨⟨old, he⟩, hit, hne, hea, hai⟩ := st
    obtain ⟨xs, x, hq, hx⟩ := hg
    obtain ⟨its, rv, p, hz⟩ := I.tuple hq
    obtain ⟨u, hu, ru⟩ := rv.get hx
    have hel : e < s.heap.objs.size := Heap.lt_size he
    have hil : it < s.heap.objs.size := by obtain ⟨_, q, _⟩ := hit; exact Heap.lt_size q
    have hlt : i < its.toArray.size := by
      have := (List.getElem?_eq_some_iff.mp hu).1
      simpa using this
    have Dr : Draws X.prog X.w X.A.in1 it [it, a] its.toArray.size (fun i v => its.toArray[i]? = some v) (fun i h => h.IsTupleIter it a i ∧ h.IsTuple a its.toArray) := Draws.tuple (A := X.A.in1) (show X.A.in1.handled = none from I.ok.hd hc) it a hai its.toArray
    refine wpAny_pyNext_enum_itemC Dr he ⟨hit, p⟩ hlt hne (by simp [hne, hea]) fun y h' tk hy ho hit' hT hsz hk => ?_
    have ey : y = u := by
      have hy' : its[i]? = some y := by simpa using hy
      rw [hu] at hy'; exact (Option.some.inj hy').symm
    subst ey
    refine ⟨_, rfl, wpAny_letOwnedTupleGo_enum (s := { s with heap := h', toks := tk + 1 }) ho fun h'' he' sb => ?_⟩
    have hT2 : h''.get? s.heap.objs.size = some { cls := .type "tuple", data := .seq #[.int i tk, y] } := (sb.2 _ (Nat.ne_of_gt hel)).trans hT
    have new : ObjOk X.prog X.w (upd H s.heap.objs.size (.tup [.int (i : Nat), x])) h'' s.heap.objs.size (.tup [.int (i : Nat), x]) :=
      ⟨by show 2 ≤ sizeLine; decide, [.int i tk, y], .cons ⟨_, rfl⟩ (.cons ru .nil), ⟨_, hT2, rfl, _, rfl⟩⟩
    have I1 : Inv X pins σ (upd H s.heap.objs.size (.tup [.int (i : Nat), x])) { s with heap := h'', toks := tk + 1 } :=
      I.turnedNew (ch := [e, it]) (fun b ob hb q => (sb.2 b (fun z => hb (by simp [z]))).trans (hk b ob (fun z => hb (by simp [z])) (fun z => hb (by simp [z])) q)) hf (Nat.le_refl _) new
    refine ⟨.ref s.heap.objs.size, _, I1, rfl, ⟨_, x, rfl, I.hok.fresh (Nat.le_refl _), rfl, fun ys hy => by rw [I.tuple_inj hy hq]; exact hx⟩, ⟨⟨y, ?_⟩, hit'.1.at fun o q => (sb.2 it (Ne.symm hne)).trans q, hne, hea, hai⟩, fun b hb => ?_⟩
    · have e1 : ((i + 1 : Nat) : Int) = (i : Int) + 1 := by omega
      rw [e1]; exact he'
    · have hb' : b < s.heap.objs.size := by
        have e' : b = e ∨ b = it := by simpa using hb
        rcases e' with z | z
        · rw [z]; exact hel
        · rw [z]; exact hil
      rw [upd_ne (Nat.ne_of_lt hb')]
      exact (hf b hb).1
  done := by
    intro X hP hw hK hc i pins s σ H E I hf st hg
    subst hP hw hK
    obtain ⟨⟨old, he⟩, hit, hne, hea, hai⟩ := st
    obtain ⟨xs, hq, hx⟩ := hg
    obtain ⟨its, rv, p, hz⟩ := I.tuple hq
    obtain ⟨f0, f1, f2, f3, f4, f5⟩ := hf it (by simp)
    have hl := rv.length
    refine wpAny_pyNext_enum_endT (I.ok.hd hc) he hit p (by simp; omega) fun h' eb => ⟨rfl, I.turned (t' := s.toks) (fun b o hb q => eb b o hb q) f0 f1 f3 f4 f5⟩
  self := fun A i s Q E st h => let ⟨⟨_, he⟩, _⟩ := st; wpAny_pyIter_enum he h
def iEnumT (K : PySem.W.Frag) (ta : TA) : TI := fun σ H R => ta σ H fun vs H1 => ∃ a xs, vs = [.ref a] ∧ SqT K H1 a xs ∧ R (IteT K a) H1
theorem pi_enumT {X : Cx} {e : Expr} {ta : TA} {p pos tpos : Pos} {elts : List Expr} {kk : Nat} (hg : Gl X "enumerate") (hm : X.mg "enumerate" = none) (ha : PA X [e] ta) (hs : starEach [e] X.env = [(false, eval e X.env)] := by rfl) :
    PI X (.Tuple elts kk tpos) (.Call (.Name "enumerate" p) [e] [] pos) (iEnumT X.K ta) := by
  refine ⟨fun pins s σ H R I h => ?_⟩
  refine Call_ (ld_blt I hg hm boot_enumerate (PyProof.Rows.callWith_type1 (thn (ha.run pos pins s σ H _ I h) fun us s1 ⟨vs, H1, I1, r1, q1⟩ => ?_) hs rfl))
  obtain ⟨a, xs, ex, hq, q⟩ := q1
  subst ex
  cases r1 with
  | cons r rr =>
    cases rr
    cases r
    obtain ⟨its, rv, p', hz⟩ := I1.tuple hq
    have hal : a < s1.heap.objs.size := by obtain ⟨_, q, _⟩ := p'; exact Heap.lt_size q
    refine enum_begins1 (begins_tuple a its.toArray) p' fun h' he hit hsz hk => wpAny_pyIter_enum he ?_
    have I2 : Inv X pins σ H1 { s1 with heap := h' } := I1.kept (t' := s1.toks) hk
    refine ⟨s1.heap.objs.size + 1, [s1.heap.objs.size + 1, s1.heap.objs.size], _, _, H1, rfl, I2, turn_enumT a (s1.heap.objs.size + 1) s1.heap.objs.size, ⟨⟨.none, he⟩, ⟨_, hit, rfl, rfl⟩, Nat.succ_ne_self _, Nat.ne_of_gt (Nat.lt_succ_of_lt hal), Nat.ne_of_lt hal⟩, fun b hb => ?_, q⟩
    have e' : b = s1.heap.objs.size + 1 ∨ b = s1.heap.objs.size := by simpa using hb
    have hle : s1.heap.objs.size ≤ b := by
      rcases e' with z | z
      · rw [z]; exact Nat.le_add_right _ _
      · rw [z]; exact Nat.le_refl _
    exact I1.fpOk hle (I1.hok.fresh hle)
section
variable {X : Cx} {cm : Nat → Addr} {Y : WX} {tg l : Expr} {fe : Fe}
def iEnmT (f : Fa) : Fi := fun σ cs => (f σ cs).bind fun ds c => match ds with
  | [.tup xs] => .ok (enD 0 xs) c
  | _ => .no
theorem fi_enumT {e : Expr} {fa : Fa} {p tpos : Pos} {elts : List Expr} {kk : Nat} (hm : X.mg "enumerate" = none) (ha : FA X cm Y [e] fa) (hg : Gl X "enumerate" := by rfl) (hs : starEach [e] X.env = [(false, eval e X.env)] := by rfl) :
    FI X cm Y (.Tuple elts kk tpos) (.Call (.Name "enumerate" p) [e] [] pos) (iEnmT fa) := PI.weak (pi_enumT hg hm ha hs) fun σ H Q ⟨W, σd, cs, R, N, P⟩ => by
  refine tA_go R N asksI P fun d c1 _ h1 W1 H1 v l1 R1 N1 r1 => ?_
  split at h1
  · obtain ⟨w, rfl, q⟩ := r1.one
    cases q with
    | @tup xs a vs g q =>
      refine ⟨a, vs, rfl, SqT.of (R1.sub _ _ g), h1 W1 H1 _ l1 R1 fun i W2 cs2 H2 l2 R2 => ?_⟩
      obtain ⟨lg, lr⟩ := pin_le l2
      have s2 : SqT X.K H2 a vs := SqT.of (R2.sub _ _ (lg _ _ g))
      refine ⟨fun d hd => ?_, fun hd => ⟨vs, s2, ?_⟩⟩
      · obtain ⟨d', h2, rfl⟩ := enD_get hd
        obtain ⟨x, hx, rx⟩ := q.get h2
        refine ⟨⟨vs, x, s2, hx⟩, fun y H3 z => ?_⟩
        obtain ⟨T, x', rfl, hT, rfl, hq⟩ := z
        have hy := hq vs s2
        rw [hx] at hy
        cases hy
        rw [Nat.zero_add]
        exact tup2 R2 hT (.int _) (rx.up' lg lr)
      · rw [← q.length, ← enD_len (k := 0)]; exact List.getElem?_eq_none_iff.mp hd
  · exact h1.elim
def walk2 (d : D) (c : List Cell) : Out (List D) := match d with
  | .lst xs => .ok xs c
  | .arg xs => .ok xs c
  | .tup xs => .ok xs c
  | .argT xs => .ok xs c
  | _ => .no
@[simp] theorem walk2_l {xs : List D} {c : List Cell} : walk2 (.lst xs) c = .ok xs c := rfl
@[simp] theorem walk2_a {xs : List D} {c : List Cell} : walk2 (.arg xs) c = .ok xs c := rfl
@[simp] theorem walk2_t {xs : List D} {c : List Cell} : walk2 (.tup xs) c = .ok xs c := rfl
@[simp] theorem walk2_aT {xs : List D} {c : List Cell} : walk2 (.argT xs) c = .ok xs c := rfl
def iSq (f : Fe) : Fi := fun σ cs => (f σ cs).bind fun d c => walk2 d c
theorem fi_sq (hl : FE X cm Y l fe) : FI X cm Y tg l (iSq fe) := ⟨fun pins s σ H Q I ⟨W, σd, cs, R, N, P⟩ => by
  have h : iSq fe σd cs = iSeq fe σd cs ∨ iSq fe σd cs = iTupD fe σd cs := by
    unfold iSq iSeq iTupD
    cases e : fe σd cs with
    | no => exact .inl rfl
    | ex a c => exact .inl rfl
    | ok d c =>
      cases d with
      | tup xs => exact .inr rfl
      | argT xs => exact .inr rfl
      | _ => exact .inl rfl
  rcases h with h | h
  · rw [h] at P; exact (fi_list hl).run pins s σ H Q I ⟨W, σd, cs, R, N, P⟩
  · rw [h] at P; exact (fi_tup hl).run pins s σ H Q I ⟨W, σd, cs, R, N, P⟩⟩
def enm2 (ds : List D) (c : List Cell) : Out (List D) := match ds with
  | [.lst xs] => .ok (enD 0 xs) c
  | [.tup xs] => .ok (enD 0 xs) c
  | _ => .no
@[simp] theorem enm2_l {xs : List D} {c : List Cell} : enm2 [.lst xs] c = .ok (enD 0 xs) c := rfl
@[simp] theorem enm2_t {xs : List D} {c : List Cell} : enm2 [.tup xs] c = .ok (enD 0 xs) c := rfl
def iEn (f : Fa) : Fi := fun σ cs => (f σ cs).bind fun d c => enm2 d c
theorem fi_en {e : Expr} {fa : Fa} {p tpos : Pos} {elts : List Expr} {kk : Nat} {pos : Pos} (hm : X.mg "enumerate" = none) (ha : FA X cm Y [e] fa) (hg : Gl X "enumerate" := by rfl) (hs : starEach [e] X.env = [(false, eval e X.env)] := by rfl) :
    FI X cm Y (.Tuple elts kk tpos) (.Call (.Name "enumerate" p) [e] [] pos) (iEn fa) := ⟨fun pins s σ H Q I ⟨W, σd, cs, R, N, P⟩ => by
  have h : iEn fa σd cs = iEnm fa σd cs ∨ iEn fa σd cs = iEnmT fa σd cs := by
    unfold iEn iEnm iEnmT
    cases e : fa σd cs with
    | no => exact .inl rfl
    | ex a c => exact .inl rfl
    | ok d c =>
      cases d with
      | nil => exact .inl rfl
      | cons d r =>
        cases r with
        | cons d2 r => exact .inl (by cases d <;> rfl)
        | nil =>
          cases d with
          | tup xs => exact .inr rfl
          | _ => exact .inl rfl
  rcases h with h | h
  · rw [h] at P; exact (fi_enum hm ha hg hs).run pins s σ H Q I ⟨W, σd, cs, R, N, P⟩
  · rw [h] at P; exact (fi_enumT hm ha hg hs).run pins s σ H Q I ⟨W, σd, cs, R, N, P⟩⟩
end
end PV
namespace PV
open PySem PySem.Spec PyProof.Rows L2
mutual
def det (n : Nat) : D → Bool
  | .non | .bl _ | .int _ | .str _ => true
  | .tup xs => dets n xs
  | .lst xs => dets n xs
  | .ins c fs => decide (c < n) && detf n fs
  | _ => false
def dets (n : Nat) : List D → Bool
  | [] => true
  | d :: ds => det n d && dets n ds
def detf (n : Nat) : List (Str × D) → Bool
  | [] => true
  | (_, d) :: ds => det n d && detf n ds
end
section
variable {K : PySem.W.Frag} {cm : Nat → Addr} {W : Wd} {n : Nat}
abbrev Inj (cm : Nat → Addr) (n : Nat) : Prop := ∀ c c', c < n → c' < n → cm c = cm c' → c = c'
mutual
theorem det_eq (inj : Inj cm n) : ∀ {d d' : D} {v : V}, det n d = true → det n d' = true → Rp K cm W d v → Rp K cm W d' v → d = d'
  | .non, d', _, _, h', .non, r' => by cases r'; rfl
  | .bl _, d', _, _, h', .bl _, r' => by cases r'; rfl
  | .int _, d', _, _, h', .int _, r' => by cases r'; rfl
  | .str _, d', _, _, h', .str _, r' => by cases r'; rfl
  | .tup xs, d', _, h, h', .tup g q, r' => by
    cases r' with
    | tup g' q' =>
      rw [g] at g'; cases g'
      rw [dets_eq inj (by simpa [det] using h) (by simpa [det] using h') q q']
    | lst g' q' => rw [g] at g'; cases g'
    | ins g' q' => rw [g] at g'; cases g'
    | arg => simp [det] at h'
    | argT => simp [det] at h'
    | dic => simp [det] at h'
    | ref => simp [det] at h'
    | cl => simp [det] at h'
    | exn => simp [det] at h'
    | exw => simp [det] at h'
  | .lst xs, d', _, h, h', .lst g q, r' => by
    cases r' with
    | lst g' q' =>
      rw [g] at g'; cases g'
      rw [dets_eq inj (by simpa [det] using h) (by simpa [det] using h') q q']
    | tup g' q' => rw [g] at g'; cases g'
    | ins g' q' => rw [g] at g'; cases g'
    | arg => simp [det] at h'
    | argT => simp [det] at h'
    | dic => simp [det] at h'
    | ref => simp [det] at h'
    | cl => simp [det] at h'
    | exn => simp [det] at h'
    | exw => simp [det] at h'
  | .ins c fs, d', _, h, h', .ins g q, r' => by
    cases r' with
    | lst g' q' => rw [g] at g'; cases g'
    | tup g' q' => rw [g] at g'; cases g'
    | @ins c' fs' _ dx' vs' g' q' =>
      rw [g] at g'
      have e := Option.some.inj g'
      injection e with e1 e2 e3
      have h1 : c < n ∧ detf n fs = true := by simpa [det] using h
      have h2 : c' < n ∧ detf n fs' = true := by simpa [det] using h'
      have ec := inj c c' h1.1 h2.1 e1
      subst ec e3
      rw [detf_eq inj h1.2 h2.2 q q']
    | arg => simp [det] at h'
    | argT => simp [det] at h'
    | dic => simp [det] at h'
    | ref => simp [det] at h'
    | cl => simp [det] at h'
    | exn => simp [det] at h'
    | exw => simp [det] at h'
  | .arg _, _, _, h, _, _, _ => by simp [det] at h
  | .argT _, _, _, h, _, _, _ => by simp [det] at h
  | .dic _, _, _, h, _, _, _ => by simp [det] at h
  | .ref _, _, _, h, _, _, _ => by simp [det] at h
  | .cl _, _, _, h, _, _, _ => by simp [det] at h
  | .ty _, _, _, h, _, _, _ => by simp [det] at h
  | .exn _, _, _, h, _, _, _ => by simp [det] at h
  | .exw _ _, _, _, h, _, _, _ => by simp [det] at h
theorem dets_eq (inj : Inj cm n) : ∀ {d d' : List D} {v : List V}, dets n d = true → dets n d' = true → Rps K cm W d v → Rps K cm W d' v → d = d'
  | [], d', _, _, h', .nil, r' => by cases r'; rfl
  | d :: ds, d', _, h, h', .cons a t, r' => by
    cases r' with
    | cons b u =>
      have h1 : det n d = true ∧ dets n ds = true := by simpa [dets] using h
      have h2 := by simpa [dets] using h'
      rw [det_eq inj h1.1 h2.1 a b, dets_eq inj h1.2 h2.2 t u]
theorem detf_eq (inj : Inj cm n) : ∀ {d d' : List (Str × D)} {v : List (Str × V)}, detf n d = true → detf n d' = true → Rpf K cm W d v → Rpf K cm W d' v → d = d'
  | [], d', _, _, h', .nil, r' => by cases r'; rfl
  | (k, d) :: ds, d', _, h, h', .cons a t, r' => by
    cases r' with
    | cons b u =>
      have h1 : det n d = true ∧ detf n ds = true := by simpa [detf] using h
      have h2 := by simpa [detf] using h'
      rw [det_eq inj h1.1 h2.1 a b, detf_eq inj h1.2 h2.2 t u]
end
end
abbrev GB := D → D → List Cell → Option Bool
structure At (X : Cx) (n : Nat) (A : Around) : Prop where
  room : Room n A
  gd : A.guards = some []
  fr : A.frames = some X.stack
theorem At.in1 {X : Cx} {n : Nat} {A : Around} (a : At X (n + 1) A) : At X n A.in1 := ⟨a.room.in1, a.gd, a.fr⟩
theorem At.mono {X : Cx} {n m : Nat} {A : Around} (a : At X n A) (h : m ≤ n) : At X m A := ⟨a.room.mono h, a.gd, a.fr⟩
section
variable (X : Cx) (cm : Nat → Addr)
def Grow (pins : List (Addr × Obj)) (σ : L2.St) (W : Wd) (cs : List Cell) (s' : Shared) : Prop := ∃ H' W', W.le W' ∧ Rel X.K cm W' cs H' ∧ Inv X pins σ H' s'
def EqJ (n : Nat) (G : GB) : Prop := ∀ (A : Around) (pins : List (Addr × Obj)) (s : Shared) (σ : L2.St) (H : Hp) (W : Wd) (dx dy : D) (cs : List Cell) (x y : V) (u v : Value) (b : Bool),
  At X n A → Inv X pins σ H s → RelV x u → RelV y v → Rel X.K cm W cs H → Rp X.K cm W dx x → Rp X.K cm W dy y → G dx dy cs = some b →
    wpAny (model X.prog X.w) A (eqBool u v) (fun r s' => r = b ∧ Grow X cm pins σ W cs s') X.xe s
def RcJ (n : Nat) (G : GB) : Prop := ∀ (A : Around) (pins : List (Addr × Obj)) (s : Shared) (σ : L2.St) (H : Hp) (W : Wd) (dx dy : D) (cs : List Cell) (x y : V) (u v : Value) (b : Bool),
  At X n A → Inv X pins σ H s → RelV x u → RelV y v → Rel X.K cm W cs H → Rp X.K cm W dx x → Rp X.K cm W dy y → G dx dy cs = some b →
    wpAny (model X.prog X.w) A (richCompare .Eq u v) (fun r s' => r = .bool b ∧ Grow X cm pins σ W cs s') X.xe s
end
section
variable {X : Cx} {cm : Nat → Addr} {k n m c : Nat} {f : Addr} {fd : FuncData} {F : List D → List Cell → Out D} {tab : Kd → Kd → Option Bool} {nf : List Kd} {ps : List Str} {G G' : GB}
theorem EqJ.mono (h : EqJ X cm n G) (hn : n ≤ m) : EqJ X cm m G := fun A pins s σ H W dx dy cs x y u v b a => h A pins s σ H W dx dy cs x y u v b (a.mono hn)
theorem RcJ.mono (h : RcJ X cm n G) (hn : n ≤ m) : RcJ X cm m G := fun A pins s σ H W dx dy cs x y u v b a => h A pins s σ H W dx dy cs x y u v b (a.mono hn)
theorem Grow.refl {pins : List (Addr × Obj)} {σ : L2.St} {W : Wd} {cs : List Cell} {s : Shared} {H : Hp} (R : Rel X.K cm W cs H) (I : Inv X pins σ H s) : Grow X cm pins σ W cs s := ⟨H, W, .refl W, R, I⟩
end
end PV
namespace PV
open PySem PySem.Spec PyProof.Rows L2
section
variable {X : Cx} {cm : Nat → Addr} {n : Nat} {G : GB}
end
end PV
namespace PV
open PySem PySem.Spec PyProof.Rows L2
def unK (n l : Nat) (F : List D → List Cell → Out D) (g : List D → List D → List D) : List D → List Cell → Out D := fun ds cs => fnK n 0 l F g ds [] cs
def dOwnIn (neg : Bool) (c : Nat) (F : List D → List Cell → Out D) : G2 := fun x y cs => match insOf cs y with
  | some (c', _) => if c' = c then match F [y, x] cs with
    | .ok (.bl b) cs' => some (.bl (if neg then !b else b), cs')
    | _ => none
    else none
  | none => none
section
variable {X : Cx} {cm : Nat → Addr} {k c : Nat} {f : Addr} {F : List D → List Cell → Out D}
end
end PV
namespace PV
open PySem PySem.Spec PyProof.Rows L2
def aStar (fe : Fe) (ga : Fa) : Fa := fun σ cs => (fe σ cs).bind fun d c1 => match seqOf c1 d with
  | some xs => (ga σ c1).bind fun ys c2 => Out.ok (xs ++ ys) c2
  | none => .no
section
variable {X : Cx} {cm : Nat → Addr} {Y : WX} {e e1 e2 : Expr} {es : List Expr} {fe : Fe} {ga : Fa} {p pos : Pos} {v : Value} {F : Fk} {x : Str}
end
end PV
namespace PV
open PySem PySem.Spec PyProof.Rows L2
variable {X : Cx} {cm : Nat → Addr} {Y : WX}
end PV
namespace PV
open PySem PySem.Spec PyProof.Rows L2
section
variable {X : Cx} {cm : Nat → Addr} {Y : WX} {o : Expr} {fo : Fe} {apos pos : Pos}
def fBits (fo : Fe) : Fe := fun σ cs => (fo σ cs).bind fun d c => match d with
  | .int i => .ok (.int (Builtin.Int.intBits i : Nat)) c
  | _ => .no
end
end PV
namespace PV
open PySem PySem.Spec PyProof.Rows L2
section
variable {prog : Program} {w : World} {A : Around} {E : Value → Shared → Prop} {s : Shared} {K : PySem.W.Frag} {x y C : Addr} {ox oy : Obj} {od od' : Option Obj}
structure IdE (K : PySem.W.Frag) (C : Addr) : Prop where
  eq : PySem.W.findIn K (.ref C) "__eq__" = some (some (.builtin "object.__eq__"))
  ne : PySem.W.findIn K (.ref C) "__ne__" = some (some (.builtin "object.__ne__"))
  hm : PySem.W.mroIn K C (.type "object") = some true
end
section
variable {X : Cx} {cm : Nat → Addr} {Y : WX} {c : Nat}
end
end PV
namespace PV
open PySem PySem.Spec PyProof.Rows L2
structure XOk (K : PySem.W.Frag) (C : Addr) : Prop where
  ex : PySem.W.excIn K C [.type "ValueError", .type "Exception", .type "BaseException", .type "object"] "ValueError.__new__" = true
  kp : PySem.W.keepIn K (.ref C) = true
  sb : PySem.W.subIn K (.ref C) (.type "BaseException") = some true
  ty : PySem.W.typeIn K (.ref C) = some (.type "type")
section
variable {X : Cx} {cm : Nat → Addr} {Y : WX} {c : Nat}
def sRaise (c : Nat) : Fs := fun σ cs => .ex (c, []) σ cs
end
section
variable {X : Cx} {cm : Nat → Addr} {Y : WX}
theorem upTo_trans {h h' h'' : Heap} (a : h.UpToSlots h') (b : h'.UpToSlots h'') : h.UpToSlots h'' := fun x o e n => by
  obtain ⟨sl, e'⟩ := a x o e n
  obtain ⟨sl', e''⟩ := b x _ e' n
  exact ⟨sl', e''⟩
theorem Rel.exn {K : PySem.W.Frag} {W : Wd} {cs : List Cell} {H : Hp} (R : Rel K cm W cs H) {a : Addr} {c : Nat} (h0 : H a = none) : ∃ W' : Wd, W.le W' ∧ Rel K cm W' cs (upd H a (.ext (exPhi (cm c) a))) ∧ Rp K cm W' (.exn c) (.ref a) := by
  obtain ⟨le, R'⟩ := R.newG (.ext (exPhi (cm c) a)) h0
  exact ⟨_, le, R', .exn (by show upd W.G a _ a = _; exact upd_same)⟩
theorem En.clear {K : PySem.W.Frag} {W : Wd} {σd : Sd} {σ : L2.St} (h : En K cm W σd σ) (i : Nat) : En K cm W (σd.set i none) (σ.set i none) := by
  refine ⟨by rw [List.length_set, List.length_set]; exact h.len, fun j d e => ?_⟩
  by_cases q : j = i
  · subst q
    rw [List.getElem?_set] at e
    split at e
    · split at e <;> cases e
    · contradiction
  · rw [List.getElem?_set_ne (Ne.symm q)] at e ⊢
    exact h.at_ j d e
theorem not_frs {h base : Heap} {a : Addr} {oe : Obj} {vs : Array Value} (h1 : h.get? a = some oe) (h2 : oe.data = .fields vs) : ∀ {l : List Env}, h.FunFrames base l → a ∉ frs l
  | [], _ => by simp [frs]
  | e :: l, hF => by
    simp only [Heap.FunFrames] at hF
    obtain ⟨_, ⟨L, o, e1, e2, e3, e4⟩, r⟩ := hF
    intro hm
    unfold frs at hm
    rw [List.filterMap_cons, e1] at hm
    rcases List.mem_cons.mp hm with z | z
    · subst z
      rw [e3] at h1
      cases h1
      exact e4 _ h2
    · exact not_frs h1 h2 r z
structure XIs (K : PySem.W.Frag) (C : Addr) : Prop where
  cl : PySem.W.isClsIn K C = true
  ga : PySem.W.findIn K (.ref C) "__getattribute__" = some (some (.builtin "BaseException.__getattribute__"))
  gt : ∃ g, PySem.W.findIn K (.ref C) "__getattr__" = some g
  sb : PySem.W.subIn K (.ref C) (.type "BaseException") = some true
  ha : PySem.W.findIn K (.ref C) "__class__" = some (some (.builtin "object.__class__"))
  hn : PySem.W.specialIn K (.builtin "object.__class__") "__get__" = some (some (.builtin "getset_descriptor.__get__"))
  ht : PySem.W.takesIn K (.builtin "object.__class__") = some true
  hm : PySem.W.mroIn K C (.type "object") = some true
def dIsX (ok : Nat → Bool) (tab : Kd → Kd → Option Bool) : GC := fun ds cs => match ds with
  | [.exn c, .tup ts] => match clsOfs ts with
    | some ks => if ok c = true then match anyTab tab (.cl c) ks with
      | some b => some (.bl b, cs)
      | none => none
      else none
    | none => none
  | [.exn c, k] => match clsOf k with
    | some k' => if ok c = true then match tab (.cl c) k' with
      | some b => some (.bl b, cs)
      | none => none
      else none
    | none => none
  | _ => none
theorem exn_kit {pins : List (Addr × Obj)} {σ : L2.St} {H : Hp} {s : Shared} {c : Nat} {a : Addr} (I : Inv X pins σ H s) (x : XIs X.K (cm c)) (h : H a = some (.ext (exPhi (cm c) a))) : ∃ ox, PySem.W.KitX X.K (.ref a) (.ref (cm c)) (fun h => PySem.W.InstAt h a ox (cm c) none) ∧ PySem.W.InstAt s.heap a ox (cm c) none := by
  obtain ⟨⟨o, vs, e1, e2, e3, e4⟩, _⟩ := I.hok a _ h
  obtain ⟨g, hg⟩ := x.gt
  refine ⟨o, PySem.W.kitx_exc (by simpa [PySem.W.isClsIn] using x.cl) x.ga hg x.sb x.ha x.hn x.ht x.hm, e1, e2, ?_, ?_⟩
  · unfold PySem.W.notCls
    rw [e4]
  · rw [e3]; trivial
theorem call_dIsX {n : Nat} {ok : Nat → Bool} {tab : Kd → Kd → Option Bool} (T : Tab X.K cm n tab) (TX : ∀ c, ok c = true → XIs X.K (cm c)) : CallR X (.builtin "isinstance") (rCa X.K cm (dIsX ok tab)) := by
  intro pins s σ H xs us Q I rx h
  obtain ⟨W, ds, cs, R, r, P⟩ := h
  unfold dIsX at P
  split at P
  · rename_i c ts
    obtain ⟨v, w, rfl, q1, q2⟩ := r.two
    split at P
    · rename_i ks e2
      split at P
      · rename_i hk
        split at P
        · rename_i b e3
          cases q1 with
          | @exn _ a g =>
            cases q2 with
            | @tup _ tp ws g2 qs =>
              cases rx with
              | cons r1 rx =>
                cases rx with
                | cons r2 rx =>
                  cases rx
                  rename_i u1 u2
                  obtain rfl : u1 = Value.ref a := r1
                  obtain rfl : u2 = Value.ref tp := r2
                  obtain ⟨ox, kx, ia⟩ := exn_kit I (TX c hk) (R.sub _ _ g)
                  obtain ⟨_, its, hv, o', t1, t2, nn, t3⟩ := I.hok tp _ (R.sub _ _ g2)
                  have cv := clss_of qs e2
                  have ei : its = ks.map (kdV cm) := ClsV.all cv hv
                  obtain ⟨cl', di', da', sl'⟩ := o'
                  simp only at t2 t3
                  subst t2 t3
                  exact PySem.W.kia_tup kx I.kIn ia t1 (by rw [ei]; exact anyTab_ok T e3) (by simp) fun tk => ⟨.bl b, H, I.tok tk, rfl, P.here R (.bl _)⟩
        · exact absurd rfl P.ne
      · exact absurd rfl P.ne
    · exact absurd rfl P.ne
  · rename_i c k _
    obtain ⟨v, w, rfl, q1, q2⟩ := r.two
    split at P
    · rename_i k' e2
      split at P
      · rename_i hk
        split at P
        · rename_i b e3
          cases q1 with
          | @exn _ a g =>
            cases rx with
            | cons r1 rx =>
              cases rx with
              | cons r2 rx =>
                cases rx
                rename_i u1 u2
                obtain rfl : u1 = Value.ref a := r1
                have cv := cls_of q2 e2
                have e : u2 = kdV cm k' := ClsV.eq cv r2
                subst e
                obtain ⟨ox, kx, ia⟩ := exn_kit I (TX c hk) (R.sub _ _ g)
                exact PySem.W.kia_one kx I.kIn ia (T.ans _ _ _ e3) (by simp) fun tk => ⟨.bl b, H, I.tok tk, rfl, P.here R (.bl _)⟩
        · exact absurd rfl P.ne
      · exact absurd rfl P.ne
    · exact absurd rfl P.ne
  · exact absurd rfl P.ne
end
def subOf (L : List (Nat × Bool)) : Nat → Option Bool := fun k => (L.find? fun p => p.1 == k).map (·.2)
theorem xsub_all {K : PySem.W.Frag} {cm : Nat → Addr} {L : List (Nat × Bool)} {C : Value} (h : ∀ p ∈ L, PySem.W.exmOne K (.ref (cm p.1)) C = some p.2) : ∀ k b, subOf L k = some b → PySem.W.exmOne K (.ref (cm k)) C = some b := fun k b e => by
  unfold subOf at e
  cases q : L.find? fun p => p.1 == k with
  | none => rw [q] at e; cases e
  | some p =>
    rw [q] at e
    cases e
    have e1 : p.1 = k := by simpa using List.find?_some q
    rw [← e1]
    exact h p (List.mem_of_find?_eq_some q)
theorem exm_mk {K : PySem.W.Frag} {C : Addr} {t : Value} {b : Bool} (h1 : PySem.W.subIn K (.ref C) (.type "BaseException") = some true) (h2 : PySem.W.isClsIn K C = true) (h3 : PySem.W.typeIn K (.ref C) = some (.type "type")) (h4 : PySem.W.subIn K t (.ref C) = some b) : PySem.W.exmOne K t (.ref C) = some b := by
  unfold PySem.W.exmOne PySem.W.kitCls
  have h2' : (PySem.W.clsIn K C).isSome = true := h2
  rw [h1]
  simp [h2', h3, h4]
section
end
end PV
open PySem PySem.Spec PyProof.Rows L2
namespace PV
section
variable {prog : Program} {w : World} {A : Around} {E : Value → Shared → Prop} {s : Shared} {l : Addr}
end
section
variable {X : Cx} {cm : Nat → Addr}
def dMaxT : GC := fun ds cs => match ds with
  | [.tup xs] => match intsOf xs with
    | some (n :: ns) => some (.int (maxL (n :: ns)), cs)
    | _ => none
  | _ => none
@[simp] theorem dMaxT_2 {i j : Int} {cs : List Cell} : dMaxT [.tup [.int i, .int j]] cs = some (.int (maxL [i, j]), cs) := rfl
end
end PV
namespace PV
open PySem PySem.Spec PyProof.Rows L2
structure OddR (K : PySem.W.Frag) (C : Addr) (op : Operator) (t : String) : Prop where
  a : ∃ fo, PySem.W.findIn K (.type t) (PySem.dunder op.info.2) = some fo
  b : ∃ ro, PySem.W.findIn K (.type t) (dunderR op.info.2) = some ro
  s : PySem.W.subIn K (.type t) (.ref C) = some false
section
open PySem.W
variable {prog : Program} {w : World} {A : Around} {E : Value → Shared → Prop} {s : Shared} {K : Frag} {x C L f : Addr} {h₀ : Heap} {m : Str → Option Value} {ox : Obj} {od : Option Obj} {T : String}
end
section
variable {X : Cx} {cm : Nat → Addr} {Y : WX} {k c n : Nat} {f : Addr} {F : List D → List Cell → Out D} {fa fb : Fe} {a b : Expr} {pos : Pos} {T : List String} {tab : Kd → Kd → Option Bool}
end
end PV
theorem L2H.RoomH.units {k : Nat} {A : PySem.Around} (r : L2H.RoomH k A) : A.units + 64 < PySem.cLine := by
  have q := r.un
  omega
namespace PV
open PySem PySem.Spec PyProof.Rows L2
open L2H (RoomH)
section
variable {P : Program} {w : World} {K : PySem.W.Frag} {mg : Str → Option Value} {base : Heap} {cm : Nat → Addr}
end
section
variable {X : Cx} {cm : Nat → Addr} {Y : WX} {k n m l : Nat} {f : Addr} {fd : FuncData} {ps ks : List Str} {F : List D → List Cell → Out D} {g : List D → List D → List D}
def noXF (F : List D → List Cell → Out D) : List D → List Cell → Out D := fun ds cs => noX (F ds cs)
end
def sTryS (sub : Nat → Option Bool) (i : Nat) (fb fh : Fs) : Fs := fun σ cs => match fb σ cs with
  | .ex x σ' cs' => match sub x.1 with
    | some true => if x.2 = [] then (match fh (σ'.set i (some (.exn x.1))) cs' with
      | .nx τ c => .nx (τ.set i none) c
      | .bk τ c => .bk (τ.set i none) c
      | .ct τ c => .ct (τ.set i none) c
      | .rt d c => .rt d c
      | _ => .no) else .no
    | some false => .ex x σ' cs'
    | none => .no
  | r => r
section
variable {X : Cx} {cm : Nat → Addr} {Y : WX}
abbrev gone (i : Nat) (E : Ends) : Ends := { nx := fun τ H => E.nx (τ.set i none) H, rt := E.rt, bk := fun τ H => E.bk (τ.set i none) H, ct := fun τ H => E.ct (τ.set i none) H }
theorem roomS {k : Nat} {A : Around} {v : Option Value} (r : Room k A) : RoomH k (A.mark v) := ⟨r.dp, r.un⟩
end
def sTryO (sub : Nat → Option Bool) (fb fh : Fs) : Fs := fun σ cs => match fb σ cs with
  | .ex x σ' cs' => match sub x.1 with
    | some true => if x.2 = [] then (match fh σ' cs' with
      | .ex _ _ _ => .no
      | r => r) else .no
    | some false => .ex x σ' cs'
    | none => .no
  | r => r
section
variable {X : Cx} {cm : Nat → Addr} {Y : WX}
end
end PV
namespace PV
open PySem PySem.Spec PyProof.Rows L2
section
variable {X : Cx} {cm : Nat → Addr} {Y : WX} {tg : Expr} {pos : Pos}
end
end PV
open PySem PySem.Spec PyProof.Rows L2
namespace PV
section
variable {P : Program} {w : World} {A : Around} {E : Value → Shared → Prop} {s : Shared}
end
section
variable {X : Cx}
end
end PV
open PySem PySem.Spec PyProof.Rows L2
namespace PV
section
variable {X : Cx} {cm : Nat → Addr} {Y : WX}
end
end PV
open PySem PySem.Spec PyProof.Rows L2
namespace PV
end PV
open PySem PySem.Spec PyProof.Rows L2
namespace PV
def ZSt (z TI TO i1 i2 a b q : Addr) (i : Nat) (h : Heap) : Prop :=
  IsPair h TI (.ref i1) (.ref i2) ∧ h.IsListIter i1 a i ∧ h.IsListIter i2 b i ∧ (∃ x y, IsPair h TO x y) ∧ (IsZip h z TI TO .none ∨ ∃ T f oT, IsZipHeld h z TI TO T f ∧ h.get? T = some oT ∧ T ≠ z ∧ T ≠ i1 ∧ T ≠ i2 ∧ T ≠ q)
theorem ZSt.keep {z TI TO i1 i2 a b q : Addr} {i : Nat} {h h' : Heap} (st : ZSt z TI TO i1 i2 a b q i h) (nq : ∀ c ∈ [z, TI, TO, i1, i2], c ≠ q) (k : ∀ c o, c ≠ q → h.get? c = some o → h'.get? c = some o) : ZSt z TI TO i1 i2 a b q i h' := by
  obtain ⟨hTI, h1, h2, ⟨x, y, hTO⟩, hz⟩ := st
  refine ⟨k _ _ (nq TI (by simp)) hTI, h1.at fun o e => k _ o (nq i1 (by simp)) e, h2.at fun o e => k _ o (nq i2 (by simp)) e, ⟨x, y, k _ _ (nq TO (by simp)) hTO⟩, ?_⟩
  rcases hz with hz | ⟨T, f, oT, hz, hT, r1, r2, r3, r4⟩
  · exact .inl (k _ _ (nq z (by simp)) hz)
  · exact .inr ⟨T, f, oT, k _ _ (nq z (by simp)) hz, k _ _ r4 hT, r1, r2, r3, r4⟩
section
variable {X : Cx} {pins : List (Addr × Obj)} {σ : L2.St} {A1 : Around} {z TI TO i1 i2 a b q : Addr} {H0 : Hp} {xs ys : List V} {Q : VK} {Rs : Result → Shared → Prop}
end
section
variable {X : Cx} {cm : Nat → Addr} {Y : WX}
def dLZ (x y : D) (cs : List Cell) : Rs D := match lstOf cs x, lstOf cs y with
  | some xs, some ys => some (.lst (zpD xs ys), cs)
  | _, _ => none
def fLZ (fa fb : Fe) : Fe := fun σ cs => (fa σ cs).bind fun x c1 => (fb σ c1).bind fun y c2 => up (dLZ x y c2)
end
end PV
open PySem PySem.Spec PyProof.Rows L2
namespace PV
section
variable {X : Cx} {cm : Nat → Addr}
end
end PV
open PySem PySem.Spec PyProof.Rows L2
namespace PV
def gTL (n : Nat) (g : Gts) : Gt := fun d σ c => match lstOf c d with
  | some xs => if xs.length = n then g xs σ c else none
  | none => none
def gAl (g g' : Gt) : Gt := fun d σ c => match g d σ c with
  | some r => some r
  | none => g' d σ c
section
variable {X : Cx} {cm : Nat → Addr} {pos : Pos}
end
end PV
open PySem PySem.Spec PyProof.Rows L2
namespace PV
section
variable {X : Cx} {cm : Nat → Addr}
end
end PV
open PySem PySem.Spec PyProof.Rows L2
namespace PV
def strsD : List D → Option (List Str)
  | [] => some []
  | .str x :: ds => match strsD ds with
    | some ys => some (x :: ys)
    | none => none
  | _ => none
theorem strsD_of {K : PySem.W.Frag} {cm : Nat → Addr} {W : Wd} : ∀ {ds : List D} {vs : List V} {ys : List Str}, Rps K cm W ds vs → strsD ds = some ys → vs = ys.map V.str
  | _, _, _, .nil, e => by cases e; rfl
  | d :: ds, _, _, .cons h r, e => by
    cases h with
    | str x =>
      have e' : (match strsD ds with | some ys => some (x :: ys) | none => none) = some _ := e
      cases q : strsD ds with
      | none => rw [q] at e'; cases e'
      | some ys =>
        rw [q] at e'
        cases e'
        rw [strsD_of r q]
        rfl
    | _ => cases e
def sJoin : G2 := fun x y cs => match x with
  | .str a => match seqOf cs y with
    | some ds => match strsD ds with
      | some ys => if (ys.map (·.length)).sum + ys.length * a.length ≤ 16777216 then some (.str (Txt.join a ys), cs) else none
      | none => none
    | none => none
  | _ => none
def sSplit (fz : Bool) : G2 := fun x y cs => match x, y with
  | .str a, .str b => if (b.length == 0) = false ∧ a.length + 2 ≤ sizeLine then mkL fz ((Txt.split a b).map .str) cs else none
  | _, _ => none
def fSm (g : G2) (fo fa : Fe) : Fe := fun σ cs => (fo σ cs).bind fun d c1 => match d with
  | .str _ => (fa σ c1).bind fun y c2 => up (g d y c2)
  | _ => .no
theorem rps_strs {K : PySem.W.Frag} {cm : Nat → Addr} {W : Wd} : ∀ ys : List Str, Rps K cm W (ys.map .str) (ys.map V.str)
  | [] => .nil
  | y :: ys => .cons (.str y) (rps_strs ys)
section
variable {X : Cx} {cm : Nat → Addr} {Y : WX} {o e : Expr} {fo fa : Fe}
theorem mt_sJoin : MtR X "str.join" (rMt X.K cm fun d as cs => match as with | [y] => sJoin d y cs | _ => none) := by
  intro pins s σ H x xs v us Q I rx ru h
  obtain ⟨W, d, ds, cs, R, r, rs, P⟩ := h
  match ds, rs, P with
  | [], _, P => exact (P.ne rfl).elim
  | _ :: _ :: _, _, P => exact (P.ne rfl).elim
  | [y], rs, P =>
    obtain ⟨u, rfl, ry⟩ := Rps.one rs
    have P : Post X.K cm W (sJoin d y cs) Q := P
    unfold sJoin at P
    split at P
    · rename_i a
      cases r
      split at P
      · rename_i es ee
        split at P
        · rename_i ys ey
          split at P
          · rename_i hz
            obtain ⟨p, zs, rfl, hs, q⟩ := seq_of R ry ee
            obtain rfl := strsD_of q ey
            exact mt_join pins s σ H _ _ v us Q I rx ru ⟨_, p, ys, rfl, rfl, hs, hz, P.here R (.str _)⟩
          · exact absurd rfl P.ne
        · exact absurd rfl P.ne
      · exact absurd rfl P.ne
    · exact absurd rfl P.ne
theorem mt_sSplit {fz : Bool} : MtR X "str.split" (rMt X.K cm fun d as cs => match as with | [y] => sSplit fz d y cs | _ => none) := by
  intro pins s σ H x xs v us Q I rx ru h
  obtain ⟨W, d, ds, cs, R, r, rs, P⟩ := h
  match ds, rs, P with
  | [], _, P => exact (P.ne rfl).elim
  | _ :: _ :: _, _, P => exact (P.ne rfl).elim
  | [y], rs, P =>
    obtain ⟨u, rfl, ry⟩ := Rps.one rs
    have P : Post X.K cm W (sSplit fz d y cs) Q := P
    unfold sSplit at P
    split at P
    · rename_i a b
      cases r
      cases ry
      split at P
      · rename_i hz
        exact mt_split pins s σ H _ _ v us Q I rx ru ⟨_, _, rfl, rfl, hz.1, hz.2, fun p hp => P.mkL R (rps_strs _) p hp⟩
      · exact absurd rfl P.ne
    · exact absurd rfl P.ne
theorem fe_sm {id : String} {name : Str} {apos pos : Pos} {g : G2} (slot : Slot "str" name id) (ty : typeOf (.builtin id) = pure (.type "method_descriptor")) (rule : MtR X id (rMt X.K cm fun d as cs => match as with | [y] => g d y cs | _ => none)) (ho : FE X cm Y o fo) (he : FE X cm Y e fa)
    (hs : starEach [e] X.env = [(false, eval e X.env)] := by rfl) (hbase : attributeBase o name X.env (eval o X.env) = eval o X.env := by rfl) (hline : (apos.endLine == pos.line) = true := by rfl) :
    FE X cm Y (.Call (.Attribute o name apos) [e] [] pos) (fSm g fo fa) := PE.weak (pe_m1 slot ty rule ho he hs hbase hline) fun σ H Q ⟨W, σd, cs, R, N, P⟩ => by
  refine tE_go R N asksE P fun d c1 _ h1 W1 H1 v l1 R1 N1 r1 => ?_
  split at h1
  · rename_i a
    cases r1
    refine ⟨⟨_, rfl⟩, ?_⟩
    refine tE_go R1 N1 asksE (PostE.up l1 h1) fun y c2 _ h2 W2 H2 u l2 R2 N2 r2 => ?_
    exact ⟨W2, _, [y], c2, R2, .str _, .cons r2 .nil, (PostE.down h2).up l2⟩
  · exact h1.elim
def dStrC : GC := fun ds cs => match ds with
  | [.int i] => if i.natAbs.log2 < 1920 then some (.str (toString i), cs) else none
  | [.str x] => some (.str x, cs)
  | _ => none
theorem call_dStrC : CallR X (.type "str") (rCa X.K cm dStrC) := by
  intro pins s σ H vs us Q I r h
  obtain ⟨W, ds, cs, R, rr, P⟩ := h
  unfold dStrC at P
  split at P
  · split at P
    · rename_i hz
      obtain ⟨v, rfl, r1⟩ := Rps.one rr
      cases r1
      exact call_str_int pins s σ H _ us Q I r ⟨_, rfl, hz, P.here R (.str _)⟩
    · exact absurd rfl P.ne
  · obtain ⟨v, rfl, r1⟩ := Rps.one rr
    cases r1
    exact SkE.call_str_str pins s σ H _ us Q I r ⟨_, rfl, P.here R (.str _)⟩
  · exact absurd rfl P.ne
end
end PV
open PySem PySem.Spec PyProof.Rows L2
namespace PV
def signs (z : Str) : List D := z.cps.toList.map fun c => .str ⟨#[c]⟩
def iTx (f : Fe) : Fi := fun σ cs => (f σ cs).bind fun d c => match d with
  | .str z => .ok (signs z) c
  | _ => .no
def dInS (neg : Bool) : G2 := fun x y cs => match x, y with
  | .str a, .str z => match a.cps.toList with
    | [c] => some (.bl (if neg then !decide (c ∈ z.cps.toList) else decide (c ∈ z.cps.toList)), cs)
    | _ => none
  | _, _ => none
def dIntS : GC := fun ds cs => match ds with
  | [.str a] => match PySem.intText? a with
    | some n => if a.length ≤ 640 then some (.int n, cs) else none
    | none => none
  | _ => none
section
variable {X : Cx} {cm : Nat → Addr} {Y : WX} {tg l : Expr} {fe : Fe}
theorem yields_tx {K : PySem.W.Frag} {W : Wd} (z : Str) : Yields K cm W (signs z) (Its z) := fun i W2 cs2 H2 l2 R2 => by
  refine ⟨fun d hd => ?_, fun hd => ?_⟩
  · unfold signs at hd
    rw [List.getElem?_map] at hd
    cases e : z.cps.toList[i]? with
    | none => rw [e] at hd; cases hd
    | some c =>
      rw [e] at hd
      have hd : some (D.str ⟨#[c]⟩) = some d := hd
      cases hd
      have hi : i < z.cps.size := by
        have := (List.getElem?_eq_some_iff.mp e).1
        simpa using this
      refine ⟨hi, fun y H3 q => ?_⟩
      obtain ⟨e3, c', hc', rfl⟩ := q
      subst e3
      have : c' = c := by
        rw [← Array.getElem?_toList] at hc'
        rw [e] at hc'
        cases hc'
        rfl
      subst this
      exact ⟨W2, .refl W2, R2, .str _⟩
  · show z.cps.size ≤ i
    unfold signs at hd
    have := List.getElem?_eq_none_iff.mp hd
    simpa using this
theorem fi_tx (hl : FE X cm Y l fe) : FI X cm Y tg l (iTx fe) := PI.weak (pi_str hl) fun σ H Q ⟨W, σd, cs, R, N, P⟩ => by
  refine tE_go R N asksI P fun d c1 _ h1 W1 H1 v l1 R1 N1 r1 => ?_
  split at h1
  · cases r1
    exact ⟨_, rfl, h1 W1 H1 _ l1 R1 (yields_tx _)⟩
  · exact h1.elim
theorem op_dInS : OpR X (compareOp .In) (rO2 X.K cm (dInS false)) := by
  intro pins s σ H x y v u Q I rx ry h
  obtain ⟨W, dx, dy, cs, R, r1, r2, P⟩ := h
  unfold dInS at P
  split at P
  · rename_i a z
    split at P
    · rename_i c e
      have ea : a = ⟨#[c]⟩ := by
        obtain ⟨cps⟩ := a
        have : cps = #[c] := by
          rw [← Array.toList_inj]
          exact e
        rw [this]
      subst ea
      cases r1; cases r2
      exact op_in_sign pins s σ H _ _ v u Q I rx ry ⟨c, z, rfl, rfl, P.here R (.bl _)⟩
    · exact absurd rfl P.ne
  · exact absurd rfl P.ne
theorem call_dIntS : CallR X (.type "int") (rCa X.K cm dIntS) := by
  intro pins s σ H vs us Q I r h
  obtain ⟨W, ds, cs, R, rr, P⟩ := h
  unfold dIntS at P
  split at P
  · split at P
    · rename_i n e
      split at P
      · rename_i hz
        obtain ⟨v, rfl, r1⟩ := Rps.one rr
        cases r1
        exact call_int_str pins s σ H _ us Q I r ⟨_, n, rfl, e, hz, P.here R (.int _)⟩
      · exact absurd rfl P.ne
    · exact absurd rfl P.ne
  · exact absurd rfl P.ne
end
end PV
namespace PV
open PySem PySem.Spec PyProof.Rows L2
section
variable {X : Cx} {cm : Nat → Addr} {Y : WX} {pos : Pos}
def lrO (fz : Bool) (d : D) (c : List Cell) : Rs D := match d with
  | .int j => if -(2 ^ 62) ≤ j ∧ j ≤ 2 ^ 24 then mkL fz (rngD 0 j.toNat) c else none
  | _ => none
def fLR (fz : Bool) (fe : Fe) : Fe := fun σ cs => (fe σ cs).bind fun d c => up (lrO fz d c)
end
section
variable {X : Cx} {cm : Nat → Addr} {Y : WX} {pos : Pos}
def sSub2 (fe fo fi fp fj : Fe) : Fs := fun σ cs => sOf (fe σ cs) σ fun d c => match d with
  | .tup [a, b] => sOf (fo σ c) σ fun d1 c1 => sOf (fi σ c1) σ fun i1 c2 => match setC d1 i1 a c2 with
    | some c3 => sOf (fp σ c3) σ fun d2 c4 => sOf (fj σ c4) σ fun i2 c5 => match setC d2 i2 b c5 with
      | some c6 => .nx σ c6
      | none => .no
    | none => .no
  | _ => .no
end
end PV
namespace PV
open PySem PySem.Spec PyProof.Rows L2
def frzI (f : Str) (d : D) (cs : List Cell) : Rs D := match d with
  | .ref n => match cs[n]? with
    | some (.ins c fs) => match fs.lookup f with
      | some (.ref j) => match cs[j]? with
        | some (.lst xs) => some (.ins c (putD f (.lst xs) fs), (cs.set j .dead).set n .dead)
        | _ => none
      | _ => none
    | _ => none
  | _ => none
section
variable {X : Cx} {cm : Nat → Addr} {Y : WX} {e : Expr} {fa : Fe}
def fFrzI (f : Str) (g : Fe) : Fe := fun σ cs => (g σ cs).bind fun d c => up (frzI f d c)
end
end PV
open PySem PySem.Spec PyProof.Rows L2
namespace PV
section
variable {X : Cx} {cm : Nat → Addr} {Y : WX}
end
end PV
namespace ZM
open PySem PySem.Spec PyProof.Rows L2
def itA (t : Bool) (h : Heap) (i l : Addr) (k : Nat) : Prop := match t with
  | true => h.IsTupleIter i l k
  | false => h.IsListIter i l k
def sqA (t : Bool) (h : Heap) (l : Addr) (xs : Array Value) : Prop := match t with
  | true => h.IsTuple l xs
  | false => h.IsList l xs
theorem itA.ext {t : Bool} {h h' : Heap} {i l : Addr} {k : Nat} {j : Addr} (a : itA t h i l k) (e : Heap.ExtBut j h h') (n : i ≠ j) : itA t h' i l k := by
  cases t
  · exact Heap.IsListIter.extBut a e n
  · exact Heap.IsTupleIter.extBut a e n
theorem sqA.ext {t : Bool} {h h' : Heap} {l : Addr} {xs : Array Value} {j : Addr} (a : sqA t h l xs) (e : Heap.ExtBut j h h') (n : l ≠ j) : sqA t h' l xs := by
  cases t
  · exact Heap.IsList.extBut a e n
  · exact Heap.IsTuple.extBut a e n
theorem itA.at {t : Bool} {h h' : Heap} {i l : Addr} {k : Nat} (a : itA t h i l k) (f : ∀ o, h.get? i = some o → h'.get? i = some o) : itA t h' i l k := by
  cases t
  · exact Heap.IsListIter.at a f
  · exact Heap.IsTupleIter.at a f
theorem itA.obj {t : Bool} {h : Heap} {i l : Addr} {k : Nat} (a : itA t h i l k) : ∃ o, h.get? i = some o ∧ ∀ v, o.data ≠ .seq v := by
  cases t
  · obtain ⟨o, e, _, d⟩ := a
    exact ⟨o, e, fun v q => by rw [d] at q; cases q⟩
  · obtain ⟨o, e, _, d⟩ := a
    exact ⟨o, e, fun v q => by rw [d] at q; cases q⟩
section
variable {prog : Program} {w : World} {A : Around} {E : Value → Shared → Prop} {s : Shared}
end
end ZM
namespace PV
open PySem PySem.Spec PyProof.Rows L2
section
variable {X : Cx} {cm : Nat → Addr} {Y : WX}
end
end PV
namespace PV
open PySem PySem.Spec PyProof.Rows L2 HT
section
variable {prog : Program} {w : World} {A : Around} {E : Value → Shared → Prop} {s : Shared}
end
section
variable {X : Cx}
end
section
variable {X : Cx} {cm : Nat → Addr} {Y : WX} {f : Fe} {e : Expr} {pos : Pos}
end
end PV
namespace PV
open PySem PySem.Spec PyProof.Rows L2
section
variable {X : Cx} {e : Expr} {es : List Expr} {ta : TA} {p1 p2 pos : Pos}
theorem pe_cinit {nm : Str} {CE : Addr} {mc : Value} {pl : Sem Bool} (hg : Gl X nm) (hm : X.mg nm = some (.ref CE)) (r : ClX.CRead X.K CE mc)
    (vV : PySem.W.findCls X.K (.ref CE) mc "__init__" = some (.val (.builtin "ValueError.__init__"))) (ha : PA X (e :: es) ta) (hdb : (nm == ("__debug__" : Str)) = false)
    (hc : eval (.Call (.Attribute (.Name nm p1) "__init__" p2) (e :: es) [] pos) X.env = (do
      let ov ← eval (.Name nm p1) X.env
      standAt p2.atName
      let (f, first) ← holding [ov] (getMethod ov "__init__" pl)
      callWith pos f first (backTo pos (starEach (e :: es) X.env)) (backToKw pos (keywordEach [] X.env))) := by rfl)
    (he : starEach (e :: es) X.env = (false, eval e X.env) :: starEach es X.env := by rfl) (hpl : (backTo pos (starEach es X.env)).any (·.1) = false := by rfl) :
    PE X (.Call (.Attribute (.Name nm p1) "__init__" p2) (e :: es) [] pos) (tVeI X.K ta) := by
  refine ⟨fun pins s σ H Q I h => ?_⟩
  refine PySem.W.methodCall_KW (ld_glob I hg hm ?_ hdb) hc
  refine PySem.W.method_cls I.kIn r.ga (PySem.W.cls_value I.kIn r.rd vV (by decide +kernel) ?_)
  show wpAny _ _ (callWith pos (Value.builtin "ValueError.__init__") [] (backTo pos (starEach (e :: es) X.env)) []) _ _ _
  refine PyProof.Rows.callWith_method1 (thn (ha.run pos pins _ σ H _ (I.tok _) h) fun us s1 ⟨vs, H1, I1, r1, a, C, ws, ev, hl, T, ea, q⟩ => ?_) he hpl
  subst ev
  cases r1 with
  | @cons _ u0 _ ur ra rw' =>
    obtain rfl : u0 = Value.ref a := ra
    have hlen : ur.length ≤ sizeLine := by
      rw [← Paired.length rw', sizeLine_eq]
      omega
    exact oinit_ok T I1 ea hlen fun s' J => ⟨.non, H1, J, rfl, q⟩
end
def spI (K : PySem.W.Frag) (C : Addr) (f : Str) : Sp := fun vs H Q _ => ∃ (a : Addr) (y : V), vs = [.ref a, y] ∧ OexC K C ∧ PySem.W.findIn K (.ref C) f = some none ∧ H a = some (exo a C none) ∧
  ∀ dx, H dx = none → dx ≠ a → Q .non (upd (upd H dx (exd dx [(f, y)])) a (exo a C (some dx)))
section
variable {P : Program} {w : World} {K : PySem.W.Frag} {mg : Str → Option Value} {base : Heap}
theorem init_ok {x qual : Str} {params : Arguments} {scope : Scope} {kws : List (Str × V)} {fI : Addr} {fd : FuncData} {k : Nat} {nm f prm self : Str} {msg : Str} {j : Nat} {C : Addr} {q1 q2 q3 q4 q5 q6 q7 q8 q9 q10 : Pos}
    (F : FunD K x qual params [.Expr (.Call (.Attribute (.Name nm q1) "__init__" q2) [.Name self q3, .Constant (.str msg) j q4] [] q5) q6, .Assign [.Attribute (.Name self q7) f q8] (.Name prm q9) q10] scope [] kws fI fd) (S : FnScope [self, prm] [self, prm] scope)
    (hne : self ≠ prm) (hls : scope.names.lookup self = some .local) (hlp : scope.names.lookup prm = some .local)
    (hb : ∀ (cdv : Value) (A : Around) (outer : List Env) (s : Shared) (H : Hp) (E : XK),
      PE (cxOf (L2.CX P w) P w K mg base [self, prm] qual scope fI cdv A outer s H E) (.Call (.Attribute (.Name nm q1) "__init__" q2) [.Name self q3, .Constant (.str msg) j q4] [] q5) (tVeI K (fun σ H Q => ∃ v, σ[0]? = some (some v) ∧ Q [v, .str msg] H)) ∧
      PS (cxOf (L2.CX P w) P w K mg base [self, prm] qual scope fI cdv A outer s H E) (.Assign [.Attribute (.Name self q7) f q8] (.Name prm q9) q10) (tOst K f (fun σ H Q => ∃ v, σ[0]? = some (some v) ∧ Q v H) (fun σ H Q => ∃ v, σ[1]? = some (some v) ∧ Q v H))) :
    FnOk P w K mg base (L2.CX P w) (k + 1) fI fd [self, prm] (spI K C f) := by
  obtain ⟨oc, od, dV, kV, doc, pm, an, cdv, ct, osl, rfl, lk, hcd, _, _⟩ := F.ex
  refine fn_of lk hcd S (fun vs H Q E h => ?_) fun A outer s H vs Q E hr h => ?_
  · obtain ⟨a, y, rfl, _⟩ := h
    rfl
  · obtain ⟨a, y, rfl, T, hno, ea, q⟩ := h
    obtain ⟨h1, h2⟩ := hb cdv A outer s H E
    refine ⟨_, pss_cons (ps_expr h1) (pss_cons h2 pss_nil), ?_⟩
    refine ⟨.ref a, rfl, a, C, [.str msg], rfl, Nat.le_trans (show 1 ≤ 1000 by decide) (Nat.le_refl _), T, ea, ?_⟩
    refine ⟨y, rfl, .ref a, rfl, a, C, rfl, T, hno, .inl ⟨ea, fun dx hd hn => q dx hd hn⟩⟩
end
theorem subOf_true {L : List (Nat × Bool)} {P : Nat → Prop} (h : ∀ q ∈ L, q.2 = true → P q.1) : ∀ k, subOf L k = some true → P k := fun k e => by
  unfold subOf at e
  cases q : L.find? fun q => q.1 == k with
  | none => rw [q] at e; cases e
  | some p =>
    rw [q] at e
    have h1 := List.mem_of_find?_eq_some q
    have h2 := List.find?_some q
    have h3 : p.1 = k := by simpa using h2
    have e' : p.2 = true := by simpa using e
    rw [← h3]
    exact h p h1 e'
def sRaiseX (c : Nat) (f : Str) (fe : Fe) : Fs := fun σ cs => match fe σ cs with
  | .ok d c1 => .ex (c, [(f, d)]) σ c1
  | .ex x c1 => .ex x σ c1
  | .no => .no
section
variable {X : Cx} {cm : Nat → Addr} {Y : WX} {c : Nat}
theorem fs_raiseX {x f : Str} {arg : Expr} {fa : Fe} {p p3 pos : Pos} {fI : Addr} {k : Nat} {fd : FuncData} {ps : List Str} (O : OexC X.K (cm c)) (iC : PySem.W.findIn X.K (.ref (cm c)) "__init__" = some (some (.ref fI))) (tI : PySem.W.typeIn X.K (.ref fI) = some (.type "function"))
    (hno : PySem.W.findIn X.K (.ref (cm c)) f = some none) (F1 : FnOk X.prog X.w X.K X.mg X.base (L2.CX X.prog X.w) k fI fd ps (spI X.K (cm c) f)) (hr : Room (k + 1) X.A) (hb : Binds X.K fd ps []) (hm : X.mg x = some (.ref (cm c))) (tk : Takes X Y)
    (ha : FA X cm Y [arg] (aCons fa aNil)) (hst : starEach [arg] X.env = (false, eval arg X.env) :: starEach [] X.env := by rfl) (hc : X.calm = true := by rfl) (hg : Gl X x := by rfl) (hdb : (x == ("__debug__" : Str)) = false := by decide) :
    FS X cm Y (.Raise (some (.Call (.Name x p) [arg] [] p3)) none pos) (sRaiseX c f fa) :=
  PS.weak (ps_raise hc tk (pmk_oex (dvs := []) O iC tI F1 hr hb .nil (passes_call tk fun _ _ _ _ h => h.elim) hg hm ha hdb hst)) fun E σ H ⟨W, σd, cs, R, N, P⟩ => by
    refine ⟨W, σd, cs, R, N, ?_⟩
    unfold sRaiseX at P
    have ea : aCons fa aNil σd cs = (fa σd cs).bind fun d c1 => .ok [d] c1 := rfl
    rw [ea]
    cases q : fa σd cs with
    | no => rw [q] at P; exact P.elim
    | ex y c1 =>
      rw [q] at P
      exact fun W' H' dd l R' pay => P W' H' σ dd l R' (N.up l) pay
    | ok d c1 =>
      rw [q] at P
      show ∀ W' H' vs, W.le W' → Rel X.K cm W' c1 H' → Rps X.K cm W' [d] vs → _
      intro W' H' vs l R' r
      match vs, r with
      | [v], .cons rd .nil =>
        refine ⟨by show 1 ≤ 1000; decide, fun a h0 => ?_⟩
        refine ⟨a, v, rfl, O, hno, upd_same, fun dx hd hn => ⟨rfl, dx, [(f, v)], upd_same, ?_, ?_, ?_⟩⟩
        · rw [upd_ne hn, upd_same]
        · rw [upd_ne hn] at hd
          exact hd
        · rw [upd_ne hn] at hd
          have eh : upd (del (upd (upd (upd H' a (exo a (cm c) none)) dx (exd dx [(f, v)])) a (exo a (cm c) (some dx))) a) dx (.xd [(f, v)]) = upd H' dx (.xd [(f, v)]) := by
            funext b
            by_cases hb : b = dx
            · rw [hb, upd_same, upd_same]
            · rw [upd_ne hb, upd_ne hb]
              by_cases hba : b = a
              · rw [hba, del_same, h0]
              · rw [del_ne hba, upd_ne hba, upd_ne hb, upd_ne hba]
          rw [eh]
          obtain ⟨l2, R2⟩ := R'.newG (.xd [(f, v)]) hd
          refine P _ _ σ (some dx) (l.trans l2) R2 (N.up (l.trans l2)) (.inr ⟨by simp, dx, [(f, v)], rfl, upd_same, upd_same, .cons (rd.up l2) .nil⟩)
end
def sTryF (sub : Nat → Option Bool) (f : Str) (fb : Fs) : Fs := fun σ cs => match fb σ cs with
  | .ex x σ' cs' => match sub x.1 with
    | some true => match x.2.lookup f with
      | some d => .rt d cs'
      | none => .no
    | some false => .ex x σ' cs'
    | none => .no
  | r => r
section
variable {X : Cx} {cm : Nat → Addr} {Y : WX}
end
end PV
namespace PV
open PySem PySem.Spec PyProof.Rows L2
def grd (o : Option Nat) (xs : List D) (c : List Cell) : Prop := ∀ k, o = some k → c[k]? = some (.lst xs)
theorem grd_none {xs : List D} {c : List Cell} : grd none xs c := fun _ h => by cases h
abbrev Fic := Sd → List Cell → Out (Option Nat × List D × List D)
section
variable {X : Cx} {cm : Nat → Addr} {Y : WX} {e tg iter l : Expr} {body : List Stmt} {ft : Ft} {fe : Fe} {fb : Fs} {pos : Pos}
def walkC (d : D) (c : List Cell) : Out (Option Nat × List D × List D) := match d with
  | .lst xs => .ok (none, xs, xs) c
  | .arg xs => .ok (none, xs, xs) c
  | .ref k => match c[k]? with
    | some (.lst xs) => .ok (some k, xs, xs) c
    | _ => .no
  | _ => .no
def iSqC (f : Fe) : Fic := fun σ cs => (f σ cs).bind fun d c => walkC d c
end
open Classical in
noncomputable def forC (g : Gt) (fb : Fs) (o : Option Nat) (all : List D) : List D → Fs
  | [] => fun σ c => if grd o all c then .nx σ c else .no
  | d :: ds => fun σ c => if grd o all c then (match g d σ c with
    | none => .no
    | some σ1 => match fb σ1 c with
      | .nx σ2 c2 => forC g fb o all ds σ2 c2
      | .ct σ2 c2 => forC g fb o all ds σ2 c2
      | .bk σ2 c2 => .nx σ2 c2
      | r => r) else .no
section
variable {X : Cx} {cm : Nat → Addr} {Y : WX}
def iZpC (f : Fa) : Fic := fun σ cs => (f σ cs).bind fun ds c => match ds with
  | [.lst xs, .lst ys] => .ok (none, [], zpD xs ys) c
  | [.ref k, .lst ys] => match c[k]? with
    | some (.lst xs) => .ok (some k, xs, zpD xs ys) c
    | _ => .no
  | _ => .no
end
theorem forC_nil {g : Gt} {fb : Fs} {o : Option Nat} {all : List D} {σ : Sd} {c : List Cell} (h : grd o all c) : forC g fb o all [] σ c = .nx σ c := if_pos h
theorem forC_cons {g : Gt} {fb : Fs} {o : Option Nat} {all : List D} {d : D} {ds : List D} {σ : Sd} {c : List Cell} (h : grd o all c) : forC g fb o all (d :: ds) σ c = (match g d σ c with
    | none => .no
    | some σ1 => match fb σ1 c with
      | .nx σ2 c2 => forC g fb o all ds σ2 c2
      | .ct σ2 c2 => forC g fb o all ds σ2 c2
      | .bk σ2 c2 => .nx σ2 c2
      | r => r) := if_pos h
open Classical in
noncomputable def lcC (g : Gt) (ft : Ft) (fe : Fe) (σ : Sd) (o : Option Nat) (all : List D) : List D → List Cell → Out (List D)
  | [], c => if grd o all c then .ok [] c else .no
  | d :: ds, c => if grd o all c then (match g d σ c with
    | none => .no
    | some σ1 => match ft σ1 c with
      | .ok true c1 => match fe σ1 c1 with
        | .ok y c2 => (lcC g ft fe σ o all ds c2).bind fun ys c3 => .ok (y :: ys) c3
        | _ => .no
      | .ok false c1 => lcC g ft fe σ o all ds c1
      | _ => .no) else .no
theorem lcC_nil {g : Gt} {ft : Ft} {fe : Fe} {o : Option Nat} {all : List D} {σ : Sd} {c : List Cell} (h : grd o all c) : lcC g ft fe σ o all [] c = .ok [] c := if_pos h
theorem lcC_cons {g : Gt} {ft : Ft} {fe : Fe} {o : Option Nat} {all : List D} {d : D} {ds : List D} {σ : Sd} {c : List Cell} (h : grd o all c) : lcC g ft fe σ o all (d :: ds) c = (match g d σ c with
    | none => .no
    | some σ1 => match ft σ1 c with
      | .ok true c1 => match fe σ1 c1 with
        | .ok y c2 => (lcC g ft fe σ o all ds c2).bind fun ys c3 => .ok (y :: ys) c3
        | _ => .no
      | .ok false c1 => lcC g ft fe σ o all ds c1
      | _ => .no) := if_pos h
noncomputable def sForC (f : Fic) (g : Gt) (fb : Fs) : Fs := fun σ cs => sOf (f σ cs) σ fun p c => forC g fb p.1 p.2.1 p.2.2 σ c
noncomputable def fLcC (fz : Bool) (fi : Fic) (g : Gt) (ft : Ft) (fe : Fe) (vs : List Nat) : Fe := fun σ cs => (fi σ cs).bind fun p c => lcE fz (lcC g ft fe (wipeD σ vs) p.1 p.2.1 p.2.2 c)
section
variable {X : Cx} {cm : Nat → Addr} {Y : WX} {elt e tg iter l : Expr} {body : List Stmt} {ifs : List Expr} {scope : Scope} {own : List (Str × Nat)} {ft : Ft} {fe : Fe} {fb : Fs} {pos : Pos} {fi : Fic} {g : Gt}
end
end PV
namespace PV
open PySem PySem.Spec PyProof.Rows L2
def dReprN : GC := fun ds cs => match ds with
  | [.non] => some (.str "None", cs)
  | [.str x] => if (reprText x).length ≤ sizeLine then some (.str (reprText x), cs) else none
  | _ => none
theorem call_dReprN {X : Cx} {cm : Nat → Addr} : CallR X (.builtin "repr") (rCa X.K cm dReprN) := by
  intro pins s σ H xs us Q I rx h
  obtain ⟨W, ds, cs, R, r, P⟩ := h
  unfold dReprN at P
  split at P
  · obtain ⟨v, rfl, q⟩ := r.one
    cases q
    obtain ⟨u, rfl, ru⟩ := vals1 rx
    obtain rfl : u = Value.none := ru
    exact PySem.P.repr_of_none ⟨.str _, H, I.tok _, ⟨_, rfl⟩, P.here R (.str _)⟩
  · rename_i x
    obtain ⟨v, rfl, q⟩ := r.one
    cases q
    obtain ⟨u, rfl, ru⟩ := vals1 rx
    obtain ⟨t, rfl⟩ := ru
    split at P
    · rename_i hz
      exact PySem.P.repr_of_str ⟨.str _, H, I.tok _, ⟨_, rfl⟩, P.here R (.str _)⟩ hz
    · exact absurd rfl P.ne
  · exact absurd rfl P.ne
def frzN (d : D) (cs : List Cell) : Rs D := match d with
  | .ref i => frzD (.ref i) cs
  | d => some (d, cs)
def fFrzN (f : Fe) : Fe := fun σ cs => (f σ cs).bind fun d c => up (frzN d c)
section
variable {X : Cx} {cm : Nat → Addr} {Y : WX} {e : Expr} {fa : Fe}
end
end PV
namespace PV
open PySem PySem.Spec PyProof.Rows L2
def keyP : Key → PyData
  | .inl i => .int i
  | .inr x => .str x
mutual
def toPX : D → Option PyData
  | .non => some .none
  | .bl b => some (.bool b)
  | .int i => some (.int i)
  | .str x => some (.str x)
  | .tup xs => (toPXs xs).map .tuple
  | .lst xs => (toPXs xs).map .list
  | .dic kvs => (toPXk kvs).map .dict
  | _ => none
def toPXs : List D → Option (List PyData)
  | [] => some []
  | d :: ds => match toPX d, toPXs ds with
    | some p, some ps => some (p :: ps)
    | _, _ => none
def toPXk : List (Key × D) → Option (List (PyData × PyData))
  | [] => some []
  | (k, d) :: ds => match toPX d, toPXk ds with
    | some p, some ps => some ((keyP k, p) :: ps)
    | _, _ => none
end
section
variable {X : Cx} {cm : Nat → Addr} {W : Wd} {pins : List (Addr × Obj)} {σ : L2.St} {H : Hp} {s : Shared}
theorem key_rd {k : Key} {v : Value} (h : keyIs k v = true) : Reads s.heap v (keyP k) [] := by
  rcases keyIs_shape h with ⟨i, t, rfl, rfl⟩ | ⟨x, t, rfl, rfl⟩
  · exact .int i t
  · exact .str x t
mutual
theorem rdX (I : Inv X pins σ H s) (hS : H sysModules = none) (g : ∀ a o, W.G a = some o → H a = some o) : ∀ {d : D} {v : V} {p : PyData} {u : Value}, Rp X.K cm W d v → toPX d = some p → RelV v u → ∃ as, Reads s.heap u p as ∧ sysModules ∉ as
  | _, _, _, _, .non, e, r => by simp only [toPX] at e; cases e; cases r; exact ⟨_, .none, by simp⟩
  | _, _, _, _, .bl b, e, r => by simp only [toPX] at e; cases e; cases r; exact ⟨_, .bool b, by simp⟩
  | _, _, _, _, .int i, e, r => by simp only [toPX] at e; cases e; obtain ⟨t, rfl⟩ := r; exact ⟨_, .int i t, by simp⟩
  | _, _, _, _, .str x, e, r => by simp only [toPX] at e; cases e; obtain ⟨t, rfl⟩ := r; exact ⟨_, .str x t, by simp⟩
  | _, _, _, _, .tup (ds := ds) (a := a) h q, e, r => by
    simp only [toPX] at e
    cases z : toPXs ds with
    | none => rw [z] at e; cases e
    | some ps =>
      rw [z] at e
      cases e
      cases r
      obtain ⟨its, rv, ⟨o, ho, hc, n, hd⟩, _⟩ := I.tuple (.inl (.inl (g _ _ h)))
      obtain ⟨as, hr, na⟩ := rdXs I hS g q z rv
      exact ⟨_, .tuple ho hc hd hr, na⟩
  | _, _, _, _, .lst (ds := ds) (a := a) h q, e, r => by
    simp only [toPX] at e
    cases z : toPXs ds with
    | none => rw [z] at e; cases e
    | some ps =>
      rw [z] at e
      cases e
      cases r
      obtain ⟨its, rv, ⟨o, n, ho, hc, _, hd⟩, _⟩ := I.list (.inl (.inl (g _ _ h)))
      obtain ⟨as, hr, na⟩ := rdXs I hS g q z rv
      refine ⟨_, .list ho hc hd hr, fun hm => ?_⟩
      rcases List.mem_cons.mp hm with h2 | h2
      · have := g _ _ h
        rw [← h2, hS] at this
        cases this
      · exact na h2
  | _, _, _, _, .dic (ds := ds) (a := a) h q, e, r => by
    simp only [toPX] at e
    cases z : toPXk ds with
    | none => rw [z] at e; cases e
    | some ps =>
      rw [z] at e
      cases e
      cases r
      obtain ⟨_, ne, vs, rel, o, es, ep, ho, hx, hd, _, hp, _⟩ := dk_of I.hok (g _ _ h)
      obtain ⟨as, bs, h1, h2, n1, n2⟩ := rdXk I hS g q z rel hp
      refine ⟨_, .dict ho hx.1 hd h1 h2, fun hm => ?_⟩
      rcases List.mem_cons.mp hm with h3 | h3
      · rw [← h3] at ne
        simp at ne
      · rcases List.mem_append.mp h3 with h4 | h4
        · exact n1 h4
        · exact n2 h4
  | _, _, _, _, .arg h q, e, r => by simp only [toPX] at e; cases e
  | _, _, _, _, .argT h q, e, r => by simp only [toPX] at e; cases e
  | _, _, _, _, .ins h q, e, r => by simp only [toPX] at e; cases e
  | _, _, _, _, .ref h, e, r => by simp only [toPX] at e; cases e
  | _, _, _, _, .cl c, e, r => by simp only [toPX] at e; cases e
  | _, _, _, _, .ty c, e, r => by simp only [toPX] at e; cases e
  | _, _, _, _, .exn h, e, r => by simp only [toPX] at e; cases e
  | _, _, _, _, .exw h _ _, e, r => by simp only [toPX] at e; cases e
theorem rdXs (I : Inv X pins σ H s) (hS : H sysModules = none) (g : ∀ a o, W.G a = some o → H a = some o) : ∀ {ds : List D} {vs : List V} {ps : List PyData} {us : List Value}, Rps X.K cm W ds vs → toPXs ds = some ps → Vals vs us → ∃ as, ReadsAll s.heap us ps as ∧ sysModules ∉ as
  | _, _, _, _, .nil, e, r => by simp only [toPXs] at e; cases e; cases r; exact ⟨_, .nil, by simp⟩
  | _, _, _, _, .cons (d := d) (ds := ds) h q, e, r => by
    simp only [toPXs] at e
    cases z : toPX d with
    | none => rw [z] at e; cases e
    | some p =>
      cases z2 : toPXs ds with
      | none => rw [z, z2] at e; cases e
      | some ps =>
        rw [z, z2] at e
        cases e
        cases r with
        | cons r1 r2 =>
          obtain ⟨as, h1, n1⟩ := rdX I hS g h z r1
          obtain ⟨bs, h2, n2⟩ := rdXs I hS g q z2 r2
          refine ⟨_, .cons h1 h2, fun hm => ?_⟩
          rcases List.mem_append.mp hm with h4 | h4
          · exact n1 h4
          · exact n2 h4
theorem rdXk (I : Inv X pins σ H s) (hS : H sysModules = none) (g : ∀ a o, W.G a = some o → H a = some o) : ∀ {ds : List (Key × D)} {vs : List (Key × V)} {ps : List (PyData × PyData)} {ws : List (Key × Value)} {es : List DictEntry}, Rpk X.K cm W ds vs → toPXk ds = some ps → KV vs ws → Pairs (mixKind X.prog X.w) es ws → ∃ as bs, ReadsAll s.heap (es.map (·.key)) (ps.map (·.1)) as ∧ ReadsAll s.heap (es.map (·.val)) (ps.map (·.2)) bs ∧ sysModules ∉ as ∧ sysModules ∉ bs
  | _, _, _, _, _, .nil, e, r, hp => by
    simp only [toPXk] at e
    cases e
    unfold KV at r
    cases r
    cases hp
    exact ⟨_, _, .nil, .nil, by simp, by simp⟩
  | _, _, _, _, _, .cons (k := k) (d := d) (ds := ds) h q, e, r, hp => by
    simp only [toPXk] at e
    cases z : toPX d with
    | none => rw [z] at e; cases e
    | some p =>
      cases z2 : toPXk ds with
      | none => rw [z, z2] at e; cases e
      | some ps =>
        rw [z, z2] at e
        cases e
        unfold KV at r
        cases r with
        | cons r1 r2 =>
          cases hp with
          | cons hk hv hp =>
            obtain ⟨rk, rv⟩ := r1
            obtain ⟨as, bs, h1, h2, n1, n2⟩ := rdXk I hS g q z2 r2 hp
            obtain ⟨cs, h3, n3⟩ := rdX I hS g h z rv
            have rk : k = _ := rk
            have hk := hk
            rw [← rk] at hk
            rw [← hv] at h3
            refine ⟨_, _, .cons (key_rd hk) h1, .cons h3 h2, by simpa using n1, fun hm => ?_⟩
            rcases List.mem_append.mp hm with h4 | h4
            · exact n3 h4
            · exact n2 h4
end
end
end PV
namespace PV
open PySem PySem.Spec PyProof.Rows L2
def exPhiD (C : Addr) (d : Option Addr) (a : Addr) : Heap → Prop := match d with
  | none => exPhi C a
  | some dd => exPhiW C dd a
section
variable {X : Cx} {cm : Nat → Addr} {Y : WX}
theorem Inv.trackD {pins : List (Addr × Obj)} {σ : L2.St} {H : Hp} {s : Shared} {a C : Addr} {d : Option Addr} {oe : Obj} {vs : Array Value} (I : Inv X pins σ H s) (h0 : H a = none) (hs : X.s_0.heap.get? a = none) (hp : ∀ p ∈ X.pn ++ pins, p.1 ≠ a) (hl : a ≠ X.env.locals) (he : s.heap.get? a = some oe) (hd : oe.data = .fields vs) (hc : oe.cls = .ref C) (hn : oe.dict = d) :
    Inv X pins σ (upd H a (.ext (exPhiD C d a))) s := by
  have ne : ∀ {b u}, H b = some u → b ≠ a := fun {b u} e => ne_of_none e h0
  refine ⟨I.ok, I.os, I.bare, ?_, I.loc, I.cell, ?_, fun x c hx => ?_, fun p hpp => ?_, fun b o hb => ?_, I.len⟩
  · have B := I.base
    refine ⟨B.keep, B.slot, fun b o e1 e2 e3 => ?_, B.there, fun b xs e => ?_, fun b o u e => ?_, fun b ps e => ?_⟩
    · have : b ≠ a := fun z => by rw [z, hs] at e1; cases e1
      rw [upd_ne this]; exact B.free b o e1 e2 e3
    · have q := B.tups b xs e
      rw [upd_ne (ne q)]; exact q
    · have q := B.frzs b o u e
      rw [upd_ne (ne q)]; exact q
    · obtain ⟨more, q⟩ := B.tbls b ps e
      exact ⟨more, by rw [upd_ne (ne q)]; exact q⟩
  · rw [upd_ne (fun z => hl z.symm)]; exact I.free
  · have q := I.freeC x c hx
    have : c ≠ a := fun z => by
      obtain ⟨v, o, e1, e2⟩ := I.cell x c hx
      rw [z, he] at e1
      cases e1
      rw [hd] at e2
      cases e2
    rw [upd_ne this]; exact q
  · obtain ⟨q1, q2, q3⟩ := I.pin p hpp
    exact ⟨q1, by rw [upd_ne (hp p hpp)]; exact q2, q3⟩
  · by_cases z : b = a
    · subst z
      rw [upd_same] at hb
      cases hb
      cases d with
      | none =>
        refine ⟨⟨oe, vs, he, hc, hn, hd⟩, ⟨oe, he⟩, ?_⟩
        rintro h1 h2 ⟨o, us, e1, e2⟩ k
        exact ⟨o, us, k o e1, e2⟩
      | some dd =>
        refine ⟨⟨oe, vs, he, hc, hn, hd⟩, ⟨oe, he⟩, ?_⟩
        rintro h1 h2 ⟨o, us, e1, e2⟩ k
        exact ⟨o, us, k o e1, e2⟩
    · rw [upd_ne z] at hb
      exact (I.hok b o hb).stay (fun _ _ _ e => e) (fun q e => by rw [upd_ne (ne e)]; exact e) (fun q xs e => by rw [upd_ne (ne e)]; exact e)
def exD (x : Xc) : D := if x.2 = [] then .exn x.1 else .exw x.1 x.2
theorem Rel.exD {K : PySem.W.Frag} {W : Wd} {cs : List Cell} {H : Hp} (R : Rel K cm W cs H) {a : Addr} {x : Xc} {d : Option Addr} (pay : Pay K cm W x.2 d H) (h0 : H a = none) : ∃ W' : Wd, W.le W' ∧ Rel K cm W' cs (upd H a (.ext (exPhiD (cm x.1) d a))) ∧ Rp K cm W' (PV.exD x) (.ref a) := by
  rcases pay with ⟨z, rfl⟩ | ⟨z, dd, vs, rfl, hv, hg, rf⟩
  · obtain ⟨W', le, R', r⟩ := R.exn (c := x.1) h0
    refine ⟨W', le, R', ?_⟩
    unfold PV.exD
    rw [if_pos z]
    exact r
  · obtain ⟨le, R'⟩ := R.newG (.ext (exPhiW (cm x.1) dd a)) h0
    refine ⟨_, le, R', ?_⟩
    unfold PV.exD
    rw [if_neg z]
    exact .exw (by show upd W.G a _ a = _; exact upd_same) (le.g _ _ hg) (rf.up le)
def sTryW (sub : Nat → Option Bool) (i : Nat) (fb fh : Fs) : Fs := fun σ cs => match fb σ cs with
  | .ex x σ' cs' => match sub x.1 with
    | some true => (match fh (σ'.set i (some (exD x))) cs' with
      | .nx τ c => .nx (τ.set i none) c
      | .bk τ c => .bk (τ.set i none) c
      | .ct τ c => .ct (τ.set i none) c
      | .rt d c => .rt d c
      | _ => .no)
    | _ => .no
  | r => r
def wTryW (K : PySem.W.Frag) (cm : Nat → Addr) (C : Value) (i : Nat) (fh : Fs) (E : Ends) : WX := fun cls d σ H =>
  ∃ Ce, cls = .ref Ce ∧ PySem.W.exmOne K cls C = some true ∧ ∀ a, H a = none → tS K cm (fun _ _ _ _ => False) fh (gone i E) (σ.set i (some (.ref a))) (upd H a (.ext (exPhiD Ce d a)))
theorem fs_try_asW {body suite : List Stmt} {b0 : Stmt} {more : List ExceptHandler} {fb fh : Fs} {i : Nat} {c : Nat} {n x : Str} {np pos pos' : Pos} {sub : Nat → Option Bool} (hsub : ∀ k b, sub k = some b → PySem.W.exmOne X.K (.ref (cm k)) (.ref (cm c)) = some b)
    (hm : X.mg x = some (.ref (cm c))) (hN : X.N.Nodup) (hi : X.N[i]? = some n) (hli : L2.Loc X.env.scope n) (hfi : X.env.scope.names.lookup n = some .local) (hln : X.env.kindOf n = some .local)
    (hb : ∀ (W : WX) (pn : List (Addr × Obj)) (xe : Value → Shared → Prop), Takes (X.tr pn xe) W → PassesOwn (model X.prog X.w) X.A X.env xe → FSs (X.tr pn xe) cm W body fb)
    (hh : ∀ (a : Addr) (pn : List (Addr × Obj)), FSs (X.suite a pn) cm (fun _ _ _ _ => False) (b0 :: suite) fh)
    (hs : X.stack = X.env :: X.outer := by rfl) (hf : X.env.frame = some X.env.locals := by rfl) (hex : X.ex = [] := by rfl) (hg : Gl X x := by rfl) (hdb : (x == ("__debug__" : Str)) = false := by decide) :
    FS X cm Y (.Try body (.ExceptHandler (some (.Name x np)) (some n) (b0 :: suite) pos' :: more) [] [] pos) (sTryW sub i fb fh) := ⟨fun pins s σ H E I hM => by
  obtain ⟨W, σd, cs, R, N, P⟩ := hM
  refine wpAny_Try_except ?_
  let hd : ExceptHandler := .ExceptHandler (some (.Name x np)) (some n) (b0 :: suite) pos'
  let xe : Value → Shared → Prop := fun e s1 => wpAny (model X.prog X.w) X.A (noteFrame e X.env) (fun _ s2 => wpAny (model X.prog X.w) X.A (setFlight e none) (fun _ s3 => wpAny (model X.prog X.w) X.A (handleBy e X.env (hd :: more)) (SP X pins E) X.xe s3) X.xe s2) X.xe s1
  have tk' : Takes (X.tr (X.pn ++ pins) xe) (wTryW X.K cm (.ref (cm c)) i fh E) := by
    rintro u s' ⟨a, B, sI, pns, σ1, H1, cls, d, rfl, I1, hB, hU, sky, ha, hos, hbare, hw⟩
    have I1' : L2.Inv X pins σ1 H1 sI := I1.ofTry I.ok
    have sky' : Sky B (X.env :: X.outer) a (Zc cls d) X.env.locals s'.heap := hs ▸ sky
    refine Sky.land Zc.steady (by rw [← hs]; exact I.ok.frames) hf sky' fun h' F U => ?_
    obtain ⟨oe, vs, hoe, hz, hd'⟩ := F.there
    have na : a ∉ frs (X.env :: X.outer) := not_frs hoe hd' F.2.2.1
    have hB' : ∀ (b : Addr) (o : Obj), sI.heap.get? b = some o → ¬b ∈ frs X.stack → B.get? b = some o := hB
    have hsI : sI.heap.get? a = none := by
      cases e : sI.heap.get? a with
      | none => rfl
      | some o =>
        have := hB' a o e (by rw [hs]; exact na)
        rw [F.2.1] at this
        cases this
    have nl : a ≠ X.env.locals := fun z => na (by
      unfold frs
      rw [List.filterMap_cons, hf, z]
      exact List.mem_cons_self ..)
    have nf : a ∉ X.fs := fun z => na (by
      unfold frs
      rw [List.filterMap_cons, hf]
      exact List.mem_cons_of_mem _ z)
    have np' : ∀ p ∈ X.pn ++ pins, p.1 ≠ a := fun p hp z => by
      have := (I1'.pin p hp).1
      rw [z, hsI] at this
      cases this
    have n0 : X.s_0.heap.get? a = none := by
      cases e : X.s_0.heap.get? a with
      | none => rfl
      | some o =>
        obtain ⟨o', e'⟩ := I1'.base.there a o e (by rw [hex]; simp)
        rw [hsI] at e'
        cases e'
    have I2 : L2.Inv X pins σ1 H1 { heap := h', gens := s'.gens, drawn := s'.drawn, toks := s'.toks, os := s'.os } := Inv.landed I1' hB' F.1 (upTo_trans hU U) hos hbare
    have ld : ∀ {Q' E' : Value → Shared → Prop}, Q' (.ref (cm c)) { heap := h', gens := s'.gens, drawn := s'.drawn, toks := s'.toks, os := s'.os } → wpAny (model X.prog X.w) (X.A.mark (some (.ref a))) (eval (.Name x np) X.env) Q' E' { heap := h', gens := s'.gens, drawn := s'.drawn, toks := s'.toks, os := s'.os } := fun {Q' E'} q =>
      ld_glob (X := X.suite a ((a, oe) :: (X.pn ++ pins))) (I2.suite hoe hd' ha nl nf) hg hm q hdb
    obtain ⟨Ce, rfl, hx, k⟩ := hw
    refine PX.clause_asZ (K := X.K) I2.kIn (fun o z => z.1) F hx ld fun h2 F2 U2 => ?_
    have F2' : HandSPX.FlyingZ B (X.env :: X.outer) a (Zc (.ref Ce) d) h2 := F2
    obtain ⟨oe2, vs2, hoe2, hz2, hd2⟩ := F2'.there
    have I4 : L2.Inv X pins σ1 H1 { heap := h2, gens := s'.gens, drawn := s'.drawn, toks := s'.toks, os := s'.os } := Inv.landed I1' hB' F2'.1 (upTo_trans (upTo_trans hU U) U2) hos hbare
    have I5 := Inv.trackD I4 ha n0 np' nl hoe2 hd2 hz2.1 hz2.2
    have S5 : L2.Inv (X.suite a (X.pn ++ pins)) [] σ1 (upd H1 a (.ext (exPhiD Ce d a))) { heap := h2, gens := s'.gens, drawn := s'.drawn, toks := s'.toks, os := s'.os } :=
      ⟨I5.ok.suite _ _, I5.os, I5.bare, I5.base, I5.loc, I5.cell, I5.free, I5.freeC, fun p hp => I5.pin p (by rw [List.append_nil] at hp; exact hp), I5.hok, I5.len⟩
    have back : ∀ {τ : L2.St} {H2 : Hp} {t : Shared}, L2.Inv (X.suite a (X.pn ++ pins)) [] τ H2 t → L2.Inv X pins τ H2 t := fun {τ H2 t} J =>
      ⟨I.ok, J.os, J.bare, J.base, J.loc, J.cell, J.free, J.freeC, fun p hp => J.pin p (by rw [List.append_nil]; exact hp), J.hok, J.len⟩
    refine store_ok (X := X.suite a (X.pn ++ pins)) (v := .ref a) S5 hN hi hli rfl (fun s5 I6 => ?_) (.inr hfi)
    refine wpAny_mono ((hh a (X.pn ++ pins)).run [] s5 _ _ (gone i E) I6 (k a ha)) (fun f s6 hq => ?_) fun _ _ e => e
    cases f with
    | next =>
      obtain ⟨σ', H', I7, q⟩ := hq
      exact gone_ok (back I7) hN hi hln fun s7 I8 => ⟨_, _, I8, q⟩
    | brk =>
      obtain ⟨σ', H', I7, q⟩ := hq
      exact gone_ok (back I7) hN hi hln fun s7 I8 => ⟨_, _, I8, q⟩
    | cont =>
      obtain ⟨σ', H', I7, q⟩ := hq
      exact gone_ok (back I7) hN hi hln fun s7 I8 => ⟨_, _, I8, q⟩
    | ret u =>
      obtain ⟨v, σ', H', I7, r, q⟩ := hq
      exact gone_ok (back I7) hN hi hln fun s7 I8 => ⟨v, _, _, I8, r, q⟩
  have run := (hb (wTryW X.K cm (.ref (cm c)) i fh E) (X.pn ++ pins) xe tk' PassesOwn.looking).run [] s σ H { E with nx := fun σ' H' => E.nx σ' H' } (I.toTry xe) ?_
  · refine wpAny_mono run (fun f s1 hq => ?_) fun _ _ e => e
    cases f with
    | next =>
      obtain ⟨σ', H', I', q⟩ := hq
      exact pss_nil.run pins s1 σ' H' E (I'.ofTry I.ok) q
    | brk => obtain ⟨σ', H', I', q⟩ := hq; exact ⟨σ', H', I'.ofTry I.ok, q⟩
    | cont => obtain ⟨σ', H', I', q⟩ := hq; exact ⟨σ', H', I'.ofTry I.ok, q⟩
    | ret u => obtain ⟨v, σ', H', I', r, q⟩ := hq; exact ⟨v, σ', H', I'.ofTry I.ok, r, q⟩
  · refine ⟨W, σd, cs, R, N, ?_⟩
    unfold sTryW at P
    cases q : fb σd cs with
    | nx σ' c' => rw [q] at P; exact P
    | bk σ' c' => rw [q] at P; exact P
    | ct σ' c' => rw [q] at P; exact P
    | rt v c' => rw [q] at P; exact P
    | no => rw [q] at P; exact P.elim
    | ex x' σ' c' =>
      rw [q] at P
      intro W' H' σ2 dd l R' N' pay
      dsimp only at P
      cases e : sub x'.1 with
      | none => rw [e] at P; exact P.elim
      | some b =>
        rw [e] at P
        cases b with
        | true =>
          dsimp only at P
          refine ⟨cm x'.1, rfl, hsub _ _ e, fun a h0 => ?_⟩
          obtain ⟨W2, l2, R2, r2⟩ := R'.exD (x := x') pay h0
          refine ⟨W2, _, c', R2, (N'.up l2).set i r2, ?_⟩
          cases q2 : fh (σ'.set i (some (exD x'))) c' with
          | nx τ c2 =>
            rw [q2] at P
            intro W3 H3 σ3 l3 R3 N3
            exact P W3 H3 _ ((l.trans l2).trans l3) R3 (N3.clear i)
          | bk τ c2 =>
            rw [q2] at P
            intro W3 H3 σ3 l3 R3 N3
            exact P W3 H3 _ ((l.trans l2).trans l3) R3 (N3.clear i)
          | ct τ c2 =>
            rw [q2] at P
            intro W3 H3 σ3 l3 R3 N3
            exact P W3 H3 _ ((l.trans l2).trans l3) R3 (N3.clear i)
          | rt d c2 =>
            rw [q2] at P
            intro W3 H3 v l3 R3 r3
            exact P W3 H3 v ((l.trans l2).trans l3) R3 r3
          | ex y τ c2 => rw [q2] at P; exact P.elim
          | no => rw [q2] at P; exact P.elim
        | false => exact P.elim⟩
def fXf (sub : Nat → Option Bool) (f : Str) (fo : Fe) : Fe := fun σ cs => (fo σ cs).bind fun d c => match d with
  | .exw k fs => match sub k with
    | some true => match fs.lookup f with
      | some v => .ok v c
      | none => .no
    | _ => .no
  | _ => .no
def tXd (f : Str) (K : PySem.W.Frag) (te : TE) : TE := fun σ H Q => te σ H fun x H1 => ∃ a C dd fs v, x = .ref a ∧ H1 a = some (.ext (exPhiW C dd a)) ∧ H1 dd = some (.xd fs) ∧ XfC K C ∧ PySem.W.findIn K (.ref C) f = some none ∧ fs.lookup f = some v ∧ Q v H1
theorem pe_xd {e : Expr} {te : TE} {pos : Pos} {n : Str} (he : PE X e te) (hb : attributeBase e n X.env (eval e X.env) = eval e X.env := by rfl) : PE X (.Attribute e n pos) (tXd n X.K te) := by
  refine ⟨fun pins s σ H Q I h => ?_⟩
  refine attr_of hb (thn (he.run pins s σ H _ I h) fun u s1 hh => ?_)
  obtain ⟨x, H1, I1, rx, a, C, dd, fs, v, ex, hx, ea, T, hno, l, q⟩ := hh
  subst ex
  obtain rfl : u = Value.ref a := rx
  obtain ⟨⟨oe, vs, ha, hc, hdi, hd⟩, _⟩ := I1.hok a _ hx
  have hxd : ObjOk X.prog X.w H1 s1.heap dd (.xd fs) := I1.hok dd _ ea
  obtain ⟨mA, hns, hr⟩ := hxd
  obtain ⟨od, ho, hl⟩ := lookIn_ns hns
  obtain ⟨u, hu, ru⟩ := RelO.some_of (v := v) (o := mA n) (by rw [← l]; exact hr n)
  have J : PySem.W.InstAt s1.heap a oe C (some od) := ⟨ha, hc, by unfold PySem.W.notCls; rw [hd] <;> rfl, by rw [hdi]; exact ho⟩
  exact HandSPX.exc_get I1.kIn J T.ga T.gg T.exC (PySem.W.findObj_own T.hdC hno rfl (by rw [hl, hu])) (handed_of ru) ⟨v, H1, I1.tok _, ru, q⟩
theorem fe_xf {e : Expr} {fo : Fe} {pos : Pos} {f : Str} {sub : Nat → Option Bool} (hT : ∀ k, sub k = some true → XfC X.K (cm k) ∧ PySem.W.findIn X.K (.ref (cm k)) f = some none)
    (he : FE X cm Y e fo) (hb : attributeBase e f X.env (eval e X.env) = eval e X.env := by rfl) : FE X cm Y (.Attribute e f pos) (fXf sub f fo) := PE.weak (pe_xd he hb) fun σ H Q ⟨W, σd, cs, R, N, P⟩ => by
  refine tE_go R N asksE P fun d c1 _ h1 W1 H1 v l1 R1 N1 r1 => ?_
  cases d with
  | exw k fs =>
    dsimp only at h1
    cases hs : sub k with
    | none => rw [hs] at h1; exact h1.elim
    | some b =>
      rw [hs] at h1
      cases b with
      | false => exact h1.elim
      | true =>
        dsimp only at h1
        cases hd : fs.lookup f with
        | none => rw [hd] at h1; exact h1.elim
        | some d0 =>
          rw [hd] at h1
          cases r1 with
          | @exw _ _ a dd vs g g2 rf =>
            obtain ⟨v0, e1, e2⟩ := rf.look hd
            exact ⟨a, cm k, dd, vs, v0, rfl, R1.sub _ _ g, R1.sub _ _ g2, (hT k hs).1, (hT k hs).2, e1, (h1.up l1).here R1 e2⟩
  | _ => exact h1.elim
def dIsW (ok : Nat → Bool) (tab : Kd → Kd → Option Bool) : GC := fun ds cs => match ds with
  | [.exw c _, .tup ts] => match clsOfs ts with
    | some ks => if ok c = true then match anyTab tab (.cl c) ks with
      | some b => some (.bl b, cs)
      | none => none
      else none
    | none => none
  | [.exw c _, k] => match clsOf k with
    | some k' => if ok c = true then match tab (.cl c) k' with
      | some b => some (.bl b, cs)
      | none => none
      else none
    | none => none
  | _ => none
theorem exw_kit {pins : List (Addr × Obj)} {σ : L2.St} {H : Hp} {s : Shared} {c : Nat} {a dd : Addr} {vs : List (Str × V)} (I : Inv X pins σ H s) (x : XIs X.K (cm c)) (h : H a = some (.ext (exPhiW (cm c) dd a))) (h2 : H dd = some (.xd vs)) : ∃ ox od, PySem.W.KitX X.K (.ref a) (.ref (cm c)) (fun h => PySem.W.InstAt h a ox (cm c) (some od)) ∧ PySem.W.InstAt s.heap a ox (cm c) (some od) := by
  obtain ⟨⟨o, us, e1, e2, e3, e4⟩, _⟩ := I.hok a _ h
  have hxd : ObjOk X.prog X.w H s.heap dd (.xd vs) := I.hok dd _ h2
  obtain ⟨mA, hns, hr⟩ := hxd
  obtain ⟨od, ho, hl⟩ := lookIn_ns hns
  obtain ⟨g, hg⟩ := x.gt
  refine ⟨o, od, PySem.W.kitx_exc (by simpa [PySem.W.isClsIn] using x.cl) x.ga hg x.sb x.ha x.hn x.ht x.hm, e1, e2, ?_, ?_⟩
  · unfold PySem.W.notCls
    rw [e4]
  · rw [e3]; exact ho
theorem call_dIsW {n : Nat} {ok : Nat → Bool} {tab : Kd → Kd → Option Bool} (T : Tab X.K cm n tab) (TX : ∀ c, ok c = true → XIs X.K (cm c)) : CallR X (.builtin "isinstance") (rCa X.K cm (dIsW ok tab)) := by
  intro pins s σ H xs us Q I rx h
  obtain ⟨W, ds, cs, R, r, P⟩ := h
  unfold dIsW at P
  split at P
  · rename_i c fs ts
    obtain ⟨v, w, rfl, q1, q2⟩ := r.two
    split at P
    · rename_i ks e2
      split at P
      · rename_i hk
        split at P
        · rename_i b e3
          cases q1 with
          | @exw _ _ a dd vs g g3 rf =>
            cases q2 with
            | @tup _ tp ws g2 qs =>
              cases rx with
              | cons r1 rx =>
                cases rx with
                | cons r2 rx =>
                  cases rx
                  rename_i u1 u2
                  obtain rfl : u1 = Value.ref a := r1
                  obtain rfl : u2 = Value.ref tp := r2
                  obtain ⟨ox, od, kx, ia⟩ := exw_kit I (TX c hk) (R.sub _ _ g) (R.sub _ _ g3)
                  obtain ⟨_, its, hv, o', t1, t2, nn, t3⟩ := I.hok tp _ (R.sub _ _ g2)
                  have cv := clss_of qs e2
                  have ei : its = ks.map (kdV cm) := ClsV.all cv hv
                  obtain ⟨cl', di', da', sl'⟩ := o'
                  simp only at t2 t3
                  subst t2 t3
                  exact PySem.W.kia_tup kx I.kIn ia t1 (by rw [ei]; exact anyTab_ok T e3) (by simp) fun tk => ⟨.bl b, H, I.tok tk, rfl, P.here R (.bl _)⟩
        · exact absurd rfl P.ne
      · exact absurd rfl P.ne
    · exact absurd rfl P.ne
  · rename_i c fs k _
    obtain ⟨v, w, rfl, q1, q2⟩ := r.two
    split at P
    · rename_i k' e2
      split at P
      · rename_i hk
        split at P
        · rename_i b e3
          cases q1 with
          | @exw _ _ a dd vs g g3 rf =>
            cases rx with
            | cons r1 rx =>
              cases rx with
              | cons r2 rx =>
                cases rx
                rename_i u1 u2
                obtain rfl : u1 = Value.ref a := r1
                have cv := cls_of q2 e2
                have e : u2 = kdV cm k' := ClsV.eq cv r2
                subst e
                obtain ⟨ox, od, kx, ia⟩ := exw_kit I (TX c hk) (R.sub _ _ g) (R.sub _ _ g3)
                exact PySem.W.kia_one kx I.kIn ia (T.ans _ _ _ e3) (by simp) fun tk => ⟨.bl b, H, I.tok tk, rfl, P.here R (.bl _)⟩
        · exact absurd rfl P.ne
      · exact absurd rfl P.ne
    · exact absurd rfl P.ne
  · exact absurd rfl P.ne
end
end PV
namespace PV
open PySem PySem.Spec PyProof.Rows L2
def dListT (fz : Bool) : GC := fun ds cs => match ds with
  | [.str z] => if z.cps.size ≤ sizeLine then mkL fz (signs z) cs else none
  | _ => none
theorem rps_signs {K : PySem.W.Frag} {cm : Nat → Addr} {W : Wd} (z : Str) : Rps K cm W (signs z) (z.cps.toList.map fun c => V.str ⟨#[c]⟩) := by
  unfold signs
  generalize z.cps.toList = l
  induction l with
  | nil => exact .nil
  | cons x l ih => exact .cons (.str _) ih
section
variable {X : Cx} {cm : Nat → Addr} {Y : WX}
theorem call_dListT (hc : X.calm = true) (fz : Bool) : CallR X (.type "list") (rCa X.K cm (dListT fz)) := by
  intro pins s σ H xs us Q I rx h
  obtain ⟨W, ds, cs, R, r, P⟩ := h
  unfold dListT at P
  split at P
  · rename_i z
    obtain ⟨v, rfl, q⟩ := r.one
    cases q
    obtain ⟨u, rfl, ru⟩ := vals1 rx
    obtain ⟨t, rfl⟩ := ru
    split at P
    · rename_i hz
      refine call_list_str (I.ok.hd hc) z t (fun h' tk acc' c' hk hS' hacc => ?_) hz
      have hv : Vals (z.cps.toList.map fun c => V.str ⟨#[c]⟩) acc'.toList := by
        have el : acc'.toList.length = acc'.size := by simp
        refine vals_of_at (by rw [List.length_map, el, hacc.1, Array.length_toList]) fun j x w h1 h2 => ?_
        have e := hacc.2 j w (by rw [← Array.getElem?_toList]; exact h2)
        rw [List.getElem?_map] at h1
        obtain ⟨t', c', e1, rfl⟩ := e
        rw [Array.getElem?_toList, e1] at h1
        cases h1
        exact ⟨_, rfl⟩
      refine ⟨.ref s.heap.objs.size, upd H s.heap.objs.size (.lst (z.cps.toList.map fun c => V.str ⟨#[c]⟩)), I.laid (t' := tk) hk (Nat.le_refl _)
        (show ObjOk X.prog X.w _ _ _ (.lst (z.cps.toList.map fun c => V.str ⟨#[c]⟩)) from ⟨by rw [List.length_map, Array.length_toList]; exact hz, acc'.toList, c', hv, by rw [Array.toArray_toList]; exact hS'⟩), rfl, P.mkL R (rps_signs z) _ (I.hok.fresh (Nat.le_refl _))⟩
    · exact absurd rfl P.ne
  · exact absurd rfl P.ne
def dMulS : G2 := fun x y cs => match x, y with
  | .str z, .int k => if 2 ≤ k ∧ k ≤ 1000 ∧ 1 ≤ z.length ∧ z.length * k.toNat ≤ 100000 then some (.str ⟨(List.replicate k.toNat z.cps).foldl (· ++ ·) #[]⟩, cs) else none
  | _, _ => none
theorem op_dMulS : OpR X (binaryOp .Mult) (rO2 X.K cm dMulS) := by
  intro pins s σ H x y v u Q I rx ry h
  obtain ⟨W, dx, dy, cs, R, r1, r2, P⟩ := h
  unfold dMulS at P
  split at P
  · rename_i z k
    cases r1
    cases r2
    obtain ⟨t, rfl⟩ := rx
    obtain ⟨t', rfl⟩ := ry
    split at P
    · rename_i hk
      obtain ⟨k1, k2, z1, zk⟩ := hk
      have n1 : ¬ k < 1 := by omega
      have n2 : (k == 1 || z.length == 0) = false := by
        have h1 : (k == 1) = false := beq_eq_false_iff_ne.mpr (by omega)
        have h2 : (z.length == 0) = false := beq_eq_false_iff_ne.mpr (by omega)
        rw [h1, h2]; rfl
      have hz : z.length ≤ 100000 := by
        have : z.length * 1 ≤ z.length * k.toNat := Nat.mul_le_mul_left _ (by omega)
        omega
      refine PySem.P.mul_str (by simp; omega) (fun _ _ => ?_) (fun _ _ => ?_) ?_
      · have h1 : (1000000 : Int) ≤ (2 ^ 63 - 1) / k := by
          rw [Int.le_ediv_iff_mul_le (by omega)]
          omega
        omega
      · have : sizeLine = 16777216 := rfl
        exact decide_eq_false (by omega)
      · rw [if_neg n1, if_neg (by rw [n2]; simp)]
        have sz : ∀ k : Nat, ∀ acc : Array Nat, ((List.replicate k z.cps).foldl (· ++ ·) acc).size = acc.size + z.length * k := fun k => by
          induction k with
          | zero => intro acc; simp
          | succ k ih =>
            intro acc
            rw [List.replicate_succ, List.foldl_cons, ih, Array.size_append, Nat.mul_succ]
            have : z.cps.size = z.length := rfl
            omega
        have s1 := sz k.toNat #[]
        refine ⟨?_, .str _, H, I.tok _, ⟨_, rfl⟩, P.here R (.str _)⟩
        show ((List.replicate k.toNat z.cps).foldl (· ++ ·) #[]).size ≤ sizeLine
        have : sizeLine = 16777216 := rfl
        rw [s1]
        simp
        omega
    · exact absurd rfl P.ne
  · exact absurd rfl P.ne
def sFind : G2 := fun x y cs => match x, y with
  | .str a, .str b => some (.int (Txt.find a b), cs)
  | _, _ => none
theorem mt_sFind : MtR X "str.find" (rMt X.K cm fun d as cs => match as with | [y] => sFind d y cs | _ => none) := by
  intro pins s σ H x xs v us Q I rx ru h
  obtain ⟨W, d, ds, cs, R, r, rs, P⟩ := h
  match ds, rs, P with
  | [], _, P => exact (P.ne rfl).elim
  | _ :: _ :: _, _, P => exact (P.ne rfl).elim
  | [y], rs, P =>
    obtain ⟨u, rfl, ry⟩ := Rps.one rs
    have P : Post X.K cm W (sFind d y cs) Q := P
    unfold sFind at P
    split at P
    · rename_i a b
      cases r
      cases ry
      exact mt_find pins s σ H _ _ v us Q I rx ru ⟨_, _, rfl, rfl, P.here R (.int _)⟩
    · exact absurd rfl P.ne
end
end PV
namespace Ck82
open PySem PySem.Spec L2 PV
noncomputable section
abbrev nCls : Nat := 2
def tabL : List (Kd × Kd × Bool) := [(.cl 7, .cl 4, false), (.cl 7, .cl 6, false), (.cl 7, .cl 3, false), (.cl 7, .cl 5, false), (.cl 7, .ty "ValueError", true), (.ty "NoneType", .ty "int", false), (.ty "NoneType", .ty "bool", false), (.ty "NoneType", .cl 0, false), (.ty "NoneType", .ty "list", false), (.ty "bool", .ty "int", true), (.ty "bool", .ty "bool", true), (.ty "bool", .cl 0, false), (.ty "bool", .ty "list", false), (.ty "int", .ty "int", true), (.ty "int", .ty "bool", false), (.ty "int", .cl 0, false), (.ty "int", .ty "list", false), (.ty "str", .ty "int", false), (.ty "str", .ty "bool", false), (.ty "str", .cl 0, false), (.ty "str", .ty "list", false), (.ty "tuple", .ty "int", false), (.ty "tuple", .ty "bool", false), (.ty "tuple", .cl 0, false), (.ty "tuple", .ty "list", false), (.ty "list", .ty "int", false), (.ty "list", .ty "bool", false), (.ty "list", .cl 0, false), (.ty "list", .ty "list", true), (.ty "dict", .ty "int", false), (.ty "dict", .ty "bool", false), (.ty "dict", .cl 0, false), (.ty "dict", .ty "list", false), (.cl 0, .ty "int", false), (.cl 0, .ty "bool", false), (.cl 0, .cl 0, true), (.cl 0, .ty "list", false), (.cl 1, .ty "int", false), (.cl 1, .ty "bool", false), (.cl 1, .cl 0, false), (.cl 1, .ty "list", false)]
def tab : Kd → Kd → Option Bool := tabOf tabL
@[simp] theorem tab_c_7_c_4 : tab (.cl 7) (.cl 4) = some false := by decide +kernel
@[simp] theorem tab_c_7_c_6 : tab (.cl 7) (.cl 6) = some false := by decide +kernel
@[simp] theorem tab_c_7_c_3 : tab (.cl 7) (.cl 3) = some false := by decide +kernel
@[simp] theorem tab_c_7_c_5 : tab (.cl 7) (.cl 5) = some false := by decide +kernel
@[simp] theorem tab_c_7_t_ValueError : tab (.cl 7) (.ty "ValueError") = some true := by decide +kernel
@[simp] theorem tab_t_NoneType_t_int : tab (.ty "NoneType") (.ty "int") = some false := by decide +kernel
@[simp] theorem tab_t_NoneType_t_bool : tab (.ty "NoneType") (.ty "bool") = some false := by decide +kernel
@[simp] theorem tab_t_NoneType_c_0 : tab (.ty "NoneType") (.cl 0) = some false := by decide +kernel
@[simp] theorem tab_t_NoneType_t_list : tab (.ty "NoneType") (.ty "list") = some false := by decide +kernel
@[simp] theorem tab_t_bool_t_int : tab (.ty "bool") (.ty "int") = some true := by decide +kernel
@[simp] theorem tab_t_bool_t_bool : tab (.ty "bool") (.ty "bool") = some true := by decide +kernel
@[simp] theorem tab_t_bool_c_0 : tab (.ty "bool") (.cl 0) = some false := by decide +kernel
@[simp] theorem tab_t_bool_t_list : tab (.ty "bool") (.ty "list") = some false := by decide +kernel
@[simp] theorem tab_t_int_t_int : tab (.ty "int") (.ty "int") = some true := by decide +kernel
@[simp] theorem tab_t_int_t_bool : tab (.ty "int") (.ty "bool") = some false := by decide +kernel
@[simp] theorem tab_t_int_c_0 : tab (.ty "int") (.cl 0) = some false := by decide +kernel
@[simp] theorem tab_t_int_t_list : tab (.ty "int") (.ty "list") = some false := by decide +kernel
@[simp] theorem tab_t_str_t_int : tab (.ty "str") (.ty "int") = some false := by decide +kernel
@[simp] theorem tab_t_str_t_bool : tab (.ty "str") (.ty "bool") = some false := by decide +kernel
@[simp] theorem tab_t_str_c_0 : tab (.ty "str") (.cl 0) = some false := by decide +kernel
@[simp] theorem tab_t_str_t_list : tab (.ty "str") (.ty "list") = some false := by decide +kernel
@[simp] theorem tab_t_tuple_t_int : tab (.ty "tuple") (.ty "int") = some false := by decide +kernel
@[simp] theorem tab_t_tuple_t_bool : tab (.ty "tuple") (.ty "bool") = some false := by decide +kernel
@[simp] theorem tab_t_tuple_c_0 : tab (.ty "tuple") (.cl 0) = some false := by decide +kernel
@[simp] theorem tab_t_tuple_t_list : tab (.ty "tuple") (.ty "list") = some false := by decide +kernel
@[simp] theorem tab_t_list_t_int : tab (.ty "list") (.ty "int") = some false := by decide +kernel
@[simp] theorem tab_t_list_t_bool : tab (.ty "list") (.ty "bool") = some false := by decide +kernel
@[simp] theorem tab_t_list_c_0 : tab (.ty "list") (.cl 0) = some false := by decide +kernel
@[simp] theorem tab_t_list_t_list : tab (.ty "list") (.ty "list") = some true := by decide +kernel
@[simp] theorem tab_t_dict_t_int : tab (.ty "dict") (.ty "int") = some false := by decide +kernel
@[simp] theorem tab_t_dict_t_bool : tab (.ty "dict") (.ty "bool") = some false := by decide +kernel
@[simp] theorem tab_t_dict_c_0 : tab (.ty "dict") (.cl 0) = some false := by decide +kernel
@[simp] theorem tab_t_dict_t_list : tab (.ty "dict") (.ty "list") = some false := by decide +kernel
@[simp] theorem tab_c_0_t_int : tab (.cl 0) (.ty "int") = some false := by decide +kernel
@[simp] theorem tab_c_0_t_bool : tab (.cl 0) (.ty "bool") = some false := by decide +kernel
@[simp] theorem tab_c_0_c_0 : tab (.cl 0) (.cl 0) = some true := by decide +kernel
@[simp] theorem tab_c_0_t_list : tab (.cl 0) (.ty "list") = some false := by decide +kernel
@[simp] theorem tab_c_1_t_int : tab (.cl 1) (.ty "int") = some false := by decide +kernel
@[simp] theorem tab_c_1_t_bool : tab (.cl 1) (.ty "bool") = some false := by decide +kernel
@[simp] theorem tab_c_1_c_0 : tab (.cl 1) (.cl 0) = some false := by decide +kernel
@[simp] theorem tab_c_1_t_list : tab (.cl 1) (.ty "list") = some false := by decide +kernel
def xsubL_InvalidText : List (Nat × Bool) := [(7, true)]
def xsub_InvalidText : Nat → Option Bool := subOf xsubL_InvalidText
@[simp] theorem xsub_InvalidText_InvalidText : xsub_InvalidText 7 = some true := by decide +kernel
def okx : Nat → Bool := fun c => [7].contains c
@[simp] theorem okx_InvalidText : okx 7 = true := by decide +kernel
def b_law_tape : Fs := (sSeq (sAsg (fIfE (fTst (fOp2 dLt (fVar 1) (fCB dLen (aCons (fVar 0) aNil)))) (fCB dAbs (aCons (fOp2 dIx (fVar 0) (fVar 1)) aNil)) (fC (.int 0))) (gN 2)) (sRet (fLst false (aCons (fCB dMax (aCons (fC (.int 0)) (aCons (fOp2 dSub (fVar 2) (fOp2 dPow (fC (.int 10)) (fC (.int 18)))) aNil))) (aCons (fOp2 (dAdd true) (fOp2 (dMul true) (fOp2 dMod (fVar 2) (fOp2 (dAdd true) (fOp2 dPow (fC (.int 10)) (fC (.int 40))) (fC (.int 121)))) (fC (.int 79))) (fVar 1)) (aCons (fC (.int 0)) aNil))))))
def F_law_tape : List D → List Cell → Out D := runDef 2 3 b_law_tape
def b_law_next_0 : Fs := (sIf (fTst (fOp2 dGt (fOp2 dIx (fVar 0) (fC (.int 0))) (fC (.int 0)))) (sSeq (sAsg (fOp2 dMod (fOp2 dIx (fVar 0) (fC (.int 0))) (fVar 1)) (gN 2)) (sSeq (sSub (fOp2 dFdiv (fOp2 dIx (fVar 0) (fC (.int 0))) (fVar 1)) (fVar 0) (fC (.int 0))) (sRet (fVar 2)))) sNx)
def b_law_next_2 : Fs := (sAsg (fOp2 dMod (fOp2 dPow (fOp2 (dAdd true) (fOp2 dIx (fVar 0) (fC (.int 1))) (fOp2 (dMul true) (fC (.int 998244353)) (fOp2 dIx (fVar 0) (fC (.int 2))))) (fC (.int 3))) (fOp2 (dAdd true) (fOp2 dPow (fC (.int 10)) (fC (.int 64))) (fC (.int 57)))) (gN 3))
def b_law_next_3 : Fs := (sAsg (fOp2 dMod (fOp2 dPow (fOp2 (dAdd true) (fVar 3) (fOp2 (dMul true) (fC (.int 1000000093)) (fOp2 dIx (fVar 0) (fC (.int 2))))) (fC (.int 3))) (fOp2 (dAdd true) (fOp2 dPow (fC (.int 10)) (fC (.int 64))) (fC (.int 9)))) (gN 3))
def b_law_next : Fs := (sSeq b_law_next_0 (sSeq (sSub (fOp2 (dAdd true) (fOp2 dIx (fVar 0) (fC (.int 2))) (fC (.int 1))) (fVar 0) (fC (.int 2))) (sSeq b_law_next_2 (sSeq b_law_next_3 (sRet (fOp2 dMod (fOp2 dFdiv (fVar 3) (fC (.int 30011))) (fVar 1)))))))
def F_law_next : List D → List Cell → Out D := runDef 2 4 b_law_next
def b_law_any_L0 : Fs := (sSeq (sPar 8 9 (aCons (fOp2 (dEq false) (fCall (fnK 2 0 2 F_law_next (fun ds _ => ds)) (aCons (fVar 0) (aCons (fC (.int 2)) aNil)) aNil) (fC (.int 0))) (aCons (fOp2 dIx (fLst true (aCons (fCall (fnK 2 0 2 F_law_next (fun ds _ => ds)) (aCons (fVar 0) (aCons (fVar 2) aNil)) aNil) (aCons (fC (.int 0)) (aCons (fOp2 dSub (fVar 2) (fC (.int 1))) (aCons (fC (.int 1)) aNil))))) (fCall (fnK 2 0 2 F_law_next (fun ds _ => ds)) (aCons (fVar 0) (aCons (fC (.int 4)) aNil)) aNil)) aNil))) (sSeq (sEx (fLm mAppend (fVar 5) (aCons (fIfE (fOr (fTru (fVar 8)) (fTst (fOp2 (dEq false) (fCall (fnK 2 0 2 F_law_next (fun ds _ => ds)) (aCons (fVar 0) (aCons (fC (.int 2)) aNil)) aNil) (fC (.int 0))))) (fVar 9) (fOp2 dSub (fC (.int 0)) (fVar 9))) aNil))) (sEx (fLm mAppend (fVar 6) (aCons (fVar 8) aNil)))))
def b_law_any_L1 : Fs := (sSeq (sPar 5 6 (aCons (fLst false aNil) (aCons (fLst false aNil) aNil))) (sSeq (sFor (iRg1 (aCons (fC (.int 2)) aNil)) (gN 7) b_law_any_L0) (sSeq (sFrz 5) (sSeq (sFrz 6) (sEx (fLm mAppend (fVar 3) (aCons (fIfE (fTst (fOp2 dGt (fCall (fnK 2 0 2 F_law_next (fun ds _ => ds)) (aCons (fVar 0) (aCons (fC (.int 7)) aNil)) aNil) (fC (.int 0)))) (fTup (aCons (fOp2 dIx (fVar 5) (fC (.int 0))) (aCons (fOp2 dIx (fVar 5) (fC (.int 1))) (aCons (fOp2 dIx (fVar 6) (fC (.int 0))) (aCons (fOp2 dIx (fVar 6) (fC (.int 1))) aNil))))) (fC .non)) aNil)))))))
def b_law_any : Fs := (sSeq (sAsg (fLst false aNil) (gN 3)) (sSeq (sFor (iRg1 (aCons (fVar 1) aNil)) (gN 4) b_law_any_L1) (sSeq (sFrz 3) (sRet (fVar 3)))))
def F_law_any : List D → List Cell → Out D := runDef 3 10 b_law_any
def b_law_word : Fs := (sSeq (sIf (fTst (fOp2 (dIs false) (fVar 0) (fC .non))) (sRet (fC (.str "#"))) sNx) (sSeq (sAsg (fIfE (fTru (fOp2 dIx (fVar 0) (fC (.int 2)))) (fCB dStrC (aCons (fOp2 dIx (fVar 0) (fC (.int 0))) aNil)) (fOp2 (dAdd true) (fOp2 (dAdd true) (fC (.str "[")) (fCB dStrC (aCons (fOp2 dIx (fVar 0) (fC (.int 0))) aNil))) (fC (.str "]")))) (gN 1)) (sRet (fOp2 (dAdd true) (fOp2 (dAdd true) (fOp2 (dAdd true) (fC (.str "R")) (fVar 1)) (fC (.str "C"))) (fIfE (fTru (fOp2 dIx (fVar 0) (fC (.int 3)))) (fCB dStrC (aCons (fOp2 dIx (fVar 0) (fC (.int 1))) aNil)) (fOp2 (dAdd true) (fOp2 (dAdd true) (fC (.str "[")) (fCB dStrC (aCons (fOp2 dIx (fVar 0) (fC (.int 1))) aNil))) (fC (.str "]"))))))))
def F_law_word : List D → List Cell → Out D := runDef 1 2 b_law_word
def b_law_signs : Fs := (sRet (fOp2 (dAdd true) (fOp2 (dAdd true) (fC (.str " !#$&'()*+,-./0123456789:;<=>?@ABCDEFGHIJKLMNOPQRSTUVWXYZ[]^_`abcdefghijklmnopqrstuvwxyz{|}~")) (fC (.str "\n"))) (fC (.str "\""))))
def F_law_signs : List D → List Cell → Out D := runDef 0 0 b_law_signs
def b_law_bent_0 : Fs := (sPar 3 4 (aCons (fSm (sSplit true) (fVar 1) (fC (.str " "))) (aCons (fCall (fnK 2 0 2 F_law_next (fun ds _ => ds)) (aCons (fVar 0) (aCons (fC (.int 8)) aNil)) aNil) aNil)))
def b_law_bent_1 : Fs := (sPar 5 6 (aCons (fCall (fnK 2 0 2 F_law_next (fun ds _ => ds)) (aCons (fVar 0) (aCons (fCB dLen (aCons (fVar 3) aNil)) aNil)) aNil) (aCons (fOp2 dIx (fVar 2) (fCall (fnK 2 0 2 F_law_next (fun ds _ => ds)) (aCons (fVar 0) (aCons (fCB dLen (aCons (fVar 2) aNil)) aNil)) aNil)) aNil)))
def b_law_bent_2 : Fs := (sIf (fTst (fOp2 dLt (fVar 4) (fC (.int 2)))) (sRet (fSm sJoin (fC (.str " ")) (fOp2 (dAdd true) (fOp2 (dAdd true) (fSl true (fVar 3) oNone (oSome (fVar 5))) (fLst true (aCons (fVar 6) aNil))) (fSl true (fVar 3) (oSome (fOp2 (dAdd true) (fVar 5) (fVar 4))) oNone)))) sNx)
def b_law_bent_3 : Fs := (sIf (fTst (fOp2 (dEq false) (fVar 4) (fC (.int 2)))) (sRet (fSm sJoin (fC (.str " ")) (fOp2 (dAdd true) (fSl true (fVar 3) oNone (oSome (fVar 5))) (fSl true (fVar 3) (oSome (fOp2 (dAdd true) (fVar 5) (fC (.int 1)))) oNone)))) sNx)
def b_law_bent_4 : Fs := (sIf (fTst (fOp2 (dEq false) (fVar 4) (fC (.int 3)))) (sRet (fSm sJoin (fC (.str " ")) (fOp2 (dAdd true) (fSl true (fVar 3) oNone (oSome (fOp2 (dAdd true) (fVar 5) (fC (.int 1))))) (fSl true (fVar 3) (oSome (fVar 5)) oNone)))) sNx)
def b_law_bent_5 : Fs := (sIf (fTst (fOp2 dLt (fVar 4) (fC (.int 6)))) (sRet (fSm sJoin (fC (.str " ")) (fOp2 (dAdd true) (fVar 3) (fOp2 (dMul true) (fLst true (aCons (fVar 6) aNil)) (fOp2 dSub (fVar 4) (fC (.int 3))))))) sNx)
def b_law_bent_6 : Fs := (sPar 7 8 (aCons (fCall (fnK 2 0 2 F_law_next (fun ds _ => ds)) (aCons (fVar 0) (aCons (fOp2 (dAdd true) (fCB dLen (aCons (fVar 1) aNil)) (fC (.int 1))) aNil)) aNil) (aCons (fCall (fnK 0 0 0 F_law_signs (fun ds _ => ds)) aNil aNil) aNil)))
def b_law_bent_7 : Fs := (sRet (fOp2 (dAdd true) (fOp2 (dAdd true) (fSl true (fVar 1) oNone (oSome (fVar 7))) (fOp2 dIx (fVar 8) (fCall (fnK 2 0 2 F_law_next (fun ds _ => ds)) (aCons (fVar 0) (aCons (fCB dLen (aCons (fVar 8) aNil)) aNil)) aNil))) (fSl true (fVar 1) (oSome (fOp2 dSub (fOp2 (dAdd true) (fVar 7) (fVar 4)) (fC (.int 6)))) oNone)))
def b_law_bent_t7 : Fs := b_law_bent_7
def b_law_bent_t6 : Fs := (sSeq b_law_bent_6 b_law_bent_t7)
def b_law_bent_t5 : Fs := (sSeq b_law_bent_5 b_law_bent_t6)
def b_law_bent_t4 : Fs := (sSeq b_law_bent_4 b_law_bent_t5)
def b_law_bent_t3 : Fs := (sSeq b_law_bent_3 b_law_bent_t4)
def b_law_bent_t2 : Fs := (sSeq b_law_bent_2 b_law_bent_t3)
def b_law_bent_t1 : Fs := (sSeq b_law_bent_1 b_law_bent_t2)
def b_law_bent : Fs := (sSeq b_law_bent_0 b_law_bent_t1)
def F_law_bent : List D → List Cell → Out D := runDef 3 9 b_law_bent
def b_Formula_parts : Fs := (sRet (fCB (dList false) (aCons (fFld [1] "held_parts" (fVar 0)) aNil)))
def F_Formula_parts : List D → List Cell → Out D := runDef 1 1 b_Formula_parts
def b_Reference_row : Fs := (sRet (fFld [0] "held_row" (fVar 0)))
def F_Reference_row : List D → List Cell → Out D := runDef 1 1 b_Reference_row
def b_Reference_column : Fs := (sRet (fFld [0] "held_column" (fVar 0)))
def F_Reference_column : List D → List Cell → Out D := runDef 1 1 b_Reference_column
def b_Reference_fixed_row : Fs := (sRet (fFld [0] "held_fixed_row" (fVar 0)))
def F_Reference_fixed_row : List D → List Cell → Out D := runDef 1 1 b_Reference_fixed_row
def b_Reference_fixed_column : Fs := (sRet (fFld [0] "held_fixed_column" (fVar 0)))
def F_Reference_fixed_column : List D → List Cell → Out D := runDef 1 1 b_Reference_fixed_column
def b_law_seen_L0 : Fs := (sEx (fLm mAppend (fVar 1) (aCons (fIfE (fTst (fOp2 (dIs false) (fVar 2) (fC .non))) (fC .non) (fTup (aCons (fProp 0 F_Reference_row (fVar 2)) (aCons (fProp 0 F_Reference_column (fVar 2)) (aCons (fProp 0 F_Reference_fixed_row (fVar 2)) (aCons (fProp 0 F_Reference_fixed_column (fVar 2)) aNil)))))) aNil)))
def b_law_seen : Fs := (sSeq (sAsg (fLst false aNil) (gN 1)) (sSeq (sFor (iSq (fFrz (fProp 1 F_Formula_parts (fVar 0)))) (gN 2) b_law_seen_L0) (sSeq (sFrz 1) (sRet (fVar 1)))))
def F_law_seen : List D → List Cell → Out D := runDef 1 3 b_law_seen
def b_number_in : Fs := (sSeq (sIf (fOr (fNot (fTst (fChain dLe dLe (fC (.int 1)) (fCB dLen (aCons (fVar 0) aNil)) (fC (.int 30))))) (fNot (fTru (fCB dAll (aCons (fLc true (iTx (fVar 0)) (gN 1) (fun _ c => .ok true c) (fOp2 (gAlt (dIn false) (dInS false)) (fVar 1) (fC (.str "0123456789"))) [1]) aNil))))) (sRet (fC .non)) sNx) (sRet (fIfE (fAnd (fTst (fOp2 (dEq false) (fOp2 dIx (fVar 0) (fC (.int 0))) (fC (.str "0")))) (fTst (fOp2 (dEq true) (fVar 0) (fC (.str "0"))))) (fC .non) (fCB (gcAlt dInt dIntS) (aCons (fVar 0) aNil)))))
def F_number_in : List D → List Cell → Out D := runDef 1 2 b_number_in
def b_distance_in : Fs := (sSeq (sIf (fTst (fOp2 (dEq true) (fSl true (fVar 0) oNone (oSome (fC (.int 1)))) (fC (.str "-")))) (sRet (fCall (fnK 1 0 1 F_number_in (fun ds _ => ds)) (aCons (fVar 0) aNil) aNil)) sNx) (sSeq (sAsg (fCall (fnK 1 0 1 F_number_in (fun ds _ => ds)) (aCons (fSl true (fVar 0) (oSome (fC (.int 1))) oNone) aNil) aNil) (gN 1)) (sRet (fIfE (fOr (fTst (fOp2 (dIs false) (fVar 1) (fC .non))) (fTst (fOp2 (dEq false) (fVar 1) (fC (.int 0))))) (fC .non) (fOp2 dSub (fC (.int 0)) (fVar 1))))))
def F_distance_in : List D → List Cell → Out D := runDef 1 2 b_distance_in
def b_part_in : Fs := (sSeq (sIf (fAnd (fTst (fOp2 (dEq false) (fSl true (fVar 0) oNone (oSome (fC (.int 1)))) (fC (.str "[")))) (fAnd (fTst (fOp2 (dEq false) (fSl true (fVar 0) (oSome (fOp1 dNeg (fC (.int 1)))) oNone) (fC (.str "]")))) (fTst (fOp2 dGt (fCB dLen (aCons (fVar 0) aNil)) (fC (.int 1)))))) (sPar 1 2 (aCons (fCall (fnK 1 0 1 F_distance_in (fun ds _ => ds)) (aCons (fSl true (fVar 0) (oSome (fC (.int 1))) (oSome (fOp1 dNeg (fC (.int 1))))) aNil) aNil) (aCons (fC (.bl false)) aNil))) (sPar 1 2 (aCons (fCall (fnK 1 0 1 F_number_in (fun ds _ => ds)) (aCons (fVar 0) aNil) aNil) (aCons (fC (.bl true)) aNil)))) (sRet (fIfE (fTst (fOp2 (dIs false) (fVar 1) (fC .non))) (fC .non) (fTup (aCons (fVar 1) (aCons (fVar 2) aNil))))))
def F_part_in : List D → List Cell → Out D := runDef 1 3 b_part_in
def b_is_integer : Fs := (sRet (fAndV (fCB (dIsI nCls tab) (aCons (fVar 0) (aCons (fC (.ty "int")) aNil))) (fNotV (fCB (dIsI nCls tab) (aCons (fVar 0) (aCons (fC (.ty "bool")) aNil))))))
def F_is_integer : List D → List Cell → Out D := runDef 1 1 b_is_integer
def b_is_place : Fs := (sRet (fAndV (fCall (fnK 1 0 1 F_is_integer (fun ds _ => ds)) (aCons (fVar 0) aNil) aNil) (fChain dLe dLt (fC (.int 0)) (fVar 0) (fC (.int 1000000000000000000000000000000)))))
def F_is_place : List D → List Cell → Out D := runDef 1 1 b_is_place
def b_is_part : Fs := (sSeq (sIf (fNot (fTru (fCB (dIsI nCls tab) (aCons (fVar 1) (aCons (fC (.ty "bool")) aNil))))) (sRet (fC (.bl false))) sNx) (sRet (fIfE (fTru (fVar 1)) (fCall (fnK 1 0 1 F_is_place (fun ds _ => ds)) (aCons (fVar 0) aNil) aNil) (fCall (fnK 1 0 1 F_is_integer (fun ds _ => ds)) (aCons (fVar 0) aNil) aNil))))
def F_is_part : List D → List Cell → Out D := runDef 2 2 b_is_part
def gK_Reference___init_5 : List D → List D → List D := fun us ws => (us.take 5)
def b_Reference___init_0 : Fs := (sIf (fOr (fNot (fTru (fCall (fnK 2 0 2 F_is_part (fun ds _ => ds)) (aCons (fVar 1) (aCons (fVar 3) aNil)) aNil))) (fNot (fTru (fCall (fnK 2 0 2 F_is_part (fun ds _ => ds)) (aCons (fVar 2) (aCons (fVar 4) aNil)) aNil)))) (fun _ _ => .no) sNx)
def b_Reference___init : Fs := (sSeq b_Reference___init_0 (sSeq (sFld [0] "held_row" (fVar 1) (fVar 0)) (sSeq (sFld [0] "held_column" (fVar 2) (fVar 0)) (sSeq (sFld [0] "held_fixed_row" (fVar 3) (fVar 0)) (sFld [0] "held_fixed_column" (fVar 4) (fVar 0))))))
def F_Reference___init : List D → List Cell → Out D := runDef 5 5 b_Reference___init
def b_reference_in_0 : Fs := (sAsg (fSm (sSplit true) (fSl true (fVar 0) (oSome (fC (.int 1))) oNone) (fC (.str "C"))) (gN 1))
def b_reference_in_1 : Fs := (sIf (fOr (fTst (fOp2 (dEq true) (fSl true (fVar 0) oNone (oSome (fC (.int 1)))) (fC (.str "R")))) (fTst (fOp2 (dEq true) (fCB dLen (aCons (fVar 1) aNil)) (fC (.int 2))))) (sRet (fC .non)) sNx)
def b_reference_in_2 : Fs := (sPar 2 3 (aCons (fCall (fnK 1 0 1 F_part_in (fun ds _ => ds)) (aCons (fOp2 dIx (fVar 1) (fC (.int 0))) aNil) aNil) (aCons (fCall (fnK 1 0 1 F_part_in (fun ds _ => ds)) (aCons (fOp2 dIx (fVar 1) (fC (.int 1))) aNil) aNil) aNil)))
def b_reference_in_4 : Fs := (sRet (fCall (mkK 0 true (fnK 5 0 5 F_Reference___init gK_Reference___init_5)) (aCons (fOp2 dIx (fVar 2) (fC (.int 0))) (aCons (fOp2 dIx (fVar 3) (fC (.int 0))) (aCons (fOp2 dIx (fVar 2) (fC (.int 1))) (aCons (fOp2 dIx (fVar 3) (fC (.int 1))) aNil)))) aNil))
def b_reference_in : Fs := (sSeq b_reference_in_0 (sSeq b_reference_in_1 (sSeq b_reference_in_2 (sSeq (sIf (fOr (fTst (fOp2 (dIs false) (fVar 2) (fC .non))) (fTst (fOp2 (dIs false) (fVar 3) (fC .non)))) (sRet (fC .non)) sNx) b_reference_in_4))))
def F_reference_in : List D → List Cell → Out D := runDef 1 4 b_reference_in
def b_Formula___init : Fs := (sSeq (sIf (fNot (fTst (fChain dLe dLe (fC (.int 1)) (fCB dLen (aCons (fVar 1) aNil)) (fC (.int 20))))) (fun _ _ => .no) sNx) (sSeq (sIf (fNot (fTru (fCB dAll (aCons (fLc true (iSq (fVar 1)) (gN 2) (fun _ c => .ok true c) (fOrV (fOp2 (dIs false) (fVar 2) (fC .non)) (fCB (dIsI nCls tab) (aCons (fVar 2) (aCons (fC (.cl 0)) aNil)))) [2]) aNil)))) (fun _ _ => .no) sNx) (sFld [1] "held_parts" (fCB dTuple (aCons (fVar 1) aNil)) (fVar 0))))
def F_Formula___init : List D → List Cell → Out D := runVar 1 3 b_Formula___init
def b_Formula_of : Fs := (sSeq (sIf (fNot (fTru (fCB (dIsI nCls tab) (aCons (fVar 1) (aCons (fC (.ty "list")) aNil))))) (fun _ _ => .no) sNx) (sRet (fStarL 0 1 (mkK 1 true (posK F_Formula___init)) (fVar 1))))
def F_Formula_of : List D → List Cell → Out D := runDef 2 2 b_Formula_of
def gK_read_formula_0_text : List D → List D → List D := fun us ws => (us.take 0) ++ ((ws.drop 0).take 1)
def b_read_formula_L0 : Fs := (sSeq (sAsg (fCall (fnK 1 0 1 F_reference_in (fun ds _ => ds)) (aCons (fVar 3) aNil) aNil) (gN 4)) (sSeq (sIf (fOr (fTst (fOp2 (dEq false) (fVar 2) (fC (.int 20)))) (fAnd (fTst (fOp2 (dIs false) (fVar 4) (fC .non))) (fTst (fOp2 (dEq true) (fVar 3) (fC (.str "#")))))) (sRaiseX 7 "word" (fVar 2)) sNx) (sEx (fLm mAppend (fVar 1) (aCons (fVar 4) aNil)))))
def b_read_formula : Fs := (sSeq (sAsg (fLst false aNil) (gN 1)) (sSeq (sFor (iEn (aCons (fSm (sSplit true) (fVar 0) (fC (.str " "))) aNil)) (gT 2 (gsCons (gN 2) (gsCons (gN 3) gsNil))) b_read_formula_L0) (sSeq (sFrz 1) (sRet (fCMeth 1 (unK 2 2 F_Formula_of (fun ds _ => ds)) (fC (.cl 1)) (aCons (fVar 1) aNil))))))
def F_read_formula : List D → List Cell → Out D := runDef 1 5 b_read_formula
def b_law_told : Fs := (sTryW xsub_InvalidText 3 (sRet (fCall (fnK 1 0 1 F_law_seen (fun ds _ => ds)) (aCons (fIfE (fTru (fVar 1)) (fCall (fun ds es cs => if es.length = 1 then (fnK 0 1 1 F_read_formula gK_read_formula_0_text) ds es cs else .no) aNil (aCons (fVar 0) aNil)) (fCall (fnK 1 0 1 F_read_formula (fun ds _ => ds)) (aCons (fVar 0) aNil) aNil)) aNil) aNil)) (sSeq (sAsg (fCB (gcAlt (gcAlt (dIsI nCls tab) (dIsX okx tab)) (dIsW okx tab)) (aCons (fVar 3) (aCons (fTup (aCons (fC (.cl 4)) (aCons (fC (.cl 6)) (aCons (fC (.cl 3)) (aCons (fC (.cl 5)) aNil))))) aNil))) (gN 2)) (sRet (fIfE (fOr (fTru (fVar 2)) (fNot (fTru (fCB (gcAlt (gcAlt (dIsI nCls tab) (dIsX okx tab)) (dIsW okx tab)) (aCons (fVar 3) (aCons (fC (.ty "ValueError")) aNil)))))) (fC (.str "odd")) (fXf xsub_InvalidText "word" (fVar 3))))))
def F_law_told : List D → List Cell → Out D := runDef 2 4 b_law_told
def b_law_number : Fs := (sSeq (sIf (fOr (fNot (fTst (fChain dLe dLe (fC (.int 1)) (fCB dLen (aCons (fVar 0) aNil)) (fC (.int 30))))) (fTst (fOp2 (dEq true) (fLc true (iTx (fVar 0)) (gN 1) (fTst (fOp2 (dIn true) (fVar 1) (fCB (gcAlt (dList true) (dListT true)) (aCons (fC (.str "0123456789")) aNil)))) (fVar 1) [1]) (fLst true aNil)))) (sRet (fC .non)) sNx) (sRet (fIfE (fAnd (fTst (fOp2 (dEq false) (fOp2 dIx (fVar 0) (fC (.int 0))) (fC (.str "0")))) (fTst (fOp2 (dEq true) (fVar 0) (fC (.str "0"))))) (fC .non) (fCB (gcAlt dInt dIntS) (aCons (fVar 0) aNil)))))
def F_law_number : List D → List Cell → Out D := runDef 1 2 b_law_number
def b_law_side_0 : Fs := (sIf (fTst (fOp2 (dEq true) (fSl true (fVar 0) oNone (oSome (fC (.int 1)))) (fC (.str "[")))) (sSeq (sAsg (fCall (fnK 1 0 1 F_law_number (fun ds _ => ds)) (aCons (fVar 0) aNil) aNil) (gN 1)) (sRet (fIfE (fTst (fOp2 (dIs false) (fVar 1) (fC .non))) (fC .non) (fTup (aCons (fVar 1) (aCons (fC (.bl true)) aNil)))))) sNx)
def b_law_side_1 : Fs := (sIf (fOr (fTst (fOp2 (dEq true) (fOp2 dIx (fVar 0) (fOp1 dNeg (fC (.int 1)))) (fC (.str "]")))) (fTst (fOp2 dLt (fCB dLen (aCons (fVar 0) aNil)) (fC (.int 3))))) (sRet (fC .non)) sNx)
def b_law_side_3 : Fs := (sIf (fTst (fOp2 (dEq true) (fOp2 dIx (fVar 2) (fC (.int 0))) (fC (.str "-")))) (sSeq (sAsg (fCall (fnK 1 0 1 F_law_number (fun ds _ => ds)) (aCons (fVar 2) aNil) aNil) (gN 1)) (sRet (fIfE (fTst (fOp2 (dIs false) (fVar 1) (fC .non))) (fC .non) (fTup (aCons (fVar 1) (aCons (fC (.bl false)) aNil)))))) sNx)
def b_law_side_4 : Fs := (sAsg (fCall (fnK 1 0 1 F_law_number (fun ds _ => ds)) (aCons (fSl true (fVar 2) (oSome (fC (.int 1))) oNone) aNil) aNil) (gN 1))
def b_law_side_5 : Fs := (sRet (fIfE (fOr (fTst (fOp2 (dIs false) (fVar 1) (fC .non))) (fTst (fOp2 (dEq false) (fVar 1) (fC (.int 0))))) (fC .non) (fTup (aCons (fOp2 dSub (fC (.int 0)) (fVar 1)) (aCons (fC (.bl false)) aNil)))))
def b_law_side : Fs := (sSeq b_law_side_0 (sSeq b_law_side_1 (sSeq (sAsg (fSl true (fVar 0) (oSome (fC (.int 1))) (oSome (fOp1 dNeg (fC (.int 1))))) (gN 2)) (sSeq b_law_side_3 (sSeq b_law_side_4 b_law_side_5)))))
def F_law_side : List D → List Cell → Out D := runDef 1 3 b_law_side
def b_law_part_in_2 : Fs := (sIf (fOr (fTst (fOp2 (dEq true) (fSl true (fVar 0) oNone (oSome (fC (.int 1)))) (fC (.str "R")))) (fTst (fOp2 dLt (fVar 1) (fC (.int 0))))) (sRet (fC .non)) sNx)
def b_law_part_in_3 : Fs := (sPar 2 3 (aCons (fCall (fnK 1 0 1 F_law_side (fun ds _ => ds)) (aCons (fSl true (fVar 0) (oSome (fC (.int 1))) (oSome (fVar 1))) aNil) aNil) (aCons (fCall (fnK 1 0 1 F_law_side (fun ds _ => ds)) (aCons (fSl true (fVar 0) (oSome (fOp2 (dAdd true) (fVar 1) (fC (.int 1)))) oNone) aNil) aNil) aNil)))
def b_law_part_in_5 : Fs := (sRet (fLst true (aCons (fTup (aCons (fOp2 dIx (fVar 2) (fC (.int 0))) (aCons (fOp2 dIx (fVar 3) (fC (.int 0))) (aCons (fOp2 dIx (fVar 2) (fC (.int 1))) (aCons (fOp2 dIx (fVar 3) (fC (.int 1))) aNil))))) aNil)))
def b_law_part_in : Fs := (sSeq (sIf (fTst (fOp2 (dEq false) (fVar 0) (fC (.str "#")))) (sRet (fLst true (aCons (fC .non) aNil))) sNx) (sSeq (sAsg (fSm sFind (fVar 0) (fC (.str "C"))) (gN 1)) (sSeq b_law_part_in_2 (sSeq b_law_part_in_3 (sSeq (sIf (fOr (fTst (fOp2 (dIs false) (fVar 2) (fC .non))) (fTst (fOp2 (dIs false) (fVar 3) (fC .non)))) (sRet (fC .non)) sNx) b_law_part_in_5)))))
def F_law_part_in : List D → List Cell → Out D := runDef 1 4 b_law_part_in
def b_law_read_L0 : Fs := (sSeq (sAsg (fCall (fnK 1 0 1 F_law_part_in (fun ds _ => ds)) (aCons (fVar 3) aNil) aNil) (gN 4)) (sSeq (sIf (fOr (fTst (fOp2 (dIs false) (fVar 4) (fC .non))) (fTst (fOp2 (dEq false) (fVar 2) (fC (.int 20))))) (sRet (fVar 2)) sNx) (sAsg (fOp2 (dAdd true) (fVar 1) (fVar 4)) (gN 1))))
def b_law_read : Fs := (sSeq (sAsg (fLst true aNil) (gN 1)) (sSeq (sFor (iEn (aCons (fSm (sSplit true) (fVar 0) (fC (.str " "))) aNil)) (gT 2 (gsCons (gN 2) (gsCons (gN 3) gsNil))) b_law_read_L0) (sRet (fVar 1))))
def F_law_read : List D → List Cell → Out D := runDef 1 5 b_law_read
def b_law_L0 : Fs := (sAsg (fCall (fnK 3 0 3 F_law_bent (fun ds _ => ds)) (aCons (fVar 3) (aCons (fVar 6) (aCons (fVar 1) aNil))) aNil) (gN 6))
def b_law_L1 : Fs := (sSeq (sAsg (fCall (fnK 3 0 3 F_law_any (fun ds _ => ds)) (aCons (fVar 3) (aCons (fOp2 dIx (fLst true (aCons (fOp2 (dAdd true) (fC (.int 1)) (fCall (fnK 2 0 2 F_law_next (fun ds _ => ds)) (aCons (fVar 3) (aCons (fC (.int 4)) aNil)) aNil)) (aCons (fOp2 (dAdd true) (fC (.int 18)) (fCall (fnK 2 0 2 F_law_next (fun ds _ => ds)) (aCons (fVar 3) (aCons (fC (.int 3)) aNil)) aNil)) aNil))) (fCall (fnK 2 0 2 F_law_next (fun ds _ => ds)) (aCons (fVar 3) (aCons (fC (.int 2)) aNil)) aNil)) (aCons (fOp2 dPow (fC (.int 10)) (fC (.int 30))) aNil))) aNil) (gN 5)) (sSeq (sAsg (fSm sJoin (fC (.str " ")) (fLc true (iSq (fVar 5)) (gN 7) (fun _ c => .ok true c) (fCall (fnK 1 0 1 F_law_word (fun ds _ => ds)) (aCons (fVar 7) aNil) aNil) [7])) (gN 6)) (sSeq (sFor (iRg1 (aCons (fCall (fnK 2 0 2 F_law_next (fun ds _ => ds)) (aCons (fVar 3) (aCons (fC (.int 4)) aNil)) aNil) aNil)) (gN 8) b_law_L0) (sIf (fTst (fOp2 (dEq true) (fCB (gcAlt dRepr dReprN) (aCons (fCall (fnK 2 0 2 F_law_told (fun ds _ => ds)) (aCons (fVar 6) (aCons (fOp2 (dEq false) (fOp2 dMod (fVar 4) (fC (.int 2))) (fC (.int 0))) aNil)) aNil) aNil)) (fCB (gcAlt dRepr dReprN) (aCons (fCall (fnK 1 0 1 F_law_read (fun ds _ => ds)) (aCons (fVar 6) aNil) aNil) aNil)))) (sRet (fC (.bl false))) sNx))))
def b_law_L2 : Fs := (sSeq (sAsg (fCall (fnK 2 0 2 F_law_tape (fun ds _ => ds)) (aCons (fVar 0) (aCons (fVar 2) aNil)) aNil) (gN 3)) (sFor (iRg1 (aCons (fC (.int 40)) aNil)) (gN 4) b_law_L1))
def b_law_0 : Fs := (sAsg (fLst true (aCons (fC (.str "")) (aCons (fC (.str "#")) (aCons (fC (.str "##")) (aCons (fC (.str "R1C1")) (aCons (fC (.str "R[1]C[-1]")) (aCons (fC (.str "R[-0]C1")) (aCons (fC (.str "R[0]C[0]")) (aCons (fC (.str "R01C1")) (aCons (fC (.str "R1C01")) (aCons (fC (.str "R[01]C1")) (aCons (fC (.str "R[+1]C1")) (aCons (fC (.str "R-1C1")) aNil))))))))))))) (gN 1))
def b_law_1 : Fs := (sAsg (fOp2 (dAdd true) (fVar 1) (fLst true (aCons (fC (.str "r1c1")) (aCons (fC (.str "R1")) (aCons (fC (.str "C1")) (aCons (fC (.str "RC")) (aCons (fC (.str "R[]C[]")) (aCons (fC (.str "R[1C1")) (aCons (fC (.str "R1]C1")) (aCons (fC (.str "R[1]]C1")) (aCons (fC (.str "R[[1]]C1")) (aCons (fC (.str "R1C1C1")) (aCons (fC (.str "RR1C1")) (aCons (fC (.str "C1R1")) aNil)))))))))))))) (gN 1))
def b_law_2 : Fs := (sAsg (fOp2 (dAdd true) (fVar 1) (fLst true (aCons (fC (.str "R1C1,")) (aCons (fC (.str "1")) (aCons (fC (.str "R[-]C1")) (aCons (fC (.str "R[--1]C1")) (aCons (fC (.str "R[1 ]C1")) (aCons (fOp2 (dAdd true) (fOp2 (dAdd true) (fC (.str "R")) (fOp2 (gAlt (dMul true) dMulS) (fC (.str "9")) (fC (.int 30)))) (fC (.str "C0"))) (aCons (fOp2 (dAdd true) (fOp2 (dAdd true) (fC (.str "R")) (fOp2 (gAlt (dMul true) dMulS) (fC (.str "9")) (fC (.int 31)))) (fC (.str "C0"))) aNil))))))))) (gN 1))
def b_law_3 : Fs := (sAsg (fOp2 (dAdd true) (fVar 1) (fLst true (aCons (fOp2 (dAdd true) (fOp2 (dAdd true) (fC (.str "R0C[-")) (fOp2 (gAlt (dMul true) dMulS) (fC (.str "9")) (fC (.int 30)))) (fC (.str "]"))) (aCons (fOp2 (dAdd true) (fOp2 (dAdd true) (fC (.str "R0C[-")) (fOp2 (gAlt (dMul true) dMulS) (fC (.str "9")) (fC (.int 31)))) (fC (.str "]"))) (aCons (fC (.str "R1_0C1")) (aCons (fC (.str "R1.C1")) (aCons (fC (.str "R1C1\n")) (aCons (fC (.str "_")) (aCons (fC (.str "None")) aNil))))))))) (gN 1))
def b_law_4 : Fs := (sAsg (fOp2 (dAdd true) (fVar 1) (fLst true (aCons (fC (.str "R[1]C[1] ")) (aCons (fC (.str "R1C[-1")) (aCons (fC (.str "#R1C1")) aNil))))) (gN 1))
def b_law_5 : Fs := (sFor (iRg1 (aCons (fCB dMax (aCons (fC (.int 1)) (aCons (fCB dMin (aCons (fC (.int 2)) (aCons (fCB dLen (aCons (fVar 0) aNil)) aNil))) aNil))) aNil)) (gN 2) b_law_L2)
def b_law_6 : Fs := (sAsg (fOp2 (dAdd true) (fVar 1) (fLst true (aCons (fSm sJoin (fC (.str " ")) (fOp2 (gAlt (dMul true) dMulS) (fLst true (aCons (fC (.str "#")) aNil)) (fC (.int 20)))) (aCons (fSm sJoin (fC (.str " ")) (fOp2 (gAlt (dMul true) dMulS) (fLst true (aCons (fC (.str "#")) aNil)) (fC (.int 21)))) (aCons (fSm sJoin (fC (.str " ")) (fOp2 (dAdd true) (fOp2 (gAlt (dMul true) dMulS) (fLst true (aCons (fC (.str "R1C1")) aNil)) (fC (.int 20))) (fLst true (aCons (fC (.str "x")) aNil)))) (aCons (fC (.str " ")) (aCons (fC (.str "# ")) (aCons (fC (.str " #")) (aCons (fC (.str "#  #")) aNil))))))))) (gN 9))
def b_law_7 : Fs := (sAsg (fOp2 (dAdd true) (fVar 9) (fLst true (aCons (fSm sJoin (fC (.str " ")) (fOp2 (dAdd true) (fOp2 (gAlt (dMul true) dMulS) (fLst true (aCons (fC (.str "R1C1")) aNil)) (fC (.int 19))) (fLst true (aCons (fC (.str "x")) aNil)))) (aCons (fC (.str "#\n#")) (aCons (fC (.str "R1C1 R1C1 R1C")) (aCons (fOp2 (dAdd true) (fOp2 (dAdd true) (fOp2 (dAdd true) (fOp2 (dAdd true) (fC (.str "R[-")) (fOp2 (gAlt (dMul true) dMulS) (fC (.str "1")) (fC (.int 30)))) (fC (.str "]C["))) (fOp2 (gAlt (dMul true) dMulS) (fC (.str "1")) (fC (.int 30)))) (fC (.str "]"))) aNil)))))) (gN 9))
def b_law_8 : Fs := (sRet (fOp2 (dEq false) (fLc true (iSq (fVar 9)) (gN 10) (fTst (fOp2 (dEq true) (fCB (gcAlt dRepr dReprN) (aCons (fCall (fnK 2 0 2 F_law_told (fun ds _ => ds)) (aCons (fVar 10) (aCons (fC (.bl false)) aNil)) aNil) aNil)) (fCB (gcAlt dRepr dReprN) (aCons (fCall (fnK 1 0 1 F_law_read (fun ds _ => ds)) (aCons (fVar 10) aNil) aNil) aNil)))) (fVar 10) [10]) (fLst true aNil)))
def b_law_t8 : Fs := b_law_8
def b_law_t7 : Fs := (sSeq b_law_7 b_law_t8)
def b_law_t6 : Fs := (sSeq b_law_6 b_law_t7)
def b_law_t5 : Fs := (sSeq b_law_5 b_law_t6)
def b_law_t4 : Fs := (sSeq b_law_4 b_law_t5)
def b_law_t3 : Fs := (sSeq b_law_3 b_law_t4)
def b_law_t2 : Fs := (sSeq b_law_2 b_law_t3)
def b_law_t1 : Fs := (sSeq b_law_1 b_law_t2)
def b_law : Fs := (sSeq b_law_0 b_law_t1)
def F_law : List D → List Cell → Out D := runDef 1 11 b_law
end
end Ck82
namespace Ck82
open PySem PySem.Spec L2 PV
structure Txt (K : PySem.W.Frag) (mg : Str → Option Value) where
  cm : Nat → Addr
  f_law_tape : Addr
  d_law_tape : FuncData
  F_law_tape : FunD K "_law_tape" "_law_tape" (defArgs s_law_tape) (defBody s_law_tape) (defScope s_law_tape) [] [] f_law_tape d_law_tape
  m_law_tape : mg "_law_tape" = some (.ref f_law_tape)
  f_law_next : Addr
  d_law_next : FuncData
  F_law_next : FunD K "_law_next" "_law_next" (defArgs s_law_next) (defBody s_law_next) (defScope s_law_next) [] [] f_law_next d_law_next
  m_law_next : mg "_law_next" = some (.ref f_law_next)
  f_law_any : Addr
  d_law_any : FuncData
  F_law_any : FunD K "_law_any" "_law_any" (defArgs s_law_any) (defBody s_law_any) (defScope s_law_any) [] [] f_law_any d_law_any
  m_law_any : mg "_law_any" = some (.ref f_law_any)
  f_law_word : Addr
  d_law_word : FuncData
  F_law_word : FunD K "_law_word" "_law_word" (defArgs s_law_word) (defBody s_law_word) (defScope s_law_word) [] [] f_law_word d_law_word
  m_law_word : mg "_law_word" = some (.ref f_law_word)
  f_law_signs : Addr
  d_law_signs : FuncData
  F_law_signs : FunD K "_law_signs" "_law_signs" (defArgs s_law_signs) (defBody s_law_signs) (defScope s_law_signs) [] [] f_law_signs d_law_signs
  m_law_signs : mg "_law_signs" = some (.ref f_law_signs)
  f_law_bent : Addr
  d_law_bent : FuncData
  F_law_bent : FunD K "_law_bent" "_law_bent" (defArgs s_law_bent) (defBody s_law_bent) (defScope s_law_bent) [] [] f_law_bent d_law_bent
  m_law_bent : mg "_law_bent" = some (.ref f_law_bent)
  f_Formula_parts : Addr
  d_Formula_parts : FuncData
  F_Formula_parts : FunD K "parts" "Formula.parts" (defArgs s_Formula_parts) (defBody s_Formula_parts) (defScope s_Formula_parts) [] [] f_Formula_parts d_Formula_parts
  f_Reference_row : Addr
  d_Reference_row : FuncData
  F_Reference_row : FunD K "row" "Reference.row" (defArgs s_Reference_row) (defBody s_Reference_row) (defScope s_Reference_row) [] [] f_Reference_row d_Reference_row
  f_Reference_column : Addr
  d_Reference_column : FuncData
  F_Reference_column : FunD K "column" "Reference.column" (defArgs s_Reference_column) (defBody s_Reference_column) (defScope s_Reference_column) [] [] f_Reference_column d_Reference_column
  f_Reference_fixed_row : Addr
  d_Reference_fixed_row : FuncData
  F_Reference_fixed_row : FunD K "fixed_row" "Reference.fixed_row" (defArgs s_Reference_fixed_row) (defBody s_Reference_fixed_row) (defScope s_Reference_fixed_row) [] [] f_Reference_fixed_row d_Reference_fixed_row
  f_Reference_fixed_column : Addr
  d_Reference_fixed_column : FuncData
  F_Reference_fixed_column : FunD K "fixed_column" "Reference.fixed_column" (defArgs s_Reference_fixed_column) (defBody s_Reference_fixed_column) (defScope s_Reference_fixed_column) [] [] f_Reference_fixed_column d_Reference_fixed_column
  f_law_seen : Addr
  d_law_seen : FuncData
  F_law_seen : FunD K "_law_seen" "_law_seen" (defArgs s_law_seen) (defBody s_law_seen) (defScope s_law_seen) [] [] f_law_seen d_law_seen
  m_law_seen : mg "_law_seen" = some (.ref f_law_seen)
  f_number_in : Addr
  d_number_in : FuncData
  F_number_in : FunD K "number_in" "number_in" (defArgs s_number_in) (defBody s_number_in) (defScope s_number_in) [] [] f_number_in d_number_in
  m_number_in : mg "number_in" = some (.ref f_number_in)
  f_distance_in : Addr
  d_distance_in : FuncData
  F_distance_in : FunD K "distance_in" "distance_in" (defArgs s_distance_in) (defBody s_distance_in) (defScope s_distance_in) [] [] f_distance_in d_distance_in
  m_distance_in : mg "distance_in" = some (.ref f_distance_in)
  f_part_in : Addr
  d_part_in : FuncData
  F_part_in : FunD K "part_in" "part_in" (defArgs s_part_in) (defBody s_part_in) (defScope s_part_in) [] [] f_part_in d_part_in
  m_part_in : mg "part_in" = some (.ref f_part_in)
  f_is_integer : Addr
  d_is_integer : FuncData
  F_is_integer : FunD K "is_integer" "is_integer" (defArgs s_is_integer) (defBody s_is_integer) (defScope s_is_integer) [] [] f_is_integer d_is_integer
  m_is_integer : mg "is_integer" = some (.ref f_is_integer)
  f_is_place : Addr
  d_is_place : FuncData
  F_is_place : FunD K "is_place" "is_place" (defArgs s_is_place) (defBody s_is_place) (defScope s_is_place) [] [] f_is_place d_is_place
  m_is_place : mg "is_place" = some (.ref f_is_place)
  f_is_part : Addr
  d_is_part : FuncData
  F_is_part : FunD K "is_part" "is_part" (defArgs s_is_part) (defBody s_is_part) (defScope s_is_part) [] [] f_is_part d_is_part
  m_is_part : mg "is_part" = some (.ref f_is_part)
  f_Reference___init : Addr
  d_Reference___init : FuncData
  F_Reference___init : FunD K "__init__" "Reference.__init__" (defArgs s_Reference___init) (defBody s_Reference___init) (defScope s_Reference___init) [.bl false, .bl false] [] f_Reference___init d_Reference___init
  f_reference_in : Addr
  d_reference_in : FuncData
  F_reference_in : FunD K "reference_in" "reference_in" (defArgs s_reference_in) (defBody s_reference_in) (defScope s_reference_in) [] [] f_reference_in d_reference_in
  m_reference_in : mg "reference_in" = some (.ref f_reference_in)
  f_InvalidText___init : Addr
  d_InvalidText___init : FuncData
  F_InvalidText___init : FunD K "__init__" "InvalidText.__init__" (defArgs s_InvalidText___init) (defBody s_InvalidText___init) (defScope s_InvalidText___init) [] [] f_InvalidText___init d_InvalidText___init
  f_Formula___init : Addr
  d_Formula___init : FuncData
  F_Formula___init : FunD K "__init__" "Formula.__init__" (defArgs s_Formula___init) (defBody s_Formula___init) (defScope s_Formula___init) [] [] f_Formula___init d_Formula___init
  f_Formula_of : Addr
  d_Formula_of : FuncData
  F_Formula_of : FunD K "of" "Formula.of" (defArgs s_Formula_of) (defBody s_Formula_of) (defScope s_Formula_of) [] [] f_Formula_of d_Formula_of
  f_read_formula : Addr
  d_read_formula : FuncData
  F_read_formula : FunD K "read_formula" "read_formula" (defArgs s_read_formula) (defBody s_read_formula) (defScope s_read_formula) [] [] f_read_formula d_read_formula
  m_read_formula : mg "read_formula" = some (.ref f_read_formula)
  f_law_told : Addr
  d_law_told : FuncData
  F_law_told : FunD K "_law_told" "_law_told" (defArgs s_law_told) (defBody s_law_told) (defScope s_law_told) [] [] f_law_told d_law_told
  m_law_told : mg "_law_told" = some (.ref f_law_told)
  f_law_number : Addr
  d_law_number : FuncData
  F_law_number : FunD K "_law_number" "_law_number" (defArgs s_law_number) (defBody s_law_number) (defScope s_law_number) [] [] f_law_number d_law_number
  m_law_number : mg "_law_number" = some (.ref f_law_number)
  f_law_side : Addr
  d_law_side : FuncData
  F_law_side : FunD K "_law_side" "_law_side" (defArgs s_law_side) (defBody s_law_side) (defScope s_law_side) [] [] f_law_side d_law_side
  m_law_side : mg "_law_side" = some (.ref f_law_side)
  f_law_part_in : Addr
  d_law_part_in : FuncData
  F_law_part_in : FunD K "_law_part_in" "_law_part_in" (defArgs s_law_part_in) (defBody s_law_part_in) (defScope s_law_part_in) [] [] f_law_part_in d_law_part_in
  m_law_part_in : mg "_law_part_in" = some (.ref f_law_part_in)
  f_law_read : Addr
  d_law_read : FuncData
  F_law_read : FunD K "_law_read" "_law_read" (defArgs s_law_read) (defBody s_law_read) (defScope s_law_read) [] [] f_law_read d_law_read
  m_law_read : mg "_law_read" = some (.ref f_law_read)
  f_law : Addr
  d_law : FuncData
  F_law : FunD K "law" "law" (defArgs s_law) (defBody s_law) (defScope s_law) [] [] f_law d_law
  m_law : mg "law" = some (.ref f_law)
  n_range : mg "range" = none
  n_max : mg "max" = none
  n_min : mg "min" = none
  n_len : mg "len" = none
  n_abs : mg "abs" = none
  n_str : mg "str" = none
  n_repr : mg "repr" = none
  g_InvalidText : mg "InvalidText" = some (.ref (cm 7))
  xs_InvalidText : ∀ k b, xsub_InvalidText k = some b → PySem.W.exmOne K (.ref (cm k)) (.ref (cm 7)) = some b
  q_Formula_parts : Addr
  p_Formula_parts : PropOf K (cm 1) "parts" q_Formula_parts f_Formula_parts
  c_Formula : Cls K (cm 1)
  n_list : mg "list" = none
  q_Reference_row : Addr
  p_Reference_row : PropOf K (cm 0) "row" q_Reference_row f_Reference_row
  c_Reference : Cls K (cm 0)
  q_Reference_column : Addr
  p_Reference_column : PropOf K (cm 0) "column" q_Reference_column f_Reference_column
  q_Reference_fixed_row : Addr
  p_Reference_fixed_row : PropOf K (cm 0) "fixed_row" q_Reference_fixed_row f_Reference_fixed_row
  q_Reference_fixed_column : Addr
  p_Reference_fixed_column : PropOf K (cm 0) "fixed_column" q_Reference_fixed_column f_Reference_fixed_column
  n_enumerate : mg "enumerate" = none
  g_MOST_DIGITS : ∃ t : Tok, mg "MOST_DIGITS" = some (.int 30 t)
  n_all : mg "all" = none
  g_DIGITS : ∃ t : Tok, mg "DIGITS" = some (.str "0123456789" t)
  n_int : mg "int" = none
  g_Reference : mg "Reference" = some (.ref (cm 0))
  mk_Reference : Mk K (cm 0) f_Reference___init
  n_isinstance : mg "isinstance" = none
  n_bool : mg "bool" = none
  tab : Tab K cm nCls tab
  g_GREATEST : ∃ t : Tok, mg "GREATEST" = some (.int 1000000000000000000000000000000 t)
  g_MOST_PARTS_texts : ∃ t : Tok, mg "MOST_PARTS_texts" = some (.int 20 t)
  g_BROKEN : ∃ t : Tok, mg "BROKEN" = some (.str "#" t)
  xw_InvalidText : OexC K (cm 7)
  xi_InvalidText : PySem.W.findIn K (.ref (cm 7)) "__init__" = some (some (.ref f_InvalidText___init))
  xt_InvalidText : PySem.W.typeIn K (.ref f_InvalidText___init) = some (.type "function")
  xn_InvalidText : PySem.W.findIn K (.ref (cm 7)) "word" = some none
  g_CopyError : mg "CopyError" = some (.ref (cm 2))
  cr_CopyError : ClX.CRead K (cm 2) (.type "type")
  xb_CopyError : PySem.W.findCls K (.ref (cm 2)) (.type "type") "__init__" = some (.val (.builtin "ValueError.__init__"))
  g_Formula : mg "Formula" = some (.ref (cm 1))
  cr_Formula : ClX.CRead K (cm 1) (.type "type")
  z_Formula_of : Addr
  cm_Formula_of : ClX.CMet K (cm 1) (.type "type") "of" z_Formula_of f_Formula_of
  mk_Formula : Mk K (cm 1) f_Formula___init
  g_MOST_PARTS_formulas : ∃ t : Tok, mg "MOST_PARTS_formulas" = some (.int 20 t)
  n_tuple : mg "tuple" = none
  g_InvalidFormula : mg "InvalidFormula" = some (.ref (cm 4))
  g_InvalidNumber : mg "InvalidNumber" = some (.ref (cm 6))
  g_InvalidReference : mg "InvalidReference" = some (.ref (cm 3))
  g_InvalidWay : mg "InvalidWay" = some (.ref (cm 5))
  tx : ∀ c, okx c = true → XIs K (cm c)
  n_ValueError : mg "ValueError" = none
  xf_InvalidText : ∀ k, xsub_InvalidText k = some true → XfC K (cm k) ∧ PySem.W.findIn K (.ref (cm k)) "word" = some none
  a_held_parts : ∀ c ∈ ([1] : List Nat), Cls K (cm c) ∧ NoAttr K (cm c) "held_parts"
  a_held_row : ∀ c ∈ ([0] : List Nat), Cls K (cm c) ∧ NoAttr K (cm c) "held_row"
  a_held_column : ∀ c ∈ ([0] : List Nat), Cls K (cm c) ∧ NoAttr K (cm c) "held_column"
  a_held_fixed_row : ∀ c ∈ ([0] : List Nat), Cls K (cm c) ∧ NoAttr K (cm c) "held_fixed_row"
  a_held_fixed_column : ∀ c ∈ ([0] : List Nat), Cls K (cm c) ∧ NoAttr K (cm c) "held_fixed_column"
section
variable {P : Program} {w : World} {K : PySem.W.Frag} {mg : Str → Option Value} {base : Heap}
theorem arg_law_tape (T : Txt K mg) : Arg K T.cm T.d_law_tape ["_law_script", "_law_k"] 2 [] (fun ds _ => ds) := arg_all T.F_law_tape rfl fun _ _ _ _ _ _ us hl => match us, hl with | [_, _], _ => rfl
theorem sc_law_tape : FnScope ["_law_script", "_law_k", "_law_cell_here"] ["_law_script", "_law_k"] (defScope s_law_tape) := ⟨rfl, rfl, rfl, by decide +kernel, rfl, by decide +kernel, by decide +kernel⟩
theorem ok_law_tape (T : Txt K mg) : FnB P w K mg base T.cm 1 T.f_law_tape T.d_law_tape ["_law_script", "_law_k"] F_law_tape := fn_body T.F_law_tape sc_law_tape fun cdv A outer s H E hr hg =>
  have sc := sc_law_tape
  have tk : Takes (cxOf (L2.CX P w) P w K mg base ["_law_script", "_law_k", "_law_cell_here"] "_law_tape" (defScope s_law_tape) T.f_law_tape cdv A outer s H E) (yOf E) := L2.takes_of rfl rfl rfl rfl
  (fs_cons (fs_set sc.nd rfl (by first | exact Or.inl rfl | exact Or.inr rfl) (fe_if (ft_cmp op_dLt (fv 1) (fe_callB (call_dLen) T.n_len (by decide +kernel) (fa_cons (fv 0) fa_nil)) (nomark _)) (fe_callB (call_dAbs) T.n_abs (by decide +kernel) (fa_cons (fe_ix (fv 0) (fv 1)) fa_nil)) fe_int)) (fs_one (fs_ret (fe_lst false (fa_cons (fe_callB (call_dMax rfl) T.n_max (by decide +kernel) (fa_cons fe_int (fa_cons (fe_op op_dSub (fv 2) (fe_op op_dPow fe_int fe_int)) fa_nil))) (fa_cons (fe_op (op_dAdd true) (fe_op (op_dMul true) (fe_op op_dMod (fv 2) (fe_op (op_dAdd true) (fe_op op_dPow fe_int fe_int) fe_int)) fe_int) (fv 1)) (fa_cons fe_int fa_nil)))))))
theorem arg_law_next (T : Txt K mg) : Arg K T.cm T.d_law_next ["_law_tape_here", "_law_many"] 2 [] (fun ds _ => ds) := arg_all T.F_law_next rfl fun _ _ _ _ _ _ us hl => match us, hl with | [_, _], _ => rfl
theorem sc_law_next : FnScope ["_law_tape_here", "_law_many", "_law_digit", "_law_mixed"] ["_law_tape_here", "_law_many"] (defScope s_law_next) := ⟨rfl, rfl, rfl, by decide +kernel, rfl, by decide +kernel, by decide +kernel⟩
theorem st_law_next_0 (T : Txt K mg) {cdv : Value} {A : Around} {outer : List Env} {s : Shared} {H : Hp} {E : XK} (hr : Room 0 (cxOf (L2.CX P w) P w K mg base ["_law_tape_here", "_law_many", "_law_digit", "_law_mixed"] "_law_next" (defScope s_law_next) T.f_law_next cdv A outer s H E).A) (hg : (cxOf (L2.CX P w) P w K mg base ["_law_tape_here", "_law_many", "_law_digit", "_law_mixed"] "_law_next" (defScope s_law_next) T.f_law_next cdv A outer s H E).A.guards = some []) : FS (cxOf (L2.CX P w) P w K mg base ["_law_tape_here", "_law_many", "_law_digit", "_law_mixed"] "_law_next" (defScope s_law_next) T.f_law_next cdv A outer s H E) T.cm (yOf E) ((defBody s_law_next).getD 0 (.Pass ⟨0, 0, 0, 0⟩)) b_law_next_0 :=
  have sc := sc_law_next
  have tk : Takes (cxOf (L2.CX P w) P w K mg base ["_law_tape_here", "_law_many", "_law_digit", "_law_mixed"] "_law_next" (defScope s_law_next) T.f_law_next cdv A outer s H E) (yOf E) := L2.takes_of rfl rfl rfl rfl
  (fs_if (ft_cmp op_dGt (fe_ix (fv 0) fe_int) fe_int (nomark _)) (fs_cons (fs_set sc.nd rfl (by first | exact Or.inl rfl | exact Or.inr rfl) (fe_op op_dMod (fe_ix (fv 0) fe_int) (fv 1))) (fs_cons (fs_sub (fe_op op_dFdiv (fe_ix (fv 0) fe_int) (fv 1)) (fv 0) fe_int) (fs_one (fs_ret (fv 2))))) fs_nil)
theorem st_law_next_2 (T : Txt K mg) {cdv : Value} {A : Around} {outer : List Env} {s : Shared} {H : Hp} {E : XK} (hr : Room 0 (cxOf (L2.CX P w) P w K mg base ["_law_tape_here", "_law_many", "_law_digit", "_law_mixed"] "_law_next" (defScope s_law_next) T.f_law_next cdv A outer s H E).A) (hg : (cxOf (L2.CX P w) P w K mg base ["_law_tape_here", "_law_many", "_law_digit", "_law_mixed"] "_law_next" (defScope s_law_next) T.f_law_next cdv A outer s H E).A.guards = some []) : FS (cxOf (L2.CX P w) P w K mg base ["_law_tape_here", "_law_many", "_law_digit", "_law_mixed"] "_law_next" (defScope s_law_next) T.f_law_next cdv A outer s H E) T.cm (yOf E) ((defBody s_law_next).getD 2 (.Pass ⟨0, 0, 0, 0⟩)) b_law_next_2 :=
  have sc := sc_law_next
  have tk : Takes (cxOf (L2.CX P w) P w K mg base ["_law_tape_here", "_law_many", "_law_digit", "_law_mixed"] "_law_next" (defScope s_law_next) T.f_law_next cdv A outer s H E) (yOf E) := L2.takes_of rfl rfl rfl rfl
  (fs_set sc.nd rfl (by first | exact Or.inl rfl | exact Or.inr rfl) (fe_op op_dMod (fe_op op_dPow (fe_op (op_dAdd true) (fe_ix (fv 0) fe_int) (fe_op (op_dMul true) fe_int (fe_ix (fv 0) fe_int))) fe_int) (fe_op (op_dAdd true) (fe_op op_dPow fe_int fe_int) fe_int)))
theorem st_law_next_3 (T : Txt K mg) {cdv : Value} {A : Around} {outer : List Env} {s : Shared} {H : Hp} {E : XK} (hr : Room 0 (cxOf (L2.CX P w) P w K mg base ["_law_tape_here", "_law_many", "_law_digit", "_law_mixed"] "_law_next" (defScope s_law_next) T.f_law_next cdv A outer s H E).A) (hg : (cxOf (L2.CX P w) P w K mg base ["_law_tape_here", "_law_many", "_law_digit", "_law_mixed"] "_law_next" (defScope s_law_next) T.f_law_next cdv A outer s H E).A.guards = some []) : FS (cxOf (L2.CX P w) P w K mg base ["_law_tape_here", "_law_many", "_law_digit", "_law_mixed"] "_law_next" (defScope s_law_next) T.f_law_next cdv A outer s H E) T.cm (yOf E) ((defBody s_law_next).getD 3 (.Pass ⟨0, 0, 0, 0⟩)) b_law_next_3 :=
  have sc := sc_law_next
  have tk : Takes (cxOf (L2.CX P w) P w K mg base ["_law_tape_here", "_law_many", "_law_digit", "_law_mixed"] "_law_next" (defScope s_law_next) T.f_law_next cdv A outer s H E) (yOf E) := L2.takes_of rfl rfl rfl rfl
  (fs_set sc.nd rfl (by first | exact Or.inl rfl | exact Or.inr rfl) (fe_op op_dMod (fe_op op_dPow (fe_op (op_dAdd true) (fv 3) (fe_op (op_dMul true) fe_int (fe_ix (fv 0) fe_int))) fe_int) (fe_op (op_dAdd true) (fe_op op_dPow fe_int fe_int) fe_int)))
theorem ok_law_next (T : Txt K mg) : FnB P w K mg base T.cm 1 T.f_law_next T.d_law_next ["_law_tape_here", "_law_many"] F_law_next := fn_body T.F_law_next sc_law_next fun cdv A outer s H E hr hg =>
  have sc := sc_law_next
  have tk : Takes (cxOf (L2.CX P w) P w K mg base ["_law_tape_here", "_law_many", "_law_digit", "_law_mixed"] "_law_next" (defScope s_law_next) T.f_law_next cdv A outer s H E) (yOf E) := L2.takes_of rfl rfl rfl rfl
  (fs_cons (st_law_next_0 T hr hg) (fs_cons (fs_sub (fe_op (op_dAdd true) (fe_ix (fv 0) fe_int) fe_int) (fv 0) fe_int) (fs_cons (st_law_next_2 T hr hg) (fs_cons (st_law_next_3 T hr hg) (fs_one (fs_ret (fe_op op_dMod (fe_op op_dFdiv (fv 3) fe_int) (fv 1))))))))
theorem arg_law_any (T : Txt K mg) : Arg K T.cm T.d_law_any ["_law_tape_here", "_law_many", "_law_wide"] 3 [] (fun ds _ => ds) := arg_all T.F_law_any rfl fun _ _ _ _ _ _ us hl => match us, hl with | [_, _, _], _ => rfl
theorem sc_law_any : FnScope ["_law_tape_here", "_law_many", "_law_wide", "_law_found", "_law_turn", "_law_numbers", "_law_fixed_here", "_law_axis", "_law_is_fixed", "_law_number_here"] ["_law_tape_here", "_law_many", "_law_wide"] (defScope s_law_any) := ⟨rfl, rfl, rfl, by decide +kernel, rfl, by decide +kernel, by decide +kernel⟩
theorem ok_law_any (T : Txt K mg) : FnB P w K mg base T.cm 2 T.f_law_any T.d_law_any ["_law_tape_here", "_law_many", "_law_wide"] F_law_any := fn_body T.F_law_any sc_law_any fun cdv A outer s H E hr hg =>
  have sc := sc_law_any
  have tk : Takes (cxOf (L2.CX P w) P w K mg base ["_law_tape_here", "_law_many", "_law_wide", "_law_found", "_law_turn", "_law_numbers", "_law_fixed_here", "_law_axis", "_law_is_fixed", "_law_number_here"] "_law_any" (defScope s_law_any) T.f_law_any cdv A outer s H E) (yOf E) := L2.takes_of rfl rfl rfl rfl
  (fs_cons (fs_set sc.nd rfl (by first | exact Or.inl rfl | exact Or.inr rfl) (fe_lst false fa_nil)) (fs_cons (fs_for (L2.passes_of rfl) rfl (fi_range1 T.n_range (fa_cons (fv 1) fa_nil)) (fg_name sc.nd rfl (by first | exact Or.inl rfl | exact Or.inr rfl)) (fs_cons (fs_par rfl sc.nd rfl rfl (by decide) rfl rfl (fa_cons (fe_lst false fa_nil) (fa_cons (fe_lst false fa_nil) fa_nil)) (by rfl)) (fs_cons (fs_for (L2.passes_of rfl) rfl (fi_range1 T.n_range (fa_cons fe_int fa_nil)) (fg_name sc.nd rfl (by first | exact Or.inl rfl | exact Or.inr rfl)) (fs_cons (fs_par rfl sc.nd rfl rfl (by decide) rfl rfl (fa_cons (fe_cmp (op_dEq hr.units) (fe_call (cal_f (ok_law_next T) (arg_law_next T) (hr.mono (by decide)) hg tk T.F_law_next.kp) T.m_law_next (fa_cons (fv 0) (fa_cons fe_int fa_nil))) fe_int (nomark _)) (fa_cons (fe_ix (fe_lst true (fa_cons (fe_call (cal_f (ok_law_next T) (arg_law_next T) (hr.mono (by decide)) hg tk T.F_law_next.kp) T.m_law_next (fa_cons (fv 0) (fa_cons (fv 2) fa_nil))) (fa_cons fe_int (fa_cons (fe_op op_dSub (fv 2) fe_int) (fa_cons fe_int fa_nil))))) (fe_call (cal_f (ok_law_next T) (arg_law_next T) (hr.mono (by decide)) hg tk T.F_law_next.kp) T.m_law_next (fa_cons (fv 0) (fa_cons fe_int fa_nil)))) fa_nil)) (by rfl)) (fs_cons (fs_expr (fe_lm PySem.F.slot_list_append PySem.F.type_list_append mt_dAppend (fv 5) (fa_cons (fe_if (ft_w (fw_or (ft_truth (fv 8)) (fw_or1 (ft_cmp (op_dEq hr.units) (fe_call (cal_f (ok_law_next T) (arg_law_next T) (hr.mono (by decide)) hg tk T.F_law_next.kp) T.m_law_next (fa_cons (fv 0) (fa_cons fe_int fa_nil))) fe_int (nomark _))))) (fv 9) (fe_op op_dSub fe_int (fv 9))) fa_nil))) (fs_one (fs_expr (fe_lm PySem.F.slot_list_append PySem.F.type_list_append mt_dAppend (fv 6) (fa_cons (fv 8) fa_nil))))))) (fs_frz 5 (fs_frz 6 (fs_one (fs_expr (fe_lm PySem.F.slot_list_append PySem.F.type_list_append mt_dAppend (fv 3) (fa_cons (fe_if (ft_cmp op_dGt (fe_call (cal_f (ok_law_next T) (arg_law_next T) (hr.mono (by decide)) hg tk T.F_law_next.kp) T.m_law_next (fa_cons (fv 0) (fa_cons fe_int fa_nil))) fe_int (nomark _)) (fe_tup (fa_cons (fe_ix (fv 5) fe_int) (fa_cons (fe_ix (fv 5) fe_int) (fa_cons (fe_ix (fv 6) fe_int) (fa_cons (fe_ix (fv 6) fe_int) fa_nil))))) fe_non) fa_nil))))))))) (fs_frz 3 (fs_one (fs_ret (fv 3))))))
theorem arg_law_word (T : Txt K mg) : Arg K T.cm T.d_law_word ["_law_part"] 1 [] (fun ds _ => ds) := arg_all T.F_law_word rfl fun _ _ _ _ _ _ us hl => match us, hl with | [_], _ => rfl
theorem sc_law_word : FnScope ["_law_part", "_law_row_here"] ["_law_part"] (defScope s_law_word) := ⟨rfl, rfl, rfl, by decide +kernel, rfl, by decide +kernel, by decide +kernel⟩
theorem ok_law_word (T : Txt K mg) : FnB P w K mg base T.cm 1 T.f_law_word T.d_law_word ["_law_part"] F_law_word := fn_body T.F_law_word sc_law_word fun cdv A outer s H E hr hg =>
  have sc := sc_law_word
  have tk : Takes (cxOf (L2.CX P w) P w K mg base ["_law_part", "_law_row_here"] "_law_word" (defScope s_law_word) T.f_law_word cdv A outer s H E) (yOf E) := L2.takes_of rfl rfl rfl rfl
  (fs_cons (fs_if (ft_cmp op_dIs (fv 0) fe_non (nomark _)) (fs_one (fs_ret fe_str)) fs_nil) (fs_cons (fs_set sc.nd rfl (by first | exact Or.inl rfl | exact Or.inr rfl) (fe_if (ft_truth (fe_ix (fv 0) fe_int)) (fe_callTy (call_dStrC) T.n_str (by decide +kernel) (fa_cons (fe_ix (fv 0) fe_int) fa_nil)) (fe_op (op_dAdd true) (fe_op (op_dAdd true) fe_str (fe_callTy (call_dStrC) T.n_str (by decide +kernel) (fa_cons (fe_ix (fv 0) fe_int) fa_nil))) fe_str))) (fs_one (fs_ret (fe_op (op_dAdd true) (fe_op (op_dAdd true) (fe_op (op_dAdd true) fe_str (fv 1)) fe_str) (fe_if (ft_truth (fe_ix (fv 0) fe_int)) (fe_callTy (call_dStrC) T.n_str (by decide +kernel) (fa_cons (fe_ix (fv 0) fe_int) fa_nil)) (fe_op (op_dAdd true) (fe_op (op_dAdd true) fe_str (fe_callTy (call_dStrC) T.n_str (by decide +kernel) (fa_cons (fe_ix (fv 0) fe_int) fa_nil))) fe_str)))))))
theorem arg_law_signs (T : Txt K mg) : Arg K T.cm T.d_law_signs [] 0 [] (fun ds _ => ds) := arg_all T.F_law_signs rfl fun _ _ _ _ _ _ us hl => match us, hl with | [], _ => rfl
theorem sc_law_signs : FnScope [] [] (defScope s_law_signs) := ⟨rfl, rfl, rfl, by decide +kernel, rfl, by decide +kernel, by decide +kernel⟩
theorem ok_law_signs (T : Txt K mg) : FnB P w K mg base T.cm 1 T.f_law_signs T.d_law_signs [] F_law_signs := fn_body T.F_law_signs sc_law_signs fun cdv A outer s H E hr hg =>
  have sc := sc_law_signs
  have tk : Takes (cxOf (L2.CX P w) P w K mg base [] "_law_signs" (defScope s_law_signs) T.f_law_signs cdv A outer s H E) (yOf E) := L2.takes_of rfl rfl rfl rfl
  (fs_one (fs_ret (fe_op (op_dAdd true) (fe_op (op_dAdd true) fe_str fe_str) fe_str)))
theorem arg_law_bent (T : Txt K mg) : Arg K T.cm T.d_law_bent ["_law_tape_here", "_law_written", "_law_odd"] 3 [] (fun ds _ => ds) := arg_all T.F_law_bent rfl fun _ _ _ _ _ _ us hl => match us, hl with | [_, _, _], _ => rfl
theorem sc_law_bent : FnScope ["_law_tape_here", "_law_written", "_law_odd", "_law_words", "_law_door", "_law_spot", "_law_some", "_law_cut", "_law_signs_here"] ["_law_tape_here", "_law_written", "_law_odd"] (defScope s_law_bent) := ⟨rfl, rfl, rfl, by decide +kernel, rfl, by decide +kernel, by decide +kernel⟩
theorem st_law_bent_0 (T : Txt K mg) {cdv : Value} {A : Around} {outer : List Env} {s : Shared} {H : Hp} {E : XK} (hr : Room 1 (cxOf (L2.CX P w) P w K mg base ["_law_tape_here", "_law_written", "_law_odd", "_law_words", "_law_door", "_law_spot", "_law_some", "_law_cut", "_law_signs_here"] "_law_bent" (defScope s_law_bent) T.f_law_bent cdv A outer s H E).A) (hg : (cxOf (L2.CX P w) P w K mg base ["_law_tape_here", "_law_written", "_law_odd", "_law_words", "_law_door", "_law_spot", "_law_some", "_law_cut", "_law_signs_here"] "_law_bent" (defScope s_law_bent) T.f_law_bent cdv A outer s H E).A.guards = some []) : FS (cxOf (L2.CX P w) P w K mg base ["_law_tape_here", "_law_written", "_law_odd", "_law_words", "_law_door", "_law_spot", "_law_some", "_law_cut", "_law_signs_here"] "_law_bent" (defScope s_law_bent) T.f_law_bent cdv A outer s H E) T.cm (yOf E) ((defBody s_law_bent).getD 0 (.Pass ⟨0, 0, 0, 0⟩)) b_law_bent_0 :=
  have sc := sc_law_bent
  have tk : Takes (cxOf (L2.CX P w) P w K mg base ["_law_tape_here", "_law_written", "_law_odd", "_law_words", "_law_door", "_law_spot", "_law_some", "_law_cut", "_law_signs_here"] "_law_bent" (defScope s_law_bent) T.f_law_bent cdv A outer s H E) (yOf E) := L2.takes_of rfl rfl rfl rfl
  (fs_par rfl sc.nd rfl rfl (by decide) rfl rfl (fa_cons (fe_sm PySem.F.slot_str_split PySem.F.type_str_split mt_sSplit (fv 1) fe_str) (fa_cons (fe_call (cal_f (ok_law_next T) (arg_law_next T) (hr.mono (by decide)) hg tk T.F_law_next.kp) T.m_law_next (fa_cons (fv 0) (fa_cons fe_int fa_nil))) fa_nil)) (by rfl))
theorem st_law_bent_1 (T : Txt K mg) {cdv : Value} {A : Around} {outer : List Env} {s : Shared} {H : Hp} {E : XK} (hr : Room 1 (cxOf (L2.CX P w) P w K mg base ["_law_tape_here", "_law_written", "_law_odd", "_law_words", "_law_door", "_law_spot", "_law_some", "_law_cut", "_law_signs_here"] "_law_bent" (defScope s_law_bent) T.f_law_bent cdv A outer s H E).A) (hg : (cxOf (L2.CX P w) P w K mg base ["_law_tape_here", "_law_written", "_law_odd", "_law_words", "_law_door", "_law_spot", "_law_some", "_law_cut", "_law_signs_here"] "_law_bent" (defScope s_law_bent) T.f_law_bent cdv A outer s H E).A.guards = some []) : FS (cxOf (L2.CX P w) P w K mg base ["_law_tape_here", "_law_written", "_law_odd", "_law_words", "_law_door", "_law_spot", "_law_some", "_law_cut", "_law_signs_here"] "_law_bent" (defScope s_law_bent) T.f_law_bent cdv A outer s H E) T.cm (yOf E) ((defBody s_law_bent).getD 1 (.Pass ⟨0, 0, 0, 0⟩)) b_law_bent_1 :=
  have sc := sc_law_bent
  have tk : Takes (cxOf (L2.CX P w) P w K mg base ["_law_tape_here", "_law_written", "_law_odd", "_law_words", "_law_door", "_law_spot", "_law_some", "_law_cut", "_law_signs_here"] "_law_bent" (defScope s_law_bent) T.f_law_bent cdv A outer s H E) (yOf E) := L2.takes_of rfl rfl rfl rfl
  (fs_par rfl sc.nd rfl rfl (by decide) rfl rfl (fa_cons (fe_call (cal_f (ok_law_next T) (arg_law_next T) (hr.mono (by decide)) hg tk T.F_law_next.kp) T.m_law_next (fa_cons (fv 0) (fa_cons (fe_callB (call_dLen) T.n_len (by decide +kernel) (fa_cons (fv 3) fa_nil)) fa_nil))) (fa_cons (fe_ix (fv 2) (fe_call (cal_f (ok_law_next T) (arg_law_next T) (hr.mono (by decide)) hg tk T.F_law_next.kp) T.m_law_next (fa_cons (fv 0) (fa_cons (fe_callB (call_dLen) T.n_len (by decide +kernel) (fa_cons (fv 2) fa_nil)) fa_nil)))) fa_nil)) (by rfl))
theorem st_law_bent_2 (T : Txt K mg) {cdv : Value} {A : Around} {outer : List Env} {s : Shared} {H : Hp} {E : XK} (hr : Room 1 (cxOf (L2.CX P w) P w K mg base ["_law_tape_here", "_law_written", "_law_odd", "_law_words", "_law_door", "_law_spot", "_law_some", "_law_cut", "_law_signs_here"] "_law_bent" (defScope s_law_bent) T.f_law_bent cdv A outer s H E).A) (hg : (cxOf (L2.CX P w) P w K mg base ["_law_tape_here", "_law_written", "_law_odd", "_law_words", "_law_door", "_law_spot", "_law_some", "_law_cut", "_law_signs_here"] "_law_bent" (defScope s_law_bent) T.f_law_bent cdv A outer s H E).A.guards = some []) : FS (cxOf (L2.CX P w) P w K mg base ["_law_tape_here", "_law_written", "_law_odd", "_law_words", "_law_door", "_law_spot", "_law_some", "_law_cut", "_law_signs_here"] "_law_bent" (defScope s_law_bent) T.f_law_bent cdv A outer s H E) T.cm (yOf E) ((defBody s_law_bent).getD 2 (.Pass ⟨0, 0, 0, 0⟩)) b_law_bent_2 :=
  have sc := sc_law_bent
  have tk : Takes (cxOf (L2.CX P w) P w K mg base ["_law_tape_here", "_law_written", "_law_odd", "_law_words", "_law_door", "_law_spot", "_law_some", "_law_cut", "_law_signs_here"] "_law_bent" (defScope s_law_bent) T.f_law_bent cdv A outer s H E) (yOf E) := L2.takes_of rfl rfl rfl rfl
  (fs_if (ft_cmp op_dLt (fv 4) fe_int (nomark _)) (fs_one (fs_ret (fe_sm PySem.F.slot_str_join PySem.F.type_str_join mt_sJoin fe_str (fe_op (op_dAdd true) (fe_op (op_dAdd true) (fe_slice true (fv 3) fo_none (fo_some (fv 5))) (fe_lst true (fa_cons (fv 6) fa_nil))) (fe_slice true (fv 3) (fo_some (fe_op (op_dAdd true) (fv 5) (fv 4))) fo_none))))) fs_nil)
theorem st_law_bent_3 (T : Txt K mg) {cdv : Value} {A : Around} {outer : List Env} {s : Shared} {H : Hp} {E : XK} (hr : Room 1 (cxOf (L2.CX P w) P w K mg base ["_law_tape_here", "_law_written", "_law_odd", "_law_words", "_law_door", "_law_spot", "_law_some", "_law_cut", "_law_signs_here"] "_law_bent" (defScope s_law_bent) T.f_law_bent cdv A outer s H E).A) (hg : (cxOf (L2.CX P w) P w K mg base ["_law_tape_here", "_law_written", "_law_odd", "_law_words", "_law_door", "_law_spot", "_law_some", "_law_cut", "_law_signs_here"] "_law_bent" (defScope s_law_bent) T.f_law_bent cdv A outer s H E).A.guards = some []) : FS (cxOf (L2.CX P w) P w K mg base ["_law_tape_here", "_law_written", "_law_odd", "_law_words", "_law_door", "_law_spot", "_law_some", "_law_cut", "_law_signs_here"] "_law_bent" (defScope s_law_bent) T.f_law_bent cdv A outer s H E) T.cm (yOf E) ((defBody s_law_bent).getD 3 (.Pass ⟨0, 0, 0, 0⟩)) b_law_bent_3 :=
  have sc := sc_law_bent
  have tk : Takes (cxOf (L2.CX P w) P w K mg base ["_law_tape_here", "_law_written", "_law_odd", "_law_words", "_law_door", "_law_spot", "_law_some", "_law_cut", "_law_signs_here"] "_law_bent" (defScope s_law_bent) T.f_law_bent cdv A outer s H E) (yOf E) := L2.takes_of rfl rfl rfl rfl
  (fs_if (ft_cmp (op_dEq hr.units) (fv 4) fe_int (nomark _)) (fs_one (fs_ret (fe_sm PySem.F.slot_str_join PySem.F.type_str_join mt_sJoin fe_str (fe_op (op_dAdd true) (fe_slice true (fv 3) fo_none (fo_some (fv 5))) (fe_slice true (fv 3) (fo_some (fe_op (op_dAdd true) (fv 5) fe_int)) fo_none))))) fs_nil)
theorem st_law_bent_4 (T : Txt K mg) {cdv : Value} {A : Around} {outer : List Env} {s : Shared} {H : Hp} {E : XK} (hr : Room 1 (cxOf (L2.CX P w) P w K mg base ["_law_tape_here", "_law_written", "_law_odd", "_law_words", "_law_door", "_law_spot", "_law_some", "_law_cut", "_law_signs_here"] "_law_bent" (defScope s_law_bent) T.f_law_bent cdv A outer s H E).A) (hg : (cxOf (L2.CX P w) P w K mg base ["_law_tape_here", "_law_written", "_law_odd", "_law_words", "_law_door", "_law_spot", "_law_some", "_law_cut", "_law_signs_here"] "_law_bent" (defScope s_law_bent) T.f_law_bent cdv A outer s H E).A.guards = some []) : FS (cxOf (L2.CX P w) P w K mg base ["_law_tape_here", "_law_written", "_law_odd", "_law_words", "_law_door", "_law_spot", "_law_some", "_law_cut", "_law_signs_here"] "_law_bent" (defScope s_law_bent) T.f_law_bent cdv A outer s H E) T.cm (yOf E) ((defBody s_law_bent).getD 4 (.Pass ⟨0, 0, 0, 0⟩)) b_law_bent_4 :=
  have sc := sc_law_bent
  have tk : Takes (cxOf (L2.CX P w) P w K mg base ["_law_tape_here", "_law_written", "_law_odd", "_law_words", "_law_door", "_law_spot", "_law_some", "_law_cut", "_law_signs_here"] "_law_bent" (defScope s_law_bent) T.f_law_bent cdv A outer s H E) (yOf E) := L2.takes_of rfl rfl rfl rfl
  (fs_if (ft_cmp (op_dEq hr.units) (fv 4) fe_int (nomark _)) (fs_one (fs_ret (fe_sm PySem.F.slot_str_join PySem.F.type_str_join mt_sJoin fe_str (fe_op (op_dAdd true) (fe_slice true (fv 3) fo_none (fo_some (fe_op (op_dAdd true) (fv 5) fe_int))) (fe_slice true (fv 3) (fo_some (fv 5)) fo_none))))) fs_nil)
theorem st_law_bent_5 (T : Txt K mg) {cdv : Value} {A : Around} {outer : List Env} {s : Shared} {H : Hp} {E : XK} (hr : Room 1 (cxOf (L2.CX P w) P w K mg base ["_law_tape_here", "_law_written", "_law_odd", "_law_words", "_law_door", "_law_spot", "_law_some", "_law_cut", "_law_signs_here"] "_law_bent" (defScope s_law_bent) T.f_law_bent cdv A outer s H E).A) (hg : (cxOf (L2.CX P w) P w K mg base ["_law_tape_here", "_law_written", "_law_odd", "_law_words", "_law_door", "_law_spot", "_law_some", "_law_cut", "_law_signs_here"] "_law_bent" (defScope s_law_bent) T.f_law_bent cdv A outer s H E).A.guards = some []) : FS (cxOf (L2.CX P w) P w K mg base ["_law_tape_here", "_law_written", "_law_odd", "_law_words", "_law_door", "_law_spot", "_law_some", "_law_cut", "_law_signs_here"] "_law_bent" (defScope s_law_bent) T.f_law_bent cdv A outer s H E) T.cm (yOf E) ((defBody s_law_bent).getD 5 (.Pass ⟨0, 0, 0, 0⟩)) b_law_bent_5 :=
  have sc := sc_law_bent
  have tk : Takes (cxOf (L2.CX P w) P w K mg base ["_law_tape_here", "_law_written", "_law_odd", "_law_words", "_law_door", "_law_spot", "_law_some", "_law_cut", "_law_signs_here"] "_law_bent" (defScope s_law_bent) T.f_law_bent cdv A outer s H E) (yOf E) := L2.takes_of rfl rfl rfl rfl
  (fs_if (ft_cmp op_dLt (fv 4) fe_int (nomark _)) (fs_one (fs_ret (fe_sm PySem.F.slot_str_join PySem.F.type_str_join mt_sJoin fe_str (fe_op (op_dAdd true) (fv 3) (fe_op (op_dMul true) (fe_lst true (fa_cons (fv 6) fa_nil)) (fe_op op_dSub (fv 4) fe_int)))))) fs_nil)
theorem st_law_bent_6 (T : Txt K mg) {cdv : Value} {A : Around} {outer : List Env} {s : Shared} {H : Hp} {E : XK} (hr : Room 1 (cxOf (L2.CX P w) P w K mg base ["_law_tape_here", "_law_written", "_law_odd", "_law_words", "_law_door", "_law_spot", "_law_some", "_law_cut", "_law_signs_here"] "_law_bent" (defScope s_law_bent) T.f_law_bent cdv A outer s H E).A) (hg : (cxOf (L2.CX P w) P w K mg base ["_law_tape_here", "_law_written", "_law_odd", "_law_words", "_law_door", "_law_spot", "_law_some", "_law_cut", "_law_signs_here"] "_law_bent" (defScope s_law_bent) T.f_law_bent cdv A outer s H E).A.guards = some []) : FS (cxOf (L2.CX P w) P w K mg base ["_law_tape_here", "_law_written", "_law_odd", "_law_words", "_law_door", "_law_spot", "_law_some", "_law_cut", "_law_signs_here"] "_law_bent" (defScope s_law_bent) T.f_law_bent cdv A outer s H E) T.cm (yOf E) ((defBody s_law_bent).getD 6 (.Pass ⟨0, 0, 0, 0⟩)) b_law_bent_6 :=
  have sc := sc_law_bent
  have tk : Takes (cxOf (L2.CX P w) P w K mg base ["_law_tape_here", "_law_written", "_law_odd", "_law_words", "_law_door", "_law_spot", "_law_some", "_law_cut", "_law_signs_here"] "_law_bent" (defScope s_law_bent) T.f_law_bent cdv A outer s H E) (yOf E) := L2.takes_of rfl rfl rfl rfl
  (fs_par rfl sc.nd rfl rfl (by decide) rfl rfl (fa_cons (fe_call (cal_f (ok_law_next T) (arg_law_next T) (hr.mono (by decide)) hg tk T.F_law_next.kp) T.m_law_next (fa_cons (fv 0) (fa_cons (fe_op (op_dAdd true) (fe_callB (call_dLen) T.n_len (by decide +kernel) (fa_cons (fv 1) fa_nil)) fe_int) fa_nil))) (fa_cons (fe_call0 (cal_f (ok_law_signs T) (arg_law_signs T) (hr.mono (by decide)) hg tk T.F_law_signs.kp) T.m_law_signs) fa_nil)) (by rfl))
theorem st_law_bent_7 (T : Txt K mg) {cdv : Value} {A : Around} {outer : List Env} {s : Shared} {H : Hp} {E : XK} (hr : Room 1 (cxOf (L2.CX P w) P w K mg base ["_law_tape_here", "_law_written", "_law_odd", "_law_words", "_law_door", "_law_spot", "_law_some", "_law_cut", "_law_signs_here"] "_law_bent" (defScope s_law_bent) T.f_law_bent cdv A outer s H E).A) (hg : (cxOf (L2.CX P w) P w K mg base ["_law_tape_here", "_law_written", "_law_odd", "_law_words", "_law_door", "_law_spot", "_law_some", "_law_cut", "_law_signs_here"] "_law_bent" (defScope s_law_bent) T.f_law_bent cdv A outer s H E).A.guards = some []) : FS (cxOf (L2.CX P w) P w K mg base ["_law_tape_here", "_law_written", "_law_odd", "_law_words", "_law_door", "_law_spot", "_law_some", "_law_cut", "_law_signs_here"] "_law_bent" (defScope s_law_bent) T.f_law_bent cdv A outer s H E) T.cm (yOf E) ((defBody s_law_bent).getD 7 (.Pass ⟨0, 0, 0, 0⟩)) b_law_bent_7 :=
  have sc := sc_law_bent
  have tk : Takes (cxOf (L2.CX P w) P w K mg base ["_law_tape_here", "_law_written", "_law_odd", "_law_words", "_law_door", "_law_spot", "_law_some", "_law_cut", "_law_signs_here"] "_law_bent" (defScope s_law_bent) T.f_law_bent cdv A outer s H E) (yOf E) := L2.takes_of rfl rfl rfl rfl
  (fs_ret (fe_op (op_dAdd true) (fe_op (op_dAdd true) (fe_slice true (fv 1) fo_none (fo_some (fv 7))) (fe_ix (fv 8) (fe_call (cal_f (ok_law_next T) (arg_law_next T) (hr.mono (by decide)) hg tk T.F_law_next.kp) T.m_law_next (fa_cons (fv 0) (fa_cons (fe_callB (call_dLen) T.n_len (by decide +kernel) (fa_cons (fv 8) fa_nil)) fa_nil))))) (fe_slice true (fv 1) (fo_some (fe_op op_dSub (fe_op (op_dAdd true) (fv 7) (fv 4)) fe_int)) fo_none)))
theorem ok_law_bent (T : Txt K mg) : FnB P w K mg base T.cm 2 T.f_law_bent T.d_law_bent ["_law_tape_here", "_law_written", "_law_odd"] F_law_bent := fn_body T.F_law_bent sc_law_bent fun cdv A outer s H E hr hg =>
  have sc := sc_law_bent
  have tk : Takes (cxOf (L2.CX P w) P w K mg base ["_law_tape_here", "_law_written", "_law_odd", "_law_words", "_law_door", "_law_spot", "_law_some", "_law_cut", "_law_signs_here"] "_law_bent" (defScope s_law_bent) T.f_law_bent cdv A outer s H E) (yOf E) := L2.takes_of rfl rfl rfl rfl
  (fs_cons (st_law_bent_0 T hr hg) (fs_cons (st_law_bent_1 T hr hg) (fs_cons (st_law_bent_2 T hr hg) (fs_cons (st_law_bent_3 T hr hg) (fs_cons (st_law_bent_4 T hr hg) (fs_cons (st_law_bent_5 T hr hg) (fs_cons (st_law_bent_6 T hr hg) (fs_one (st_law_bent_7 T hr hg)))))))))
theorem arg_Formula_parts (T : Txt K mg) : Arg K T.cm T.d_Formula_parts ["self"] 1 [] (fun ds _ => ds) := arg_all T.F_Formula_parts rfl fun _ _ _ _ _ _ us hl => match us, hl with | [_], _ => rfl
theorem sc_Formula_parts : FnScope ["self"] ["self"] (defScope s_Formula_parts) := ⟨rfl, rfl, rfl, by decide +kernel, rfl, by decide +kernel, by decide +kernel⟩
theorem ok_Formula_parts (T : Txt K mg) : FnB P w K mg base T.cm 1 T.f_Formula_parts T.d_Formula_parts ["self"] F_Formula_parts := fn_body T.F_Formula_parts sc_Formula_parts fun cdv A outer s H E hr hg =>
  have sc := sc_Formula_parts
  have tk : Takes (cxOf (L2.CX P w) P w K mg base ["self"] "Formula.parts" (defScope s_Formula_parts) T.f_Formula_parts cdv A outer s H E) (yOf E) := L2.takes_of rfl rfl rfl rfl
  (fs_one (fs_ret (fe_callTy (call_dList false) T.n_list (by decide +kernel) (fa_cons (fe_fld [1] T.a_held_parts (fv 0)) fa_nil))))
theorem arg_Reference_row (T : Txt K mg) : Arg K T.cm T.d_Reference_row ["self"] 1 [] (fun ds _ => ds) := arg_all T.F_Reference_row rfl fun _ _ _ _ _ _ us hl => match us, hl with | [_], _ => rfl
theorem sc_Reference_row : FnScope ["self"] ["self"] (defScope s_Reference_row) := ⟨rfl, rfl, rfl, by decide +kernel, rfl, by decide +kernel, by decide +kernel⟩
theorem ok_Reference_row (T : Txt K mg) : FnB P w K mg base T.cm 1 T.f_Reference_row T.d_Reference_row ["self"] F_Reference_row := fn_body T.F_Reference_row sc_Reference_row fun cdv A outer s H E hr hg =>
  have sc := sc_Reference_row
  have tk : Takes (cxOf (L2.CX P w) P w K mg base ["self"] "Reference.row" (defScope s_Reference_row) T.f_Reference_row cdv A outer s H E) (yOf E) := L2.takes_of rfl rfl rfl rfl
  (fs_one (fs_ret (fe_fld [0] T.a_held_row (fv 0))))
theorem arg_Reference_column (T : Txt K mg) : Arg K T.cm T.d_Reference_column ["self"] 1 [] (fun ds _ => ds) := arg_all T.F_Reference_column rfl fun _ _ _ _ _ _ us hl => match us, hl with | [_], _ => rfl
theorem sc_Reference_column : FnScope ["self"] ["self"] (defScope s_Reference_column) := ⟨rfl, rfl, rfl, by decide +kernel, rfl, by decide +kernel, by decide +kernel⟩
theorem ok_Reference_column (T : Txt K mg) : FnB P w K mg base T.cm 1 T.f_Reference_column T.d_Reference_column ["self"] F_Reference_column := fn_body T.F_Reference_column sc_Reference_column fun cdv A outer s H E hr hg =>
  have sc := sc_Reference_column
  have tk : Takes (cxOf (L2.CX P w) P w K mg base ["self"] "Reference.column" (defScope s_Reference_column) T.f_Reference_column cdv A outer s H E) (yOf E) := L2.takes_of rfl rfl rfl rfl
  (fs_one (fs_ret (fe_fld [0] T.a_held_column (fv 0))))
theorem arg_Reference_fixed_row (T : Txt K mg) : Arg K T.cm T.d_Reference_fixed_row ["self"] 1 [] (fun ds _ => ds) := arg_all T.F_Reference_fixed_row rfl fun _ _ _ _ _ _ us hl => match us, hl with | [_], _ => rfl
theorem sc_Reference_fixed_row : FnScope ["self"] ["self"] (defScope s_Reference_fixed_row) := ⟨rfl, rfl, rfl, by decide +kernel, rfl, by decide +kernel, by decide +kernel⟩
theorem ok_Reference_fixed_row (T : Txt K mg) : FnB P w K mg base T.cm 1 T.f_Reference_fixed_row T.d_Reference_fixed_row ["self"] F_Reference_fixed_row := fn_body T.F_Reference_fixed_row sc_Reference_fixed_row fun cdv A outer s H E hr hg =>
  have sc := sc_Reference_fixed_row
  have tk : Takes (cxOf (L2.CX P w) P w K mg base ["self"] "Reference.fixed_row" (defScope s_Reference_fixed_row) T.f_Reference_fixed_row cdv A outer s H E) (yOf E) := L2.takes_of rfl rfl rfl rfl
  (fs_one (fs_ret (fe_fld [0] T.a_held_fixed_row (fv 0))))
theorem arg_Reference_fixed_column (T : Txt K mg) : Arg K T.cm T.d_Reference_fixed_column ["self"] 1 [] (fun ds _ => ds) := arg_all T.F_Reference_fixed_column rfl fun _ _ _ _ _ _ us hl => match us, hl with | [_], _ => rfl
theorem sc_Reference_fixed_column : FnScope ["self"] ["self"] (defScope s_Reference_fixed_column) := ⟨rfl, rfl, rfl, by decide +kernel, rfl, by decide +kernel, by decide +kernel⟩
theorem ok_Reference_fixed_column (T : Txt K mg) : FnB P w K mg base T.cm 1 T.f_Reference_fixed_column T.d_Reference_fixed_column ["self"] F_Reference_fixed_column := fn_body T.F_Reference_fixed_column sc_Reference_fixed_column fun cdv A outer s H E hr hg =>
  have sc := sc_Reference_fixed_column
  have tk : Takes (cxOf (L2.CX P w) P w K mg base ["self"] "Reference.fixed_column" (defScope s_Reference_fixed_column) T.f_Reference_fixed_column cdv A outer s H E) (yOf E) := L2.takes_of rfl rfl rfl rfl
  (fs_one (fs_ret (fe_fld [0] T.a_held_fixed_column (fv 0))))
theorem arg_law_seen (T : Txt K mg) : Arg K T.cm T.d_law_seen ["_law_formula_here"] 1 [] (fun ds _ => ds) := arg_all T.F_law_seen rfl fun _ _ _ _ _ _ us hl => match us, hl with | [_], _ => rfl
theorem sc_law_seen : FnScope ["_law_formula_here", "_law_found", "_law_part"] ["_law_formula_here"] (defScope s_law_seen) := ⟨rfl, rfl, rfl, by decide +kernel, rfl, by decide +kernel, by decide +kernel⟩
theorem ok_law_seen (T : Txt K mg) : FnB P w K mg base T.cm 3 T.f_law_seen T.d_law_seen ["_law_formula_here"] F_law_seen := fn_body T.F_law_seen sc_law_seen fun cdv A outer s H E hr hg =>
  have sc := sc_law_seen
  have tk : Takes (cxOf (L2.CX P w) P w K mg base ["_law_formula_here", "_law_found", "_law_part"] "_law_seen" (defScope s_law_seen) T.f_law_seen cdv A outer s H E) (yOf E) := L2.takes_of rfl rfl rfl rfl
  (fs_cons (fs_set sc.nd rfl (by first | exact Or.inl rfl | exact Or.inr rfl) (fe_lst false fa_nil)) (fs_cons (fs_for (L2.passes_of rfl) rfl (fi_sq (fe_frz (fe_prop (fv 0) T.c_Formula T.p_Formula_parts (ok_Formula_parts T) (arg_Formula_parts T) (hr.mono (by decide)) hg))) (fg_name sc.nd rfl (by first | exact Or.inl rfl | exact Or.inr rfl)) (fs_one (fs_expr (fe_lm PySem.F.slot_list_append PySem.F.type_list_append mt_dAppend (fv 1) (fa_cons (fe_if (ft_cmp op_dIs (fv 2) fe_non (nomark _)) fe_non (fe_tup (fa_cons (fe_prop (fv 2) T.c_Reference T.p_Reference_row (ok_Reference_row T) (arg_Reference_row T) (hr.mono (by decide)) hg) (fa_cons (fe_prop (fv 2) T.c_Reference T.p_Reference_column (ok_Reference_column T) (arg_Reference_column T) (hr.mono (by decide)) hg) (fa_cons (fe_prop (fv 2) T.c_Reference T.p_Reference_fixed_row (ok_Reference_fixed_row T) (arg_Reference_fixed_row T) (hr.mono (by decide)) hg) (fa_cons (fe_prop (fv 2) T.c_Reference T.p_Reference_fixed_column (ok_Reference_fixed_column T) (arg_Reference_fixed_column T) (hr.mono (by decide)) hg) fa_nil)))))) fa_nil))))) (fs_frz 1 (fs_one (fs_ret (fv 1))))))
theorem arg_number_in (T : Txt K mg) : Arg K T.cm T.d_number_in ["word"] 1 [] (fun ds _ => ds) := arg_all T.F_number_in rfl fun _ _ _ _ _ _ us hl => match us, hl with | [_], _ => rfl
theorem sc_number_in : FnScope ["word", "sign"] ["word"] (defScope s_number_in) := ⟨rfl, rfl, rfl, by decide +kernel, rfl, by decide +kernel, by decide +kernel⟩
theorem ok_number_in (T : Txt K mg) : FnB P w K mg base T.cm 1 T.f_number_in T.d_number_in ["word"] F_number_in := fn_body T.F_number_in sc_number_in fun cdv A outer s H E hr hg =>
  have sc := sc_number_in
  have tk : Takes (cxOf (L2.CX P w) P w K mg base ["word", "sign"] "number_in" (defScope s_number_in) T.f_number_in cdv A outer s H E) (yOf E) := L2.takes_of rfl rfl rfl rfl
  (fs_cons (fs_if (ft_w (fw_or (ft_not (ft_chain op_dLe op_dLe fe_int (fe_callB (call_dLen) T.n_len (by decide +kernel) (fa_cons (fv 0) fa_nil)) (fe_gint 30 T.g_MOST_DIGITS.choose_spec))) (fw_or1 (ft_not (ft_truth (fe_callB (call_dAll rfl) T.n_all (by decide +kernel) (fa_cons (fe_lc (own := [("sign", 1)]) true rfl sc.nd (fi_tx (fv 0)) (blk_of (N := ["word", "sign"]) (sc := defScope s_number_in) rfl rfl (by decide +kernel)) (fun _ _ _ _ _ => (fg_name sc.nd rfl (by first | exact Or.inl rfl | exact Or.inr rfl))) (fun _ _ _ _ _ => fts_nil) (fun _ _ _ _ _ => (fe_cmp (op_alt (op_dIn (by exact room65 hr)) op_dInS) (fv 1) (fe_gstr "0123456789" T.g_DIGITS.choose_spec) (by rfl))) (by decide)) fa_nil))))))) (fs_one (fs_ret fe_non)) fs_nil) (fs_one (fs_ret (fe_if (ft_w (fw_and (ft_cmp (op_dEq hr.units) (fe_ix (fv 0) fe_int) fe_str (nomark _)) (fw_and1 (ft_cmp (op_dNe hr.units) (fv 0) fe_str (nomark _))))) fe_non (fe_callTy (call_alt (call_dInt) call_dIntS) T.n_int (by decide +kernel) (fa_cons (fv 0) fa_nil))))))
theorem arg_distance_in (T : Txt K mg) : Arg K T.cm T.d_distance_in ["word"] 1 [] (fun ds _ => ds) := arg_all T.F_distance_in rfl fun _ _ _ _ _ _ us hl => match us, hl with | [_], _ => rfl
theorem sc_distance_in : FnScope ["word", "number"] ["word"] (defScope s_distance_in) := ⟨rfl, rfl, rfl, by decide +kernel, rfl, by decide +kernel, by decide +kernel⟩
theorem ok_distance_in (T : Txt K mg) : FnB P w K mg base T.cm 2 T.f_distance_in T.d_distance_in ["word"] F_distance_in := fn_body T.F_distance_in sc_distance_in fun cdv A outer s H E hr hg =>
  have sc := sc_distance_in
  have tk : Takes (cxOf (L2.CX P w) P w K mg base ["word", "number"] "distance_in" (defScope s_distance_in) T.f_distance_in cdv A outer s H E) (yOf E) := L2.takes_of rfl rfl rfl rfl
  (fs_cons (fs_if (ft_cmp (op_dNe hr.units) (fe_slice true (fv 0) fo_none (fo_some fe_int)) fe_str (nomark _)) (fs_one (fs_ret (fe_call (cal_f (ok_number_in T) (arg_number_in T) (hr.mono (by decide)) hg tk T.F_number_in.kp) T.m_number_in (fa_cons (fv 0) fa_nil)))) fs_nil) (fs_cons (fs_set sc.nd rfl (by first | exact Or.inl rfl | exact Or.inr rfl) (fe_call (cal_f (ok_number_in T) (arg_number_in T) (hr.mono (by decide)) hg tk T.F_number_in.kp) T.m_number_in (fa_cons (fe_slice true (fv 0) (fo_some fe_int) fo_none) fa_nil))) (fs_one (fs_ret (fe_if (ft_w (fw_or (ft_cmp op_dIs (fv 1) fe_non (nomark _)) (fw_or1 (ft_cmp (op_dEq hr.units) (fv 1) fe_int (nomark _))))) fe_non (fe_op op_dSub fe_int (fv 1)))))))
theorem arg_part_in (T : Txt K mg) : Arg K T.cm T.d_part_in ["word"] 1 [] (fun ds _ => ds) := arg_all T.F_part_in rfl fun _ _ _ _ _ _ us hl => match us, hl with | [_], _ => rfl
theorem sc_part_in : FnScope ["word", "number", "is_fixed"] ["word"] (defScope s_part_in) := ⟨rfl, rfl, rfl, by decide +kernel, rfl, by decide +kernel, by decide +kernel⟩
theorem ok_part_in (T : Txt K mg) : FnB P w K mg base T.cm 3 T.f_part_in T.d_part_in ["word"] F_part_in := fn_body T.F_part_in sc_part_in fun cdv A outer s H E hr hg =>
  have sc := sc_part_in
  have tk : Takes (cxOf (L2.CX P w) P w K mg base ["word", "number", "is_fixed"] "part_in" (defScope s_part_in) T.f_part_in cdv A outer s H E) (yOf E) := L2.takes_of rfl rfl rfl rfl
  (fs_cons (fs_if (ft_w (fw_and (ft_cmp (op_dEq hr.units) (fe_slice true (fv 0) fo_none (fo_some fe_int)) fe_str (nomark _)) (fw_and (ft_cmp (op_dEq hr.units) (fe_slice true (fv 0) (fo_some (fe_un op_dNeg fe_int)) fo_none) fe_str (nomark _)) (fw_and1 (ft_cmp op_dGt (fe_callB (call_dLen) T.n_len (by decide +kernel) (fa_cons (fv 0) fa_nil)) fe_int (nomark _)))))) (fs_one (fs_par rfl sc.nd rfl rfl (by decide) rfl rfl (fa_cons (fe_call (cal_f (ok_distance_in T) (arg_distance_in T) (hr.mono (by decide)) hg tk T.F_distance_in.kp) T.m_distance_in (fa_cons (fe_slice true (fv 0) (fo_some fe_int) (fo_some (fe_un op_dNeg fe_int))) fa_nil)) (fa_cons fe_bl fa_nil)) (by rfl))) (fs_one (fs_par rfl sc.nd rfl rfl (by decide) rfl rfl (fa_cons (fe_call (cal_f (ok_number_in T) (arg_number_in T) (hr.mono (by decide)) hg tk T.F_number_in.kp) T.m_number_in (fa_cons (fv 0) fa_nil)) (fa_cons fe_bl fa_nil)) (by rfl)))) (fs_one (fs_ret (fe_if (ft_cmp op_dIs (fv 1) fe_non (nomark _)) fe_non (fe_tup (fa_cons (fv 1) (fa_cons (fv 2) fa_nil)))))))
theorem arg_is_integer (T : Txt K mg) : Arg K T.cm T.d_is_integer ["thing"] 1 [] (fun ds _ => ds) := arg_all T.F_is_integer rfl fun _ _ _ _ _ _ us hl => match us, hl with | [_], _ => rfl
theorem sc_is_integer : FnScope ["thing"] ["thing"] (defScope s_is_integer) := ⟨rfl, rfl, rfl, by decide +kernel, rfl, by decide +kernel, by decide +kernel⟩
theorem ok_is_integer (T : Txt K mg) : FnB P w K mg base T.cm 1 T.f_is_integer T.d_is_integer ["thing"] F_is_integer := fn_body T.F_is_integer sc_is_integer fun cdv A outer s H E hr hg =>
  have sc := sc_is_integer
  have tk : Takes (cxOf (L2.CX P w) P w K mg base ["thing"] "is_integer" (defScope s_is_integer) T.f_is_integer cdv A outer s H E) (yOf E) := L2.takes_of rfl rfl rfl rfl
  (fs_one (fs_ret (fe_and (fe_callB (call_dIsI T.tab) T.n_isinstance (by decide +kernel) (fa_cons (fv 0) (fa_cons (fe_ty "int" T.n_int (by decide +kernel)) fa_nil))) (fe_one (fe_not (fe_callB (call_dIsI T.tab) T.n_isinstance (by decide +kernel) (fa_cons (fv 0) (fa_cons (fe_ty "bool" T.n_bool (by decide +kernel)) fa_nil))))))))
theorem arg_is_place (T : Txt K mg) : Arg K T.cm T.d_is_place ["thing"] 1 [] (fun ds _ => ds) := arg_all T.F_is_place rfl fun _ _ _ _ _ _ us hl => match us, hl with | [_], _ => rfl
theorem sc_is_place : FnScope ["thing"] ["thing"] (defScope s_is_place) := ⟨rfl, rfl, rfl, by decide +kernel, rfl, by decide +kernel, by decide +kernel⟩
theorem ok_is_place (T : Txt K mg) : FnB P w K mg base T.cm 2 T.f_is_place T.d_is_place ["thing"] F_is_place := fn_body T.F_is_place sc_is_place fun cdv A outer s H E hr hg =>
  have sc := sc_is_place
  have tk : Takes (cxOf (L2.CX P w) P w K mg base ["thing"] "is_place" (defScope s_is_place) T.f_is_place cdv A outer s H E) (yOf E) := L2.takes_of rfl rfl rfl rfl
  (fs_one (fs_ret (fe_and (fe_call (cal_f (ok_is_integer T) (arg_is_integer T) (hr.mono (by decide)) hg tk T.F_is_integer.kp) T.m_is_integer (fa_cons (fv 0) fa_nil)) (fe_one (fe_chain op_dLe op_dLt fe_int (fv 0) (fe_gint 1000000000000000000000000000000 T.g_GREATEST.choose_spec))))))
theorem arg_is_part (T : Txt K mg) : Arg K T.cm T.d_is_part ["number", "is_fixed"] 2 [] (fun ds _ => ds) := arg_all T.F_is_part rfl fun _ _ _ _ _ _ us hl => match us, hl with | [_, _], _ => rfl
theorem sc_is_part : FnScope ["number", "is_fixed"] ["number", "is_fixed"] (defScope s_is_part) := ⟨rfl, rfl, rfl, by decide +kernel, rfl, by decide +kernel, by decide +kernel⟩
theorem ok_is_part (T : Txt K mg) : FnB P w K mg base T.cm 3 T.f_is_part T.d_is_part ["number", "is_fixed"] F_is_part := fn_body T.F_is_part sc_is_part fun cdv A outer s H E hr hg =>
  have sc := sc_is_part
  have tk : Takes (cxOf (L2.CX P w) P w K mg base ["number", "is_fixed"] "is_part" (defScope s_is_part) T.f_is_part cdv A outer s H E) (yOf E) := L2.takes_of rfl rfl rfl rfl
  (fs_cons (fs_if (ft_not (ft_truth (fe_callB (call_dIsI T.tab) T.n_isinstance (by decide +kernel) (fa_cons (fv 1) (fa_cons (fe_ty "bool" T.n_bool (by decide +kernel)) fa_nil))))) (fs_one (fs_ret fe_bl)) fs_nil) (fs_one (fs_ret (fe_if (ft_truth (fv 1)) (fe_call (cal_f (ok_is_place T) (arg_is_place T) (hr.mono (by decide)) hg tk T.F_is_place.kp) T.m_is_place (fa_cons (fv 0) fa_nil)) (fe_call (cal_f (ok_is_integer T) (arg_is_integer T) (hr.mono (by decide)) hg tk T.F_is_integer.kp) T.m_is_integer (fa_cons (fv 0) fa_nil))))))
theorem arg_Reference___init (T : Txt K mg) : Arg K T.cm T.d_Reference___init ["self", "row", "column", "fixed_row", "fixed_column"] 5 [] (fun us ws => (us.take 5)) := arg_dfl T.F_Reference___init [.bl false, .bl false] (by simp) (fun _ => (.cons (.bl (false)) (.cons (.bl (false)) .nil))) (fun us its ws => (us.take 5)) (fun r rd rz => (ptake 5 r)) fun _ _ _ _ _ _ _ us its ws l1 l2 l3 => match us, l1, its, l2, ws, l3 with | [_, _, _, _, _], _, [_, _], _, [], _ => ⟨_, rfl, rfl⟩
theorem sc_Reference___init : FnScope ["self", "row", "column", "fixed_row", "fixed_column"] ["self", "row", "column", "fixed_row", "fixed_column"] (defScope s_Reference___init) := ⟨rfl, rfl, rfl, by decide +kernel, rfl, by decide +kernel, by decide +kernel⟩
theorem st_Reference___init_0 (T : Txt K mg) {cdv : Value} {A : Around} {outer : List Env} {s : Shared} {H : Hp} {E : XK} (hr : Room 3 (cxOf (L2.CX P w) P w K mg base ["self", "row", "column", "fixed_row", "fixed_column"] "Reference.__init__" (defScope s_Reference___init) T.f_Reference___init cdv A outer s H E).A) (hg : (cxOf (L2.CX P w) P w K mg base ["self", "row", "column", "fixed_row", "fixed_column"] "Reference.__init__" (defScope s_Reference___init) T.f_Reference___init cdv A outer s H E).A.guards = some []) : FS (cxOf (L2.CX P w) P w K mg base ["self", "row", "column", "fixed_row", "fixed_column"] "Reference.__init__" (defScope s_Reference___init) T.f_Reference___init cdv A outer s H E) T.cm (yOf E) ((defBody s_Reference___init).getD 0 (.Pass ⟨0, 0, 0, 0⟩)) b_Reference___init_0 :=
  have sc := sc_Reference___init
  have tk : Takes (cxOf (L2.CX P w) P w K mg base ["self", "row", "column", "fixed_row", "fixed_column"] "Reference.__init__" (defScope s_Reference___init) T.f_Reference___init cdv A outer s H E) (yOf E) := L2.takes_of rfl rfl rfl rfl
  (fs_if (ft_w (fw_or (ft_not (ft_truth (fe_call (cal_f (ok_is_part T) (arg_is_part T) (hr.mono (by decide)) hg tk T.F_is_part.kp) T.m_is_part (fa_cons (fv 1) (fa_cons (fv 3) fa_nil))))) (fw_or1 (ft_not (ft_truth (fe_call (cal_f (ok_is_part T) (arg_is_part T) (hr.mono (by decide)) hg tk T.F_is_part.kp) T.m_is_part (fa_cons (fv 2) (fa_cons (fv 4) fa_nil)))))))) (fs_one fs_never) fs_nil)
theorem ok_Reference___init (T : Txt K mg) : FnB P w K mg base T.cm 4 T.f_Reference___init T.d_Reference___init ["self", "row", "column", "fixed_row", "fixed_column"] F_Reference___init := fn_body T.F_Reference___init sc_Reference___init fun cdv A outer s H E hr hg =>
  have sc := sc_Reference___init
  have tk : Takes (cxOf (L2.CX P w) P w K mg base ["self", "row", "column", "fixed_row", "fixed_column"] "Reference.__init__" (defScope s_Reference___init) T.f_Reference___init cdv A outer s H E) (yOf E) := L2.takes_of rfl rfl rfl rfl
  (fs_cons (st_Reference___init_0 T hr hg) (fs_cons (fs_fld [0] T.a_held_row (fv 0) (fv 1)) (fs_cons (fs_fld [0] T.a_held_column (fv 0) (fv 2)) (fs_cons (fs_fld [0] T.a_held_fixed_row (fv 0) (fv 3)) (fs_one (fs_fld [0] T.a_held_fixed_column (fv 0) (fv 4)))))))
theorem arg_reference_in (T : Txt K mg) : Arg K T.cm T.d_reference_in ["word"] 1 [] (fun ds _ => ds) := arg_all T.F_reference_in rfl fun _ _ _ _ _ _ us hl => match us, hl with | [_], _ => rfl
theorem sc_reference_in : FnScope ["word", "parts", "down", "right_by"] ["word"] (defScope s_reference_in) := ⟨rfl, rfl, rfl, by decide +kernel, rfl, by decide +kernel, by decide +kernel⟩
theorem st_reference_in_0 (T : Txt K mg) {cdv : Value} {A : Around} {outer : List Env} {s : Shared} {H : Hp} {E : XK} (hr : Room 5 (cxOf (L2.CX P w) P w K mg base ["word", "parts", "down", "right_by"] "reference_in" (defScope s_reference_in) T.f_reference_in cdv A outer s H E).A) (hg : (cxOf (L2.CX P w) P w K mg base ["word", "parts", "down", "right_by"] "reference_in" (defScope s_reference_in) T.f_reference_in cdv A outer s H E).A.guards = some []) : FS (cxOf (L2.CX P w) P w K mg base ["word", "parts", "down", "right_by"] "reference_in" (defScope s_reference_in) T.f_reference_in cdv A outer s H E) T.cm (yOf E) ((defBody s_reference_in).getD 0 (.Pass ⟨0, 0, 0, 0⟩)) b_reference_in_0 :=
  have sc := sc_reference_in
  have tk : Takes (cxOf (L2.CX P w) P w K mg base ["word", "parts", "down", "right_by"] "reference_in" (defScope s_reference_in) T.f_reference_in cdv A outer s H E) (yOf E) := L2.takes_of rfl rfl rfl rfl
  (fs_set sc.nd rfl (by first | exact Or.inl rfl | exact Or.inr rfl) (fe_sm PySem.F.slot_str_split PySem.F.type_str_split mt_sSplit (fe_slice true (fv 0) (fo_some fe_int) fo_none) fe_str))
theorem st_reference_in_1 (T : Txt K mg) {cdv : Value} {A : Around} {outer : List Env} {s : Shared} {H : Hp} {E : XK} (hr : Room 5 (cxOf (L2.CX P w) P w K mg base ["word", "parts", "down", "right_by"] "reference_in" (defScope s_reference_in) T.f_reference_in cdv A outer s H E).A) (hg : (cxOf (L2.CX P w) P w K mg base ["word", "parts", "down", "right_by"] "reference_in" (defScope s_reference_in) T.f_reference_in cdv A outer s H E).A.guards = some []) : FS (cxOf (L2.CX P w) P w K mg base ["word", "parts", "down", "right_by"] "reference_in" (defScope s_reference_in) T.f_reference_in cdv A outer s H E) T.cm (yOf E) ((defBody s_reference_in).getD 1 (.Pass ⟨0, 0, 0, 0⟩)) b_reference_in_1 :=
  have sc := sc_reference_in
  have tk : Takes (cxOf (L2.CX P w) P w K mg base ["word", "parts", "down", "right_by"] "reference_in" (defScope s_reference_in) T.f_reference_in cdv A outer s H E) (yOf E) := L2.takes_of rfl rfl rfl rfl
  (fs_if (ft_w (fw_or (ft_cmp (op_dNe hr.units) (fe_slice true (fv 0) fo_none (fo_some fe_int)) fe_str (nomark _)) (fw_or1 (ft_cmp (op_dNe hr.units) (fe_callB (call_dLen) T.n_len (by decide +kernel) (fa_cons (fv 1) fa_nil)) fe_int (nomark _))))) (fs_one (fs_ret fe_non)) fs_nil)
theorem st_reference_in_2 (T : Txt K mg) {cdv : Value} {A : Around} {outer : List Env} {s : Shared} {H : Hp} {E : XK} (hr : Room 5 (cxOf (L2.CX P w) P w K mg base ["word", "parts", "down", "right_by"] "reference_in" (defScope s_reference_in) T.f_reference_in cdv A outer s H E).A) (hg : (cxOf (L2.CX P w) P w K mg base ["word", "parts", "down", "right_by"] "reference_in" (defScope s_reference_in) T.f_reference_in cdv A outer s H E).A.guards = some []) : FS (cxOf (L2.CX P w) P w K mg base ["word", "parts", "down", "right_by"] "reference_in" (defScope s_reference_in) T.f_reference_in cdv A outer s H E) T.cm (yOf E) ((defBody s_reference_in).getD 2 (.Pass ⟨0, 0, 0, 0⟩)) b_reference_in_2 :=
  have sc := sc_reference_in
  have tk : Takes (cxOf (L2.CX P w) P w K mg base ["word", "parts", "down", "right_by"] "reference_in" (defScope s_reference_in) T.f_reference_in cdv A outer s H E) (yOf E) := L2.takes_of rfl rfl rfl rfl
  (fs_par rfl sc.nd rfl rfl (by decide) rfl rfl (fa_cons (fe_call (cal_f (ok_part_in T) (arg_part_in T) (hr.mono (by decide)) hg tk T.F_part_in.kp) T.m_part_in (fa_cons (fe_ix (fv 1) fe_int) fa_nil)) (fa_cons (fe_call (cal_f (ok_part_in T) (arg_part_in T) (hr.mono (by decide)) hg tk T.F_part_in.kp) T.m_part_in (fa_cons (fe_ix (fv 1) fe_int) fa_nil)) fa_nil)) (by rfl))
theorem st_reference_in_4 (T : Txt K mg) {cdv : Value} {A : Around} {outer : List Env} {s : Shared} {H : Hp} {E : XK} (hr : Room 5 (cxOf (L2.CX P w) P w K mg base ["word", "parts", "down", "right_by"] "reference_in" (defScope s_reference_in) T.f_reference_in cdv A outer s H E).A) (hg : (cxOf (L2.CX P w) P w K mg base ["word", "parts", "down", "right_by"] "reference_in" (defScope s_reference_in) T.f_reference_in cdv A outer s H E).A.guards = some []) : FS (cxOf (L2.CX P w) P w K mg base ["word", "parts", "down", "right_by"] "reference_in" (defScope s_reference_in) T.f_reference_in cdv A outer s H E) T.cm (yOf E) ((defBody s_reference_in).getD 4 (.Pass ⟨0, 0, 0, 0⟩)) b_reference_in_4 :=
  have sc := sc_reference_in
  have tk : Takes (cxOf (L2.CX P w) P w K mg base ["word", "parts", "down", "right_by"] "reference_in" (defScope s_reference_in) T.f_reference_in cdv A outer s H E) (yOf E) := L2.takes_of rfl rfl rfl rfl
  (fs_ret (fe_call (cal_mk true T.mk_Reference (ok_Reference___init T) (arg_Reference___init T) (hr.mono (by decide)) hg tk) T.g_Reference (fa_cons (fe_ix (fv 2) fe_int) (fa_cons (fe_ix (fv 3) fe_int) (fa_cons (fe_ix (fv 2) fe_int) (fa_cons (fe_ix (fv 3) fe_int) fa_nil))))))
theorem ok_reference_in (T : Txt K mg) : FnB P w K mg base T.cm 6 T.f_reference_in T.d_reference_in ["word"] F_reference_in := fn_body T.F_reference_in sc_reference_in fun cdv A outer s H E hr hg =>
  have sc := sc_reference_in
  have tk : Takes (cxOf (L2.CX P w) P w K mg base ["word", "parts", "down", "right_by"] "reference_in" (defScope s_reference_in) T.f_reference_in cdv A outer s H E) (yOf E) := L2.takes_of rfl rfl rfl rfl
  (fs_cons (st_reference_in_0 T hr hg) (fs_cons (st_reference_in_1 T hr hg) (fs_cons (st_reference_in_2 T hr hg) (fs_cons (fs_if (ft_w (fw_or (ft_cmp op_dIs (fv 2) fe_non (nomark _)) (fw_or1 (ft_cmp op_dIs (fv 3) fe_non (nomark _))))) (fs_one (fs_ret fe_non)) fs_nil) (fs_one (st_reference_in_4 T hr hg))))))
theorem sc_InvalidText___init : FnScope ["self", "word"] ["self", "word"] (defScope s_InvalidText___init) := ⟨rfl, rfl, rfl, by decide +kernel, rfl, by decide +kernel, by decide +kernel⟩
theorem xinit_InvalidText (T : Txt K mg) : FnOk P w K mg base (L2.CX P w) 1 T.f_InvalidText___init T.d_InvalidText___init ["self", "word"] (spI K (T.cm 7) "word") :=
  init_ok (nm := "CopyError") (f := "word") T.F_InvalidText___init sc_InvalidText___init (by decide) rfl rfl fun cdv A outer s H E => ⟨pe_cinit rfl T.g_CopyError T.cr_CopyError T.xb_CopyError (pa_cons (pe_var (i := 0) rfl (by first | exact Or.inl rfl | exact Or.inr (Or.inl rfl) | exact Or.inr (Or.inr rfl))) (pa_cons pe_str pa_nil)) (by decide), ps_ost (pe_var (i := 0) rfl (by first | exact Or.inl rfl | exact Or.inr (Or.inl rfl) | exact Or.inr (Or.inr rfl))) (pe_var (i := 1) rfl (by first | exact Or.inl rfl | exact Or.inr (Or.inl rfl) | exact Or.inr (Or.inr rfl)))⟩
theorem xbind_InvalidText (T : Txt K mg) : L2.Binds K T.d_InvalidText___init ["self", "word"] [] := fun s us _ hl => by
  rw [List.append_nil] at hl ⊢
  exact FunD.bindsA (ps := ["self", "word"]) T.F_InvalidText___init (fun _ _ _ _ _ _ us hl => match us, hl with | [_, _], _ => rfl) s us hl
theorem sc_Formula___init : FnScope ["self", "references", "part"] ["self", "references"] (defScope s_Formula___init) := ⟨rfl, rfl, rfl, by decide +kernel, rfl, by decide +kernel, by decide +kernel⟩
theorem ok_Formula___init (T : Txt K mg) : FnP P w K mg base T.cm 1 T.f_Formula___init F_Formula___init := fn_var (ps := ["self"]) T.F_Formula___init sc_Formula___init (fun _ _ _ _ _ _ us rest hl => match us, hl, rest with | [_], _, [] => rfl | [_], _, _ :: _ => rfl) fun cdv A outer s H E hr hg =>
  have sc := sc_Formula___init
  have tk : Takes (cxOf (L2.CX P w) P w K mg base ["self", "references", "part"] "Formula.__init__" (defScope s_Formula___init) T.f_Formula___init cdv A outer s H E) (yOf E) := L2.takes_of rfl rfl rfl rfl
  (fs_cons (fs_if (ft_not (ft_chain op_dLe op_dLe fe_int (fe_callB (call_dLen) T.n_len (by decide +kernel) (fa_cons (fv 1) fa_nil)) (fe_gint 20 T.g_MOST_PARTS_formulas.choose_spec))) (fs_one fs_never) fs_nil) (fs_cons (fs_if (ft_not (ft_truth (fe_callB (call_dAll rfl) T.n_all (by decide +kernel) (fa_cons (fe_lc (own := [("part", 2)]) true rfl sc.nd (fi_sq (fv 1)) (blk_of (N := ["self", "references", "part"]) (sc := defScope s_Formula___init) rfl rfl (by decide +kernel)) (fun _ _ _ _ _ => (fg_name sc.nd rfl (by first | exact Or.inl rfl | exact Or.inr rfl))) (fun _ _ _ _ _ => fts_nil) (fun _ _ _ _ _ => (fe_or (fe_cmp op_dIs (fv 2) fe_non (nomark _)) (fe_one (fe_callB (call_dIsI T.tab) T.n_isinstance (by decide +kernel) (fa_cons (fv 2) (fa_cons (fe_gcl 0 T.g_Reference) fa_nil)))))) (by decide)) fa_nil)))) (fs_one fs_never) fs_nil) (fs_one (fs_fld [1] T.a_held_parts (fv 0) (fe_callTy (call_dTuple) T.n_tuple (by decide +kernel) (fa_cons (fv 1) fa_nil))))))
theorem arg_Formula_of (T : Txt K mg) : Arg K T.cm T.d_Formula_of ["cls", "references"] 2 [] (fun ds _ => ds) := arg_all T.F_Formula_of rfl fun _ _ _ _ _ _ us hl => match us, hl with | [_, _], _ => rfl
theorem sc_Formula_of : FnScope ["cls", "references"] ["cls", "references"] (defScope s_Formula_of) := ⟨rfl, rfl, rfl, by decide +kernel, rfl, by decide +kernel, by decide +kernel⟩
theorem ok_Formula_of (T : Txt K mg) : FnB P w K mg base T.cm 3 T.f_Formula_of T.d_Formula_of ["cls", "references"] F_Formula_of := fn_body T.F_Formula_of sc_Formula_of fun cdv A outer s H E hr hg =>
  have sc := sc_Formula_of
  have tk : Takes (cxOf (L2.CX P w) P w K mg base ["cls", "references"] "Formula.of" (defScope s_Formula_of) T.f_Formula_of cdv A outer s H E) (yOf E) := L2.takes_of rfl rfl rfl rfl
  (fs_cons (fs_if (ft_not (ft_truth (fe_callB (call_dIsI T.tab) T.n_isinstance (by decide +kernel) (fa_cons (fv 1) (fa_cons (fe_ty "list" T.n_list (by decide +kernel)) fa_nil))))) (fs_one fs_never) fs_nil) (fs_one (fs_ret (fe_starL (i := 0) (c := 1) (cal_makeP true T.mk_Formula (ok_Formula___init T) (hr.mono (by decide)) hg tk) rfl (by first | exact Or.inl rfl | exact Or.inr (Or.inl rfl) | exact Or.inr (Or.inr rfl)) (fv 1)))))
theorem arg_read_formula (T : Txt K mg) : Arg K T.cm T.d_read_formula ["text"] 1 [] (fun ds _ => ds) := arg_all T.F_read_formula rfl fun _ _ _ _ _ _ us hl => match us, hl with | [_], _ => rfl
theorem arg_read_formula_0_text (T : Txt K mg) : Arg K T.cm T.d_read_formula ["text"] 0 ["text"] (fun us ws => (us.take 0) ++ ((ws.drop 0).take 1)) := arg_kw T.F_read_formula (fun us ws => (us.take 0) ++ ((ws.drop 0).take 1)) (fun r rz => (papp (ptake 0 r) (ptake 1 (pdrop 0 rz)))) fun _ _ _ _ _ _ us ws l1 l2 => match us, l1, ws, l2 with | [], _, [_], _ => rfl
theorem sc_read_formula : FnScope ["text", "found", "spot", "word", "part"] ["text"] (defScope s_read_formula) := ⟨rfl, rfl, rfl, by decide +kernel, rfl, by decide +kernel, by decide +kernel⟩
theorem ok_read_formula (T : Txt K mg) : FnB P w K mg base T.cm 7 T.f_read_formula T.d_read_formula ["text"] F_read_formula := fn_body T.F_read_formula sc_read_formula fun cdv A outer s H E hr hg =>
  have sc := sc_read_formula
  have tk : Takes (cxOf (L2.CX P w) P w K mg base ["text", "found", "spot", "word", "part"] "read_formula" (defScope s_read_formula) T.f_read_formula cdv A outer s H E) (yOf E) := L2.takes_of rfl rfl rfl rfl
  (fs_cons (fs_set sc.nd rfl (by first | exact Or.inl rfl | exact Or.inr rfl) (fe_lst false fa_nil)) (fs_cons (fs_for (L2.passes_of rfl) rfl (fi_en T.n_enumerate (fa_cons (fe_sm PySem.F.slot_str_split PySem.F.type_str_split mt_sSplit (fv 0) fe_str) fa_nil)) (fg_tup rfl (fgs_cons (fg_name sc.nd rfl (by first | exact Or.inl rfl | exact Or.inr rfl)) (fgs_cons (fg_name sc.nd rfl (by first | exact Or.inl rfl | exact Or.inr rfl)) fgs_nil))) (fs_cons (fs_set sc.nd rfl (by first | exact Or.inl rfl | exact Or.inr rfl) (fe_call (cal_f (ok_reference_in T) (arg_reference_in T) (hr.mono (by decide)) hg tk T.F_reference_in.kp) T.m_reference_in (fa_cons (fv 3) fa_nil))) (fs_cons (fs_if (ft_w (fw_or (ft_cmp (op_dEq hr.units) (fv 2) (fe_gint 20 T.g_MOST_PARTS_texts.choose_spec) (nomark _)) (fw_or1 (ft_w (fw_and (ft_cmp op_dIs (fv 4) fe_non (nomark _)) (fw_and1 (ft_cmp (op_dNe hr.units) (fv 3) (fe_gstr "#" T.g_BROKEN.choose_spec) (nomark _)))))))) (fs_one (fs_raiseX (c := 7) T.xw_InvalidText T.xi_InvalidText T.xt_InvalidText T.xn_InvalidText ((xinit_InvalidText T).mono (by decide)) hr (xbind_InvalidText T) T.g_InvalidText tk (fa_cons (fv 2) fa_nil))) fs_nil) (fs_one (fs_expr (fe_lm PySem.F.slot_list_append PySem.F.type_list_append mt_dAppend (fv 1) (fa_cons (fv 4) fa_nil))))))) (fs_frz 1 (fs_one (fs_ret (fe_cmeth (c := 1) (fe_gcl 1 T.g_Formula) T.cr_Formula T.cm_Formula_of (FnP.of (ok_Formula_of T) (arg_Formula_of T)) (hr.mono (by decide)) hg tk (fa_cons (fv 1) fa_nil)))))))
theorem arg_law_told (T : Txt K mg) : Arg K T.cm T.d_law_told ["_law_written", "_law_by_name"] 2 [] (fun ds _ => ds) := arg_all T.F_law_told rfl fun _ _ _ _ _ _ us hl => match us, hl with | [_, _], _ => rfl
theorem sc_law_told : FnScope ["_law_written", "_law_by_name", "_law_odd", "e"] ["_law_written", "_law_by_name"] (defScope s_law_told) := ⟨rfl, rfl, rfl, by decide +kernel, rfl, by decide +kernel, by decide +kernel⟩
theorem ok_law_told (T : Txt K mg) : FnB P w K mg base T.cm 8 T.f_law_told T.d_law_told ["_law_written", "_law_by_name"] F_law_told := fn_body T.F_law_told sc_law_told fun cdv A outer s H E hr hg =>
  have sc := sc_law_told
  have tk : Takes (cxOf (L2.CX P w) P w K mg base ["_law_written", "_law_by_name", "_law_odd", "e"] "_law_told" (defScope s_law_told) T.f_law_told cdv A outer s H E) (yOf E) := L2.takes_of rfl rfl rfl rfl
  (fs_one (fs_try_asW (i := 3) T.xs_InvalidText T.g_InvalidText sc.nd rfl (by first | exact Or.inl rfl | exact Or.inr rfl) rfl rfl (fun W pn xe tk hp => (fs_one (fs_ret (fe_call (cal_f (ok_law_seen T) (arg_law_seen T) (hr.mono (by decide)) hg tk T.F_law_seen.kp) T.m_law_seen (fa_cons (fe_if (ft_truth (fv 1)) (fe_callK0 (ks := ["text"]) (cal_f (ok_read_formula T) (arg_read_formula_0_text T) (hr.mono (by decide)) hg tk T.F_read_formula.kp) T.m_read_formula (fk_cons (fv 0) fk_nil)) (fe_call (cal_f (ok_read_formula T) (arg_read_formula T) (hr.mono (by decide)) hg tk T.F_read_formula.kp) T.m_read_formula (fa_cons (fv 0) fa_nil))) fa_nil))))) (fun a pn => have hr := roomS (v := some (.ref a)) hr; (fs_cons (fs_set sc.nd rfl (by first | exact Or.inl rfl | exact Or.inr rfl) (fe_callB (call_alt (call_alt (call_dIsI T.tab) (call_dIsX T.tab T.tx)) (call_dIsW T.tab T.tx)) T.n_isinstance (by decide +kernel) (fa_cons (fv 3) (fa_cons (fe_tup (fa_cons (fe_gcl 4 T.g_InvalidFormula) (fa_cons (fe_gcl 6 T.g_InvalidNumber) (fa_cons (fe_gcl 3 T.g_InvalidReference) (fa_cons (fe_gcl 5 T.g_InvalidWay) fa_nil))))) fa_nil)))) (fs_one (fs_ret (fe_if (ft_w (fw_or (ft_truth (fv 2)) (fw_or1 (ft_not (ft_truth (fe_callB (call_alt (call_alt (call_dIsI T.tab) (call_dIsX T.tab T.tx)) (call_dIsW T.tab T.tx)) T.n_isinstance (by decide +kernel) (fa_cons (fv 3) (fa_cons (fe_ty "ValueError" T.n_ValueError (by decide +kernel)) fa_nil)))))))) fe_str (fe_xf T.xf_InvalidText (fv 3)))))))))
theorem arg_law_number (T : Txt K mg) : Arg K T.cm T.d_law_number ["_law_word_here"] 1 [] (fun ds _ => ds) := arg_all T.F_law_number rfl fun _ _ _ _ _ _ us hl => match us, hl with | [_], _ => rfl
theorem sc_law_number : FnScope ["_law_word_here", "_law_sign"] ["_law_word_here"] (defScope s_law_number) := ⟨rfl, rfl, rfl, by decide +kernel, rfl, by decide +kernel, by decide +kernel⟩
theorem ok_law_number (T : Txt K mg) : FnB P w K mg base T.cm 1 T.f_law_number T.d_law_number ["_law_word_here"] F_law_number := fn_body T.F_law_number sc_law_number fun cdv A outer s H E hr hg =>
  have sc := sc_law_number
  have tk : Takes (cxOf (L2.CX P w) P w K mg base ["_law_word_here", "_law_sign"] "_law_number" (defScope s_law_number) T.f_law_number cdv A outer s H E) (yOf E) := L2.takes_of rfl rfl rfl rfl
  (fs_cons (fs_if (ft_w (fw_or (ft_not (ft_chain op_dLe op_dLe fe_int (fe_callB (call_dLen) T.n_len (by decide +kernel) (fa_cons (fv 0) fa_nil)) fe_int)) (fw_or1 (ft_cmp (op_dNe hr.units) (fe_lc (own := [("_law_sign", 1)]) true rfl sc.nd (fi_tx (fv 0)) (blk_of (N := ["_law_word_here", "_law_sign"]) (sc := defScope s_law_number) rfl rfl (by decide +kernel)) (fun _ _ _ _ _ => (fg_name sc.nd rfl (by first | exact Or.inl rfl | exact Or.inr rfl))) (fun _ _ _ _ _ => (fts_one (ft_cmp (op_dNotIn (by exact room65 hr)) (fv 1) (fe_callTy (call_alt (call_dList true) (call_dListT rfl true)) T.n_list (by decide +kernel) (fa_cons fe_str fa_nil)) (by rfl)))) (fun _ _ _ _ _ => (fv 1)) (by decide)) (fe_lst true fa_nil) (nomark _))))) (fs_one (fs_ret fe_non)) fs_nil) (fs_one (fs_ret (fe_if (ft_w (fw_and (ft_cmp (op_dEq hr.units) (fe_ix (fv 0) fe_int) fe_str (nomark _)) (fw_and1 (ft_cmp (op_dNe hr.units) (fv 0) fe_str (nomark _))))) fe_non (fe_callTy (call_alt (call_dInt) call_dIntS) T.n_int (by decide +kernel) (fa_cons (fv 0) fa_nil))))))
theorem arg_law_side (T : Txt K mg) : Arg K T.cm T.d_law_side ["_law_word_here"] 1 [] (fun ds _ => ds) := arg_all T.F_law_side rfl fun _ _ _ _ _ _ us hl => match us, hl with | [_], _ => rfl
theorem sc_law_side : FnScope ["_law_word_here", "_law_number_here", "_law_inner"] ["_law_word_here"] (defScope s_law_side) := ⟨rfl, rfl, rfl, by decide +kernel, rfl, by decide +kernel, by decide +kernel⟩
theorem st_law_side_0 (T : Txt K mg) {cdv : Value} {A : Around} {outer : List Env} {s : Shared} {H : Hp} {E : XK} (hr : Room 1 (cxOf (L2.CX P w) P w K mg base ["_law_word_here", "_law_number_here", "_law_inner"] "_law_side" (defScope s_law_side) T.f_law_side cdv A outer s H E).A) (hg : (cxOf (L2.CX P w) P w K mg base ["_law_word_here", "_law_number_here", "_law_inner"] "_law_side" (defScope s_law_side) T.f_law_side cdv A outer s H E).A.guards = some []) : FS (cxOf (L2.CX P w) P w K mg base ["_law_word_here", "_law_number_here", "_law_inner"] "_law_side" (defScope s_law_side) T.f_law_side cdv A outer s H E) T.cm (yOf E) ((defBody s_law_side).getD 0 (.Pass ⟨0, 0, 0, 0⟩)) b_law_side_0 :=
  have sc := sc_law_side
  have tk : Takes (cxOf (L2.CX P w) P w K mg base ["_law_word_here", "_law_number_here", "_law_inner"] "_law_side" (defScope s_law_side) T.f_law_side cdv A outer s H E) (yOf E) := L2.takes_of rfl rfl rfl rfl
  (fs_if (ft_cmp (op_dNe hr.units) (fe_slice true (fv 0) fo_none (fo_some fe_int)) fe_str (nomark _)) (fs_cons (fs_set sc.nd rfl (by first | exact Or.inl rfl | exact Or.inr rfl) (fe_call (cal_f (ok_law_number T) (arg_law_number T) (hr.mono (by decide)) hg tk T.F_law_number.kp) T.m_law_number (fa_cons (fv 0) fa_nil))) (fs_one (fs_ret (fe_if (ft_cmp op_dIs (fv 1) fe_non (nomark _)) fe_non (fe_tup (fa_cons (fv 1) (fa_cons fe_bl fa_nil))))))) fs_nil)
theorem st_law_side_1 (T : Txt K mg) {cdv : Value} {A : Around} {outer : List Env} {s : Shared} {H : Hp} {E : XK} (hr : Room 1 (cxOf (L2.CX P w) P w K mg base ["_law_word_here", "_law_number_here", "_law_inner"] "_law_side" (defScope s_law_side) T.f_law_side cdv A outer s H E).A) (hg : (cxOf (L2.CX P w) P w K mg base ["_law_word_here", "_law_number_here", "_law_inner"] "_law_side" (defScope s_law_side) T.f_law_side cdv A outer s H E).A.guards = some []) : FS (cxOf (L2.CX P w) P w K mg base ["_law_word_here", "_law_number_here", "_law_inner"] "_law_side" (defScope s_law_side) T.f_law_side cdv A outer s H E) T.cm (yOf E) ((defBody s_law_side).getD 1 (.Pass ⟨0, 0, 0, 0⟩)) b_law_side_1 :=
  have sc := sc_law_side
  have tk : Takes (cxOf (L2.CX P w) P w K mg base ["_law_word_here", "_law_number_here", "_law_inner"] "_law_side" (defScope s_law_side) T.f_law_side cdv A outer s H E) (yOf E) := L2.takes_of rfl rfl rfl rfl
  (fs_if (ft_w (fw_or (ft_cmp (op_dNe hr.units) (fe_ix (fv 0) (fe_un op_dNeg fe_int)) fe_str (nomark _)) (fw_or1 (ft_cmp op_dLt (fe_callB (call_dLen) T.n_len (by decide +kernel) (fa_cons (fv 0) fa_nil)) fe_int (nomark _))))) (fs_one (fs_ret fe_non)) fs_nil)
theorem st_law_side_3 (T : Txt K mg) {cdv : Value} {A : Around} {outer : List Env} {s : Shared} {H : Hp} {E : XK} (hr : Room 1 (cxOf (L2.CX P w) P w K mg base ["_law_word_here", "_law_number_here", "_law_inner"] "_law_side" (defScope s_law_side) T.f_law_side cdv A outer s H E).A) (hg : (cxOf (L2.CX P w) P w K mg base ["_law_word_here", "_law_number_here", "_law_inner"] "_law_side" (defScope s_law_side) T.f_law_side cdv A outer s H E).A.guards = some []) : FS (cxOf (L2.CX P w) P w K mg base ["_law_word_here", "_law_number_here", "_law_inner"] "_law_side" (defScope s_law_side) T.f_law_side cdv A outer s H E) T.cm (yOf E) ((defBody s_law_side).getD 3 (.Pass ⟨0, 0, 0, 0⟩)) b_law_side_3 :=
  have sc := sc_law_side
  have tk : Takes (cxOf (L2.CX P w) P w K mg base ["_law_word_here", "_law_number_here", "_law_inner"] "_law_side" (defScope s_law_side) T.f_law_side cdv A outer s H E) (yOf E) := L2.takes_of rfl rfl rfl rfl
  (fs_if (ft_cmp (op_dNe hr.units) (fe_ix (fv 2) fe_int) fe_str (nomark _)) (fs_cons (fs_set sc.nd rfl (by first | exact Or.inl rfl | exact Or.inr rfl) (fe_call (cal_f (ok_law_number T) (arg_law_number T) (hr.mono (by decide)) hg tk T.F_law_number.kp) T.m_law_number (fa_cons (fv 2) fa_nil))) (fs_one (fs_ret (fe_if (ft_cmp op_dIs (fv 1) fe_non (nomark _)) fe_non (fe_tup (fa_cons (fv 1) (fa_cons fe_bl fa_nil))))))) fs_nil)
theorem st_law_side_4 (T : Txt K mg) {cdv : Value} {A : Around} {outer : List Env} {s : Shared} {H : Hp} {E : XK} (hr : Room 1 (cxOf (L2.CX P w) P w K mg base ["_law_word_here", "_law_number_here", "_law_inner"] "_law_side" (defScope s_law_side) T.f_law_side cdv A outer s H E).A) (hg : (cxOf (L2.CX P w) P w K mg base ["_law_word_here", "_law_number_here", "_law_inner"] "_law_side" (defScope s_law_side) T.f_law_side cdv A outer s H E).A.guards = some []) : FS (cxOf (L2.CX P w) P w K mg base ["_law_word_here", "_law_number_here", "_law_inner"] "_law_side" (defScope s_law_side) T.f_law_side cdv A outer s H E) T.cm (yOf E) ((defBody s_law_side).getD 4 (.Pass ⟨0, 0, 0, 0⟩)) b_law_side_4 :=
  have sc := sc_law_side
  have tk : Takes (cxOf (L2.CX P w) P w K mg base ["_law_word_here", "_law_number_here", "_law_inner"] "_law_side" (defScope s_law_side) T.f_law_side cdv A outer s H E) (yOf E) := L2.takes_of rfl rfl rfl rfl
  (fs_set sc.nd rfl (by first | exact Or.inl rfl | exact Or.inr rfl) (fe_call (cal_f (ok_law_number T) (arg_law_number T) (hr.mono (by decide)) hg tk T.F_law_number.kp) T.m_law_number (fa_cons (fe_slice true (fv 2) (fo_some fe_int) fo_none) fa_nil)))
theorem st_law_side_5 (T : Txt K mg) {cdv : Value} {A : Around} {outer : List Env} {s : Shared} {H : Hp} {E : XK} (hr : Room 1 (cxOf (L2.CX P w) P w K mg base ["_law_word_here", "_law_number_here", "_law_inner"] "_law_side" (defScope s_law_side) T.f_law_side cdv A outer s H E).A) (hg : (cxOf (L2.CX P w) P w K mg base ["_law_word_here", "_law_number_here", "_law_inner"] "_law_side" (defScope s_law_side) T.f_law_side cdv A outer s H E).A.guards = some []) : FS (cxOf (L2.CX P w) P w K mg base ["_law_word_here", "_law_number_here", "_law_inner"] "_law_side" (defScope s_law_side) T.f_law_side cdv A outer s H E) T.cm (yOf E) ((defBody s_law_side).getD 5 (.Pass ⟨0, 0, 0, 0⟩)) b_law_side_5 :=
  have sc := sc_law_side
  have tk : Takes (cxOf (L2.CX P w) P w K mg base ["_law_word_here", "_law_number_here", "_law_inner"] "_law_side" (defScope s_law_side) T.f_law_side cdv A outer s H E) (yOf E) := L2.takes_of rfl rfl rfl rfl
  (fs_ret (fe_if (ft_w (fw_or (ft_cmp op_dIs (fv 1) fe_non (nomark _)) (fw_or1 (ft_cmp (op_dEq hr.units) (fv 1) fe_int (nomark _))))) fe_non (fe_tup (fa_cons (fe_op op_dSub fe_int (fv 1)) (fa_cons fe_bl fa_nil)))))
theorem ok_law_side (T : Txt K mg) : FnB P w K mg base T.cm 2 T.f_law_side T.d_law_side ["_law_word_here"] F_law_side := fn_body T.F_law_side sc_law_side fun cdv A outer s H E hr hg =>
  have sc := sc_law_side
  have tk : Takes (cxOf (L2.CX P w) P w K mg base ["_law_word_here", "_law_number_here", "_law_inner"] "_law_side" (defScope s_law_side) T.f_law_side cdv A outer s H E) (yOf E) := L2.takes_of rfl rfl rfl rfl
  (fs_cons (st_law_side_0 T hr hg) (fs_cons (st_law_side_1 T hr hg) (fs_cons (fs_set sc.nd rfl (by first | exact Or.inl rfl | exact Or.inr rfl) (fe_slice true (fv 0) (fo_some fe_int) (fo_some (fe_un op_dNeg fe_int)))) (fs_cons (st_law_side_3 T hr hg) (fs_cons (st_law_side_4 T hr hg) (fs_one (st_law_side_5 T hr hg)))))))
theorem arg_law_part_in (T : Txt K mg) : Arg K T.cm T.d_law_part_in ["_law_word_here"] 1 [] (fun ds _ => ds) := arg_all T.F_law_part_in rfl fun _ _ _ _ _ _ us hl => match us, hl with | [_], _ => rfl
theorem sc_law_part_in : FnScope ["_law_word_here", "_law_cut", "_law_first", "_law_second"] ["_law_word_here"] (defScope s_law_part_in) := ⟨rfl, rfl, rfl, by decide +kernel, rfl, by decide +kernel, by decide +kernel⟩
theorem st_law_part_in_2 (T : Txt K mg) {cdv : Value} {A : Around} {outer : List Env} {s : Shared} {H : Hp} {E : XK} (hr : Room 2 (cxOf (L2.CX P w) P w K mg base ["_law_word_here", "_law_cut", "_law_first", "_law_second"] "_law_part_in" (defScope s_law_part_in) T.f_law_part_in cdv A outer s H E).A) (hg : (cxOf (L2.CX P w) P w K mg base ["_law_word_here", "_law_cut", "_law_first", "_law_second"] "_law_part_in" (defScope s_law_part_in) T.f_law_part_in cdv A outer s H E).A.guards = some []) : FS (cxOf (L2.CX P w) P w K mg base ["_law_word_here", "_law_cut", "_law_first", "_law_second"] "_law_part_in" (defScope s_law_part_in) T.f_law_part_in cdv A outer s H E) T.cm (yOf E) ((defBody s_law_part_in).getD 2 (.Pass ⟨0, 0, 0, 0⟩)) b_law_part_in_2 :=
  have sc := sc_law_part_in
  have tk : Takes (cxOf (L2.CX P w) P w K mg base ["_law_word_here", "_law_cut", "_law_first", "_law_second"] "_law_part_in" (defScope s_law_part_in) T.f_law_part_in cdv A outer s H E) (yOf E) := L2.takes_of rfl rfl rfl rfl
  (fs_if (ft_w (fw_or (ft_cmp (op_dNe hr.units) (fe_slice true (fv 0) fo_none (fo_some fe_int)) fe_str (nomark _)) (fw_or1 (ft_cmp op_dLt (fv 1) fe_int (nomark _))))) (fs_one (fs_ret fe_non)) fs_nil)
theorem st_law_part_in_3 (T : Txt K mg) {cdv : Value} {A : Around} {outer : List Env} {s : Shared} {H : Hp} {E : XK} (hr : Room 2 (cxOf (L2.CX P w) P w K mg base ["_law_word_here", "_law_cut", "_law_first", "_law_second"] "_law_part_in" (defScope s_law_part_in) T.f_law_part_in cdv A outer s H E).A) (hg : (cxOf (L2.CX P w) P w K mg base ["_law_word_here", "_law_cut", "_law_first", "_law_second"] "_law_part_in" (defScope s_law_part_in) T.f_law_part_in cdv A outer s H E).A.guards = some []) : FS (cxOf (L2.CX P w) P w K mg base ["_law_word_here", "_law_cut", "_law_first", "_law_second"] "_law_part_in" (defScope s_law_part_in) T.f_law_part_in cdv A outer s H E) T.cm (yOf E) ((defBody s_law_part_in).getD 3 (.Pass ⟨0, 0, 0, 0⟩)) b_law_part_in_3 :=
  have sc := sc_law_part_in
  have tk : Takes (cxOf (L2.CX P w) P w K mg base ["_law_word_here", "_law_cut", "_law_first", "_law_second"] "_law_part_in" (defScope s_law_part_in) T.f_law_part_in cdv A outer s H E) (yOf E) := L2.takes_of rfl rfl rfl rfl
  (fs_par rfl sc.nd rfl rfl (by decide) rfl rfl (fa_cons (fe_call (cal_f (ok_law_side T) (arg_law_side T) (hr.mono (by decide)) hg tk T.F_law_side.kp) T.m_law_side (fa_cons (fe_slice true (fv 0) (fo_some fe_int) (fo_some (fv 1))) fa_nil)) (fa_cons (fe_call (cal_f (ok_law_side T) (arg_law_side T) (hr.mono (by decide)) hg tk T.F_law_side.kp) T.m_law_side (fa_cons (fe_slice true (fv 0) (fo_some (fe_op (op_dAdd true) (fv 1) fe_int)) fo_none) fa_nil)) fa_nil)) (by rfl))
theorem st_law_part_in_5 (T : Txt K mg) {cdv : Value} {A : Around} {outer : List Env} {s : Shared} {H : Hp} {E : XK} (hr : Room 2 (cxOf (L2.CX P w) P w K mg base ["_law_word_here", "_law_cut", "_law_first", "_law_second"] "_law_part_in" (defScope s_law_part_in) T.f_law_part_in cdv A outer s H E).A) (hg : (cxOf (L2.CX P w) P w K mg base ["_law_word_here", "_law_cut", "_law_first", "_law_second"] "_law_part_in" (defScope s_law_part_in) T.f_law_part_in cdv A outer s H E).A.guards = some []) : FS (cxOf (L2.CX P w) P w K mg base ["_law_word_here", "_law_cut", "_law_first", "_law_second"] "_law_part_in" (defScope s_law_part_in) T.f_law_part_in cdv A outer s H E) T.cm (yOf E) ((defBody s_law_part_in).getD 5 (.Pass ⟨0, 0, 0, 0⟩)) b_law_part_in_5 :=
  have sc := sc_law_part_in
  have tk : Takes (cxOf (L2.CX P w) P w K mg base ["_law_word_here", "_law_cut", "_law_first", "_law_second"] "_law_part_in" (defScope s_law_part_in) T.f_law_part_in cdv A outer s H E) (yOf E) := L2.takes_of rfl rfl rfl rfl
  (fs_ret (fe_lst true (fa_cons (fe_tup (fa_cons (fe_ix (fv 2) fe_int) (fa_cons (fe_ix (fv 3) fe_int) (fa_cons (fe_ix (fv 2) fe_int) (fa_cons (fe_ix (fv 3) fe_int) fa_nil))))) fa_nil)))
theorem ok_law_part_in (T : Txt K mg) : FnB P w K mg base T.cm 3 T.f_law_part_in T.d_law_part_in ["_law_word_here"] F_law_part_in := fn_body T.F_law_part_in sc_law_part_in fun cdv A outer s H E hr hg =>
  have sc := sc_law_part_in
  have tk : Takes (cxOf (L2.CX P w) P w K mg base ["_law_word_here", "_law_cut", "_law_first", "_law_second"] "_law_part_in" (defScope s_law_part_in) T.f_law_part_in cdv A outer s H E) (yOf E) := L2.takes_of rfl rfl rfl rfl
  (fs_cons (fs_if (ft_cmp (op_dEq hr.units) (fv 0) fe_str (nomark _)) (fs_one (fs_ret (fe_lst true (fa_cons fe_non fa_nil)))) fs_nil) (fs_cons (fs_set sc.nd rfl (by first | exact Or.inl rfl | exact Or.inr rfl) (fe_sm PySem.F.slot_str_find PySem.F.type_str_find mt_sFind (fv 0) fe_str)) (fs_cons (st_law_part_in_2 T hr hg) (fs_cons (st_law_part_in_3 T hr hg) (fs_cons (fs_if (ft_w (fw_or (ft_cmp op_dIs (fv 2) fe_non (nomark _)) (fw_or1 (ft_cmp op_dIs (fv 3) fe_non (nomark _))))) (fs_one (fs_ret fe_non)) fs_nil) (fs_one (st_law_part_in_5 T hr hg)))))))
theorem arg_law_read (T : Txt K mg) : Arg K T.cm T.d_law_read ["_law_written"] 1 [] (fun ds _ => ds) := arg_all T.F_law_read rfl fun _ _ _ _ _ _ us hl => match us, hl with | [_], _ => rfl
theorem sc_law_read : FnScope ["_law_written", "_law_found", "_law_spot", "_law_word_here", "_law_part"] ["_law_written"] (defScope s_law_read) := ⟨rfl, rfl, rfl, by decide +kernel, rfl, by decide +kernel, by decide +kernel⟩
theorem ok_law_read (T : Txt K mg) : FnB P w K mg base T.cm 4 T.f_law_read T.d_law_read ["_law_written"] F_law_read := fn_body T.F_law_read sc_law_read fun cdv A outer s H E hr hg =>
  have sc := sc_law_read
  have tk : Takes (cxOf (L2.CX P w) P w K mg base ["_law_written", "_law_found", "_law_spot", "_law_word_here", "_law_part"] "_law_read" (defScope s_law_read) T.f_law_read cdv A outer s H E) (yOf E) := L2.takes_of rfl rfl rfl rfl
  (fs_cons (fs_set sc.nd rfl (by first | exact Or.inl rfl | exact Or.inr rfl) (fe_lst true fa_nil)) (fs_cons (fs_for (L2.passes_of rfl) rfl (fi_en T.n_enumerate (fa_cons (fe_sm PySem.F.slot_str_split PySem.F.type_str_split mt_sSplit (fv 0) fe_str) fa_nil)) (fg_tup rfl (fgs_cons (fg_name sc.nd rfl (by first | exact Or.inl rfl | exact Or.inr rfl)) (fgs_cons (fg_name sc.nd rfl (by first | exact Or.inl rfl | exact Or.inr rfl)) fgs_nil))) (fs_cons (fs_set sc.nd rfl (by first | exact Or.inl rfl | exact Or.inr rfl) (fe_call (cal_f (ok_law_part_in T) (arg_law_part_in T) (hr.mono (by decide)) hg tk T.F_law_part_in.kp) T.m_law_part_in (fa_cons (fv 3) fa_nil))) (fs_cons (fs_if (ft_w (fw_or (ft_cmp op_dIs (fv 4) fe_non (nomark _)) (fw_or1 (ft_cmp (op_dEq hr.units) (fv 2) fe_int (nomark _))))) (fs_one (fs_ret (fv 2))) fs_nil) (fs_one (fs_set sc.nd rfl (by first | exact Or.inl rfl | exact Or.inr rfl) (fe_op (op_dAdd true) (fv 1) (fv 4))))))) (fs_one (fs_ret (fv 1)))))
theorem sc_law : FnScope ["_law_script", "_law_odd", "_law_k", "_law_tape_here", "_law_turn", "_law_parts", "_law_written", "_law_part", "_law_again", "_law_some", "_law_one"] ["_law_script"] (defScope s_law) := ⟨rfl, rfl, rfl, by decide +kernel, rfl, by decide +kernel, by decide +kernel⟩
theorem st_law_0 (T : Txt K mg) {cdv : Value} {A : Around} {outer : List Env} {s : Shared} {H : Hp} {E : XK} (hr : Room 8 (cxOf (L2.CX P w) P w K mg base ["_law_script", "_law_odd", "_law_k", "_law_tape_here", "_law_turn", "_law_parts", "_law_written", "_law_part", "_law_again", "_law_some", "_law_one"] "law" (defScope s_law) T.f_law cdv A outer s H E).A) (hg : (cxOf (L2.CX P w) P w K mg base ["_law_script", "_law_odd", "_law_k", "_law_tape_here", "_law_turn", "_law_parts", "_law_written", "_law_part", "_law_again", "_law_some", "_law_one"] "law" (defScope s_law) T.f_law cdv A outer s H E).A.guards = some []) : FS (cxOf (L2.CX P w) P w K mg base ["_law_script", "_law_odd", "_law_k", "_law_tape_here", "_law_turn", "_law_parts", "_law_written", "_law_part", "_law_again", "_law_some", "_law_one"] "law" (defScope s_law) T.f_law cdv A outer s H E) T.cm (yOf E) ((defBody s_law).getD 0 (.Pass ⟨0, 0, 0, 0⟩)) b_law_0 :=
  have sc := sc_law
  have tk : Takes (cxOf (L2.CX P w) P w K mg base ["_law_script", "_law_odd", "_law_k", "_law_tape_here", "_law_turn", "_law_parts", "_law_written", "_law_part", "_law_again", "_law_some", "_law_one"] "law" (defScope s_law) T.f_law cdv A outer s H E) (yOf E) := L2.takes_of rfl rfl rfl rfl
  (fs_set sc.nd rfl (by first | exact Or.inl rfl | exact Or.inr rfl) (fe_lst true (fa_cons fe_str (fa_cons fe_str (fa_cons fe_str (fa_cons fe_str (fa_cons fe_str (fa_cons fe_str (fa_cons fe_str (fa_cons fe_str (fa_cons fe_str (fa_cons fe_str (fa_cons fe_str (fa_cons fe_str fa_nil))))))))))))))
theorem st_law_1 (T : Txt K mg) {cdv : Value} {A : Around} {outer : List Env} {s : Shared} {H : Hp} {E : XK} (hr : Room 8 (cxOf (L2.CX P w) P w K mg base ["_law_script", "_law_odd", "_law_k", "_law_tape_here", "_law_turn", "_law_parts", "_law_written", "_law_part", "_law_again", "_law_some", "_law_one"] "law" (defScope s_law) T.f_law cdv A outer s H E).A) (hg : (cxOf (L2.CX P w) P w K mg base ["_law_script", "_law_odd", "_law_k", "_law_tape_here", "_law_turn", "_law_parts", "_law_written", "_law_part", "_law_again", "_law_some", "_law_one"] "law" (defScope s_law) T.f_law cdv A outer s H E).A.guards = some []) : FS (cxOf (L2.CX P w) P w K mg base ["_law_script", "_law_odd", "_law_k", "_law_tape_here", "_law_turn", "_law_parts", "_law_written", "_law_part", "_law_again", "_law_some", "_law_one"] "law" (defScope s_law) T.f_law cdv A outer s H E) T.cm (yOf E) ((defBody s_law).getD 1 (.Pass ⟨0, 0, 0, 0⟩)) b_law_1 :=
  have sc := sc_law
  have tk : Takes (cxOf (L2.CX P w) P w K mg base ["_law_script", "_law_odd", "_law_k", "_law_tape_here", "_law_turn", "_law_parts", "_law_written", "_law_part", "_law_again", "_law_some", "_law_one"] "law" (defScope s_law) T.f_law cdv A outer s H E) (yOf E) := L2.takes_of rfl rfl rfl rfl
  (fs_set sc.nd rfl (by first | exact Or.inl rfl | exact Or.inr rfl) (fe_op (op_dAdd true) (fv 1) (fe_lst true (fa_cons fe_str (fa_cons fe_str (fa_cons fe_str (fa_cons fe_str (fa_cons fe_str (fa_cons fe_str (fa_cons fe_str (fa_cons fe_str (fa_cons fe_str (fa_cons fe_str (fa_cons fe_str (fa_cons fe_str fa_nil)))))))))))))))
theorem st_law_2 (T : Txt K mg) {cdv : Value} {A : Around} {outer : List Env} {s : Shared} {H : Hp} {E : XK} (hr : Room 8 (cxOf (L2.CX P w) P w K mg base ["_law_script", "_law_odd", "_law_k", "_law_tape_here", "_law_turn", "_law_parts", "_law_written", "_law_part", "_law_again", "_law_some", "_law_one"] "law" (defScope s_law) T.f_law cdv A outer s H E).A) (hg : (cxOf (L2.CX P w) P w K mg base ["_law_script", "_law_odd", "_law_k", "_law_tape_here", "_law_turn", "_law_parts", "_law_written", "_law_part", "_law_again", "_law_some", "_law_one"] "law" (defScope s_law) T.f_law cdv A outer s H E).A.guards = some []) : FS (cxOf (L2.CX P w) P w K mg base ["_law_script", "_law_odd", "_law_k", "_law_tape_here", "_law_turn", "_law_parts", "_law_written", "_law_part", "_law_again", "_law_some", "_law_one"] "law" (defScope s_law) T.f_law cdv A outer s H E) T.cm (yOf E) ((defBody s_law).getD 2 (.Pass ⟨0, 0, 0, 0⟩)) b_law_2 :=
  have sc := sc_law
  have tk : Takes (cxOf (L2.CX P w) P w K mg base ["_law_script", "_law_odd", "_law_k", "_law_tape_here", "_law_turn", "_law_parts", "_law_written", "_law_part", "_law_again", "_law_some", "_law_one"] "law" (defScope s_law) T.f_law cdv A outer s H E) (yOf E) := L2.takes_of rfl rfl rfl rfl
  (fs_set sc.nd rfl (by first | exact Or.inl rfl | exact Or.inr rfl) (fe_op (op_dAdd true) (fv 1) (fe_lst true (fa_cons fe_str (fa_cons fe_str (fa_cons fe_str (fa_cons fe_str (fa_cons fe_str (fa_cons (fe_op (op_dAdd true) (fe_op (op_dAdd true) fe_str (fe_op (op_alt (op_dMul true) op_dMulS) fe_str fe_int)) fe_str) (fa_cons (fe_op (op_dAdd true) (fe_op (op_dAdd true) fe_str (fe_op (op_alt (op_dMul true) op_dMulS) fe_str fe_int)) fe_str) fa_nil))))))))))
theorem st_law_3 (T : Txt K mg) {cdv : Value} {A : Around} {outer : List Env} {s : Shared} {H : Hp} {E : XK} (hr : Room 8 (cxOf (L2.CX P w) P w K mg base ["_law_script", "_law_odd", "_law_k", "_law_tape_here", "_law_turn", "_law_parts", "_law_written", "_law_part", "_law_again", "_law_some", "_law_one"] "law" (defScope s_law) T.f_law cdv A outer s H E).A) (hg : (cxOf (L2.CX P w) P w K mg base ["_law_script", "_law_odd", "_law_k", "_law_tape_here", "_law_turn", "_law_parts", "_law_written", "_law_part", "_law_again", "_law_some", "_law_one"] "law" (defScope s_law) T.f_law cdv A outer s H E).A.guards = some []) : FS (cxOf (L2.CX P w) P w K mg base ["_law_script", "_law_odd", "_law_k", "_law_tape_here", "_law_turn", "_law_parts", "_law_written", "_law_part", "_law_again", "_law_some", "_law_one"] "law" (defScope s_law) T.f_law cdv A outer s H E) T.cm (yOf E) ((defBody s_law).getD 3 (.Pass ⟨0, 0, 0, 0⟩)) b_law_3 :=
  have sc := sc_law
  have tk : Takes (cxOf (L2.CX P w) P w K mg base ["_law_script", "_law_odd", "_law_k", "_law_tape_here", "_law_turn", "_law_parts", "_law_written", "_law_part", "_law_again", "_law_some", "_law_one"] "law" (defScope s_law) T.f_law cdv A outer s H E) (yOf E) := L2.takes_of rfl rfl rfl rfl
  (fs_set sc.nd rfl (by first | exact Or.inl rfl | exact Or.inr rfl) (fe_op (op_dAdd true) (fv 1) (fe_lst true (fa_cons (fe_op (op_dAdd true) (fe_op (op_dAdd true) fe_str (fe_op (op_alt (op_dMul true) op_dMulS) fe_str fe_int)) fe_str) (fa_cons (fe_op (op_dAdd true) (fe_op (op_dAdd true) fe_str (fe_op (op_alt (op_dMul true) op_dMulS) fe_str fe_int)) fe_str) (fa_cons fe_str (fa_cons fe_str (fa_cons fe_str (fa_cons fe_str (fa_cons fe_str fa_nil))))))))))
theorem st_law_4 (T : Txt K mg) {cdv : Value} {A : Around} {outer : List Env} {s : Shared} {H : Hp} {E : XK} (hr : Room 8 (cxOf (L2.CX P w) P w K mg base ["_law_script", "_law_odd", "_law_k", "_law_tape_here", "_law_turn", "_law_parts", "_law_written", "_law_part", "_law_again", "_law_some", "_law_one"] "law" (defScope s_law) T.f_law cdv A outer s H E).A) (hg : (cxOf (L2.CX P w) P w K mg base ["_law_script", "_law_odd", "_law_k", "_law_tape_here", "_law_turn", "_law_parts", "_law_written", "_law_part", "_law_again", "_law_some", "_law_one"] "law" (defScope s_law) T.f_law cdv A outer s H E).A.guards = some []) : FS (cxOf (L2.CX P w) P w K mg base ["_law_script", "_law_odd", "_law_k", "_law_tape_here", "_law_turn", "_law_parts", "_law_written", "_law_part", "_law_again", "_law_some", "_law_one"] "law" (defScope s_law) T.f_law cdv A outer s H E) T.cm (yOf E) ((defBody s_law).getD 4 (.Pass ⟨0, 0, 0, 0⟩)) b_law_4 :=
  have sc := sc_law
  have tk : Takes (cxOf (L2.CX P w) P w K mg base ["_law_script", "_law_odd", "_law_k", "_law_tape_here", "_law_turn", "_law_parts", "_law_written", "_law_part", "_law_again", "_law_some", "_law_one"] "law" (defScope s_law) T.f_law cdv A outer s H E) (yOf E) := L2.takes_of rfl rfl rfl rfl
  (fs_set sc.nd rfl (by first | exact Or.inl rfl | exact Or.inr rfl) (fe_op (op_dAdd true) (fv 1) (fe_lst true (fa_cons fe_str (fa_cons fe_str (fa_cons fe_str fa_nil))))))
theorem st_law_5 (T : Txt K mg) {cdv : Value} {A : Around} {outer : List Env} {s : Shared} {H : Hp} {E : XK} (hr : Room 8 (cxOf (L2.CX P w) P w K mg base ["_law_script", "_law_odd", "_law_k", "_law_tape_here", "_law_turn", "_law_parts", "_law_written", "_law_part", "_law_again", "_law_some", "_law_one"] "law" (defScope s_law) T.f_law cdv A outer s H E).A) (hg : (cxOf (L2.CX P w) P w K mg base ["_law_script", "_law_odd", "_law_k", "_law_tape_here", "_law_turn", "_law_parts", "_law_written", "_law_part", "_law_again", "_law_some", "_law_one"] "law" (defScope s_law) T.f_law cdv A outer s H E).A.guards = some []) : FS (cxOf (L2.CX P w) P w K mg base ["_law_script", "_law_odd", "_law_k", "_law_tape_here", "_law_turn", "_law_parts", "_law_written", "_law_part", "_law_again", "_law_some", "_law_one"] "law" (defScope s_law) T.f_law cdv A outer s H E) T.cm (yOf E) ((defBody s_law).getD 5 (.Pass ⟨0, 0, 0, 0⟩)) b_law_5 :=
  have sc := sc_law
  have tk : Takes (cxOf (L2.CX P w) P w K mg base ["_law_script", "_law_odd", "_law_k", "_law_tape_here", "_law_turn", "_law_parts", "_law_written", "_law_part", "_law_again", "_law_some", "_law_one"] "law" (defScope s_law) T.f_law cdv A outer s H E) (yOf E) := L2.takes_of rfl rfl rfl rfl
  (fs_for (L2.passes_of rfl) rfl (fi_range1 T.n_range (fa_cons (fe_callB (call_dMax rfl) T.n_max (by decide +kernel) (fa_cons fe_int (fa_cons (fe_callB (call_dMin rfl) T.n_min (by decide +kernel) (fa_cons fe_int (fa_cons (fe_callB (call_dLen) T.n_len (by decide +kernel) (fa_cons (fv 0) fa_nil)) fa_nil))) fa_nil))) fa_nil)) (fg_name sc.nd rfl (by first | exact Or.inl rfl | exact Or.inr rfl)) (fs_cons (fs_set sc.nd rfl (by first | exact Or.inl rfl | exact Or.inr rfl) (fe_call (cal_f (ok_law_tape T) (arg_law_tape T) (hr.mono (by decide)) hg tk T.F_law_tape.kp) T.m_law_tape (fa_cons (fv 0) (fa_cons (fv 2) fa_nil)))) (fs_one (fs_for (L2.passes_of rfl) rfl (fi_range1 T.n_range (fa_cons fe_int fa_nil)) (fg_name sc.nd rfl (by first | exact Or.inl rfl | exact Or.inr rfl)) (fs_cons (fs_set sc.nd rfl (by first | exact Or.inl rfl | exact Or.inr rfl) (fe_call (cal_f (ok_law_any T) (arg_law_any T) (hr.mono (by decide)) hg tk T.F_law_any.kp) T.m_law_any (fa_cons (fv 3) (fa_cons (fe_ix (fe_lst true (fa_cons (fe_op (op_dAdd true) fe_int (fe_call (cal_f (ok_law_next T) (arg_law_next T) (hr.mono (by decide)) hg tk T.F_law_next.kp) T.m_law_next (fa_cons (fv 3) (fa_cons fe_int fa_nil)))) (fa_cons (fe_op (op_dAdd true) fe_int (fe_call (cal_f (ok_law_next T) (arg_law_next T) (hr.mono (by decide)) hg tk T.F_law_next.kp) T.m_law_next (fa_cons (fv 3) (fa_cons fe_int fa_nil)))) fa_nil))) (fe_call (cal_f (ok_law_next T) (arg_law_next T) (hr.mono (by decide)) hg tk T.F_law_next.kp) T.m_law_next (fa_cons (fv 3) (fa_cons fe_int fa_nil)))) (fa_cons (fe_op op_dPow fe_int fe_int) fa_nil))))) (fs_cons (fs_set sc.nd rfl (by first | exact Or.inl rfl | exact Or.inr rfl) (fe_sm PySem.F.slot_str_join PySem.F.type_str_join mt_sJoin fe_str (fe_lc (own := [("_law_part", 7)]) true rfl sc.nd (fi_sq (fv 5)) (blk_of (N := ["_law_script", "_law_odd", "_law_k", "_law_tape_here", "_law_turn", "_law_parts", "_law_written", "_law_part", "_law_again", "_law_some", "_law_one"]) (sc := defScope s_law) rfl rfl (by decide +kernel)) (fun _ _ _ _ _ => (fg_name sc.nd rfl (by first | exact Or.inl rfl | exact Or.inr rfl))) (fun _ _ _ _ _ => fts_nil) (fun _ _ _ _ _ => (fe_call (cal_f (ok_law_word T) (arg_law_word T) (by exact hr.mono (by decide)) (by exact hg) tkNo T.F_law_word.kp) T.m_law_word (fa_cons (fv 7) fa_nil))) (by decide)))) (fs_cons (fs_for (L2.passes_of rfl) rfl (fi_range1 T.n_range (fa_cons (fe_call (cal_f (ok_law_next T) (arg_law_next T) (hr.mono (by decide)) hg tk T.F_law_next.kp) T.m_law_next (fa_cons (fv 3) (fa_cons fe_int fa_nil))) fa_nil)) (fg_name sc.nd rfl (by first | exact Or.inl rfl | exact Or.inr rfl)) (fs_one (fs_set sc.nd rfl (by first | exact Or.inl rfl | exact Or.inr rfl) (fe_call (cal_f (ok_law_bent T) (arg_law_bent T) (hr.mono (by decide)) hg tk T.F_law_bent.kp) T.m_law_bent (fa_cons (fv 3) (fa_cons (fv 6) (fa_cons (fv 1) fa_nil))))))) (fs_one (fs_if (ft_cmp (op_dNe hr.units) (fe_callB (call_alt (call_dRepr hg (room200 hr)) call_dReprN) T.n_repr (by decide +kernel) (fa_cons (fe_call (cal_f (ok_law_told T) (arg_law_told T) (hr.mono (by decide)) hg tk T.F_law_told.kp) T.m_law_told (fa_cons (fv 6) (fa_cons (fe_cmp (op_dEq hr.units) (fe_op op_dMod (fv 4) fe_int) fe_int (nomark _)) fa_nil))) fa_nil)) (fe_callB (call_alt (call_dRepr hg (room200 hr)) call_dReprN) T.n_repr (by decide +kernel) (fa_cons (fe_call (cal_f (ok_law_read T) (arg_law_read T) (hr.mono (by decide)) hg tk T.F_law_read.kp) T.m_law_read (fa_cons (fv 6) fa_nil)) fa_nil)) (nomark _)) (fs_one (fs_ret fe_bl)) fs_nil)))))))))
theorem st_law_6 (T : Txt K mg) {cdv : Value} {A : Around} {outer : List Env} {s : Shared} {H : Hp} {E : XK} (hr : Room 8 (cxOf (L2.CX P w) P w K mg base ["_law_script", "_law_odd", "_law_k", "_law_tape_here", "_law_turn", "_law_parts", "_law_written", "_law_part", "_law_again", "_law_some", "_law_one"] "law" (defScope s_law) T.f_law cdv A outer s H E).A) (hg : (cxOf (L2.CX P w) P w K mg base ["_law_script", "_law_odd", "_law_k", "_law_tape_here", "_law_turn", "_law_parts", "_law_written", "_law_part", "_law_again", "_law_some", "_law_one"] "law" (defScope s_law) T.f_law cdv A outer s H E).A.guards = some []) : FS (cxOf (L2.CX P w) P w K mg base ["_law_script", "_law_odd", "_law_k", "_law_tape_here", "_law_turn", "_law_parts", "_law_written", "_law_part", "_law_again", "_law_some", "_law_one"] "law" (defScope s_law) T.f_law cdv A outer s H E) T.cm (yOf E) ((defBody s_law).getD 6 (.Pass ⟨0, 0, 0, 0⟩)) b_law_6 :=
  have sc := sc_law
  have tk : Takes (cxOf (L2.CX P w) P w K mg base ["_law_script", "_law_odd", "_law_k", "_law_tape_here", "_law_turn", "_law_parts", "_law_written", "_law_part", "_law_again", "_law_some", "_law_one"] "law" (defScope s_law) T.f_law cdv A outer s H E) (yOf E) := L2.takes_of rfl rfl rfl rfl
  (fs_set sc.nd rfl (by first | exact Or.inl rfl | exact Or.inr rfl) (fe_op (op_dAdd true) (fv 1) (fe_lst true (fa_cons (fe_sm PySem.F.slot_str_join PySem.F.type_str_join mt_sJoin fe_str (fe_op (op_alt (op_dMul true) op_dMulS) (fe_lst true (fa_cons fe_str fa_nil)) fe_int)) (fa_cons (fe_sm PySem.F.slot_str_join PySem.F.type_str_join mt_sJoin fe_str (fe_op (op_alt (op_dMul true) op_dMulS) (fe_lst true (fa_cons fe_str fa_nil)) fe_int)) (fa_cons (fe_sm PySem.F.slot_str_join PySem.F.type_str_join mt_sJoin fe_str (fe_op (op_dAdd true) (fe_op (op_alt (op_dMul true) op_dMulS) (fe_lst true (fa_cons fe_str fa_nil)) fe_int) (fe_lst true (fa_cons fe_str fa_nil)))) (fa_cons fe_str (fa_cons fe_str (fa_cons fe_str (fa_cons fe_str fa_nil))))))))))
theorem st_law_7 (T : Txt K mg) {cdv : Value} {A : Around} {outer : List Env} {s : Shared} {H : Hp} {E : XK} (hr : Room 8 (cxOf (L2.CX P w) P w K mg base ["_law_script", "_law_odd", "_law_k", "_law_tape_here", "_law_turn", "_law_parts", "_law_written", "_law_part", "_law_again", "_law_some", "_law_one"] "law" (defScope s_law) T.f_law cdv A outer s H E).A) (hg : (cxOf (L2.CX P w) P w K mg base ["_law_script", "_law_odd", "_law_k", "_law_tape_here", "_law_turn", "_law_parts", "_law_written", "_law_part", "_law_again", "_law_some", "_law_one"] "law" (defScope s_law) T.f_law cdv A outer s H E).A.guards = some []) : FS (cxOf (L2.CX P w) P w K mg base ["_law_script", "_law_odd", "_law_k", "_law_tape_here", "_law_turn", "_law_parts", "_law_written", "_law_part", "_law_again", "_law_some", "_law_one"] "law" (defScope s_law) T.f_law cdv A outer s H E) T.cm (yOf E) ((defBody s_law).getD 7 (.Pass ⟨0, 0, 0, 0⟩)) b_law_7 :=
  have sc := sc_law
  have tk : Takes (cxOf (L2.CX P w) P w K mg base ["_law_script", "_law_odd", "_law_k", "_law_tape_here", "_law_turn", "_law_parts", "_law_written", "_law_part", "_law_again", "_law_some", "_law_one"] "law" (defScope s_law) T.f_law cdv A outer s H E) (yOf E) := L2.takes_of rfl rfl rfl rfl
  (fs_set sc.nd rfl (by first | exact Or.inl rfl | exact Or.inr rfl) (fe_op (op_dAdd true) (fv 9) (fe_lst true (fa_cons (fe_sm PySem.F.slot_str_join PySem.F.type_str_join mt_sJoin fe_str (fe_op (op_dAdd true) (fe_op (op_alt (op_dMul true) op_dMulS) (fe_lst true (fa_cons fe_str fa_nil)) fe_int) (fe_lst true (fa_cons fe_str fa_nil)))) (fa_cons fe_str (fa_cons fe_str (fa_cons (fe_op (op_dAdd true) (fe_op (op_dAdd true) (fe_op (op_dAdd true) (fe_op (op_dAdd true) fe_str (fe_op (op_alt (op_dMul true) op_dMulS) fe_str fe_int)) fe_str) (fe_op (op_alt (op_dMul true) op_dMulS) fe_str fe_int)) fe_str) fa_nil)))))))
theorem st_law_8 (T : Txt K mg) {cdv : Value} {A : Around} {outer : List Env} {s : Shared} {H : Hp} {E : XK} (hr : Room 8 (cxOf (L2.CX P w) P w K mg base ["_law_script", "_law_odd", "_law_k", "_law_tape_here", "_law_turn", "_law_parts", "_law_written", "_law_part", "_law_again", "_law_some", "_law_one"] "law" (defScope s_law) T.f_law cdv A outer s H E).A) (hg : (cxOf (L2.CX P w) P w K mg base ["_law_script", "_law_odd", "_law_k", "_law_tape_here", "_law_turn", "_law_parts", "_law_written", "_law_part", "_law_again", "_law_some", "_law_one"] "law" (defScope s_law) T.f_law cdv A outer s H E).A.guards = some []) : FS (cxOf (L2.CX P w) P w K mg base ["_law_script", "_law_odd", "_law_k", "_law_tape_here", "_law_turn", "_law_parts", "_law_written", "_law_part", "_law_again", "_law_some", "_law_one"] "law" (defScope s_law) T.f_law cdv A outer s H E) T.cm (yOf E) ((defBody s_law).getD 8 (.Pass ⟨0, 0, 0, 0⟩)) b_law_8 :=
  have sc := sc_law
  have tk : Takes (cxOf (L2.CX P w) P w K mg base ["_law_script", "_law_odd", "_law_k", "_law_tape_here", "_law_turn", "_law_parts", "_law_written", "_law_part", "_law_again", "_law_some", "_law_one"] "law" (defScope s_law) T.f_law cdv A outer s H E) (yOf E) := L2.takes_of rfl rfl rfl rfl
  (fs_ret (fe_cmp (op_dEq hr.units) (fe_lc (own := [("_law_one", 10)]) true rfl sc.nd (fi_sq (fv 9)) (blk_of (N := ["_law_script", "_law_odd", "_law_k", "_law_tape_here", "_law_turn", "_law_parts", "_law_written", "_law_part", "_law_again", "_law_some", "_law_one"]) (sc := defScope s_law) rfl rfl (by decide +kernel)) (fun _ _ _ _ _ => (fg_name sc.nd rfl (by first | exact Or.inl rfl | exact Or.inr rfl))) (fun _ _ _ _ _ => (fts_one (ft_cmp (op_dNe (by exact hr.units)) (fe_callB (call_alt (call_dRepr (by exact hg) (by exact room200 hr)) call_dReprN) T.n_repr (by decide +kernel) (fa_cons (fe_call (cal_f (ok_law_told T) (arg_law_told T) (by exact hr.mono (by decide)) (by exact hg) tkNo T.F_law_told.kp) T.m_law_told (fa_cons (fv 10) (fa_cons fe_bl fa_nil))) fa_nil)) (fe_callB (call_alt (call_dRepr (by exact hg) (by exact room200 hr)) call_dReprN) T.n_repr (by decide +kernel) (fa_cons (fe_call (cal_f (ok_law_read T) (arg_law_read T) (by exact hr.mono (by decide)) (by exact hg) tkNo T.F_law_read.kp) T.m_law_read (fa_cons (fv 10) fa_nil)) fa_nil)) (nomark _)))) (fun _ _ _ _ _ => (fv 10)) (by decide)) (fe_lst true fa_nil) (nomark _)))
theorem ok_law (T : Txt K mg) : FnB P w K mg base T.cm 9 T.f_law T.d_law ["_law_script"] F_law := fn_body T.F_law sc_law fun cdv A outer s H E hr hg =>
  have sc := sc_law
  have tk : Takes (cxOf (L2.CX P w) P w K mg base ["_law_script", "_law_odd", "_law_k", "_law_tape_here", "_law_turn", "_law_parts", "_law_written", "_law_part", "_law_again", "_law_some", "_law_one"] "law" (defScope s_law) T.f_law cdv A outer s H E) (yOf E) := L2.takes_of rfl rfl rfl rfl
  (fs_cons (st_law_0 T hr hg) (fs_cons (st_law_1 T hr hg) (fs_cons (st_law_2 T hr hg) (fs_cons (st_law_3 T hr hg) (fs_cons (st_law_4 T hr hg) (fs_cons (st_law_5 T hr hg) (fs_cons (st_law_6 T hr hg) (fs_cons (st_law_7 T hr hg) (fs_one (st_law_8 T hr hg))))))))))
end
theorem all_mk {l : PySem.W.OpenLaw} {w : World} {K : PySem.W.Frag} {h : Heap} {mg : Str → Option Value} {fa C_InvalidText C_Formula C_Reference C_CopyError C_InvalidFormula C_InvalidNumber C_InvalidReference C_InvalidWay f_law_tape f_law_next f_law_any f_law_word f_law_signs f_law_bent f_Formula_parts q_Formula_parts f_Reference_row q_Reference_row f_Reference_column q_Reference_column f_Reference_fixed_row q_Reference_fixed_row f_Reference_fixed_column q_Reference_fixed_column f_law_seen f_number_in f_distance_in f_part_in f_is_integer f_is_place f_is_part f_Reference___init f_reference_in f_InvalidText___init f_Formula___init f_Formula_of z_Formula_of f_read_formula f_law_told f_law_number f_law_side f_law_part_in f_law_read f_law : Addr} (X : K.In h) (G : h.Ns mainGlobals mg) (hfa : mg "law" = some (.ref fa))
  {d_law_tape d_law_next d_law_any d_law_word d_law_signs d_law_bent d_Formula_parts d_Reference_row d_Reference_column d_Reference_fixed_row d_Reference_fixed_column d_law_seen d_number_in d_distance_in d_part_in d_is_integer d_is_place d_is_part d_Reference___init d_reference_in d_InvalidText___init d_Formula___init d_Formula_of d_read_formula d_law_told d_law_number d_law_side d_law_part_in d_law_read d_law : FuncData}
  {rz_Formula_of : List Value}
  {r_Formula_parts r_Reference_row r_Reference_column r_Reference_fixed_row r_Reference_fixed_column : List Value}
  {tk_MOST_DIGITS tk_DIGITS tk_GREATEST tk_MOST_PARTS_texts tk_BROKEN tk_MOST_PARTS_formulas : Tok}
  (hC_InvalidText : PySem.W.nsIn K mainGlobals "InvalidText" = some (some (.ref C_InvalidText)))
  (hC_Formula : PySem.W.nsIn K mainGlobals "Formula" = some (some (.ref C_Formula)))
  (hC_Reference : PySem.W.nsIn K mainGlobals "Reference" = some (some (.ref C_Reference)))
  (hC_CopyError : PySem.W.nsIn K mainGlobals "CopyError" = some (some (.ref C_CopyError)))
  (hC_InvalidFormula : PySem.W.nsIn K mainGlobals "InvalidFormula" = some (some (.ref C_InvalidFormula)))
  (hC_InvalidNumber : PySem.W.nsIn K mainGlobals "InvalidNumber" = some (some (.ref C_InvalidNumber)))
  (hC_InvalidReference : PySem.W.nsIn K mainGlobals "InvalidReference" = some (some (.ref C_InvalidReference)))
  (hC_InvalidWay : PySem.W.nsIn K mainGlobals "InvalidWay" = some (some (.ref C_InvalidWay)))
  (hf_law_tape : PySem.W.nsIn K mainGlobals "_law_tape" = some (some (.ref f_law_tape)))
  (hF_law_tape : FunD K "_law_tape" "_law_tape" (defArgs s_law_tape) (defBody s_law_tape) (defScope s_law_tape) [] [] f_law_tape d_law_tape)
  (hf_law_next : PySem.W.nsIn K mainGlobals "_law_next" = some (some (.ref f_law_next)))
  (hF_law_next : FunD K "_law_next" "_law_next" (defArgs s_law_next) (defBody s_law_next) (defScope s_law_next) [] [] f_law_next d_law_next)
  (hf_law_any : PySem.W.nsIn K mainGlobals "_law_any" = some (some (.ref f_law_any)))
  (hF_law_any : FunD K "_law_any" "_law_any" (defArgs s_law_any) (defBody s_law_any) (defScope s_law_any) [] [] f_law_any d_law_any)
  (hf_law_word : PySem.W.nsIn K mainGlobals "_law_word" = some (some (.ref f_law_word)))
  (hF_law_word : FunD K "_law_word" "_law_word" (defArgs s_law_word) (defBody s_law_word) (defScope s_law_word) [] [] f_law_word d_law_word)
  (hf_law_signs : PySem.W.nsIn K mainGlobals "_law_signs" = some (some (.ref f_law_signs)))
  (hF_law_signs : FunD K "_law_signs" "_law_signs" (defArgs s_law_signs) (defBody s_law_signs) (defScope s_law_signs) [] [] f_law_signs d_law_signs)
  (hf_law_bent : PySem.W.nsIn K mainGlobals "_law_bent" = some (some (.ref f_law_bent)))
  (hF_law_bent : FunD K "_law_bent" "_law_bent" (defArgs s_law_bent) (defBody s_law_bent) (defScope s_law_bent) [] [] f_law_bent d_law_bent)
  (hq1_Formula_parts : PySem.W.findIn K (.ref C_Formula) "parts" = some (some (.ref q_Formula_parts)))
  (hq2_Formula_parts : PySem.W.specialIn K (.ref q_Formula_parts) "__get__" = some (some (.builtin "property.__get__")))
  (hq3_Formula_parts : PySem.W.takesIn K (.ref q_Formula_parts) = some true)
  (hq4_Formula_parts : PySem.W.recIn K q_Formula_parts "property" = some (.ref f_Formula_parts :: r_Formula_parts))
  (hF_Formula_parts : FunD K "parts" "Formula.parts" (defArgs s_Formula_parts) (defBody s_Formula_parts) (defScope s_Formula_parts) [] [] f_Formula_parts d_Formula_parts)
  (hq1_Reference_row : PySem.W.findIn K (.ref C_Reference) "row" = some (some (.ref q_Reference_row)))
  (hq2_Reference_row : PySem.W.specialIn K (.ref q_Reference_row) "__get__" = some (some (.builtin "property.__get__")))
  (hq3_Reference_row : PySem.W.takesIn K (.ref q_Reference_row) = some true)
  (hq4_Reference_row : PySem.W.recIn K q_Reference_row "property" = some (.ref f_Reference_row :: r_Reference_row))
  (hF_Reference_row : FunD K "row" "Reference.row" (defArgs s_Reference_row) (defBody s_Reference_row) (defScope s_Reference_row) [] [] f_Reference_row d_Reference_row)
  (hq1_Reference_column : PySem.W.findIn K (.ref C_Reference) "column" = some (some (.ref q_Reference_column)))
  (hq2_Reference_column : PySem.W.specialIn K (.ref q_Reference_column) "__get__" = some (some (.builtin "property.__get__")))
  (hq3_Reference_column : PySem.W.takesIn K (.ref q_Reference_column) = some true)
  (hq4_Reference_column : PySem.W.recIn K q_Reference_column "property" = some (.ref f_Reference_column :: r_Reference_column))
  (hF_Reference_column : FunD K "column" "Reference.column" (defArgs s_Reference_column) (defBody s_Reference_column) (defScope s_Reference_column) [] [] f_Reference_column d_Reference_column)
  (hq1_Reference_fixed_row : PySem.W.findIn K (.ref C_Reference) "fixed_row" = some (some (.ref q_Reference_fixed_row)))
  (hq2_Reference_fixed_row : PySem.W.specialIn K (.ref q_Reference_fixed_row) "__get__" = some (some (.builtin "property.__get__")))
  (hq3_Reference_fixed_row : PySem.W.takesIn K (.ref q_Reference_fixed_row) = some true)
  (hq4_Reference_fixed_row : PySem.W.recIn K q_Reference_fixed_row "property" = some (.ref f_Reference_fixed_row :: r_Reference_fixed_row))
  (hF_Reference_fixed_row : FunD K "fixed_row" "Reference.fixed_row" (defArgs s_Reference_fixed_row) (defBody s_Reference_fixed_row) (defScope s_Reference_fixed_row) [] [] f_Reference_fixed_row d_Reference_fixed_row)
  (hq1_Reference_fixed_column : PySem.W.findIn K (.ref C_Reference) "fixed_column" = some (some (.ref q_Reference_fixed_column)))
  (hq2_Reference_fixed_column : PySem.W.specialIn K (.ref q_Reference_fixed_column) "__get__" = some (some (.builtin "property.__get__")))
  (hq3_Reference_fixed_column : PySem.W.takesIn K (.ref q_Reference_fixed_column) = some true)
  (hq4_Reference_fixed_column : PySem.W.recIn K q_Reference_fixed_column "property" = some (.ref f_Reference_fixed_column :: r_Reference_fixed_column))
  (hF_Reference_fixed_column : FunD K "fixed_column" "Reference.fixed_column" (defArgs s_Reference_fixed_column) (defBody s_Reference_fixed_column) (defScope s_Reference_fixed_column) [] [] f_Reference_fixed_column d_Reference_fixed_column)
  (hf_law_seen : PySem.W.nsIn K mainGlobals "_law_seen" = some (some (.ref f_law_seen)))
  (hF_law_seen : FunD K "_law_seen" "_law_seen" (defArgs s_law_seen) (defBody s_law_seen) (defScope s_law_seen) [] [] f_law_seen d_law_seen)
  (hf_number_in : PySem.W.nsIn K mainGlobals "number_in" = some (some (.ref f_number_in)))
  (hF_number_in : FunD K "number_in" "number_in" (defArgs s_number_in) (defBody s_number_in) (defScope s_number_in) [] [] f_number_in d_number_in)
  (hf_distance_in : PySem.W.nsIn K mainGlobals "distance_in" = some (some (.ref f_distance_in)))
  (hF_distance_in : FunD K "distance_in" "distance_in" (defArgs s_distance_in) (defBody s_distance_in) (defScope s_distance_in) [] [] f_distance_in d_distance_in)
  (hf_part_in : PySem.W.nsIn K mainGlobals "part_in" = some (some (.ref f_part_in)))
  (hF_part_in : FunD K "part_in" "part_in" (defArgs s_part_in) (defBody s_part_in) (defScope s_part_in) [] [] f_part_in d_part_in)
  (hf_is_integer : PySem.W.nsIn K mainGlobals "is_integer" = some (some (.ref f_is_integer)))
  (hF_is_integer : FunD K "is_integer" "is_integer" (defArgs s_is_integer) (defBody s_is_integer) (defScope s_is_integer) [] [] f_is_integer d_is_integer)
  (hf_is_place : PySem.W.nsIn K mainGlobals "is_place" = some (some (.ref f_is_place)))
  (hF_is_place : FunD K "is_place" "is_place" (defArgs s_is_place) (defBody s_is_place) (defScope s_is_place) [] [] f_is_place d_is_place)
  (hf_is_part : PySem.W.nsIn K mainGlobals "is_part" = some (some (.ref f_is_part)))
  (hF_is_part : FunD K "is_part" "is_part" (defArgs s_is_part) (defBody s_is_part) (defScope s_is_part) [] [] f_is_part d_is_part)
  (hf_Reference___init : PySem.W.findIn K (.ref C_Reference) "__init__" = some (some (.ref f_Reference___init)))
  (hF_Reference___init : FunD K "__init__" "Reference.__init__" (defArgs s_Reference___init) (defBody s_Reference___init) (defScope s_Reference___init) [.bl false, .bl false] [] f_Reference___init d_Reference___init)
  (hf_reference_in : PySem.W.nsIn K mainGlobals "reference_in" = some (some (.ref f_reference_in)))
  (hF_reference_in : FunD K "reference_in" "reference_in" (defArgs s_reference_in) (defBody s_reference_in) (defScope s_reference_in) [] [] f_reference_in d_reference_in)
  (hf_InvalidText___init : PySem.W.findIn K (.ref C_InvalidText) "__init__" = some (some (.ref f_InvalidText___init)))
  (hF_InvalidText___init : FunD K "__init__" "InvalidText.__init__" (defArgs s_InvalidText___init) (defBody s_InvalidText___init) (defScope s_InvalidText___init) [] [] f_InvalidText___init d_InvalidText___init)
  (hf_Formula___init : PySem.W.findIn K (.ref C_Formula) "__init__" = some (some (.ref f_Formula___init)))
  (hF_Formula___init : FunD K "__init__" "Formula.__init__" (defArgs s_Formula___init) (defBody s_Formula___init) (defScope s_Formula___init) [] [] f_Formula___init d_Formula___init)
  (hz1_Formula_of : PySem.W.findCls K (.ref C_Formula) (.type "type") "of" = some (.get (.builtin "classmethod.__get__") (.ref z_Formula_of) .none (.ref C_Formula)))
  (hz2_Formula_of : PySem.W.recIn K z_Formula_of "classmethod" = some (.ref f_Formula_of :: rz_Formula_of))
  (hz3_Formula_of : PySem.W.fnIn K f_Formula_of = true)
  (hF_Formula_of : FunD K "of" "Formula.of" (defArgs s_Formula_of) (defBody s_Formula_of) (defScope s_Formula_of) [] [] f_Formula_of d_Formula_of)
  (hf_read_formula : PySem.W.nsIn K mainGlobals "read_formula" = some (some (.ref f_read_formula)))
  (hF_read_formula : FunD K "read_formula" "read_formula" (defArgs s_read_formula) (defBody s_read_formula) (defScope s_read_formula) [] [] f_read_formula d_read_formula)
  (hf_law_told : PySem.W.nsIn K mainGlobals "_law_told" = some (some (.ref f_law_told)))
  (hF_law_told : FunD K "_law_told" "_law_told" (defArgs s_law_told) (defBody s_law_told) (defScope s_law_told) [] [] f_law_told d_law_told)
  (hf_law_number : PySem.W.nsIn K mainGlobals "_law_number" = some (some (.ref f_law_number)))
  (hF_law_number : FunD K "_law_number" "_law_number" (defArgs s_law_number) (defBody s_law_number) (defScope s_law_number) [] [] f_law_number d_law_number)
  (hf_law_side : PySem.W.nsIn K mainGlobals "_law_side" = some (some (.ref f_law_side)))
  (hF_law_side : FunD K "_law_side" "_law_side" (defArgs s_law_side) (defBody s_law_side) (defScope s_law_side) [] [] f_law_side d_law_side)
  (hf_law_part_in : PySem.W.nsIn K mainGlobals "_law_part_in" = some (some (.ref f_law_part_in)))
  (hF_law_part_in : FunD K "_law_part_in" "_law_part_in" (defArgs s_law_part_in) (defBody s_law_part_in) (defScope s_law_part_in) [] [] f_law_part_in d_law_part_in)
  (hf_law_read : PySem.W.nsIn K mainGlobals "_law_read" = some (some (.ref f_law_read)))
  (hF_law_read : FunD K "_law_read" "_law_read" (defArgs s_law_read) (defBody s_law_read) (defScope s_law_read) [] [] f_law_read d_law_read)
  (hf_law : PySem.W.nsIn K mainGlobals "law" = some (some (.ref f_law)))
  (hF_law : FunD K "law" "law" (defArgs s_law) (defBody s_law) (defScope s_law) [] [] f_law d_law)
  (hn_range : PySem.W.nsIn K mainGlobals "range" = some none)
  (hn_max : PySem.W.nsIn K mainGlobals "max" = some none)
  (hn_min : PySem.W.nsIn K mainGlobals "min" = some none)
  (hn_len : PySem.W.nsIn K mainGlobals "len" = some none)
  (hn_abs : PySem.W.nsIn K mainGlobals "abs" = some none)
  (hn_str : PySem.W.nsIn K mainGlobals "str" = some none)
  (hn_repr : PySem.W.nsIn K mainGlobals "repr" = some none)
  (hn_list : PySem.W.nsIn K mainGlobals "list" = some none)
  (hn_enumerate : PySem.W.nsIn K mainGlobals "enumerate" = some none)
  (hg_MOST_DIGITS : PySem.W.nsIn K mainGlobals "MOST_DIGITS" = some (some (.int 30 tk_MOST_DIGITS)))
  (hn_all : PySem.W.nsIn K mainGlobals "all" = some none)
  (hg_DIGITS : PySem.W.nsIn K mainGlobals "DIGITS" = some (some (.str "0123456789" tk_DIGITS)))
  (hn_int : PySem.W.nsIn K mainGlobals "int" = some none)
  (hma_Reference : PySem.W.makesIn K C_Reference = true)
  (hmi_Reference : PySem.W.isFn K (.ref f_Reference___init) = true)
  (hmk_Reference : PySem.W.keepIn K (.ref C_Reference) = true)
  (hn_isinstance : PySem.W.nsIn K mainGlobals "isinstance" = some none)
  (hn_bool : PySem.W.nsIn K mainGlobals "bool" = some none)
  (hg_GREATEST : PySem.W.nsIn K mainGlobals "GREATEST" = some (some (.int 1000000000000000000000000000000 tk_GREATEST)))
  (hg_MOST_PARTS_texts : PySem.W.nsIn K mainGlobals "MOST_PARTS_texts" = some (some (.int 20 tk_MOST_PARTS_texts)))
  (hg_BROKEN : PySem.W.nsIn K mainGlobals "BROKEN" = some (some (.str "#" tk_BROKEN)))
  (hma_Formula : PySem.W.makesIn K C_Formula = true)
  (hmi_Formula : PySem.W.isFn K (.ref f_Formula___init) = true)
  (hmk_Formula : PySem.W.keepIn K (.ref C_Formula) = true)
  (hg_MOST_PARTS_formulas : PySem.W.nsIn K mainGlobals "MOST_PARTS_formulas" = some (some (.int 20 tk_MOST_PARTS_formulas)))
  (hn_tuple : PySem.W.nsIn K mainGlobals "tuple" = some none)
  (hn_ValueError : PySem.W.nsIn K mainGlobals "ValueError" = some none)
  (hxs1_InvalidText : PySem.W.isClsIn K C_InvalidText = true)
  (hxs_InvalidText_InvalidText : PySem.W.subIn K (.ref C_InvalidText) (.ref C_InvalidText) = some true)
  (hxw1_InvalidText : oexIn K C_InvalidText = true)
  (hxw2_InvalidText : PySem.W.findIn K (.ref C_InvalidText) "__setattr__" = some (some (.builtin "object.__setattr__")))
  (hxo2_InvalidText : PySem.W.keepIn K (.ref C_InvalidText) = true)
  (hxo3_InvalidText : PySem.W.subIn K (.ref C_InvalidText) (.type "BaseException") = some true)
  (hxo4_InvalidText : PySem.W.typeIn K (.ref C_InvalidText) = some (.type "type"))
  (hxw3_InvalidText : PySem.W.typeIn K (.ref f_InvalidText___init) = some (.type "function"))
  (hxw4_InvalidText : PySem.W.findIn K (.ref C_InvalidText) "word" = some none)
  (hcr1_CopyError : PySem.W.readsIn K C_CopyError (.type "type") = true)
  (hcr2_CopyError : PySem.W.specialIn K (.ref C_CopyError) "__getattribute__" = some (some (.builtin "type.__getattribute__")))
  (hxb_CopyError : PySem.W.findCls K (.ref C_CopyError) (.type "type") "__init__" = some (.val (.builtin "ValueError.__init__")))
  (hcr1_Formula : PySem.W.readsIn K C_Formula (.type "type") = true)
  (hcr2_Formula : PySem.W.specialIn K (.ref C_Formula) "__getattribute__" = some (some (.builtin "type.__getattribute__")))
  (hxi_hn : PySem.W.specialIn K (.builtin "object.__class__") "__get__" = some (some (.builtin "getset_descriptor.__get__")))
  (hxi_ht : PySem.W.takesIn K (.builtin "object.__class__") = some true)
  (hxi1_InvalidText : PySem.W.isClsIn K C_InvalidText = true)
  (hxi2_InvalidText : PySem.W.findIn K (.ref C_InvalidText) "__getattribute__" = some (some (.builtin "BaseException.__getattribute__")))
  (hxi3_InvalidText : PySem.W.findIn K (.ref C_InvalidText) "__getattr__" = some none)
  (hxi4_InvalidText : PySem.W.findIn K (.ref C_InvalidText) "__class__" = some (some (.builtin "object.__class__")))
  (hxi5_InvalidText : PySem.W.mroIn K C_InvalidText (.type "object") = some true)
  (hxf1_InvalidText : PySem.W.findIn K (.ref C_InvalidText) "__getattribute__" = some (some (.builtin "BaseException.__getattribute__")))
  (hxf2_InvalidText : PySem.W.findIn K (.ref C_InvalidText) "__getattr__" = some none)
  (hxf3_InvalidText : PySem.W.subIn K (.ref C_InvalidText) (.type "BaseException") = some true)
  (hxf4_InvalidText : PySem.W.hasDictIn K C_InvalidText = true)
  (hxf5_InvalidText : PySem.W.findIn K (.ref C_InvalidText) "word" = some none)
  (ha_Formula_held_parts : PySem.W.findIn K (.ref C_Formula) "held_parts" = some none)
  (ha_Reference_held_row : PySem.W.findIn K (.ref C_Reference) "held_row" = some none)
  (ha_Reference_held_column : PySem.W.findIn K (.ref C_Reference) "held_column" = some none)
  (ha_Reference_held_fixed_row : PySem.W.findIn K (.ref C_Reference) "held_fixed_row" = some none)
  (ha_Reference_held_fixed_column : PySem.W.findIn K (.ref C_Reference) "held_fixed_column" = some none)
  (hi1 : PySem.W.specialIn K (.builtin "object.__class__") "__get__" = some (some (.builtin "getset_descriptor.__get__")))
  (hi2 : PySem.W.takesIn K (.builtin "object.__class__") = some true)
  (hi3_Reference : PySem.W.findIn K (.ref C_Reference) "__class__" = some (some (.builtin "object.__class__")))
  (hi4_Reference : PySem.W.mroIn K C_Reference (.type "object") = some true)
  (hi3_Formula : PySem.W.findIn K (.ref C_Formula) "__class__" = some (some (.builtin "object.__class__")))
  (hi4_Formula : PySem.W.mroIn K C_Formula (.type "object") = some true)
  (hv1_C_InvalidFormula : PySem.W.isClsIn K C_InvalidFormula = true)
  (hv2_C_InvalidFormula : PySem.W.typeIn K (.ref C_InvalidFormula) = some (.type "type"))
  (hv1_C_InvalidNumber : PySem.W.isClsIn K C_InvalidNumber = true)
  (hv2_C_InvalidNumber : PySem.W.typeIn K (.ref C_InvalidNumber) = some (.type "type"))
  (hv1_C_InvalidReference : PySem.W.isClsIn K C_InvalidReference = true)
  (hv2_C_InvalidReference : PySem.W.typeIn K (.ref C_InvalidReference) = some (.type "type"))
  (hv1_C_InvalidWay : PySem.W.isClsIn K C_InvalidWay = true)
  (hv2_C_InvalidWay : PySem.W.typeIn K (.ref C_InvalidWay) = some (.type "type"))
  (hv1_C_Reference : PySem.W.isClsIn K C_Reference = true)
  (hv2_C_Reference : PySem.W.typeIn K (.ref C_Reference) = some (.type "type"))
  (hx_0 : PySem.W.subIn K (.ref C_InvalidText) (.ref C_InvalidFormula) = some false)
  (hy_0 : (Value.ref C_InvalidText == Value.ref C_InvalidFormula) = false)
  (hx_1 : PySem.W.subIn K (.ref C_InvalidText) (.ref C_InvalidNumber) = some false)
  (hy_1 : (Value.ref C_InvalidText == Value.ref C_InvalidNumber) = false)
  (hx_2 : PySem.W.subIn K (.ref C_InvalidText) (.ref C_InvalidReference) = some false)
  (hy_2 : (Value.ref C_InvalidText == Value.ref C_InvalidReference) = false)
  (hx_3 : PySem.W.subIn K (.ref C_InvalidText) (.ref C_InvalidWay) = some false)
  (hy_3 : (Value.ref C_InvalidText == Value.ref C_InvalidWay) = false)
  (hx_4 : PySem.W.subIn K (.ref C_InvalidText) (.type "ValueError") = some true)
  (hx_5 : PySem.W.subIn K (.type "NoneType") (.type "int") = some false)
  (hx_6 : PySem.W.subIn K (.type "NoneType") (.type "bool") = some false)
  (hx_7 : PySem.W.subIn K (.type "NoneType") (.ref C_Reference) = some false)
  (hx_8 : PySem.W.subIn K (.type "NoneType") (.type "list") = some false)
  (hx_9 : PySem.W.subIn K (.type "bool") (.type "int") = some true)
  (hx_10 : PySem.W.subIn K (.type "bool") (.type "bool") = some true)
  (hx_11 : PySem.W.subIn K (.type "bool") (.ref C_Reference) = some false)
  (hx_12 : PySem.W.subIn K (.type "bool") (.type "list") = some false)
  (hx_13 : PySem.W.subIn K (.type "int") (.type "int") = some true)
  (hx_14 : PySem.W.subIn K (.type "int") (.type "bool") = some false)
  (hx_15 : PySem.W.subIn K (.type "int") (.ref C_Reference) = some false)
  (hx_16 : PySem.W.subIn K (.type "int") (.type "list") = some false)
  (hx_17 : PySem.W.subIn K (.type "str") (.type "int") = some false)
  (hx_18 : PySem.W.subIn K (.type "str") (.type "bool") = some false)
  (hx_19 : PySem.W.subIn K (.type "str") (.ref C_Reference) = some false)
  (hx_20 : PySem.W.subIn K (.type "str") (.type "list") = some false)
  (hx_21 : PySem.W.subIn K (.type "tuple") (.type "int") = some false)
  (hx_22 : PySem.W.subIn K (.type "tuple") (.type "bool") = some false)
  (hx_23 : PySem.W.subIn K (.type "tuple") (.ref C_Reference) = some false)
  (hx_24 : PySem.W.subIn K (.type "tuple") (.type "list") = some false)
  (hx_25 : PySem.W.subIn K (.type "list") (.type "int") = some false)
  (hx_26 : PySem.W.subIn K (.type "list") (.type "bool") = some false)
  (hx_27 : PySem.W.subIn K (.type "list") (.ref C_Reference) = some false)
  (hx_28 : PySem.W.subIn K (.type "list") (.type "list") = some true)
  (hx_29 : PySem.W.subIn K (.type "dict") (.type "int") = some false)
  (hx_30 : PySem.W.subIn K (.type "dict") (.type "bool") = some false)
  (hx_31 : PySem.W.subIn K (.type "dict") (.ref C_Reference) = some false)
  (hx_32 : PySem.W.subIn K (.type "dict") (.type "list") = some false)
  (hx_33 : PySem.W.subIn K (.ref C_Reference) (.type "int") = some false)
  (hx_34 : PySem.W.subIn K (.ref C_Reference) (.type "bool") = some false)
  (hx_35 : PySem.W.subIn K (.ref C_Reference) (.ref C_Reference) = some true)
  (hx_36 : PySem.W.subIn K (.ref C_Reference) (.type "list") = some false)
  (hx_37 : PySem.W.subIn K (.ref C_Formula) (.type "int") = some false)
  (hx_38 : PySem.W.subIn K (.ref C_Formula) (.type "bool") = some false)
  (hx_39 : PySem.W.subIn K (.ref C_Formula) (.ref C_Reference) = some false)
  (hy_39 : (Value.ref C_Formula == Value.ref C_Reference) = false)
  (hx_40 : PySem.W.subIn K (.ref C_Formula) (.type "list") = some false)
  (hk1_Formula : PySem.W.plainGet K C_Formula Str.empty = true)
  (hk2_Formula : PySem.W.hasDictIn K C_Formula = true)
  (hk3_Formula : PySem.W.plainOver K C_Formula = true)
  (hk4_Formula : PySem.W.findIn K (.ref C_Formula) "__setattr__" = some (some (.builtin "object.__setattr__")))
  (hk1_Reference : PySem.W.plainGet K C_Reference Str.empty = true)
  (hk2_Reference : PySem.W.hasDictIn K C_Reference = true)
  (hk3_Reference : PySem.W.plainOver K C_Reference = true)
  (hk4_Reference : PySem.W.findIn K (.ref C_Reference) "__setattr__" = some (some (.builtin "object.__setattr__")))
  : ∃ (cm : Nat → Addr) (fd : FuncData), (∀ (s : Shared) (u : Value), BindsTo s fd ⟨[u], []⟩ [("_law_script", u)]) ∧ ∀ base : Heap, K.In base → base.Ns mainGlobals mg → FnB l.prog w K mg base cm 9 fa fd ["_law_script"] F_law := by
  have e := hfa.symm.trans (PySem.W.mg_of X G hf_law)
  cases e
  have k_Formula : Cls K C_Formula := ⟨hk1_Formula, hk2_Formula, hk3_Formula, hk4_Formula⟩
  have k_Reference : Cls K C_Reference := ⟨hk1_Reference, hk2_Reference, hk3_Reference, hk4_Reference⟩
  let T : Txt K mg := {
    cm := (fun c => ([C_Reference, C_Formula, C_CopyError, C_InvalidReference, C_InvalidFormula, C_InvalidWay, C_InvalidNumber, C_InvalidText] : List Addr).getD c fa)
    f_law_tape := f_law_tape
    d_law_tape := d_law_tape
    F_law_tape := hF_law_tape
    m_law_tape := PySem.W.mg_of X G hf_law_tape
    f_law_next := f_law_next
    d_law_next := d_law_next
    F_law_next := hF_law_next
    m_law_next := PySem.W.mg_of X G hf_law_next
    f_law_any := f_law_any
    d_law_any := d_law_any
    F_law_any := hF_law_any
    m_law_any := PySem.W.mg_of X G hf_law_any
    f_law_word := f_law_word
    d_law_word := d_law_word
    F_law_word := hF_law_word
    m_law_word := PySem.W.mg_of X G hf_law_word
    f_law_signs := f_law_signs
    d_law_signs := d_law_signs
    F_law_signs := hF_law_signs
    m_law_signs := PySem.W.mg_of X G hf_law_signs
    f_law_bent := f_law_bent
    d_law_bent := d_law_bent
    F_law_bent := hF_law_bent
    m_law_bent := PySem.W.mg_of X G hf_law_bent
    f_Formula_parts := f_Formula_parts
    d_Formula_parts := d_Formula_parts
    F_Formula_parts := hF_Formula_parts
    f_Reference_row := f_Reference_row
    d_Reference_row := d_Reference_row
    F_Reference_row := hF_Reference_row
    f_Reference_column := f_Reference_column
    d_Reference_column := d_Reference_column
    F_Reference_column := hF_Reference_column
    f_Reference_fixed_row := f_Reference_fixed_row
    d_Reference_fixed_row := d_Reference_fixed_row
    F_Reference_fixed_row := hF_Reference_fixed_row
    f_Reference_fixed_column := f_Reference_fixed_column
    d_Reference_fixed_column := d_Reference_fixed_column
    F_Reference_fixed_column := hF_Reference_fixed_column
    f_law_seen := f_law_seen
    d_law_seen := d_law_seen
    F_law_seen := hF_law_seen
    m_law_seen := PySem.W.mg_of X G hf_law_seen
    f_number_in := f_number_in
    d_number_in := d_number_in
    F_number_in := hF_number_in
    m_number_in := PySem.W.mg_of X G hf_number_in
    f_distance_in := f_distance_in
    d_distance_in := d_distance_in
    F_distance_in := hF_distance_in
    m_distance_in := PySem.W.mg_of X G hf_distance_in
    f_part_in := f_part_in
    d_part_in := d_part_in
    F_part_in := hF_part_in
    m_part_in := PySem.W.mg_of X G hf_part_in
    f_is_integer := f_is_integer
    d_is_integer := d_is_integer
    F_is_integer := hF_is_integer
    m_is_integer := PySem.W.mg_of X G hf_is_integer
    f_is_place := f_is_place
    d_is_place := d_is_place
    F_is_place := hF_is_place
    m_is_place := PySem.W.mg_of X G hf_is_place
    f_is_part := f_is_part
    d_is_part := d_is_part
    F_is_part := hF_is_part
    m_is_part := PySem.W.mg_of X G hf_is_part
    f_Reference___init := f_Reference___init
    d_Reference___init := d_Reference___init
    F_Reference___init := hF_Reference___init
    f_reference_in := f_reference_in
    d_reference_in := d_reference_in
    F_reference_in := hF_reference_in
    m_reference_in := PySem.W.mg_of X G hf_reference_in
    f_InvalidText___init := f_InvalidText___init
    d_InvalidText___init := d_InvalidText___init
    F_InvalidText___init := hF_InvalidText___init
    f_Formula___init := f_Formula___init
    d_Formula___init := d_Formula___init
    F_Formula___init := hF_Formula___init
    f_Formula_of := f_Formula_of
    d_Formula_of := d_Formula_of
    F_Formula_of := hF_Formula_of
    f_read_formula := f_read_formula
    d_read_formula := d_read_formula
    F_read_formula := hF_read_formula
    m_read_formula := PySem.W.mg_of X G hf_read_formula
    f_law_told := f_law_told
    d_law_told := d_law_told
    F_law_told := hF_law_told
    m_law_told := PySem.W.mg_of X G hf_law_told
    f_law_number := f_law_number
    d_law_number := d_law_number
    F_law_number := hF_law_number
    m_law_number := PySem.W.mg_of X G hf_law_number
    f_law_side := f_law_side
    d_law_side := d_law_side
    F_law_side := hF_law_side
    m_law_side := PySem.W.mg_of X G hf_law_side
    f_law_part_in := f_law_part_in
    d_law_part_in := d_law_part_in
    F_law_part_in := hF_law_part_in
    m_law_part_in := PySem.W.mg_of X G hf_law_part_in
    f_law_read := f_law_read
    d_law_read := d_law_read
    F_law_read := hF_law_read
    m_law_read := PySem.W.mg_of X G hf_law_read
    f_law := fa
    d_law := d_law
    F_law := hF_law
    m_law := PySem.W.mg_of X G hf_law
    n_range := PySem.W.mg_none_of X G hn_range
    n_max := PySem.W.mg_none_of X G hn_max
    n_min := PySem.W.mg_none_of X G hn_min
    n_len := PySem.W.mg_none_of X G hn_len
    n_abs := PySem.W.mg_none_of X G hn_abs
    n_str := PySem.W.mg_none_of X G hn_str
    n_repr := PySem.W.mg_none_of X G hn_repr
    g_InvalidText := PySem.W.mg_of X G hC_InvalidText
    q_Formula_parts := q_Formula_parts
    p_Formula_parts := ⟨hq1_Formula_parts, hq2_Formula_parts, hq3_Formula_parts, ⟨_, hq4_Formula_parts⟩⟩
    c_Formula := k_Formula
    n_list := PySem.W.mg_none_of X G hn_list
    q_Reference_row := q_Reference_row
    p_Reference_row := ⟨hq1_Reference_row, hq2_Reference_row, hq3_Reference_row, ⟨_, hq4_Reference_row⟩⟩
    c_Reference := k_Reference
    q_Reference_column := q_Reference_column
    p_Reference_column := ⟨hq1_Reference_column, hq2_Reference_column, hq3_Reference_column, ⟨_, hq4_Reference_column⟩⟩
    q_Reference_fixed_row := q_Reference_fixed_row
    p_Reference_fixed_row := ⟨hq1_Reference_fixed_row, hq2_Reference_fixed_row, hq3_Reference_fixed_row, ⟨_, hq4_Reference_fixed_row⟩⟩
    q_Reference_fixed_column := q_Reference_fixed_column
    p_Reference_fixed_column := ⟨hq1_Reference_fixed_column, hq2_Reference_fixed_column, hq3_Reference_fixed_column, ⟨_, hq4_Reference_fixed_column⟩⟩
    n_enumerate := PySem.W.mg_none_of X G hn_enumerate
    g_MOST_DIGITS := ⟨_, PySem.W.mg_of X G hg_MOST_DIGITS⟩
    n_all := PySem.W.mg_none_of X G hn_all
    g_DIGITS := ⟨_, PySem.W.mg_of X G hg_DIGITS⟩
    n_int := PySem.W.mg_none_of X G hn_int
    g_Reference := PySem.W.mg_of X G hC_Reference
    mk_Reference := ⟨hma_Reference, hf_Reference___init, hmi_Reference, hmk_Reference⟩
    n_isinstance := PySem.W.mg_none_of X G hn_isinstance
    n_bool := PySem.W.mg_none_of X G hn_bool
    g_GREATEST := ⟨_, PySem.W.mg_of X G hg_GREATEST⟩
    g_MOST_PARTS_texts := ⟨_, PySem.W.mg_of X G hg_MOST_PARTS_texts⟩
    g_BROKEN := ⟨_, PySem.W.mg_of X G hg_BROKEN⟩
    g_CopyError := PySem.W.mg_of X G hC_CopyError
    g_Formula := PySem.W.mg_of X G hC_Formula
    mk_Formula := ⟨hma_Formula, hf_Formula___init, hmi_Formula, hmk_Formula⟩
    g_MOST_PARTS_formulas := ⟨_, PySem.W.mg_of X G hg_MOST_PARTS_formulas⟩
    n_tuple := PySem.W.mg_none_of X G hn_tuple
    g_InvalidFormula := PySem.W.mg_of X G hC_InvalidFormula
    g_InvalidNumber := PySem.W.mg_of X G hC_InvalidNumber
    g_InvalidReference := PySem.W.mg_of X G hC_InvalidReference
    g_InvalidWay := PySem.W.mg_of X G hC_InvalidWay
    n_ValueError := PySem.W.mg_none_of X G hn_ValueError
    xs_InvalidText := (xsub_all (cm := fun c => ([C_Reference, C_Formula, C_CopyError, C_InvalidReference, C_InvalidFormula, C_InvalidWay, C_InvalidNumber, C_InvalidText] : List Addr).getD c fa) (L := xsubL_InvalidText) (C := .ref C_InvalidText) (all_cons (exm_mk hxo3_InvalidText hxs1_InvalidText hxo4_InvalidText hxs_InvalidText_InvalidText) (fun q hq => nomatch hq)))
    xw_InvalidText := (oexC_of hxw1_InvalidText hxw2_InvalidText hxo3_InvalidText hxo4_InvalidText hxo2_InvalidText)
    xi_InvalidText := hf_InvalidText___init
    xt_InvalidText := hxw3_InvalidText
    xn_InvalidText := hxw4_InvalidText
    cr_CopyError := ⟨hcr1_CopyError, hcr2_CopyError⟩
    xb_CopyError := hxb_CopyError
    cr_Formula := ⟨hcr1_Formula, hcr2_Formula⟩
    z_Formula_of := z_Formula_of
    cm_Formula_of := ⟨hz1_Formula_of, ⟨_, hz2_Formula_of⟩, hz3_Formula_of⟩
    tx := (fun c hc => (show ∀ c ∈ ([7] : List Nat), XIs K (((fun c => ([C_Reference, C_Formula, C_CopyError, C_InvalidReference, C_InvalidFormula, C_InvalidWay, C_InvalidNumber, C_InvalidText] : List Addr).getD c fa) : Nat → Addr) c) from (all_cons (p := fun c => XIs K (((fun c => ([C_Reference, C_Formula, C_CopyError, C_InvalidReference, C_InvalidFormula, C_InvalidWay, C_InvalidNumber, C_InvalidText] : List Addr).getD c fa) : Nat → Addr) c)) (x := 7) ⟨hxi1_InvalidText, hxi2_InvalidText, ⟨_, hxi3_InvalidText⟩, hxo3_InvalidText, hxi4_InvalidText, hxi_hn, hxi_ht, hxi5_InvalidText⟩ (fun q hq => nomatch hq))) c (by simpa [okx] using hc))
    xf_InvalidText := (subOf_true (L := xsubL_InvalidText) (P := fun k => XfC K ((fun c => ([C_Reference, C_Formula, C_CopyError, C_InvalidReference, C_InvalidFormula, C_InvalidWay, C_InvalidNumber, C_InvalidText] : List Addr).getD c fa) k) ∧ PySem.W.findIn K (.ref ((fun c => ([C_Reference, C_Formula, C_CopyError, C_InvalidReference, C_InvalidFormula, C_InvalidWay, C_InvalidNumber, C_InvalidText] : List Addr).getD c fa) k)) "word" = some none) (all_cons (fun _ => ⟨⟨hxf1_InvalidText, hxf2_InvalidText, hxf3_InvalidText, hxf4_InvalidText⟩, hxf5_InvalidText⟩) (fun q hq => nomatch hq)))
    a_held_parts := (all_cons (p := fun c => Cls K (([C_Reference, C_Formula, C_CopyError, C_InvalidReference, C_InvalidFormula, C_InvalidWay, C_InvalidNumber, C_InvalidText] : List Addr).getD c fa) ∧ NoAttr K (([C_Reference, C_Formula, C_CopyError, C_InvalidReference, C_InvalidFormula, C_InvalidWay, C_InvalidNumber, C_InvalidText] : List Addr).getD c fa) "held_parts") ⟨k_Formula, ha_Formula_held_parts⟩ (fun c hc => nomatch hc))
    a_held_row := (all_cons (p := fun c => Cls K (([C_Reference, C_Formula, C_CopyError, C_InvalidReference, C_InvalidFormula, C_InvalidWay, C_InvalidNumber, C_InvalidText] : List Addr).getD c fa) ∧ NoAttr K (([C_Reference, C_Formula, C_CopyError, C_InvalidReference, C_InvalidFormula, C_InvalidWay, C_InvalidNumber, C_InvalidText] : List Addr).getD c fa) "held_row") ⟨k_Reference, ha_Reference_held_row⟩ (fun c hc => nomatch hc))
    a_held_column := (all_cons (p := fun c => Cls K (([C_Reference, C_Formula, C_CopyError, C_InvalidReference, C_InvalidFormula, C_InvalidWay, C_InvalidNumber, C_InvalidText] : List Addr).getD c fa) ∧ NoAttr K (([C_Reference, C_Formula, C_CopyError, C_InvalidReference, C_InvalidFormula, C_InvalidWay, C_InvalidNumber, C_InvalidText] : List Addr).getD c fa) "held_column") ⟨k_Reference, ha_Reference_held_column⟩ (fun c hc => nomatch hc))
    a_held_fixed_row := (all_cons (p := fun c => Cls K (([C_Reference, C_Formula, C_CopyError, C_InvalidReference, C_InvalidFormula, C_InvalidWay, C_InvalidNumber, C_InvalidText] : List Addr).getD c fa) ∧ NoAttr K (([C_Reference, C_Formula, C_CopyError, C_InvalidReference, C_InvalidFormula, C_InvalidWay, C_InvalidNumber, C_InvalidText] : List Addr).getD c fa) "held_fixed_row") ⟨k_Reference, ha_Reference_held_fixed_row⟩ (fun c hc => nomatch hc))
    a_held_fixed_column := (all_cons (p := fun c => Cls K (([C_Reference, C_Formula, C_CopyError, C_InvalidReference, C_InvalidFormula, C_InvalidWay, C_InvalidNumber, C_InvalidText] : List Addr).getD c fa) ∧ NoAttr K (([C_Reference, C_Formula, C_CopyError, C_InvalidReference, C_InvalidFormula, C_InvalidWay, C_InvalidNumber, C_InvalidText] : List Addr).getD c fa) "held_fixed_column") ⟨k_Reference, ha_Reference_held_fixed_column⟩ (fun c hc => nomatch hc))
    tab := ⟨fun c hc => match c, hc with | 0, _ => ⟨k_Reference, hi3_Reference, hi1, hi2, hi4_Reference⟩ | 1, _ => ⟨k_Formula, hi3_Formula, hi1, hi2, hi4_Formula⟩ | n + 2, h => absurd h (by unfold nCls; omega), tab_ans (cm := fun c => ([C_Reference, C_Formula, C_CopyError, C_InvalidReference, C_InvalidFormula, C_InvalidWay, C_InvalidNumber, C_InvalidText] : List Addr).getD c fa) (all_cons (pvkit_cl (t := .ref C_InvalidText) (C := C_InvalidFormula) (r := false) hx_0 hv1_C_InvalidFormula hv2_C_InvalidFormula (fun z => absurd z (by rw [hy_0]; decide))) (all_cons (pvkit_cl (t := .ref C_InvalidText) (C := C_InvalidNumber) (r := false) hx_1 hv1_C_InvalidNumber hv2_C_InvalidNumber (fun z => absurd z (by rw [hy_1]; decide))) (all_cons (pvkit_cl (t := .ref C_InvalidText) (C := C_InvalidReference) (r := false) hx_2 hv1_C_InvalidReference hv2_C_InvalidReference (fun z => absurd z (by rw [hy_2]; decide))) (all_cons (pvkit_cl (t := .ref C_InvalidText) (C := C_InvalidWay) (r := false) hx_3 hv1_C_InvalidWay hv2_C_InvalidWay (fun z => absurd z (by rw [hy_3]; decide))) (all_cons (pvkit_ty (t := .ref C_InvalidText) (T := "ValueError") (r := true) hx_4 (by decide +kernel) (fun _ => rfl)) (all_cons (pvkit_ty (t := .type "NoneType") (T := "int") (r := false) hx_5 (by decide +kernel) (by decide +kernel)) (all_cons (pvkit_ty (t := .type "NoneType") (T := "bool") (r := false) hx_6 (by decide +kernel) (by decide +kernel)) (all_cons (pvkit_cl (t := .type "NoneType") (C := C_Reference) (r := false) hx_7 hv1_C_Reference hv2_C_Reference (fun z => nomatch z)) (all_cons (pvkit_ty (t := .type "NoneType") (T := "list") (r := false) hx_8 (by decide +kernel) (by decide +kernel)) (all_cons (pvkit_ty (t := .type "bool") (T := "int") (r := true) hx_9 (by decide +kernel) (fun _ => rfl)) (all_cons (pvkit_ty (t := .type "bool") (T := "bool") (r := true) hx_10 (by decide +kernel) (fun _ => rfl)) (all_cons (pvkit_cl (t := .type "bool") (C := C_Reference) (r := false) hx_11 hv1_C_Reference hv2_C_Reference (fun z => nomatch z)) (all_cons (pvkit_ty (t := .type "bool") (T := "list") (r := false) hx_12 (by decide +kernel) (by decide +kernel)) (all_cons (pvkit_ty (t := .type "int") (T := "int") (r := true) hx_13 (by decide +kernel) (fun _ => rfl)) (all_cons (pvkit_ty (t := .type "int") (T := "bool") (r := false) hx_14 (by decide +kernel) (by decide +kernel)) (all_cons (pvkit_cl (t := .type "int") (C := C_Reference) (r := false) hx_15 hv1_C_Reference hv2_C_Reference (fun z => nomatch z)) (all_cons (pvkit_ty (t := .type "int") (T := "list") (r := false) hx_16 (by decide +kernel) (by decide +kernel)) (all_cons (pvkit_ty (t := .type "str") (T := "int") (r := false) hx_17 (by decide +kernel) (by decide +kernel)) (all_cons (pvkit_ty (t := .type "str") (T := "bool") (r := false) hx_18 (by decide +kernel) (by decide +kernel)) (all_cons (pvkit_cl (t := .type "str") (C := C_Reference) (r := false) hx_19 hv1_C_Reference hv2_C_Reference (fun z => nomatch z)) (all_cons (pvkit_ty (t := .type "str") (T := "list") (r := false) hx_20 (by decide +kernel) (by decide +kernel)) (all_cons (pvkit_ty (t := .type "tuple") (T := "int") (r := false) hx_21 (by decide +kernel) (by decide +kernel)) (all_cons (pvkit_ty (t := .type "tuple") (T := "bool") (r := false) hx_22 (by decide +kernel) (by decide +kernel)) (all_cons (pvkit_cl (t := .type "tuple") (C := C_Reference) (r := false) hx_23 hv1_C_Reference hv2_C_Reference (fun z => nomatch z)) (all_cons (pvkit_ty (t := .type "tuple") (T := "list") (r := false) hx_24 (by decide +kernel) (by decide +kernel)) (all_cons (pvkit_ty (t := .type "list") (T := "int") (r := false) hx_25 (by decide +kernel) (by decide +kernel)) (all_cons (pvkit_ty (t := .type "list") (T := "bool") (r := false) hx_26 (by decide +kernel) (by decide +kernel)) (all_cons (pvkit_cl (t := .type "list") (C := C_Reference) (r := false) hx_27 hv1_C_Reference hv2_C_Reference (fun z => nomatch z)) (all_cons (pvkit_ty (t := .type "list") (T := "list") (r := true) hx_28 (by decide +kernel) (fun _ => rfl)) (all_cons (pvkit_ty (t := .type "dict") (T := "int") (r := false) hx_29 (by decide +kernel) (by decide +kernel)) (all_cons (pvkit_ty (t := .type "dict") (T := "bool") (r := false) hx_30 (by decide +kernel) (by decide +kernel)) (all_cons (pvkit_cl (t := .type "dict") (C := C_Reference) (r := false) hx_31 hv1_C_Reference hv2_C_Reference (fun z => nomatch z)) (all_cons (pvkit_ty (t := .type "dict") (T := "list") (r := false) hx_32 (by decide +kernel) (by decide +kernel)) (all_cons (pvkit_ty (t := .ref C_Reference) (T := "int") (r := false) hx_33 (by decide +kernel) (fun z => nomatch z)) (all_cons (pvkit_ty (t := .ref C_Reference) (T := "bool") (r := false) hx_34 (by decide +kernel) (fun z => nomatch z)) (all_cons (pvkit_cl (t := .ref C_Reference) (C := C_Reference) (r := true) hx_35 hv1_C_Reference hv2_C_Reference (fun _ => rfl)) (all_cons (pvkit_ty (t := .ref C_Reference) (T := "list") (r := false) hx_36 (by decide +kernel) (fun z => nomatch z)) (all_cons (pvkit_ty (t := .ref C_Formula) (T := "int") (r := false) hx_37 (by decide +kernel) (fun z => nomatch z)) (all_cons (pvkit_ty (t := .ref C_Formula) (T := "bool") (r := false) hx_38 (by decide +kernel) (fun z => nomatch z)) (all_cons (pvkit_cl (t := .ref C_Formula) (C := C_Reference) (r := false) hx_39 hv1_C_Reference hv2_C_Reference (fun z => absurd z (by rw [hy_39]; decide))) (all_cons (pvkit_ty (t := .ref C_Formula) (T := "list") (r := false) hx_40 (by decide +kernel) (fun z => nomatch z)) (fun q hq => nomatch hq))))))))))))))))))))))))))))))))))))))))))⟩
  }
  exact ⟨T.cm, T.d_law, fun s v => FunD.bindsA (ps := ["_law_script"]) T.F_law (fun _ _ _ _ _ _ us hl => match us, hl with | [_], _ => rfl) s [v] rfl, fun base _ _ => ok_law T⟩
end Ck82
namespace PV
open PySem PySem.Spec PyProof.Rows L2
inductive Tg {α : Sort _} (a : α) : Type
  | mk
def Out.bnd {α β : Type} (r : Out α) (k : α → List Cell → Out β) (t : Tg k := .mk) : Out β := Out.bind r k
@[simp] theorem Out.bnd_ok {α β : Type} {a : α} {c : List Cell} {k : α → List Cell → Out β} {t : Tg k} : Out.bnd (.ok a c) k t = k a c := id rfl
@[simp] theorem Out.bnd_ex {α β : Type} {a : Xc} {c : List Cell} {k : α → List Cell → Out β} {t : Tg k} : Out.bnd (.ex a c) k t = .ex a c := id rfl
@[simp] theorem Out.bnd_no {α β : Type} {k : α → List Cell → Out β} {t : Tg k} : Out.bnd (.no : Out α) k t = .no := id rfl
def sOfL {α : Type} (r : Out α) (σ : Sd) (k : α → List Cell → Sr) (t : Tg k := .mk) : Sr := sOf r σ k
@[simp] theorem sOfL_ok {α : Type} {a : α} {c : List Cell} {σ : Sd} {k : α → List Cell → Sr} {t : Tg k} : sOfL (.ok a c) σ k t = k a c := id rfl
@[simp] theorem sOfL_ex {α : Type} {x : Xc} {c : List Cell} {σ : Sd} {k : α → List Cell → Sr} {t : Tg k} : sOfL (.ex x c) σ k t = .ex x σ c := id rfl
@[simp] theorem sOfL_no {α : Type} {σ : Sd} {k : α → List Cell → Sr} {t : Tg k} : sOfL (.no : Out α) σ k t = .no := id rfl
def Sr.bind (r : Sr) (g : Fs) (t : Tg g := .mk) : Sr := match r with
  | .nx σ' c => g σ' c
  | r => r
@[simp] theorem Sr.bind_nx {σ : Sd} {c : List Cell} {g : Fs} : Sr.bind (.nx σ c) g = g σ c := id rfl
@[simp] theorem Sr.bind_rt {d : D} {c : List Cell} {g : Fs} : Sr.bind (.rt d c) g = .rt d c := id rfl
@[simp] theorem Sr.bind_bk {σ : Sd} {c : List Cell} {g : Fs} : Sr.bind (.bk σ c) g = .bk σ c := id rfl
@[simp] theorem Sr.bind_ct {σ : Sd} {c : List Cell} {g : Fs} : Sr.bind (.ct σ c) g = .ct σ c := id rfl
@[simp] theorem Sr.bind_ex {x : Xc} {σ : Sd} {c : List Cell} {g : Fs} : Sr.bind (.ex x σ c) g = .ex x σ c := id rfl
@[simp ↓] theorem sSeq_e {f g : Fs} {σ : Sd} {cs : List Cell} : sSeq f g σ cs = Sr.bind (f σ cs) g := by
  unfold sSeq Sr.bind
  cases f σ cs <;> rfl
@[simp] theorem sNx_e {σ : Sd} {cs : List Cell} : sNx σ cs = .nx σ cs := id rfl
@[simp ↓] theorem sRet_e {f : Fe} {σ : Sd} {cs : List Cell} : sRet f σ cs = sOfL (f σ cs) σ fun d c => .rt d c := id rfl
@[simp ↓] theorem sEx_e {f : Fe} {σ : Sd} {cs : List Cell} : sEx f σ cs = sOfL (f σ cs) σ fun _ c => .nx σ c := id rfl
@[simp ↓] theorem sIf_e {t : Ft} {f g : Fs} {σ : Sd} {cs : List Cell} : sIf t f g σ cs = sOfL (t σ cs) σ fun b c => if b = true then f σ c else g σ c := id rfl
@[simp ↓] theorem sAsgN_e {f : Fe} {i : Nat} {σ : Sd} {cs : List Cell} : sAsg f (gN i) σ cs = sOfL (f σ cs) σ fun d c => .nx (σ.set i (some d)) c := id rfl
def sG (o : Option Sd) (c : List Cell) : Sr := match o with
  | some σ' => .nx σ' c
  | none => .no
@[simp] theorem sG_s {σ : Sd} {c : List Cell} : sG (some σ) c = .nx σ c := id rfl
@[simp ↓] theorem sAsgT_e {f : Fe} {n : Nat} {g : Gts} {σ : Sd} {cs : List Cell} : sAsg f (gT n g) σ cs = sOfL (f σ cs) σ fun d c => sG (gT n g d σ c) c := id rfl
@[simp] theorem gT_tup {n : Nat} {g : Gts} {xs : List D} {σ : Sd} {c : List Cell} : gT n g (.tup xs) σ c = if xs.length = n then g xs σ c else none := id rfl
@[simp] theorem gsCons_e {g : Gt} {h : Gts} {d : D} {r : List D} {σ : Sd} {c : List Cell} : gsCons g h (d :: r) σ c = (g d σ c).bind fun σ1 => h r σ1 c := id rfl
@[simp] theorem gsNil_e {σ : Sd} {c : List Cell} : gsNil [] σ c = some σ := id rfl
@[simp] theorem gN_e {i : Nat} {d : D} {σ : Sd} {c : List Cell} : gN i d σ c = some (σ.set i (some d)) := id rfl
def parF (i j : Nat) (σ : Sd) (ds : List D) (c : List Cell) : Sr := match ds with
  | [a, b] => .nx ((σ.set i (some a)).set j (some b)) c
  | _ => .no
@[simp] theorem parF_e {i j : Nat} {σ : Sd} {a b : D} {c : List Cell} : parF i j σ [a, b] c = .nx ((σ.set i (some a)).set j (some b)) c := id rfl
@[simp ↓] theorem sPar_e {i j : Nat} {f : Fa} {σ : Sd} {cs : List Cell} : sPar i j f σ cs = sOfL (f σ cs) σ fun ds c => parF i j σ ds c := id rfl
def parF3 (i j k : Nat) (σ : Sd) (ds : List D) (c : List Cell) : Sr := match ds with
  | [a, b, d] => .nx (((σ.set i (some a)).set j (some b)).set k (some d)) c
  | _ => .no
@[simp] theorem parF3_e {i j k : Nat} {σ : Sd} {a b d : D} {c : List Cell} : parF3 i j k σ [a, b, d] c = .nx (((σ.set i (some a)).set j (some b)).set k (some d)) c := id rfl
@[simp ↓] theorem sPar3_e {i j k : Nat} {f : Fa} {σ : Sd} {cs : List Cell} : sPar3 i j k f σ cs = sOfL (f σ cs) σ fun ds c => parF3 i j k σ ds c := id rfl
def sC (o : Option (List Cell)) (σ : Sd) : Sr := match o with
  | some c => .nx σ c
  | none => .no
@[simp] theorem sC_s {σ : Sd} {c : List Cell} : sC (some c) σ = .nx σ c := id rfl
@[simp ↓] theorem sSub_e {fe fo fi : Fe} {σ : Sd} {cs : List Cell} : sSub fe fo fi σ cs = sOfL (fe σ cs) σ fun v c1 => sOfL (fo σ c1) σ fun d c2 => sOfL (fi σ c2) σ fun i c3 => sC (setC d i v c3) σ := id rfl
@[simp ↓] theorem sFld_e {cl : List Nat} {f : Str} {fe fo : Fe} {σ : Sd} {cs : List Cell} : sFld cl f fe fo σ cs = sOfL (fe σ cs) σ fun v c1 => sOfL (fo σ c1) σ fun d c2 => sC (setF cl f d v c2) σ := id rfl
def frzF (i : Nat) (σ : Sd) (r : Rs D) : Sr := match r with
  | some (d', c) => .nx (σ.set i (some d')) c
  | none => .no
@[simp] theorem frzF_s {i : Nat} {σ : Sd} {d : D} {c : List Cell} : frzF i σ (some (d, c)) = .nx (σ.set i (some d)) c := id rfl
def atF (o : Option (Option D)) (k : D → Sr) (t : Tg k := .mk) : Sr := match o with
  | some (some d) => k d
  | _ => .no
@[simp] theorem atF_s {d : D} {k : D → Sr} {t : Tg k} : atF (some (some d)) k t = k d := id rfl
@[simp ↓] theorem sFrz_e {i : Nat} {σ : Sd} {cs : List Cell} : sFrz i σ cs = atF σ[i]? fun d => frzF i σ (frzD d cs) := by
  unfold sFrz atF
  rcases σ[i]? with _ | (_ | d) <;> rfl
@[simp ↓] theorem sFor_e {f : Fi} {g : Gt} {fb : Fs} {σ : Sd} {cs : List Cell} : sFor f g fb σ cs = sOfL (f σ cs) σ fun ds c => forL g fb ds σ c := id rfl
@[simp] theorem forL_nil {g : Gt} {fb : Fs} {σ : Sd} {c : List Cell} : forL g fb [] σ c = .nx σ c := id rfl
theorem forL_nx {g : Gt} {fb : Fs} {d : D} {ds : List D} {σ σ1 σ2 : Sd} {c c2 : List Cell} (h1 : g d σ c = some σ1) (h2 : fb σ1 c = .nx σ2 c2) : forL g fb (d :: ds) σ c = forL g fb ds σ2 c2 := by
  show (match g d σ c with
    | none => Sr.no
    | some σ1 => match fb σ1 c with
      | .nx σ2 c2 => forL g fb ds σ2 c2
      | .ct σ2 c2 => forL g fb ds σ2 c2
      | .bk σ2 c2 => .nx σ2 c2
      | r => r) = _
  rw [h1]
  show (match fb σ1 c with
      | .nx σ2 c2 => forL g fb ds σ2 c2
      | .ct σ2 c2 => forL g fb ds σ2 c2
      | .bk σ2 c2 => .nx σ2 c2
      | r => r) = _
  rw [h2]
theorem forL_inv {g : Gt} {fb : Fs} (I : Nat → Sd → List Cell → Prop) (ds : List D)
    (step : ∀ i d σ c, ds[i]? = some d → I i σ c → ∃ σ1 σ2 c2, g d σ c = some σ1 ∧ fb σ1 c = .nx σ2 c2 ∧ I (i + 1) σ2 c2) :
    ∀ (k : Nat) (σ : Sd) (c : List Cell), k ≤ ds.length → I k σ c → ∃ σ' c', forL g fb (ds.drop k) σ c = .nx σ' c' ∧ I ds.length σ' c' := by
  intro k
  induction hn : ds.length - k generalizing k with
  | zero =>
    intro σ c hk hI
    have : k = ds.length := by omega
    subst this
    rw [List.drop_length]
    exact ⟨σ, c, rfl, hI⟩
  | succ n ih =>
    intro σ c hk hI
    have hlt : k < ds.length := by omega
    rw [List.drop_eq_getElem_cons hlt]
    obtain ⟨σ1, σ2, c2, e1, e2, hI2⟩ := step k ds[k] σ c (List.getElem?_eq_getElem hlt) hI
    rw [forL_nx e1 e2]
    exact ih (k + 1) (by omega) σ2 c2 (by omega) hI2
theorem forL_all {g : Gt} {fb : Fs} (I : Nat → Sd → List Cell → Prop) {ds : List D} {σ : Sd} {c : List Cell} (h0 : I 0 σ c)
    (step : ∀ i d σ c, ds[i]? = some d → I i σ c → ∃ σ1 σ2 c2, g d σ c = some σ1 ∧ fb σ1 c = .nx σ2 c2 ∧ I (i + 1) σ2 c2) :
    ∃ σ' c', forL g fb ds σ c = .nx σ' c' ∧ I ds.length σ' c' := by
  have := forL_inv I ds step 0 σ c (Nat.zero_le _) h0
  rwa [List.drop_zero] at this
def fV2 (o : Option (Option D)) (cs : List Cell) : Out D := match o with
  | some (some d) => .ok d cs
  | _ => .no
@[simp] theorem fV2_s {d : D} {cs : List Cell} : fV2 (some (some d)) cs = .ok d cs := id rfl
@[simp ↓] theorem fVar_e {i : Nat} {σ : Sd} {cs : List Cell} : fVar i σ cs = fV2 σ[i]? cs := id rfl
@[simp ↓] theorem fC_e {d : D} {σ : Sd} {cs : List Cell} : fC d σ cs = .ok d cs := id rfl
@[simp ↓] theorem fOp2_e {g : G2} {fa fb : Fe} {σ : Sd} {cs : List Cell} : fOp2 g fa fb σ cs = (fa σ cs).bnd fun x c1 => (fb σ c1).bnd fun y c2 => up (g x y c2) := id rfl
@[simp ↓] theorem fOp1_e {g : D → List Cell → Rs D} {fa : Fe} {σ : Sd} {cs : List Cell} : fOp1 g fa σ cs = (fa σ cs).bnd fun d c => up (g d c) := id rfl
def boolO (d : D) (c : List Cell) : Out Bool := match d with
  | .bl b => .ok b c
  | _ => .no
@[simp] theorem boolO_b {b : Bool} {c : List Cell} : boolO (.bl b) c = .ok b c := id rfl
@[simp ↓] theorem fTst_e {f : Fe} {σ : Sd} {cs : List Cell} : fTst f σ cs = (f σ cs).bnd fun d c => boolO d c := id rfl
def chO (d : D) (c : List Cell) (k : List Cell → Out D) (t : Tg k := .mk) : Out D := match d with
  | .bl true => k c
  | .bl false => .ok (.bl false) c
  | _ => .no
@[simp] theorem chO_t {c : List Cell} {k : List Cell → Out D} {t : Tg k} : chO (.bl true) c k t = k c := id rfl
@[simp] theorem chO_f {c : List Cell} {k : List Cell → Out D} {t : Tg k} : chO (.bl false) c k t = .ok (.bl false) c := id rfl
@[simp ↓] theorem fChain_e {g g' : G2} {fa fb fc : Fe} {σ : Sd} {cs : List Cell} : fChain g g' fa fb fc σ cs = (fa σ cs).bnd fun x c1 => (fb σ c1).bnd fun y c2 => (up (g x y c2)).bnd fun z c3 => chO z c3 fun c3 => (fc σ c3).bnd fun w c4 => up (g' y w c4) := by
  unfold fChain
  show Out.bind _ _ = Out.bind _ _
  refine congrArg _ (funext fun x => funext fun c1 => ?_)
  show Out.bind _ _ = Out.bind _ _
  refine congrArg _ (funext fun y => funext fun c2 => ?_)
  show Out.bind _ _ = Out.bind _ _
  refine congrArg _ (funext fun z => funext fun c3 => ?_)
  unfold chO
  cases z <;> rfl
def truO (o : Option Bool) (c : List Cell) : Out Bool := match o with
  | some k => .ok k c
  | none => .no
@[simp] theorem truO_s {k : Bool} {c : List Cell} : truO (some k) c = .ok k c := id rfl
@[simp ↓] theorem fTru_e {f : Fe} {σ : Sd} {cs : List Cell} : fTru f σ cs = (f σ cs).bnd fun d c => truO (dTru c d) c := id rfl
@[simp] theorem dTru_b {c : List Cell} {b : Bool} : dTru c (.bl b) = some b := id rfl
@[simp] theorem dTru_i {c : List Cell} {b : Int} : dTru c (.int b) = some (b != 0) := id rfl
@[simp] theorem dTru_n {c : List Cell} : dTru c .non = some false := id rfl
@[simp] theorem dTru_l {c : List Cell} {xs : List D} : dTru c (.lst xs) = some (!xs.isEmpty) := id rfl
@[simp] theorem dTru_t {c : List Cell} {xs : List D} : dTru c (.tup xs) = some (!xs.isEmpty) := id rfl
@[simp ↓] theorem fAnd_e {s t : Ft} {σ : Sd} {cs : List Cell} : fAnd s t σ cs = (s σ cs).bnd fun c c1 => if c = true then t σ c1 else .ok false c1 := id rfl
@[simp ↓] theorem fOr_e {s t : Ft} {σ : Sd} {cs : List Cell} : fOr s t σ cs = (s σ cs).bnd fun c c1 => if c = true then .ok true c1 else t σ c1 := id rfl
@[simp ↓] theorem fNot_e {s : Ft} {σ : Sd} {cs : List Cell} : fNot s σ cs = (s σ cs).bnd fun c c1 => Out.ok (!c) c1 := id rfl
@[simp ↓] theorem fAndV_e {fa fb : Fe} {σ : Sd} {cs : List Cell} : fAndV fa fb σ cs = (fa σ cs).bnd fun d c1 => chO d c1 (fb σ) := by
  unfold fAndV
  show Out.bind _ _ = Out.bind _ _
  refine congrArg _ (funext fun z => funext fun c3 => ?_)
  unfold chO
  cases z <;> rfl
def orO (d : D) (c : List Cell) (k : List Cell → Out D) (t : Tg k := .mk) : Out D := match d with
  | .bl false => k c
  | .bl true => .ok (.bl true) c
  | _ => .no
@[simp] theorem orO_f {c : List Cell} {k : List Cell → Out D} {t : Tg k} : orO (.bl false) c k t = k c := id rfl
@[simp] theorem orO_t {c : List Cell} {k : List Cell → Out D} {t : Tg k} : orO (.bl true) c k t = .ok (.bl true) c := id rfl
@[simp ↓] theorem fOrV_e {fa fb : Fe} {σ : Sd} {cs : List Cell} : fOrV fa fb σ cs = (fa σ cs).bnd fun d c1 => orO d c1 (fb σ) := by
  unfold fOrV
  show Out.bind _ _ = Out.bind _ _
  refine congrArg _ (funext fun z => funext fun c3 => ?_)
  unfold orO
  cases z <;> rfl
def notO (d : D) (c : List Cell) : Out D := match d with
  | .bl k => .ok (.bl (!k)) c
  | _ => .no
@[simp] theorem notO_b {b : Bool} {c : List Cell} : notO (.bl b) c = .ok (.bl (!b)) c := id rfl
@[simp ↓] theorem fNotV_e {fa : Fe} {σ : Sd} {cs : List Cell} : fNotV fa σ cs = (fa σ cs).bnd fun d c1 => notO d c1 := id rfl
@[simp ↓] theorem fIfE_e {t : Ft} {fa fb : Fe} {σ : Sd} {cs : List Cell} : fIfE t fa fb σ cs = (t σ cs).bnd fun c c1 => if c = true then fa σ c1 else fb σ c1 := id rfl
@[simp ↓] theorem fFrz_e {f : Fe} {σ : Sd} {cs : List Cell} : fFrz f σ cs = (f σ cs).bnd fun d c => up (frzD d c) := id rfl
@[simp] theorem aNil_e {σ : Sd} {cs : List Cell} : aNil σ cs = .ok [] cs := id rfl
@[simp ↓] theorem aCons_e {f : Fe} {g : Fa} {σ : Sd} {cs : List Cell} : aCons f g σ cs = (f σ cs).bnd fun d c1 => (g σ c1).bnd fun ds c2 => Out.ok (d :: ds) c2 := id rfl
@[simp ↓] theorem fTup_e {g : Fa} {σ : Sd} {cs : List Cell} : fTup g σ cs = (g σ cs).bnd fun ds c => if ds.length ≤ sizeLine then .ok (.tup ds) c else .no := id rfl
@[simp ↓] theorem fLst_e {fz : Bool} {g : Fa} {σ : Sd} {cs : List Cell} : fLst fz g σ cs = (g σ cs).bnd fun ds c => if ds.length ≤ sizeLine then up (mkL fz ds c) else .no := id rfl
@[simp ↓] theorem fCB_e {g : GC} {fa : Fa} {σ : Sd} {cs : List Cell} : fCB g fa σ cs = (fa σ cs).bnd fun d c => up (g d c) := id rfl
@[simp ↓] theorem fSl_e {fz : Bool} {f : Fe} {lo hi : Fo} {σ : Sd} {cs : List Cell} : fSl fz f lo hi σ cs = (f σ cs).bnd fun x c1 => (lo σ c1).bnd fun l c2 => (hi σ c2).bnd fun u c3 => up (dSl fz x l u c3) := id rfl
@[simp] theorem oNone_e {σ : Sd} {cs : List Cell} : oNone σ cs = .ok none cs := id rfl
def oI (d : D) (c : List Cell) : Out (Option Int) := match d with
  | .int i => .ok (some i) c
  | _ => .no
@[simp] theorem oI_i {i : Int} {c : List Cell} : oI (.int i) c = .ok (some i) c := id rfl
@[simp ↓] theorem oSome_e {f : Fe} {σ : Sd} {cs : List Cell} : oSome f σ cs = (f σ cs).bnd fun d c => oI d c := id rfl
@[simp ↓] theorem fCall_e {F : Fk} {ga gk : Fa} {σ : Sd} {cs : List Cell} : fCall F ga gk σ cs = (ga σ cs).bnd fun ds c1 => (gk σ c1).bnd fun es c2 => F ds es c2 := id rfl
@[simp ↓] theorem fnK_e {n m l : Nat} {F : List D → List Cell → Out D} {g : List D → List D → List D} {ds es : List D} {cs : List Cell} : fnK n m l F g ds es cs = if ds.length = n ∧ (g ds es).length = l then F (g ds es) cs else .no := id rfl
def mkO (fz : Bool) (i : Nat) (d : D) (c1 : List Cell) : Out D := match d with
  | .non => if fz = true then up (frzD (.ref i) c1) else .ok (.ref i) c1
  | _ => .no
@[simp] theorem mkO_t {i : Nat} {c : List Cell} : mkO true i .non c = up (frzD (.ref i) c) := id rfl
@[simp] theorem mkO_f {i : Nat} {c : List Cell} : mkO false i .non c = .ok (.ref i) c := id rfl
theorem mkK_e {c : Nat} {fz : Bool} {F : Fk} {ds es : List D} {cs : List Cell} : mkK c fz F ds es cs = (F (.ref cs.length :: ds) es (cs ++ [.ins c []])).bnd fun d c1 => mkO fz cs.length d c1 := rfl
def fldO (cl : List Nat) (f : Str) (o : Option (Nat × List (Str × D))) (c : List Cell) : Out D := match o with
  | some (k, fs) => if cl.contains k = true then match fs.lookup f with
    | some v => .ok v c
    | none => .no
    else .no
  | none => .no
def lkO (o : Option D) (c : List Cell) : Out D := match o with
  | some v => .ok v c
  | none => .no
@[simp] theorem lkO_s {d : D} {c : List Cell} : lkO (some d) c = .ok d c := id rfl
@[simp] theorem fldO_s {cl : List Nat} {f : Str} {k : Nat} {fs : List (Str × D)} {c : List Cell} : fldO cl f (some (k, fs)) c = if cl.contains k = true then lkO (fs.lookup f) c else .no := id rfl
@[simp ↓] theorem fFld_e {cl : List Nat} {f : Str} {fo : Fe} {σ : Sd} {cs : List Cell} : fFld cl f fo σ cs = (fo σ cs).bnd fun d c1 => fldO cl f (insOf c1 d) c1 := id rfl
@[simp] theorem insOf_i {cs : List Cell} {c : Nat} {fs : List (Str × D)} : insOf cs (.ins c fs) = some (c, fs) := id rfl
def prO (c : Nat) (F : List D → List Cell → Out D) (d : D) (o : Option (Nat × List (Str × D))) (c1 : List Cell) : Out D := match o with
  | some (c', _) => if c' = c then noX (F [d] c1) else .no
  | none => .no
@[simp] theorem prO_s {c k : Nat} {F : List D → List Cell → Out D} {d : D} {fs : List (Str × D)} {c1 : List Cell} : prO c F d (some (k, fs)) c1 = if k = c then noX (F [d] c1) else .no := id rfl
@[simp ↓] theorem fProp_e {c : Nat} {F : List D → List Cell → Out D} {fo : Fe} {σ : Sd} {cs : List Cell} : fProp c F fo σ cs = (fo σ cs).bnd fun d c1 => prO c F d (insOf c1 d) c1 := id rfl
def meO (c : Nat) (m : Str) (o : Option (Nat × List (Str × D))) (k : Out D) (t : Tg k := .mk) : Out D := match o with
  | some (c', fs) => if c' = c ∧ fs.lookup m = none then k else .no
  | none => .no
@[simp] theorem meO_s {c c' : Nat} {m : Str} {fs : List (Str × D)} {k : Out D} {t : Tg k} : meO c m (some (c', fs)) k t = if c' = c ∧ fs.lookup m = none then k else .no := id rfl
@[simp ↓] theorem fMeth_e {c : Nat} {m : Str} {F : Fk} {fo : Fe} {ga gk : Fa} {σ : Sd} {cs : List Cell} : fMeth c m F fo ga gk σ cs = (fo σ cs).bnd fun d c1 => meO c m (insOf c1 d) ((ga σ c1).bnd fun ds c2 => (gk σ c2).bnd fun es c3 => F (d :: ds) es c3) := id rfl
def runO (r : Sr) : Out D := match r with
  | .nx _ c => .ok .non c
  | .rt d c => .ok d c
  | .ex x _ c => .ex x c
  | _ => .no
@[simp] theorem runO_nx {σ : Sd} {c : List Cell} : runO (.nx σ c) = .ok .non c := id rfl
@[simp] theorem runO_rt {d : D} {c : List Cell} : runO (.rt d c) = .ok d c := id rfl
@[simp] theorem runO_ex {x : Xc} {σ : Sd} {c : List Cell} : runO (.ex x σ c) = .ex x c := id rfl
theorem runDef_e {n N : Nat} {fb : Fs} {ds : List D} {cs : List Cell} : runDef n N fb ds cs = if ds.length = n then runO (fb (ds.map some ++ List.replicate (N - n) none) cs) else .no := by
  unfold runDef runO
  split
  · cases fb (ds.map some ++ List.replicate (N - n) none) cs <;> rfl
  · rfl
@[simp] theorem dAdd_i {fz : Bool} {i j : Int} {cs : List Cell} : dAdd fz (.int i) (.int j) cs = some (.int (i + j), cs) := id rfl
@[simp] theorem dAdd_l {fz : Bool} {xs ys : List D} {cs : List Cell} : dAdd fz (.lst xs) (.lst ys) cs = if xs.length + ys.length ≤ sizeLine then mkL fz (xs ++ ys) cs else none := id rfl
@[simp] theorem dSub_i {i j : Int} {cs : List Cell} : dSub (.int i) (.int j) cs = some (.int (i - j), cs) := id rfl
@[simp] theorem dMul_i {fz : Bool} {i j : Int} {cs : List Cell} : dMul fz (.int i) (.int j) cs = if mulOk i j then some (.int (i * j), cs) else none := id rfl
@[simp] theorem dFdiv_i {i j : Int} {cs : List Cell} : dFdiv (.int i) (.int j) cs = if divOk j then some (.int (i / j), cs) else none := id rfl
@[simp] theorem dMod_i {i j : Int} {cs : List Cell} : dMod (.int i) (.int j) cs = if 0 < j then some (.int (i % j), cs) else none := id rfl
@[simp] theorem dPow_i {i j : Int} {cs : List Cell} : dPow (.int i) (.int j) cs = if powOk i j then some (.int (i ^ j.toNat), cs) else none := id rfl
@[simp] theorem dNeg_i {i : Int} {cs : List Cell} : dNeg (.int i) cs = some (.int (-i), cs) := id rfl
@[simp] theorem dCmp_i {p : Int → Int → Bool} {i j : Int} {cs : List Cell} : dCmp p (.int i) (.int j) cs = some (.bl (p i j), cs) := id rfl
@[simp] theorem dAbs_i {i : Int} {cs : List Cell} : dAbs [.int i] cs = some (.int (if i < 0 then -i else i), cs) := id rfl
@[simp] theorem dMax_i {i j : Int} {cs : List Cell} : dMax [.int i, .int j] cs = some (.int (if j > i then j else i), cs) := id rfl
@[simp] theorem dMin_i {i j : Int} {cs : List Cell} : dMin [.int i, .int j] cs = some (.int (if j < i then j else i), cs) := id rfl
@[simp] theorem dEq_i {n : Bool} {i j : Int} {cs : List Cell} : dEq n (.int i) (.int j) cs = some (.bl (if n then !decide (i = j) else decide (i = j)), cs) := by
  have h1 : SeqAt.shaped (PyData.int i) = true := rfl
  have h2 : SeqAt.shaped (PyData.int j) = true := rfl
  show (if SeqAt.shaped (PyData.int i) = true ∧ SeqAt.shaped (PyData.int j) = true then some (D.bl (if n then !PyData.eqv (.int i) (.int j) else PyData.eqv (.int i) (.int j)), cs) else none) = _
  rw [if_pos ⟨h1, h2⟩]
  have : PyData.eqv (.int i) (.int j) = decide (i = j) := by
    simp only [PyData.eqv]
    by_cases h : i = j <;> simp [h]
  rw [this]
def cAt (cs : List Cell) (i : Nat) : Option Cell := cs[i]?
def clO (i : Nat) (o : Option Cell) : Option (Nat × List D) := match o with
  | some (.lst xs) => some (i, xs)
  | _ => none
@[simp] theorem clO_s {i : Nat} {xs : List D} : clO i (some (.lst xs)) = some (i, xs) := id rfl
@[simp] theorem cellL_e {i : Nat} {cs : List Cell} : cellL (.ref i) cs = clO i (cAt cs i) := by
  rcases h : cs[i]? with _ | (_ | _ | _) <;> simp only [cellL, clO, cAt, h]
def lmO (o : Option (Nat × List D)) (k : Out D) (t : Tg k := .mk) : Out D := match o with
  | some _ => k
  | none => .no
@[simp] theorem lmO_s {p : Nat × List D} {k : Out D} {t : Tg k} : lmO (some p) k t = k := id rfl
@[simp ↓] theorem fLm_e {g : GM} {fo : Fe} {fa : Fa} {σ : Sd} {cs : List Cell} : fLm g fo fa σ cs = (fo σ cs).bnd fun d c1 => lmO (cellL d c1) ((fa σ c1).bnd fun as c2 => up (g d as c2)) := by
  unfold fLm
  show Out.bind _ _ = Out.bind _ _
  refine congrArg _ (funext fun d => funext fun c => ?_)
  unfold lmO
  cases cellL d c <;> rfl
def apO (v : D) (o : Option (Nat × List D)) (cs : List Cell) : Rs D := match o with
  | some (i, xs) => if xs.length < sizeLine then some (.non, cs.set i (.lst (xs ++ [v]))) else none
  | none => none
@[simp] theorem apO_s {v : D} {i : Nat} {xs : List D} {cs : List Cell} : apO v (some (i, xs)) cs = if xs.length < sizeLine then some (.non, cs.set i (.lst (xs ++ [v]))) else none := id rfl
@[simp] theorem mAppend_e {d v : D} {cs : List Cell} : mAppend d [v] cs = apO v (cellL d cs) cs := by
  unfold mAppend apO
  rcases cellL d cs with _ | ⟨i, xs⟩ <;> rfl
def fzO (i : Nat) (o : Option Cell) (cs : List Cell) : Rs D := match o with
  | some (.lst xs) => some (.lst xs, cs.set i .dead)
  | some (.ins c fs) => some (.ins c fs, cs.set i .dead)
  | _ => none
@[simp] theorem fzO_l {i : Nat} {xs : List D} {cs : List Cell} : fzO i (some (.lst xs)) cs = some (.lst xs, cs.set i .dead) := id rfl
@[simp] theorem fzO_i {i c : Nat} {fs : List (Str × D)} {cs : List Cell} : fzO i (some (.ins c fs)) cs = some (.ins c fs, cs.set i .dead) := id rfl
@[simp] theorem frzD_e {i : Nat} {cs : List Cell} : frzD (.ref i) cs = fzO i (cAt cs i) cs := by
  rcases h : cs[i]? with _ | (_ | _ | _) <;> simp only [frzD, fzO, cAt, h]
def sqO (o : Option Cell) : Option (List D) := match o with
  | some (.lst xs) => some xs
  | _ => none
@[simp] theorem sqO_l {xs : List D} : sqO (some (.lst xs)) = some xs := id rfl
@[simp] theorem seqOf_r {i : Nat} {cs : List Cell} : seqOf cs (.ref i) = sqO (cAt cs i) := by
  rcases h : cs[i]? with _ | (_ | _ | _) <;> simp only [seqOf, sqO, cAt, h]
@[simp] theorem lstOf_r {i : Nat} {cs : List Cell} : lstOf cs (.ref i) = sqO (cAt cs i) := by
  rcases h : cs[i]? with _ | (_ | _ | _) <;> simp only [lstOf, sqO, cAt, h]
@[simp] theorem rdL_r {i : Nat} {cs : List Cell} : rdL cs (.ref i) = sqO (cAt cs i) := by
  rcases h : cs[i]? with _ | (_ | _ | _) <;> simp only [rdL, sqO, cAt, h]
def ixO (k : Int) (o : Option (List D)) (cs : List Cell) : Rs D := match o with
  | some xs => (atI xs k).map fun d => (d, cs)
  | none => none
@[simp] theorem ixO_s {k : Int} {xs : List D} {cs : List Cell} : ixO k (some xs) cs = (atI xs k).map fun d => (d, cs) := id rfl
@[simp] theorem dIx_r {i : Nat} {k : Int} {cs : List Cell} : dIx (.ref i) (.int k) cs = ixO k (sqO (cAt cs i)) cs := by
  rcases h : cs[i]? with _ | (_ | _ | _) <;> simp only [dIx, seqOf, ixO, sqO, cAt, h]
@[simp] theorem dIx_l {k : Int} {cs : List Cell} {xs : List D} : dIx (.lst xs) (.int k) cs = (atI xs k).map fun d => (d, cs) := id rfl
@[simp] theorem dIx_t {k : Int} {cs : List Cell} {xs : List D} : dIx (.tup xs) (.int k) cs = (atI xs k).map fun d => (d, cs) := id rfl
@[simp] theorem dIx_a {k : Int} {cs : List Cell} {xs : List D} : dIx (.arg xs) (.int k) cs = (atI xs k).map fun d => (d, cs) := id rfl
def scO (i : Nat) (k : Int) (v : D) (o : Option Cell) (cs : List Cell) : Option (List Cell) := match o with
  | some (.lst xs) => (ixN xs.length k).map fun j => cs.set i (.lst (xs.set j v))
  | _ => none
@[simp] theorem scO_s {i : Nat} {k : Int} {v : D} {xs : List D} {cs : List Cell} : scO i k v (some (.lst xs)) cs = (ixN xs.length k).map fun j => cs.set i (.lst (xs.set j v)) := id rfl
@[simp] theorem setC_r {i : Nat} {k : Int} {v : D} {cs : List Cell} : setC (.ref i) (.int k) v cs = scO i k v (cAt cs i) cs := by
  rcases h : cs[i]? with _ | (xs | _ | _)
  · simp only [setC, scO, cAt, h]
  · simp only [setC, scO, cAt, h]
    cases ixN xs.length k <;> rfl
  · simp only [setC, scO, cAt, h]
  · simp only [setC, scO, cAt, h]
def isO (o : Option Cell) : Option (Nat × List (Str × D)) := match o with
  | some (.ins c fs) => some (c, fs)
  | _ => none
@[simp] theorem isO_s {c : Nat} {fs : List (Str × D)} : isO (some (.ins c fs)) = some (c, fs) := id rfl
@[simp] theorem insOf_r {i : Nat} {cs : List Cell} : insOf cs (.ref i) = isO (cAt cs i) := by
  rcases h : cs[i]? with _ | (_ | _ | _) <;> simp only [insOf, isO, cAt, h]
def sfO (cl : List Nat) (f : Str) (v : D) (i : Nat) (o : Option Cell) (cs : List Cell) : Option (List Cell) := match o with
  | some (.ins c fs) => if cl.contains c = true ∧ fs.length < 1000 then some (cs.set i (.ins c (putD f v fs))) else none
  | _ => none
@[simp] theorem sfO_s {cl : List Nat} {f : Str} {v : D} {i c : Nat} {fs : List (Str × D)} {cs : List Cell} : sfO cl f v i (some (.ins c fs)) cs = if cl.contains c = true ∧ fs.length < 1000 then some (cs.set i (.ins c (putD f v fs))) else none := id rfl
@[simp] theorem setF_r {cl : List Nat} {f : Str} {v : D} {i : Nat} {cs : List Cell} : setF cl f (.ref i) v cs = sfO cl f v i (cAt cs i) cs := by
  rcases h : cs[i]? with _ | (_ | _ | _) <;> simp only [setF, sfO, cAt, h]
@[simp] theorem cAt_end {cs : List Cell} {x : Cell} : cAt (cs ++ [x]) cs.length = some x := by
  unfold cAt
  rw [List.getElem?_append_right (Nat.le_refl _), Nat.sub_self]; rfl
@[simp] theorem set_end {cs : List Cell} {x y : Cell} : (cs ++ [x]).set cs.length y = cs ++ [y] := by
  rw [List.set_append_right _ _ (Nat.le_refl _), Nat.sub_self]; rfl
end PV
namespace PV
open PySem PySem.Spec PyProof.Rows L2
structure Hs where
  cs : List Cell
  i : Nat
  hi : i < cs.length
def hp (S : Hs) (x : Cell) (t : List Cell) : List Cell := S.cs.set S.i x ++ t
@[simp] theorem hp_len (S : Hs) (x : Cell) (t : List Cell) : (hp S x t).length = S.cs.length + t.length := by simp [hp]
@[simp] theorem hp_at (S : Hs) (x : Cell) (t : List Cell) : cAt (hp S x t) S.i = some x := by
  unfold hp cAt
  rw [List.getElem?_append_left (by rw [List.length_set]; exact S.hi), List.getElem?_set_self S.hi]
@[simp] theorem hp_at_t (S : Hs) (x : Cell) (t : List Cell) (k : Nat) : cAt (hp S x t) (S.cs.length + k) = t[k]? := by
  unfold hp cAt
  rw [List.getElem?_append_right (by rw [List.length_set]; omega), List.length_set]
  congr 1
  omega
@[simp] theorem hp_at_0 (S : Hs) (x : Cell) (t : List Cell) : cAt (hp S x t) S.cs.length = t[0]? := hp_at_t S x t 0
@[simp] theorem hp_set (S : Hs) (x y : Cell) (t : List Cell) : (hp S x t).set S.i y = hp S y t := by
  unfold hp
  rw [List.set_append_left _ _ (by rw [List.length_set]; exact S.hi), List.set_set]
@[simp] theorem hp_set_t (S : Hs) (x y : Cell) (t : List Cell) (k : Nat) : (hp S x t).set (S.cs.length + k) y = hp S x (t.set k y) := by
  unfold hp
  rw [List.set_append_right _ _ (by rw [List.length_set]; omega), List.length_set]
  congr 2
  omega
@[simp] theorem hp_set_0 (S : Hs) (x y : Cell) (t : List Cell) : (hp S x t).set S.cs.length y = hp S x (t.set 0 y) := hp_set_t S x y t 0
@[simp] theorem hp_app (S : Hs) (x : Cell) (t u : List Cell) : hp S x t ++ u = hp S x (t ++ u) := by
  unfold hp
  rw [List.append_assoc]
def jugOk (n : Nat) (J : Int × Int × Int) : Prop := 0 ≤ J.1 ∧ 0 ≤ J.2.1 ∧ J.2.1 < 10 ^ 42 ∧ 0 ≤ J.2.2 ∧ J.2.2 ≤ n
abbrev Jug (n : Nat) := { J : Int × Int × Int // jugOk n J }
def jc {n : Nat} (J : Jug n) : Cell := .lst [.int J.1.1, .int J.1.2.1, .int J.1.2.2]
def mix (b c : Int) : Int := ((b + 122949829 * c) ^ 3 % (10 ^ 41 + 37) + 86028199 * c) ^ 5 % (10 ^ 38 + 133) / 786433
def pv {n : Nat} (J : Jug n) (s : Int) : Int := if 0 < J.1.1 then J.1.1 % s else mix J.1.2.1 (J.1.2.2 + 1) % s
theorem log_lt {x : Int} {k : Nat} (hk : 0 < k) (h1 : -(2 ^ k) < x) (h2 : x < 2 ^ k) : x.natAbs.log2 < k := by
  by_cases z : x.natAbs = 0
  · rw [z]; exact hk
  · rw [Nat.log2_lt z]
    have : ((x.natAbs : Nat) : Int) < ((2 ^ k : Nat) : Int) := by
      rw [Int.natCast_pow]
      show ((x.natAbs : Nat) : Int) < (2 : Int) ^ k
      omega
    exact_mod_cast this
theorem log_mono {x : Int} {k m : Nat} (h : x.natAbs.log2 < k) (l : k ≤ m) : x.natAbs.log2 < m := Nat.lt_of_lt_of_le h l
theorem atI_nat {α : Type} {xs : List α} {k : Nat} {x : α} (h : xs[k]? = some x) : atI xs (k : Int) = some x := by
  have hl := (List.getElem?_eq_some_iff.mp h).1
  unfold atI ixN
  rw [if_pos (by omega), if_pos (by omega)]
  show xs[(k : Int).toNat]? = _
  rw [Int.toNat_natCast]
  exact h
@[simp] theorem atI_0 {α : Type} {x : α} {r : List α} : atI (x :: r) 0 = some x := atI_nat (k := 0) rfl
@[simp] theorem atI_1 {α : Type} {x0 x : α} {r : List α} : atI (x0 :: x :: r) 1 = some x := atI_nat (k := 1) rfl
@[simp] theorem atI_2 {α : Type} {x0 x1 x : α} {r : List α} : atI (x0 :: x1 :: x :: r) 2 = some x := atI_nat (k := 2) rfl
@[simp] theorem atI_3 {α : Type} {x0 x1 x2 x : α} {r : List α} : atI (x0 :: x1 :: x2 :: x :: r) 3 = some x := atI_nat (k := 3) rfl
@[simp] theorem atI_4 {α : Type} {x0 x1 x2 x3 x : α} {r : List α} : atI (x0 :: x1 :: x2 :: x3 :: x :: r) 4 = some x := atI_nat (k := 4) rfl
theorem mulL {i j : Int} (h0 : 0 ≤ i) (h : i < 2 ^ 64) : mulOk i j := Or.inr (Or.inl ⟨by omega, h⟩)
@[simp] theorem dLen_a {xs : List D} {cs : List Cell} : dLen [.arg xs] cs = some (.int xs.length, cs) := id rfl
@[simp] theorem dLen_l {xs : List D} {cs : List Cell} : dLen [.lst xs] cs = some (.int xs.length, cs) := id rfl
@[simp] theorem dLen_t {xs : List D} {cs : List Cell} : dLen [.tup xs] cs = some (.int xs.length, cs) := id rfl
end PV
namespace PV
open PySem PySem.Spec PyProof.Rows L2
mutual
def wgt : PyData → Nat
  | .none => 4
  | .bool _ => 5
  | .int _ => 1921
  | .list xs => wgts xs + 2
  | .tuple xs => wgts xs + 3
  | _ => 2 ^ 30
def wgts : List PyData → Nat
  | [] => 0
  | x :: xs => wgt x + 2 + wgts xs
end
mutual
def noTxt : PyData → Bool
  | .none | .bool _ | .int _ => true
  | .list xs | .tuple xs => noTxts xs
  | _ => false
def noTxts : List PyData → Bool
  | [] => true
  | x :: xs => noTxt x && noTxts xs
end
theorem textFrom_up : ∀ (ts : List Str) (k : Nat) (acc : Str), (textFrom k acc ts).length ≤ acc.length + piled ts
  | [], k, acc => by show acc.length ≤ acc.length + 0; omega
  | t :: r, k, acc => by
    have ih := textFrom_up r (k + 1) (acc ++ (if k > 0 then ", " else "" : String) ++ t)
    have e : (acc ++ (if k > 0 then ", " else "" : String) ++ t).length = acc.length + (if k > 0 then 2 else 0) + t.length := by
      rw [strLen_append, strLen_append]
      split <;> rfl
    rw [e] at ih
    show (textFrom (k + 1) _ r).length ≤ _
    rw [piled_cons]
    have : (if k > 0 then 2 else 0 : Nat) ≤ 2 := by split <;> omega
    omega
theorem listText_up (ts : List Str) : (listText ts).length ≤ piled ts + 2 := by
  unfold listText
  rw [strLen_append]
  have h := textFrom_up ts 0 "["
  have e1 : ((("[" : String) : Str)).length = 1 := rfl
  have e2 : ((("]" : String) : Str)).length = 1 := rfl
  rw [e1] at h
  rw [e2]
  omega
theorem tupleText_up (ts : List Str) : (tupleText ts).length ≤ piled ts + 3 := by
  unfold tupleText
  rw [strLen_append, strLen_append]
  have e1 : ((("(" : String) : Str)).length = 1 := rfl
  have e3 : (((if ts.length == 1 then ",)" else ")" : String) : Str)).length ≤ 2 := by split <;> decide
  rw [e1]
  by_cases h : ts = []
  · subst h
    have : (Str.join ", " []).length = 0 := rfl
    rw [this]
    omega
  · have := join_length_add ts h
    omega
mutual
theorem shown_up : ∀ p : PyData, noTxt p = true → p.showable = true → p.shown.length ≤ wgt p
  | .none, _, _ => by
    have : (PyData.shown .none).length = 4 := by simp only [PyData.shown]; rfl
    rw [this]; simp [wgt]
  | .bool b, _, _ => by
    cases b
    · have : (PyData.shown (.bool false)).length = 5 := by simp only [PyData.shown]; rfl
      rw [this]; simp [wgt]
    · have : (PyData.shown (.bool true)).length = 4 := by simp only [PyData.shown]; rfl
      rw [this]; simp [wgt]
  | .int i, _, h => by
    have h' : i.natAbs.log2 < 1920 := by simpa [PyData.showable] using h
    have := int_text_len_1921 h'
    simp only [PyData.shown, wgt]
    exact this
  | .list xs, h1, h2 => by
    have h := shown_ups xs (by simpa [noTxt] using h1) (by simpa [PyData.showable] using h2)
    simp only [PyData.shown, wgt]
    exact Nat.le_trans (listText_up _) (by omega)
  | .tuple xs, h1, h2 => by
    have h := shown_ups xs (by simpa [noTxt] using h1) (by simpa [PyData.showable] using h2)
    simp only [PyData.shown, wgt]
    exact Nat.le_trans (tupleText_up _) (by omega)
  | .str _, h, _ => by simp [noTxt] at h
  | .dict _, h, _ => by simp [noTxt] at h
theorem shown_ups : ∀ ps : List PyData, noTxts ps = true → PyData.showableAll ps = true → piled (PyData.shownAll ps) ≤ wgts ps
  | [], _, _ => by simp [PyData.shownAll, piled]
  | p :: ps, h1, h2 => by
    have a1 : noTxt p = true ∧ noTxts ps = true := by simpa [noTxts] using h1
    have a2 : p.showable = true ∧ PyData.showableAll ps = true := by simpa [PyData.showableAll] using h2
    have i1 := shown_up p a1.1 a2.1
    have i2 := shown_ups ps a1.2 a2.2
    simp only [PyData.shownAll, wgts]
    rw [piled_cons]
    omega
end
mutual
theorem noTxt_dict : ∀ p : PyData, noTxt p = true → p.hasDict = false
  | .none, _ => by simp only [PyData.hasDict]
  | .bool b, _ => by simp only [PyData.hasDict]
  | .int i, _ => by simp only [PyData.hasDict]
  | .list xs, h => by simp only [PyData.hasDict]; exact noTxts_dict xs (by simpa [noTxt] using h)
  | .tuple xs, h => by simp only [PyData.hasDict]; exact noTxts_dict xs (by simpa [noTxt] using h)
  | .str _, h => by simp [noTxt] at h
  | .dict _, h => by simp [noTxt] at h
theorem noTxts_dict : ∀ p : List PyData, noTxts p = true → PyData.hasDictAll p = false
  | [], _ => by simp only [PyData.hasDictAll]
  | x :: xs, h => by
    have a1 : noTxt x = true ∧ noTxts xs = true := by simpa [noTxts] using h
    simp only [PyData.hasDictAll, noTxt_dict x a1.1, noTxts_dict xs a1.2, Bool.or_self]
end
def repO (p : Option PyData) (cs : List Cell) : Rs D := match p with
  | some p => if rpOk p = true ∧ p.showable = true ∧ p.hasDict = false ∧ p.depth ≤ 100 ∧ p.shown.length ≤ sizeLine then some (.str p.shown, cs) else none
  | none => none
@[simp] theorem dRepr_l {xs : List D} {cs : List Cell} : dRepr [.lst xs] cs = repO ((toP0s xs).map .list) cs := by
  show repO (toP cs (.lst xs)) cs = _
  simp only [toP, toP0]
@[simp] theorem dRepr_t {xs : List D} {cs : List Cell} : dRepr [.tup xs] cs = repO ((toP0s xs).map .tuple) cs := by
  show repO (toP cs (.tup xs)) cs = _
  simp only [toP, toP0]
@[simp] theorem dRepr_i {i : Int} {cs : List Cell} : dRepr [.int i] cs = repO (some (.int i)) cs := by
  show repO (toP cs (.int i)) cs = _
  simp only [toP, toP0]
@[simp] theorem toP0s_nil : toP0s [] = some [] := by simp only [toP0s]
def consP (a : Option PyData) (b : Option (List PyData)) : Option (List PyData) := match a, b with
  | some p, some ps => some (p :: ps)
  | _, _ => none
@[simp] theorem consP_s {a : PyData} {b : List PyData} : consP (some a) (some b) = some (a :: b) := id rfl
@[simp] theorem toP0s_cons {d : D} {ds : List D} : toP0s (d :: ds) = consP (toP0 d) (toP0s ds) := by
  simp only [toP0s]
  cases toP0 d <;> cases toP0s ds <;> rfl
@[simp] theorem toP0_i {i : Int} : toP0 (.int i) = some (.int i) := by simp only [toP0]
@[simp] theorem toP0_b {i : Bool} : toP0 (.bl i) = some (.bool i) := by simp only [toP0]
@[simp] theorem toP0_n : toP0 .non = some .none := by simp only [toP0]
@[simp] theorem toP0_s {x : Str} : toP0 (.str x) = some (.str x) := by simp only [toP0]
@[simp] theorem toP0_t {xs : List D} : toP0 (.tup xs) = (toP0s xs).map .tuple := by simp only [toP0]
@[simp] theorem toP0_l {xs : List D} : toP0 (.lst xs) = (toP0s xs).map .list := by simp only [toP0]
def repOk (p : PyData) : Prop := noTxt p = true ∧ p.showable = true ∧ rpOk p = true ∧ p.depth ≤ 100 ∧ wgt p ≤ 2 ^ 24
theorem repO_s {p : PyData} {cs : List Cell} (h : repOk p) : repO (some p) cs = some (.str p.shown, cs) := by
  obtain ⟨h1, h2, h3, h4, h5⟩ := h
  exact if_pos ⟨h3, h2, noTxt_dict p h1, h4, Nat.le_trans (shown_up p h1 h2) h5⟩
def okS (x : Str) : Prop := ∀ k ∈ x.cps.toList, k < 0x110000
theorem okS_app {a b : Str} (h1 : okS a) (h2 : okS b) : okS (a ++ b) := fun k h => by
  rcases mem_cps_append.mp h with h | h
  · exact h1 k h
  · exact h2 k h
theorem okS_int (i : Int) : okS ((toString i : String) : Str) := fun k h => by
  by_cases q : k < 0x110000
  · exact q
  · exact absurd h (int_text_free' k ⟨by omega, by omega⟩ i)
theorem okS_from : ∀ (ts : List Str) (k : Nat) (acc : Str), okS acc → (∀ t ∈ ts, okS t) → okS (textFrom k acc ts)
  | [], k, acc, h, _ => h
  | t :: r, k, acc, h, ht => by
    refine okS_from r (k + 1) _ (okS_app (okS_app h ?_) (ht t (List.mem_cons_self ..))) fun u hu => ht u (List.mem_cons_of_mem _ hu)
    by_cases q : k > 0
    · rw [if_pos q]; unfold okS; decide +kernel
    · rw [if_neg q]; unfold okS; decide +kernel
theorem okS_join : ∀ ts : List Str, (∀ t ∈ ts, okS t) → okS (Str.join ", " ts)
  | [], _ => by unfold okS; decide +kernel
  | [x], h => h x (List.mem_cons_self ..)
  | x :: y :: r, h => by
    show okS (x ++ ", " ++ Str.join ", " (y :: r))
    exact okS_app (okS_app (h x (List.mem_cons_self ..)) (by unfold okS; decide +kernel)) (okS_join (y :: r) fun u hu => h u (List.mem_cons_of_mem _ hu))
theorem okS_list {ts : List Str} (h : ∀ t ∈ ts, okS t) : okS (listText ts) := okS_app (okS_from ts 0 "[" (by unfold okS; decide +kernel) h) (by unfold okS; decide +kernel)
theorem okS_tuple {ts : List Str} (h : ∀ t ∈ ts, okS t) : okS (tupleText ts) := by
  unfold tupleText
  refine okS_app (okS_app (by unfold okS; decide +kernel) (okS_join ts h)) ?_
  split <;> (unfold okS; decide +kernel)
mutual
theorem shown_okS : ∀ p : PyData, noTxt p = true → okS p.shown
  | .none, _ => by simp only [PyData.shown]; unfold okS; decide +kernel
  | .bool b, _ => by
    cases b <;> (simp only [PyData.shown]; unfold okS; decide +kernel)
  | .int i, _ => by simp only [PyData.shown]; exact okS_int i
  | .list xs, h => by simp only [PyData.shown]; exact okS_list (shown_okSs xs (by simpa [noTxt] using h))
  | .tuple xs, h => by simp only [PyData.shown]; exact okS_tuple (shown_okSs xs (by simpa [noTxt] using h))
  | .str _, h => by simp [noTxt] at h
  | .dict _, h => by simp [noTxt] at h
theorem shown_okSs : ∀ ps : List PyData, noTxts ps = true → ∀ t ∈ PyData.shownAll ps, okS t
  | [], _, t, h => by simp [PyData.shownAll] at h
  | p :: ps, h1, t, h => by
    have a1 : noTxt p = true ∧ noTxts ps = true := by simpa [noTxts] using h1
    simp only [PyData.shownAll] at h
    rcases List.mem_cons.mp h with e | h
    · rw [e]; exact shown_okS p a1.1
    · exact shown_okSs ps a1.2 t h
end
theorem strOk_of {x : Str} (h : okS x) : PyData.strOk x = true := by
  unfold PyData.strOk
  rw [Array.all_eq_true']
  intro k hk
  exact decide_eq_true (h k (by simpa using hk))
theorem dEq_s {n : Bool} {x y : Str} {cs : List Cell} (hx : okS x) (hy : okS y) : dEq n (.str x) (.str y) cs = some (.bl (if n then !decide (x = y) else decide (x = y)), cs) := by
  have h1 : SeqAt.shaped (PyData.str x) = true := by
    unfold SeqAt.shaped
    rw [show PyData.canLay0 (.str x) = true from by simp only [PyData.canLay0]; exact strOk_of hx]
    rfl
  have h2 : SeqAt.shaped (PyData.str y) = true := by
    unfold SeqAt.shaped
    rw [show PyData.canLay0 (.str y) = true from by simp only [PyData.canLay0]; exact strOk_of hy]
    rfl
  show (if SeqAt.shaped (PyData.str x) = true ∧ SeqAt.shaped (PyData.str y) = true then some (D.bl (if n then !PyData.eqv (.str x) (.str y) else PyData.eqv (.str x) (.str y)), cs) else none) = _
  rw [if_pos ⟨h1, h2⟩]
  have : PyData.eqv (.str x) (.str y) = decide (x = y) := by
    simp only [PyData.eqv]
    by_cases h : x = y <;> simp [h]
  rw [this]
def eqO (n : Bool) (p q : Option PyData) (cs : List Cell) : Rs D := match p, q with
  | some p, some q => if SeqAt.shaped p = true ∧ SeqAt.shaped q = true then some (.bl (if n then !PyData.eqv p q else PyData.eqv p q), cs) else none
  | _, _ => none
@[simp] theorem eqO_e {n : Bool} {p q : PyData} {cs : List Cell} : eqO n (some p) (some q) cs = if SeqAt.shaped p = true ∧ SeqAt.shaped q = true then some (.bl (if n then !PyData.eqv p q else PyData.eqv p q), cs) else none := id rfl
theorem eqO_s {n : Bool} {p q : PyData} {cs : List Cell} (h1 : SeqAt.shaped p = true) (h2 : SeqAt.shaped q = true) : eqO n (some p) (some q) cs = some (.bl (if n then !PyData.eqv p q else PyData.eqv p q), cs) := if_pos ⟨h1, h2⟩
@[simp] theorem dEq_l {n : Bool} {xs ys : List D} {cs : List Cell} : dEq n (.lst xs) (.lst ys) cs = eqO n ((toP0s xs).map .list) ((toP0s ys).map .list) cs := by
  show eqO n (toP cs (.lst xs)) (toP cs (.lst ys)) cs = _
  simp only [toP, toP0]
@[simp] theorem dEq_t {n : Bool} {xs ys : List D} {cs : List Cell} : dEq n (.tup xs) (.tup ys) cs = eqO n ((toP0s xs).map .tuple) ((toP0s ys).map .tuple) cs := by
  show eqO n (toP cs (.tup xs)) (toP cs (.tup ys)) cs = _
  simp only [toP, toP0]
@[simp ↓] theorem fLc_e {fz : Bool} {fi : Fi} {g : Gt} {ft : Ft} {fe : Fe} {vs : List Nat} {σ : Sd} {cs : List Cell} : fLc fz fi g ft fe vs σ cs = (fi σ cs).bnd fun ds c => lcE fz (lcM g ft fe (wipeD σ vs) ds c) := id rfl
@[simp] theorem lcE_ok {fz : Bool} {xs : List D} {c : List Cell} : lcE fz (.ok xs c) = if xs.length ≤ sizeLine then up (mkL fz xs c) else .no := id rfl
def lcS (o : Option Sd) (k : Sd → Out (List D)) (t : Tg k := .mk) : Out (List D) := match o with
  | none => .no
  | some σ => k σ
@[simp] theorem lcS_s {σ : Sd} {k : Sd → Out (List D)} {t : Tg k} : lcS (some σ) k t = k σ := id rfl
def lcT (o : Out Bool) (k j : List Cell → Out (List D)) (t : Tg k := .mk) (t' : Tg j := .mk) : Out (List D) := match o with
  | .ok true c => k c
  | .ok false c => j c
  | _ => .no
@[simp] theorem lcT_t {c : List Cell} {k j : List Cell → Out (List D)} {t : Tg k} {t' : Tg j} : lcT (.ok true c) k j t t' = k c := id rfl
@[simp] theorem lcT_f {c : List Cell} {k j : List Cell → Out (List D)} {t : Tg k} {t' : Tg j} : lcT (.ok false c) k j t t' = j c := id rfl
def lcV (o : Out D) (k : D → List Cell → Out (List D)) (t : Tg k := .mk) : Out (List D) := match o with
  | .ok y c => k y c
  | _ => .no
@[simp] theorem lcV_ok {y : D} {c : List Cell} {k : D → List Cell → Out (List D)} {t : Tg k} : lcV (.ok y c) k t = k y c := id rfl
@[simp] theorem lcM_nil {g : Gt} {ft : Ft} {fe : Fe} {σ : Sd} {c : List Cell} : lcM g ft fe σ [] c = .ok [] c := id rfl
@[simp] theorem lcM_cons {g : Gt} {ft : Ft} {fe : Fe} {σ : Sd} {d : D} {ds : List D} {c : List Cell} : lcM g ft fe σ (d :: ds) c = lcS (g d σ c) fun σ1 => lcT (ft σ1 c) (fun c1 => lcV (fe σ1 c1) fun y c2 => (lcM g ft fe σ ds c2).bnd fun ys c3 => .ok (y :: ys) c3) (fun c1 => lcM g ft fe σ ds c1) := by
  show (match g d σ c with
    | none => Out.no
    | some σ1 => match ft σ1 c with
      | .ok true c1 => match fe σ1 c1 with
        | .ok y c2 => (lcM g ft fe σ ds c2).bnd fun ys c3 => .ok (y :: ys) c3
        | _ => .no
      | .ok false c1 => lcM g ft fe σ ds c1
      | _ => .no) = _
  cases g d σ c with
  | none => rfl
  | some σ1 =>
    show (match ft σ1 c with
      | .ok true c1 => match fe σ1 c1 with
        | .ok y c2 => (lcM g ft fe σ ds c2).bnd fun ys c3 => .ok (y :: ys) c3
        | _ => Out.no
      | .ok false c1 => lcM g ft fe σ ds c1
      | _ => .no) = lcT _ _ _
    cases ft σ1 c with
    | ok b c1 => cases b with
      | false => rfl
      | true =>
        show (match fe σ1 c1 with
        | .ok y c2 => (lcM g ft fe σ ds c2).bnd fun ys c3 => .ok (y :: ys) c3
        | _ => Out.no) = lcV _ _
        cases fe σ1 c1 <;> rfl
    | ex x c1 => rfl
    | no => rfl
@[simp] theorem wipeD_nil {σ : Sd} : wipeD σ [] = σ := id rfl
@[simp] theorem wipeD_cons {σ : Sd} {v : Nat} {vs : List Nat} : wipeD σ (v :: vs) = (wipeD σ vs).set v none := id rfl
def walkO (d : D) (c : List Cell) : Out (List D) := match d with
  | .lst xs => .ok xs c
  | .arg xs => .ok xs c
  | _ => .no
@[simp] theorem walkO_l {xs : List D} {c : List Cell} : walkO (.lst xs) c = .ok xs c := id rfl
@[simp] theorem walkO_a {xs : List D} {c : List Cell} : walkO (.arg xs) c = .ok xs c := id rfl
@[simp ↓] theorem iSeq_e {f : Fe} {σ : Sd} {cs : List Cell} : iSeq f σ cs = (f σ cs).bnd fun d c => walkO d c := id rfl
def walkT (d : D) (c : List Cell) : Out (List D) := match d with
  | .tup xs => .ok xs c
  | .argT xs => .ok xs c
  | _ => .no
@[simp] theorem walkT_t {xs : List D} {c : List Cell} : walkT (.tup xs) c = .ok xs c := id rfl
@[simp ↓] theorem iTup_e {f : Fe} {σ : Sd} {cs : List Cell} : iTupD f σ cs = (f σ cs).bnd fun d c => walkT d c := id rfl
def rgO1 (ds : List D) (c : List Cell) : Out (List D) := match ds with
  | [.int j] => if -(2 ^ 62) ≤ j ∧ j < 2 ^ 62 then .ok (rngD 0 j.toNat) c else .no
  | _ => .no
@[simp] theorem rgO1_i {j : Int} {c : List Cell} : rgO1 [.int j] c = if -(2 ^ 62) ≤ j ∧ j < 2 ^ 62 then .ok (rngD 0 j.toNat) c else .no := id rfl
@[simp ↓] theorem iRg1_e {f : Fa} {σ : Sd} {cs : List Cell} : iRg1 f σ cs = (f σ cs).bnd fun ds c => rgO1 ds c := id rfl
theorem rngD_get {lo : Int} {n i : Nat} {d : D} (h : (rngD lo n)[i]? = some d) : i < n ∧ d = .int (lo + i) := by
  unfold rngD at h
  rw [List.getElem?_map] at h
  cases e : (List.range n)[i]? with
  | none => rw [e] at h; cases h
  | some j =>
    rw [e] at h
    have h1 := (List.getElem?_eq_some_iff.mp e).1
    have h2 := (List.getElem?_eq_some_iff.mp e).2
    rw [List.length_range] at h1
    rw [List.getElem_range] at h2
    subst h2
    cases h
    exact ⟨h1, rfl⟩
def sm (a : Int) : Prop := a.natAbs.log2 < 1920
end PV
namespace PV
open PySem PySem.Spec PyProof.Rows L2
def itx (i : Int) : Str := Str.ofString (toString i)
@[simp ↓] theorem fFmt_e {f : Fe} {σ : Sd} {cs : List Cell} : fFmt f σ cs = (f σ cs).bnd fun d c => fmtO d c := id rfl
@[simp] theorem fmtO_s {x : Str} {c : List Cell} : fmtO (.str x) c = if x.length ≤ sizeLine then .ok (.str x) c else .no := id rfl
@[simp] theorem fmtO_i {i : Int} {c : List Cell} : fmtO (.int i) c = if i.natAbs.log2 < 1920 then .ok (.str (itx i)) c else .no := id rfl
@[simp ↓] theorem joinF_nil {acc : Str} {σ : Sd} {cs : List Cell} : joinF [] acc σ cs = .ok (.str acc) cs := id rfl
def jnO (acc : Str) (d : D) (c : List Cell) (k : Str → List Cell → Out D) (t : Tg k := .mk) : Out D := match d with
  | .str y => if (acc ++ y).length ≤ sizeLine then k (acc ++ y) c else .no
  | _ => .no
@[simp] theorem jnO_s {acc y : Str} {c : List Cell} {k : Str → List Cell → Out D} {t : Tg k} : jnO acc (.str y) c k t = if (acc ++ y).length ≤ sizeLine then k (acc ++ y) c else .no := id rfl
@[simp ↓] theorem joinF_cons {f : Fe} {r : List Fe} {acc : Str} {σ : Sd} {cs : List Cell} : joinF (f :: r) acc σ cs = (f σ cs).bnd fun d c => jnO acc d c fun a c => joinF r a σ c := by
  show Out.bind _ _ = Out.bind _ _
  refine congrArg _ (funext fun d => funext fun c => ?_)
  cases d <;> rfl
@[simp] theorem dAdd_s {fz : Bool} {i j : Str} {cs : List Cell} : dAdd fz (.str i) (.str j) cs = if i.length + j.length ≤ sizeLine then some (.str (i ++ j), cs) else none := id rfl
def altO {α : Type} (a b : Option α) (t : Tg b := .mk) : Option α := match a with
  | some r => some r
  | none => b
@[simp] theorem altO_s {α : Type} {a : α} {b : Option α} {t : Tg b} : altO (some a) b t = some a := id rfl
@[simp] theorem altO_n {α : Type} {b : Option α} {t : Tg b} : altO none b t = b := id rfl
@[simp ↓] theorem gAlt_e {g g' : G2} {x y : D} {cs : List Cell} : gAlt g g' x y cs = altO (g x y cs) (g' x y cs) := by
  unfold gAlt altO
  cases g x y cs <;> rfl
@[simp] theorem dEq_ins {n : Bool} {c : Nat} {fs : List (Str × D)} {y : D} {cs : List Cell} : dEq n (.ins c fs) y cs = none := by
  unfold dEq toP
  cases toP cs y <;> rfl
@[simp ↓] theorem fDsp0_e {σ : Sd} {cs : List Cell} : fDsp0 σ cs = .ok (.dic []) cs := id rfl
def rfO (o : Option Cell) : Option PyData := match o with
  | some (.lst xs) => (toP0s xs).map .list
  | _ => none
@[simp] theorem rfO_s {xs : List D} : rfO (some (.lst xs)) = (toP0s xs).map .list := id rfl
theorem toP_r {cs : List Cell} {i : Nat} : toP cs (.ref i) = rfO (cAt cs i) := by
  rcases h : cs[i]? with _ | (_ | _ | _) <;> simp only [toP, rfO, cAt, h]
theorem toP_l {cs : List Cell} {xs : List D} : toP cs (.lst xs) = (toP0s xs).map .list := by simp only [toP, toP0]
@[simp] theorem dEq_rl {n : Bool} {i : Nat} {ys : List D} {cs : List Cell} : dEq n (.ref i) (.lst ys) cs = eqO n (rfO (cAt cs i)) ((toP0s ys).map .list) cs := by
  rw [← toP_r, ← toP_l (cs := cs)]; rfl
@[simp] theorem dEq_lr {n : Bool} {i : Nat} {ys : List D} {cs : List Cell} : dEq n (.lst ys) (.ref i) cs = eqO n ((toP0s ys).map .list) (rfO (cAt cs i)) cs := by
  rw [← toP_r, ← toP_l (cs := cs)]; rfl
@[simp] theorem dEq_rr {n : Bool} {i j : Nat} {cs : List Cell} : dEq n (.ref i) (.ref j) cs = eqO n (rfO (cAt cs i)) (rfO (cAt cs j)) cs := by
  rw [← toP_r, ← toP_r]; rfl
@[simp] theorem dList_l {fz : Bool} {xs : List D} {cs : List Cell} : dList fz [.lst xs] cs = mkL fz xs cs := id rfl
def dsO (o : Out D) (k : D → List Cell → Out D) (t : Tg k := .mk) : Out D := match o with
  | .ok y c => k y c
  | _ => .no
@[simp] theorem dsO_ok {y : D} {c : List Cell} {k : D → List Cell → Out D} {t : Tg k} : dsO (.ok y c) k t = k y c := id rfl
@[simp ↓] theorem fDsp1_e {k : Key} {f : Fe} {σ : Sd} {cs : List Cell} : fDsp [(k, f)] σ cs = dsO (f σ cs) fun d c => .ok (.dic [(k, d)]) c := by
  unfold fDsp dispF dsO
  cases f σ cs with
  | ok d c =>
    show (if ([(k, d)].map (·.1)).Nodup ∧ [(k, d)].length ≤ 15 then Out.ok (D.dic [(k, d)]) c else .no) = _
    rw [if_pos ⟨by simp, by simp⟩]
  | ex x c => rfl
  | no => rfl
end PV
namespace PV
open PySem PySem.Spec PyProof.Rows L2
section
variable {n : Nat}
end
end PV
namespace PV
open PySem PySem.Spec PyProof.Rows L2
def dd (k : Nat) : List Cell := List.replicate k .dead
@[simp] theorem dd_zero : dd 0 = [] := id rfl
@[simp ↓] theorem iSq_e {f : Fe} {σ : Sd} {cs : List Cell} : iSq f σ cs = (f σ cs).bnd fun d c => walk2 d c := id rfl
@[simp ↓] theorem iEn_e {f : Fa} {σ : Sd} {cs : List Cell} : iEn f σ cs = (f σ cs).bnd fun d c => enm2 d c := id rfl
section
variable {g : Gt} {ft : Ft} {fe : Fe} {σ : Sd}
theorem lcM_step {d : D} {ds : List D} {c c1 c2 : List Cell} {σ1 : Sd} {y : D} (h1 : g d σ c = some σ1) (h2 : ft σ1 c = .ok true c1) (h3 : fe σ1 c1 = .ok y c2) : lcM g ft fe σ (d :: ds) c = (lcM g ft fe σ ds c2).bnd fun ys c3 => .ok (y :: ys) c3 := by
  rw [lcM_cons, h1, lcS_s, h2, lcT_t, h3, lcV_ok]
theorem lcM_skip {d : D} {ds : List D} {c c1 : List Cell} {σ1 : Sd} (h1 : g d σ c = some σ1) (h2 : ft σ1 c = .ok false c1) : lcM g ft fe σ (d :: ds) c = lcM g ft fe σ ds c1 := by
  rw [lcM_cons, h1, lcS_s, h2, lcT_f]
theorem lcM_pur {α : Type} {c : List Cell} (f h : α → D) : ∀ (xs : List α), (∀ x ∈ xs, ∃ σ1, g (f x) σ c = some σ1 ∧ ft σ1 c = .ok true c ∧ fe σ1 c = .ok (h x) c) → lcM g ft fe σ (xs.map f) c = .ok (xs.map h) c
  | [], _ => by simp
  | x :: xs, H => by
    obtain ⟨σ1, e1, e2, e3⟩ := H x (List.mem_cons_self ..)
    rw [List.map_cons, lcM_step e1 e2 e3, lcM_pur f h xs fun y hy => H y (List.mem_cons_of_mem _ hy)]
    rfl
theorem lcM_fil {α : Type} {c : List Cell} (f h : α → D) (p : α → Bool) : ∀ (xs : List α), (∀ x ∈ xs, ∃ σ1, g (f x) σ c = some σ1 ∧ ft σ1 c = .ok (p x) c ∧ (p x = true → fe σ1 c = .ok (h x) c)) → lcM g ft fe σ (xs.map f) c = .ok ((xs.filter p).map h) c
  | [], _ => by simp
  | x :: xs, H => by
    obtain ⟨σ1, e1, e2, e3⟩ := H x (List.mem_cons_self ..)
    have ih := lcM_fil f h p xs fun y hy => H y (List.mem_cons_of_mem _ hy)
    cases q : p x with
    | true =>
      rw [q] at e2
      rw [List.map_cons, lcM_step e1 e2 (e3 q), ih, List.filter_cons_of_pos q]
      rfl
    | false =>
      rw [q] at e2
      rw [List.map_cons, lcM_skip e1 e2, ih, List.filter_cons_of_neg (by rw [q]; decide)]
end
@[simp] theorem lmO_n {k : Out D} {t : Tg k} : lmO none k t = .no := id rfl
@[simp] theorem dLen_ins {c : Nat} {fs : List (Str × D)} {cs : List Cell} : dLen [.ins c fs] cs = none := id rfl
def gcO (o : Option (D × List Cell)) (k : Option (D × List Cell)) (t : Tg k := .mk) : Rs D := match o with
  | some r => some r
  | none => k
@[simp] theorem gcO_s {r : D × List Cell} {k : Option (D × List Cell)} {t : Tg k} : gcO (some r) k t = some r := id rfl
@[simp] theorem gcO_n {k : Option (D × List Cell)} {t : Tg k} : gcO none k t = k := id rfl
@[simp ↓] theorem gcAlt_e {g g' : GC} {ds : List D} {cs : List Cell} : gcAlt g g' ds cs = gcO (g ds cs) (g' ds cs) := by
  unfold gcAlt gcO
  cases g ds cs <;> rfl
@[simp] theorem unK_e {n l : Nat} {F : List D → List Cell → Out D} {g : List D → List D → List D} {ds : List D} {cs : List Cell} : unK n l F g ds cs = fnK n 0 l F g ds [] cs := id rfl
def stO (F : Fk) (o : Option (List D)) (c : List Cell) : Out D := match o with
  | some xs => F xs [] c
  | none => .no
@[simp] theorem stO_s {F : Fk} {xs : List D} {c : List Cell} : stO F (some xs) c = F xs [] c := id rfl
theorem strO_e {F : Fk} {d : D} {c : List Cell} : strO F d c = stO F (seqOf c d) c := by
  unfold strO stO
  cases seqOf c d <;> rfl
@[simp] theorem seqOf_l {c : List Cell} {xs : List D} : seqOf c (.lst xs) = some xs := id rfl
@[simp] theorem seqOf_t {c : List Cell} {xs : List D} : seqOf c (.tup xs) = some xs := id rfl
@[simp ↓] theorem fStarG_e {F : Fk} {fe : Fe} {σ : Sd} {cs : List Cell} : fStarG F fe σ cs = (fe σ cs).bnd fun d c => stO F (seqOf c d) c := by
  unfold fStarG
  simp only [strO_e]
  rfl
def clsO (o : Option (Option D)) (c : Nat) (k : Out D) (t : Tg k := .mk) : Out D := match o with
  | some (some (.cl c')) => if c' = c then k else .no
  | _ => .no
@[simp] theorem clsO_s {c c' : Nat} {k : Out D} {t : Tg k} : clsO (some (some (.cl c'))) c k t = if c' = c then k else .no := id rfl
@[simp ↓] theorem fStarL_e {i c : Nat} {F : Fk} {fe : Fe} {σ : Sd} {cs : List Cell} : fStarL i c F fe σ cs = clsO σ[i]? c ((fe σ cs).bnd fun d c => stO F (seqOf c d) c) := by
  unfold fStarL
  rcases σ[i]? with _ | (_ | d)
  · rfl
  · rfl
  · cases d <;> first | rfl | (simp only [clsO_s, strO_e]; rfl)
def cmO (d : D) (c : Nat) (k : Out D) (t : Tg k := .mk) : Out D := match d with
  | .cl c' => if c' = c then k else .no
  | _ => .no
@[simp] theorem cmO_s {c c' : Nat} {k : Out D} {t : Tg k} : cmO (.cl c') c k t = if c' = c then k else .no := id rfl
@[simp ↓] theorem fCMeth_e {c : Nat} {F : List D → List Cell → Out D} {fo : Fe} {ga : Fa} {σ : Sd} {cs : List Cell} : fCMeth c F fo ga σ cs = (fo σ cs).bnd fun d c1 => cmO d c ((ga σ c1).bnd fun ds c2 => F (.cl c :: ds) c2) := by
  show (fo σ cs).bind _ = (fo σ cs).bind _
  congr 1
@[simp ↓] theorem fCMethK_e {c m : Nat} {F : Fk} {fo : Fe} {gk : Fa} {σ : Sd} {cs : List Cell} : fCMethK c m F fo gk σ cs = (fo σ cs).bnd fun d c1 => cmO d c ((gk σ c1).bnd fun es c2 => if es.length = m then F [.cl c] es c2 else .no) := by
  show (fo σ cs).bind _ = (fo σ cs).bind _
  congr 1
@[simp] theorem posK_e {F : List D → List Cell → Out D} {ds : List D} {cs : List Cell} : posK F ds [] cs = F ds cs := id rfl
theorem runVar_e {n N : Nat} {fb : Fs} {ds : List D} {cs : List Cell} (h : n ≤ ds.length ∧ ds.length ≤ sizeLine) : runVar n N fb ds cs = runDef (n + 1) N fb (ds.take n ++ [.tup (ds.drop n)]) cs := if_pos h
def fAltO (a b : Out D) (t : Tg b := .mk) : Out D := match a with
  | .no => b
  | r => r
@[simp] theorem fAltO_n {b : Out D} {t : Tg b} : fAltO .no b t = b := id rfl
@[simp] theorem fAltO_ok {b : Out D} {t : Tg b} {d : D} {c : List Cell} : fAltO (.ok d c) b t = .ok d c := id rfl
@[simp] theorem fAltO_ex {b : Out D} {t : Tg b} {d : Xc} {c : List Cell} : fAltO (.ex d c) b t = .ex d c := id rfl
@[simp ↓] theorem fAlt_e {f g : Fe} {σ : Sd} {cs : List Cell} : fAlt f g σ cs = fAltO (f σ cs) (g σ cs) := by
  unfold fAlt fAltO
  cases f σ cs <;> rfl
def rvO (o : Option (Nat × List D)) (cs : List Cell) : Rs D := match o with
  | some (i, xs) => some (.non, cs.set i (.lst xs.reverse))
  | none => none
@[simp] theorem rvO_s {i : Nat} {xs : List D} {cs : List Cell} : rvO (some (i, xs)) cs = some (.non, cs.set i (.lst xs.reverse)) := id rfl
@[simp] theorem mReverse_e {d : D} {cs : List Cell} : mReverse d [] cs = rvO (cellL d cs) cs := by
  unfold mReverse rvO
  rcases cellL d cs with _ | ⟨i, xs⟩ <;> rfl
def clrO (o : Option (Nat × List D)) (cs : List Cell) : Rs D := match o with
  | some (i, xs) => some (.non, cs.set i (.lst []))
  | none => none
@[simp] theorem clrO_s {i : Nat} {xs : List D} {cs : List Cell} : clrO (some (i, xs)) cs = some (.non, cs.set i (.lst [])) := id rfl
@[simp] theorem mClear_e {d : D} {cs : List Cell} : mClear d [] cs = clrO (cellL d cs) cs := by
  unfold mClear clrO
  rcases cellL d cs with _ | ⟨i, xs⟩ <;> rfl
@[simp] theorem dIs_n {neg : Bool} {x : D} {cs : List Cell} : dIs neg x .non cs = some (.bl (if neg then !isNon x else isNon x), cs) := by
  cases x <;> rfl
@[simp] theorem isNon_n : isNon .non = true := id rfl
@[simp] theorem isNon_t {xs : List D} : isNon (.tup xs) = false := id rfl
@[simp] theorem isNon_i {c : Nat} {fs : List (Str × D)} : isNon (.ins c fs) = false := id rfl
@[simp] theorem isNon_int {i : Int} : isNon (.int i) = false := id rfl
@[simp] theorem isNon_str {i : Str} : isNon (.str i) = false := id rfl
@[simp] theorem isNon_l {i : List D} : isNon (.lst i) = false := id rfl
@[simp] theorem dTuple_t {xs : List D} {cs : List Cell} : dTuple [.tup xs] cs = some (.tup xs, cs) := id rfl
@[simp] theorem dList_t {fz : Bool} {xs : List D} {cs : List Cell} : dList fz [.tup xs] cs = mkL fz xs cs := id rfl
@[simp] theorem gt_app {α : Type} {t u : List α} {k : Nat} : (t ++ u)[t.length + k]? = u[k]? := by
  rw [List.getElem?_append_right (Nat.le_add_right _ _)]; congr 1; omega
@[simp] theorem gt_app0 {α : Type} {t u : List α} : (t ++ u)[t.length]? = u[0]? := gt_app (k := 0)
@[simp] theorem set_app {α : Type} {t u : List α} {k : Nat} {x : α} : (t ++ u).set (t.length + k) x = t ++ u.set k x := by
  rw [List.set_append_right _ _ (Nat.le_add_right _ _)]; congr 2; omega
@[simp] theorem set_app0 {α : Type} {t u : List α} {x : α} : (t ++ u).set t.length x = t ++ u.set 0 x := set_app (k := 0)
@[simp] theorem cAt_app {t u : List Cell} {k : Nat} : cAt (t ++ u) (t.length + k) = u[k]? := gt_app
@[simp] theorem cAt_app0 {t u : List Cell} : cAt (t ++ u) t.length = u[0]? := gt_app0
@[simp] theorem dd_len {k : Nat} : (dd k).length = k := List.length_replicate
def lsO (fz : Bool) (o : Option (List D)) (cs : List Cell) : Rs D := match o with
  | some xs => mkL fz xs cs
  | none => none
@[simp] theorem lsO_s {fz : Bool} {xs : List D} {cs : List Cell} : lsO fz (some xs) cs = mkL fz xs cs := id rfl
@[simp] theorem dList_ref {fz : Bool} {i : Nat} {cs : List Cell} : dList fz [.ref i] cs = lsO fz (sqO (cAt cs i)) cs := by
  show (match seqOf cs (.ref i) with
    | some xs => mkL fz xs cs
    | none => none) = _
  rw [seqOf_r]
  cases sqO (cAt cs i) <;> rfl
def fgO (o : Option Sd) (k : Sd → Sr) (t : Tg k := .mk) : Sr := match o with
  | some σ => k σ
  | none => .no
@[simp] theorem fgO_s {σ : Sd} {k : Sd → Sr} {t : Tg k} : fgO (some σ) k t = k σ := id rfl
def fbO (r : Sr) (k : Sd → List Cell → Sr) (t : Tg k := .mk) : Sr := match r with
  | .nx σ c => k σ c
  | .ct σ c => k σ c
  | .bk σ c => .nx σ c
  | r => r
@[simp] theorem fbO_nx {σ : Sd} {c : List Cell} {k : Sd → List Cell → Sr} {t : Tg k} : fbO (.nx σ c) k t = k σ c := id rfl
@[simp] theorem fbO_ct {σ : Sd} {c : List Cell} {k : Sd → List Cell → Sr} {t : Tg k} : fbO (.ct σ c) k t = k σ c := id rfl
@[simp] theorem fbO_bk {σ : Sd} {c : List Cell} {k : Sd → List Cell → Sr} {t : Tg k} : fbO (.bk σ c) k t = .nx σ c := id rfl
@[simp] theorem fbO_rt {d : D} {c : List Cell} {k : Sd → List Cell → Sr} {t : Tg k} : fbO (.rt d c) k t = .rt d c := id rfl
@[simp] theorem fbO_ex {x : Xc} {σ : Sd} {c : List Cell} {k : Sd → List Cell → Sr} {t : Tg k} : fbO (.ex x σ c) k t = .ex x σ c := id rfl
@[simp ↓] theorem forL_cons {g : Gt} {fb : Fs} {d : D} {ds : List D} {σ : Sd} {c : List Cell} : forL g fb (d :: ds) σ c = fgO (g d σ c) fun σ1 => fbO (fb σ1 c) fun σ2 c2 => forL g fb ds σ2 c2 := by
  show (match g d σ c with
    | none => Sr.no
    | some σ1 => match fb σ1 c with
      | .nx σ2 c2 => forL g fb ds σ2 c2
      | .ct σ2 c2 => forL g fb ds σ2 c2
      | .bk σ2 c2 => .nx σ2 c2
      | r => r) = _
  unfold fgO fbO
  cases g d σ c with
  | none => rfl
  | some σ1 => simp only []
theorem mulR {i j : Int} (h0 : 0 ≤ j) (h : j < 2 ^ 64) : mulOk i j := Or.inr (Or.inr ⟨by omega, h⟩)
def stA (o : Option (List D)) (k : List D → Out (List D)) (t : Tg k := .mk) : Out (List D) := match o with
  | some xs => k xs
  | none => .no
@[simp] theorem stA_s {xs : List D} {k : List D → Out (List D)} {t : Tg k} : stA (some xs) k t = k xs := id rfl
@[simp ↓] theorem aStar_e {fe : Fe} {ga : Fa} {σ : Sd} {cs : List Cell} : aStar fe ga σ cs = (fe σ cs).bnd fun d c1 => stA (seqOf c1 d) fun xs => (ga σ c1).bnd fun ys c2 => Out.ok (xs ++ ys) c2 := by
  unfold aStar stA
  show Out.bind _ _ = Out.bind _ _
  refine congrArg _ (funext fun d => funext fun c => ?_)
  cases seqOf c d <;> rfl
end PV
namespace PV
open PySem PySem.Spec PyProof.Rows L2
def place (r : Int) (f : Bool) : Prop := f = true → 0 ≤ r ∧ r < 10 ^ 30
structure Rf where
  r : Int
  c : Int
  f : Bool
  g : Bool
def Rf.ok (p : Rf) : Prop := place p.r p.f ∧ place p.c p.g
def Rf.tp (p : Rf) : D := .tup [.int p.r, .int p.c, .bl p.f, .bl p.g]
def oTp : Option Rf → D
  | none => .non
  | some p => p.tp
def fitI (L a : Int) (r : Int) (f : Bool) : Prop := if f = true then 0 ≤ r ∧ r < L else 0 ≤ r + a ∧ r + a < L
def fitK (x : Str) (L a : Int) (r : Int) (f : Bool) : Prop := fitI L a r f ∨ (x = "ring" ∧ f = false)
def big (r : Int) : Prop := -(10 ^ 60) ≤ r ∧ r ≤ 10 ^ 60
structure Fit (x : Str) (L M a b : Int) (p : Rf) : Prop where
  r : fitK x L a p.r p.f
  c : fitK x M b p.c p.g
  br : big p.r
  bc : big p.c
def oFit (x : Str) (L M a b : Int) (p : Option Rf) : Prop := ∀ q, p = some q → Fit x L M a b q
theorem Fit.ok {x : Str} {L M a b : Int} {p : Rf} (h : Fit x L M a b p) (hL : L ≤ 10 ^ 30) (hM : M ≤ 10 ^ 30) : p.ok := by
  refine ⟨fun e => ?_, fun e => ?_⟩
  · rcases h.r with q | q
    · unfold fitI at q; rw [if_pos e] at q; exact ⟨q.1, Int.lt_of_lt_of_le q.2 hL⟩
    · rw [e] at q; exact absurd q.2 (by decide)
  · rcases h.c with q | q
    · unfold fitI at q; rw [if_pos e] at q; exact ⟨q.1, Int.lt_of_lt_of_le q.2 hM⟩
    · rw [e] at q; exact absurd q.2 (by decide)
section
variable {n : Nat}
theorem Jug.up {m k : Nat} (J : Jug m) (h : m ≤ k) : ∃ J' : Jug k, jc J' = jc J := ⟨⟨J.1, by obtain ⟨q1, q2, q3, q4, q5⟩ := J.2; exact ⟨q1, q2, q3, q4, by omega⟩⟩, rfl⟩
end
end PV
namespace PV
open PySem PySem.Spec PyProof.Rows L2
def rfs (r c : Int) (f g : Bool) : List (Str × D) := [("held_row", .int r), ("held_column", .int c), ("held_fixed_row", .bl f), ("held_fixed_column", .bl g)]
def rD (cR : Nat) (r c : Int) (f g : Bool) : D := .ins cR (rfs r c f g)
def oD (cR : Nat) : Option Rf → D
  | none => .non
  | some p => rD cR p.r p.c p.f p.g
def ffs (ds : List D) : List (Str × D) := [("held_parts", .tup ds)]
def fD (cF cR : Nat) (ps : List (Option Rf)) : D := .ins cF (ffs (ps.map (oD cR)))
theorem put1 (v : D) : putD ("held_row" : Str) v [] = [(("held_row" : Str), v)] := rfl
theorem put2 (a v : D) : putD ("held_column" : Str) v [(("held_row" : Str), a)] = [(("held_row" : Str), a), (("held_column" : Str), v)] := rfl
theorem put3 (a b v : D) : putD ("held_fixed_row" : Str) v [(("held_row" : Str), a), (("held_column" : Str), b)] = [(("held_row" : Str), a), (("held_column" : Str), b), (("held_fixed_row" : Str), v)] := rfl
theorem put4 (a b c v : D) : putD ("held_fixed_column" : Str) v [(("held_row" : Str), a), (("held_column" : Str), b), (("held_fixed_row" : Str), c)] = [(("held_row" : Str), a), (("held_column" : Str), b), (("held_fixed_row" : Str), c), (("held_fixed_column" : Str), v)] := rfl
theorem put5 (v : D) : putD ("held_parts" : Str) v [] = [(("held_parts" : Str), v)] := rfl
section
variable {r c : Int} {f g : Bool}
theorem lk1 : (rfs r c f g).lookup ("held_row" : Str) = some (.int r) := rfl
theorem lk2 : (rfs r c f g).lookup ("held_column" : Str) = some (.int c) := rfl
theorem lk3 : (rfs r c f g).lookup ("held_fixed_row" : Str) = some (.bl f) := rfl
theorem lk4 : (rfs r c f g).lookup ("held_fixed_column" : Str) = some (.bl g) := rfl
theorem lkF {ds : List D} : (ffs ds).lookup ("held_parts" : Str) = some (.tup ds) := rfl
@[simp] theorem ins_rD {cs : List Cell} {cR : Nat} : insOf cs (rD cR r c f g) = some (cR, rfs r c f g) := id rfl
@[simp] theorem ins_fD {cs : List Cell} {cF cR : Nat} {ps : List (Option Rf)} : insOf cs (fD cF cR ps) = some (cF, ffs (ps.map (oD cR))) := id rfl
@[simp] theorem kd_rD {cs : List Cell} {cR : Nat} : kdOf cs (rD cR r c f g) = some (.cl cR) := id rfl
@[simp] theorem kd_fD {cs : List Cell} {cF cR : Nat} {ps : List (Option Rf)} : kdOf cs (fD cF cR ps) = some (.cl cF) := id rfl
@[simp] theorem non_rD {cR : Nat} : isNon (rD cR r c f g) = false := id rfl
@[simp] theorem non_fD {cF cR : Nat} {ps : List (Option Rf)} : isNon (fD cF cR ps) = false := id rfl
@[simp] theorem dLen_fD {cs : List Cell} {cF cR : Nat} {ps : List (Option Rf)} : dLen [fD cF cR ps] cs = none := id rfl
end
def tgt (r : Int) (f : Bool) (x : Int) : Int := if f = true then r else r + x
def oks (ps : List (Option Rf)) : Prop := ∀ p ∈ ps, ∀ q, p = some q → q.ok
def brk : Nat → List (Option Rf) → List D
  | _, [] => []
  | k, none :: ps => .int (k : Nat) :: brk (k + 1) ps
  | k, some _ :: ps => brk (k + 1) ps
theorem blsOf_mapP {α : Type} (p : α → Bool) (xs : List α) : blsOf (xs.map fun x => .bl (p x)) = some (xs.map p) := by
  have e : (xs.map fun x => D.bl (p x)) = (xs.map p).map D.bl := by rw [List.map_map]; rfl
  rw [e, blsOf_map]
theorem dAll_map {α : Type} {cs : List Cell} (p : α → Bool) (xs : List α) : dAll [.lst (xs.map fun x => .bl (p x))] cs = some (.bl (xs.all p), cs) := by
  show (match (rdL cs (.lst (xs.map fun x => .bl (p x)))).bind blsOf with
    | some bs => some (D.bl (bs.all id), cs)
    | none => none) = _
  have e : rdL cs (.lst (xs.map fun x => .bl (p x))) = some (xs.map fun x => .bl (p x)) := rfl
  rw [e, Option.bind_some, blsOf_mapP]
  show some (D.bl ((xs.map p).all id), cs) = _
  rw [List.all_map]
  rfl
@[simp] theorem dInt_b {b : Bool} {cs : List Cell} : dInt [.bl b] cs = some (.int (if b then 1 else 0), cs) := id rfl
end PV
namespace PV
open PySem PySem.Spec PyProof.Rows L2
structure PK (p : PyData) (w d : Nat) : Prop where
  nt : noTxt p = true
  sh : p.showable = true
  cl : p.canLay0 = true
  dp : p.depth ≤ d
  wt : wgt p ≤ w
structure PKs (ps : List PyData) (w d : Nat) : Prop where
  nt : noTxts ps = true
  sh : PyData.showableAll ps = true
  cl : PyData.canLayAll0 ps = true
  dp : PyData.depthAll ps ≤ d
  wt : wgts ps ≤ w
theorem pk_none : PK .none 4 0 := ⟨rfl, rfl, rfl, Nat.le_refl _, by simp [wgt]⟩
theorem pk_bool (b : Bool) : PK (.bool b) 5 0 := ⟨rfl, rfl, rfl, Nat.le_refl _, by simp [wgt]⟩
theorem pk_int {i : Int} (h : sm i) : PK (.int i) 1921 0 := ⟨rfl, by have h' : i.natAbs.log2 < 1920 := h; simpa [PyData.showable] using h', rfl, Nat.le_refl _, by simp [wgt]⟩
theorem pks_nil : PKs [] 0 0 := ⟨rfl, rfl, rfl, Nat.le_refl _, Nat.le_refl _⟩
theorem pks_cons {p : PyData} {ps : List PyData} {w w' d d' : Nat} (h : PK p w d) (t : PKs ps w' d') : PKs (p :: ps) (w + 2 + w') (max d d') := by
  obtain ⟨a1, a2, a3, a4, a5⟩ := h
  obtain ⟨b1, b2, b3, b4, b5⟩ := t
  refine ⟨by simp [noTxts, a1, b1], by simp [PyData.showableAll, a2, b2], by simp [PyData.canLayAll0, a3, b3], ?_, ?_⟩
  · simp only [PyData.depthAll]; omega
  · simp only [wgts]; omega
theorem pk_list {ps : List PyData} {w d : Nat} (h : PKs ps w d) : PK (.list ps) (w + 2) (d + 1) := by
  obtain ⟨b1, b2, b3, b4, b5⟩ := h
  refine ⟨by simp [noTxt, b1], by simp [PyData.showable, b2], by simp [PyData.canLay0, b3], ?_, ?_⟩
  · simp only [PyData.depth]; omega
  · simp only [wgt]; omega
theorem pk_tuple {ps : List PyData} {w d : Nat} (h : PKs ps w d) : PK (.tuple ps) (w + 3) (d + 1) := by
  obtain ⟨b1, b2, b3, b4, b5⟩ := h
  refine ⟨by simp [noTxt, b1], by simp [PyData.showable, b2], by simp [PyData.canLay0, b3], ?_, ?_⟩
  · simp only [PyData.depth]; omega
  · simp only [wgt]; omega
theorem PK.mono {p : PyData} {w d w' d' : Nat} (h : PK p w d) (hw : w ≤ w' := by omega) (hd : d ≤ d' := by omega) : PK p w' d' := ⟨h.nt, h.sh, h.cl, Nat.le_trans h.dp hd, Nat.le_trans h.wt hw⟩
theorem PKs.mono {p : List PyData} {w d w' d' : Nat} (h : PKs p w d) (hw : w ≤ w' := by omega) (hd : d ≤ d' := by omega) : PKs p w' d' := ⟨h.nt, h.sh, h.cl, Nat.le_trans h.dp hd, Nat.le_trans h.wt hw⟩
theorem pks_all {w d : Nat} : ∀ {ps : List PyData}, (∀ p ∈ ps, PK p w d) → PKs ps (ps.length * (w + 2)) d
  | [], _ => ⟨rfl, rfl, rfl, Nat.zero_le _, by simp [wgts]⟩
  | p :: ps, h => by
    have ih := pks_all fun q hq => h q (List.mem_cons_of_mem _ hq)
    refine (pks_cons (h p (List.mem_cons_self ..)) ih).mono ?_ (by omega)
    rw [List.length_cons, Nat.succ_mul]; omega
theorem PK.rep {p : PyData} {w d : Nat} (h : PK p w d) (hr : rpOk p = true) (hw : w ≤ 2 ^ 24 := by omega) (hd : d ≤ 100 := by omega) : repOk p := ⟨h.nt, h.sh, hr, Nat.le_trans h.dp hd, Nat.le_trans h.wt hw⟩
mutual
theorem eqv_self : ∀ p : PyData, noTxt p = true → PyData.eqv p p = true
  | .none, _ => by simp only [PyData.eqv]
  | .bool b, _ => by simp only [PyData.eqv, beq_self_eq_true]
  | .int i, _ => by simp only [PyData.eqv, beq_self_eq_true]
  | .list xs, h => by simp only [PyData.eqv]; exact eqvs_self xs (by simpa [noTxt] using h)
  | .tuple xs, h => by simp only [PyData.eqv]; exact eqvs_self xs (by simpa [noTxt] using h)
  | .str _, h => by simp [noTxt] at h
  | .dict _, h => by simp [noTxt] at h
theorem eqvs_self : ∀ p : List PyData, noTxts p = true → PyData.eqvAll p p = true
  | [], _ => by simp only [PyData.eqvAll]
  | x :: xs, h => by
    have a : noTxt x = true ∧ noTxts xs = true := by simpa [noTxts] using h
    simp only [PyData.eqvAll, eqv_self x a.1, eqvs_self xs a.2, Bool.and_self]
end
def Rf.pd (p : Rf) : PyData := .tuple [.int p.r, .int p.c, .bool p.f, .bool p.g]
def oPd : Option Rf → PyData
  | none => .none
  | some p => p.pd
@[simp] theorem toP0_oTp (p : Option Rf) : toP0 (oTp p) = some (oPd p) := by
  cases p with
  | none => simp [oTp, oPd]
  | some p => simp [oTp, oPd, Rf.tp, Rf.pd]
@[simp] theorem toP0s_oTp : ∀ ps : List (Option Rf), toP0s (ps.map oTp) = some (ps.map oPd)
  | [] => by simp
  | p :: ps => by rw [List.map_cons, toP0s_cons, toP0_oTp, toP0s_oTp ps, consP_s, List.map_cons]
def obig (p : Option Rf) : Prop := ∀ q, p = some q → (sm q.r ∧ sm q.c)
theorem sm_big {a : Int} (h : big a) : sm a := by
  obtain ⟨h1, h2⟩ := h
  have e : (10 : Int) ^ 60 < 2 ^ 250 := by decide
  exact log_mono (log_lt (k := 250) (by decide) (by omega) (by omega)) (by decide)
theorem oFit.big {x : Str} {L M a b : Int} {p : Option Rf} (h : oFit x L M a b p) : obig p := fun q e => ⟨sm_big (h q e).br, sm_big (h q e).bc⟩
theorem pk_oPd {p : Option Rf} (h : obig p) : PK (oPd p) 4000 1 := by
  cases p with
  | none => exact pk_none.mono
  | some p =>
    obtain ⟨h1, h2⟩ := h p rfl
    exact (pk_tuple (pks_cons (pk_int h1) (pks_cons (pk_int h2) (pks_cons (pk_bool _) (pks_cons (pk_bool _) pks_nil))))).mono
theorem pks_oPd {ps : List (Option Rf)} (h : ∀ p ∈ ps, obig p) (hl : ps.length ≤ 20) : PKs (ps.map oPd) 80100 1 := by
  have := pks_all (ps := ps.map oPd) (w := 4000) (d := 1) fun q hq => by
    obtain ⟨p, hp, rfl⟩ := List.mem_map.mp hq
    exact pk_oPd (h p hp)
  rw [List.length_map] at this
  exact this.mono (by omega)
def brkP : Nat → List (Option Rf) → List PyData
  | _, [] => []
  | k, none :: ps => .int (k : Nat) :: brkP (k + 1) ps
  | k, some _ :: ps => brkP (k + 1) ps
@[simp] theorem toP0s_brk : ∀ (ps : List (Option Rf)) (k : Nat), toP0s (brk k ps) = some (brkP k ps)
  | [], k => by simp [brk, brkP]
  | none :: ps, k => by simp [brk, brkP, toP0s_brk ps (k + 1)]
  | some _ :: ps, k => by simp [brk, brkP, toP0s_brk ps (k + 1)]
@[simp] theorem eqv_nil : PyData.eqv (.list []) (.list []) = true := by simp only [PyData.eqv, PyData.eqvAll]
@[simp] theorem shaped_nil : SeqAt.shaped (.list []) = true := by decide
end PV
namespace PV
open PySem PySem.Spec PyProof.Rows L2
inductive Kn where
  | plain | stop | ring
deriving DecidableEq
def Kn.s : Kn → Str
  | .plain => "plain"
  | .stop => "stop"
  | .ring => "ring"
theorem ok_plain : okS "plain" := by unfold okS; decide +kernel
theorem ok_stop : okS "stop" := by unfold okS; decide +kernel
theorem ok_ring : okS "ring" := by unfold okS; decide +kernel
theorem Kn.ok (k : Kn) : okS k.s := by cases k; exact ok_plain; exact ok_stop; exact ok_ring
section
variable {n : Bool} {cs : List Cell}
@[simp] theorem dEq_pp : dEq n (.str "plain") (.str "plain") cs = some (.bl (!n), cs) := by rw [dEq_s ok_plain ok_plain]; cases n <;> rfl
@[simp] theorem dEq_ps : dEq n (.str "plain") (.str "stop") cs = some (.bl n, cs) := by rw [dEq_s ok_plain ok_stop]; cases n <;> rfl
@[simp] theorem dEq_pr : dEq n (.str "plain") (.str "ring") cs = some (.bl n, cs) := by rw [dEq_s ok_plain ok_ring]; cases n <;> rfl
@[simp] theorem dEq_sp : dEq n (.str "stop") (.str "plain") cs = some (.bl n, cs) := by rw [dEq_s ok_stop ok_plain]; cases n <;> rfl
@[simp] theorem dEq_ss : dEq n (.str "stop") (.str "stop") cs = some (.bl (!n), cs) := by rw [dEq_s ok_stop ok_stop]; cases n <;> rfl
@[simp] theorem dEq_sr : dEq n (.str "stop") (.str "ring") cs = some (.bl n, cs) := by rw [dEq_s ok_stop ok_ring]; cases n <;> rfl
@[simp] theorem dEq_rp : dEq n (.str "ring") (.str "plain") cs = some (.bl n, cs) := by rw [dEq_s ok_ring ok_plain]; cases n <;> rfl
@[simp] theorem dEq_rs : dEq n (.str "ring") (.str "stop") cs = some (.bl n, cs) := by rw [dEq_s ok_ring ok_stop]; cases n <;> rfl
@[simp] theorem dEq_rrg : dEq n (.str "ring") (.str "ring") cs = some (.bl (!n), cs) := by rw [dEq_s ok_ring ok_ring]; cases n <;> rfl
end
def sfs (h w : Int) : List (Str × D) := [("held_rows", .int h), ("held_columns", .int w)]
def sD (c : Nat) (h w : Int) : D := .ins c (sfs h w)
section
variable {c : Nat} {h w : Int} {cs : List Cell}
@[simp] theorem ins_sD : insOf cs (sD c h w) = some (c, sfs h w) := id rfl
@[simp] theorem kd_sD : kdOf cs (sD c h w) = some (.cl c) := id rfl
@[simp] theorem non_sD : isNon (sD c h w) = false := id rfl
@[simp] theorem dIn_ins {neg : Bool} {x : D} {c : Nat} {fs : List (Str × D)} : dIn neg x (.ins c fs) cs = none := by
  show (match toP cs x, toP cs (.ins c fs) with
    | some d, some (.list ds) => if SeqAt.shaped d = true ∧ SeqAt.shaped (.list ds) = true then some (D.bl (if neg then !ds.any (fun z => PyData.eqv z d) else ds.any fun z => PyData.eqv z d), cs) else none
    | _, _ => none) = none
  have : toP cs (.ins c fs) = none := rfl
  rw [this]
  cases toP cs x <;> rfl
@[simp] theorem dIn_sD {neg : Bool} {x : D} : dIn neg x (sD c h w) cs = none := dIn_ins
@[simp] theorem dEq_sD {neg : Bool} {x : D} : dEq neg (sD c h w) x cs = none := dEq_ins
end
def biO (neg : Bool) (r : Out D) : Rs D := match r with
  | .ok (.bl b) cs' => some (.bl (if neg then !b else b), cs')
  | _ => none
@[simp] theorem biO_b {neg b : Bool} {cs : List Cell} : biO neg (.ok (.bl b) cs) = some (.bl (if neg then !b else b), cs) := id rfl
def oiO (neg : Bool) (c : Nat) (o : Option (Nat × List (Str × D))) (r : Out D) (t : Tg r := .mk) : Rs D := match o with
  | some (c', _) => if c' = c then biO neg r else none
  | none => none
@[simp] theorem oiO_s {neg : Bool} {c c' : Nat} {fs : List (Str × D)} {r : Out D} {t : Tg r} : oiO neg c (some (c', fs)) r t = if c' = c then biO neg r else none := id rfl
@[simp] theorem oiO_n {neg : Bool} {c : Nat} {r : Out D} {t : Tg r} : oiO neg c none r t = none := id rfl
@[simp ↓] theorem dOwnIn_e {neg : Bool} {c : Nat} {F : List D → List Cell → Out D} {x y : D} {cs : List Cell} : dOwnIn neg c F x y cs = oiO neg c (insOf cs y) (F [y, x] cs) := by
  unfold dOwnIn oiO
  cases insOf cs y with
  | none => rfl
  | some p =>
    obtain ⟨c', fs⟩ := p
    show (if c' = c then _ else none) = if c' = c then _ else none
    by_cases h : c' = c
    · rw [if_pos h, if_pos h]
      unfold biO
      cases F [y, x] cs with
      | ok d cs' => cases d <;> rfl
      | ex x c => rfl
      | no => rfl
    · rw [if_neg h, if_neg h]
def stay (d lo hi L : Int) : Bool := decide (0 ≤ lo + d) && decide (hi + d < L)
def stp (d lo hi L : Int) : Int := if (if L - 1 - hi < d then L - 1 - hi else d) > -lo then (if L - 1 - hi < d then L - 1 - hi else d) else -lo
def keepP (H W t b l r : Int) : Option Rf → Option Rf
  | none => none
  | some p => if (p.f || stay p.r t b H) && (p.g || stay p.c l r W) then some p else none
def keepS (H W t b l r : Int) : Option Rf → Option Rf
  | none => none
  | some p => some ⟨if p.f then p.r else stp p.r t b H, if p.g then p.c else stp p.c l r W, p.f, p.g⟩
def keep (k : Kn) (H W t b l r : Int) (p : Option Rf) : Option Rf := match k with
  | .plain => keepP H W t b l r p
  | .stop => keepS H W t b l r p
  | .ring => p
def okp (p : Option Rf) : Prop := ∀ q, p = some q → q.ok
def bigs (p : Option Rf) : Prop := ∀ q, p = some q → big q.r ∧ big q.c
theorem bigs.ob {p : Option Rf} (h : bigs p) : obig p := fun q e => ⟨sm_big (h q e).1, sm_big (h q e).2⟩
theorem oFit.bigs {x : Str} {L M a b : Int} {p : Option Rf} (h : oFit x L M a b p) : bigs p := fun q e => ⟨(h q e).br, (h q e).bc⟩
def fit1 (k : Kn) (H W a b : Int) (p : Option Rf) : Prop := ∀ q, p = some q → match k with
  | .ring => (q.f = true → 0 ≤ q.r ∧ q.r < H) ∧ (q.g = true → 0 ≤ q.c ∧ q.c < W)
  | _ => (0 ≤ tgt q.r q.f a ∧ tgt q.r q.f a < H) ∧ 0 ≤ tgt q.c q.g b ∧ tgt q.c q.g b < W
instance : DecidableEq Rf := fun p q => match p, q with
  | ⟨r, c, f, g⟩, ⟨r', c', f', g'⟩ => if h : r = r' ∧ c = c' ∧ f = f' ∧ g = g' then isTrue (by obtain ⟨h1, h2, h3, h4⟩ := h; rw [h1, h2, h3, h4]) else isFalse fun e => h (by cases e; exact ⟨rfl, rfl, rfl, rfl⟩)
end PV
namespace PV
open PySem PySem.Spec PyProof.Rows L2
abbrev Ce := Int × Int
def ceD (p : Ce) : D := .tup [.int p.1, .int p.2]
def wfs (ps : List Ce) : List (Str × D) := [("held_cells", .lst (ps.map ceD))]
def wD (c : Nat) (ps : List Ce) : D := .ins c (wfs ps)
section
variable {c : Nat} {ps : List Ce} {cs : List Cell}
@[simp] theorem ins_wD : insOf cs (wD c ps) = some (c, wfs ps) := id rfl
@[simp] theorem kd_wD : kdOf cs (wD c ps) = some (.cl c) := id rfl
@[simp] theorem non_wD : isNon (wD c ps) = false := id rfl
end
@[simp] theorem toP0_ce (p : Ce) : toP0 (ceD p) = some (.tuple [.int p.1, .int p.2]) := by simp [ceD]
def cePd (p : Ce) : PyData := .tuple [.int p.1, .int p.2]
@[simp] theorem toP0s_ce : ∀ ps : List Ce, toP0s (ps.map ceD) = some (ps.map cePd)
  | [] => by simp
  | p :: ps => by rw [List.map_cons, toP0s_cons, toP0_ce, toP0s_ce ps, consP_s]; rfl
def onS (H W : Int) (p : Ce) : Prop := 0 ≤ p.1 ∧ p.1 < H ∧ 0 ≤ p.2 ∧ p.2 < W
def tops (ps : List Ce) : Int := minL (ps.map (·.1))
def bots (ps : List Ce) : Int := maxL (ps.map (·.1))
def lefs (ps : List Ce) : Int := minL (ps.map (·.2))
def rigs (ps : List Ce) : Int := maxL (ps.map (·.2))
structure Sides (H W : Int) (ps : List Ce) : Prop where
  tb : tops ps ≤ bots ps
  t0 : 0 ≤ tops ps
  b1 : bots ps < H
  lr : lefs ps ≤ rigs ps
  l0 : 0 ≤ lefs ps
  r1 : rigs ps < W
@[simp] theorem dSl_l {fz : Bool} {xs : List D} {lo hi : Option Int} {cs : List Cell} : dSl fz (.lst xs) lo hi cs = mkL fz (cut xs lo hi) cs := id rfl
theorem cut_hd {α : Type} (xs : List α) (k : Nat) : cut xs none (some (k : Int)) = xs.take k := by
  unfold cut
  rw [HT.sIx_none, HT.sIx_nat, List.drop_zero, Nat.sub_zero]
  rcases Nat.le_total k xs.length with h | h
  · rw [Nat.min_eq_left h]
  · rw [Nat.min_eq_right h, List.take_of_length_le (Nat.le_refl _), List.take_of_length_le h]
theorem cut_tl {α : Type} (xs : List α) (k : Nat) : cut xs (some (k : Int)) none = xs.drop k := by
  unfold cut
  rw [HT.sIx_none, HT.sIx_nat]
  rcases Nat.le_total k xs.length with h | h
  · rw [Nat.min_eq_left h, List.take_of_length_le (by rw [List.length_drop]; exact Nat.le_refl _)]
  · rw [Nat.min_eq_right h, List.drop_of_length_le (Nat.le_refl _), List.drop_of_length_le h, List.take_nil]
@[simp] theorem cut_1 {α : Type} {x : α} {xs : List α} : cut (x :: xs) none (some 1) = [x] := cut_hd (x :: xs) 1
@[simp] theorem cut_tl1 {α : Type} {x : α} {xs : List α} : cut (x :: xs) (some 1) none = xs := cut_tl (x :: xs) 1
section
variable {n : Nat}
end
end PV
namespace PV
open PySem PySem.Spec PyProof.Rows L2
end PV
namespace PV
open PySem PySem.Spec PyProof.Rows L2
end PV
namespace PV
open PySem PySem.Spec PyProof.Rows L2
abbrev Feed := Int × Int × Int
def fc (J : Feed) : Cell := .lst [.int J.1, .int J.2.1, .int J.2.2]
def bitO (d : D) (c : List Cell) : Out D := match d with
  | .int i => .ok (.int (Builtin.Int.intBits i : Nat)) c
  | _ => .no
@[simp] theorem bitO_i {i : Int} {c : List Cell} : bitO (.int i) c = .ok (.int (Builtin.Int.intBits i : Nat)) c := id rfl
@[simp ↓] theorem fBits_e {fo : Fe} {σ : Sd} {cs : List Cell} : fBits fo σ cs = (fo σ cs).bnd fun d c => bitO d c := id rfl
abbrev onP (p : Ce) : Prop := onS (10 ^ 30) (10 ^ 30) p
theorem onS.up {H W : Int} (h2 : H ≤ 10 ^ 30) (w2 : W ≤ 10 ^ 30) {p : Ce} (h : onS H W p) : onP p := ⟨h.1, Int.lt_of_lt_of_le h.2.1 h2, h.2.2.1, Int.lt_of_lt_of_le h.2.2.2 w2⟩
def lnO (o : Option Cell) (cs : List Cell) : Rs D := match o with
  | some (.lst xs) => some (.int xs.length, cs)
  | _ => none
@[simp] theorem lnO_s {xs : List D} {cs : List Cell} : lnO (some (.lst xs)) cs = some (.int xs.length, cs) := id rfl
@[simp] theorem dLen_r {i : Nat} {cs : List Cell} : dLen [.ref i] cs = lnO (cAt cs i) cs := by
  show (seqOf cs (.ref i)).map _ = _
  rw [seqOf_r]
  rcases cAt cs i with _ | (_ | _ | _) <;> rfl
end PV
namespace PV
open PySem PySem.Spec PyProof.Rows L2
end PV
namespace PV
open PySem PySem.Spec PyProof.Rows L2
structure Fm where
  a : Ce
  z : Ce
  t : Int
  b : Int
  l : Int
  r : Int
deriving DecidableEq
def fmfs (F : Fm) : List (Str × D) := [("begin", ceD F.a), ("end", ceD F.z), ("row_range", .tup [.int F.t, .int F.b]), ("column_range", .tup [.int F.l, .int F.r])]
def fmD (c : Nat) (F : Fm) : D := .ins c (fmfs F)
structure Fm.ok (F : Fm) : Prop where
  t0 : 0 ≤ F.t
  b1 : F.b < 10 ^ 30
  l0 : 0 ≤ F.l
  r1 : F.r < 10 ^ 30
  a1 : F.t ≤ F.a.1 ∧ F.a.1 ≤ F.b
  a2 : F.l ≤ F.a.2 ∧ F.a.2 ≤ F.r
  z1 : F.t ≤ F.z.1 ∧ F.z.1 ≤ F.b
  z2 : F.l ≤ F.z.2 ∧ F.z.2 ≤ F.r
theorem Fm.ok.ca {F : Fm} (h : F.ok) : onP F.a := by
  obtain ⟨q1, q2, q3, q4, q5, q6, q7, q8⟩ := h
  exact ⟨by omega, by omega, by omega, by omega⟩
theorem Fm.ok.cz {F : Fm} (h : F.ok) : onP F.z := by
  obtain ⟨q1, q2, q3, q4, q5, q6, q7, q8⟩ := h
  exact ⟨by omega, by omega, by omega, by omega⟩
def sixD (F : Fm) : D := .tup [ceD F.a, ceD F.z, .int F.t, .int F.b, .int F.l, .int F.r]
def sixP (F : Fm) : PyData := .tuple [cePd F.a, cePd F.z, .int F.t, .int F.b, .int F.l, .int F.r]
section
variable {F : Fm} {cs : List Cell} {c : Nat}
@[simp] theorem ins_fmD : insOf cs (fmD c F) = some (c, fmfs F) := id rfl
@[simp] theorem kd_fmD : kdOf cs (fmD c F) = some (.cl c) := id rfl
@[simp] theorem non_fmD : isNon (fmD c F) = false := id rfl
end
@[simp] theorem toP0_six (F : Fm) : toP0 (sixD F) = some (sixP F) := by
  simp [sixD, sixP, cePd]
end PV
namespace PV
open PySem PySem.Spec PyProof.Rows L2
def zpO (ds : List D) (c : List Cell) : Out (List D) := match ds with
  | [.lst xs, .lst ys] => .ok (zpD xs ys) c
  | [.tup xs, .tup ys] => .ok (zpD xs ys) c
  | _ => .no
@[simp] theorem zpO_l {xs ys : List D} {c : List Cell} : zpO [.lst xs, .lst ys] c = .ok (zpD xs ys) c := id rfl
@[simp] theorem zpO_t {xs ys : List D} {c : List Cell} : zpO [.tup xs, .tup ys] c = .ok (zpD xs ys) c := id rfl
@[simp ↓] theorem iZp_e {f : Fa} {σ : Sd} {cs : List Cell} : iZp f σ cs = (f σ cs).bnd fun ds c => zpO ds c := id rfl
@[simp] theorem zpD_cc {x y : D} {xs ys : List D} : zpD (x :: xs) (y :: ys) = .tup [x, y] :: zpD xs ys := id rfl
@[simp] theorem zpD_nl {ys : List D} : zpD [] ys = [] := id rfl
@[simp] theorem zpD_nr {x : D} {xs : List D} : zpD (x :: xs) [] = [] := id rfl
def trE (i : Nat) : Sr → Sr
  | .nx τ c => .nx (τ.set i none) c
  | .bk τ c => .bk (τ.set i none) c
  | .ct τ c => .ct (τ.set i none) c
  | .rt d c => .rt d c
  | _ => .no
def trS (sub : Nat → Option Bool) (i : Nat) (fh : Fs) (r : Sr) (t : Tg fh := .mk) : Sr := match r with
  | .ex x σ' cs' => match sub x.1 with
    | some true => if x.2 = [] then trE i (fh (σ'.set i (some (.exn x.1))) cs') else .no
    | some false => .ex x σ' cs'
    | none => .no
  | r => r
@[simp ↓] theorem sTryS_e {sub : Nat → Option Bool} {i : Nat} {fb fh : Fs} {σ : Sd} {cs : List Cell} : sTryS sub i fb fh σ cs = trS sub i fh (fb σ cs) := by
  unfold sTryS trS
  cases fb σ cs <;> rfl
@[simp] theorem trS_nx {sub : Nat → Option Bool} {i : Nat} {fh : Fs} {σ : Sd} {cs : List Cell} {t : Tg fh} : trS sub i fh (.nx σ cs) t = .nx σ cs := id rfl
@[simp] theorem trS_rt {sub : Nat → Option Bool} {i : Nat} {fh : Fs} {d : D} {cs : List Cell} {t : Tg fh} : trS sub i fh (.rt d cs) t = .rt d cs := id rfl
@[simp] theorem trE_nx {i : Nat} {σ : Sd} {cs : List Cell} : trE i (.nx σ cs) = .nx (σ.set i none) cs := id rfl
@[simp] theorem trE_rt {i : Nat} {d : D} {cs : List Cell} : trE i (.rt d cs) = .rt d cs := id rfl
def trP (sub : Nat → Option Bool) (fh : Fs) (r : Sr) (t : Tg fh := .mk) : Sr := match r with
  | .ex x σ' cs' => match sub x.1 with
    | some true => if x.2 = [] then (match fh σ' cs' with
      | .ex _ _ _ => .no
      | r => r) else .no
    | some false => .ex x σ' cs'
    | none => .no
  | r => r
@[simp ↓] theorem sTryO_e {sub : Nat → Option Bool} {fb fh : Fs} {σ : Sd} {cs : List Cell} : sTryO sub fb fh σ cs = trP sub fh (fb σ cs) := by
  unfold sTryO trP
  cases fb σ cs <;> rfl
@[simp] theorem trP_nx {sub : Nat → Option Bool} {fh : Fs} {σ : Sd} {cs : List Cell} {t : Tg fh} : trP sub fh (.nx σ cs) t = .nx σ cs := id rfl
@[simp] theorem trP_rt {sub : Nat → Option Bool} {fh : Fs} {d : D} {cs : List Cell} {t : Tg fh} : trP sub fh (.rt d cs) t = .rt d cs := id rfl
@[simp] theorem noXF_e {F : List D → List Cell → Out D} {ds : List D} {cs : List Cell} : noXF F ds cs = noX (F ds cs) := id rfl
@[simp] theorem isNon_xn {c : Nat} : isNon (.exn c) = false := id rfl
@[simp] theorem at5 {x0 x1 x2 x3 x4 x5 : D} : atI [x0, x1, x2, x3, x4, x5] 5 = some x5 := id rfl
@[simp] theorem raise_e {c : Nat} {σ : Sd} {cs : List Cell} : sRaise c σ cs = .ex (c, []) σ cs := id rfl
noncomputable section
end
section
variable {g : G2} {fa fb fe : Fe} {σ : Sd} {c c1 c2 c3 : List Cell} {x y z : D}
theorem dMul_li {xs : List D} {k : Int} {c : List Cell} (h : -(2 ^ 63) ≤ k ∧ k < 2 ^ 63 ∧ xs.length * k.toNat ≤ sizeLine) : dMul true (.lst xs) (.int k) c = some (.lst (rep k.toNat xs), c) := by
  have e : dMul true (.lst xs) (.int k) c = if -(2 ^ 63) ≤ k ∧ k < 2 ^ 63 ∧ xs.length * k.toNat ≤ sizeLine then mkL true (rep k.toNat xs) c else none := rfl
  rw [e, if_pos h]
  rfl
theorem rep_ce (m : Nat) (x : D) : rep m [x] = List.replicate m x := by
  unfold rep
  rw [List.flatten_replicate_singleton]
end
end PV
namespace PV
open PySem PySem.Spec PyProof.Rows L2
noncomputable section
end
section
variable (S : Hs)
end
end PV
namespace PV
open PySem PySem.Spec PyProof.Rows L2
def nof (s : Int) (w m : Nat) : Int := if w = 0 then s ^ m else if w = 1 then s ^ m - (s - 1) ^ m else s ^ m - 2 * (s - 1) ^ m + (s - 2) ^ m
def grps (lo hi : Int) : List (Int × Int) := if lo = hi then [(lo, 1)] else [(lo, 1)] ++ (if hi - lo - 1 > 0 then [(lo + 1, hi - lo - 1)] else []) ++ [(hi, 1)]
def wo (w : List Int) (p : Int) : List Int := w.filter fun e => decide (e ≠ p)
structure Ends' (lo hi : Int) (w : List Int) : Prop where
  le : lo ≤ hi
  mem : ∀ e ∈ w, e = lo ∨ e = hi
  nd : w.Nodup
theorem Ends'.wo {lo hi : Int} {w : List Int} (h : Ends' lo hi w) (p : Int) : Ends' lo hi (wo w p) :=
  ⟨h.le, fun e he => h.mem e (List.mem_filter.mp he).1, h.nd.sublist List.filter_sublist⟩
theorem Ends'.cases {lo hi : Int} {w : List Int} (h : Ends' lo hi w) : w = [] ∨ w = [lo] ∨ (lo < hi ∧ (w = [hi] ∨ w = [lo, hi] ∨ w = [hi, lo])) := by
  match w, h with
  | [], _ => exact .inl rfl
  | [a], h =>
    rcases h.mem a (by simp) with rfl | rfl
    · exact .inr (.inl rfl)
    · by_cases e : lo = a
      · subst e; exact .inr (.inl rfl)
      · have := h.le
        exact .inr (.inr ⟨by omega, .inl rfl⟩)
  | [a, b], h =>
    have nd := h.nd
    have ne : a ≠ b := by
      intro e
      subst e
      simp at nd
    have le := h.le
    rcases h.mem a (by simp) with rfl | rfl <;> rcases h.mem b (by simp) with rfl | rfl
    · exact absurd rfl ne
    · exact .inr (.inr ⟨by omega, .inr (.inl rfl)⟩)
    · exact .inr (.inr ⟨by omega, .inr (.inr rfl)⟩)
    · exact absurd rfl ne
  | a :: b :: c :: r, h =>
    have nd := h.nd
    simp only [List.nodup_cons, List.mem_cons, not_or] at nd
    have ha := h.mem a (by simp)
    have hb := h.mem b (by simp)
    have hc := h.mem c (by simp)
    omega
def tk (wt : Int → Int) : List (Int × Int) → Int → Option (Int × Int)
  | [], _ => none
  | (st, sz) :: r, i => if i < sz * wt st then some (st + i / wt st, i % wt st) else tk wt r (i - sz * wt st)
theorem atI_last {α : Type} {xs : List α} {x : α} : atI (xs ++ [x]) (-1) = some x := by
  unfold atI ixN
  have hl : (xs ++ [x]).length = xs.length + 1 := by simp
  rw [hl, if_neg (by omega), if_pos (by omega)]
  have e : (-1 + ((xs.length + 1 : Nat) : Int)).toNat = xs.length := by omega
  show (xs ++ [x])[(-1 + ((xs.length + 1 : Nat) : Int)).toNat]? = _
  rw [e]
  simp
section
variable {f : Fe} {g : Fa} {σ : Sd} {c c1 c2 : List Cell} {x : D} {xs : List D}
end
end PV
namespace PV
open PySem PySem.Spec PyProof.Rows L2
def wE {α : Type} (r : Out α) (Q : α → List Cell → Prop) (E : Xc → List Cell → Prop) (t : Tg Q := .mk) (u : Tg E := .mk) : Prop := match r with
  | .ok a c => Q a c
  | .ex x c => E x c
  | .no => False
structure Po where
  nx : Sd → List Cell → Prop
  rt : D → List Cell → Prop
  bk : Sd → List Cell → Prop
  ct : Sd → List Cell → Prop
  ex : Xc → Sd → List Cell → Prop
def wS (r : Sr) (P : Po) (t : Tg P := .mk) : Prop := match r with
  | .nx σ c => P.nx σ c
  | .rt d c => P.rt d c
  | .bk σ c => P.bk σ c
  | .ct σ c => P.ct σ c
  | .ex x σ c => P.ex x σ c
  | .no => False
abbrev nE : Xc → List Cell → Prop := fun _ _ => False
section
variable {α β : Type} {Q : α → List Cell → Prop} {E : Xc → List Cell → Prop} {t : Tg Q} {u : Tg E} {P : Po} {p : Tg P}
@[simp] theorem wE_ok {a : α} {c : List Cell} : wE (.ok a c) Q E t u = Q a c := id rfl
@[simp] theorem wE_ex {x : Xc} {c : List Cell} : wE (.ex x c) Q E t u = E x c := id rfl
@[simp] theorem wE_no : wE (.no : Out α) Q E t u = False := id rfl
@[simp ↓] theorem wE_bnd {r : Out β} {k : β → List Cell → Out α} {m : Tg k} : wE (Out.bnd r k m) Q E t u = wE r (fun a c => wE (k a c) Q E) E := by cases r <;> rfl
@[simp] theorem wE_upS {a : α} {c : List Cell} : wE (up (some (a, c))) Q E t u = Q a c := id rfl
@[simp] theorem wS_nx {σ : Sd} {c : List Cell} : wS (.nx σ c) P p = P.nx σ c := id rfl
@[simp] theorem wS_rt {d : D} {c : List Cell} : wS (.rt d c) P p = P.rt d c := id rfl
@[simp] theorem wS_bk {σ : Sd} {c : List Cell} : wS (.bk σ c) P p = P.bk σ c := id rfl
@[simp] theorem wS_ct {σ : Sd} {c : List Cell} : wS (.ct σ c) P p = P.ct σ c := id rfl
@[simp] theorem wS_ex {x : Xc} {σ : Sd} {c : List Cell} : wS (.ex x σ c) P p = P.ex x σ c := id rfl
@[simp] theorem wS_no : wS .no P p = False := id rfl
@[simp ↓] theorem wS_bind {r : Sr} {g : Fs} {m : Tg g} : wS (Sr.bind r g m) P p = wS r ⟨fun σ c => wS (g σ c) P, P.rt, P.bk, P.ct, P.ex⟩ := by cases r <;> rfl
@[simp ↓] theorem wS_sOf {r : Out α} {σ : Sd} {k : α → List Cell → Sr} {m : Tg k} : wS (sOfL r σ k m) P p = wE r (fun a c => wS (k a c) P) (fun x c => P.ex x σ c) := by cases r <;> rfl
theorem wE.go {r : Out α} {Q' : α → List Cell → Prop} (h : wE r Q' nE) (k : ∀ a c, Q' a c → Q a c) : wE r Q E t u := by
  cases r with
  | ok a c => exact k a c h
  | ex x c => exact h.elim
  | no => exact h.elim
theorem wE.gox {r : Out α} {Q' : α → List Cell → Prop} {E' : Xc → List Cell → Prop} (h : wE r Q' E') (k : ∀ a c, Q' a c → Q a c) (e : ∀ x c, E' x c → E x c) : wE r Q E t u := by
  cases r with
  | ok a c => exact k a c h
  | ex x c => exact e x c h
  | no => exact h.elim
theorem wE_iff {r : Out α} : wE r Q nE ↔ ∃ a c, r = .ok a c ∧ Q a c := by
  cases r with
  | ok a c => exact ⟨fun h => ⟨a, c, rfl, h⟩, fun ⟨a', c', e, h⟩ => by cases e; exact h⟩
  | ex x c => exact ⟨fun h => h.elim, fun ⟨_, _, e, _⟩ => by cases e⟩
  | no => exact ⟨fun h => h.elim, fun ⟨_, _, e, _⟩ => by cases e⟩
theorem wS.go {r : Sr} {P' : Po} (h : wS r P') (k1 : ∀ σ c, P'.nx σ c → P.nx σ c) (k2 : ∀ d c, P'.rt d c → P.rt d c) (k3 : ∀ σ c, P'.bk σ c → P.bk σ c) (k4 : ∀ σ c, P'.ct σ c → P.ct σ c) (k5 : ∀ x σ c, P'.ex x σ c → P.ex x σ c) : wS r P p := by
  cases r with
  | nx σ c => exact k1 σ c h
  | rt d c => exact k2 d c h
  | bk σ c => exact k3 σ c h
  | ct σ c => exact k4 σ c h
  | ex x σ c => exact k5 x σ c h
  | no => exact h.elim
end
abbrev bodyP (Q : D → List Cell → Prop) (E : Xc → List Cell → Prop) : Po := ⟨fun _ c => Q .non c, Q, fun _ _ => False, fun _ _ => False, fun x _ c => E x c⟩
theorem wE_run {n N : Nat} {fb : Fs} {ds : List D} {cs : List Cell} {Q : D → List Cell → Prop} {E : Xc → List Cell → Prop} (hl : ds.length = n) (h : wS (fb (ds.map some ++ List.replicate (N - n) none) cs) (bodyP Q E)) : wE (runDef n N fb ds cs) Q E := by
  rw [runDef_e, if_pos hl]
  generalize fb (ds.map some ++ List.replicate (N - n) none) cs = r at *
  cases r <;> exact h
@[simp ↓] theorem wE_runO {r : Sr} {Q : D → List Cell → Prop} {E : Xc → List Cell → Prop} {t : Tg Q} {u : Tg E} : wE (runO r) Q E t u = wS r (bodyP Q E) := by cases r <;> rfl
theorem wS_forL {g : Gt} {fb : Fs} {ds : List D} {σ : Sd} {c : List Cell} {P : Po} (I : Nat → Sd → List Cell → Prop) (h0 : I 0 σ c)
    (step : ∀ i d σ c, ds[i]? = some d → I i σ c → ∃ σ1, g d σ c = some σ1 ∧ wS (fb σ1 c) ⟨I (i + 1), P.rt, P.nx, I (i + 1), P.ex⟩)
    (fin : ∀ σ c, I ds.length σ c → P.nx σ c) : wS (forL g fb ds σ c) P := by
  suffices q : ∀ (n k : Nat) (σ : Sd) (c : List Cell), ds.length - k = n → k ≤ ds.length → I k σ c → wS (forL g fb (ds.drop k) σ c) P by
    have := q _ 0 σ c rfl (Nat.zero_le _) h0
    rwa [List.drop_zero] at this
  intro n
  induction n with
  | zero =>
    intro k σ c hn hk hI
    have : k = ds.length := by omega
    subst this
    rw [List.drop_length]
    exact fin σ c hI
  | succ n ih =>
    intro k σ c hn hk hI
    have hlt : k < ds.length := by omega
    rw [List.drop_eq_getElem_cons hlt]
    obtain ⟨σ1, e1, h⟩ := step k ds[k] σ c (List.getElem?_eq_getElem hlt) hI
    show wS (match g ds[k] σ c with
      | none => Sr.no
      | some σ1 => match fb σ1 c with
        | .nx σ2 c2 => forL g fb (ds.drop (k + 1)) σ2 c2
        | .ct σ2 c2 => forL g fb (ds.drop (k + 1)) σ2 c2
        | .bk σ2 c2 => .nx σ2 c2
        | r => r) P
    rw [e1]
    show wS (match fb σ1 c with
        | .nx σ2 c2 => forL g fb (ds.drop (k + 1)) σ2 c2
        | .ct σ2 c2 => forL g fb (ds.drop (k + 1)) σ2 c2
        | .bk σ2 c2 => .nx σ2 c2
        | r => r) P
    cases e2 : fb σ1 c with
    | nx σ2 c2 => rw [e2] at h; exact ih (k + 1) σ2 c2 (by omega) hlt h
    | ct σ2 c2 => rw [e2] at h; exact ih (k + 1) σ2 c2 (by omega) hlt h
    | bk σ2 c2 => rw [e2] at h; exact h
    | rt d c2 => rw [e2] at h; exact h
    | ex x σ2 c2 => rw [e2] at h; exact h
    | no => rw [e2] at h; exact h.elim
theorem wE_lcM {g : Gt} {ft : Ft} {fe : Fe} {ds : List D} {σ : Sd} {c : List Cell} {Q : List D → List Cell → Prop} {E : Xc → List Cell → Prop} (I : Nat → List D → List Cell → Prop) (h0 : I 0 [] c)
    (step : ∀ i d ys c, ds[i]? = some d → I i ys c → ∃ σ1, g d σ c = some σ1 ∧ wE (ft σ1 c) (fun b c1 => if b = true then wE (fe σ1 c1) (fun y c2 => I (i + 1) (ys ++ [y]) c2) nE else I (i + 1) ys c1) nE)
    (fin : ∀ ys c, I ds.length ys c → Q ys c) : wE (lcM g ft fe σ ds c) Q E := by
  suffices q : ∀ (n k : Nat) (ys : List D) (c : List Cell) (Q : List D → List Cell → Prop), ds.length - k = n → k ≤ ds.length → I k ys c → (∀ zs c, I ds.length (ys ++ zs) c → Q zs c) → wE (lcM g ft fe σ (ds.drop k) c) Q E by
    have := q _ 0 [] c Q rfl (Nat.zero_le _) h0 fin
    rwa [List.drop_zero] at this
  intro n
  induction n with
  | zero =>
    intro k ys c Q hn hk hI hf
    have : k = ds.length := by omega
    subst this
    rw [List.drop_length]
    show Q [] c
    exact hf [] c (by rw [List.append_nil]; exact hI)
  | succ n ih =>
    intro k ys c Q hn hk hI hf
    have hlt : k < ds.length := by omega
    rw [List.drop_eq_getElem_cons hlt]
    obtain ⟨σ1, e1, h⟩ := step k ds[k] ys c (List.getElem?_eq_getElem hlt) hI
    obtain ⟨b, c1, e2, h⟩ := wE_iff.mp h
    cases b with
    | false =>
      rw [lcM_skip e1 e2]
      exact ih (k + 1) ys c1 Q (by omega) hlt (by simpa using h) hf
    | true =>
      rw [if_pos rfl] at h
      obtain ⟨y, c2, e3, h⟩ := wE_iff.mp h
      rw [lcM_step e1 e2 e3, wE_bnd]
      refine ih (k + 1) (ys ++ [y]) c2 _ (by omega) hlt h fun zs c hz => ?_
      show Q (y :: zs) c
      exact hf (y :: zs) c (by rw [List.append_assoc] at hz; exact hz)
@[simp] theorem cAt_set_self {c : List Cell} {i : Nat} {x : Cell} (h : i < c.length) : cAt (c.set i x) i = some x := List.getElem?_set_self h
theorem cAt_lt {c : List Cell} {i : Nat} {x : Cell} (h : cAt c i = some x) : i < c.length := (List.getElem?_eq_some_iff.mp h).1
@[simp] theorem cAt_set_ne {c : List Cell} {i j : Nat} {x : Cell} (h : i ≠ j) : cAt (c.set i x) j = cAt c j := List.getElem?_set_ne h
theorem cAt_app2 {c l : List Cell} {i : Nat} (h : i < c.length) : cAt (c ++ l) i = cAt c i := List.getElem?_append_left h
def Fd (i : Nat) (c : List Cell) : Prop := ∃ J : Feed, cAt c i = some (fc J)
theorem Fd.of {i : Nat} {c : List Cell} {J : Feed} (h : cAt c i = some (fc J)) : Fd i c := ⟨J, h⟩
structure Nx (i : Nat) (c c' : List Cell) : Prop where
  len : c.length ≤ c'.length
  fd : Fd i c → Fd i c'
  at_ : ∀ j, j ≠ i → j < c.length → cAt c' j = cAt c j
theorem Nx.refl {i : Nat} {c : List Cell} : Nx i c c := ⟨Nat.le_refl _, fun h => h, fun _ _ _ => rfl⟩
theorem Nx.trans {i : Nat} {c c' c'' : List Cell} (a : Nx i c c') (b : Nx i c' c'') : Nx i c c'' :=
  ⟨Nat.le_trans a.len b.len, fun h => b.fd (a.fd h), fun j hj hl => (b.at_ j hj (Nat.lt_of_lt_of_le hl a.len)).trans (a.at_ j hj hl)⟩
theorem Nx.app {i : Nat} {c l : List Cell} (h : Fd i c) : Nx i c (c ++ l) := by
  obtain ⟨J, hJ⟩ := h
  exact ⟨by simp, fun _ => Fd.of (J := J) (by rw [cAt_app2 (cAt_lt hJ)]; exact hJ), fun j _ hl => cAt_app2 hl⟩
theorem Nx.set {i n : Nat} {c c' : List Cell} {x : Cell} (h : Nx i c c') (hn : c.length ≤ n) (hi : i < c.length) : Nx i c (c'.set n x) := by
  refine ⟨by rw [List.length_set]; exact h.len, fun hf => ?_, fun j hj hl => ?_⟩
  · obtain ⟨J, hJ⟩ := h.fd hf
    exact Fd.of (J := J) (by rw [cAt_set_ne (by omega)]; exact hJ)
  · rw [cAt_set_ne (by omega)]; exact h.at_ j hj hl
@[simp ↓] theorem wE_lcE {r : Out (List D)} {Q : D → List Cell → Prop} {E : Xc → List Cell → Prop} {t : Tg Q} {u : Tg E} : wE (lcE true r) Q E t u = wE r (fun ys c => ys.length ≤ sizeLine ∧ Q (.lst ys) c) nE := by
  cases r with
  | ok a c =>
    show wE (if a.length ≤ sizeLine then up (some (D.lst a, c)) else .no) Q E t u = _
    by_cases h : a.length ≤ sizeLine
    · rw [if_pos h]; simp [h]
    · rw [if_neg h]; simp [h]
  | ex x c => rfl
  | no => rfl
@[simp ↓] theorem wE_lcEf {r : Out (List D)} {Q : D → List Cell → Prop} {E : Xc → List Cell → Prop} {t : Tg Q} {u : Tg E} : wE (lcE false r) Q E t u = wE r (fun ys c => ys.length ≤ sizeLine ∧ Q (.ref c.length) (c ++ [.lst ys])) nE := by
  cases r with
  | ok a c =>
    show wE (if a.length ≤ sizeLine then up (some (D.ref c.length, c ++ [.lst a])) else .no) Q E t u = _
    by_cases h : a.length ≤ sizeLine
    · rw [if_pos h]; simp [h]
    · rw [if_neg h]; simp [h]
  | ex x c => rfl
  | no => rfl
@[simp ↓] theorem fLZ_e {fa fb : Fe} {σ : Sd} {cs : List Cell} : fLZ fa fb σ cs = (fa σ cs).bnd fun x c1 => (fb σ c1).bnd fun y c2 => up (dLZ x y c2) := id rfl
@[simp] theorem gAl_e {g g' : Gt} {d : D} {σ : Sd} {c : List Cell} : gAl g g' d σ c = altO (g d σ c) (g' d σ c) := by
  unfold gAl altO
  cases g d σ c <;> rfl
@[simp ↓] theorem sAsgAl_e {f : Fe} {g g' : Gt} {σ : Sd} {cs : List Cell} : sAsg f (gAl g g') σ cs = sOfL (f σ cs) σ fun d c => sG (gAl g g' d σ c) c := id rfl
@[simp] theorem gT_lst {n : Nat} {g : Gts} {xs : List D} {σ : Sd} {c : List Cell} : gT n g (.lst xs) σ c = none := id rfl
@[simp] theorem gTL_lst {n : Nat} {g : Gts} {xs : List D} {σ : Sd} {c : List Cell} : gTL n g (.lst xs) σ c = if xs.length = n then g xs σ c else none := id rfl
@[simp ↓] theorem wS_fbO {r : Sr} {k : Sd → List Cell → Sr} {m : Tg k} {P : Po} {p : Tg P} : wS (fbO r k m) P p = wS r ⟨fun σ c => wS (k σ c) P, P.rt, P.nx, fun σ c => wS (k σ c) P, P.ex⟩ := by cases r <;> rfl
abbrev okP (I : Sd → List Cell → Prop) : Po := ⟨I, fun _ _ => False, fun _ _ => False, fun _ _ => False, fun _ _ _ => False⟩
theorem wS_okP {r : Sr} {I : Sd → List Cell → Prop} : wS r (okP I) ↔ ∃ σ c, r = .nx σ c ∧ I σ c := by
  cases r with
  | nx σ c => exact ⟨fun h => ⟨σ, c, rfl, h⟩, fun ⟨_, _, e, h⟩ => by cases e; exact h⟩
  | rt d c => exact ⟨fun h => h.elim, fun ⟨_, _, e, _⟩ => by cases e⟩
  | bk d c => exact ⟨fun h => h.elim, fun ⟨_, _, e, _⟩ => by cases e⟩
  | ct d c => exact ⟨fun h => h.elim, fun ⟨_, _, e, _⟩ => by cases e⟩
  | ex x d c => exact ⟨fun h => h.elim, fun ⟨_, _, e, _⟩ => by cases e⟩
  | no => exact ⟨fun h => h.elim, fun ⟨_, _, e, _⟩ => by cases e⟩
@[simp ↓] theorem wE_lcT {o : Out Bool} {k j : List Cell → Out (List D)} {a : Tg k} {b : Tg j} {Q : List D → List Cell → Prop} {E : Xc → List Cell → Prop} {t : Tg Q} {u : Tg E} : wE (lcT o k j a b) Q E t u = wE o (fun z c => wE (if z = true then k c else j c) Q E) nE := by
  cases o with
  | ok z c => cases z <;> rfl
  | ex x c => rfl
  | no => rfl
@[simp ↓] theorem wE_lcV {o : Out D} {k : D → List Cell → Out (List D)} {a : Tg k} {Q : List D → List Cell → Prop} {E : Xc → List Cell → Prop} {t : Tg Q} {u : Tg E} : wE (lcV o k a) Q E t u = wE o (fun z c => wE (k z c) Q E) nE := by
  cases o <;> rfl
theorem rg1_ok {n : Int} {c : List Cell} (h : -1000 ≤ n ∧ n ≤ 100000) : rgO1 [.int n] c = .ok (rngD 0 n.toNat) c := by
  have r62 : -(2 ^ 62) ≤ n ∧ n < 2 ^ 62 := by omega
  rw [rgO1_i, if_pos r62]
def rgP2 (ds : List D) (c : List Cell) : Out (List D) := match ds with
  | [.int i, .int j] => if -(2 ^ 62) ≤ i ∧ i < 2 ^ 62 ∧ -(2 ^ 62) ≤ j ∧ j < 2 ^ 62 then .ok (rngD i (j - i).toNat) c else .no
  | _ => .no
@[simp ↓] theorem iRg2_e {f : Fa} {σ : Sd} {cs : List Cell} : iRg2 f σ cs = (f σ cs).bnd fun ds c => rgP2 ds c := id rfl
@[simp] theorem rngD2 {lo : Int} : rngD lo 2 = [.int lo, .int (lo + 1)] := by
  show [D.int (lo + ((0 : Nat) : Int)), D.int (lo + ((1 : Nat) : Int))] = _
  simp
def exO (ys : List D) (o : Option (Nat × List D)) (cs : List Cell) : Rs D := match o with
  | some (i, xs) => if xs.length + ys.length ≤ sizeLine then some (.non, cs.set i (.lst (xs ++ ys))) else none
  | none => none
@[simp] theorem exO_s {ys : List D} {i : Nat} {xs : List D} {cs : List Cell} : exO ys (some (i, xs)) cs = if xs.length + ys.length ≤ sizeLine then some (.non, cs.set i (.lst (xs ++ ys))) else none := id rfl
@[simp] theorem mExtend_l {d : D} {ys : List D} {cs : List Cell} : mExtend d [.lst ys] cs = exO ys (cellL d cs) cs := by
  unfold mExtend exO
  cases cellL d cs <;> rfl
@[simp] theorem cAt_mid {c t : List Cell} {x : Cell} : cAt (c ++ x :: t) c.length = some x := by
  unfold cAt
  rw [List.getElem?_append_right (Nat.le_refl _), Nat.sub_self]; rfl
@[simp] theorem set_mid {c t : List Cell} {x y : Cell} : (c ++ x :: t).set c.length y = c ++ y :: t := by
  rw [List.set_append_right _ _ (Nat.le_refl _), Nat.sub_self]; rfl
@[simp] theorem sz0 : 0 ≤ sizeLine := by decide
@[simp] theorem sz1 : 1 ≤ sizeLine := by decide
@[simp] theorem sz2 : 2 ≤ sizeLine := by decide
@[simp] theorem sz3 : 3 ≤ sizeLine := by decide
@[simp] theorem sz4 : 4 ≤ sizeLine := by decide
@[simp] theorem sz5 : 5 ≤ sizeLine := by decide
@[simp] theorem sz6 : 6 ≤ sizeLine := by decide
@[simp] theorem sz7 : 7 ≤ sizeLine := by decide
@[simp] theorem sz8 : 8 ≤ sizeLine := by decide
@[simp] theorem sz9 : 9 ≤ sizeLine := by decide
@[simp] theorem sz10 : 10 ≤ sizeLine := by decide
@[simp] theorem sz11 : 11 ≤ sizeLine := by decide
@[simp] theorem sz12 : 12 ≤ sizeLine := by decide
@[simp] theorem sz20 : 20 ≤ sizeLine := by decide
@[simp] theorem sz21 : 21 ≤ sizeLine := by decide
@[simp] theorem sz63 : 63 ≤ sizeLine := by decide
@[simp] theorem sz100 : 100 ≤ sizeLine := by decide
@[simp] theorem sz299 : 299 ≤ sizeLine := by decide
@[simp] theorem sz300 : 300 ≤ sizeLine := by decide
@[simp] theorem sz301 : 301 ≤ sizeLine := by decide
@[simp] theorem szl0 : 0 < sizeLine := by decide
@[simp] theorem szl1 : 1 < sizeLine := by decide
@[simp] theorem szl2 : 2 < sizeLine := by decide
@[simp] theorem szl3 : 3 < sizeLine := by decide
@[simp] theorem szl4 : 4 < sizeLine := by decide
@[simp] theorem szl5 : 5 < sizeLine := by decide
@[simp] theorem szl6 : 6 < sizeLine := by decide
@[simp] theorem szl7 : 7 < sizeLine := by decide
@[simp] theorem szl8 : 8 < sizeLine := by decide
@[simp] theorem szl9 : 9 < sizeLine := by decide
@[simp] theorem szl10 : 10 < sizeLine := by decide
@[simp] theorem szl11 : 11 < sizeLine := by decide
@[simp] theorem szl12 : 12 < sizeLine := by decide
@[simp] theorem szl20 : 20 < sizeLine := by decide
@[simp] theorem szl300 : 300 < sizeLine := by decide
end PV
namespace PV
open PySem PySem.Spec PyProof.Rows L2
def hasE (wr wc : List Int) (ys : List Ce) : Bool := wr.all (fun e => ys.any fun p => decide (p.1 = e)) && wc.all (fun e => ys.any fun p => decide (p.2 = e))
theorem all_wo (w : List Int) (f : Ce → Int) (c : Ce) (ys : List Ce) : (w.all fun e => (c :: ys).any fun p => decide (f p = e)) = ((wo w (f c)).all fun e => ys.any fun p => decide (f p = e)) := by
  unfold wo
  induction w with
  | nil => rfl
  | cons e w ih =>
    rw [List.all_cons, ih]
    by_cases h : e = f c
    · rw [List.filter_cons_of_neg (by simpa using h)]
      rw [List.any_cons, decide_eq_true h.symm]
      simp
    · rw [List.filter_cons_of_pos (by simpa using h), List.all_cons, List.any_cons, decide_eq_false (fun z => h z.symm)]
      simp
theorem hasE_cons (wr wc : List Int) (c : Ce) (ys : List Ce) : hasE wr wc (c :: ys) = hasE (wo wr c.1) (wo wc c.2) ys := by
  unfold hasE
  rw [all_wo wr (fun p => p.1), all_wo wc (fun p => p.2)]
theorem dRepr_int1 {x : Int} (h : sm x) (c : List Cell) : dRepr [.int x] c = some (.str (PyData.int x).shown, c) := by
  rw [dRepr_i, repO_s ((pk_int h).rep rfl)]
structure Gw (c c' : List Cell) : Prop where
  len : c.length ≤ c'.length
  at_ : ∀ j, j < c.length → cAt c' j = cAt c j
theorem Gw.refl {c : List Cell} : Gw c c := ⟨Nat.le_refl _, fun _ _ => rfl⟩
theorem Gw.trans {c c' c'' : List Cell} (a : Gw c c') (b : Gw c' c'') : Gw c c'' := ⟨Nat.le_trans a.len b.len, fun j h => (b.at_ j (Nat.lt_of_lt_of_le h a.len)).trans (a.at_ j h)⟩
theorem Gw.app {c l : List Cell} : Gw c (c ++ l) := ⟨by simp, fun _ h => cAt_app2 h⟩
theorem Gw.set {c c' : List Cell} {n : Nat} {x : Cell} (h : Gw c c') (hn : c.length ≤ n) : Gw c (c'.set n x) :=
  ⟨by rw [List.length_set]; exact h.len, fun j hj => by rw [cAt_set_ne (by omega)]; exact h.at_ j hj⟩
theorem Gw.cell {c c' : List Cell} {n : Nat} {x : Cell} (h : Gw c c') (e : cAt c n = some x) : cAt c' n = some x := by rw [h.at_ n (cAt_lt e)]; exact e
theorem Gw.nx {i : Nat} {c c' : List Cell} (h : Gw c c') : Nx i c c' := ⟨h.len, fun f => by
  obtain ⟨J, hJ⟩ := f
  exact Fd.of (h.cell hJ), fun j _ hl => h.at_ j hl⟩
end PV
namespace PV
open PySem PySem.Spec PyProof.Rows L2
def augO (x : Option (Option D)) (o : Out D) (op : Int → Int → Int) (i : Nat) (σ : Sd) : Sr := match x with
  | some (some (.int a)) => sOf o σ fun d c => match d with
    | .int b => .nx (σ.set i (some (.int (op a b)))) c
    | _ => .no
  | _ => .no
@[simp] theorem sAug_e {i : Nat} {op : Int → Int → Int} {f : Fe} {σ : Sd} {cs : List Cell} : sAug i op f σ cs = augO σ[i]? (f σ cs) op i σ := id rfl
@[simp] theorem augO_i {a b : Int} {c : List Cell} {op : Int → Int → Int} {i : Nat} {σ : Sd} : augO (some (some (.int a))) (.ok (.int b) c) op i σ = .nx (σ.set i (some (.int (op a b)))) c := id rfl
theorem cut_in {α : Type} (x y : α) (xs : List α) : cut (x :: (xs ++ [y])) (some 1) (some (-1)) = xs := by
  have e : (x :: (xs ++ [y])).length = xs.length + 2 := by simp
  unfold cut
  rw [e]
  have h1 : HT.sIx (xs.length + 2) 0 (some 1) = 1 := by unfold HT.sIx; simp; try omega
  have h2 : HT.sIx (xs.length + 2) (xs.length + 2) (some (-1)) = xs.length + 1 := by unfold HT.sIx; simp; try omega
  rw [h1, h2]
  simp
def Cn : Int → List (Int × Int) → Int → Prop
  | s, [], e => s = e
  | s, (st, sz) :: r, e => st = s ∧ 0 < sz ∧ Cn (s + sz) r e
theorem Cn.le : ∀ {gs : List (Int × Int)} {s e : Int}, Cn s gs e → s ≤ e
  | [], _, _, h => by have h : _ = _ := h; omega
  | (st, sz) :: r, s, e, h => by
    obtain ⟨_, h2, h3⟩ := h
    have := h3.le
    omega
theorem Cn.grps {lo hi : Int} (h : lo ≤ hi) : Cn lo (grps lo hi) (hi + 1) := by
  unfold PV.grps
  split
  · refine ⟨rfl, by omega, ?_⟩
    show lo + 1 = hi + 1
    omega
  · split
    · refine ⟨rfl, by omega, rfl, by omega, ?_, by omega, ?_⟩
      · omega
      · show _ = _
        omega
    · refine ⟨rfl, by omega, ?_, by omega, ?_⟩
      · omega
      · show _ = _
        omega
def psm (wt : Int → Int) : List (Int × Int) → Int → Int
  | [], _ => 0
  | (st, sz) :: r, p => max 0 (min sz (p - st)) * wt st + psm wt r p
def Even (wt : Int → Int) (gs : List (Int × Int)) : Prop := ∀ g ∈ gs, ∀ q, 0 ≤ q → q < g.2 → wt (g.1 + q) = wt g.1
theorem Even.tail {wt : Int → Int} {g : Int × Int} {gs : List (Int × Int)} (h : Even wt (g :: gs)) : Even wt gs := fun x hx => h x (List.mem_cons_of_mem _ hx)
theorem Even.head {wt : Int → Int} {st sz : Int} {gs : List (Int × Int)} (h : Even wt ((st, sz) :: gs)) {p : Int} (h1 : st ≤ p) (h2 : p < st + sz) : wt p = wt st := by
  have := h (st, sz) (List.mem_cons_self ..) (p - st) (by omega) (by simp only; omega)
  simp only at this
  rw [← this]
  congr 1
  omega
def wtF (s : Int) (w : List Int) (k : Nat) (f : Int) (st : Int) : Int := nof s (wo w st).length k * f
def below (lo hi : Int) (w : List Int) (k : Nat) (f p : Int) : Int := psm (wtF (hi - lo + 1) w k f) (grps lo hi) p
section
variable {lo hi : Int} {w : List Int} (h : Ends' lo hi w) (k : Nat) {f : Int} (hf : 0 ≤ f)
include h hf
end
def rk (r0 r1 c0 c1 : Int) : List Int → List Int → List Ce → Int
  | _, _, [] => 0
  | wr, wc, p :: ys => below r0 r1 wr ys.length (nof (c1 - c0 + 1) wc.length (ys.length + 1)) p.1 + (below c0 c1 wc ys.length (nof (r1 - r0 + 1) (wo wr p.1).length ys.length) p.2 + rk r0 r1 c0 c1 (wo wr p.1) (wo wc p.2) ys)
structure Gd (r0 r1 c0 c1 : Int) (wr wc : List Int) (ys : List Ce) : Prop where
  er : Ends' r0 r1 wr
  ec : Ends' c0 c1 wc
  inn : ∀ p ∈ ys, r0 ≤ p.1 ∧ p.1 ≤ r1 ∧ c0 ≤ p.2 ∧ p.2 ≤ c1
  has : hasE wr wc ys = true
section
variable {r0 r1 c0 c1 : Int}
theorem Gd.tail {wr wc : List Int} {p : Ce} {ys : List Ce} (g : Gd r0 r1 c0 c1 wr wc (p :: ys)) : Gd r0 r1 c0 c1 (wo wr p.1) (wo wc p.2) ys :=
  ⟨g.er.wo _, g.ec.wo _, fun q hq => g.inn q (List.mem_cons_of_mem _ hq), by rw [← hasE_cons]; exact g.has⟩
end
end PV
namespace PV
open PySem PySem.Spec PyProof.Rows L2
def next0 : Fs := (sIf (fTst (fOp2 dGt (fOp2 dIx (fVar 0) (fC (.int 0))) (fC (.int 0)))) (sSeq (sAsg (fOp2 dMod (fOp2 dIx (fVar 0) (fC (.int 0))) (fVar 1)) (gN 2)) (sSeq (sSub (fOp2 dFdiv (fOp2 dIx (fVar 0) (fC (.int 0))) (fVar 1)) (fVar 0) (fC (.int 0))) (sRet (fVar 2)))) sNx)
def next2 : Fs := (sAsg (fOp2 dMod (fOp2 dPow (fOp2 (dAdd true) (fOp2 dIx (fVar 0) (fC (.int 1))) (fOp2 (dMul true) (fC (.int 998244353)) (fOp2 dIx (fVar 0) (fC (.int 2))))) (fC (.int 3))) (fOp2 (dAdd true) (fOp2 dPow (fC (.int 10)) (fC (.int 64))) (fC (.int 57)))) (gN 3))
def next3 : Fs := (sAsg (fOp2 dMod (fOp2 dPow (fOp2 (dAdd true) (fVar 3) (fOp2 (dMul true) (fC (.int 1000000093)) (fOp2 dIx (fVar 0) (fC (.int 2))))) (fC (.int 3))) (fOp2 (dAdd true) (fOp2 dPow (fC (.int 10)) (fC (.int 64))) (fC (.int 9)))) (gN 3))
def nextB : Fs := (sSeq next0 (sSeq (sSub (fOp2 (dAdd true) (fOp2 dIx (fVar 0) (fC (.int 2))) (fC (.int 1))) (fVar 0) (fC (.int 2))) (sSeq next2 (sSeq next3 (sRet (fOp2 dMod (fOp2 dFdiv (fVar 3) (fC (.int 30011))) (fVar 1)))))))
def nextF : List D → List Cell → Out D := runDef 2 4 nextB
def tapeB : Fs := (sSeq (sAsg (fIfE (fTst (fOp2 dLt (fVar 1) (fCB dLen (aCons (fVar 0) aNil)))) (fCB dAbs (aCons (fOp2 dIx (fVar 0) (fVar 1)) aNil)) (fC (.int 0))) (gN 2)) (sRet (fLst false (aCons (fCB dMax (aCons (fC (.int 0)) (aCons (fOp2 dSub (fVar 2) (fOp2 dPow (fC (.int 10)) (fC (.int 18)))) aNil))) (aCons (fOp2 (dAdd true) (fOp2 (dMul true) (fOp2 dMod (fVar 2) (fOp2 (dAdd true) (fOp2 dPow (fC (.int 10)) (fC (.int 40))) (fC (.int 121)))) (fC (.int 79))) (fVar 1)) (aCons (fC (.int 0)) aNil))))))
def tapeF : List D → List Cell → Out D := runDef 2 3 tapeB
def TFd (K i : Nat) (c : List Cell) : Prop := ∃ a b n : Int, cAt c i = some (.lst [.int a, .int b, .int n]) ∧ 0 ≤ b ∧ b < 2 ^ 200 ∧ 0 ≤ n ∧ n ≤ K
structure TN (N i : Nat) (c c' : List Cell) : Prop where
  len : c.length ≤ c'.length
  fd : ∀ K, TFd K i c → TFd (K + N) i c'
  at_ : ∀ j, j ≠ i → j < c.length → cAt c' j = cAt c j
theorem TFd.lt {K i : Nat} {c : List Cell} (h : TFd K i c) : i < c.length := by
  obtain ⟨a, b, n, h, _⟩ := h
  exact cAt_lt h
theorem TFd.mono {K L i : Nat} {c : List Cell} (h : TFd K i c) (hl : K ≤ L) : TFd L i c := by
  obtain ⟨a, b, n, h, h1, h2, h3, h4⟩ := h
  exact ⟨a, b, n, h, h1, h2, h3, by omega⟩
theorem TN.refl {i : Nat} {c : List Cell} : TN 0 i c c := ⟨Nat.le_refl _, fun _ h => h, fun _ _ _ => rfl⟩
theorem TN.trans {M N i : Nat} {c c' c'' : List Cell} (a : TN M i c c') (b : TN N i c' c'') : TN (M + N) i c c'' :=
  ⟨Nat.le_trans a.len b.len, fun K h => by have := b.fd _ (a.fd K h); rwa [Nat.add_assoc] at this, fun j hj hl => (b.at_ j hj (Nat.lt_of_lt_of_le hl a.len)).trans (a.at_ j hj hl)⟩
theorem TN.mono {M N i : Nat} {c c' : List Cell} (a : TN M i c c') (h : M ≤ N) : TN N i c c' := ⟨a.len, fun K f => (a.fd K f).mono (by omega), a.at_⟩
theorem TN.gw {i : Nat} {c c' : List Cell} (h : Gw c c') : TN 0 i c c' := ⟨h.len, fun K f => by
  obtain ⟨a, b, n, e, r⟩ := f
  exact ⟨a, b, n, by rw [h.at_ i (cAt_lt e)]; exact e, r⟩, fun j _ hl => h.at_ j hl⟩
theorem TN.set {N i n : Nat} {c c' : List Cell} {x : Cell} (h : TN N i c c') (hn : c.length ≤ n) (hi : i < c.length) : TN N i c (c'.set n x) := by
  refine ⟨by rw [List.length_set]; exact h.len, fun K hf => ?_, fun j hj hl => ?_⟩
  · obtain ⟨a, b, m, e, r⟩ := h.fd K hf
    exact ⟨a, b, m, by rw [cAt_set_ne (by omega)]; exact e, r⟩
  · rw [cAt_set_ne (by omega)]; exact h.at_ j hj hl
theorem next_tx {K i : Nat} {c : List Cell} {m : Int} (h : TFd K i c) (hK : K ≤ 10 ^ 9) (h0 : 0 < m) (h1 : m < 2 ^ 200) : wE (nextF [.ref i, .int m] c) (fun d c' => ∃ v : Int, d = .int v ∧ 0 ≤ v ∧ v < m ∧ TN 1 i c c' ∧ c'.length = c.length) nE := by
  obtain ⟨a, b, n, hc, b0, b1, n0, n1⟩ := h
  have lt := cAt_lt hc
  have hm : m.natAbs.log2 < 9000 := log_mono (log_lt (k := 200) (by decide) (by omega) h1) (by decide)
  have hd : divOk m := ⟨h0, hm⟩
  unfold nextF
  refine wE_run rfl ?_
  show wS (nextB [some (.ref i), some (.int m), none, none] c) _
  obtain ⟨T, hT⟩ : ∃ T : Int, T = 10 ^ 64 := ⟨_, rfl⟩
  have p64 : ∀ c, dPow (.int 10) (.int 64) c = some (.int T, c) := fun c => by rw [hT]; rfl
  have T0 : 0 < T := by rw [hT]; decide
  have T1 : T < 2 ^ 220 := by rw [hT]; decide
  have i0 : ixN 3 0 = some 0 := rfl
  have i2 : ixN 3 2 = some 2 := rfl
  have m1 : ∀ k, mulOk 998244353 k := fun k => mulL (by decide) (by decide)
  have m2 : ∀ k, mulOk 1000000093 k := fun k => mulL (by decide) (by decide)
  have dv : divOk 30011 := by decide +kernel
  have pw : ∀ x : Int, -(2 ^ 240) < x → x < 2 ^ 240 → ∀ c, dPow (.int x) (.int 3) c = some (.int (x ^ 3), c) := fun x x0 x1 c => by
    have : powOk x 3 := ⟨by decide, by decide, Nat.lt_of_le_of_lt (Nat.le_of_lt (log_lt (k := 240) (by decide) (by omega) x1)) (by decide)⟩
    rw [dPow_i, if_pos this]
    rfl
  have g57 : 0 < T + 57 := by omega
  have g9 : 0 < T + 9 := by omega
  obtain ⟨x, hx⟩ : ∃ x : Int, x = b + 998244353 * (n + 1) := ⟨_, rfl⟩
  have px := pw x (by omega) (by omega)
  obtain ⟨y, hy⟩ : ∃ y : Int, y = x ^ 3 % (T + 57) := ⟨_, rfl⟩
  have y0 : 0 ≤ y := by rw [hy]; exact Int.emod_nonneg _ (by omega)
  have y1 : y < T + 57 := by rw [hy]; exact Int.emod_lt_of_pos _ (by omega)
  obtain ⟨z, hz⟩ : ∃ z : Int, z = y + 1000000093 * (n + 1) := ⟨_, rfl⟩
  have pz := pw z (by omega) (by omega)
  unfold nextB next0 next2 next3
  by_cases q : 0 < a
  · simp [hc, q, hd, h0, lt, i0]
    refine ⟨Int.emod_nonneg _ (by omega), Int.emod_lt_of_pos _ h0, by simp, fun L ⟨a', b', n', e, r⟩ => ?_, fun j hj hl => cAt_set_ne (by omega)⟩
    rw [hc] at e
    cases e
    exact ⟨a / m, b, n, cAt_set_self lt, r.1, r.2.1, r.2.2.1, by omega⟩
  · simp [hc, q, lt, i0, i2, p64, m1, m2, ← hx, px, g57, ← hy, ← hz, pz, g9, dv, h0]
    refine ⟨Int.emod_nonneg _ (by omega), Int.emod_lt_of_pos _ h0, by simp, fun L ⟨a', b', n', e, r⟩ => ?_, fun j hj hl => cAt_set_ne (by omega)⟩
    rw [hc] at e
    cases e
    exact ⟨a, b, n + 1, cAt_set_self lt, r.1, r.2.1, by omega, by omega⟩
theorem tape_tx (ns : List Int) (k : Nat) (hk : k ≤ 63) (c : List Cell) : wE (tapeF [.arg (ns.map D.int), .int k] c) (fun d c' => d = .ref c.length ∧ TFd 0 c.length c' ∧ Gw c c') nE := by
  obtain ⟨T, hT⟩ : ∃ T : Int, T = 10 ^ 40 := ⟨_, rfl⟩
  obtain ⟨E, hE⟩ : ∃ E : Int, E = 10 ^ 18 := ⟨_, rfl⟩
  have p40 : ∀ c, dPow (.int 10) (.int 40) c = some (.int T, c) := fun c => by rw [hT]; rfl
  have p18 : ∀ c, dPow (.int 10) (.int 18) c = some (.int E, c) := fun c => by rw [hE]; rfl
  have T0 : 0 < T + 121 := by rw [hT]; decide
  have T1 : T + 121 < 2 ^ 150 := by rw [hT]; decide
  have m1 : ∀ x, mulOk x 79 := fun x => mulR (by decide) (by decide)
  have key : ∀ x : Int, 0 ≤ x → 0 ≤ x % (T + 121) * 79 + (k : Int) ∧ x % (T + 121) * 79 + (k : Int) < 2 ^ 200 := fun x x0 => by
    have a := Int.emod_nonneg x (show T + 121 ≠ 0 by omega)
    have b := Int.emod_lt_of_pos x T0
    generalize x % (T + 121) = y at *
    omega
  unfold tapeF
  refine wE_run rfl ?_
  show wS (tapeB [some (.arg (ns.map D.int)), some (.int k), none] c) _
  unfold tapeB
  by_cases h : k < ns.length
  · obtain ⟨y, hy⟩ : ∃ y : Int, y = ns[k] := ⟨_, rfl⟩
    have e : atI (ns.map D.int) (k : Int) = some (.int y) := atI_nat (by rw [List.getElem?_map, List.getElem?_eq_getElem h, hy]; rfl)
    simp [h, e, p40, p18, m1, T0]
    obtain ⟨k0, k1⟩ := key (if y < 0 then -y else y) (by split <;> omega)
    exact ⟨⟨_, _, _, cAt_mid, k0, k1, by decide, by decide⟩, Gw.app⟩
  · simp [h, p40, p18, m1, T0]
    have : (63 : Int) < 2 ^ 200 := by decide
    exact ⟨⟨_, _, _, cAt_mid, by omega, by omega, by decide, by decide⟩, Gw.app⟩
end PV
namespace PV
open PySem PySem.Spec PyProof.Rows L2
def dg (m : Nat) : List Nat := (Nat.toDigits 10 m).map Char.toNat
theorem itx_nat (m : Nat) : itx (m : Int) = ⟨(dg m).toArray⟩ := text_ofNat m
theorem digit_code : ∀ d : Nat, d < 10 → (Nat.digitChar d).toNat = 48 + d := by decide
theorem dg_lt {m : Nat} (h : m < 10) : dg m = [48 + m] := by
  unfold dg
  rw [Nat.toDigits_of_lt_base h]
  show [(Nat.digitChar m).toNat] = _
  rw [digit_code m h]
theorem dg_ge {m : Nat} (h : 10 ≤ m) : dg m = dg (m / 10) ++ [48 + m % 10] := by
  unfold dg
  rw [Nat.toDigits_of_base_le (by decide) h, List.map_append]
  show _ ++ [(Nat.digitChar (m % 10)).toNat] = _
  rw [digit_code _ (Nat.mod_lt m (by decide))]
theorem dg_mem {m k : Nat} : k ∈ dg m → 48 ≤ k ∧ k ≤ 57 := by
  induction m using Nat.strongRecOn with
  | _ m ih =>
    by_cases h : m < 10
    · rw [dg_lt h]
      intro hk
      have : k = 48 + m := by simpa using hk
      omega
    · rw [dg_ge (by omega)]
      intro hk
      rcases List.mem_append.mp hk with hk | hk
      · exact ih (m / 10) (by omega) hk
      · have : k = 48 + m % 10 := by simpa using hk
        omega
def dval (l : List Nat) : Nat := l.foldl (fun a c => a * 10 + (c - 48)) 0
theorem dval_snoc (l : List Nat) (c : Nat) : dval (l ++ [c]) = dval l * 10 + (c - 48) := by simp [dval]
theorem ofString_app (a b : String) : Str.ofString (a ++ b) = Str.ofString a ++ Str.ofString b := by
  rw [Str.ofString_eq_toList, Str.ofString_eq_toList, Str.ofString_eq_toList]
  refine Str.ext' ?_
  rw [Str.cps_append]
  simp
theorem itx_neg (m : Nat) : itx (Int.negSucc m) = "-" ++ itx ((m + 1 : Nat) : Int) := by
  show Str.ofString ("-" ++ Nat.repr (m + 1)) = Str.ofString "-" ++ Str.ofString (Nat.repr (m + 1))
  exact ofString_app _ _
def idg (i : Int) : List Nat := if i < 0 then 45 :: dg i.natAbs else dg i.natAbs
theorem itx_idg (i : Int) : (itx i).cps.toList = idg i := by
  cases i with
  | ofNat m =>
    have := itx_nat m
    show (itx (m : Int)).cps.toList = _
    rw [this]
    unfold idg
    rw [if_neg (by show ¬ ((m : Int) < 0); omega)]
    rfl
  | negSucc m =>
    rw [itx_neg, cps_toList_append]
    have := itx_nat (m + 1)
    rw [this]
    unfold idg
    rw [if_pos (Int.negSucc_lt_zero m)]
    have e : (("-" : String) : Str).cps.toList = [45] := by decide +kernel
    rw [e]
    rfl
theorem idg_mem {i : Int} {k : Nat} (h : k ∈ idg i) : k = 45 ∨ (48 ≤ k ∧ k ≤ 57) := by
  unfold idg at h
  split at h
  · rcases List.mem_cons.mp h with e | h
    · exact .inl e
    · exact .inr (dg_mem h)
  · exact .inr (dg_mem h)
end PV
namespace PV
open PySem PySem.Spec PyProof.Rows L2
def T (l : List Nat) : Str := ⟨l.toArray⟩
theorem T_tl (l : List Nat) : (T l).cps.toList = l := by unfold T; simp
theorem T_of (x : Str) : T x.cps.toList = x := by unfold T; rfl
theorem T_inj {a b : List Nat} (h : T a = T b) : a = b := by
  have := congrArg (fun x : Str => x.cps.toList) h
  simpa [T_tl] using this
theorem T_len (l : List Nat) : (T l).length = l.length := by unfold T; simp [Str.length]
theorem T_app (a b : List Nat) : T a ++ T b = T (a ++ b) := by
  refine TL.ext_tl ?_
  rw [TL.tl_append]
  show (T a).cps.toList ++ (T b).cps.toList = (T (a ++ b)).cps.toList
  rw [T_tl, T_tl, T_tl]
theorem T_itx (i : Int) : itx i = T (idg i) := by rw [← itx_idg, T_of]
theorem T_cut (l : List Nat) (lo hi : Option Int) : cutS (T l) lo hi = T (cut l lo hi) := by
  unfold cutS cut
  rw [T_tl, T_len]
  rfl
theorem T_okS {l : List Nat} (h : ∀ k ∈ l, k < 0x110000) : okS (T l) := by
  unfold okS
  rw [T_tl]
  exact h
theorem dSl_T {fz : Bool} {l : List Nat} (h : l.length ≤ sizeLine) (lo hi : Option Int) (cs : List Cell) : dSl fz (.str (T l)) lo hi cs = some (.str (T (cut l lo hi)), cs) := by
  show (if (T l).length ≤ sizeLine then some (D.str (cutS (T l) lo hi), cs) else none) = _
  rw [T_len, if_pos h, T_cut]
theorem dIx_T {l : List Nat} (h : l.length ≤ sizeLine) (i : Int) (cs : List Cell) : dIx (.str (T l)) (.int i) cs = (atI l i).map fun c => (.str (T [c]), cs) := by
  show (if (T l).length ≤ sizeLine then (atI (T l).cps.toList i).map fun c => (D.str ⟨#[c]⟩, cs) else none) = _
  rw [T_len, if_pos h, T_tl]
  rfl
theorem dEq_T (n : Bool) {a b : List Nat} (ha : ∀ k ∈ a, k < 0x110000) (hb : ∀ k ∈ b, k < 0x110000) (cs : List Cell) : dEq n (.str (T a)) (.str (T b)) cs = some (.bl (if n then !decide (a = b) else decide (a = b)), cs) := by
  rw [dEq_s (T_okS ha) (T_okS hb)]
  have e : decide (T a = T b) = decide (a = b) := decide_eq_decide.mpr ⟨T_inj, fun h => by rw [h]⟩
  rw [e]
theorem dAdd_T {fz : Bool} {a b : List Nat} (h : a.length + b.length ≤ sizeLine) (cs : List Cell) : dAdd fz (.str (T a)) (.str (T b)) cs = some (.str (T (a ++ b)), cs) := by
  rw [dAdd_s, T_len, T_len, if_pos h, T_app]
theorem dLen_T {l : List Nat} (h : l.length ≤ sizeLine) (cs : List Cell) : dLen [.str (T l)] cs = some (.int l.length, cs) := by
  show (if (T l).length ≤ sizeLine then some (D.int ((T l).length : Nat), cs) else none) = _
  rw [T_len, if_pos h]
theorem dInS_T (c : Nat) (l : List Nat) (cs : List Cell) : dInS false (.str (T [c])) (.str (T l)) cs = some (.bl (decide (c ∈ l)), cs) := by
  unfold dInS
  simp only [T_tl]
  rfl
def txO (d : D) (c : List Cell) : Out (List D) := match d with
  | .str z => .ok (signs z) c
  | _ => .no
@[simp ↓] theorem iTx_e {f : Fe} {σ : Sd} {cs : List Cell} : iTx f σ cs = (f σ cs).bnd fun d c => txO d c := id rfl
@[simp] theorem txO_T {l : List Nat} {c : List Cell} : txO (.str (T l)) c = .ok (l.map fun c => .str (T [c])) c := by
  show Out.ok (signs (T l)) c = _
  unfold signs
  rw [T_tl]
  rfl
theorem dStrC_i {i : Int} (h : i.natAbs.log2 < 1920) (cs : List Cell) : dStrC [.int i] cs = some (.str (T (idg i)), cs) := by
  show (if i.natAbs.log2 < 1920 then some (D.str (itx i), cs) else none) = _
  rw [if_pos h, T_itx]
theorem intText_dg {n : Nat} (h : (dg n).length ≤ 600) : PySem.intText? (T (dg n)) = some (n : Int) := by
  have e : T (dg n) = Str.ofString (toString ((n : Nat) : Int)) := by
    rw [show Str.ofString (toString ((n : Nat) : Int)) = itx (n : Int) from rfl, itx_nat]
    rfl
  rw [e]
  refine TL.int_num ?_
  have : TL.numL n = dg n := by
    have := TL.tl_num n
    rw [show Str.ofString (toString ((n : Nat) : Int)) = itx (n : Int) from rfl, itx_nat] at this
    rw [← this]
  rw [this]
  omega
theorem dIntS_dg {n : Nat} (h : (dg n).length ≤ 600) (cs : List Cell) : dIntS [.str (T (dg n))] cs = some (.int n, cs) := by
  unfold dIntS
  simp only [intText_dg h]
  rw [T_len, if_pos (by omega)]
theorem dg_len {n k : Nat} (hk : 0 < k) (h : n < 10 ^ k) : (dg n).length ≤ k := by
  have : TL.numL n = dg n := by
    have := TL.tl_num n
    rw [show Str.ofString (toString ((n : Nat) : Int)) = itx (n : Int) from rfl, itx_nat] at this
    rw [← this]
  rw [← this]
  exact TL.numL_len hk h
theorem cut_la {α : Type} (xs : List α) (x : α) : cut (xs ++ [x]) (some (-1)) none = [x] := by
  have e : (xs ++ [x]).length = xs.length + 1 := by simp
  unfold cut
  rw [e]
  have h1 : HT.sIx (xs.length + 1) 0 (some (-1)) = xs.length := by unfold HT.sIx; simp; try omega
  have h2 : HT.sIx (xs.length + 1) (xs.length + 1) none = xs.length + 1 := rfl
  rw [h1, h2]
  simp
def smO (d : D) (r : Out D) (t : Tg r := .mk) : Out D := match d with
  | .str _ => r
  | _ => .no
@[simp ↓] theorem fSm_e {g : G2} {fo fa : Fe} {σ : Sd} {cs : List Cell} : fSm g fo fa σ cs = (fo σ cs).bnd fun d c1 => smO d ((fa σ c1).bnd fun y c2 => up (g d y c2)) := id rfl
@[simp ↓] theorem smO_s {x : Str} {r : Out D} {t : Tg r} : smO (.str x) r t = r := id rfl
theorem strsD_T : ∀ ws : List (List Nat), strsD (ws.map fun w => .str (T w)) = some (ws.map T)
  | [] => rfl
  | w :: ws => by
    show (match strsD (ws.map fun w => .str (T w)) with | some ys => some (T w :: ys) | none => none) = _
    rw [strsD_T ws]
    rfl
theorem sJoin_T (a : List Nat) (ws : List (List Nat)) (cs : List Cell) (h : (ws.map (·.length)).sum + ws.length * a.length ≤ 16777216) : sJoin (.str (T a)) (.lst (ws.map fun w => .str (T w))) cs = some (.str (T (TL.joinL a ws)), cs) := by
  have e : (ws.map T).map (·.length) = ws.map (·.length) := by
    rw [List.map_map]
    exact List.map_congr_left fun w _ => T_len w
  have j : Txt.join (T a) (ws.map T) = T (TL.joinL a ws) := SX.join_S a ws
  have sq : seqOf cs (.lst (ws.map fun w => D.str (T w))) = some (ws.map fun w => D.str (T w)) := rfl
  unfold sJoin
  simp only [sq, strsD_T]
  rw [e, List.length_map, T_len, if_pos h, j]
theorem sSplit_T (fz : Bool) (s : Nat) (ws : List (List Nat)) (hs : s < 256) (hne : ws ≠ []) (hp : ∀ w ∈ ws, s ∉ w) (hl : (TL.joinL [s] ws).length + 2 ≤ sizeLine) (cs : List Cell) : sSplit fz (.str (T (TL.joinL [s] ws))) (.str (T [s])) cs = mkL fz (ws.map fun w => .str (T w)) cs := by
  have j : Txt.join (T [s]) (ws.map T) = T (TL.joinL [s] ws) := SX.join_S [s] ws
  have sp := TL.split_join (y := T [s]) (s := s) (S := []) (T_tl [s]) (by
    rw [← Array.all_toList]
    show (T [s]).cps.toList.all _ = true
    rw [T_tl]
    simpa using hs) (parts := ws.map T) (by simpa using hne) (fun p hp' => by
    obtain ⟨w, hw, rfl⟩ := List.mem_map.mp hp'
    show s ∉ (T w).cps.toList
    rw [T_tl]
    exact hp w hw)
  rw [j] at sp
  have b0 : ((T [s]).length == 0) = false := by rw [T_len]; rfl
  show (if ((T [s]).length == 0) = false ∧ (T (TL.joinL [s] ws)).length + 2 ≤ sizeLine then mkL fz ((Txt.split (T (TL.joinL [s] ws)) (T [s])).map .str) cs else none) = _
  rw [if_pos ⟨b0, by rw [T_len]; exact hl⟩, sp, List.map_map]
  rfl
theorem log_lt_of {n k : Nat} (h : n < 2 ^ k) : n.log2 ≤ k := by
  by_cases z : n = 0
  · subst z; simp
  · exact Nat.le_of_lt ((Nat.log2_lt z).mpr h)
end PV
namespace PV
open PySem PySem.Spec PyProof.Rows L2
def spl (s : Nat) : List Nat → List (List Nat)
  | [] => [[]]
  | x :: l => if x = s then [] :: spl s l else match spl s l with
    | w :: ws => (x :: w) :: ws
    | [] => [[x]]
theorem spl_ne (s : Nat) (l : List Nat) : spl s l ≠ [] := by
  cases l with
  | nil => simp [spl]
  | cons x l =>
    unfold spl
    split
    · simp
    · split <;> simp
theorem spl_hit {s : Nat} {l : List Nat} : spl s (s :: l) = [] :: spl s l := by rw [spl, if_pos rfl]
theorem spl_miss {s x : Nat} {l : List Nat} (h : x ≠ s) {w : List Nat} {ws : List (List Nat)} (e : spl s l = w :: ws) : spl s (x :: l) = (x :: w) :: ws := by rw [spl, if_neg h, e]
theorem spl_no (s : Nat) : ∀ l : List Nat, ∀ w ∈ spl s l, s ∉ w
  | [], w, hw => by simp [spl] at hw; rw [hw]; simp
  | x :: l, w, hw => by
    obtain ⟨v, vs, e⟩ := List.exists_cons_of_ne_nil (spl_ne s l)
    have ih := spl_no s l
    by_cases q : x = s
    · subst q
      rw [spl_hit] at hw
      rcases List.mem_cons.mp hw with h | h
      · rw [h]; simp
      · exact ih w h
    · rw [spl_miss q e] at hw
      rcases List.mem_cons.mp hw with h | h
      · rw [h]
        intro z
        rcases List.mem_cons.mp z with z | z
        · exact q z.symm
        · exact ih v (by rw [e]; simp) z
      · exact ih w (by rw [e]; exact List.mem_cons_of_mem _ h)
theorem joinL_cc (s : Nat) (x : Nat) (w : List Nat) (ws : List (List Nat)) : TL.joinL [s] ((x :: w) :: ws) = x :: TL.joinL [s] (w :: ws) := by
  cases ws <;> rfl
theorem joinL_nil (s : Nat) {ws : List (List Nat)} (h : ws ≠ []) : TL.joinL [s] ([] :: ws) = s :: TL.joinL [s] ws := by
  cases ws with
  | nil => exact absurd rfl h
  | cons w ws => rfl
theorem join_spl (s : Nat) : ∀ l : List Nat, TL.joinL [s] (spl s l) = l
  | [] => rfl
  | x :: l => by
    obtain ⟨v, vs, e⟩ := List.exists_cons_of_ne_nil (spl_ne s l)
    have ih := join_spl s l
    by_cases q : x = s
    · subst q
      rw [spl_hit, joinL_nil _ (spl_ne x l), ih]
    · rw [spl_miss q e, joinL_cc, ← e, ih]
theorem spl_app {s : Nat} {w : List Nat} (h : s ∉ w) {l : List Nat} : spl s (w ++ s :: l) = w :: spl s l := by
  induction w with
  | nil => exact spl_hit
  | cons x w ih =>
    have hx : x ≠ s := fun e => h (by rw [e]; simp)
    have hw : s ∉ w := fun z => h (List.mem_cons_of_mem _ z)
    exact spl_miss hx (ih hw)
theorem spl_one {s : Nat} {w : List Nat} (h : s ∉ w) : spl s w = [w] := by
  induction w with
  | nil => rfl
  | cons x w ih =>
    have hx : x ≠ s := fun e => h (by rw [e]; simp)
    have hw : s ∉ w := fun z => h (List.mem_cons_of_mem _ z)
    exact spl_miss hx (ih hw)
theorem mem_joinL {s k : Nat} : ∀ {ws : List (List Nat)} {w : List Nat}, w ∈ ws → k ∈ w → k ∈ TL.joinL [s] ws
  | [v], w, hw, hk => by rw [List.mem_singleton.mp hw] at hk; exact hk
  | v :: u :: ws, w, hw, hk => by
    show k ∈ v ++ ([s] ++ TL.joinL [s] (u :: ws))
    rcases List.mem_cons.mp hw with h | h
    · rw [h] at hk; exact List.mem_append_left _ hk
    · exact List.mem_append_right _ (List.mem_append_right _ (mem_joinL h hk))
theorem joinL_mem {s k : Nat} : ∀ {ws : List (List Nat)}, k ∈ TL.joinL [s] ws → k = s ∨ ∃ w ∈ ws, k ∈ w
  | [], h => by cases h
  | [v], h => .inr ⟨v, by simp, h⟩
  | v :: u :: ws, h => by
    have h : k ∈ v ++ ([s] ++ TL.joinL [s] (u :: ws)) := h
    rcases List.mem_append.mp h with h | h
    · exact .inr ⟨v, by simp, h⟩
    · rcases List.mem_append.mp h with h | h
      · exact .inl (List.mem_singleton.mp h)
      · rcases joinL_mem h with h | ⟨w, hw, hk⟩
        · exact .inl h
        · exact .inr ⟨w, List.mem_cons_of_mem _ hw, hk⟩
theorem spl_mem {s : Nat} {l w : List Nat} {k : Nat} (hw : w ∈ spl s l) (hk : k ∈ w) : k ∈ l := by
  have := mem_joinL (s := s) hw hk
  rwa [join_spl] at this
def sumL (ws : List (List Nat)) : Nat := (ws.map (·.length)).sum
@[simp] theorem sumL_nil : sumL [] = 0 := rfl
@[simp] theorem sumL_cons {w : List Nat} {ws : List (List Nat)} : sumL (w :: ws) = w.length + sumL ws := by simp [sumL]
theorem sumL_app (a b : List (List Nat)) : sumL (a ++ b) = sumL a + sumL b := by simp [sumL]
theorem sumL_take (ws : List (List Nat)) (k : Nat) : sumL (ws.take k) ≤ sumL ws := by
  have := sumL_app (ws.take k) (ws.drop k)
  rw [List.take_append_drop] at this
  omega
theorem sumL_drop (ws : List (List Nat)) (k : Nat) : sumL (ws.drop k) ≤ sumL ws := by
  have := sumL_app (ws.take k) (ws.drop k)
  rw [List.take_append_drop] at this
  omega
theorem sumL_mem {ws : List (List Nat)} {w : List Nat} (h : w ∈ ws) : w.length ≤ sumL ws := by
  induction ws with
  | nil => cases h
  | cons v ws ih =>
    rw [sumL_cons]
    rcases List.mem_cons.mp h with e | e
    · rw [e]; omega
    · have := ih e; omega
theorem joinL_len (s : Nat) : ∀ ws : List (List Nat), (TL.joinL [s] ws).length ≤ sumL ws + ws.length
  | [] => by simp [TL.joinL]
  | [w] => by simp [TL.joinL]
  | w :: v :: r => by
    have := joinL_len s (v :: r)
    show (w ++ ([s] ++ TL.joinL [s] (v :: r))).length ≤ _
    rw [List.length_append, List.length_append, List.length_singleton, sumL_cons, List.length_cons]
    omega
theorem joinL_lenE (s : Nat) : ∀ {ws : List (List Nat)}, ws ≠ [] → (TL.joinL [s] ws).length + 1 = sumL ws + ws.length
  | [], h => absurd rfl h
  | [w], _ => by simp [TL.joinL]
  | w :: v :: r, _ => by
    have := joinL_lenE s (ws := v :: r) (by simp)
    show (w ++ ([s] ++ TL.joinL [s] (v :: r))).length + 1 = _
    rw [List.length_append, List.length_append, List.length_singleton, sumL_cons, List.length_cons]
    omega
theorem spl_len (s : Nat) (l : List Nat) : sumL (spl s l) + (spl s l).length = l.length + 1 := by
  have := joinL_lenE s (spl_ne s l)
  rw [join_spl] at this
  omega
theorem sSplit_spl (fz : Bool) {s : Nat} (hs : s < 256) {l : List Nat} (hl : l.length + 2 ≤ sizeLine) (cs : List Cell) : sSplit fz (.str (T l)) (.str (T [s])) cs = mkL fz ((spl s l).map fun w => .str (T w)) cs := by
  have := sSplit_T fz s (spl s l) hs (spl_ne s l) (spl_no s l) (by rw [join_spl]; exact hl) cs
  rwa [join_spl] at this
def isD (k : Nat) : Bool := decide (48 ≤ k ∧ k ≤ 57)
def okN (w : List Nat) : Bool := decide (1 ≤ w.length ∧ w.length ≤ 30) && w.all isD
def numO (w : List Nat) : Option Nat := if okN w = true then (if w.head? = some 48 ∧ w ≠ [48] then none else some (dval w)) else none
theorem dg_of : ∀ (n : Nat) {w : List Nat}, w.length = n + 1 → w.all isD = true → (w.head? = some 48 → w = [48]) → dg (dval w) = w ∧ dval w < 10 ^ (n + 1) ∧ (w.head? ≠ some 48 → 10 ^ n ≤ dval w)
  | 0, w, hl, hd, hz => by
    obtain ⟨a, rfl⟩ := List.length_eq_one_iff.mp hl
    have ha : 48 ≤ a ∧ a ≤ 57 := by simpa [isD] using hd
    have e : dval [a] = a - 48 := by simp [dval]
    rw [e]
    refine ⟨?_, by omega, fun h => ?_⟩
    · rw [dg_lt (by omega)]
      simp
      omega
    · have : a ≠ 48 := fun z => h (by rw [z]; rfl)
      omega
  | n + 1, w, hl, hd, hz => by
    obtain ⟨v, c, rfl⟩ : ∃ v c, w = v ++ [c] := by
      rcases List.eq_nil_or_concat w with h | ⟨v, c, h⟩
      · rw [h] at hl; simp at hl
      · exact ⟨v, c, by rw [h, List.concat_eq_append]⟩
    have lv : v.length = n + 1 := by simpa using hl
    have hd' : v.all isD = true ∧ isD c = true := by simpa [List.all_append] using hd
    have hc : 48 ≤ c ∧ c ≤ 57 := by simpa [isD] using hd'.2
    have vn : v ≠ [] := fun e => by rw [e] at lv; simp at lv
    have hh : (v ++ [c]).head? = v.head? := by
      cases v with
      | nil => exact absurd rfl vn
      | cons a v => rfl
    have nz : v.head? ≠ some 48 := fun e => by
      have := hz (by rw [hh]; exact e)
      have := congrArg List.length this
      rw [List.length_append, lv] at this
      simp at this
    obtain ⟨h1, h2, h3⟩ := dg_of n lv hd'.1 fun e => absurd e nz
    have h3 := h3 nz
    have p1 : 1 ≤ 10 ^ n := Nat.one_le_pow _ _ (by decide)
    rw [dval_snoc]
    have e1 : (dval v * 10 + (c - 48)) / 10 = dval v := by omega
    have e2 : (dval v * 10 + (c - 48)) % 10 = c - 48 := by omega
    refine ⟨?_, ?_, fun _ => ?_⟩
    · rw [dg_ge (by omega), e1, e2, h1]
      have : 48 + (c - 48) = c := by omega
      rw [this]
    · rw [Nat.pow_succ (n := 10) (m := n + 1)]
      omega
    · rw [Nat.pow_succ]
      omega
theorem numO_some {w : List Nat} {n : Nat} (h : numO w = some n) : w = dg n ∧ n < 10 ^ 30 := by
  unfold numO at h
  split at h
  · rename_i ok
    split at h
    · cases h
    · rename_i nz
      cases h
      unfold okN at ok
      rw [Bool.and_eq_true, decide_eq_true_eq] at ok
      obtain ⟨⟨l1, l2⟩, hd⟩ := ok
      obtain ⟨k, hk⟩ : ∃ k, w.length = k + 1 := ⟨w.length - 1, by omega⟩
      obtain ⟨e, lt, _⟩ := dg_of k hk hd fun e => by
        by_cases q : w = [48]
        · exact q
        · exact absurd ⟨e, q⟩ nz
      exact ⟨e.symm, Nat.lt_of_lt_of_le lt (Nat.pow_le_pow_right (by decide) (by omega))⟩
  · cases h
end PV
namespace PV
open PySem PySem.Spec PyProof.Rows L2
noncomputable section
end
@[simp ↓] theorem fFrzI_e {f : Str} {g : Fe} {σ : Sd} {cs : List Cell} : fFrzI f g σ cs = (g σ cs).bnd fun d c => up (frzI f d c) := id rfl
@[simp ↓] theorem fLR_e {z : Bool} {g : Fe} {σ : Sd} {cs : List Cell} : fLR z g σ cs = (g σ cs).bnd fun d c => up (lrO z d c) := id rfl
def KF (K i : Nat) (c : List Cell) : Prop := ∃ (L : List Int) (m n : Int), 1 ≤ i ∧ cAt c i = some (.lst [.ref (i - 1), .int m, .int n]) ∧ cAt c (i - 1) = some (.lst (L.map .int)) ∧ 0 ≤ m ∧ m < 2 ^ 127 ∧ 0 ≤ n ∧ n ≤ K
structure KN (N i : Nat) (c c' : List Cell) : Prop where
  len : c.length ≤ c'.length
  fd : ∀ K, KF K i c → KF (K + N) i c'
  at_ : ∀ j, i < j → j < c.length → cAt c' j = cAt c j
theorem KF.lt {K i : Nat} {c : List Cell} (h : KF K i c) : i < c.length := by
  obtain ⟨L, m, n, _, h, _⟩ := h
  exact cAt_lt h
theorem KF.mono {K M i : Nat} {c : List Cell} (h : KF K i c) (hl : K ≤ M) : KF M i c := by
  obtain ⟨L, m, n, h0, h1, h2, h3, h4, h5, h6⟩ := h
  exact ⟨L, m, n, h0, h1, h2, h3, h4, h5, by omega⟩
theorem KN.refl {i : Nat} {c : List Cell} : KN 0 i c c := ⟨Nat.le_refl _, fun _ h => h, fun _ _ _ => rfl⟩
theorem KN.trans {M N i : Nat} {c c' c'' : List Cell} (a : KN M i c c') (b : KN N i c' c'') : KN (M + N) i c c'' :=
  ⟨Nat.le_trans a.len b.len, fun K h => by have := b.fd _ (a.fd K h); rwa [Nat.add_assoc] at this, fun j hj hl => (b.at_ j hj (Nat.lt_of_lt_of_le hl a.len)).trans (a.at_ j hj hl)⟩
theorem KN.mono {M N i : Nat} {c c' : List Cell} (a : KN M i c c') (h : M ≤ N) : KN N i c c' := ⟨a.len, fun K f => (a.fd K f).mono (by omega), a.at_⟩
theorem KN.gw {i : Nat} {c c' : List Cell} (h : Gw c c') : KN 0 i c c' := ⟨h.len, fun K f => by
  obtain ⟨L, m, n, h0, h1, h2, r⟩ := f
  exact ⟨L, m, n, h0, by rw [h.at_ i (cAt_lt h1)]; exact h1, by rw [h.at_ _ (cAt_lt h2)]; exact h2, r⟩, fun j _ hl => h.at_ j hl⟩
theorem KF.gw {K i : Nat} {c l : List Cell} (h : KF K i c) : KF K i (c ++ l) := (KN.gw Gw.app).fd K h
theorem KN.set {N i n : Nat} {c c' : List Cell} {x : Cell} (h : KN N i c c') (hn : c.length ≤ n) (hi : i < c.length) : KN N i c (c'.set n x) := by
  refine ⟨by rw [List.length_set]; exact h.len, fun K hf => ?_, fun j hj hl => ?_⟩
  · obtain ⟨L, m, k, h0, h1, h2, r⟩ := h.fd K hf
    exact ⟨L, m, k, h0, by rw [cAt_set_ne (by omega)]; exact h1, by rw [cAt_set_ne (by omega)]; exact h2, r⟩
  · rw [cAt_set_ne (by omega)]; exact h.at_ j hj hl
abbrev szD (H W : Int) : D := .lst [.int H, .int W]
structure Wy (H W : Int) (a z : Ce) (ws : List Ce) : Prop where
  hd : ws.head? = some a
  la : ws.getLast? = some z
  on : ∀ q ∈ ws, onS H W q
theorem Wy.ne {H W : Int} {a z : Ce} {ws : List Ce} (h : Wy H W a z ws) : ws ≠ [] := by
  intro e
  have := h.hd
  rw [e] at this
  cases this
def kd (st : Bool) : Kn := if st then .stop else .plain
structure Ca where
  st : Bool
  H : Int
  W : Int
  a : Ce
  z : Ce
  ps : List (Option Rf)
  qs : List (Option Rf)
def Ca.d (C : Ca) : D := .tup [.bl C.st, szD C.H C.W, ceD C.a, ceD C.z, .lst (C.ps.map oTp), .lst (C.qs.map oTp)]
structure Ca.ok (C : Ca) : Prop where
  h0 : 1 ≤ C.H
  h1 : C.H ≤ 10 ^ 30
  w0 : 1 ≤ C.W
  w1 : C.W ≤ 10 ^ 30
  a : onS C.H C.W C.a
  z : onS C.H C.W C.z
  l1 : 1 ≤ C.ps.length
  l2 : C.ps.length ≤ 20
  fit : ∀ p ∈ C.ps, fit1 (kd C.st) C.H C.W C.a.1 C.a.2 p
end PV
namespace PV
open PySem PySem.Spec PyProof.Rows L2
structure Abt (H W : Int) (a z : Ce) (t b l r : Int) : Prop where
  t0 : 0 ≤ t
  t1 : t ≤ a.1 ∧ t ≤ z.1
  b0 : a.1 ≤ b ∧ z.1 ≤ b
  b1 : b < H
  l0 : 0 ≤ l
  l1 : l ≤ a.2 ∧ l ≤ z.2
  r0 : a.2 ≤ r ∧ z.2 ≤ r
  r1 : r < W
end PV
namespace PV
open PySem PySem.Spec PyProof.Rows L2
structure Q4 where
  t : Int
  b : Int
  l : Int
  r : Int
def Q4.at (q : Q4) : Nat → Int
  | 0 => q.t
  | 1 => q.b
  | 2 => q.l
  | _ => q.r
def Q4.put (q : Q4) (e : Nat) (x : Int) : Q4 := match e with
  | 0 => ⟨x, q.b, q.l, q.r⟩
  | 1 => ⟨q.t, x, q.l, q.r⟩
  | 2 => ⟨q.t, q.b, x, q.r⟩
  | _ => ⟨q.t, q.b, q.l, x⟩
theorem lt4 {e : Nat} (h : e < 4) : e = 0 ∨ e = 1 ∨ e = 2 ∨ e = 3 := by omega
theorem Q4.at_put (q : Q4) {e f : Nat} (he : e < 4) (hf : f < 4) (x : Int) : (q.put e x).at f = if f = e then x else q.at f := by
  rcases lt4 he with rfl | rfl | rfl | rfl <;> rcases lt4 hf with rfl | rfl | rfl | rfl <;> rfl
theorem Q4.ext' {p q : Q4} (h : ∀ e, e < 4 → p.at e = q.at e) : p = q := by
  obtain ⟨a, b, c, d⟩ := p
  obtain ⟨a', b', c', d'⟩ := q
  have h0 : a = a' := h 0 (by omega)
  have h1 : b = b' := h 1 (by omega)
  have h2 : c = c' := h 2 (by omega)
  have h3 : d = d' := h 3 (by omega)
  rw [h0, h1, h2, h3]
def le4 (p q : Q4) : Prop := ∀ e, e < 4 → p.at e ≤ q.at e
theorem le4_iff {p q : Q4} : le4 p q ↔ p.t ≤ q.t ∧ p.b ≤ q.b ∧ p.l ≤ q.l ∧ p.r ≤ q.r := by
  constructor
  · intro h
    exact ⟨h 0 (by omega), h 1 (by omega), h 2 (by omega), h 3 (by omega)⟩
  · rintro ⟨h0, h1, h2, h3⟩ e he
    rcases lt4 he with rfl | rfl | rfl | rfl
    · exact h0
    · exact h1
    · exact h2
    · exact h3
def z4 : Q4 := ⟨0, 0, 0, 0⟩
abbrev Bd := Nat × Int × Int
abbrev Cc := Nat × Int
structure Dm where
  bs : List Bd
  ch : Option (List Cc)
def mtB (r : Q4) (b : Bd) : Prop := b.2.1 ≤ r.at b.1 ∧ r.at b.1 ≤ b.2.2
def mtC (r : Q4) (ch : Option (List Cc)) : Prop := ∀ cs, ch = some cs → ∃ x ∈ cs, x.2 ≤ r.at x.1
def mt (r : Q4) (d : Dm) : Prop := (∀ b ∈ d.bs, mtB r b) ∧ mtC r d.ch
structure Dm.ok (d : Dm) : Prop where
  b4 : ∀ b ∈ d.bs, b.1 < 4
  c4 : ∀ cs, d.ch = some cs → ∀ x ∈ cs, x.1 < 4
def chB (r : Q4) (ch : Option (List Cc)) : Bool := match ch with
  | none => true
  | some cs => cs.any fun x => decide (x.2 ≤ r.at x.1)
theorem chB_iff {r : Q4} {ch : Option (List Cc)} : chB r ch = true ↔ mtC r ch := by
  unfold chB mtC
  cases ch with
  | none => exact ⟨fun _ cs e => (by cases e), fun _ => rfl⟩
  | some cs =>
    constructor
    · intro h cs' e
      cases e
      obtain ⟨x, hx, h2⟩ := List.any_eq_true.mp h
      exact ⟨x, hx, of_decide_eq_true h2⟩
    · intro h
      obtain ⟨x, hx, h2⟩ := h cs rfl
      exact List.any_eq_true.mpr ⟨x, hx, decide_eq_true h2⟩
def rg1 (p : Q4 × Q4) (b : Bd) : Q4 × Q4 := (p.1.put b.1 (if b.2.1 > p.1.at b.1 then b.2.1 else p.1.at b.1), p.2.put b.1 (if b.2.2 < p.2.at b.1 then b.2.2 else p.2.at b.1))
def rgs (ms : Q4) (bs : List Bd) : Q4 × Q4 := bs.foldl rg1 (z4, ms)
theorem rg1_iff {p : Q4 × Q4} {b : Bd} (hb : b.1 < 4) {r : Q4} : (le4 (rg1 p b).1 r ∧ le4 r (rg1 p b).2) ↔ (le4 p.1 r ∧ le4 r p.2) ∧ mtB r b := by
  unfold le4 rg1 mtB
  constructor
  · rintro ⟨h1, h2⟩
    refine ⟨⟨fun e he => ?_, fun e he => ?_⟩, ?_, ?_⟩
    · have := h1 e he
      rw [Q4.at_put _ hb he] at this
      by_cases q : e = b.1
      · rw [if_pos q] at this
        subst q
        split at this <;> omega
      · rwa [if_neg q] at this
    · have := h2 e he
      rw [Q4.at_put _ hb he] at this
      by_cases q : e = b.1
      · rw [if_pos q] at this
        subst q
        split at this <;> omega
      · rwa [if_neg q] at this
    · have := h1 b.1 hb
      rw [Q4.at_put _ hb hb, if_pos rfl] at this
      split at this <;> omega
    · have := h2 b.1 hb
      rw [Q4.at_put _ hb hb, if_pos rfl] at this
      split at this <;> omega
  · rintro ⟨⟨h1, h2⟩, h3, h4⟩
    refine ⟨fun e he => ?_, fun e he => ?_⟩
    · rw [Q4.at_put _ hb he]
      have := h1 e he
      by_cases q : e = b.1
      · rw [if_pos q]; subst q; split <;> omega
      · rw [if_neg q]; exact this
    · rw [Q4.at_put _ hb he]
      have := h2 e he
      by_cases q : e = b.1
      · rw [if_pos q]; subst q; split <;> omega
      · rw [if_neg q]; exact this
theorem fold_iff {r : Q4} : ∀ (bs : List Bd) (p : Q4 × Q4), (∀ b ∈ bs, b.1 < 4) → ((le4 (bs.foldl rg1 p).1 r ∧ le4 r (bs.foldl rg1 p).2) ↔ (le4 p.1 r ∧ le4 r p.2) ∧ ∀ b ∈ bs, mtB r b)
  | [], p, _ => by simp
  | b :: bs, p, h => by
    rw [List.foldl_cons, fold_iff bs _ fun x hx => h x (List.mem_cons_of_mem _ hx), rg1_iff (h b (List.mem_cons_self ..))]
    constructor
    · rintro ⟨⟨a, c⟩, d⟩
      exact ⟨a, fun x hx => by
        rcases List.mem_cons.mp hx with e | e
        · rw [e]; exact c
        · exact d x e⟩
    · rintro ⟨a, d⟩
      exact ⟨⟨a, d b (List.mem_cons_self ..)⟩, fun x hx => d x (List.mem_cons_of_mem _ hx)⟩
theorem rgs_iff {ms : Q4} {bs : List Bd} (h : ∀ b ∈ bs, b.1 < 4) {r : Q4} : (le4 (rgs ms bs).1 r ∧ le4 r (rgs ms bs).2) ↔ (le4 z4 r ∧ le4 r ms) ∧ ∀ b ∈ bs, mtB r b := fold_iff bs (z4, ms) h
def bsL (ds : List Dm) : List Bd := ds.flatMap fun d => d.bs
def canB (ms : Q4) (ds : List Dm) : Bool := decide ((rgs ms (bsL ds)).1.t ≤ (rgs ms (bsL ds)).2.t ∧ (rgs ms (bsL ds)).1.b ≤ (rgs ms (bsL ds)).2.b ∧ (rgs ms (bsL ds)).1.l ≤ (rgs ms (bsL ds)).2.l ∧ (rgs ms (bsL ds)).1.r ≤ (rgs ms (bsL ds)).2.r) && ds.all fun d => chB (rgs ms (bsL ds)).2 d.ch
def okR (ms : Q4) (ds : List Dm) (r : Q4) : Prop := (le4 z4 r ∧ le4 r ms) ∧ ∀ d ∈ ds, mt r d
theorem bsL_4 {ds : List Dm} (h : ∀ d ∈ ds, d.ok) : ∀ b ∈ bsL ds, b.1 < 4 := fun b hb => by
  obtain ⟨d, hd, h2⟩ := List.mem_flatMap.mp hb
  exact (h d hd).b4 b h2
theorem mtC_mono {r r' : Q4} (h : le4 r r') {ch : Option (List Cc)} (c4 : ∀ cs, ch = some cs → ∀ x ∈ cs, x.1 < 4) (k : mtC r ch) : mtC r' ch := fun cs e => by
  obtain ⟨x, hx, h2⟩ := k cs e
  exact ⟨x, hx, Int.le_trans h2 (h x.1 (c4 cs e x hx))⟩
theorem okR_iff {ms : Q4} {ds : List Dm} (h : ∀ d ∈ ds, d.ok) {r : Q4} : okR ms ds r ↔ (le4 (rgs ms (bsL ds)).1 r ∧ le4 r (rgs ms (bsL ds)).2) ∧ ∀ d ∈ ds, mtC r d.ch := by
  rw [rgs_iff (bsL_4 h)]
  unfold okR mt
  constructor
  · rintro ⟨a, b⟩
    exact ⟨⟨a, fun x hx => by
      obtain ⟨d, hd, h2⟩ := List.mem_flatMap.mp hx
      exact (b d hd).1 x h2⟩, fun d hd => (b d hd).2⟩
  · rintro ⟨⟨a, b⟩, c⟩
    exact ⟨a, fun d hd => ⟨fun x hx => b x (List.mem_flatMap.mpr ⟨d, hd, hx⟩), c d hd⟩⟩
theorem canB_iff {ms : Q4} {ds : List Dm} (h : ∀ d ∈ ds, d.ok) : canB ms ds = true ↔ ∃ r, okR ms ds r := by
  unfold canB
  rw [Bool.and_eq_true, decide_eq_true_eq, List.all_eq_true, ← le4_iff]
  constructor
  · rintro ⟨a, b⟩
    refine ⟨(rgs ms (bsL ds)).2, (okR_iff h).mpr ⟨⟨a, fun e _ => Int.le_refl _⟩, fun d hd => chB_iff.mp (b d hd)⟩⟩
  · rintro ⟨r, hr⟩
    obtain ⟨⟨a, b⟩, c⟩ := (okR_iff h).mp hr
    exact ⟨fun e he => Int.le_trans (a e he) (b e he), fun d hd => chB_iff.mpr (mtC_mono b (h d hd).c4 (c d hd))⟩
theorem okR_top {ms : Q4} {ds : List Dm} (h : ∀ d ∈ ds, d.ok) (k : canB ms ds = true) : okR ms ds (rgs ms (bsL ds)).2 := by
  obtain ⟨r, hr⟩ := (canB_iff h).mp k
  obtain ⟨⟨a, b⟩, c⟩ := (okR_iff h).mp hr
  exact (okR_iff h).mpr ⟨⟨fun e he => Int.le_trans (a e he) (b e he), fun e _ => Int.le_refl _⟩, fun d hd => mtC_mono b (h d hd).c4 (c d hd)⟩
end PV
namespace PV
open PySem PySem.Spec PyProof.Rows L2
def msQ (H W : Int) (s : Q4) : Q4 := ⟨s.t, H - 1 - s.b, s.l, W - 1 - s.r⟩
structure SdO (H W : Int) (s : Q4) : Prop where
  t0 : 0 ≤ s.t
  tb : s.t ≤ s.b
  bH : s.b < H
  l0 : 0 ≤ s.l
  lr : s.l ≤ s.r
  rW : s.r < W
def lvQ (H W : Int) (s : Q4) (row : Bool) (d : Int) : Cc :=
  if row = true then (if d < 0 then (0, s.t + d + 1) else (1, H - d - s.b)) else if d < 0 then (2, s.l + d + 1) else (3, W - d - s.r)
abbrev Di := Bool × Int × Int
def bd1 (H W : Int) (s : Q4) (x : Di) : Bd :=
  if x.2.2 = x.2.1 then ((lvQ H W s x.1 x.2.1).1, 0, (lvQ H W s x.1 x.2.1).2 - 1)
  else ((lvQ H W s x.1 x.2.1).1, (if x.2.2 = 0 then (msQ H W s).at (lvQ H W s x.1 x.2.1).1 else (lvQ H W s x.1 x.2.2).2 - 1), (if x.2.2 = 0 then (msQ H W s).at (lvQ H W s x.1 x.2.1).1 else (lvQ H W s x.1 x.2.2).2 - 1))
def qr : Option Rf → Int
  | none => 0
  | some q => q.r
def qc : Option Rf → Int
  | none => 0
  | some q => q.c
def disL (p : Rf) (q : Option Rf) : List Di := (if p.f = true ∨ p.r = 0 then [] else [(true, p.r, qr q)]) ++ (if p.g = false ∧ p.c ≠ 0 then [(false, p.c, qc q)] else [])
def dem (H W : Int) (s : Q4) : Option Rf → Option Rf → Dm
  | none, _ => ⟨[], none⟩
  | some p, none => ⟨[], some ((disL p none).map fun x => lvQ H W s x.1 x.2.1)⟩
  | some p, some q => ⟨(disL p (some q)).map (bd1 H W s), none⟩
def nrB (d n : Int) : Bool := decide (d = n) || ((decide (0 ≤ n) && decide (n < d)) || (decide (d < n) && decide (n ≤ 0)))
def becB (st : Bool) : Option Rf → Option Rf → Bool
  | none, q => decide (q = none)
  | some p, none => !st
  | some p, some q => if st = false then decide (p = q) else
      if p.f ≠ q.f ∨ p.g ≠ q.g then false else if (p.f = true ∧ p.r ≠ q.r) ∨ (p.g = true ∧ p.c ≠ q.c) then false else nrB p.r q.r && nrB p.c q.c
theorem lvQ_4 {H W : Int} {s : Q4} {row : Bool} {d : Int} : (lvQ H W s row d).1 < 4 := by
  unfold lvQ
  cases row <;> simp <;> split <;> simp
theorem bd1_4 {H W : Int} {s : Q4} {x : Di} : (bd1 H W s x).1 < 4 := by
  unfold bd1
  split <;> exact lvQ_4
theorem dem_ok {H W : Int} {s : Q4} {p q : Option Rf} : (dem H W s p q).ok := by
  cases p with
  | none => exact ⟨fun b hb => (by cases hb), fun cs e => (by cases e)⟩
  | some p =>
    cases q with
    | none =>
      refine ⟨fun b hb => (by cases hb), fun cs e => ?_⟩
      cases e
      intro x hx
      obtain ⟨y, hy, rfl⟩ := List.mem_map.mp hx
      exact lvQ_4
    | some q =>
      refine ⟨fun b hb => ?_, fun cs e => (by cases e)⟩
      obtain ⟨y, hy, rfl⟩ := List.mem_map.mp hb
      exact bd1_4
end PV
namespace PV
open PySem PySem.Spec PyProof.Rows L2
section
variable {sh b c x : D} {a z : Ce} {s m : Q4} {r : List (Str × D)}
end
section
variable {v w b c sh x : D} {a z : Ce} {s m : Q4}
end
structure Nof (fs : List (Str × D)) : Prop where
  leaving : fs.lookup ("leaving" : Str) = none
  demand_of : fs.lookup ("demand_of" : Str) = none
  ranges : fs.lookup ("ranges" : Str) = none
  holds : fs.lookup ("holds" : Str) = none
  can_be : fs.lookup ("can_be" : Str) = none
  barred_by : fs.lookup ("barred_by" : Str) = none
  conflict : fs.lookup ("conflict" : Str) = none
  shows_conflict : fs.lookup ("shows_conflict" : Str) = none
  all_ranges : fs.lookup ("all_ranges" : Str) = none
  choices : fs.lookup ("choices" : Str) = none
  sides_with : fs.lookup ("sides_with" : Str) = none
  frame_with : fs.lookup ("frame_with" : Str) = none
  is_possible : fs.lookup ("is_possible" : Str) = none
  greatest : fs.lookup ("greatest" : Str) = none
  sure : fs.lookup ("sure" : Str) = none
  stretches : fs.lookup ("stretches" : Str) = none
  count : fs.lookup ("count" : Str) = none
  column_ways : fs.lookup ("column_ways" : Str) = none
  best_reach : fs.lookup ("best_reach" : Str) = none
  copies_with : fs.lookup ("copies_with" : Str) = none
  fewest : fs.lookup ("fewest" : Str) = none
  explain : fs.lookup ("explain" : Str) = none
def SeI (k : Nat) (fs : List (Str × D)) (d : D) (c : List Cell) : Prop := ∀ c', Gw c c' → insOf c' d = some (k, fs)
theorem SeI.up {k : Nat} {fs : List (Str × D)} {d : D} {c c' : List Cell} (h : SeI k fs d c) (g : Gw c c') : SeI k fs d c' := fun c2 g2 => h c2 (g.trans g2)
theorem SeI.at {k : Nat} {fs : List (Str × D)} {d : D} {c : List Cell} (h : SeI k fs d c) : insOf c d = some (k, fs) := h c Gw.refl
theorem SeI.fz {k : Nat} {fs : List (Str × D)} {c : List Cell} : SeI k fs (.ins k fs) c := fun _ _ => rfl
def cnO (c : Nat) (f : Str) (dv : D) (o : Option (Nat × List (Str × D))) (c1 : List Cell) : Out D := match o with
  | some (c', fs) => if c' = c ∧ fs.lookup f = none then .ok dv c1 else .no
  | none => .no
@[simp] theorem cnO_s {c c' : Nat} {f : Str} {dv : D} {fs : List (Str × D)} {c1 : List Cell} : cnO c f dv (some (c', fs)) c1 = if c' = c ∧ fs.lookup f = none then .ok dv c1 else .no := id rfl
@[simp ↓] theorem fCon_e {c : Nat} {f : Str} {dv : D} {fo : Fe} {σ : Sd} {cs : List Cell} : fCon c f dv fo σ cs = (fo σ cs).bnd fun d c1 => cnO c f dv (insOf c1 d) c1 := by
  unfold fCon
  cases fo σ cs with
  | ok d c1 =>
    show (match insOf c1 d with
      | some (c', fs) => if c' = c ∧ fs.lookup f = none then .ok dv c1 else .no
      | none => .no) = cnO c f dv (insOf c1 d) c1
    rfl
  | ex x c => rfl
  | no => rfl
def sq (a z : Ce) : Q4 := ⟨if z.1 < a.1 then z.1 else a.1, if a.1 < z.1 then z.1 else a.1, if z.2 < a.2 then z.2 else a.2, if a.2 < z.2 then z.2 else a.2⟩
theorem sq_ok {H W : Int} {a z : Ce} (ha : onS H W a) (hz : onS H W z) : SdO H W (sq a z) := by
  obtain ⟨h1, h2, h3, h4⟩ := ha
  obtain ⟨k1, k2, k3, k4⟩ := hz
  unfold sq
  refine ⟨?_, ?_, ?_, ?_, ?_, ?_⟩ <;> simp only [] <;> (repeat' split) <;> omega
def dmsL (H W : Int) (s : Q4) (ps qs : List (Option Rf)) : List Dm := (ps.zip qs).map fun x => dem H W s x.1 x.2
def Ca.dms (C : Ca) : List Dm := dmsL C.H C.W (sq C.a C.z) C.ps C.qs
def becL (st : Bool) (ps qs : List (Option Rf)) : Prop := ps.length = qs.length ∧ ∀ x ∈ ps.zip qs, becB st x.1 x.2 = true
structure Ca.sn (C : Ca) : Prop where
  ok : C.ok
  bec : becL C.st C.ps C.qs
  oq : ∀ q ∈ C.qs, okp q
end PV
namespace PV
open PySem PySem.Spec PyProof.Rows L2
def pkL (ds : List Dm) (I : List Nat) : List Dm := I.map fun i => ds.getD i ⟨[], none⟩
@[simp ↓] theorem sSub2_e {fe fo fi fp fj : Fe} {σ : Sd} {cs : List Cell} {a b : D} {c c1 c2 c3 c4 c5 c6 : List Cell} {d1 i1 d2 i2 : D} (h1 : fe σ cs = .ok (.tup [a, b]) c) (h2 : fo σ c = .ok d1 c1) (h3 : fi σ c1 = .ok i1 c2) (h4 : setC d1 i1 a c2 = some c3) (h5 : fp σ c3 = .ok d2 c4) (h6 : fj σ c4 = .ok i2 c5) (h7 : setC d2 i2 b c5 = some c6) : sSub2 fe fo fi fp fj σ cs = .nx σ c6 := by
  unfold sSub2
  simp only [h1, sOf, h2, h3, h4, h5, h6, h7]
theorem ix_dm {α : Type} {f : α → D} {xs : List α} {i : Nat} (h : i < xs.length) (c : List Cell) : dIx (.lst (xs.map f)) (.int (i : Nat)) c = some (f xs[i], c) := by
  rw [dIx_l]
  have : atI (xs.map f) ((i : Nat) : Int) = some (f xs[i]) := by
    unfold atI
    simp [ixN, h]
  rw [this]; rfl
end PV
namespace PV
open PySem PySem.Spec PyProof.Rows L2
def bt (n e : Nat) : Bool := decide (Builtin.bitAnd ((n : Int) / 2 ^ e) 1 = 1)
structure Si4 (d : D) (t b l r : Int) : Prop where
  x0 : ∀ c, dIx d (.int 0) c = some (.int t, c)
  x1 : ∀ c, dIx d (.int 1) c = some (.int b, c)
  x2 : ∀ c, dIx d (.int 2) c = some (.int l, c)
  x3 : ∀ c, dIx d (.int 3) c = some (.int r, c)
theorem Ca.dok (C : Ca) : ∀ x ∈ C.dms, x.ok := fun x hx => by
  obtain ⟨y, _, rfl⟩ := List.mem_map.mp hx
  exact dem_ok
theorem dem_c2 {H W : Int} {s : Q4} {p q : Option Rf} : ∀ cs, (dem H W s p q).ch = some cs → cs.length ≤ 2 := fun cs e => by
  cases p with
  | none => cases e
  | some p =>
    cases q with
    | some q => cases e
    | none =>
      cases e
      rw [List.length_map]
      unfold disL
      split <;> split <;> simp
theorem Ca.dcl (C : Ca) : ∀ x ∈ C.dms, ∀ cs, x.ch = some cs → cs.length ≤ 2 := fun x hx => by
  obtain ⟨y, _, rfl⟩ := List.mem_map.mp hx
  exact dem_c2
end PV
namespace PV
open PySem PySem.Spec PyProof.Rows L2
theorem Wy.ma {H W : Int} {a z : Ce} {ws : List Ce} (h : Wy H W a z ws) : a ∈ ws := List.mem_of_mem_head? (by rw [h.hd]; rfl)
end PV
namespace PV
open PySem PySem.Spec PyProof.Rows L2
structure Dok (ms : Q4) (ds : List Dm) : Prop where
  ok : ∀ x ∈ ds, x.ok
  cl : ∀ x ∈ ds, ∀ cs, x.ch = some cs → cs.length ≤ 2
  cm : ∀ x ∈ ds, ∀ cs, x.ch = some cs → ∀ y ∈ cs, y.2 ≤ ms.at y.1
  m0 : le4 z4 ms
section
variable {ms : Q4} {ds : List Dm} (D : Dok ms ds)
include D
variable (singles : ∀ i, i < ds.length → canB ms (pkL ds [i]) = true)
include singles
structure CfL (n : Nat) (L : List Int) : Prop where
  up : L.Pairwise (· < ·)
  l1 : 1 ≤ L.length
  l3 : L.length ≤ 3
  rg : ∀ x ∈ L, 0 ≤ x ∧ x < (n : Int)
end
theorem lvQ_le {H W : Int} {s : Q4} {row : Bool} {d : Int} (hd : d ≠ 0) : (lvQ H W s row d).2 ≤ (msQ H W s).at (lvQ H W s row d).1 := by
  unfold lvQ msQ
  cases row <;> by_cases q : d < 0 <;> simp [q, Q4.at] <;> omega
theorem disL_ne {p : Rf} {q : Option Rf} : ∀ x ∈ disL p q, x.2.1 ≠ 0 := fun x hx => by
  unfold disL at hx
  rcases List.mem_append.mp hx with h | h
  · split at h
    · cases h
    · rename_i c
      rw [List.mem_singleton.mp h]
      exact fun e => c (.inr e)
  · split at h
    · rename_i c
      rw [List.mem_singleton.mp h]
      exact c.2
    · cases h
theorem ms_le {H W : Int} {s : Q4} (h : SdO H W s) : le4 z4 (msQ H W s) := by
  obtain ⟨h1, h2, h3, h4, h5, h6⟩ := h
  rw [le4_iff]
  unfold z4 msQ
  simp only []
  omega
theorem Ca.Dok (C : Ca) (h : C.sn) : PV.Dok (msQ C.H C.W (sq C.a C.z)) C.dms := by
  refine ⟨C.dok, C.dcl, fun x hx cs e y hy => ?_, ms_le (sq_ok h.ok.a h.ok.z)⟩
  obtain ⟨⟨p, q⟩, _, rfl⟩ := List.mem_map.mp hx
  cases p with
  | none => cases e
  | some p =>
    cases q with
    | some q => cases e
    | none =>
      cases e
      obtain ⟨z, hz, rfl⟩ := List.mem_map.mp hy
      exact lvQ_le (disL_ne z hz)
end PV
namespace PV
open PySem PySem.Spec PyProof.Rows L2
section
variable {ms : Q4} {ds : List Dm}
end
end PV
namespace PV
open PySem PySem.Spec PyProof.Rows L2
end PV
namespace PV
open PySem PySem.Spec PyProof.Rows L2
end PV
namespace PV
open PySem PySem.Spec PyProof.Rows L2
section
variable {ms : Q4} {ds ds' : List Dm} (ok : ∀ x ∈ ds, x.ok) (ok' : ∀ x ∈ ds', x.ok) (sub : ∀ r, okR ms ds' r → okR ms ds r)
include ok ok' sub
end
end PV
namespace PV
open PySem PySem.Spec PyProof.Rows L2
structure Pm (P : Q4 → Q4) (π : Nat → Nat) : Prop where
  lt : ∀ e, e < 4 → π e < 4
  at_ : ∀ r e, e < 4 → (P r).at e = r.at (π e)
  inv : ∀ e, e < 4 → π (π e) = e
section
variable {P : Q4 → Q4} {π : Nat → Nat} (pm : Pm P π)
include pm
theorem Pm.pp (r : Q4) : P (P r) = r := Q4.ext' fun e he => by rw [pm.at_ _ _ he, pm.at_ _ _ (pm.lt e he), pm.inv e he]
theorem Pm.le {r s : Q4} (h : le4 r s) : le4 (P r) (P s) := fun e he => by rw [pm.at_ _ _ he, pm.at_ _ _ he]; exact h _ (pm.lt e he)
theorem Pm.put {r : Q4} {e : Nat} (he : e < 4) (x : Int) : P (r.put e x) = (P r).put (π e) x := Q4.ext' fun f hf => by
  rw [pm.at_ _ _ hf, Q4.at_put _ he (pm.lt f hf), Q4.at_put _ (pm.lt e he) hf, pm.at_ _ _ hf]
  have : π f = e ↔ f = π e := ⟨fun h => by rw [← h, pm.inv f hf], fun h => by rw [h, pm.inv e he]⟩
  by_cases q : f = π e
  · rw [if_pos (this.mpr q), if_pos q]
  · rw [if_neg (fun h => q (this.mp h)), if_neg q]
variable {ms ms' : Q4} {ds ds' : List Dm} (ok : ∀ x ∈ ds, x.ok) (ok' : ∀ x ∈ ds', x.ok) (eq : ∀ r, okR ms' ds' r ↔ okR ms ds (P r))
include ok ok' eq
theorem Pm.can : canB ms' ds' = canB ms ds := by
  rw [Bool.eq_iff_iff, canB_iff ok', canB_iff ok]
  constructor
  · rintro ⟨r, h⟩
    exact ⟨P r, (eq r).mp h⟩
  · rintro ⟨r, h⟩
    exact ⟨P r, (eq _).mpr (by rw [pm.pp]; exact h)⟩
theorem Pm.hi (can : canB ms ds = true) : (rgs ms' (bsL ds')).2 = P (rgs ms (bsL ds)).2 := by
  have can' : canB ms' ds' = true := by rw [pm.can ok ok' eq]; exact can
  have h1 := ((okR_iff ok).mp ((eq _).mp (okR_top ok' can'))).1.2
  have h2 := ((okR_iff ok').mp ((eq (P (rgs ms (bsL ds)).2)).mpr (by rw [pm.pp]; exact okR_top ok can))).1.2
  have h1 := pm.le h1
  rw [pm.pp] at h1
  exact Q4.ext' fun e he => Int.le_antisymm (h1 e he) (h2 e he)
end
end PV
namespace PV
open PySem PySem.Spec PyProof.Rows L2
section
variable {P : Po} {p : Tg P}
@[simp ↓] theorem wS_raiseX {c : Nat} {f : Str} {fe : Fe} {σ : Sd} {cs : List Cell} : wS (sRaiseX c f fe σ cs) P p = wE (fe σ cs) (fun d c1 => P.ex (c, [(f, d)]) σ c1) (fun x c1 => P.ex x σ c1) := by
  unfold sRaiseX
  cases fe σ cs <;> rfl
def tryQ (sub : Nat → Option Bool) (f : Str) (P : Po) (x : Xc) (σ : Sd) (c : List Cell) : Prop := match sub x.1 with
  | some true => match x.2.lookup f with
    | some d => P.rt d c
    | none => False
  | some false => P.ex x σ c
  | none => False
@[simp ↓] theorem wS_tryF {sub : Nat → Option Bool} {f : Str} {fb : Fs} {σ : Sd} {cs : List Cell} : wS (sTryF sub f fb σ cs) P p = wS (fb σ cs) ⟨P.nx, P.rt, P.bk, P.ct, tryQ sub f P⟩ := by
  unfold sTryF
  cases fb σ cs with
  | ex x σ' c' =>
    show wS (match sub x.1 with
      | some true => match x.2.lookup f with
        | some d => Sr.rt d c'
        | none => .no
      | some false => .ex x σ' c'
      | none => .no) P p = tryQ sub f P x σ' c'
    unfold tryQ
    cases sub x.1 with
    | none => rfl
    | some b =>
      cases b with
      | false => rfl
      | true =>
        cases x.2.lookup f with
        | none => rfl
        | some d => rfl
  | _ => rfl
end
end PV
namespace PV
open PySem PySem.Spec PyProof.Rows L2
@[simp ↓] theorem iSqC_e {f : Fe} {σ : Sd} {cs : List Cell} : iSqC f σ cs = (f σ cs).bnd fun d c => walkC d c := id rfl
@[simp] theorem walkC_l {xs : List D} {c : List Cell} : walkC (.lst xs) c = .ok (none, xs, xs) c := id rfl
@[simp] theorem walkC_a {xs : List D} {c : List Cell} : walkC (.arg xs) c = .ok (none, xs, xs) c := id rfl
def zkO (k : Nat) (ys : List D) (c : List Cell) (o : Option Cell) : Out (Option Nat × List D × List D) := match o with
  | some (.lst xs) => .ok (some k, xs, zpD xs ys) c
  | _ => .no
@[simp] theorem zkO_s {k : Nat} {ys : List D} {c : List Cell} {xs : List D} : zkO k ys c (some (.lst xs)) = .ok (some k, xs, zpD xs ys) c := id rfl
def zpC (ds : List D) (c : List Cell) : Out (Option Nat × List D × List D) := match ds with
  | [.lst xs, .lst ys] => .ok (none, [], zpD xs ys) c
  | [.ref k, .lst ys] => zkO k ys c (cAt c k)
  | _ => .no
@[simp] theorem zpC_l {xs ys : List D} {c : List Cell} : zpC [.lst xs, .lst ys] c = .ok (none, [], zpD xs ys) c := id rfl
@[simp] theorem zpC_r {k : Nat} {ys : List D} {c : List Cell} : zpC [.ref k, .lst ys] c = zkO k ys c (cAt c k) := id rfl
@[simp ↓] theorem iZpC_e {f : Fa} {σ : Sd} {cs : List Cell} : iZpC f σ cs = (f σ cs).bnd fun ds c => zpC ds c := by
  unfold iZpC
  cases f σ cs with
  | ok ds c => rfl
  | ex x c => rfl
  | no => rfl
def wkO (k : Nat) (c : List Cell) (o : Option Cell) : Out (Option Nat × List D × List D) := match o with
  | some (.lst xs) => .ok (some k, xs, xs) c
  | _ => .no
@[simp] theorem wkO_s {k : Nat} {c : List Cell} {xs : List D} : wkO k c (some (.lst xs)) = .ok (some k, xs, xs) c := id rfl
@[simp] theorem walkC_r {k : Nat} {c : List Cell} : walkC (.ref k) c = wkO k c (cAt c k) := id rfl
@[simp ↓] theorem sForC_e {f : Fic} {g : Gt} {fb : Fs} {σ : Sd} {cs : List Cell} : sForC f g fb σ cs = sOfL (f σ cs) σ fun p c => forC g fb p.1 p.2.1 p.2.2 σ c := id rfl
@[simp ↓] theorem fLcC_e {fz : Bool} {fi : Fic} {g : Gt} {ft : Ft} {fe : Fe} {vs : List Nat} {σ : Sd} {cs : List Cell} : fLcC fz fi g ft fe vs σ cs = (fi σ cs).bnd fun p c => lcE fz (lcC g ft fe (wipeD σ vs) p.1 p.2.1 p.2.2 c) := id rfl
@[simp] theorem forC_no {g : Gt} {fb : Fs} {all : List D} : ∀ (xs : List D) (σ : Sd) (c : List Cell), forC g fb none all xs σ c = forL g fb xs σ c
  | [], σ, c => forC_nil grd_none
  | x :: xs, σ, c => by
    rw [forC_cons grd_none]
    show _ = (match g x σ c with
      | none => Sr.no
      | some σ1 => match fb σ1 c with
        | .nx σ2 c2 => forL g fb xs σ2 c2
        | .ct σ2 c2 => forL g fb xs σ2 c2
        | .bk σ2 c2 => .nx σ2 c2
        | r => r)
    cases g x σ c with
    | none => rfl
    | some σ1 =>
      simp only []
      cases fb σ1 c with
      | nx σ2 c2 => exact forC_no xs σ2 c2
      | ct σ2 c2 => exact forC_no xs σ2 c2
      | _ => rfl
@[simp] theorem lcC_no {g : Gt} {ft : Ft} {fe : Fe} {σ : Sd} {all : List D} : ∀ (xs : List D) (c : List Cell), lcC g ft fe σ none all xs c = lcM g ft fe σ xs c
  | [], c => lcC_nil grd_none
  | x :: xs, c => by
    rw [lcC_cons grd_none]
    show _ = (match g x σ c with
      | none => Out.no
      | some σ1 => match ft σ1 c with
        | .ok true c1 => match fe σ1 c1 with
          | .ok y c2 => (lcM g ft fe σ xs c2).bind fun ys c3 => .ok (y :: ys) c3
          | _ => .no
        | .ok false c1 => lcM g ft fe σ xs c1
        | _ => .no)
    cases g x σ c with
    | none => rfl
    | some σ1 =>
      simp only []
      cases ft σ1 c with
      | ok b c1 =>
        cases b with
        | true =>
          simp only []
          cases fe σ1 c1 with
          | ok y c2 => simp only []; rw [lcC_no xs c2]
          | _ => rfl
        | false => exact lcC_no xs c1
      | _ => rfl
end PV
namespace PV
open PySem PySem.Spec PyProof.Rows L2
@[simp ↓] theorem fFrzN_e {f : Fe} {σ : Sd} {cs : List Cell} : fFrzN f σ cs = (f σ cs).bnd fun d c => up (frzN d c) := id rfl
@[simp] theorem frzN_n {c : List Cell} : frzN .non c = some (.non, c) := id rfl
@[simp] theorem frzN_r {i : Nat} {c : List Cell} : frzN (.ref i) c = fzO i (cAt c i) c := frzD_e
end PV
namespace PV
open PySem PySem.Spec PyProof.Rows L2
structure RK (p : PyData) (w d : Nat) : Prop where
  sh : p.showable = true
  dp : p.depth ≤ d
  ok : okS p.shown
  ln : p.shown.length ≤ w
theorem RK.mono {p : PyData} {w d w' d' : Nat} (h : RK p w d) (hw : w ≤ w') (hd : d ≤ d') : RK p w' d' := ⟨h.sh, Nat.le_trans h.dp hd, h.ok, Nat.le_trans h.ln hw⟩
end PV
namespace PV
open PySem PySem.Spec PyProof.Rows L2
section
variable {P : Po} {p : Tg P}
def tryW (sub : Nat → Option Bool) (i : Nat) (fh : Fs) (P : Po) (x : Xc) (σ : Sd) (c : List Cell) : Prop := match sub x.1 with
  | some true => wS (fh (σ.set i (some (exD x))) c) ⟨fun τ c => P.nx (τ.set i none) c, P.rt, fun τ c => P.bk (τ.set i none) c, fun τ c => P.ct (τ.set i none) c, fun _ _ _ => False⟩
  | _ => False
@[simp ↓] theorem wS_tryW {sub : Nat → Option Bool} {i : Nat} {fb fh : Fs} {σ : Sd} {cs : List Cell} : wS (sTryW sub i fb fh σ cs) P p = wS (fb σ cs) ⟨P.nx, P.rt, P.bk, P.ct, tryW sub i fh P⟩ := by
  unfold sTryW
  cases fb σ cs with
  | ex x σ' c' =>
    show wS (match sub x.1 with
      | some true => (match fh (σ'.set i (some (exD x))) c' with
        | .nx τ c => Sr.nx (τ.set i none) c
        | .bk τ c => .bk (τ.set i none) c
        | .ct τ c => .ct (τ.set i none) c
        | .rt d c => .rt d c
        | _ => .no)
      | _ => .no) P p = tryW sub i fh P x σ' c'
    unfold tryW
    cases sub x.1 with
    | none => rfl
    | some b =>
      cases b with
      | false => rfl
      | true =>
        show wS (match fh (σ'.set i (some (exD x))) c' with
        | .nx τ c => Sr.nx (τ.set i none) c
        | .bk τ c => .bk (τ.set i none) c
        | .ct τ c => .ct (τ.set i none) c
        | .rt d c => .rt d c
        | _ => .no) P p = wS (fh (σ'.set i (some (exD x))) c') _
        cases fh (σ'.set i (some (exD x))) c' <;> rfl
  | _ => rfl
end
@[simp] theorem exD_w {k : Nat} {f : Str} {d : D} {r : List (Str × D)} : exD (k, (f, d) :: r) = .exw k ((f, d) :: r) := if_neg (by simp)
def xfO (sub : Nat → Option Bool) (f : Str) (d : D) (c : List Cell) : Out D := match d with
  | .exw k fs => match sub k with
    | some true => match fs.lookup f with
      | some v => .ok v c
      | none => .no
    | _ => .no
  | _ => .no
@[simp ↓] theorem fXf_e {sub : Nat → Option Bool} {f : Str} {fo : Fe} {σ : Sd} {cs : List Cell} : fXf sub f fo σ cs = (fo σ cs).bnd fun d c => xfO sub f d c := id rfl
theorem xfO_w {sub : Nat → Option Bool} {f : Str} {k : Nat} {d : D} {c : List Cell} (h : sub k = some true) : xfO sub f (.exw k [(f, d)]) c = .ok d c := by
  show (match sub k with
    | some true => match [(f, d)].lookup f with
      | some v => Out.ok v c
      | none => .no
    | _ => .no) = _
  rw [h]
  simp [List.lookup]
theorem rep_one (k n : Nat) : (⟨(List.replicate n (T [k]).cps).foldl (· ++ ·) #[]⟩ : Str) = T (List.replicate n k) := by
  have : ∀ (n : Nat) (acc : List Nat), (List.replicate n (T [k]).cps).foldl (· ++ ·) acc.toArray = (acc ++ List.replicate n k).toArray := fun n => by
    induction n with
    | zero => intro acc; simp
    | succ n ih =>
      intro acc
      rw [List.replicate_succ, List.foldl_cons]
      have : acc.toArray ++ (T [k]).cps = (acc ++ [k]).toArray := by
        unfold T
        simp
      rw [this, ih, List.append_assoc, List.replicate_succ]
      rfl
  have := this n []
  rw [List.nil_append] at this
  unfold T at this ⊢
  exact congrArg _ this
theorem dMulS_T {k : Nat} {n : Int} (h : 2 ≤ n ∧ n ≤ 1000) (cs : List Cell) : dMulS (.str (T [k])) (.int n) cs = some (.str (T (List.replicate n.toNat k)), cs) := by
  show (if 2 ≤ n ∧ n ≤ 1000 ∧ 1 ≤ (T [k]).length ∧ (T [k]).length * n.toNat ≤ 100000 then some (D.str ⟨(List.replicate n.toNat (T [k]).cps).foldl (· ++ ·) #[]⟩, cs) else none) = _
  rw [if_pos ⟨h.1, h.2, by rw [T_len]; simp, by rw [T_len]; simp; omega⟩, rep_one]
end PV
namespace Ck82
open PySem PySem.Spec PyProof.Rows L2 PV
theorem isint_eq (r : Int) (cs : List Cell) : F_is_integer [.int r] cs = .ok (.bl true) cs := by
  unfold F_is_integer
  rw [runDef_e, if_pos (show [D.int r].length = 1 from rfl)]
  unfold b_is_integer
  simp [dIsI, kdOf, clsOf, okKd]
theorem isplace_eq {r : Int} (cs : List Cell) (h : 0 ≤ r ∧ r < 10 ^ 30) : F_is_place [.int r] cs = .ok (.bl true) cs := by
  unfold F_is_place
  rw [runDef_e, if_pos (show [D.int r].length = 1 from rfl)]
  unfold b_is_place
  have h2 : r < 1000000000000000000000000000000 := h.2
  simp [isint_eq, h.1, h2]
theorem ispart_eq {r : Int} {f : Bool} (cs : List Cell) (h : place r f) : F_is_part [.int r, .bl f] cs = .ok (.bl true) cs := by
  unfold F_is_part
  rw [runDef_e, if_pos (show [D.int r, D.bl f].length = 2 from rfl)]
  unfold b_is_part
  cases f
  · simp [isint_eq, dIsI, kdOf, clsOf, okKd]
  · simp [isplace_eq _ (h rfl), dIsI, kdOf, clsOf, okKd]
theorem init_eq {r c : Int} {f g : Bool} (cs : List Cell) (h1 : place r f) (h2 : place c g) : F_Reference___init [.ref cs.length, .int r, .int c, .bl f, .bl g] (cs ++ [.ins 0 []]) = .ok .non (cs ++ [.ins 0 (rfs r c f g)]) := by
  unfold F_Reference___init
  rw [runDef_e, if_pos (show [D.ref cs.length, .int r, .int c, .bl f, .bl g].length = 5 from rfl)]
  unfold b_Reference___init
  simp [b_Reference___init_0, ispart_eq _ h1, ispart_eq _ h2, put1, put2, put3, put4, rfs]
theorem mk5 {r c : Int} {f g : Bool} (cs : List Cell) (h1 : place r f) (h2 : place c g) : mkK 0 true (fnK 5 0 5 F_Reference___init gK_Reference___init_5) [.int r, .int c, .bl f, .bl g] [] cs = .ok (rD 0 r c f g) (cs ++ [.dead]) := by
  rw [mkK_e]
  simp [init_eq cs h1 h2, gK_Reference___init_5, rD]
theorem prow_eq {r c : Int} {f g : Bool} {cs : List Cell} : F_Reference_row [rD 0 r c f g] cs = .ok (.int r) cs := by
  unfold F_Reference_row
  rw [runDef_e, if_pos (show [rD 0 r c f g].length = 1 from rfl)]
  unfold b_Reference_row
  simp [lk1]
theorem pcol_eq {r c : Int} {f g : Bool} {cs : List Cell} : F_Reference_column [rD 0 r c f g] cs = .ok (.int c) cs := by
  unfold F_Reference_column
  rw [runDef_e, if_pos (show [rD 0 r c f g].length = 1 from rfl)]
  unfold b_Reference_column
  simp [lk2]
theorem pfrow_eq {r c : Int} {f g : Bool} {cs : List Cell} : F_Reference_fixed_row [rD 0 r c f g] cs = .ok (.bl f) cs := by
  unfold F_Reference_fixed_row
  rw [runDef_e, if_pos (show [rD 0 r c f g].length = 1 from rfl)]
  unfold b_Reference_fixed_row
  simp [lk3]
theorem pfcol_eq {r c : Int} {f g : Bool} {cs : List Cell} : F_Reference_fixed_column [rD 0 r c f g] cs = .ok (.bl g) cs := by
  unfold F_Reference_fixed_column
  rw [runDef_e, if_pos (show [rD 0 r c f g].length = 1 from rfl)]
  unfold b_Reference_fixed_column
  simp [lk4]
theorem part_isref (p : Option Rf) (σ : Sd) (cs : List Cell) (h : σ[2]? = some (some (oD 0 p))) : (fOrV (fOp2 (dIs false) (fVar 2) (fC .non)) (fCB (dIsI nCls tab) (aCons (fVar 2) (aCons (fC (.cl 0)) aNil)))) σ cs = .ok (.bl true) cs := by
  cases p with
  | none => simp [h, oD]
  | some p => simp [h, oD, dIsI, clsOf, okKd]
theorem finit_eq (ps : List (Option Rf)) (h1 : 1 ≤ ps.length) (h2 : ps.length ≤ 20) (cs : List Cell) : F_Formula___init (.ref cs.length :: ps.map (oD 0)) (cs ++ [.ins 1 []]) = .ok .non (cs ++ [.ins 1 (ffs (ps.map (oD 0)))]) := by
  unfold F_Formula___init
  have sz : 21 ≤ sizeLine := by decide
  rw [runVar_e ⟨by simp, by simp; omega⟩]
  show runDef 2 3 b_Formula___init [.ref cs.length, .tup (ps.map (oD 0))] _ = _
  rw [runDef_e, if_pos (show [D.ref cs.length, .tup (ps.map (oD 0))].length = 2 from rfl)]
  unfold b_Formula___init
  have e : ∀ c, lcM (gN 2) (fun _ c => .ok true c) (fOrV (fOp2 (dIs false) (fVar 2) (fC .non)) (fCB (dIsI nCls tab) (aCons (fVar 2) (aCons (fC (.cl 0)) aNil)))) [some (.ref cs.length), some (.tup (ps.map (oD 0))), none] (ps.map (oD 0)) c = .ok (ps.map fun _ => .bl true) c := fun c =>
    lcM_pur (oD 0) (fun _ => .bl true) ps fun p _ => ⟨_, rfl, rfl, part_isref p _ c rfl⟩
  have szl : ps.length ≤ sizeLine := by omega
  have h1' : (1 : Int) ≤ (ps.length : Int) := by omega
  have h2' : (ps.length : Int) ≤ 20 := by omega
  have ea : ∀ c, dAll [.lst (ps.map fun _ => D.bl true)] c = some (.bl true, c) := fun c => by rw [dAll_map (fun _ => true)]; simp
  simp [h1', h2', e, ea, szl, put5, ffs]
theorem mkF (ps : List (Option Rf)) (h1 : 1 ≤ ps.length) (h2 : ps.length ≤ 20) (cs : List Cell) : mkK 1 true (posK F_Formula___init) (ps.map (oD 0)) [] cs = .ok (fD 1 0 ps) (cs ++ [.dead]) := by
  rw [mkK_e]
  simp [finit_eq ps h1 h2 cs, fD]
theorem of_eq (ps : List (Option Rf)) (h1 : 1 ≤ ps.length) (h2 : ps.length ≤ 20) {d : D} (cs : List Cell) (hk : kdOf cs d = some (.ty "list")) (hs : seqOf cs d = some (ps.map (oD 0))) : F_Formula_of [.cl 1, d] cs = .ok (fD 1 0 ps) (cs ++ [.dead]) := by
  unfold F_Formula_of
  rw [runDef_e, if_pos (show [D.cl 1, d].length = 2 from rfl)]
  unfold b_Formula_of
  have e : dIsI nCls tab [d, .ty "list"] cs = some (.bl true, cs) := by
    simp [dIsI, hk, clsOf, okKd]
  simp [e, hs, mkF ps h1 h2 cs]
theorem of_l (ps : List (Option Rf)) (h1 : 1 ≤ ps.length) (h2 : ps.length ≤ 20) (cs : List Cell) : F_Formula_of [.cl 1, .lst (ps.map (oD 0))] cs = .ok (fD 1 0 ps) (cs ++ [.dead]) := of_eq ps h1 h2 cs rfl rfl
theorem parts_eq (ps : List (Option Rf)) (cs : List Cell) : F_Formula_parts [fD 1 0 ps] cs = .ok (.ref cs.length) (cs ++ [.lst (ps.map (oD 0))]) := by
  unfold F_Formula_parts
  rw [runDef_e, if_pos (show [fD 1 0 ps].length = 1 from rfl)]
  unfold b_Formula_parts
  simp [lkF]
theorem next_is : F_law_next = nextF := rfl
theorem tape_is : F_law_tape = tapeF := rfl
def wd (r : Int) (f : Bool) : List Nat := if f = true then idg r else 91 :: (idg r ++ [93])
theorem Tm : (("-" : String) : Str) = T [45] := by
  refine TL.ext_tl ?_
  rw [show TL.tl (T [45]) = [45] from T_tl _]
  decide +kernel
theorem To : (("[" : String) : Str) = T [91] := by
  refine TL.ext_tl ?_
  rw [show TL.tl (T [91]) = [91] from T_tl _]
  decide +kernel
theorem Tc : (("]" : String) : Str) = T [93] := by
  refine TL.ext_tl ?_
  rw [show TL.tl (T [93]) = [93] from T_tl _]
  decide +kernel
theorem one_eq (n : Bool) {a b : Nat} (ha : a < 0x110000) (hb : b < 0x110000) (c : List Cell) : dEq n (.str (T [a])) (.str (T [b])) c = some (.bl (if n then !decide (a = b) else decide (a = b)), c) := by
  rw [dEq_T n (fun k hk => by rw [List.mem_singleton.mp hk]; exact ha) (fun k hk => by rw [List.mem_singleton.mp hk]; exact hb)]
  have : decide ([a] = [b]) = decide (a = b) := decide_eq_decide.mpr (by simp)
  rw [this]
theorem idg_len {r : Int} (h : r.natAbs < 10 ^ 30) : (idg r).length ≤ 31 := by
  have := dg_len (k := 30) (by decide) h
  unfold idg
  split
  · simp; omega
  · omega
def wt (p : Rf) : List Nat := 82 :: (wd p.r p.f ++ 67 :: wd p.c p.g)
def wO : Option Rf → List Nat
  | none => [35]
  | some p => wt p
def bnd (p : Rf) : Prop := (p.r.natAbs < 10 ^ 30 ∧ (p.f = true → 0 ≤ p.r)) ∧ p.c.natAbs < 10 ^ 30 ∧ (p.g = true → 0 ≤ p.c)
theorem wd_mem {r : Int} {f : Bool} {k : Nat} (h : k ∈ wd r f) : k = 45 ∨ (48 ≤ k ∧ k ≤ 57) ∨ k = 91 ∨ k = 93 := by
  unfold wd at h
  split at h
  · have := idg_mem h
    omega
  · rcases List.mem_cons.mp h with h | h
    · omega
    · rcases List.mem_append.mp h with h | h
      · have := idg_mem h
        omega
      · have := List.mem_singleton.mp h
        omega
theorem wO_mem {p : Option Rf} {k : Nat} (h : k ∈ wO p) : k ≠ 32 ∧ k < 0x110000 := by
  cases p with
  | none =>
    have := List.mem_singleton.mp h
    omega
  | some p =>
    have h : k ∈ 82 :: (wd p.r p.f ++ 67 :: wd p.c p.g) := h
    rcases List.mem_cons.mp h with h | h
    · omega
    · rcases List.mem_append.mp h with h | h
      · have := wd_mem h
        omega
      · rcases List.mem_cons.mp h with h | h
        · omega
        · have := wd_mem h
          omega
theorem wd_len {r : Int} {f : Bool} (h : r.natAbs < 10 ^ 30) : (wd r f).length ≤ 33 := by
  have ln := idg_len h
  unfold wd
  split
  · omega
  · simp; omega
theorem TR : (("R" : String) : Str) = T [82] := by
  refine TL.ext_tl ?_
  rw [show TL.tl (T [82]) = [82] from T_tl _]
  decide +kernel
theorem TC : (("C" : String) : Str) = T [67] := by
  refine TL.ext_tl ?_
  rw [show TL.tl (T [67]) = [67] from T_tl _]
  decide +kernel
theorem Th : (("#" : String) : Str) = T [35] := by
  refine TL.ext_tl ?_
  rw [show TL.tl (T [35]) = [35] from T_tl _]
  decide +kernel
theorem Ts : ((" " : String) : Str) = T [32] := by
  refine TL.ext_tl ?_
  rw [show TL.tl (T [32]) = [32] from T_tl _]
  decide +kernel
theorem wt_len {p : Rf} (h : bnd p) : (wt p).length ≤ 70 := by
  have a := wd_len (f := p.f) h.1.1
  have b := wd_len (f := p.g) h.2.1
  unfold wt
  simp
  omega
theorem sm30 {r : Int} (h : r.natAbs < 10 ^ 30) : r.natAbs.log2 < 1920 := by
  have a : r.natAbs < 2 ^ 100 := Nat.lt_trans h (by decide)
  have := log_lt_of a
  omega
def bnds (ps : List (Option Rf)) : Prop := ∀ p ∈ ps, ∀ r, p = some r → bnd r
def fw (ps : List (Option Rf)) : List Nat := TL.joinL [32] (ps.map wO)
theorem wO_len {p : Option Rf} (h : ∀ r, p = some r → bnd r) : (wO p).length ≤ 70 := by
  cases p with
  | none => show [35].length ≤ 70; decide
  | some p => exact wt_len (h p rfl)
theorem sum_len {ps : List (Option Rf)} (h : bnds ps) : ((ps.map wO).map (·.length)).sum ≤ ps.length * 70 := by
  induction ps with
  | nil => simp
  | cons p ps ih =>
    have a := wO_len (h p (List.mem_cons_self ..))
    have b := ih fun q hq => h q (List.mem_cons_of_mem _ hq)
    simp only [List.map_cons, List.sum_cons, List.length_cons]
    omega
theorem join_len (s : Nat) : ∀ ws : List (List Nat), (TL.joinL [s] ws).length ≤ (ws.map (·.length)).sum + ws.length
  | [] => by simp [TL.joinL]
  | [w] => by simp [TL.joinL]
  | w :: v :: r => by
    have := join_len s (v :: r)
    show (w ++ ([s] ++ TL.joinL [s] (v :: r))).length ≤ _
    simp only [List.length_append, List.length_cons, List.length_nil, List.map_cons, List.sum_cons] at this ⊢
    omega
theorem fw_len {ps : List (Option Rf)} (h : bnds ps) (hl : ps.length ≤ 20) : (fw ps).length ≤ 1500 := by
  have a := sum_len h
  have b := join_len 32 (ps.map wO)
  rw [List.length_map] at b
  unfold fw
  omega
theorem lword_eq (p : Option Rf) (h : ∀ r, p = some r → bnd r) (cs : List Cell) : F_law_word [oTp p] cs = .ok (.str (T (wO p))) cs := by
  unfold F_law_word
  rw [runDef_e, if_pos (show [oTp p].length = 1 from rfl)]
  unfold b_law_word
  rw [To, Tc, TR, TC, Th]
  cases p with
  | none => simp [oTp]; rfl
  | some p =>
    have b := h p rfl
    have s1 := sm30 b.1.1
    have s2 := sm30 b.2.1
    have l1 := idg_len b.1.1
    have l2 := idg_len b.2.1
    have d1 := fun c => dStrC_i s1 c
    have d2 := fun c => dStrC_i s2 c
    obtain ⟨r, c, f, g⟩ := p
    have nn : ∀ k, dIs false (Rf.tp ⟨r, c, f, g⟩) .non k = some (.bl false, k) := fun k => rfl
    have i0 : ∀ k, dIx (Rf.tp ⟨r, c, f, g⟩) (.int 0) k = some (.int r, k) := fun k => rfl
    have i1 : ∀ k, dIx (Rf.tp ⟨r, c, f, g⟩) (.int 1) k = some (.int c, k) := fun k => rfl
    have i2 : ∀ k, dIx (Rf.tp ⟨r, c, f, g⟩) (.int 2) k = some (.bl f, k) := fun k => rfl
    have i3 : ∀ k, dIx (Rf.tp ⟨r, c, f, g⟩) (.int 3) k = some (.bl g, k) := fun k => rfl
    have op : oTp (some ⟨r, c, f, g⟩) = Rf.tp ⟨r, c, f, g⟩ := rfl
    have sle : ∀ n, n ≤ 400 → n ≤ sizeLine := fun n h => Nat.le_trans h (by decide)
    rw [op]
    generalize Rf.tp ⟨r, c, f, g⟩ = P at *
    simp only [] at s1 s2 l1 l2 d1 d2
    show _ = Out.ok (D.str (T (82 :: (wd r f ++ 67 :: wd c g)))) cs
    unfold wd
    have A : ∀ (n : Nat) (x : D) (k : List Cell), n ≤ 400 → (if n ≤ sizeLine then some (x, k) else none) = some (x, k) := fun n x k h => if_pos (sle n h)
    cases f <;> cases g <;> simp [nn, i0, i1, i2, i3, d1, d2, T_app, T_len]
    all_goals
      repeat
        rw [A _ _ _ (by omega)]
        simp [nn, i0, i1, i2, i3, d1, d2, T_app, T_len]
theorem lseen_wE (ps : List (Option Rf)) (hl : ps.length ≤ 20) (c : List Cell) : wE (F_law_seen [fD 1 0 ps] c) (fun d c' => d = .lst (ps.map oTp) ∧ Gw c c') nE := by
  have pe := parts_eq ps
  unfold F_law_seen
  refine wE_run rfl ?_
  show wS (b_law_seen [some (fD 1 0 ps), none, none] c) _
  unfold b_law_seen
  simp [-forL_cons, pe]
  refine wS_forL (fun j σ c' => Gw c c' ∧ ∃ y2, σ = [some (fD 1 0 ps), some (.ref c.length), y2] ∧ cAt c' c.length = some (.lst ((ps.take j).map oTp))) ⟨Gw.app, _, rfl, by simp⟩ ?_ ?_
  · rintro j d σ c' hd ⟨g, y2, rfl, hc⟩
    obtain ⟨p, hp, rfl⟩ : ∃ p, ps[j]? = some p ∧ d = oD 0 p := by
      rw [List.getElem?_map] at hd
      cases e : ps[j]? with
      | none => rw [e] at hd; cases hd
      | some p =>
        rw [e] at hd
        cases hd
        exact ⟨p, rfl, rfl⟩
    have tk : (ps.take (j + 1)).map oTp = (ps.take j).map oTp ++ [oTp p] := by
      rw [List.take_succ, hp]
      simp
    have lt : c.length < c'.length := cAt_lt hc
    have szl : ((ps.take j).map oTp).length < sizeLine := by
      rw [List.length_map, List.length_take]
      exact Nat.lt_of_lt_of_le (by omega : _ < 400) (by decide)
    refine ⟨_, rfl, ?_⟩
    unfold b_law_seen_L0
    rw [tk]
    generalize (ps.take j).map oTp = PS at *
    cases p with
    | none =>
      have o0 : oD 0 none = .non := rfl
      have nn : ∀ c, dIs false .non .non c = some (.bl true, c) := fun c => rfl
      have ot : oTp none = .non := rfl
      rw [o0, ot]
      simp [nn, hc, szl, lt]
      exact Gw.set g (Nat.le_refl _)
    | some p =>
      have o0 : oD 0 (some p) = rD 0 p.r p.c p.f p.g := rfl
      have ot : oTp (some p) = .tup [.int p.r, .int p.c, .bl p.f, .bl p.g] := rfl
      have nn : ∀ c, dIs false (rD 0 p.r p.c p.f p.g) .non c = some (.bl false, c) := fun c => rfl
      have e1 := fun c => prow_eq (r := p.r) (c := p.c) (f := p.f) (g := p.g) (cs := c)
      have e2 := fun c => pcol_eq (r := p.r) (c := p.c) (f := p.f) (g := p.g) (cs := c)
      have e3 := fun c => pfrow_eq (r := p.r) (c := p.c) (f := p.f) (g := p.g) (cs := c)
      have e4 := fun c => pfcol_eq (r := p.r) (c := p.c) (f := p.f) (g := p.g) (cs := c)
      have ic : ∀ c, insOf c (rD 0 p.r p.c p.f p.g) = some (0, rfs p.r p.c p.f p.g) := fun c => rfl
      rw [o0, ot]
      generalize rD 0 p.r p.c p.f p.g = P at *
      simp [nn, ic, e1, e2, e3, e4, hc, szl, lt]
      exact Gw.set g (Nat.le_refl _)
  · rintro σ c' ⟨g, y2, rfl, hc⟩
    rw [List.length_map, List.take_length] at hc
    have lt : c.length < c'.length := cAt_lt hc
    show wS (sSeq (sFrz 1) (sRet (fVar 1)) [some (fD 1 0 ps), some (.ref c.length), y2] c') _
    simp [hc, lt]
    exact Gw.set g (Nat.le_refl _)
theorem i4_ok (x y z u : Int) (v : Int) (v0 : 0 ≤ v) (v1 : v < 4) : ∃ r, atI [D.int x, .int y, .int z, .int u] v = some (.int r) ∧ (r = x ∨ r = y ∨ r = z ∨ r = u) := by
  have : v = 0 ∨ v = 1 ∨ v = 2 ∨ v = 3 := by omega
  rcases this with rfl | rfl | rfl | rfl
  · exact ⟨x, rfl, .inl rfl⟩
  · exact ⟨y, rfl, .inr (.inl rfl)⟩
  · exact ⟨z, rfl, .inr (.inr (.inl rfl))⟩
  · exact ⟨u, rfl, .inr (.inr (.inr rfl))⟩
theorem axis_turn (K i : Nat) {W : Int} (w1 : 1 ≤ W) (w2 : W ≤ 10 ^ 30) (c0 c : List Cell) (hf : TFd K i c0) (N : Nat) (hK : K + N + 9 ≤ 10 ^ 9) (nx : TN N i c0 c) (n5 n6 : Nat) (h5 : c0.length ≤ n5) (h6 : c0.length ≤ n6) (h56 : n5 ≠ n6) (xs ys : List D) (hx : xs.length < 9) (hy : ys.length < 9) (hc5 : cAt c n5 = some (.lst xs)) (hc6 : cAt c n6 = some (.lst ys)) (x1 x3 x4 x7 x8 x9 : Option D) :
    wS (b_law_any_L0 [some (.ref i), x1, some (.int W), x3, x4, some (.ref n5), some (.ref n6), x7, x8, x9] c) (okP fun σ c' => TN (N + 4) i c0 c' ∧ ∃ (r : Int) (f : Bool) (y8 y9 : Option D), σ = [some (.ref i), x1, some (.int W), x3, x4, some (.ref n5), some (.ref n6), x7, y8, y9] ∧ cAt c' n5 = some (.lst (xs ++ [.int r])) ∧ cAt c' n6 = some (.lst (ys ++ [.bl f])) ∧ r.natAbs < 10 ^ 30 ∧ (f = true → 0 ≤ r)) := by
  have big : (10 : Int) ^ 30 < 2 ^ 200 := by decide
  have p30 : ((10 ^ 30 : Nat) : Int) = (10 : Int) ^ 30 := rfl
  have hi := hf.lt
  have e5 : n5 ≠ i := by omega
  have e6 : n6 ≠ i := by omega
  have sx : xs.length < sizeLine := Nat.lt_of_lt_of_le hx (by decide)
  have sy : ys.length < sizeLine := Nat.lt_of_lt_of_le hy (by decide)
  have l5 : n5 < c.length := cAt_lt hc5
  have l6 : n6 < c.length := cAt_lt hc6
  unfold b_law_any_L0
  simp [next_is, -dEq_l]
  refine (next_tx (nx.fd K hf) (by omega) (m := 2) (by decide) (by decide)).go ?_
  rintro _ c1 ⟨v, rfl, v0, v1, n1, k1⟩
  have m1 := nx.trans n1
  obtain ⟨f, hfv⟩ : ∃ f : Bool, f = decide (v = 0) := ⟨_, rfl⟩
  have dv : ∀ c, dEq false (.int v) (.int 0) c = some (.bl f, c) := fun c => by rw [hfv]; simp
  simp [next_is, -dEq_l, dv]
  refine (next_tx (m1.fd K hf) (by omega) (m := W) (by omega) (by omega)).go ?_
  rintro _ c2 ⟨u, rfl, u0, u1, n2, k2⟩
  have m2 := m1.trans n2
  simp [next_is, -dEq_l]
  refine (next_tx (m2.fd K hf) (by omega) (m := 4) (by decide) (by decide)).go ?_
  rintro _ c3 ⟨w, rfl, w0, w1', n3, k3⟩
  have m3 := m2.trans n3
  obtain ⟨r, er, hr⟩ := i4_ok u 0 (W - 1) 1 w w0 w1'
  have r0 : 0 ≤ r := by omega
  have rb : r < 10 ^ 30 := by omega
  have hC5 : cAt c3 n5 = some (.lst xs) := by rw [n3.at_ _ e5 (by omega), n2.at_ _ e5 (by omega), n1.at_ _ e5 l5]; exact hc5
  have hC6 : cAt c3 n6 = some (.lst ys) := by rw [n3.at_ _ e6 (by omega), n2.at_ _ e6 (by omega), n1.at_ _ e6 l6]; exact hc6
  have l5' : n5 < c3.length := by omega
  have l6' : n6 < c3.length := by omega
  cases f with
  | true =>
    simp [er, hC5, hC6, sx, sy, l5', l6', h56, h56.symm]
    exact ⟨TN.set (TN.set (m3.mono (by omega)) h5 hi) h6 hi, by omega, r0⟩
  | false =>
    simp [er, hC5, next_is, -dEq_l]
    refine (next_tx (m3.fd K hf) (by omega) (m := 2) (by decide) (by decide)).go ?_
    rintro _ c4 ⟨z, rfl, z0, z1, n4, k4⟩
    have hD5 : cAt c4 n5 = some (.lst xs) := by rw [n4.at_ _ e5 l5']; exact hC5
    have hD6 : cAt c4 n6 = some (.lst ys) := by rw [n4.at_ _ e6 l6']; exact hC6
    have l5'' : n5 < c4.length := by omega
    have l6'' : n6 < c4.length := by omega
    have m4 := m3.trans n4
    by_cases hz : z = 0
    · simp [hz, hD5, hD6, sx, sy, l5'', l6'', h56, h56.symm]
      exact ⟨TN.set (TN.set (m4.mono (by omega)) h5 hi) h6 hi, by omega⟩
    · simp [hz, hD5, hD6, sx, sy, l5'', l6'', h56, h56.symm]
      exact ⟨TN.set (TN.set (m4.mono (by omega)) h5 hi) h6 hi, by omega⟩
theorem bnd_ok {p : Rf} (h : bnd p) : okp (some p) := by
  intro x hx
  cases hx
  obtain ⟨⟨a, b⟩, c, d⟩ := h
  have p30 : ((10 ^ 30 : Nat) : Int) = (10 : Int) ^ 30 := rfl
  exact ⟨fun e => ⟨b e, by have := b e; omega⟩, fun e => ⟨d e, by have := d e; omega⟩⟩
theorem lany_ex (K i : Nat) {W : Int} (w1 : 1 ≤ W) (w2 : W ≤ 10 ^ 30) (m : Nat) (hm : m ≤ 20) (c : List Cell) (hf : TFd K i c) (hK : K + 9 * m + 20 ≤ 10 ^ 9) : ∃ d c', F_law_any [.ref i, .int m, .int W] c = .ok d c' ∧ ∃ ps : List (Option Rf), d = .lst (ps.map oTp) ∧ ps.length = m ∧ bnds ps ∧ TN (9 * m) i c c' := by
  refine wE_iff.mp (?_ : wE (F_law_any [.ref i, .int m, .int W] c) (fun d c' => ∃ ps : List (Option Rf), d = .lst (ps.map oTp) ∧ ps.length = m ∧ bnds ps ∧ TN (9 * m) i c c') nE)
  have hi := hf.lt
  have rg2 : ∀ c, rgO1 [.int 2] c = .ok [.int 0, .int 1] c := fun c => rfl
  have rg : ∀ c, rgO1 [.int (m : Int)] c = .ok (rngD 0 m) c := fun c => by
    rw [rg1_ok (by omega)]
    congr 2
  have dl : (rngD 0 m).length = m := by simp [rngD]
  have hne : c.length ≠ i := by omega
  unfold F_law_any
  rw [runDef_e, if_pos (show [D.ref i, D.int (m : Int), D.int W].length = 3 from rfl)]
  unfold b_law_any
  simp [-rgO1_i, -forL_cons, rg]
  refine wS_forL (fun j σ c' => TN (9 * j) i c c' ∧ ∃ (ps : List (Option Rf)) (y4 y5 y6 y7 y8 y9 : Option D), σ = [some (.ref i), some (.int m), some (.int W), some (.ref c.length), y4, y5, y6, y7, y8, y9] ∧ cAt c' c.length = some (.lst (ps.map oTp)) ∧ ps.length = j ∧ bnds ps) ⟨TN.gw Gw.app, [], _, _, _, _, _, _, rfl, by simp, rfl, fun p hp => (List.not_mem_nil hp).elim⟩ ?_ ?_
  · rintro j d σ c' hd ⟨nx, ps, y4, y5, y6, y7, y8, y9, rfl, hc, hl, hb⟩
    have hj : j < m := by
      have := (List.getElem?_eq_some_iff.mp hd).1
      rw [dl] at this
      exact this
    have f2 := nx.fd K hf
    have lc : c.length < c'.length := cAt_lt hc
    have hi' := f2.lt
    refine ⟨_, rfl, ?_⟩
    unfold b_law_any_L1
    simp [-rgO1_i, -forL_cons, rg2]
    have a5 : cAt (c' ++ [Cell.lst [], Cell.lst []]) c'.length = some (.lst []) := by simp
    have a6 : cAt (c' ++ [Cell.lst [], Cell.lst []]) (c'.length + 1) = some (.lst []) := by
      unfold cAt
      rw [List.getElem?_append_right (by omega)]
      simp
    obtain ⟨σ1, d1, e1, nx1, r, f, z8, z9, rfl, b5, b6, t1, t1'⟩ := wS_okP.mp (axis_turn (K + 9 * j) i w1 w2 c' (c' ++ [Cell.lst [], Cell.lst []]) f2 0 (by omega) (TN.gw Gw.app) c'.length (c'.length + 1) (Nat.le_refl _) (by omega) (by omega) [] [] (by simp) (by simp) a5 a6 (some (.int m)) (some (.ref c.length)) (some d) (some (.int 0)) y8 y9)
    obtain ⟨σ2, d2, e2, nx2, u, g, v8, v9, rfl, b5', b6', t2, t2'⟩ := wS_okP.mp (axis_turn (K + 9 * j) i w1 w2 c' d1 f2 4 (by omega) (by simpa using nx1) c'.length (c'.length + 1) (Nat.le_refl _) (by omega) (by omega) [.int r] [.bl f] (by simp) (by simp) b5 b6 (some (.int m)) (some (.ref c.length)) (some d) (some (.int 1)) z8 z9)
    rw [forL_nx (show gN 7 (.int 0) _ _ = some _ from rfl) e1, forL_nx (show gN 7 (.int 1) _ d1 = some _ from rfl) e2]
    have hc2 : cAt d2 c.length = some (.lst (ps.map oTp)) := by rw [nx2.at_ _ hne lc]; exact hc
    have l5 : c'.length < d2.length := cAt_lt b5'
    have l6 : c'.length + 1 < d2.length := cAt_lt b6'
    simp at b5' b6'
    have n35 : c'.length ≠ c.length := by omega
    have n36 : c'.length + 1 ≠ c.length := by omega
    have n56 : c'.length ≠ c'.length + 1 := by omega
    simp [b5', b6', l5, l6, n35, n36, n56, n56.symm, hc2, next_is]
    have nxa : TN 8 i c' ((d2.set c'.length Cell.dead).set (c'.length + 1) Cell.dead) := TN.set (TN.set (by simpa using nx2) (Nat.le_refl _) hi') (by omega) hi'
    have hc3 : cAt ((d2.set c'.length Cell.dead).set (c'.length + 1) Cell.dead) c.length = some (.lst (ps.map oTp)) := by
      rw [cAt_set_ne n36, cAt_set_ne n35]
      exact hc2
    generalize (d2.set c'.length Cell.dead).set (c'.length + 1) Cell.dead = d3 at *
    refine (next_tx (nxa.fd _ f2) (by omega) (m := 7) (by decide) (by decide)).go ?_
    rintro _ d4 ⟨v, rfl, v0, v1, n4, k4⟩
    have l3 : c.length < d3.length := cAt_lt hc3
    have hc4 : cAt d4 c.length = some (.lst (ps.map oTp)) := by rw [n4.at_ _ hne l3]; exact hc3
    have l4 : c.length < d4.length := cAt_lt hc4
    have szp : (ps.map oTp).length < sizeLine := by
      rw [List.length_map, hl]
      exact Nat.lt_of_lt_of_le (by omega : _ < 400) (by decide)
    have szp' : ps.length < sizeLine := by rwa [List.length_map] at szp
    have nxb : TN (9 * (j + 1)) i c d4 := (nx.trans (nxa.trans n4)).mono (by omega)
    by_cases hv : 0 < v
    · simp [hv, hc4, l4, szp']
      refine ⟨TN.set nxb (Nat.le_refl _) hi, ps ++ [some ⟨r, u, f, g⟩], by simp [oTp, Rf.tp], by simp [hl], fun p hp q e => ?_⟩
      rcases List.mem_append.mp hp with hp | hp
      · exact hb p hp q e
      · rw [List.mem_singleton.mp hp] at e
        cases e
        exact ⟨⟨t1, t1'⟩, t2, t2'⟩
    · simp [hv, hc4, l4, szp']
      refine ⟨TN.set nxb (Nat.le_refl _) hi, ps ++ [none], by simp [oTp], by simp [hl], fun p hp q e => ?_⟩
      rcases List.mem_append.mp hp with hp | hp
      · exact hb p hp q e
      · rw [List.mem_singleton.mp hp] at e
        cases e
  · rintro σ c' ⟨nx, ps, y4, y5, y6, y7, y8, y9, rfl, hc, hl, hb⟩
    rw [dl] at hl nx
    have lt : c.length < c'.length := cAt_lt hc
    show wS (sSeq (sFrz 3) (sRet (fVar 3)) [some (.ref i), some (.int m), some (.int W), some (.ref c.length), y4, y5, y6, y7, y8, y9] c') _
    simp [hc, lt]
    exact ⟨ps, rfl, hl, hb, TN.set nx (Nat.le_refl _) hi⟩
end Ck82
namespace Ck82
open PySem PySem.Spec PyProof.Rows L2 PV
def DG : List Nat := [48, 49, 50, 51, 52, 53, 54, 55, 56, 57]
theorem DG_eq : (("0123456789" : String) : Str) = T DG := by
  refine TL.ext_tl ?_
  rw [show TL.tl (T DG) = DG from T_tl DG]
  decide +kernel
theorem mem_DG {k : Nat} : k ∈ DG ↔ 48 ≤ k ∧ k ≤ 57 := by
  unfold DG
  simp only [List.mem_cons, List.not_mem_nil, or_false]
  omega
theorem dec_DG (k : Nat) : decide (k ∈ DG) = isD k := by unfold isD; exact decide_eq_decide.mpr mem_DG
theorem T1 : (("0" : String) : Str) = T [48] := by
  refine TL.ext_tl ?_
  rw [show TL.tl (T [48]) = [48] from T_tl _]
  decide +kernel
def okT (w : List Nat) : Prop := ∀ k ∈ w, k < 0x110000
theorem okT.c {a : Nat} {w : List Nat} (h : okT (a :: w)) : a < 0x110000 ∧ okT w := ⟨h a (by simp), fun k hk => h k (List.mem_cons_of_mem _ hk)⟩
theorem okT.s {s : Nat} {l : List Nat} (h : okT l) : ∀ w ∈ spl s l, okT w := fun w hw k hk => h k (spl_mem hw hk)
theorem T_ok {w : List Nat} (h : okT w) : okS (T w) := T_okS h
def nD : Option Nat → D
  | none => .non
  | some n => .int (n : Nat)
theorem numO_no {w : List Nat} (h : okN w = false) : numO w = none := by unfold numO; rw [if_neg (by rw [h]; simp)]
theorem int_tail {w : List Nat} (hw : okT w) (ok : okN w = true) (x1 : Option D) (c : List Cell) : (fIfE (fAnd (fTst (fOp2 (dEq false) (fOp2 dIx (fVar 0) (fC (.int 0))) (fC (.str "0")))) (fTst (fOp2 (dEq true) (fVar 0) (fC (.str "0"))))) (fC .non) (fCB (gcAlt dInt dIntS) (aCons (fVar 0) aNil))) [some (.str (T w)), x1] c = .ok (nD (numO w)) c := by
  have ok' := ok
  unfold okN at ok'
  rw [Bool.and_eq_true, decide_eq_true_eq] at ok'
  obtain ⟨⟨l1, l2⟩, hd⟩ := ok'
  have sz : w.length ≤ sizeLine := Nat.le_trans (by omega : _ ≤ 400) (by decide)
  obtain ⟨a, r, rfl⟩ : ∃ a r, w = a :: r := by
    cases w with
    | nil => simp at l1
    | cons a r => exact ⟨a, r, rfl⟩
  have ha := hw.c.1
  have i0 : ∀ c, dIx (.str (T (a :: r))) (.int 0) c = some (.str (T [a]), c) := fun c => by
    rw [dIx_T sz, show atI (a :: r) 0 = some a from PV.atI_nat (k := 0) rfl]
    rfl
  have q1 : ∀ c, dEq false (.str (T [a])) (.str (T [48])) c = some (.bl (decide (a = 48)), c) := fun c => by
    rw [dEq_T false (fun k hk => by have := List.mem_singleton.mp hk; omega) (fun k hk => by have := List.mem_singleton.mp hk; omega)]
    have : decide ([a] = [48]) = decide (a = 48) := decide_eq_decide.mpr (by simp)
    rw [this]
    rfl
  have q2 : ∀ c, dEq true (.str (T (a :: r))) (.str (T [48])) c = some (.bl (!decide (a :: r = [48])), c) := fun c => by
    rw [dEq_T true hw (fun k hk => by have := List.mem_singleton.mp hk; omega)]
    rfl
  have dn : ∀ c, dInt [.str (T (a :: r))] c = none := fun _ => rfl
  rw [T1]
  by_cases bad : (a :: r).head? = some 48 ∧ a :: r ≠ [48]
  · have e : numO (a :: r) = none := by unfold numO; rw [if_pos ok, if_pos bad]
    have h48 : a = 48 := by have := bad.1; simpa using this
    rw [e]
    rw [decide_eq_true h48] at q1
    rw [decide_eq_false bad.2] at q2
    generalize a :: r = W at *
    simp [-dEq_l, i0, q1, q2, nD]
  · obtain ⟨n, e⟩ : ∃ n, numO (a :: r) = some n := ⟨_, by unfold numO; rw [if_pos ok, if_neg bad]⟩
    obtain ⟨ew, ln⟩ := numO_some e
    have dl := dg_len (k := 30) (by decide) ln
    have di := fun c => dIntS_dg (n := n) (by omega) c
    rw [← ew] at di
    rw [e]
    by_cases h48 : a = 48
    · have h2 : a :: r = [48] := by
        by_cases q : a :: r = [48]
        · exact q
        · exact absurd ⟨by rw [h48]; rfl, q⟩ bad
      rw [decide_eq_true h48] at q1
      rw [decide_eq_true h2] at q2
      generalize a :: r = W at *
      simp [-dEq_l, i0, q1, q2, nD, dn, di]
    · rw [decide_eq_false h48] at q1
      generalize a :: r = W at *
      simp [-dEq_l, i0, q1, nD, dn, di]
theorem chain_len {w : List Nat} (sz : w.length ≤ sizeLine) (x1 : Option D) (c : List Cell) : fChain dLe dLe (fC (.int 1)) (fCB dLen (aCons (fVar 0) aNil)) (fC (.int 30)) [some (.str (T w)), x1] c = .ok (.bl (decide (1 ≤ w.length ∧ w.length ≤ 30))) c := by
  have dl := fun c => dLen_T sz c
  by_cases h1 : 1 ≤ w.length
  · by_cases h2 : w.length ≤ 30
    · have a1 : (1 : Int) ≤ (w.length : Int) := by omega
      have a2 : (w.length : Int) ≤ 30 := by omega
      simp [dl, a1, a2, h1, h2]
    · have a1 : (1 : Int) ≤ (w.length : Int) := by omega
      have a2 : ¬ (w.length : Int) ≤ 30 := by omega
      simp [dl, a1, a2, h1, h2]
  · have a1 : ¬ (1 : Int) ≤ (w.length : Int) := by omega
    simp [dl, a1, h1]
theorem numb_eq {w : List Nat} (hw : okT w) (hl : w.length ≤ 1000000) (c : List Cell) : F_number_in [.str (T w)] c = .ok (nD (numO w)) c := by
  have sz : w.length ≤ sizeLine := Nat.le_trans hl (by decide)
  have ch := fun x1 c => chain_len sz x1 c
  have sg : ∀ x1 c, lcM (gN 1) (fun _ c => .ok true c) (fOp2 (gAlt (dIn false) (dInS false)) (fVar 1) (fC (.str "0123456789"))) [some (.str (T w)), x1] (w.map fun c => .str (T [c])) c = .ok (w.map fun k => .bl (isD k)) c := fun x1 c =>
    lcM_pur (fun k : Nat => D.str (T [k])) (fun k => .bl (isD k)) w fun k _ => ⟨_, rfl, rfl, by
      have d1 : dIn false (.str (T [k])) (.str (T DG)) c = none := rfl
      have d2 := dInS_T k DG c
      rw [dec_DG] at d2
      rw [DG_eq]
      simp [d1, d2]⟩
  have zz : (w.map fun k => D.bl (isD k)).length ≤ sizeLine := by rw [List.length_map]; exact sz
  have al : ∀ c, dAll [.lst (w.map fun k => .bl (isD k))] c = some (.bl (w.all isD), c) := fun c => dAll_map _ _
  have eo : okN w = (decide (1 ≤ w.length ∧ w.length ≤ 30) && w.all isD) := rfl
  have tl := fun (ok : okN w = true) x1 c => int_tail hw ok x1 c
  unfold F_number_in
  rw [runDef_e, if_pos (show [D.str (T w)].length = 1 from rfl)]
  unfold b_number_in
  generalize hIT : (fIfE (fAnd (fTst (fOp2 (dEq false) (fOp2 dIx (fVar 0) (fC (.int 0))) (fC (.str "0")))) (fTst (fOp2 (dEq true) (fVar 0) (fC (.str "0"))))) (fC .non) (fCB (gcAlt dInt dIntS) (aCons (fVar 0) aNil))) = IT at *
  generalize hCH : fChain dLe dLe (fC (.int 1)) (fCB dLen (aCons (fVar 0) aNil)) (fC (.int 30)) = CH at *
  generalize (w.map fun k => D.bl (isD k)) = Y at *
  cases h1 : decide (1 ≤ w.length ∧ w.length ≤ 30) with
  | false =>
    rw [h1] at ch eo
    rw [numO_no (by rw [eo]; rfl)]
    simp [ch, nD]
  | true =>
    rw [h1] at ch eo
    cases h2 : w.all isD with
    | false =>
      rw [h2] at al eo
      rw [numO_no (by rw [eo]; rfl)]
      simp [ch, sg, zz, al, nD]
    | true =>
      rw [h2] at al eo
      have := tl (by rw [eo]; rfl)
      simp [ch, sg, zz, al, this]
theorem toP0s_strs : ∀ L : List Nat, toP0s (L.map fun k => D.str (T [k])) = some (L.map fun k => PyData.str (T [k]))
  | [] => rfl
  | x :: L => by rw [List.map_cons, toP0s_cons, toP0s_strs L]; simp
theorem shaped_strs {L : List Nat} (h : okT L) : SeqAt.shaped (.list (L.map fun k => PyData.str (T [k]))) = true := by
  have q : ∀ L : List Nat, okT L → PyData.canLayAll0 (L.map fun k => PyData.str (T [k])) = true ∧ PyData.depthAll (L.map fun k => PyData.str (T [k])) = 0 := fun L => by
    induction L with
    | nil => exact fun _ => ⟨rfl, rfl⟩
    | cons x L ih =>
      intro h
      obtain ⟨i1, i2⟩ := ih h.c.2
      rw [List.map_cons]
      have s : PyData.canLay0 (.str (T [x])) = true := by
        simp only [PyData.canLay0]
        exact strOk_of (T_ok fun k hk => by rw [List.mem_singleton.mp hk]; exact h.c.1)
      simp only [PyData.canLayAll0, PyData.depthAll, s, PyData.depth, i1, i2]
      exact ⟨rfl, rfl⟩
  obtain ⟨h1, h2⟩ := q L h
  unfold SeqAt.shaped
  rw [Bool.and_eq_true, decide_eq_true_eq]
  refine ⟨by simp only [PyData.canLay0]; exact h1, ?_⟩
  simp only [PyData.depth, h2]
  omega
theorem ne_strs {L : List Nat} (h : okT L) (c : List Cell) : dEq true (.lst (L.map fun k => D.str (T [k]))) (.lst []) c = some (.bl (!decide (L = [])), c) := by
  rw [dEq_l, toP0s_strs]
  show eqO true (some (.list (L.map fun k => PyData.str (T [k])))) (some (.list [])) c = _
  rw [eqO_s (shaped_strs h) shaped_nil]
  cases L <;> simp [PyData.eqv, PyData.eqvAll]
theorem dig_in {k : Nat} (hk : k < 0x110000) (c : List Cell) : dIn true (.str (T [k])) (.lst (DG.map fun k => .str (T [k]))) c = some (.bl (!isD k), c) := by
  have e1 : toP c (.str (T [k])) = some (.str (T [k])) := by show toP0 _ = _; simp
  have e2 : toP c (.lst (DG.map fun k => .str (T [k]))) = some (.list (DG.map fun k => .str (T [k]))) := by
    rw [toP_l, toP0s_strs]; rfl
  have ok : okT DG := fun k hk => by have := mem_DG.mp hk; omega
  have s1 : SeqAt.shaped (.str (T [k])) = true := by
    have := shaped_strs (L := [k]) (fun j hj => by rw [List.mem_singleton.mp hj]; exact hk)
    unfold SeqAt.shaped
    rw [show PyData.canLay0 (.str (T [k])) = true from by simp only [PyData.canLay0]; exact strOk_of (T_ok fun j hj => by rw [List.mem_singleton.mp hj]; exact hk)]
    rfl
  have an : ∀ L : List Nat, ((L.map fun k => PyData.str (T [k])).any fun z => PyData.eqv z (.str (T [k]))) = decide (k ∈ L) := fun L => by
    induction L with
    | nil => rfl
    | cons x L ih =>
      rw [List.map_cons, List.any_cons, ih]
      have : PyData.eqv (.str (T [x])) (.str (T [k])) = decide (k = x) := by
        simp only [PyData.eqv]
        by_cases q : x = k
        · subst q; simp
        · have : ¬ T [x] = T [k] := fun z => q (by have := T_inj z; simpa using this)
          have q' : ¬ k = x := fun z => q z.symm
          simp [this, q']
      rw [this, Bool.eq_iff_iff]
      simp
  show (match toP c (.str (T [k])), toP c (.lst (DG.map fun k => .str (T [k]))) with
    | some d, some (.list ds) => if SeqAt.shaped d = true ∧ SeqAt.shaped (.list ds) = true then some (D.bl (if true then !ds.any (fun z => PyData.eqv z d) else ds.any fun z => PyData.eqv z d), c) else none
    | _, _ => none) = _
  rw [e1, e2]
  simp only []
  rw [if_pos ⟨s1, shaped_strs ok⟩, an, dec_DG]
  rfl
theorem list_DG (c : List Cell) : gcAlt (dList true) (dListT true) [.str "0123456789"] c = some (.lst (DG.map fun k => .str (T [k])), c) := by
  have a : dList true [.str "0123456789"] c = none := rfl
  have b : dListT true [.str (T DG)] c = some (.lst (DG.map fun k => .str (T [k])), c) := by
    show (if (T DG).cps.size ≤ sizeLine then mkL true (signs (T DG)) c else none) = _
    rw [if_pos (by decide)]
    rfl
  rw [← DG_eq] at b
  unfold gcAlt
  rw [a, b]
theorem lnumb_eq {w : List Nat} (hw : okT w) (hl : w.length ≤ 1000000) (c : List Cell) : F_law_number [.str (T w)] c = .ok (nD (numO w)) c := by
  have sz : w.length ≤ sizeLine := Nat.le_trans hl (by decide)
  have ch := fun x1 c => chain_len sz x1 c
  have sg : ∀ x1 c, lcM (gN 1) (fTst (fOp2 (dIn true) (fVar 1) (fCB (gcAlt (dList true) (dListT true)) (aCons (fC (.str "0123456789")) aNil)))) (fVar 1) [some (.str (T w)), x1] (w.map fun c => .str (T [c])) c = .ok ((w.filter fun k => !isD k).map fun k => .str (T [k])) c := fun x1 c =>
    lcM_fil (fun k : Nat => D.str (T [k])) (fun k => .str (T [k])) (fun k => !isD k) w fun k hk => ⟨_, rfl, by
      have d1 := fun c => dig_in (hw k hk) c
      have d2 := fun c => list_DG c
      simp [d1, d2, -gcAlt_e], fun _ => by simp⟩
  have hf : okT (w.filter fun k => !isD k) := fun k hk => hw k (List.mem_filter.mp hk).1
  have zz : ((w.filter fun k => !isD k).map fun k => D.str (T [k])).length ≤ sizeLine := by rw [List.length_map]; exact Nat.le_trans (List.length_filter_le _ _) sz
  have nq := fun c => ne_strs hf c
  have al : decide ((w.filter fun k => !isD k) = []) = w.all isD := by
    rw [Bool.eq_iff_iff, decide_eq_true_eq, List.filter_eq_nil_iff, List.all_eq_true]
    simp
  rw [al] at nq
  have eo : okN w = (decide (1 ≤ w.length ∧ w.length ≤ 30) && w.all isD) := rfl
  have tl := fun (ok : okN w = true) x1 c => int_tail hw ok x1 c
  unfold F_law_number
  rw [runDef_e, if_pos (show [D.str (T w)].length = 1 from rfl)]
  unfold b_law_number
  generalize hIT : (fIfE (fAnd (fTst (fOp2 (dEq false) (fOp2 dIx (fVar 0) (fC (.int 0))) (fC (.str "0")))) (fTst (fOp2 (dEq true) (fVar 0) (fC (.str "0"))))) (fC .non) (fCB (gcAlt dInt dIntS) (aCons (fVar 0) aNil))) = IT at *
  generalize hCH : fChain dLe dLe (fC (.int 1)) (fCB dLen (aCons (fVar 0) aNil)) (fC (.int 30)) = CH at *
  generalize ((w.filter fun k => !isD k).map fun k => D.str (T [k])) = Y at *
  cases h1 : decide (1 ≤ w.length ∧ w.length ≤ 30) with
  | false =>
    rw [h1] at ch eo
    rw [numO_no (by rw [eo]; rfl)]
    simp [ch, nD]
  | true =>
    rw [h1] at ch eo
    cases h2 : w.all isD with
    | false =>
      rw [h2] at nq eo
      rw [numO_no (by rw [eo]; rfl)]
      simp [ch, sg, zz, nq, nD, -dEq_l]
    | true =>
      rw [h2] at nq eo
      have := tl (by rw [eo]; rfl)
      simp [ch, sg, zz, nq, this, -dEq_l]
end Ck82
namespace PV
open PySem PySem.Spec PyProof.Rows L2
theorem at_T (l : List Nat) (k i : Nat) : StrLaws.At (T l) (T [k]) (T l).length i ↔ l[i]? = some k := by
  have e : Builtin.Str.subAt (T l) (T [k]) i = ((l.drop i).take 1 == [k]) := by
    rw [StrLaws.subAt_eq, T_tl, T_tl, T_len]
    rfl
  have h : (l.drop i).head? = l[i]? := List.head?_drop
  unfold StrLaws.At
  rw [T_len, T_len, e]
  constructor
  · rintro ⟨h1, h2⟩
    rw [← h]
    have h2 := LawfulBEq.eq_of_beq h2
    cases q : l.drop i with
    | nil => rw [q] at h2; cases h2
    | cons x r => rw [q] at h2; cases h2; rfl
  · intro q
    have lt := (List.getElem?_eq_some_iff.mp q).1
    refine ⟨lt, ?_⟩
    rw [← h] at q
    cases z : l.drop i with
    | nil => rw [z] at q; cases q
    | cons x r => rw [z] at q; cases q; simp
theorem sFind_no {k : Nat} {l : List Nat} (h : k ∉ l) (cs : List Cell) : sFind (.str (T l)) (.str (T [k])) cs = some (.int (-1), cs) := by
  show some (D.int (Txt.find (T l) (T [k])), cs) = _
  rcases find_whole (T l) (T [k]) with ⟨e, _⟩ | ⟨i, _, a, _⟩
  · rw [e]
  · exact absurd (List.mem_of_getElem? ((at_T l k i).mp a)) h
theorem sFind_at {k : Nat} {a b : List Nat} (h : k ∉ a) (cs : List Cell) : sFind (.str (T (a ++ k :: b))) (.str (T [k])) cs = some (.int (a.length : Nat), cs) := by
  show some (D.int (Txt.find (T (a ++ k :: b)) (T [k])), cs) = _
  have at0 : (a ++ k :: b)[a.length]? = some k := by simp
  rcases find_whole (T (a ++ k :: b)) (T [k]) with ⟨_, n⟩ | ⟨i, e, z, n⟩
  · exact absurd ((at_T _ k a.length).mpr at0) (n _)
  · rw [e]
    have z := (at_T _ k i).mp z
    have h1 : ¬ a.length < i := fun q => n _ q ((at_T _ k a.length).mpr at0)
    have h2 : ¬ i < a.length := fun q => by
      rw [List.getElem?_append_left q] at z
      exact h (List.mem_of_getElem? z)
    have : i = a.length := by omega
    rw [this]
end PV
namespace Ck82
open PySem PySem.Spec PyProof.Rows L2 PV
theorem numO_nod {w : List Nat} {k : Nat} (h : k ∈ w) (hk : ¬ (48 ≤ k ∧ k ≤ 57)) : numO w = none := by
  cases e : numO w with
  | none => rfl
  | some n =>
    have := (numO_some e).1
    rw [this] at h
    exact absurd (dg_mem h) hk
def distO (w : List Nat) : Option Int := if w.head? = some 45 then (match numO w.tail with
    | some n => if n = 0 then none else some (-(n : Int))
    | none => none) else (match numO w with
    | some n => some (n : Int)
    | none => none)
def iD : Option Int → D
  | none => .non
  | some i => .int i
theorem distO_b {w : List Nat} {i : Int} (h : distO w = some i) : i.natAbs < 10 ^ 30 := by
  unfold distO at h
  split at h
  · cases e : numO w.tail with
    | none => rw [e] at h; cases h
    | some n =>
      rw [e] at h
      have := (numO_some e).2
      simp only [] at h
      split at h
      · cases h
      · cases h; simpa using this
  · cases e : numO w with
    | none => rw [e] at h; cases h
    | some n =>
      rw [e] at h
      have := (numO_some e).2
      cases h
      simpa using this
theorem distO_nod {w : List Nat} {k : Nat} (h : k ∈ w) (hk : ¬ (48 ≤ k ∧ k ≤ 57)) (h45 : k ≠ 45) : distO w = none := by
  unfold distO
  split
  · rename_i e
    have : k ∈ w.tail := by
      cases w with
      | nil => cases h
      | cons a r =>
        cases e
        rcases List.mem_cons.mp h with q | q
        · exact absurd q h45
        · exact q
    rw [numO_nod this hk]
  · rw [numO_nod h hk]
theorem dist_eq {w : List Nat} (hw : okT w) (hl : w.length ≤ 900000) (c : List Cell) : F_distance_in [.str (T w)] c = .ok (iD (distO w)) c := by
  have sz : w.length ≤ sizeLine := Nat.le_trans hl (by decide)
  have sl := fun lo hi c => dSl_T (fz := true) sz lo hi c
  have nb := fun c => numb_eq hw (Nat.le_trans hl (by decide)) c
  have isI : ∀ (i : Int) c, dIs false (.int i) .non c = some (.bl false, c) := fun i c => rfl
  have isN : ∀ c, dIs false .non .non c = some (.bl true, c) := fun c => rfl
  unfold F_distance_in
  rw [runDef_e, if_pos (show [D.str (T w)].length = 1 from rfl)]
  unfold b_distance_in
  rw [Tm]
  cases w with
  | nil =>
    have c1 : cut ([] : List Nat) none (some 1) = [] := rfl
    have q : ∀ c, dEq true (.str (T [])) (.str (T [45])) c = some (.bl true, c) := fun c => by
      rw [dEq_T true (fun k hk => by cases hk) (fun k hk => by have := List.mem_singleton.mp hk; omega)]
      rfl
    have n0 : nD (numO []) = .non := rfl
    rw [n0] at nb
    simp [-dEq_l, sl, c1, q, nb]
    rfl
  | cons a r =>
    have c1 : cut (a :: r) none (some 1) = [a] := cut_1
    have c2 : cut (a :: r) (some 1) none = r := cut_tl1
    have ar := hw.c
    have q := fun c => one_eq true (a := a) (b := 45) ar.1 (by decide) c
    by_cases h : a = 45
    · subst h
      have nr := fun c => numb_eq ar.2 (by simp at hl; omega) c
      have ed : distO (45 :: r) = (match numO r with
        | some n => if n = 0 then none else some (-(n : Int))
        | none => none) := rfl
      rw [ed]
      cases e : numO r with
      | none =>
        rw [e] at nr
        have n0 : nD none = .non := rfl
        rw [n0] at nr
        simp [-dEq_l, sl, c1, c2, q, nr, isN]
        rfl
      | some n =>
        rw [e] at nr
        have n0 : nD (some n) = .int (n : Nat) := rfl
        rw [n0] at nr
        by_cases hn : n = 0
        · subst hn
          simp [-dEq_l, sl, c1, c2, q, nr, isI]
          rfl
        · simp [sl, c1, c2, q, nr, isI, hn]
          rfl
    · rw [decide_eq_false h] at q
      have ed : distO (a :: r) = (match numO (a :: r) with
        | some n => some (n : Int)
        | none => none) := by
        unfold distO
        rw [if_neg (by simpa using h)]
      rw [ed]
      have : nD (numO (a :: r)) = iD (match numO (a :: r) with
        | some n => some (n : Int)
        | none => none) := by
        cases numO (a :: r) <;> rfl
      rw [this] at nb
      simp [-dEq_l, sl, c1, q, nb]
def sS (f : Bool) : Option Int → Option (Int × Bool)
  | none => none
  | some i => some (i, f)
def numS : Option Nat → Option (Int × Bool)
  | none => none
  | some n => some ((n : Int), true)
def sideO (w : List Nat) : Option (Int × Bool) := if w.head? = some 91 then (if w.tail.getLast? = some 93 then sS false (distO w.tail.dropLast) else none) else numS (numO w)
def pD : Option (Int × Bool) → D
  | none => .non
  | some p => .tup [.int p.1, .bl p.2]
theorem sideO_m (m : List Nat) (z : Nat) : sideO (91 :: (m ++ [z])) = if z = 93 then sS false (distO m) else none := by
  unfold sideO
  rw [if_pos (show (91 :: (m ++ [z])).head? = some 91 from rfl), List.tail_cons, List.getLast?_concat, List.dropLast_concat]
  by_cases h : z = 93
  · rw [if_pos h, if_pos (by rw [h])]
  · rw [if_neg h, if_neg (by simpa using h)]
theorem sideO_n {w : List Nat} (h : w.head? ≠ some 91) : sideO w = numS (numO w) := if_neg h
theorem sideO_b {w : List Nat} {p : Int × Bool} (h : sideO w = some p) : p.1.natAbs < 10 ^ 30 ∧ (p.2 = true → 0 ≤ p.1) := by
  unfold sideO at h
  split at h
  · split at h
    · cases e : distO w.tail.dropLast with
      | none => rw [e] at h; cases h
      | some i =>
        rw [e] at h
        cases h
        exact ⟨distO_b e, fun q => by cases q⟩
    · cases h
  · cases e : numO w with
    | none => rw [e] at h; cases h
    | some n =>
      rw [e] at h
      cases h
      exact ⟨by simpa using (numO_some e).2, fun _ => by simp⟩
theorem sideO_nod {w : List Nat} (h : 67 ∈ w) : sideO w = none := by
  by_cases h9 : w.head? = some 91
  · cases w with
    | nil => cases h
    | cons a r =>
      cases h9
      have h : 67 ∈ r := by
        rcases List.mem_cons.mp h with q | q
        · cases q
        · exact q
      rcases List.eq_nil_or_concat r with e | ⟨m, z, e⟩
      · rw [e] at h; cases h
      · rw [List.concat_eq_append] at e
        subst e
        rw [sideO_m]
        by_cases hz : z = 93
        · have : 67 ∈ m := by
            rcases List.mem_append.mp h with q | q
            · exact q
            · have := List.mem_singleton.mp q; omega
          rw [if_pos hz, distO_nod this (by decide) (by decide)]
          rfl
        · rw [if_neg hz]
  · rw [sideO_n h9, numO_nod h (by decide)]
    rfl
theorem part_eq {w : List Nat} (hw : okT w) (hl : w.length ≤ 900000) (c : List Cell) : F_part_in [.str (T w)] c = .ok (pD (sideO w)) c := by
  have sz : w.length ≤ sizeLine := Nat.le_trans hl (by decide)
  have sl := fun lo hi c => dSl_T (fz := true) sz lo hi c
  have dl := fun c => dLen_T sz c
  have nb := fun c => numb_eq hw (Nat.le_trans hl (by decide)) c
  have isI : ∀ (i : Int) c, dIs false (.int i) .non c = some (.bl false, c) := fun i c => rfl
  have isN : ∀ c, dIs false .non .non c = some (.bl true, c) := fun c => rfl
  have n1 : ∀ c, dNeg (.int 1) c = some (.int (-1), c) := fun c => rfl
  unfold F_part_in
  rw [runDef_e, if_pos (show [D.str (T w)].length = 1 from rfl)]
  unfold b_part_in
  rw [To, Tc]
  by_cases h9 : w.head? = some 91
  · cases w with
    | nil => cases h9
    | cons a r =>
      cases h9
      have c1 : cut (91 :: r) none (some 1) = [91] := cut_1
      have q := fun c => one_eq false (a := 91) (b := 91) (by decide) (by decide) c
      have ar := hw.c
      have nn : nD (numO (91 :: r)) = .non := by rw [numO_nod (k := 91) (by simp) (by decide)]; rfl
      rw [nn] at nb
      rcases List.eq_nil_or_concat r with e | ⟨m, z, e⟩
      · subst e
        have c2 : cut [91] (some (-1)) none = [91] := rfl
        have q2 := fun c => one_eq false (a := 91) (b := 93) (by decide) (by decide) c
        have es : sideO [91] = none := rfl
        rw [es]
        simp [-dEq_l, -dNeg_i, n1, sl, c1, c2, q, q2, nb, isN]
        rfl
      · rw [List.concat_eq_append] at e
        subst e
        have oz : z < 0x110000 := ar.2 z (by simp)
        have om : okT m := fun k hk => ar.2 k (by simp [hk])
        have c2 : cut (91 :: (m ++ [z])) (some (-1)) none = [z] := cut_la (91 :: m) z
        have c3 : cut (91 :: (m ++ [z])) (some 1) (some (-1)) = m := cut_in _ _ _
        have gl : (1 : Int) < ((91 :: (m ++ [z])).length : Int) := by simp; omega
        have q2 := fun c => one_eq false (a := z) (b := 93) oz (by decide) c
        rw [sideO_m]
        by_cases hz : z = 93
        · subst hz
          have di := fun c => dist_eq om (by simp at hl; omega) c
          rw [if_pos rfl]
          generalize 91 :: (m ++ [93]) = V at *
          cases e : distO m with
          | none =>
            rw [e] at di
            have i0 : iD none = .non := rfl
            rw [i0] at di
            simp [-dEq_l, -dNeg_i, n1, sl, c1, c2, c3, q, q2, dl, gl, di, isN]
            rfl
          | some i =>
            rw [e] at di
            have i0 : iD (some i) = .int i := rfl
            rw [i0] at di
            simp [-dEq_l, -dNeg_i, n1, sl, c1, c2, c3, q, q2, dl, gl, di, isI]
            rfl
        · rw [if_neg hz]
          rw [decide_eq_false hz] at q2
          generalize 91 :: (m ++ [z]) = V at *
          simp [-dEq_l, -dNeg_i, n1, sl, c1, c2, q, q2, nb, isN]
          rfl
  · rw [sideO_n h9]
    have q : ∀ c, dEq false (.str (T (cut w none (some 1)))) (.str (T [91])) c = some (.bl false, c) := fun c => by
      cases w with
      | nil =>
        rw [show cut ([] : List Nat) none (some 1) = [] from rfl, dEq_T false (fun k hk => by cases hk) (fun k hk => by have := List.mem_singleton.mp hk; omega)]
        rfl
      | cons a r =>
        rw [show cut (a :: r) none (some 1) = [a] from cut_1, one_eq false hw.c.1 (by decide), decide_eq_false (by simpa using h9)]
        rfl
    cases e : numO w with
    | none =>
      rw [e] at nb
      have n0 : nD none = .non := rfl
      rw [n0] at nb
      simp [-dEq_l, sl, q, nb, isN]
      rfl
    | some n =>
      rw [e] at nb
      have n0 : nD (some n) = .int (n : Nat) := rfl
      rw [n0] at nb
      simp [-dEq_l, sl, q, nb, isI]
      rfl
theorem lside_eq {w : List Nat} (hw : okT w) (hl : w.length ≤ 900000) (c : List Cell) : F_law_side [.str (T w)] c = .ok (pD (sideO w)) c := by
  have sz : w.length ≤ sizeLine := Nat.le_trans hl (by decide)
  have sl := fun lo hi c => dSl_T (fz := true) sz lo hi c
  have dl := fun c => dLen_T sz c
  have nb := fun c => lnumb_eq hw (Nat.le_trans hl (by decide)) c
  have isI : ∀ (i : Int) c, dIs false (.int i) .non c = some (.bl false, c) := fun i c => rfl
  have isN : ∀ c, dIs false .non .non c = some (.bl true, c) := fun c => rfl
  have n1 : ∀ c, dNeg (.int 1) c = some (.int (-1), c) := fun c => rfl
  have ixs := fun i c => dIx_T sz i c
  unfold F_law_side
  rw [runDef_e, if_pos (show [D.str (T w)].length = 1 from rfl)]
  unfold b_law_side
  simp only [b_law_side, b_law_side_0, b_law_side_1, b_law_side_3, b_law_side_4, b_law_side_5]
  rw [To, Tc, Tm]
  by_cases h9 : w.head? = some 91
  · cases w with
    | nil => cases h9
    | cons a r =>
      cases h9
      have c1 : cut (91 :: r) none (some 1) = [91] := cut_1
      have q := fun c => one_eq true (a := 91) (b := 91) (by decide) (by decide) c
      have ar := hw.c
      rcases List.eq_nil_or_concat r with e | ⟨m, z, e⟩
      · subst e
        have i1 : atI [91] (-1) = some 91 := rfl
        have q2 := fun c => one_eq true (a := 91) (b := 93) (by decide) (by decide) c
        have es : sideO [91] = none := rfl
        rw [es]
        simp [-dEq_l, -dNeg_i, n1, sl, c1, ixs, i1, q, q2]
        rfl
      · rw [List.concat_eq_append] at e
        subst e
        have oz : z < 0x110000 := ar.2 z (by simp)
        have om : okT m := fun k hk => ar.2 k (by simp [hk])
        have i1 : atI (91 :: (m ++ [z])) (-1) = some z := atI_last (xs := 91 :: m)
        have c3 : cut (91 :: (m ++ [z])) (some 1) (some (-1)) = m := cut_in _ _ _
        have q2 := fun c => one_eq true (a := z) (b := 93) oz (by decide) c
        rw [sideO_m]
        by_cases hz : z = 93
        · subst hz
          rw [if_pos rfl]
          cases m with
          | nil =>
            have e0 : sS false (distO []) = none := rfl
            have l3 : (([91, 93] : List Nat).length : Int) < 3 := by decide
            rw [e0]
            simp only [List.nil_append] at *
            generalize ([91, 93] : List Nat) = V at *
            simp [-dEq_l, -dNeg_i, n1, sl, c1, ixs, i1, q, q2, dl, l3]
            rfl
          | cons b t =>
            have l3 : ¬ (((91 :: (b :: t ++ [93])).length : Nat) : Int) < 3 := by
              simp only [List.length_cons, List.length_append, List.length_nil]
              omega
            have ht : t.length ≤ 900000 := by
              simp only [List.length_cons, List.length_append, List.length_nil] at hl
              omega
            have hbt : (b :: t).length ≤ 900000 := by
              simp only [List.length_cons, List.length_append, List.length_nil] at hl ⊢
              omega
            have sm : (b :: t).length ≤ sizeLine := Nat.le_trans hbt (by decide)
            have im := fun i c => dIx_T sm i c
            have i0 : atI (b :: t) 0 = some b := PV.atI_nat (k := 0) rfl
            have ob := om.c
            have q3 := fun c => one_eq true (a := b) (b := 45) ob.1 (by decide) c
            have slm := fun lo hi c => dSl_T (fz := true) sm lo hi c
            have c4 : cut (b :: t) (some 1) none = t := cut_tl1
            generalize 91 :: (b :: t ++ [93]) = V at *
            by_cases hb : b = 45
            · subst hb
              have nt := fun c => lnumb_eq ob.2 (Nat.le_trans ht (by decide)) c
              have ed : distO (45 :: t) = (match numO t with
                | some n => if n = 0 then none else some (-(n : Int))
                | none => none) := rfl
              rw [ed]
              generalize 45 :: t = U at *
              cases e : numO t with
              | none =>
                rw [e] at nt
                have n0 : nD none = .non := rfl
                rw [n0] at nt
                simp [-dEq_l, -dNeg_i, n1, sl, c1, c3, ixs, i1, im, i0, slm, c4, q, q2, q3, dl, l3, nt, isN]
                rfl
              | some n =>
                rw [e] at nt
                have n0 : nD (some n) = .int (n : Nat) := rfl
                rw [n0] at nt
                by_cases hn : n = 0
                · subst hn
                  simp [-dEq_l, -dNeg_i, n1, sl, c1, c3, ixs, i1, im, i0, slm, c4, q, q2, q3, dl, l3, nt, isI]
                  rfl
                · simp [-dNeg_i, n1, sl, c1, c3, ixs, i1, im, i0, slm, c4, q, q2, q3, dl, l3, nt, isI, hn]
                  rfl
            · rw [decide_eq_false hb] at q3
              have nm := fun c => lnumb_eq om (Nat.le_trans hbt (by decide)) c
              have ed : distO (b :: t) = (match numO (b :: t) with
                | some n => some (n : Int)
                | none => none) := by
                unfold distO
                rw [if_neg (by simpa using hb)]
              rw [ed]
              generalize b :: t = U at *
              cases e : numO U with
              | none =>
                rw [e] at nm
                have n0 : nD none = .non := rfl
                rw [n0] at nm
                simp [-dEq_l, -dNeg_i, n1, sl, c1, c3, ixs, i1, im, i0, slm, c4, q, q2, q3, dl, l3, nm, isN]
                rfl
              | some n =>
                rw [e] at nm
                have n0 : nD (some n) = .int (n : Nat) := rfl
                rw [n0] at nm
                simp [-dEq_l, -dNeg_i, n1, sl, c1, c3, ixs, i1, im, i0, slm, c4, q, q2, q3, dl, l3, nm, isI]
                rfl
        · rw [if_neg hz]
          rw [decide_eq_false hz] at q2
          generalize 91 :: (m ++ [z]) = V at *
          simp [-dEq_l, -dNeg_i, n1, sl, c1, ixs, i1, q, q2]
          rfl
  · rw [sideO_n h9]
    have q : ∀ c, dEq true (.str (T (cut w none (some 1)))) (.str (T [91])) c = some (.bl true, c) := fun c => by
      cases w with
      | nil =>
        rw [show cut ([] : List Nat) none (some 1) = [] from rfl, dEq_T true (fun k hk => by cases hk) (fun k hk => by have := List.mem_singleton.mp hk; omega)]
        rfl
      | cons a r =>
        rw [show cut (a :: r) none (some 1) = [a] from cut_1, one_eq true hw.c.1 (by decide), decide_eq_false (by simpa using h9)]
        rfl
    cases e : numO w with
    | none =>
      rw [e] at nb
      have n0 : nD none = .non := rfl
      rw [n0] at nb
      simp [-dEq_l, sl, q, nb, isN]
      rfl
    | some n =>
      rw [e] at nb
      have n0 : nD (some n) = .int (n : Nat) := rfl
      rw [n0] at nb
      simp [-dEq_l, sl, q, nb, isI]
      rfl
end Ck82
namespace Ck82
open PySem PySem.Spec PyProof.Rows L2 PV
def two (a b : Option (Int × Bool)) : Option Rf := match a, b with
  | some x, some y => some ⟨x.1, y.1, x.2, y.2⟩
  | _, _ => none
def refO (w : List Nat) : Option Rf := if w.head? = some 82 then (match spl 67 w.tail with
    | [a, b] => two (sideO a) (sideO b)
    | _ => none) else none
theorem refO_b {w : List Nat} {p : Rf} (h : refO w = some p) : bnd p := by
  unfold refO at h
  split at h
  · split at h
    · rename_i a b _
      cases ha : sideO a with
      | none => rw [ha] at h; cases h
      | some x =>
        cases hb : sideO b with
        | none => rw [ha, hb] at h; cases h
        | some y =>
          rw [ha, hb] at h
          cases h
          exact ⟨sideO_b ha, sideO_b hb⟩
    · cases h
  · cases h
theorem ref_eq {w : List Nat} (hw : okT w) (hl : w.length ≤ 900000) (c : List Cell) : ∃ t, F_reference_in [.str (T w)] c = .ok (oD 0 (refO w)) (c ++ t) := by
  have sz : w.length ≤ sizeLine := Nat.le_trans hl (by decide)
  have sl := fun lo hi c => dSl_T (fz := true) sz lo hi c
  have c2 : cut w (some 1) none = w.tail := by
    cases w with
    | nil => rfl
    | cons a r => exact cut_tl1
  have lt : w.tail.length ≤ 900000 := by rw [List.length_tail]; omega
  have ot : okT w.tail := fun k hk => hw k (List.mem_of_mem_tail hk)
  have sp := fun c => sSplit_spl true (s := 67) (by decide) (l := w.tail) (Nat.le_trans (by omega : _ ≤ 1000000) (by decide)) c
  have sn := spl_len 67 w.tail
  unfold F_reference_in
  rw [runDef_e, if_pos (show [D.str (T w)].length = 1 from rfl)]
  unfold b_reference_in
  simp only [b_reference_in, b_reference_in_0, b_reference_in_1, b_reference_in_2, b_reference_in_4]
  rw [TR, TC]
  by_cases h8 : w.head? = some 82
  · obtain ⟨r, hr⟩ : ∃ r, w = 82 :: r := by
      cases w with
      | nil => cases h8
      | cons a r => cases h8; exact ⟨r, rfl⟩
    have c1 : cut w none (some 1) = [82] := by rw [hr]; exact cut_1
    have q := fun c => one_eq true (a := 82) (b := 82) (by decide) (by decide) c
    by_cases h2 : (spl 67 w.tail).length = 2
    · obtain ⟨a, b, e⟩ : ∃ a b, spl 67 w.tail = [a, b] := by
        match h : spl 67 w.tail, h2 with
        | [a, b], _ => exact ⟨a, b, rfl⟩
      have er : refO w = two (sideO a) (sideO b) := by
        unfold refO
        rw [if_pos h8, e]
      have oa : okT a := ot.s a (by rw [e]; simp)
      have ob : okT b := ot.s b (by rw [e]; simp)
      rw [e] at sn sp
      simp only [sumL_cons, sumL_nil, List.length_cons, List.length_nil] at sn
      have pa := fun c => part_eq oa (by omega) c
      have pb := fun c => part_eq ob (by omega) c
      simp only [List.map_cons, List.map_nil] at sp
      have n1 : ∀ (a b : D) c, dIs false (.tup [a, b]) .non c = some (.bl false, c) := fun a b c => rfl
      have isN : ∀ c, dIs false .non .non c = some (.bl true, c) := fun c => rfl
      rw [er]
      generalize w.tail = WT at *
      cases ha : sideO a with
      | none =>
        rw [ha] at pa
        have p0 : pD none = .non := rfl
        rw [p0] at pa
        have e0 : two none (sideO b) = none := rfl
        rw [e0]
        refine ⟨[], ?_⟩
        cases hb : sideO b with
        | none =>
          rw [hb, p0] at pb
          simp [-dEq_l, sl, c1, c2, sp, q, pa, pb, n1, isN]
          rfl
        | some y =>
          rw [hb] at pb
          have p1 : pD (some y) = .tup [.int y.1, .bl y.2] := rfl
          rw [p1] at pb
          simp [-dEq_l, sl, c1, c2, sp, q, pa, pb, n1, isN]
          rfl
      | some x =>
        rw [ha] at pa
        have p1 : pD (some x) = .tup [.int x.1, .bl x.2] := rfl
        rw [p1] at pa
        cases hb : sideO b with
        | none =>
          rw [hb] at pb
          have p0 : pD none = .non := rfl
          rw [p0] at pb
          refine ⟨[], ?_⟩
          simp [-dEq_l, sl, c1, c2, sp, q, pa, pb, n1, isN]
          rfl
        | some y =>
          rw [hb] at pb
          have p2 : pD (some y) = .tup [.int y.1, .bl y.2] := rfl
          rw [p2] at pb
          have b1 := sideO_b ha
          have b2 := sideO_b hb
          have mk := fun cs => mk5 (f := x.2) (g := y.2) cs (r := x.1) (c := y.1) (fun e => ⟨b1.2 e, by have := b1.1; have := b1.2 e; omega⟩) (fun e => ⟨b2.2 e, by have := b2.1; have := b2.2 e; omega⟩)
          refine ⟨[.dead], ?_⟩
          simp [-dEq_l, sl, c1, c2, sp, q, pa, pb, n1, isN, mk]
          rfl
    · have er : refO w = none := by
        unfold refO
        rw [if_pos h8]
        split
        · rename_i a b e
          rw [e] at h2
          exact absurd rfl h2
        · rfl
      have l2 : ((((spl 67 w.tail).map fun w => D.str (T w)).length : Nat) : Int) ≠ 2 := by rw [List.length_map]; omega
      have zz : ((spl 67 w.tail).map fun w => D.str (T w)).length ≤ sizeLine := by rw [List.length_map]; exact Nat.le_trans (by omega : _ ≤ 1000000) (by decide)
      generalize ((spl 67 w.tail).map fun w => D.str (T w)) = WS at *
      generalize w.tail = WT at *
      rw [er]
      refine ⟨[], ?_⟩
      simp [-dEq_l, sl, c1, c2, sp, q, l2, zz]
      rfl
  · have er : refO w = none := if_neg h8
    have q : ∀ c, dEq true (.str (T (cut w none (some 1)))) (.str (T [82])) c = some (.bl true, c) := fun c => by
      cases w with
      | nil =>
        rw [show cut ([] : List Nat) none (some 1) = [] from rfl, dEq_T true (fun k hk => by cases hk) (fun k hk => by have := List.mem_singleton.mp hk; omega)]
        rfl
      | cons a r =>
        rw [show cut (a :: r) none (some 1) = [a] from cut_1, one_eq true hw.c.1 (by decide), decide_eq_false (by simpa using h8)]
        rfl
    generalize ((spl 67 w.tail).map fun w => D.str (T w)) = WS at *
    generalize w.tail = WT at *
    rw [er]
    refine ⟨[], ?_⟩
    simp [-dEq_l, sl, c2, sp, q]
    rfl
def wordO (w : List Nat) : Option (Option Rf) := if w = [35] then some none else (match refO w with
    | some p => some (some p)
    | none => none)
def wD' : Option (Option Rf) → D
  | none => .non
  | some p => .lst [oTp p]
theorem lpart_eq {w : List Nat} (hw : okT w) (hl : w.length ≤ 900000) (c : List Cell) : F_law_part_in [.str (T w)] c = .ok (wD' (wordO w)) c := by
  have sz : w.length ≤ sizeLine := Nat.le_trans hl (by decide)
  have sl := fun lo hi c => dSl_T (fz := true) sz lo hi c
  have qh : ∀ c, dEq false (.str (T w)) (.str (T [35])) c = some (.bl (decide (w = [35])), c) := fun c => by
    rw [dEq_T false hw (fun k hk => by have := List.mem_singleton.mp hk; omega)]
    rfl
  have z1 : 1 ≤ sizeLine := by decide
  have isN : ∀ c, dIs false .non .non c = some (.bl true, c) := fun c => rfl
  have n1 : ∀ (a b : D) c, dIs false (.tup [a, b]) .non c = some (.bl false, c) := fun a b c => rfl
  have fd : ∃ i : Int, ∀ c, sFind (.str (T w)) (.str (T [67])) c = some (.int i, c) := ⟨_, fun c => rfl⟩
  unfold F_law_part_in
  rw [runDef_e, if_pos (show [D.str (T w)].length = 1 from rfl)]
  unfold b_law_part_in
  simp only [b_law_part_in, b_law_part_in_2, b_law_part_in_3, b_law_part_in_5]
  rw [TR, TC, Th]
  by_cases h3 : w = [35]
  · rw [decide_eq_true h3] at qh
    have e : wordO w = some none := if_pos h3
    rw [e]
    simp [-dEq_l, qh, z1]
    rfl
  · rw [decide_eq_false h3] at qh
    have e : wordO w = (match refO w with
      | some p => some (some p)
      | none => none) := if_neg h3
    rw [e]
    by_cases h8 : w.head? = some 82
    · obtain ⟨r, hr⟩ : ∃ r, w = 82 :: r := by
        cases w with
        | nil => cases h8
        | cons a r => cases h8; exact ⟨r, rfl⟩
      have c1 : cut w none (some 1) = [82] := by rw [hr]; exact cut_1
      have q := fun c => one_eq true (a := 82) (b := 82) (by decide) (by decide) c
      by_cases h6 : 67 ∈ r
      · obtain ⟨a, b, hab, na⟩ : ∃ a b, r = a ++ 67 :: b ∧ 67 ∉ a := by
          clear hr
          induction r with
          | nil => cases h6
          | cons x r ih =>
            by_cases hx : x = 67
            · exact ⟨[], r, by rw [hx]; rfl, by simp⟩
            · have : 67 ∈ r := by
                rcases List.mem_cons.mp h6 with z | z
                · exact absurd z.symm hx
                · exact z
              obtain ⟨a, b, h, n⟩ := ih this
              exact ⟨x :: a, b, by rw [h]; rfl, by simp [n, Ne.symm hx]⟩
        have hw' : w = (82 :: a) ++ 67 :: b := by rw [hr, hab]; rfl
        have fi : ∀ c, sFind (.str (T w)) (.str (T [67])) c = some (.int ((a.length + 1 : Nat) : Int), c) := fun c => by
          rw [hw']
          exact sFind_at (by simp [na]) c
        have ca : cut w (some 1) (some ((a.length + 1 : Nat) : Int)) = a := by
          rw [hw']
          unfold cut
          have e1 : HT.sIx ((82 :: a) ++ 67 :: b).length 0 (some 1) = 1 := by unfold HT.sIx; simp; try omega
          have e2 : HT.sIx ((82 :: a) ++ 67 :: b).length ((82 :: a) ++ 67 :: b).length (some ((a.length + 1 : Nat) : Int)) = a.length + 1 := by unfold HT.sIx; simp; try omega
          rw [e1, e2]
          simp
        have cb : cut w (some ((a.length + 1 + 1 : Nat) : Int)) none = b := by
          rw [cut_tl, hw']
          simp
        obtain ⟨k1, hk1⟩ : ∃ k : Nat, k = a.length + 1 := ⟨_, rfl⟩
        obtain ⟨k2, hk2⟩ : ∃ k : Nat, k = a.length + 1 + 1 := ⟨_, rfl⟩
        rw [← hk1] at fi ca
        rw [← hk2] at cb
        have k12 : (k1 : Int) + 1 = (k2 : Int) := by omega
        have k0 : ¬ (k1 : Int) < 0 := by omega
        have oa : okT a := fun k hk => hw k (by rw [hw']; simp [hk])
        have ob : okT b := fun k hk => hw k (by rw [hw']; simp [hk])
        have la : a.length ≤ 900000 ∧ b.length ≤ 900000 := by
          rw [hw'] at hl
          simp only [List.length_append, List.length_cons] at hl
          exact ⟨by omega, by omega⟩
        have pa := fun c => lside_eq oa la.1 c
        have pb := fun c => lside_eq ob la.2 c
        have er : refO w = two (sideO a) (sideO b) := by
          unfold refO
          rw [if_pos h8, hr, hab, List.tail_cons, spl_app na]
          by_cases h7 : 67 ∈ b
          · have en := sideO_nod h7
            rw [en]
            have e2 : two (sideO a) none = none := by cases sideO a <;> rfl
            rw [e2]
            split
            · rename_i a' b' e
              have e' : spl 67 b = [b'] := (List.cons.inj e).2
              have j : b' = b := by
                have := join_spl 67 b
                rw [e'] at this
                exact this
              have := spl_no 67 b b' (by rw [e']; simp)
              rw [j] at this
              exact absurd h7 this
            · rfl
          · rw [spl_one h7]
        rw [er]
        clear hw' hr hab
        cases ha : sideO a with
        | none =>
          rw [ha] at pa
          have p0 : pD none = .non := rfl
          rw [p0] at pa
          have e0 : two none (sideO b) = none := rfl
          rw [e0]
          cases hb : sideO b with
          | none =>
            rw [hb, p0] at pb
            simp [-dEq_l, qh, fi, k0, k12, sl, c1, ca, cb, q, pa, pb, n1, isN]
            rfl
          | some y =>
            rw [hb] at pb
            have p1 : pD (some y) = .tup [.int y.1, .bl y.2] := rfl
            rw [p1] at pb
            simp [-dEq_l, qh, fi, k0, k12, sl, c1, ca, cb, q, pa, pb, n1, isN]
            rfl
        | some x =>
          rw [ha] at pa
          have p1 : pD (some x) = .tup [.int x.1, .bl x.2] := rfl
          rw [p1] at pa
          cases hb : sideO b with
          | none =>
            rw [hb] at pb
            have p0 : pD none = .non := rfl
            rw [p0] at pb
            simp [-dEq_l, qh, fi, k0, k12, sl, c1, ca, cb, q, pa, pb, n1, isN]
            rfl
          | some y =>
            rw [hb] at pb
            have p2 : pD (some y) = .tup [.int y.1, .bl y.2] := rfl
            rw [p2] at pb
            simp [-dEq_l, qh, fi, k0, k12, sl, c1, ca, cb, q, pa, pb, n1, isN, z1]
            rfl
      · have nm : 67 ∉ w := by rw [hr]; simp [h6]
        have fi := fun c => sFind_no nm c
        have er : refO w = none := by
          unfold refO
          rw [if_pos h8, hr, List.tail_cons, spl_one h6]
        rw [er]
        simp [-dEq_l, qh, fi, sl, c1, q]
        rfl
    · have er : refO w = none := if_neg h8
      rw [er]
      obtain ⟨i, fi⟩ := fd
      have q : ∀ c, dEq true (.str (T (cut w none (some 1)))) (.str (T [82])) c = some (.bl true, c) := fun c => by
        cases w with
        | nil =>
          rw [show cut ([] : List Nat) none (some 1) = [] from rfl, dEq_T true (fun k hk => by cases hk) (fun k hk => by have := List.mem_singleton.mp hk; omega)]
          rfl
        | cons a r =>
          rw [show cut (a :: r) none (some 1) = [a] from cut_1, one_eq true hw.c.1 (by decide), decide_eq_false (by simpa using h8)]
          rfl
      simp [-dEq_l, qh, fi, sl, q]
      rfl
end Ck82
namespace Ck82
open PySem PySem.Spec PyProof.Rows L2 PV
def rdF : Nat → List (List Nat) → List (Option Rf) → Nat ⊕ List (Option Rf)
  | _, [], acc => .inr acc
  | i, w :: ws, acc => match wordO w with
    | none => .inl i
    | some p => if i = 20 then .inl i else rdF (i + 1) ws (acc ++ [p])
structure Og (m : Nat) (c c' : List Cell) : Prop where
  len : c.length ≤ c'.length
  at_ : ∀ j, j ≠ m → j < c.length → cAt c' j = cAt c j
theorem Og.refl {m : Nat} {c : List Cell} : Og m c c := ⟨Nat.le_refl _, fun _ _ _ => rfl⟩
theorem Og.set {m : Nat} {c c' : List Cell} {x : Cell} (h : Og m c c') : Og m c (c'.set m x) := ⟨by rw [List.length_set]; exact h.len, fun j hj hl => by rw [cAt_set_ne (Ne.symm hj)]; exact h.at_ j hj hl⟩
theorem Og.trans {m : Nat} {c c' c'' : List Cell} (a : Og m c c') (b : Og m c' c'') : Og m c c'' := ⟨Nat.le_trans a.len b.len, fun j hj hl => (b.at_ j hj (Nat.lt_of_lt_of_le hl a.len)).trans (a.at_ j hj hl)⟩
theorem Og.app {m : Nat} {c t : List Cell} : Og m c (c ++ t) := ⟨by simp, fun j _ hl => cAt_app2 hl⟩
theorem Og.gw {c c' : List Cell} {x : Cell} (h : Og c.length (c ++ [x]) c') : Gw c c' := ⟨by have := h.len; simp at this; omega, fun j hj => by rw [h.at_ j (by omega) (by simp; omega), cAt_app2 hj]⟩
theorem rturn {i : Nat} {w : List Nat} (hw : okT w) (hl : w.length ≤ 900000) (x0 x4 : Option D) (m : Nat) (c : List Cell) {acc : List (Option Rf)} (hm : cAt c m = some (.lst (acc.map (oD 0)))) (ha : acc.length ≤ 20) :
    wS (b_read_formula_L0 [x0, some (.ref m), some (.int (i : Nat)), some (.str (T w)), x4] c)
      ⟨fun σ c' => ∃ p, wordO w = some p ∧ i ≠ 20 ∧ Og m c c' ∧ cAt c' m = some (.lst ((acc ++ [p]).map (oD 0))) ∧ ∃ y4, σ = [x0, some (.ref m), some (.int (i : Nat)), some (.str (T w)), y4], fun _ _ => False, fun _ _ => False, fun _ _ => False,
        fun x _ c' => (wordO w = none ∨ i = 20) ∧ x = (7, [(("word" : Str), .int (i : Nat))]) ∧ Og m c c'⟩ := by
  obtain ⟨t, re⟩ := ref_eq hw hl c
  have lt := cAt_lt hm
  have hm2 : cAt (c ++ t) m = some (.lst (acc.map (oD 0))) := by rw [cAt_app2 lt]; exact hm
  have lt2 := cAt_lt hm2
  have sz : (acc.map (oD 0)).length < sizeLine := by rw [List.length_map]; exact Nat.lt_of_le_of_lt ha (by decide)
  have qh : ∀ c, dEq true (.str (T w)) (.str (T [35])) c = some (.bl (!decide (w = [35])), c) := fun c => by
    rw [dEq_T true hw (fun k hk => by have := List.mem_singleton.mp hk; omega)]
    rfl
  have o1 : Og m c (c ++ t) := Og.app
  unfold b_read_formula_L0
  rw [Th]
  by_cases h3 : i = 20
  · have i3 : ((i : Nat) : Int) = 20 := by omega
    generalize oD 0 (refO w) = P at *
    simp [re, i3, h3]
    exact o1
  · have i3 : ¬ ((i : Nat) : Int) = 20 := by omega
    by_cases h5 : w = [35]
    · have ew : wordO w = some none := if_pos h5
      rw [decide_eq_true h5] at qh
      have er : refO w = none := by rw [h5]; rfl
      rw [er] at re
      have o0 : oD 0 none = .non := rfl
      rw [o0] at re
      have isn : ∀ c, dIs false .non .non c = some (.bl true, c) := fun _ => rfl
      have ap : acc.map (oD 0) ++ [.non] = (acc ++ [none]).map (oD 0) := by simp [o0]
      rw [ew]
      generalize hA : acc.map (oD 0) = A at *
      generalize hc2 : c ++ t = c2 at *
      have fin : Og m c (c2.set m (.lst (A ++ [.non]))) ∧ cAt (c2.set m (.lst (A ++ [.non]))) m = some (.lst ((acc ++ [none]).map (oD 0))) := ⟨o1.set, by rw [cAt_set_self lt2, ap]⟩
      simp [re, i3, h3, qh, isn, hm2, sz, lt2]
      exact ⟨fin.1, hA.symm, rfl⟩
    · have ew : wordO w = (match refO w with
        | some p => some (some p)
        | none => none) := if_neg h5
      rw [decide_eq_false h5] at qh
      rw [ew]
      cases er : refO w with
      | none =>
        rw [er] at re
        have o0 : oD 0 none = .non := rfl
        rw [o0] at re
        have isn : ∀ c, dIs false .non .non c = some (.bl true, c) := fun _ => rfl
        simp [re, i3, h3, qh, isn]
        exact o1
      | some p =>
        rw [er] at re
        have isn : ∀ c, dIs false (oD 0 (some p)) .non c = some (.bl false, c) := fun _ => rfl
        have ap : acc.map (oD 0) ++ [oD 0 (some p)] = (acc ++ [some p]).map (oD 0) := by simp
        generalize hA : acc.map (oD 0) = A at *
        generalize hP : oD 0 (some p) = P at *
        generalize hc2 : c ++ t = c2 at *
        simp [re, i3, h3, qh, isn, hm2, sz, lt2]
        exact ⟨o1.set, hA.symm, hP.symm⟩
theorem rloop (x0 : Option D) (m : Nat) : ∀ (ws : List (List Nat)) (i : Nat) (acc : List (Option Rf)) (x2 x3 x4 : Option D) (c : List Cell), (∀ w ∈ ws, okT w ∧ w.length ≤ 900000) → acc.length = i → i ≤ 20 → cAt c m = some (.lst (acc.map (oD 0))) →
    wS (forL (gT 2 (gsCons (gN 2) (gsCons (gN 3) gsNil))) b_read_formula_L0 (enD i (ws.map fun w => .str (T w))) [x0, some (.ref m), x2, x3, x4] c)
      ⟨fun σ c' => ∃ ps, rdF i ws acc = .inr ps ∧ ps.length ≤ 20 ∧ Og m c c' ∧ cAt c' m = some (.lst (ps.map (oD 0))) ∧ ∃ y2 y3 y4, σ = [x0, some (.ref m), y2, y3, y4], fun _ _ => False, fun _ _ => False, fun _ _ => False,
        fun x _ c' => ∃ j : Nat, rdF i ws acc = .inl j ∧ x = (7, [(("word" : Str), .int (j : Nat))]) ∧ Og m c c'⟩
  | [], i, acc, x2, x3, x4, c, _, ha, hi, hm => by
    show wS (Sr.nx [x0, some (.ref m), x2, x3, x4] c) _
    exact ⟨acc, rfl, by omega, .refl, hm, _, _, _, rfl⟩
  | w :: ws, i, acc, x2, x3, x4, c, hw, ha, hi, hm => by
    obtain ⟨h1, h2⟩ := hw w (List.mem_cons_self ..)
    have t := rturn (i := i) h1 h2 x0 x4 m c hm (by omega)
    show wS (match b_read_formula_L0 [x0, some (.ref m), some (.int (i : Nat)), some (.str (T w)), x4] c with
      | .nx σ2 c2 => forL _ b_read_formula_L0 (enD (i + 1) (ws.map fun w => .str (T w))) σ2 c2
      | .ct σ2 c2 => forL _ b_read_formula_L0 (enD (i + 1) (ws.map fun w => .str (T w))) σ2 c2
      | .bk σ2 c2 => .nx σ2 c2
      | r => r) _
    cases e : b_read_formula_L0 [x0, some (.ref m), some (.int (i : Nat)), some (.str (T w)), x4] c with
    | nx σ2 c2 =>
      rw [e] at t
      obtain ⟨p, hp, n3, o, hm2, y4, rfl⟩ := t
      have ih := rloop x0 m ws (i + 1) (acc ++ [p]) (some (.int (i : Nat))) (some (.str (T w))) y4 c2 (fun v hv => hw v (List.mem_cons_of_mem _ hv)) (by simp [ha]) (by omega) hm2
      have er : rdF i (w :: ws) acc = rdF (i + 1) ws (acc ++ [p]) := by
        rw [rdF, hp]
        simp only []
        rw [if_neg n3]
      rw [er]
      refine ih.go (fun σ c' ⟨ps, h1, h2, h3, h4⟩ => ⟨ps, h1, h2, o.trans h3, h4⟩) (fun _ _ h => h) (fun _ _ h => h) (fun _ _ h => h) (fun x σ c' ⟨j, h1, h2, h3⟩ => ⟨j, h1, h2, o.trans h3⟩)
    | ex x σ2 c2 =>
      rw [e] at t
      obtain ⟨h, rfl, o⟩ := t
      refine ⟨i, ?_, rfl, o⟩
      rw [rdF]
      cases hp : wordO w with
      | none => rfl
      | some p =>
        rcases h with h | h
        · rw [hp] at h; cases h
        · simp only []
          rw [if_pos h]
    | ct σ2 c2 => rw [e] at t; exact t.elim
    | bk σ2 c2 => rw [e] at t; exact t.elim
    | rt d c2 => rw [e] at t; exact t.elim
    | no => rw [e] at t; exact t.elim
theorem wordO_b {w : List Nat} {p : Option Rf} (h : wordO w = some p) : ∀ r, p = some r → bnd r := by
  unfold wordO at h
  split at h
  · cases h
    intro r e
    cases e
  · cases e : refO w with
    | none => rw [e] at h; cases h
    | some q =>
      rw [e] at h
      cases h
      intro r e'
      cases e'
      exact refO_b e
theorem rdF_on : ∀ (ws : List (List Nat)) (i : Nat) (acc ps : List (Option Rf)), bnds acc → rdF i ws acc = .inr ps → bnds ps ∧ ps.length = acc.length + ws.length
  | [], i, acc, ps, h, e => by cases e; exact ⟨h, rfl⟩
  | w :: ws, i, acc, ps, h, e => by
    rw [rdF] at e
    cases hp : wordO w with
    | none => rw [hp] at e; cases e
    | some p =>
      rw [hp] at e
      simp only [] at e
      by_cases q : i = 20
      · rw [if_pos q] at e; cases e
      · rw [if_neg q] at e
        obtain ⟨h1, h2⟩ := rdF_on ws (i + 1) (acc ++ [p]) ps (fun r hr => by
          rcases List.mem_append.mp hr with z | z
          · exact h r z
          · rw [List.mem_singleton.mp z]; exact wordO_b hp) e
        refine ⟨h1, ?_⟩
        rw [h2]
        simp
        omega
def rd (l : List Nat) : Nat ⊕ List (Option Rf) := rdF 0 (spl 32 l) []
theorem read_wE {l : List Nat} (hw : okT l) (hl : l.length ≤ 900000) (c : List Cell) :
    wE (F_read_formula [.str (T l)] c) (fun v c' => ∃ ps, rd l = .inr ps ∧ ps.length ≤ 20 ∧ v = fD 1 0 ps ∧ Gw c c') (fun x c' => ∃ j : Nat, rd l = .inl j ∧ x = (7, [(("word" : Str), .int (j : Nat))]) ∧ Gw c c') := by
  have sp := fun c => sSplit_spl true (s := 32) (by decide) (l := l) (Nat.le_trans (by omega : _ ≤ 1000000) (by decide)) c
  have sl := spl_len 32 l
  have sn := List.length_pos_iff.mpr (spl_ne 32 l)
  have lp := rloop (some (.str (T l))) c.length (spl 32 l) 0 [] none none none (c ++ [.lst []]) (fun w h => ⟨hw.s w h, by have := sumL_mem h; omega⟩) rfl (by omega) (by simp)
  unfold F_read_formula
  rw [runDef_e, if_pos (show [D.str (T l)].length = 1 from rfl)]
  unfold b_read_formula
  rw [Ts]
  generalize hWS : ((spl 32 l).map fun w => D.str (T w)) = WS at *
  simp [sp, -forL_cons]
  refine lp.go (fun σ c' ⟨ps, h1, h2, h3, h4, y2, y3, y4, hσ⟩ => ?_) (fun _ _ h => h.elim) (fun _ _ h => h.elim) (fun _ _ h => h.elim) (fun x σ c' ⟨j, h1, h2, h3⟩ => ⟨j, h1, h2, h3.gw⟩)
  subst hσ
  obtain ⟨on, ln⟩ := rdF_on _ _ _ _ (fun p hp => by cases hp) h1
  have l1 : 1 ≤ ps.length := by
    have := List.length_pos_iff.mpr (spl_ne 32 l)
    simp at ln
    omega
  have lt := cAt_lt h4
  have wo := fun c => of_l ps l1 h2 c
  generalize ps.map (oD 0) = PD at *
  show wS (sSeq (sFrz 1) (sRet (fCMeth 1 (unK 2 2 F_Formula_of (fun ds _ => ds)) (fC (.cl 1)) (aCons (fVar 1) aNil))) [some (.str (T l)), some (.ref c.length), y2, y3, y4] c') _
  simp [h4, lt, wo]
  exact ⟨ps, h1, h2, rfl, (h3.gw.set (Nat.le_refl _)).trans Gw.app⟩
theorem lturn {i : Nat} {w : List Nat} (hw : okT w) (hl : w.length ≤ 900000) (x0 x4 : Option D) (c : List Cell) {acc : List (Option Rf)} (ha : acc.length ≤ 20) :
    wS (b_law_read_L0 [x0, some (.lst (acc.map oTp)), some (.int (i : Nat)), some (.str (T w)), x4] c)
      ⟨fun σ c' => ∃ p, wordO w = some p ∧ i ≠ 20 ∧ c' = c ∧ ∃ y4, σ = [x0, some (.lst ((acc ++ [p]).map oTp)), some (.int (i : Nat)), some (.str (T w)), y4], fun d c' => (wordO w = none ∨ i = 20) ∧ d = .int (i : Nat) ∧ c' = c, fun _ _ => False, fun _ _ => False, fun _ _ _ => False⟩ := by
  have le := fun c => lpart_eq hw hl c
  have sz : (acc.map oTp).length + 1 ≤ sizeLine := by rw [List.length_map]; exact Nat.le_trans (by omega : _ ≤ 21) (by decide)
  unfold b_law_read_L0
  cases e : wordO w with
  | none =>
    rw [e] at le
    have w0 : wD' none = .non := rfl
    rw [w0] at le
    have isn : ∀ c, dIs false .non .non c = some (.bl true, c) := fun _ => rfl
    simp [le, isn]
  | some p =>
    rw [e] at le
    have w0 : wD' (some p) = .lst [oTp p] := rfl
    rw [w0] at le
    have isn : ∀ c, dIs false (.lst [oTp p]) .non c = some (.bl false, c) := fun _ => rfl
    by_cases h3 : i = 20
    · have i3 : ((i : Nat) : Int) = 20 := by omega
      simp [le, isn, i3, h3]
    · have i3 : ¬ ((i : Nat) : Int) = 20 := by omega
      have ap : acc.map oTp ++ [oTp p] = (acc ++ [p]).map oTp := by simp
      generalize hA : acc.map oTp = A at *
      generalize hP : oTp p = P at *
      have ad : ∀ c, dAdd true (.lst A) (.lst [P]) c = some (.lst (A ++ [P]), c) := fun c => by simp [sz]
      simp [le, isn, i3, h3, ad, -dAdd_l]
      exact ⟨hA.symm, hP.symm⟩
theorem lloop (x0 : Option D) : ∀ (ws : List (List Nat)) (i : Nat) (acc : List (Option Rf)) (x2 x3 x4 : Option D) (c : List Cell), (∀ w ∈ ws, okT w ∧ w.length ≤ 900000) → acc.length = i → i ≤ 20 →
    wS (forL (gT 2 (gsCons (gN 2) (gsCons (gN 3) gsNil))) b_law_read_L0 (enD i (ws.map fun w => .str (T w))) [x0, some (.lst (acc.map oTp)), x2, x3, x4] c)
      ⟨fun σ c' => ∃ ps, rdF i ws acc = .inr ps ∧ c' = c ∧ ∃ y2 y3 y4, σ = [x0, some (.lst (ps.map oTp)), y2, y3, y4], fun d c' => ∃ j : Nat, rdF i ws acc = .inl j ∧ d = .int (j : Nat) ∧ c' = c, fun _ _ => False, fun _ _ => False,
        fun _ _ _ => False⟩
  | [], i, acc, x2, x3, x4, c, _, ha, hi => by
    show wS (Sr.nx [x0, some (.lst (acc.map oTp)), x2, x3, x4] c) _
    exact ⟨acc, rfl, rfl, _, _, _, rfl⟩
  | w :: ws, i, acc, x2, x3, x4, c, hw, ha, hi => by
    obtain ⟨h1, h2⟩ := hw w (List.mem_cons_self ..)
    have t := lturn (i := i) h1 h2 x0 x4 c (acc := acc) (by omega)
    show wS (match b_law_read_L0 [x0, some (.lst (acc.map oTp)), some (.int (i : Nat)), some (.str (T w)), x4] c with
      | .nx σ2 c2 => forL _ b_law_read_L0 (enD (i + 1) (ws.map fun w => .str (T w))) σ2 c2
      | .ct σ2 c2 => forL _ b_law_read_L0 (enD (i + 1) (ws.map fun w => .str (T w))) σ2 c2
      | .bk σ2 c2 => .nx σ2 c2
      | r => r) _
    cases e : b_law_read_L0 [x0, some (.lst (acc.map oTp)), some (.int (i : Nat)), some (.str (T w)), x4] c with
    | nx σ2 c2 =>
      rw [e] at t
      obtain ⟨p, hp, n3, rfl, y4, rfl⟩ := t
      have ih := lloop x0 ws (i + 1) (acc ++ [p]) (some (.int (i : Nat))) (some (.str (T w))) y4 c2 (fun v hv => hw v (List.mem_cons_of_mem _ hv)) (by simp [ha]) (by omega)
      have er : rdF i (w :: ws) acc = rdF (i + 1) ws (acc ++ [p]) := by
        rw [rdF, hp]
        simp only []
        rw [if_neg n3]
      rw [er]
      exact ih
    | rt d c2 =>
      rw [e] at t
      obtain ⟨h, rfl, rfl⟩ := t
      refine ⟨i, ?_, rfl, rfl⟩
      rw [rdF]
      cases hp : wordO w with
      | none => rfl
      | some p =>
        rcases h with h | h
        · rw [hp] at h; cases h
        · simp only []
          rw [if_pos h]
    | ct σ2 c2 => rw [e] at t; exact t.elim
    | bk σ2 c2 => rw [e] at t; exact t.elim
    | ex x σ2 c2 => rw [e] at t; exact t.elim
    | no => rw [e] at t; exact t.elim
def tdD : Nat ⊕ List (Option Rf) → D
  | .inl j => .int (j : Nat)
  | .inr ps => .lst (ps.map oTp)
theorem lread_wE {l : List Nat} (hw : okT l) (hl : l.length ≤ 900000) (c : List Cell) : wE (F_law_read [.str (T l)] c) (fun v c' => v = tdD (rd l) ∧ c' = c) nE := by
  have sp := fun c => sSplit_spl true (s := 32) (by decide) (l := l) (Nat.le_trans (by omega : _ ≤ 1000000) (by decide)) c
  have sl := spl_len 32 l
  have sn := List.length_pos_iff.mpr (spl_ne 32 l)
  have lp := lloop (some (.str (T l))) (spl 32 l) 0 [] none none none c (fun w h => ⟨hw.s w h, by have := sumL_mem h; omega⟩) rfl (by omega)
  have z0 : 0 ≤ sizeLine := Nat.zero_le _
  unfold F_law_read
  rw [runDef_e, if_pos (show [D.str (T l)].length = 1 from rfl)]
  unfold b_law_read
  rw [Ts]
  generalize hWS : ((spl 32 l).map fun w => D.str (T w)) = WS at *
  simp [sp, z0, -forL_cons]
  refine lp.go (fun σ c' ⟨ps, h1, h2, y2, y3, y4, hσ⟩ => ?_) (fun d c' ⟨j, h1, h2, h3⟩ => ?_) (fun _ _ h => h.elim) (fun _ _ h => h.elim) (fun _ _ _ h => h.elim)
  · subst hσ
    have e : tdD (rd l) = .lst (ps.map oTp) := by unfold rd; rw [h1]; rfl
    rw [e]
    generalize ps.map oTp = PD at *
    subst h2
    exact ⟨rfl, rfl⟩
  · have e : tdD (rd l) = .int (j : Nat) := by unfold rd; rw [h1]; rfl
    rw [e]
    exact ⟨h2, h3⟩
theorem told_wE {l : List Nat} (hw : okT l) (hl : l.length ≤ 900000) (b : Bool) (c : List Cell) : wE (F_law_told [.str (T l), .bl b] c) (fun v c' => v = tdD (rd l) ∧ Gw c c') nE := by
  have rw1 := fun c => read_wE hw hl c
  unfold F_law_told
  rw [runDef_e, if_pos (show [D.str (T l), .bl b].length = 2 from rfl)]
  unfold b_law_told
  generalize hR : rd l = R at *
  have ls := fun ps h c => lseen_wE ps h c
  have hx : ∀ (j : Nat) (σ : Sd) c1, Gw c c1 → R = .inl j → σ = [some (.str (T l)), some (.bl b), none, none] → tryW xsub_InvalidText 3 (sSeq (sAsg (fCB (gcAlt (gcAlt (dIsI nCls tab) (dIsX okx tab)) (dIsW okx tab)) (aCons (fVar 3) (aCons (fTup (aCons (fC (.cl 4)) (aCons (fC (.cl 6)) (aCons (fC (.cl 3)) (aCons (fC (.cl 5)) aNil))))) aNil))) (gN 2)) (sRet (fIfE (fOr (fTru (fVar 2)) (fNot (fTru (fCB (gcAlt (gcAlt (dIsI nCls tab) (dIsX okx tab)) (dIsW okx tab)) (aCons (fVar 3) (aCons (fC (.ty "ValueError")) aNil)))))) (fC (.str "odd")) (fXf xsub_InvalidText "word" (fVar 3))))) ⟨fun _ _ => False, fun v c' => v = tdD R ∧ Gw c c', fun _ _ => False, fun _ _ => False, fun x _ c => nE x c⟩ (7, [(("word" : Str), .int (j : Nat))]) σ c1 := fun j σ c1 g1 e hσ => by
    subst hσ e
    have i1 : ∀ c, dIsW okx tab [.exw 7 [(("word" : Str), .int (j : Nat))], .tup [.cl 4, .cl 6, .cl 3, .cl 5]] c = some (.bl false, c) := fun c => by
      simp [dIsW, clsOfs, clsOf, anyTab]
    have i2 : ∀ c, dIsW okx tab [.exw 7 [(("word" : Str), .int (j : Nat))], .ty "ValueError"] c = some (.bl true, c) := fun c => by
      simp [dIsW, clsOf]
    have a1 : ∀ t c, dIsI nCls tab [.exw 7 [(("word" : Str), .int (j : Nat))], t] c = none := fun t c => by
      cases t <;> rfl
    have a2 : ∀ t c, dIsX okx tab [.exw 7 [(("word" : Str), .int (j : Nat))], t] c = none := fun t c => by
      cases t <;> rfl
    have xf : ∀ c, xfO xsub_InvalidText "word" (.exw 7 [(("word" : Str), .int (j : Nat))]) c = .ok (.int (j : Nat)) c := fun c => xfO_w (by simp)
    unfold tryW
    simp only [xsub_InvalidText_InvalidText, exD_w]
    generalize D.exw 7 [(("word" : Str), .int (j : Nat))] = EX at *
    simp [i1, i2, a1, a2, xf, tdD]
    exact g1
  cases b with
  | true =>
    simp [gK_read_formula_0_text]
    refine (rw1 c).gox ?_ ?_
    · rintro _ c1 ⟨ps, rfl, hl, rfl, g1⟩
      have l1 := ls ps hl c1
      generalize fD 1 0 ps = FD at *
      simp
      refine l1.go ?_
      rintro _ c2 ⟨rfl, g2⟩
      exact ⟨rfl, g1.trans g2⟩
    · rintro x c1 ⟨j, e, rfl, g1⟩
      exact hx j _ c1 g1 e rfl
  | false =>
    simp
    refine (rw1 c).gox ?_ ?_
    · rintro _ c1 ⟨ps, rfl, hl, rfl, g1⟩
      have l1 := ls ps hl c1
      generalize fD 1 0 ps = FD at *
      simp
      refine l1.go ?_
      rintro _ c2 ⟨rfl, g2⟩
      exact ⟨rfl, g1.trans g2⟩
    · rintro x c1 ⟨j, e, rfl, g1⟩
      exact hx j _ c1 g1 e rfl
theorem rdF_le : ∀ (ws : List (List Nat)) (i : Nat) (acc : List (Option Rf)) {j : Nat}, i ≤ 20 → rdF i ws acc = .inl j → j ≤ 20
  | [], i, acc, j, _, e => by cases e
  | w :: ws, i, acc, j, h, e => by
    rw [rdF] at e
    cases hp : wordO w with
    | none => rw [hp] at e; cases e; exact h
    | some p =>
      rw [hp] at e
      simp only [] at e
      by_cases q : i = 20
      · rw [if_pos q] at e; cases e; exact h
      · rw [if_neg q] at e
        exact rdF_le ws (i + 1) _ (by omega) e
theorem rdF_l2 : ∀ (ws : List (List Nat)) (i : Nat) (acc : List (Option Rf)) {ps : List (Option Rf)}, i ≤ 20 → acc.length = i → rdF i ws acc = .inr ps → ps.length ≤ 20
  | [], i, acc, ps, h, l, e => by cases e; omega
  | w :: ws, i, acc, ps, h, l, e => by
    rw [rdF] at e
    cases hp : wordO w with
    | none => rw [hp] at e; cases e
    | some p =>
      rw [hp] at e
      simp only [] at e
      by_cases q : i = 20
      · rw [if_pos q] at e; cases e
      · rw [if_neg q] at e
        exact rdF_l2 ws (i + 1) _ (by omega) (by simp [l]) e
theorem obig_b {p : Option Rf} (h : ∀ r, p = some r → bnd r) : obig p := fun q e => by
  obtain ⟨⟨a, _⟩, b, _⟩ := h q e
  exact ⟨sm30 a, sm30 b⟩
theorem rp_td (l : List Nat) : ∃ s : Str, okS s ∧ ∀ c, gcAlt dRepr dReprN [tdD (rd l)] c = some (.str s, c) := by
  cases e : rd l with
  | inl j =>
    have hj : sm (j : Int) := by
      have := rdF_le _ _ _ (by omega) e
      have e : (300 : Int) < 10 ^ 60 := by decide
      exact sm_big (show big (j : Int) from ⟨by omega, by omega⟩)
    refine ⟨_, shown_okS _ (pk_int hj).nt, fun c => ?_⟩
    have a := dRepr_int1 hj c
    have b : dReprN [.int (j : Nat)] c = none := rfl
    show gcAlt dRepr dReprN [.int (j : Nat)] c = _
    rw [gcAlt_e, a, b]
    rfl
  | inr ps =>
    have on := (rdF_on _ _ _ _ (fun p hp => by cases hp) e).1
    have pk := pk_list (pks_oPd (fun p hp => obig_b (on p hp)) (rdF_l2 (spl 32 l) 0 [] (by omega) rfl e))
    refine ⟨_, shown_okS _ pk.nt, fun c => ?_⟩
    have a : dRepr [.lst (ps.map oTp)] c = some (.str (PyData.list (ps.map oPd)).shown, c) := by
      rw [dRepr_l, toP0s_oTp]
      show repO (some (.list _)) c = _
      rw [repO_s (pk.rep rfl)]
    have b : dReprN [.lst (ps.map oTp)] c = none := rfl
    show gcAlt dRepr dReprN [.lst (ps.map oTp)] c = _
    rw [gcAlt_e, a, b]
    rfl
end Ck82
namespace Ck82
open PySem PySem.Spec PyProof.Rows L2 PV
theorem Ts' : ((" " : String) : Str) = T [32] := by
  refine TL.ext_tl ?_
  rw [show TL.tl (T [32]) = [32] from T_tl _]
  decide +kernel
def sgS : Str := (((" !#$&'()*+,-./0123456789:;<=>?@ABCDEFGHIJKLMNOPQRSTUVWXYZ[]^_`abcdefghijklmnopqrstuvwxyz{|}~" : String) : Str) ++ (("\n" : String) : Str)) ++ (("\"" : String) : Str)
def SG : List Nat := sgS.cps.toList
theorem SG_eq : T SG = sgS := T_of sgS
theorem SG_ok : okT SG := by unfold okT; decide +kernel
theorem SG_len : 1 ≤ SG.length ∧ SG.length ≤ 200 := by decide +kernel
theorem signs_ok (c : List Cell) : F_law_signs [] c = .ok (.str (T SG)) c := by
  rw [SG_eq]
  unfold F_law_signs
  rw [runDef_e, if_pos (show ([] : List D).length = 0 from rfl)]
  unfold b_law_signs sgS
  have h1 : ((" !#$&'()*+,-./0123456789:;<=>?@ABCDEFGHIJKLMNOPQRSTUVWXYZ[]^_`abcdefghijklmnopqrstuvwxyz{|}~" : String) : Str).length + ((("\n" : String) : Str)).length ≤ sizeLine := by decide +kernel
  have h2 : (((" !#$&'()*+,-./0123456789:;<=>?@ABCDEFGHIJKLMNOPQRSTUVWXYZ[]^_`abcdefghijklmnopqrstuvwxyz{|}~" : String) : Str) ++ (("\n" : String) : Str)).length + ((("\"" : String) : Str)).length ≤ sizeLine := by decide +kernel
  simp [h1, h2]
def strsL (ws : List (List Nat)) : List D := ws.map fun w => .str (T w)
theorem strsL_app (a b : List (List Nat)) : strsL a ++ strsL b = strsL (a ++ b) := (List.map_append ..).symm
theorem strsL_len (a : List (List Nat)) : (strsL a).length = a.length := List.length_map ..
theorem okT_join {ws : List (List Nat)} (h : ∀ w ∈ ws, okT w) : okT (TL.joinL [32] ws) := fun k hk => by
  rcases joinL_mem hk with e | ⟨w, hw, hk⟩
  · omega
  · exact h w hw k hk
theorem sl_hd (ws : List (List Nat)) (k : Nat) (c : List Cell) : dSl true (.lst (strsL ws)) none (some (k : Int)) c = some (.lst (strsL (ws.take k)), c) := by
  rw [dSl_l, cut_hd, mkL_t]
  unfold strsL
  rw [List.map_take]
theorem sl_tl (ws : List (List Nat)) (k : Nat) (c : List Cell) : dSl true (.lst (strsL ws)) (some (k : Int)) none c = some (.lst (strsL (ws.drop k)), c) := by
  rw [dSl_l, cut_tl, mkL_t]
  unfold strsL
  rw [List.map_drop]
theorem ad_s (a b : List (List Nat)) (h : a.length + b.length ≤ 16000000) (c : List Cell) : dAdd true (.lst (strsL a)) (.lst (strsL b)) c = some (.lst (strsL (a ++ b)), c) := by
  show (if (strsL a).length + (strsL b).length ≤ sizeLine then mkL true (strsL a ++ strsL b) c else none) = _
  rw [strsL_len, strsL_len, if_pos (Nat.le_trans h (by decide)), strsL_app, mkL_t]
theorem jn_s (ws : List (List Nat)) (h : sumL ws + ws.length ≤ 16000000) (c : List Cell) : sJoin (.str (T [32])) (.lst (strsL ws)) c = some (.str (T (TL.joinL [32] ws)), c) :=
  sJoin_T [32] ws c (by
    show sumL ws + ws.length * 1 ≤ _
    omega)
def Bt (l : List Nat) (v : D) : Prop := ∃ l' : List Nat, v = .str (T l') ∧ okT l' ∧ l'.length ≤ 2 * l.length + 200
theorem bt_join {l : List Nat} {vs : List (List Nat)} (h : ∀ w ∈ vs, okT w) (hl : sumL vs + vs.length ≤ 2 * l.length + 200) : Bt l (.str (T (TL.joinL [32] vs))) :=
  ⟨_, rfl, okT_join h, Nat.le_trans (joinL_len 32 vs) hl⟩
theorem bent_wE {l : List Nat} (hw : okT l) (hl : l.length ≤ 200000) {OL : List (List Nat)} (ho : ∀ w ∈ OL, okT w ∧ w.length ≤ 60) (o1 : 1 ≤ OL.length) (o2 : OL.length ≤ 100) {K i : Nat} {c : List Cell} (hf : TFd K i c) (hK : K ≤ 10 ^ 8) :
    wE (F_law_bent [.ref i, .str (T l), .lst (strsL OL)] c) (fun v c' => Bt l v ∧ TN 5 i c c') nE := by
  have sp := fun c => sSplit_spl true (s := 32) (by decide) (l := l) (Nat.le_trans (by omega : _ ≤ 1000000) (by decide)) c
  have sl := spl_len 32 l
  have sn := List.length_pos_iff.mpr (spl_ne 32 l)
  have okw : ∀ w ∈ spl 32 l, okT w := hw.s
  have sp : ∀ c, sSplit true (.str (T l)) (.str (T [32])) c = some (.lst (strsL (spl 32 l)), c) := fun c => by rw [sp]; rfl
  generalize spl 32 l = ws at *
  have lw : ((strsL ws).length : Int) = ((ws.length : Nat) : Int) := by rw [strsL_len]
  have lo : ((strsL OL).length : Int) = ((OL.length : Nat) : Int) := by rw [strsL_len]
  have szl : l.length ≤ sizeLine := Nat.le_trans hl (by decide)
  have dl := fun c => dLen_T szl c
  have ds := fun c => dLen_T (Nat.le_trans SG_len.2 (by decide : 200 ≤ sizeLine)) c
  have hd := fun k c => sl_hd ws k c
  have td := fun k c => sl_tl ws k c
  unfold F_law_bent
  rw [runDef_e, if_pos (show [D.ref i, .str (T l), .lst (strsL OL)].length = 3 from rfl)]
  unfold b_law_bent b_law_bent_0
  generalize hB1 : b_law_bent_t1 = B1
  rw [next_is, Ts']
  generalize hWD : strsL ws = WD at *
  generalize hOD : strsL OL = OD at *
  simp [sp]
  refine (next_tx hf (by omega) (m := 8) (by decide) (by decide)).go ?_
  rintro _ c1 ⟨d, rfl, d0, d8, n1, _⟩
  have f1 := n1.fd _ hf
  simp
  rw [← hB1]
  unfold b_law_bent_t1 b_law_bent_1
  generalize hB2 : b_law_bent_t2 = B2
  rw [next_is]
  simp [lw, lo]
  refine (next_tx f1 (by omega) (m := ((ws.length : Nat) : Int)) (by omega) (by omega)).go ?_
  rintro _ c2 ⟨s, rfl, s0, s1, n2, _⟩
  have f2 := n2.fd _ f1
  obtain ⟨k, rfl⟩ : ∃ k : Nat, s = (k : Int) := ⟨s.toNat, by omega⟩
  have kl : k < ws.length := by omega
  simp [lw, lo]
  refine (next_tx f2 (by omega) (m := ((OL.length : Nat) : Int)) (by omega) (by omega)).go ?_
  rintro _ c3 ⟨t, rfl, t0, t1, n3, _⟩
  have f3 := n3.fd _ f2
  obtain ⟨j, rfl⟩ : ∃ j : Nat, t = (j : Int) := ⟨t.toNat, by omega⟩
  have jl : j < OL.length := by omega
  obtain ⟨so, hso⟩ : ∃ so, so = OL[j] := ⟨_, rfl⟩
  have ios : ∀ c, dIx (.lst OD) (.int (j : Nat)) c = some (.str (T so), c) := fun c => by
    rw [← hOD, hso]
    exact ix_dm (f := fun w => D.str (T w)) jl c
  obtain ⟨oks, ls⟩ := ho so (by rw [hso]; exact List.getElem_mem jl)
  have n03 := (n1.trans n2).trans n3
  have tk := sumL_take ws k
  have dk := sumL_drop ws k
  have okt : ∀ k, ∀ w ∈ ws.take k, okT w := fun k w h => okw w (List.mem_of_mem_take h)
  have okd : ∀ k, ∀ w ∈ ws.drop k, okT w := fun k w h => okw w (List.mem_of_mem_drop h)
  have fin : ∀ {v c'}, Bt l v → TN 3 i c c' → Bt l v ∧ TN 5 i c c' := fun h n => ⟨h, n.mono (by omega)⟩
  have o1s : [D.str (T so)] = strsL [so] := rfl
  simp [ios, -dIx_l]
  rw [← hB2]
  unfold b_law_bent_t2 b_law_bent_2 b_law_bent_t3 b_law_bent_3 b_law_bent_t4 b_law_bent_4 b_law_bent_t5 b_law_bent_5
  generalize hB6 : b_law_bent_t6 = B6
  rw [Ts']
  have lens : ∀ k, (ws.take k).length ≤ ws.length ∧ (ws.drop k).length ≤ ws.length := fun k => ⟨by rw [List.length_take]; omega, by rw [List.length_drop]; omega⟩
  have z1s : (strsL [so]).length ≤ sizeLine := by rw [strsL_len]; exact Nat.le_trans (Nat.le_refl 1) (by decide)
  by_cases h2 : d < 2
  · obtain ⟨e, rfl⟩ : ∃ e : Nat, d = (e : Int) := ⟨d.toNat, by omega⟩
    obtain ⟨k1, hk1⟩ : ∃ k1 : Nat, k1 = k + e := ⟨_, rfl⟩
    have ek : (k : Int) + (e : Int) = (k1 : Int) := by omega
    have a1 := fun c => ad_s (ws.take k) [so] (by have := (lens k).1; simp; omega) c
    have a2 := fun c => ad_s (ws.take k ++ [so]) (ws.drop k1) (by have := (lens k).1; have := (lens k1).2; simp; omega) c
    have dk' := sumL_drop ws k1
    have sm : sumL (ws.take k ++ [so] ++ ws.drop k1) + (ws.take k ++ [so] ++ ws.drop k1).length ≤ 2 * l.length + 200 := by
      have := (lens k).1
      have := (lens k1).2
      rw [sumL_app, sumL_app]
      simp only [List.length_append, List.length_singleton, sumL_cons, sumL_nil]
      omega
    have jn := fun c => jn_s (ws.take k ++ [so] ++ ws.drop k1) (by omega) c
    have okv : ∀ w ∈ ws.take k ++ [so] ++ ws.drop k1, okT w := fun w h => by
      rcases List.mem_append.mp h with h | h
      · rcases List.mem_append.mp h with h | h
        · exact okt _ w h
        · rw [List.mem_singleton.mp h]; exact oks
      · exact okd _ w h
    have b := bt_join (l := l) okv sm
    generalize ws.take k ++ [so] ++ ws.drop k1 = V at *
    generalize ws.take k ++ [so] = V1 at *
    simp [h2, ek, hd, td, z1s, o1s, a1, a2, jn, -dAdd_l, -dSl_l]
    exact fin b n03
  · by_cases h3 : d = 2
    · obtain ⟨k1, hk1⟩ : ∃ k1 : Nat, k1 = k + 1 := ⟨_, rfl⟩
      have ek : (k : Int) + 1 = (k1 : Int) := by omega
      have a1 := fun c => ad_s (ws.take k) (ws.drop k1) (by have := (lens k).1; have := (lens k1).2; omega) c
      have dk' := sumL_drop ws k1
      have sm : sumL (ws.take k ++ ws.drop k1) + (ws.take k ++ ws.drop k1).length ≤ 2 * l.length + 200 := by
        have := (lens k).1
        have := (lens k1).2
        rw [sumL_app]
        simp only [List.length_append]
        omega
      have jn := fun c => jn_s (ws.take k ++ ws.drop k1) (by omega) c
      have okv : ∀ w ∈ ws.take k ++ ws.drop k1, okT w := fun w h => by
        rcases List.mem_append.mp h with h | h
        · exact okt _ w h
        · exact okd _ w h
      have b := bt_join (l := l) okv sm
      generalize ws.take k ++ ws.drop k1 = V at *
      simp [h3, ek, hd, td, a1, jn, -dAdd_l, -dSl_l]
      exact fin b n03
    · by_cases h4 : d = 3
      · obtain ⟨k1, hk1⟩ : ∃ k1 : Nat, k1 = k + 1 := ⟨_, rfl⟩
        have ek : (k : Int) + 1 = (k1 : Int) := by omega
        have a1 := fun c => ad_s (ws.take k1) (ws.drop k) (by have := (lens k1).1; have := (lens k).2; omega) c
        have tk' := sumL_take ws k1
        have sm : sumL (ws.take k1 ++ ws.drop k) + (ws.take k1 ++ ws.drop k).length ≤ 2 * l.length + 200 := by
          have := (lens k1).1
          have := (lens k).2
          rw [sumL_app]
          simp only [List.length_append]
          omega
        have jn := fun c => jn_s (ws.take k1 ++ ws.drop k) (by omega) c
        have okv : ∀ w ∈ ws.take k1 ++ ws.drop k, okT w := fun w h => by
          rcases List.mem_append.mp h with h | h
          · exact okt _ w h
          · exact okd _ w h
        have b := bt_join (l := l) okv sm
        generalize ws.take k1 ++ ws.drop k = V at *
        simp [h4, ek, hd, td, a1, jn, -dAdd_l, -dSl_l]
        exact fin b n03
      · by_cases h5 : d < 6
        · obtain ⟨e, he, e1, e2⟩ : ∃ e : Nat, d - 3 = (e : Int) ∧ 1 ≤ e ∧ e ≤ 2 := ⟨(d - 3).toNat, by omega, by omega, by omega⟩
          have ml : ∀ c, dMul true (.lst (strsL [so])) (.int (e : Nat)) c = some (.lst (strsL (List.replicate e so)), c) := fun c => by
            rw [dMul_li ⟨by omega, by omega, by
              rw [strsL_len]
              exact Nat.le_trans (show 1 * ((e : Int)).toNat ≤ 100 by omega) (by decide)⟩]
            have : ∀ e : Nat, rep e (strsL [so]) = strsL (List.replicate e so) := fun e => by
              induction e with
              | zero => rfl
              | succ e ih => rw [List.replicate_succ]; show _ = D.str (T so) :: strsL (List.replicate e so); rw [← ih]; rfl
            rw [Int.toNat_natCast, this]
          have a1 := fun c => ad_s ws (List.replicate e so) (by rw [List.length_replicate]; omega) c
          have sr : sumL (List.replicate e so) ≤ 120 := by
            rcases (by omega : e = 1 ∨ e = 2) with rfl | rfl
            · simp [List.replicate]; omega
            · simp [List.replicate]; omega
          have sm : sumL (ws ++ List.replicate e so) + (ws ++ List.replicate e so).length ≤ 2 * l.length + 200 := by
            rw [sumL_app]
            simp only [List.length_append, List.length_replicate]
            omega
          have jn := fun c => jn_s (ws ++ List.replicate e so) (by omega) c
          have okv : ∀ w ∈ ws ++ List.replicate e so, okT w := fun w h => by
            rcases List.mem_append.mp h with h | h
            · exact okw w h
            · rw [(List.mem_replicate.mp h).2]; exact oks
          have b := bt_join (l := l) okv sm
          rw [hWD] at a1
          generalize ws ++ List.replicate e so = V at *
          generalize List.replicate e so = V1 at *
          simp [h2, h3, h4, h5, he, z1s, o1s, ml, a1, jn, -dAdd_l, -dSl_l]
          exact fin b n03
        · have e6 : d = 6 ∨ d = 7 := by omega
          simp [h2, h3, h4, h5]
          rw [← hB6]
          unfold b_law_bent_t6 b_law_bent_6
          generalize hB7 : b_law_bent_t7 = B7
          rw [next_is]
          simp [dl]
          refine (next_tx f3 (by omega) (m := ((l.length : Nat) : Int) + 1) (by omega) (by omega)).go ?_
          rintro _ c4 ⟨u, rfl, u0, u1, n4, _⟩
          have f4 := n4.fd _ f3
          obtain ⟨q, rfl⟩ : ∃ q : Nat, u = (q : Int) := ⟨u.toNat, by omega⟩
          simp [signs_ok]
          rw [← hB7]
          unfold b_law_bent_t7 b_law_bent_7
          rw [next_is]
          have s1 : ∀ c, dSl true (.str (T l)) none (some (q : Int)) c = some (.str (T (l.take q)), c) := fun c => by rw [dSl_T szl, cut_hd]
          obtain ⟨p, hp, pq⟩ : ∃ p : Nat, (q : Int) + d - 6 = (p : Int) ∧ q ≤ p := ⟨((q : Int) + d - 6).toNat, by omega, by omega⟩
          have s2 : ∀ c, dSl true (.str (T l)) (some (p : Int)) none c = some (.str (T (l.drop p)), c) := fun c => by rw [dSl_T szl, cut_tl]
          have g1 := SG_len.1
          have g2 := SG_len.2
          simp [s1, ds]
          refine (next_tx f4 (by omega) (m := ((SG.length : Nat) : Int)) (by omega) (by omega)).go ?_
          rintro _ c5 ⟨z, rfl, z0, z1, n5, _⟩
          obtain ⟨y, rfl⟩ : ∃ y : Nat, z = (y : Int) := ⟨z.toNat, by omega⟩
          have yl : y < SG.length := by omega
          have ix : ∀ c, dIx (.str (T SG)) (.int (y : Nat)) c = some (.str (T [SG[y]]), c) := fun c => by
            rw [dIx_T (Nat.le_trans g2 (by decide : 200 ≤ sizeLine)), PV.atI_nat (List.getElem?_eq_getElem yl)]
            rfl
          have oy : SG[y] < 0x110000 := SG_ok _ (List.getElem_mem yl)
          have lt := List.length_take_le q l
          have ld : (l.drop p).length ≤ l.length := by rw [List.length_drop]; omega
          have b1 := fun c => dAdd_T (fz := true) (a := l.take q) (b := [SG[y]]) (Nat.le_trans (by simp; omega : _ ≤ 1000000) (by decide)) c
          have b2 := fun c => dAdd_T (fz := true) (a := l.take q ++ [SG[y]]) (b := l.drop p) (Nat.le_trans (by simp; omega : _ ≤ 1000000) (by decide)) c
          have bt : Bt l (.str (T (l.take q ++ [SG[y]] ++ l.drop p))) := by
            refine ⟨_, rfl, fun k hk => ?_, ?_⟩
            · rcases List.mem_append.mp hk with h | h
              · rcases List.mem_append.mp h with h | h
                · exact hw k (List.mem_of_mem_take h)
                · rw [List.mem_singleton.mp h]; exact oy
              · exact hw k (List.mem_of_mem_drop h)
            · simp only [List.length_append, List.length_singleton]
              omega
          generalize l.take q ++ [SG[y]] ++ l.drop p = V at *
          generalize l.take q ++ [SG[y]] = V1 at *
          simp [ix, b1, hp, s2, b2, -dAdd_s]
          exact ⟨bt, (((n03).trans n4).trans n5).mono (by omega)⟩
end Ck82
namespace Ck82
open PySem PySem.Spec PyProof.Rows L2 PV
theorem law_forN (m : Nat) {G : GC} (hG : ∀ xs cs, G [.arg xs] cs = some (.int xs.length, cs)) {q : Int} (q1 : 1 ≤ q) (q2 : q ≤ 63) {fb : Fs} {ns : List Int} {σ0 : Sd} (I : Sd → Prop) (h0 : I σ0) (hI : ∀ σ, I σ → σ[0]? = some (some (.arg (ns.map D.int))))
    (turn : ∀ (k : Nat) (σ : Sd) (cs : List Cell), k ≤ 63 → I σ → ∃ σ' cs', fb (σ.set m (some (.int k))) cs = .nx σ' cs' ∧ I σ') (cs : List Cell) :
    ∃ σ' cs', sFor (iRg1 (aCons (fCB dMax (aCons (fC (.int 1)) (aCons (fCB dMin (aCons (fC (.int q)) (aCons (fCB G (aCons (fVar 0) aNil)) aNil))) aNil))) aNil)) (gN m) fb σ0 cs = .nx σ' cs' ∧ I σ' := by
  obtain ⟨j, ej, j0, j1⟩ : ∃ j : Int, j = (if (if (ns.length : Int) < q then (ns.length : Int) else q) > 1 then (if (ns.length : Int) < q then (ns.length : Int) else q) else 1) ∧ 0 ≤ j ∧ j ≤ 63 := by
    refine ⟨_, rfl, ?_, ?_⟩ <;> (split <;> (try split) <;> omega)
  have hb : -(2 ^ 62) ≤ j ∧ j < 2 ^ 62 := by omega
  have e2 : iRg1 (aCons (fCB dMax (aCons (fC (.int 1)) (aCons (fCB dMin (aCons (fC (.int q)) (aCons (fCB G (aCons (fVar 0) aNil)) aNil))) aNil))) aNil) σ0 cs = .ok (rngD 0 j.toNat) cs := by
    have : (fCB dMax (aCons (fC (.int 1)) (aCons (fCB dMin (aCons (fC (.int q)) (aCons (fCB G (aCons (fVar 0) aNil)) aNil))) aNil))) σ0 cs = .ok (.int j) cs := by
      rw [ej]
      simp [hI _ h0, hG]
    rw [iRg1_e, aCons_e, this]
    show rgO1 [.int j] cs = _
    rw [rgO1_i, if_pos hb]
  rw [sFor_e, e2, sOfL_ok]
  obtain ⟨σ', c', e3, h⟩ := forL_all (g := gN m) (fb := fb) (ds := rngD 0 j.toNat) (σ := σ0) (c := cs) (fun i σ c => I σ) h0 (by
    rintro i d σ c hd h
    obtain ⟨hi, rfl⟩ := rngD_get hd
    obtain ⟨σ', cs', e, h'⟩ := turn i σ c (by omega) h
    exact ⟨_, _, cs', rfl, (by rw [Int.zero_add]; exact e), h'⟩)
  exact ⟨σ', c', e3, h⟩
def cp (L : List Str) : List (List Nat) := L.map fun s => s.cps.toList
theorem cp_s (L : List Str) : strsL (cp L) = L.map D.str := by
  unfold strsL cp
  rw [List.map_map]
  exact List.map_congr_left fun s _ => by simp [T_of]
def o0 : List Str := ["", "#", "##", "R1C1", "R[1]C[-1]", "R[-0]C1", "R[0]C[0]", "R01C1", "R1C01", "R[01]C1", "R[+1]C1", "R-1C1"]
def o1 : List Str := ["r1c1", "R1", "C1", "RC", "R[]C[]", "R[1C1", "R1]C1", "R[1]]C1", "R[[1]]C1", "R1C1C1", "RR1C1", "C1R1"]
def o2 : List Str := ["R1C1,", "1", "R[-]C1", "R[--1]C1", "R[1 ]C1"]
def o3 : List Str := ["R1_0C1", "R1.C1", "R1C1\n", "_", "None"]
def o4 : List Str := ["R[1]C[1] ", "R1C[-1", "#R1C1"]
def q2 (n : Nat) : List Nat := ([82] ++ List.replicate n 57) ++ [67, 48]
def q3 (n : Nat) : List Nat := ([82, 48, 67, 91, 45] ++ List.replicate n 57) ++ [93]
def p1 : List (List Nat) := cp o0 ++ cp o1
def p2 : List (List Nat) := p1 ++ (cp o2 ++ [q2 30, q2 31])
def p3 : List (List Nat) := p2 ++ ([q3 30, q3 31] ++ cp o3)
def OL : List (List Nat) := p3 ++ cp o4
theorem OL_ok : ∀ w ∈ OL, okT w ∧ w.length ≤ 60 := by unfold okT; decide +kernel
theorem OL_l1 : 1 ≤ OL.length := by decide +kernel
theorem OL_l2 : OL.length ≤ 100 := by decide +kernel
theorem TC0 : (("C0" : String) : Str) = T [67, 48] := by
  refine TL.ext_tl ?_
  rw [show TL.tl (T [67, 48]) = [67, 48] from T_tl _]
  decide +kernel
theorem TRC : (("R0C[-" : String) : Str) = T [82, 48, 67, 91, 45] := by
  refine TL.ext_tl ?_
  rw [show TL.tl (T [82, 48, 67, 91, 45]) = [82, 48, 67, 91, 45] from T_tl _]
  decide +kernel
theorem T9 : (("9" : String) : Str) = T [57] := by
  refine TL.ext_tl ?_
  rw [show TL.tl (T [57]) = [57] from T_tl _]
  decide +kernel
theorem T1' : (("1" : String) : Str) = T [49] := by
  refine TL.ext_tl ?_
  rw [show TL.tl (T [49]) = [49] from T_tl _]
  decide +kernel
theorem Tx : (("x" : String) : Str) = T [120] := by
  refine TL.ext_tl ?_
  rw [show TL.tl (T [120]) = [120] from T_tl _]
  decide +kernel
theorem TR1 : (("R1C1" : String) : Str) = T [82, 49, 67, 49] := by
  refine TL.ext_tl ?_
  rw [show TL.tl (T [82, 49, 67, 49]) = [82, 49, 67, 49] from T_tl _]
  decide +kernel
theorem TRb : (("R[-" : String) : Str) = T [82, 91, 45] := by
  refine TL.ext_tl ?_
  rw [show TL.tl (T [82, 91, 45]) = [82, 91, 45] from T_tl _]
  decide +kernel
theorem TbC : (("]C[" : String) : Str) = T [93, 67, 91] := by
  refine TL.ext_tl ?_
  rw [show TL.tl (T [93, 67, 91]) = [93, 67, 91] from T_tl _]
  decide +kernel
theorem nines (k : Nat) (h : 2 ≤ k ∧ k ≤ 100) (c : List Cell) : gAlt (dMul true) dMulS (.str "9") (.int (k : Nat)) c = some (.str (T (List.replicate k 57)), c) := by
  have a : dMul true (.str "9") (.int (k : Nat)) c = none := rfl
  have b := dMulS_T (k := 57) (n := (k : Nat)) ⟨by omega, by omega⟩ c
  rw [gAlt_e, a, T9, b, Int.toNat_natCast]
  rfl
theorem ones (k : Nat) (h : 2 ≤ k ∧ k ≤ 100) (c : List Cell) : gAlt (dMul true) dMulS (.str (T [49])) (.int (k : Nat)) c = some (.str (T (List.replicate k 49)), c) := by
  have a : dMul true (.str (T [49])) (.int (k : Nat)) c = none := rfl
  have b := dMulS_T (k := 49) (n := (k : Nat)) ⟨by omega, by omega⟩ c
  rw [gAlt_e, a, b, Int.toNat_natCast]
  rfl
theorem odds0 (x0 x1 x2 x3 x4 x5 x6 x7 x8 x9 x10 : Option D) (c : List Cell) : b_law_0 [x0, x1, x2, x3, x4, x5, x6, x7, x8, x9, x10] c = .nx [x0, some (.lst (strsL (cp o0))), x2, x3, x4, x5, x6, x7, x8, x9, x10] c := by
  have z : 12 ≤ sizeLine := by decide
  rw [cp_s]
  unfold b_law_0 o0
  simp [z]
theorem odds1 (x0 x2 x3 x4 x5 x6 x7 x8 x9 x10 : Option D) (c : List Cell) : b_law_1 [x0, some (.lst (strsL (cp o0))), x2, x3, x4, x5, x6, x7, x8, x9, x10] c = .nx [x0, some (.lst (strsL p1)), x2, x3, x4, x5, x6, x7, x8, x9, x10] c := by
  have z : 12 ≤ sizeLine := by decide
  have ad := fun c => ad_s (cp o0) (cp o1) (by decide +kernel) c
  have e : cp o0 ++ cp o1 = p1 := rfl
  rw [e, cp_s o1] at ad
  unfold o1 at ad
  simp only [List.map_cons, List.map_nil] at ad
  generalize strsL p1 = O1 at *
  generalize strsL (cp o0) = O2 at *
  unfold b_law_1
  simp [z, ad, -dAdd_l]
theorem odds2 (x0 x2 x3 x4 x5 x6 x7 x8 x9 x10 : Option D) (c : List Cell) : b_law_2 [x0, some (.lst (strsL p1)), x2, x3, x4, x5, x6, x7, x8, x9, x10] c = .nx [x0, some (.lst (strsL p2)), x2, x3, x4, x5, x6, x7, x8, x9, x10] c := by
  have z : 7 ≤ sizeLine := by decide
  have n30 : ∀ c, gAlt (dMul true) dMulS (.str "9") (.int 30) c = some (.str (T (List.replicate 30 57)), c) := fun c => nines 30 (by decide) c
  have n31 : ∀ c, gAlt (dMul true) dMulS (.str "9") (.int 31) c = some (.str (T (List.replicate 31 57)), c) := fun c => nines 31 (by decide) c
  have a1 := fun c => dAdd_T (fz := true) (show ([82] : List Nat).length + (List.replicate 30 57 : List Nat).length ≤ sizeLine by decide) c
  have a2 := fun c => dAdd_T (fz := true) (show ([82] : List Nat).length + (List.replicate 31 57 : List Nat).length ≤ sizeLine by decide) c
  have b1 := fun c => dAdd_T (fz := true) (show ([82] ++ List.replicate 30 57 : List Nat).length + [67, 48].length ≤ sizeLine by decide) c
  have b2 := fun c => dAdd_T (fz := true) (show ([82] ++ List.replicate 31 57 : List Nat).length + [67, 48].length ≤ sizeLine by decide) c
  have ad := fun c => ad_s p1 (cp o2 ++ [q2 30, q2 31]) (by decide +kernel) c
  have e : p1 ++ (cp o2 ++ [q2 30, q2 31]) = p2 := rfl
  rw [e, ← strsL_app, cp_s o2] at ad
  have e2 : strsL [q2 30, q2 31] = [.str (T (q2 30)), .str (T (q2 31))] := rfl
  rw [e2] at ad
  unfold o2 at ad
  simp only [List.map_cons, List.map_nil, List.cons_append, List.nil_append] at ad
  unfold b_law_2
  rw [TR, TC0]
  unfold q2 at *
  generalize ([82] ++ List.replicate 30 57) ++ [67, 48] = V1 at *
  generalize ([82] ++ List.replicate 31 57) ++ [67, 48] = V2 at *
  generalize ([82] ++ List.replicate 30 57 : List Nat) = U1 at *
  generalize ([82] ++ List.replicate 31 57 : List Nat) = U2 at *
  generalize (List.replicate 30 57 : List Nat) = R30 at *
  generalize (List.replicate 31 57 : List Nat) = R31 at *
  generalize strsL p2 = O1 at *
  generalize strsL p1 = O2 at *
  simp [z, n30, n31, a1, a2, b1, b2, ad, -gAlt_e, -dAdd_s, -dAdd_l]
theorem odds3 (x0 x2 x3 x4 x5 x6 x7 x8 x9 x10 : Option D) (c : List Cell) : b_law_3 [x0, some (.lst (strsL p2)), x2, x3, x4, x5, x6, x7, x8, x9, x10] c = .nx [x0, some (.lst (strsL p3)), x2, x3, x4, x5, x6, x7, x8, x9, x10] c := by
  have z : 7 ≤ sizeLine := by decide
  have n30 : ∀ c, gAlt (dMul true) dMulS (.str "9") (.int 30) c = some (.str (T (List.replicate 30 57)), c) := fun c => nines 30 (by decide) c
  have n31 : ∀ c, gAlt (dMul true) dMulS (.str "9") (.int 31) c = some (.str (T (List.replicate 31 57)), c) := fun c => nines 31 (by decide) c
  have a1 := fun c => dAdd_T (fz := true) (show ([82, 48, 67, 91, 45] : List Nat).length + (List.replicate 30 57 : List Nat).length ≤ sizeLine by decide) c
  have a2 := fun c => dAdd_T (fz := true) (show ([82, 48, 67, 91, 45] : List Nat).length + (List.replicate 31 57 : List Nat).length ≤ sizeLine by decide) c
  have b1 := fun c => dAdd_T (fz := true) (show ([82, 48, 67, 91, 45] ++ List.replicate 30 57 : List Nat).length + [93].length ≤ sizeLine by decide) c
  have b2 := fun c => dAdd_T (fz := true) (show ([82, 48, 67, 91, 45] ++ List.replicate 31 57 : List Nat).length + [93].length ≤ sizeLine by decide) c
  have ad := fun c => ad_s p2 ([q3 30, q3 31] ++ cp o3) (by decide +kernel) c
  have e : p2 ++ ([q3 30, q3 31] ++ cp o3) = p3 := rfl
  rw [e, ← strsL_app, cp_s o3] at ad
  have e2 : strsL [q3 30, q3 31] = [.str (T (q3 30)), .str (T (q3 31))] := rfl
  rw [e2] at ad
  unfold o3 at ad
  simp only [List.map_cons, List.map_nil, List.cons_append, List.nil_append] at ad
  unfold b_law_3
  rw [TRC, Tc]
  unfold q3 at *
  generalize ([82, 48, 67, 91, 45] ++ List.replicate 30 57) ++ [93] = V1 at *
  generalize ([82, 48, 67, 91, 45] ++ List.replicate 31 57) ++ [93] = V2 at *
  generalize ([82, 48, 67, 91, 45] ++ List.replicate 30 57 : List Nat) = U1 at *
  generalize ([82, 48, 67, 91, 45] ++ List.replicate 31 57 : List Nat) = U2 at *
  generalize (List.replicate 30 57 : List Nat) = R30 at *
  generalize (List.replicate 31 57 : List Nat) = R31 at *
  generalize strsL p3 = O1 at *
  generalize strsL p2 = O2 at *
  simp [z, n30, n31, a1, a2, b1, b2, ad, -gAlt_e, -dAdd_s, -dAdd_l]
theorem odds4 (x0 x2 x3 x4 x5 x6 x7 x8 x9 x10 : Option D) (c : List Cell) : b_law_4 [x0, some (.lst (strsL p3)), x2, x3, x4, x5, x6, x7, x8, x9, x10] c = .nx [x0, some (.lst (strsL OL)), x2, x3, x4, x5, x6, x7, x8, x9, x10] c := by
  have z : 3 ≤ sizeLine := by decide
  have ad := fun c => ad_s p3 (cp o4) (by decide +kernel) c
  have e : p3 ++ cp o4 = OL := rfl
  rw [e, cp_s o4] at ad
  unfold o4 at ad
  simp only [List.map_cons, List.map_nil] at ad
  generalize strsL OL = O1 at *
  generalize strsL p3 = O2 at *
  unfold b_law_4
  simp [z, ad, -dAdd_l]
theorem ltext (ps : List (Option Rf)) (h : bnds ps) (hl : ps.length ≤ 20) (x0 x1 x2 x3 x4 x6 x8 x9 x10 : Option D) (c : List Cell) : (fSm sJoin (fC (.str " ")) (fLc true (iSq (fVar 5)) (gN 7) (fun _ c => .ok true c) (fCall (fnK 1 0 1 F_law_word (fun ds _ => ds)) (aCons (fVar 7) aNil) aNil) [7])) [x0, x1, x2, x3, x4, some (.lst (ps.map oTp)), x6, x7, x8, x9, x10] c = .ok (.str (T (fw ps))) c := by
  have lc : ∀ c, lcM (gN 7) (fun _ c => .ok true c) (fCall (fnK 1 0 1 F_law_word (fun ds _ => ds)) (aCons (fVar 7) aNil) aNil) [x0, x1, x2, x3, x4, some (.lst (ps.map oTp)), x6, none, x8, x9, x10] (ps.map oTp) c = .ok ((ps.map wO).map fun w => .str (T w)) c := fun c => by
    rw [List.map_map]
    exact lcM_pur oTp (fun p => .str (T (wO p))) ps fun p hp => ⟨[x0, x1, x2, x3, x4, some (.lst (ps.map oTp)), x6, some (oTp p), x8, x9, x10], rfl, rfl, by
      have lw := fun c => lword_eq p (h p hp) c
      generalize oTp p = P at *
      generalize ps.map oTp = PD at *
      simp [lw]⟩
  have sw := sum_len h
  have js := fun c => jn_s (ps.map wO) (by rw [List.length_map]; show ((ps.map wO).map (·.length)).sum + _ ≤ _; omega) c
  have szx : ((ps.map wO).map fun w => D.str (T w)).length ≤ sizeLine := by rw [List.length_map, List.length_map]; exact Nat.le_trans hl (by decide)
  rw [Ts]
  unfold strsL at js
  have e : fw ps = TL.joinL [32] (ps.map wO) := rfl
  rw [← e] at js
  generalize fw ps = J at *
  generalize ((ps.map wO).map fun w => D.str (T w)) = WS at *
  generalize ps.map oTp = PD at *
  simp [lc, szx, js]
theorem fw_okT {ps : List (Option Rf)} : okT (fw ps) := okT_join fun w hw => by
  obtain ⟨p, _, rfl⟩ := List.mem_map.mp hw
  intro k hk
  exact (wO_mem hk).2
theorem lturn_wE (K i : Nat) (hK : K + 3000 ≤ 10 ^ 8) (x0 x2 x5 x6 x7 x8 x9 x10 : Option D) (j0 : Nat) (c : List Cell) (hf : TFd K i c) :
    wS (b_law_L1 [x0, some (.lst (strsL OL)), x2, some (.ref i), some (.int (j0 : Nat)), x5, x6, x7, x8, x9, x10] c) (okP fun σ c' => TFd (K + 250) i c' ∧ ∃ y5 y6 y7 y8, σ = [x0, some (.lst (strsL OL)), x2, some (.ref i), some (.int (j0 : Nat)), y5, y6, y7, y8, x9, x10]) := by
  obtain ⟨M, hM⟩ : ∃ M : Int, M = 10 ^ 30 := ⟨_, rfl⟩
  have p30 : ∀ c, dPow (.int 10) (.int 30) c = some (.int M, c) := fun c => by rw [hM]; rfl
  have M1 : 1 ≤ M := by rw [hM]; decide
  have M2 : M ≤ 10 ^ 30 := by rw [hM]; decide
  have z2 : 2 ≤ sizeLine := by decide
  have ho := OL_ok
  have o1 := OL_l1
  have o2 := OL_l2
  have bw : ∀ {l : List Nat} {K : Nat} {c : List Cell}, okT l → l.length ≤ 200000 → TFd K i c → K ≤ 10 ^ 8 → wE (F_law_bent [.ref i, .str (T l), .lst (strsL OL)] c) (fun v c' => Bt l v ∧ TN 5 i c c') nE := fun h1 h2 h3 h4 => bent_wE h1 h2 ho o1 o2 h3 h4
  have lt0 : ∀ ps : List (Option Rf), bnds ps → ps.length ≤ 20 → ∀ (x0 x1 x2 x3 x4 x6 x7 x8 x9 x10 : Option D) (c : List Cell), _ := fun ps h hl x0 x1 x2 x3 x4 x6 x7 x8 x9 x10 c => ltext (x7 := x7) ps h hl x0 x1 x2 x3 x4 x6 x8 x9 x10 c
  generalize hOD : strsL OL = OD at *
  unfold b_law_L1
  rw [next_is]
  generalize fSm sJoin (fC (.str " ")) (fLc true (iSq (fVar 5)) (gN 7) (fun _ c => .ok true c) (fCall (fnK 1 0 1 F_law_word (fun ds _ => ds)) (aCons (fVar 7) aNil) aNil) [7]) = JF at *
  simp [-forL_cons]
  refine (next_tx hf (by omega) (m := 4) (by decide) (by decide)).go ?_
  rintro _ c1 ⟨v, rfl, v0, v1, n1, k1⟩
  simp [-forL_cons]
  refine (next_tx (n1.fd _ hf) (by omega) (m := 3) (by decide) (by decide)).go ?_
  rintro _ c2 ⟨u, rfl, u0, u1, n2, k2⟩
  simp [-forL_cons, z2]
  refine (next_tx (n2.fd _ (n1.fd _ hf)) (by omega) (m := 2) (by decide) (by decide)).go ?_
  rintro _ c3 ⟨t, rfl, t0, t1, n3, k3⟩
  have n13 := (n1.trans n2).trans n3
  obtain ⟨m, em, m1, m2⟩ : ∃ m : Nat, atI [D.int (1 + v), .int (18 + u)] t = some (.int (m : Nat)) ∧ 1 ≤ m ∧ m ≤ 20 := by
    rcases (by omega : t = 0 ∨ t = 1) with rfl | rfl
    · exact ⟨(1 + v).toNat, by
        have : (((1 + v).toNat : Nat) : Int) = 1 + v := by omega
        rw [this]; rfl, by omega, by omega⟩
    · exact ⟨(18 + u).toNat, by
        have : (((18 + u).toNat : Nat) : Int) = 18 + u := by omega
        rw [this]; rfl, by omega, by omega⟩
  obtain ⟨_, c4, e4, ps, rfl, lp, bp, n4⟩ := lany_ex (K + 3) i M1 M2 m m2 c3 ((n13.fd _ hf).mono (by omega)) (by omega)
  have lt1 := lt0 ps bp (by omega)
  have fl := fw_len bp (by omega)
  have fo := fw_okT (ps := ps)
  have n14 := n13.trans n4
  have f4 := n14.fd _ hf
  generalize fw ps = l0 at *
  generalize ps.map oTp = PD at *
  simp [-forL_cons, em, p30, -dPow_i, e4, lt1]
  refine (next_tx f4 (by omega) (m := 4) (by decide) (by decide)).go ?_
  rintro _ c5 ⟨w, rfl, w0, w1, n5, k5⟩
  obtain ⟨n, rfl⟩ : ∃ n : Nat, w = (n : Int) := ⟨w.toNat, by omega⟩
  have n3 : n ≤ 3 := by omega
  have n15 := n14.trans n5
  have rg : ∀ c, rgO1 [.int (n : Int)] c = .ok (rngD 0 n) c := fun c => by
    rw [rg1_ok (by omega)]
    congr 2
  have dl : (rngD 0 n).length = n := by simp [rngD]
  have p2 : ∀ j : Nat, j ≤ 3 → 2 ^ j ≤ 8 := fun j h => by
    rcases (by omega : j = 0 ∨ j = 1 ∨ j = 2 ∨ j = 3) with rfl | rfl | rfl | rfl <;> decide
  simp [-forL_cons, -rgO1_i, rg]
  refine wS_forL (fun j σ c' => TN (200 + 5 * j) i c c' ∧ ∃ (y8 : Option D) (l' : List Nat), okT l' ∧ l'.length + 200 ≤ 1700 * 2 ^ j ∧ σ = [x0, some (.lst OD), x2, some (.ref i), some (.int (j0 : Nat)), some (.lst PD), some (.str (T l')), x7, y8, x9, x10]) ⟨n15.mono (by omega), _, l0, fo, by omega, rfl⟩ ?_ ?_
  · rintro j d σ c' hd ⟨nx, y8, l', hw', hl', rfl⟩
    have hj : j < n := by
      have := (List.getElem?_eq_some_iff.mp hd).1
      rw [dl] at this
      exact this
    have q := p2 j (by omega)
    have be := bw (l := l') hw' (by omega) (nx.fd _ hf) (by omega)
    refine ⟨_, rfl, ?_⟩
    unfold b_law_L0
    simp
    refine be.go ?_
    rintro _ c2 ⟨⟨l2, rfl, ok2, le2⟩, n2⟩
    simp
    refine ⟨(nx.trans n2).mono (by omega), _, l2, ok2, ?_, rfl, rfl⟩
    rw [Nat.pow_succ]
    omega
  · rintro σ c' ⟨nx, y8, l', hw', hl', rfl⟩
    rw [dl] at hl' nx
    have q := p2 n n3
    have l9 : l'.length ≤ 900000 := by omega
    have to := fun b c => told_wE hw' l9 b c
    have re := fun c => lread_wE hw' l9 c
    obtain ⟨s, os, rp⟩ := rp_td l'
    have dq := fun n c => dEq_s (n := n) (cs := c) os os
    have dm : ∃ b : Bool, ∀ c, (fOp2 (dEq false) (fOp2 dMod (fVar 4) (fC (.int 2))) (fC (.int 0))) [x0, some (.lst OD), x2, some (.ref i), some (.int (j0 : Nat)), some (.lst PD), some (.str (T l')), x7, y8, x9, x10] c = .ok (.bl b) c := ⟨decide ((j0 : Int) % 2 = 0), fun c => by simp⟩
    obtain ⟨b, dm⟩ := dm
    generalize fOp2 (dEq false) (fOp2 dMod (fVar 4) (fC (.int 2))) (fC (.int 0)) = TT at *
    simp [dm]
    refine (to b c').go ?_
    rintro _ c2 ⟨rfl, g2⟩
    simp [rp, -gcAlt_e]
    refine (re c2).go ?_
    rintro _ c3 ⟨rfl, rfl⟩
    simp [rp, dq, -gcAlt_e]
    exact ((nx.trans (TN.gw g2)).fd _ hf).mono (by omega)
theorem lcell_wE (ns : List Int) (k : Nat) (hk : k ≤ 63) (x3 x4 x5 x6 x7 x8 x9 x10 : Option D) (c : List Cell) :
    wS (b_law_L2 [some (.arg (ns.map D.int)), some (.lst (strsL OL)), some (.int k), x3, x4, x5, x6, x7, x8, x9, x10] c) (okP fun σ _ => ∃ y3 y4 y5 y6 y7 y8, σ = [some (.arg (ns.map D.int)), some (.lst (strsL OL)), some (.int k), y3, y4, y5, y6, y7, y8, x9, x10]) := by
  have rg : ∀ c, rgO1 [.int 40] c = .ok (rngD 0 40) c := fun c => rfl
  have lt := fun (K i : Nat) (hK : K + 3000 ≤ 10 ^ 8) => lturn_wE K i hK
  generalize strsL OL = OD at *
  unfold b_law_L2
  simp [tape_is]
  refine (tape_tx ns k hk c).go ?_
  rintro _ c1 ⟨rfl, h1, n1⟩
  simp [-forL_cons, rg, -rgO1_i]
  refine wS_forL (fun j σ c' => TFd (250 * j) c.length c' ∧ ∃ y4 y5 y6 y7 y8, σ = [some (.arg (ns.map D.int)), some (.lst OD), some (.int k), some (.ref c.length), y4, y5, y6, y7, y8, x9, x10]) ⟨h1, _, _, _, _, _, rfl⟩ ?_ ?_
  · rintro j d σ c' hd ⟨hf, y4, y5, y6, y7, y8, rfl⟩
    obtain ⟨hj, rfl⟩ := rngD_get hd
    refine ⟨_, rfl, ?_⟩
    have e0 : (0 : Int) + (j : Nat) = ((j : Nat) : Int) := by omega
    rw [e0]
    refine (lt (250 * j) c.length (by omega) (some (.arg (ns.map D.int))) (some (.int k)) y5 y6 y7 y8 x9 x10 j c' hf).go ?_ (fun _ _ h => h.elim) (fun _ _ h => h.elim) (fun _ _ h => h.elim) (fun _ _ _ h => h.elim)
    rintro σ c2 ⟨f2, z5, z6, z7, z8, rfl⟩
    exact ⟨f2.mono (by omega), _, _, _, _, _, rfl⟩
  · rintro σ c' ⟨hf, y4, y5, y6, y7, y8, rfl⟩
    exact ⟨_, _, _, _, _, _, rfl⟩
def f6a : List (List Nat) := [TL.joinL [32] (List.replicate 20 [35]), TL.joinL [32] (List.replicate 21 [35]), TL.joinL [32] (List.replicate 20 [82, 49, 67, 49] ++ [[120]])]
def f6b : List Str := [" ", "# ", " #", "#  #"]
def F6 : List (List Nat) := OL ++ (f6a ++ cp f6b)
def t30 : List Nat := ((([82, 91, 45] ++ List.replicate 30 49) ++ [93, 67, 91]) ++ List.replicate 30 49) ++ [93]
def f7b : List Str := ["#\n#", "R1C1 R1C1 R1C"]
def FT : List (List Nat) := F6 ++ ([TL.joinL [32] (List.replicate 19 [82, 49, 67, 49] ++ [[120]])] ++ cp f7b ++ [t30])
theorem FT_ok : ∀ w ∈ FT, okT w ∧ w.length ≤ 2000 := by unfold okT; decide +kernel
theorem many (w : List Nat) (n : Nat) (h : n ≤ 400) (c : List Cell) : gAlt (dMul true) dMulS (.lst [.str (T w)]) (.int (n : Nat)) c = some (.lst (strsL (List.replicate n w)), c) := by
  have z : [D.str (T w)].length * (n : Int).toNat ≤ sizeLine := by
    rw [Int.toNat_natCast]
    exact Nat.le_trans (show 1 * n ≤ 400 by omega) (by decide)
  have b : dMulS (.lst [.str (T w)]) (.int (n : Nat)) c = none := rfl
  have a : dMul true (.lst [.str (T w)]) (.int (n : Nat)) c = some (.lst (strsL (List.replicate n w)), c) := by
    rw [dMul_li ⟨by omega, by omega, z⟩, Int.toNat_natCast, rep_ce]
    unfold strsL
    rw [List.map_replicate]
  rw [gAlt_e, a]
  rfl
theorem texts6 (x0 x2 x3 x4 x5 x6 x7 x8 x9 x10 : Option D) (c : List Cell) : b_law_6 [x0, some (.lst (strsL OL)), x2, x3, x4, x5, x6, x7, x8, x9, x10] c = .nx [x0, some (.lst (strsL OL)), x2, x3, x4, x5, x6, x7, x8, some (.lst (strsL F6)), x10] c := by
  have z : 7 ≤ sizeLine := by decide
  have z1 : [D.str (T [35])].length ≤ sizeLine := by exact Nat.le_trans (Nat.le_refl 1) (by decide)
  have z2 : [D.str (T [82, 49, 67, 49])].length ≤ sizeLine := by exact Nat.le_trans (Nat.le_refl 1) (by decide)
  have zx : [D.str (T [120])].length ≤ sizeLine := by exact Nat.le_trans (Nat.le_refl 1) (by decide)
  have m1 : ∀ c, gAlt (dMul true) dMulS (.lst [.str (T [35])]) (.int 20) c = some (.lst (strsL (List.replicate 20 [35])), c) := fun c => many [35] 20 (by decide) c
  have m2 : ∀ c, gAlt (dMul true) dMulS (.lst [.str (T [35])]) (.int 21) c = some (.lst (strsL (List.replicate 21 [35])), c) := fun c => many [35] 21 (by decide) c
  have m3 : ∀ c, gAlt (dMul true) dMulS (.lst [.str (T [82, 49, 67, 49])]) (.int 20) c = some (.lst (strsL (List.replicate 20 [82, 49, 67, 49])), c) := fun c => many [82, 49, 67, 49] 20 (by decide) c
  have ox : [D.str (T [120])] = strsL [[120]] := rfl
  have a3 := fun c => ad_s (List.replicate 20 [82, 49, 67, 49]) [[120]] (by decide +kernel) c
  have j1 := fun c => jn_s (List.replicate 20 [35]) (by decide +kernel) c
  have j2 := fun c => jn_s (List.replicate 21 [35]) (by decide +kernel) c
  have j3 := fun c => jn_s (List.replicate 20 [82, 49, 67, 49] ++ [[120]]) (by decide +kernel) c
  have ad := fun c => ad_s OL (f6a ++ cp f6b) (by decide +kernel) c
  have e : OL ++ (f6a ++ cp f6b) = F6 := rfl
  rw [e, ← strsL_app, cp_s f6b] at ad
  have e2 : strsL f6a = [.str (T (TL.joinL [32] (List.replicate 20 [35]))), .str (T (TL.joinL [32] (List.replicate 21 [35]))), .str (T (TL.joinL [32] (List.replicate 20 [82, 49, 67, 49] ++ [[120]])))] := rfl
  rw [e2] at ad
  rw [← ox] at a3
  unfold f6b at ad
  simp only [List.map_cons, List.map_nil, List.cons_append, List.nil_append] at ad
  unfold b_law_6
  rw [Ts] at ad
  rw [Th, Ts, TR1, Tx]
  generalize TL.joinL [32] (List.replicate 20 [82, 49, 67, 49] ++ [[120]]) = J3 at *
  generalize TL.joinL [32] (List.replicate 20 [35]) = J1 at *
  generalize TL.joinL [32] (List.replicate 21 [35]) = J2 at *
  generalize strsL (List.replicate 20 [82, 49, 67, 49] ++ [[120]]) = K3 at *
  generalize strsL (List.replicate 20 [82, 49, 67, 49]) = L3 at *
  generalize strsL (List.replicate 20 [35]) = L1 at *
  generalize strsL (List.replicate 21 [35]) = L2 at *
  generalize strsL F6 = O1 at *
  generalize strsL OL = O2 at *
  have z1' : 1 ≤ sizeLine := by decide
  simp [z, z1, z1', z2, zx, m1, m2, m3, a3, j1, j2, j3, ad, -gAlt_e, -dAdd_l]
theorem texts7 (x0 x1 x2 x3 x4 x5 x6 x7 x8 x10 : Option D) (c : List Cell) : b_law_7 [x0, x1, x2, x3, x4, x5, x6, x7, x8, some (.lst (strsL F6)), x10] c = .nx [x0, x1, x2, x3, x4, x5, x6, x7, x8, some (.lst (strsL FT)), x10] c := by
  have z : 4 ≤ sizeLine := by decide
  have z2 : [D.str (T [82, 49, 67, 49])].length ≤ sizeLine := by exact Nat.le_trans (Nat.le_refl 1) (by decide)
  have zx : [D.str (T [120])].length ≤ sizeLine := by exact Nat.le_trans (Nat.le_refl 1) (by decide)
  have m3 : ∀ c, gAlt (dMul true) dMulS (.lst [.str (T [82, 49, 67, 49])]) (.int 19) c = some (.lst (strsL (List.replicate 19 [82, 49, 67, 49])), c) := fun c => many [82, 49, 67, 49] 19 (by decide) c
  have n30 : ∀ c, gAlt (dMul true) dMulS (.str (T [49])) (.int 30) c = some (.str (T (List.replicate 30 49)), c) := fun c => ones 30 (by decide) c
  have ox : [D.str (T [120])] = strsL [[120]] := rfl
  have a3 := fun c => ad_s (List.replicate 19 [82, 49, 67, 49]) [[120]] (by decide +kernel) c
  have j3 := fun c => jn_s (List.replicate 19 [82, 49, 67, 49] ++ [[120]]) (by decide +kernel) c
  have b1 := fun c => dAdd_T (fz := true) (show ([82, 91, 45] : List Nat).length + (List.replicate 30 49 : List Nat).length ≤ sizeLine by decide) c
  have b2 := fun c => dAdd_T (fz := true) (show ([82, 91, 45] ++ List.replicate 30 49 : List Nat).length + ([93, 67, 91] : List Nat).length ≤ sizeLine by decide) c
  have b3 := fun c => dAdd_T (fz := true) (show (([82, 91, 45] ++ List.replicate 30 49) ++ [93, 67, 91] : List Nat).length + (List.replicate 30 49 : List Nat).length ≤ sizeLine by decide) c
  have b4 := fun c => dAdd_T (fz := true) (show ((([82, 91, 45] ++ List.replicate 30 49) ++ [93, 67, 91]) ++ List.replicate 30 49 : List Nat).length + ([93] : List Nat).length ≤ sizeLine by decide) c
  have ad := fun c => ad_s F6 ([TL.joinL [32] (List.replicate 19 [82, 49, 67, 49] ++ [[120]])] ++ cp f7b ++ [t30]) (by decide +kernel) c
  have e : F6 ++ ([TL.joinL [32] (List.replicate 19 [82, 49, 67, 49] ++ [[120]])] ++ cp f7b ++ [t30]) = FT := rfl
  rw [e, ← strsL_app, ← strsL_app, cp_s f7b] at ad
  have e2 : strsL [TL.joinL [32] (List.replicate 19 [82, 49, 67, 49] ++ [[120]])] = [.str (T (TL.joinL [32] (List.replicate 19 [82, 49, 67, 49] ++ [[120]])))] := rfl
  have e3 : strsL [t30] = [.str (T t30)] := rfl
  rw [e2, e3] at ad
  rw [← ox] at a3
  unfold f7b at ad
  simp only [List.map_cons, List.map_nil, List.cons_append, List.nil_append] at ad
  unfold b_law_7
  rw [Ts, TR1, Tx, TRb, TbC, Tc, T1']
  unfold t30 at ad
  generalize ((([82, 91, 45] ++ List.replicate 30 49) ++ [93, 67, 91]) ++ List.replicate 30 49) ++ [93] = V4 at *
  generalize (([82, 91, 45] ++ List.replicate 30 49) ++ [93, 67, 91]) ++ List.replicate 30 49 = V3 at *
  generalize ([82, 91, 45] ++ List.replicate 30 49) ++ [93, 67, 91] = V2 at *
  generalize ([82, 91, 45] ++ List.replicate 30 49 : List Nat) = V1 at *
  generalize (List.replicate 30 49 : List Nat) = R30 at *
  generalize TL.joinL [32] (List.replicate 19 [82, 49, 67, 49] ++ [[120]]) = J3 at *
  generalize strsL (List.replicate 19 [82, 49, 67, 49] ++ [[120]]) = K3 at *
  generalize strsL (List.replicate 19 [82, 49, 67, 49]) = L3 at *
  generalize strsL FT = O1 at *
  generalize strsL F6 = O2 at *
  have z1' : 1 ≤ sizeLine := by decide
  simp [z, z1', z2, zx, m3, n30, a3, j3, b1, b2, b3, b4, ad, -gAlt_e, -dAdd_l, -dAdd_s]
theorem fin_wE (ws : List (List Nat)) (h : ∀ w ∈ ws, okT w ∧ w.length ≤ 2000) (x0 x1 x2 x3 x4 x5 x6 x7 x8 x10 : Option D) (c : List Cell) : wS (b_law_8 [x0, x1, x2, x3, x4, x5, x6, x7, x8, some (.lst (strsL ws)), x10] c) ⟨fun _ _ => False, fun d _ => d = .bl true, fun _ _ => False, fun _ _ => False, fun _ _ _ => False⟩ := by
  have lc : ∀ c, wE (lcM (gN 10) (fTst (fOp2 (dEq true) (fCB (gcAlt dRepr dReprN) (aCons (fCall (fnK 2 0 2 F_law_told (fun ds _ => ds)) (aCons (fVar 10) (aCons (fC (.bl false)) aNil)) aNil) aNil)) (fCB (gcAlt dRepr dReprN) (aCons (fCall (fnK 1 0 1 F_law_read (fun ds _ => ds)) (aCons (fVar 10) aNil) aNil) aNil)))) (fVar 10) [x0, x1, x2, x3, x4, x5, x6, x7, x8, some (.lst (strsL ws)), none] (strsL ws) c) (fun ys _ => ys = []) nE := fun c => by
    refine wE_lcM (fun _ ys _ => ys = []) rfl ?_ (fun ys c h => h)
    rintro k d ys c hd rfl
    unfold strsL at hd
    rw [List.getElem?_map] at hd
    cases e : ws[k]? with
    | none => rw [e] at hd; cases hd
    | some w =>
      rw [e] at hd
      cases hd
      obtain ⟨ok, lw⟩ := h w (List.mem_of_getElem? e)
      have to := fun b c => told_wE ok (Nat.le_trans lw (by decide)) b c
      have re := fun c => lread_wE ok (Nat.le_trans lw (by decide)) c
      obtain ⟨s, os, rp⟩ := rp_td w
      have dq := fun n c => dEq_s (n := n) (cs := c) os os
      refine ⟨[x0, x1, x2, x3, x4, x5, x6, x7, x8, some (.lst (strsL ws)), some (.str (T w))], rfl, ?_⟩
      generalize strsL ws = WS at *
      simp
      refine (to false c).go ?_
      rintro _ c2 ⟨rfl, g2⟩
      simp [rp, -gcAlt_e]
      refine (re c2).go ?_
      rintro _ c3 ⟨rfl, g3⟩
      simp [rp, dq, -gcAlt_e]
  unfold b_law_8
  generalize strsL ws = WS at *
  simp
  refine (lc c).go ?_
  rintro _ c2 rfl
  simp
theorem plain : ∀ ns : List Int, ns.length ≤ 63 → ∃ cs, F_law [.arg (ns.map D.int)] [] = .ok (.bl true) cs := by
  intro ns hl
  suffices q : wE (F_law [.arg (ns.map D.int)] []) (fun d _ => d = .bl true) nE by
    obtain ⟨d, c, e, rfl⟩ := wE_iff.mp q
    exact ⟨c, e⟩
  unfold F_law
  refine wE_run rfl ?_
  show wS (b_law [some (.arg (ns.map D.int)), none, none, none, none, none, none, none, none, none, none] []) _
  obtain ⟨σ', c', e, x2, x3, x4, x5, x6, x7, x8, x9, x10, rfl⟩ := law_forN 2 (G := dLen) (fun _ _ => rfl) (q := 2) (by omega) (by omega) (fb := b_law_L2) (ns := ns) (σ0 := [some (.arg (ns.map D.int)), some (.lst (strsL OL)), none, none, none, none, none, none, none, none, none])
    (fun σ => ∃ x2 x3 x4 x5 x6 x7 x8 x9 x10, σ = [some (.arg (ns.map D.int)), some (.lst (strsL OL)), x2, x3, x4, x5, x6, x7, x8, x9, x10]) ⟨_, _, _, _, _, _, _, _, _, rfl⟩ (by rintro σ ⟨_, _, _, _, _, _, _, _, _, rfl⟩; rfl) (by
      rintro k σ cs hk ⟨x2, x3, x4, x5, x6, x7, x8, x9, x10, rfl⟩
      obtain ⟨σ', c', e, y3, y4, y5, y6, y7, y8, rfl⟩ := wS_okP.mp (lcell_wE ns k hk x3 x4 x5 x6 x7 x8 x9 x10 cs)
      exact ⟨_, c', e, _, _, _, _, _, _, _, _, _, rfl⟩) []
  unfold b_law b_law_t1 b_law_t2 b_law_t3 b_law_t4 b_law_t5 b_law_5 b_law_t6 b_law_t7 b_law_t8
  have fw := fun x0 x1 x2 x3 x4 x5 x6 x7 x8 x10 c => fin_wE FT FT_ok x0 x1 x2 x3 x4 x5 x6 x7 x8 x10 c
  rw [sSeq_e, odds0, Sr.bind_nx, sSeq_e, odds1, Sr.bind_nx, sSeq_e, odds2, Sr.bind_nx, sSeq_e, odds3, Sr.bind_nx, sSeq_e, odds4, Sr.bind_nx, sSeq_e, e, Sr.bind_nx, sSeq_e, texts6, Sr.bind_nx, sSeq_e, texts7, Sr.bind_nx]
  generalize strsL FT = SF at *
  generalize b_law_8 = B8 at *
  refine (fw _ _ _ _ _ _ _ _ _ _ _).go (fun _ _ h => h.elim) (fun _ _ h => h) (fun _ _ h => h.elim) (fun _ _ h => h.elim) (fun _ _ _ h => h.elim)
end Ck82
namespace Ck82
open PySem PySem.Spec L2 PV
theorem facts {w : World} {K : PySem.W.Frag} {h : Heap} {mg : Str → Option Value} {fa : Addr} (X : K.In h) (G : h.Ns mainGlobals mg) (hfa : mg "law" = some (.ref fa)) (c : PVH.Says chk fds K) :
    ∃ (cm : Nat → Addr) (fd : FuncData), (∀ (s : Shared) (u : Value), BindsTo s fd ⟨[u], []⟩ [("_law_script", u)]) ∧ ∀ base : Heap, K.In base → base.Ns mainGlobals mg → FnB PySem.Challenge.rw_copyways_k82_texts_of_no_formula.prog w K mg base cm 9 fa fd ["_law_script"] F_law := by
  obtain ⟨d_law_tape, hF_law_tape⟩ := PVH.Says.def_ c 0 rfl
  obtain ⟨d_law_next, hF_law_next⟩ := PVH.Says.def_ c 1 rfl
  obtain ⟨d_law_any, hF_law_any⟩ := PVH.Says.def_ c 2 rfl
  obtain ⟨d_law_word, hF_law_word⟩ := PVH.Says.def_ c 3 rfl
  obtain ⟨d_law_signs, hF_law_signs⟩ := PVH.Says.def_ c 4 rfl
  obtain ⟨d_law_bent, hF_law_bent⟩ := PVH.Says.def_ c 5 rfl
  obtain ⟨d_Formula_parts, hF_Formula_parts⟩ := PVH.Says.def_ c 6 rfl
  obtain ⟨d_Reference_row, hF_Reference_row⟩ := PVH.Says.def_ c 7 rfl
  obtain ⟨d_Reference_column, hF_Reference_column⟩ := PVH.Says.def_ c 8 rfl
  obtain ⟨d_Reference_fixed_row, hF_Reference_fixed_row⟩ := PVH.Says.def_ c 9 rfl
  obtain ⟨d_Reference_fixed_column, hF_Reference_fixed_column⟩ := PVH.Says.def_ c 10 rfl
  obtain ⟨d_law_seen, hF_law_seen⟩ := PVH.Says.def_ c 11 rfl
  obtain ⟨d_number_in, hF_number_in⟩ := PVH.Says.def_ c 12 rfl
  obtain ⟨d_distance_in, hF_distance_in⟩ := PVH.Says.def_ c 13 rfl
  obtain ⟨d_part_in, hF_part_in⟩ := PVH.Says.def_ c 14 rfl
  obtain ⟨d_is_integer, hF_is_integer⟩ := PVH.Says.def_ c 15 rfl
  obtain ⟨d_is_place, hF_is_place⟩ := PVH.Says.def_ c 16 rfl
  obtain ⟨d_is_part, hF_is_part⟩ := PVH.Says.def_ c 17 rfl
  obtain ⟨d_Reference___init, hF_Reference___init⟩ := PVH.Says.def_ c 18 rfl
  obtain ⟨d_reference_in, hF_reference_in⟩ := PVH.Says.def_ c 19 rfl
  obtain ⟨d_InvalidText___init, hF_InvalidText___init⟩ := PVH.Says.def_ c 20 rfl
  obtain ⟨d_Formula___init, hF_Formula___init⟩ := PVH.Says.def_ c 21 rfl
  obtain ⟨d_Formula_of, hF_Formula_of⟩ := PVH.Says.def_ c 22 rfl
  obtain ⟨d_read_formula, hF_read_formula⟩ := PVH.Says.def_ c 23 rfl
  obtain ⟨d_law_told, hF_law_told⟩ := PVH.Says.def_ c 24 rfl
  obtain ⟨d_law_number, hF_law_number⟩ := PVH.Says.def_ c 25 rfl
  obtain ⟨d_law_side, hF_law_side⟩ := PVH.Says.def_ c 26 rfl
  obtain ⟨d_law_part_in, hF_law_part_in⟩ := PVH.Says.def_ c 27 rfl
  obtain ⟨d_law_read, hF_law_read⟩ := PVH.Says.def_ c 28 rfl
  obtain ⟨d_law, hF_law⟩ := PVH.Says.def_ c 29 rfl
  exact all_mk (l := PySem.Challenge.rw_copyways_k82_texts_of_no_formula) (C_InvalidText := a_C_InvalidText K) (C_Formula := a_C_Formula K) (C_Reference := a_C_Reference K) (C_CopyError := a_C_CopyError K) (C_InvalidFormula := a_C_InvalidFormula K) (C_InvalidNumber := a_C_InvalidNumber K) (C_InvalidReference := a_C_InvalidReference K) (C_InvalidWay := a_C_InvalidWay K) (f_law_tape := a_f_law_tape K) (f_law_next := a_f_law_next K) (f_law_any := a_f_law_any K) (f_law_word := a_f_law_word K) (f_law_signs := a_f_law_signs K) (f_law_bent := a_f_law_bent K) (q_Formula_parts := a_q_Formula_parts K) (f_Formula_parts := a_f_Formula_parts K) (r_Formula_parts := a_r_Formula_parts K) (q_Reference_row := a_q_Reference_row K) (f_Reference_row := a_f_Reference_row K) (r_Reference_row := a_r_Reference_row K) (q_Reference_column := a_q_Reference_column K) (f_Reference_column := a_f_Reference_column K) (r_Reference_column := a_r_Reference_column K) (q_Reference_fixed_row := a_q_Reference_fixed_row K) (f_Reference_fixed_row := a_f_Reference_fixed_row K) (r_Reference_fixed_row := a_r_Reference_fixed_row K) (q_Reference_fixed_column := a_q_Reference_fixed_column K) (f_Reference_fixed_column := a_f_Reference_fixed_column K) (r_Reference_fixed_column := a_r_Reference_fixed_column K) (f_law_seen := a_f_law_seen K) (f_number_in := a_f_number_in K) (f_distance_in := a_f_distance_in K) (f_part_in := a_f_part_in K) (f_is_integer := a_f_is_integer K) (f_is_place := a_f_is_place K) (f_is_part := a_f_is_part K) (f_Reference___init := a_f_Reference___init K) (f_reference_in := a_f_reference_in K) (f_InvalidText___init := a_f_InvalidText___init K) (f_Formula___init := a_f_Formula___init K) (z_Formula_of := a_z_Formula_of K) (f_Formula_of := a_f_Formula_of K) (rz_Formula_of := a_rz_Formula_of K) (f_read_formula := a_f_read_formula K) (f_law_told := a_f_law_told K) (f_law_number := a_f_law_number K) (f_law_side := a_f_law_side K) (f_law_part_in := a_f_law_part_in K) (f_law_read := a_f_law_read K) (f_law := a_f_law K) (tk_MOST_DIGITS := a_tk_MOST_DIGITS K) (tk_DIGITS := a_tk_DIGITS K) (tk_GREATEST := a_tk_GREATEST K) (tk_MOST_PARTS_texts := a_tk_MOST_PARTS_texts K) (tk_BROKEN := a_tk_BROKEN K) (tk_MOST_PARTS_formulas := a_tk_MOST_PARTS_formulas K) X G hfa
    (PVH.Says.dec c 0 rfl)
    (PVH.Says.dec c 1 rfl)
    (PVH.Says.dec c 2 rfl)
    (PVH.Says.dec c 3 rfl)
    (PVH.Says.dec c 4 rfl)
    (PVH.Says.dec c 5 rfl)
    (PVH.Says.dec c 6 rfl)
    (PVH.Says.dec c 7 rfl)
    (PVH.Says.dec c 8 rfl)
    hF_law_tape
    (PVH.Says.dec c 9 rfl)
    hF_law_next
    (PVH.Says.dec c 10 rfl)
    hF_law_any
    (PVH.Says.dec c 11 rfl)
    hF_law_word
    (PVH.Says.dec c 12 rfl)
    hF_law_signs
    (PVH.Says.dec c 13 rfl)
    hF_law_bent
    (PVH.Says.dec c 14 rfl)
    (PVH.Says.dec c 15 rfl)
    (PVH.Says.dec c 16 rfl)
    (PVH.Says.dec c 17 rfl)
    hF_Formula_parts
    (PVH.Says.dec c 18 rfl)
    (PVH.Says.dec c 19 rfl)
    (PVH.Says.dec c 20 rfl)
    (PVH.Says.dec c 21 rfl)
    hF_Reference_row
    (PVH.Says.dec c 22 rfl)
    (PVH.Says.dec c 23 rfl)
    (PVH.Says.dec c 24 rfl)
    (PVH.Says.dec c 25 rfl)
    hF_Reference_column
    (PVH.Says.dec c 26 rfl)
    (PVH.Says.dec c 27 rfl)
    (PVH.Says.dec c 28 rfl)
    (PVH.Says.dec c 29 rfl)
    hF_Reference_fixed_row
    (PVH.Says.dec c 30 rfl)
    (PVH.Says.dec c 31 rfl)
    (PVH.Says.dec c 32 rfl)
    (PVH.Says.dec c 33 rfl)
    hF_Reference_fixed_column
    (PVH.Says.dec c 34 rfl)
    hF_law_seen
    (PVH.Says.dec c 35 rfl)
    hF_number_in
    (PVH.Says.dec c 36 rfl)
    hF_distance_in
    (PVH.Says.dec c 37 rfl)
    hF_part_in
    (PVH.Says.dec c 38 rfl)
    hF_is_integer
    (PVH.Says.dec c 39 rfl)
    hF_is_place
    (PVH.Says.dec c 40 rfl)
    hF_is_part
    (PVH.Says.dec c 41 rfl)
    hF_Reference___init
    (PVH.Says.dec c 42 rfl)
    hF_reference_in
    (PVH.Says.dec c 43 rfl)
    hF_InvalidText___init
    (PVH.Says.dec c 44 rfl)
    hF_Formula___init
    (PVH.isC_ok (PVH.Says.at_ c 45 rfl))
    (PVH.Says.dec c 46 rfl)
    (PVH.Says.at_ c 47 rfl)
    hF_Formula_of
    (PVH.Says.dec c 48 rfl)
    hF_read_formula
    (PVH.Says.dec c 49 rfl)
    hF_law_told
    (PVH.Says.dec c 50 rfl)
    hF_law_number
    (PVH.Says.dec c 51 rfl)
    hF_law_side
    (PVH.Says.dec c 52 rfl)
    hF_law_part_in
    (PVH.Says.dec c 53 rfl)
    hF_law_read
    (PVH.Says.dec c 54 rfl)
    hF_law
    (PVH.Says.dec c 55 rfl)
    (PVH.Says.dec c 56 rfl)
    (PVH.Says.dec c 57 rfl)
    (PVH.Says.dec c 58 rfl)
    (PVH.Says.dec c 59 rfl)
    (PVH.Says.dec c 60 rfl)
    (PVH.Says.dec c 61 rfl)
    (PVH.Says.dec c 62 rfl)
    (PVH.Says.dec c 63 rfl)
    (PVH.Says.dec c 64 rfl)
    (PVH.Says.dec c 65 rfl)
    (PVH.Says.dec c 66 rfl)
    (PVH.Says.dec c 67 rfl)
    (PVH.Says.at_ c 68 rfl)
    (PVH.Says.at_ c 69 rfl)
    (PVH.Says.at_ c 70 rfl)
    (PVH.Says.dec c 71 rfl)
    (PVH.Says.dec c 72 rfl)
    (PVH.Says.dec c 73 rfl)
    (PVH.Says.dec c 74 rfl)
    (PVH.Says.dec c 75 rfl)
    (PVH.Says.at_ c 76 rfl)
    (PVH.Says.at_ c 77 rfl)
    (PVH.Says.at_ c 78 rfl)
    (PVH.Says.dec c 79 rfl)
    (PVH.Says.dec c 80 rfl)
    (PVH.Says.dec c 81 rfl)
    (PVH.Says.at_ c 82 rfl)
    (PVH.Says.dec c 83 rfl)
    (PVH.Says.at_ c 84 rfl)
    (PVH.Says.dec c 85 rfl)
    (PVH.Says.at_ c 86 rfl)
    (PVH.Says.dec c 87 rfl)
    (PVH.Says.dec c 88 rfl)
    (PVH.Says.dec c 89 rfl)
    (PVH.Says.dec c 90 rfl)
    (PVH.Says.at_ c 91 rfl)
    (PVH.Says.dec c 92 rfl)
    (PVH.isC_ok (PVH.Says.at_ c 93 rfl))
    (PVH.Says.at_ c 94 rfl)
    (PVH.Says.dec c 95 rfl)
    (PVH.Says.dec c 96 rfl)
    (PVH.Says.dec c 97 rfl)
    (PVH.Says.at_ c 98 rfl)
    (PVH.Says.dec c 99 rfl)
    (PVH.Says.dec c 100 rfl)
    (PVH.Says.dec c 101 rfl)
    (PVH.Says.dec c 102 rfl)
    (PVH.Says.dec c 103 rfl)
    (PVH.Says.dec c 104 rfl)
    (PVH.Says.dec c 105 rfl)
    (PVH.Says.at_ c 106 rfl)
    (PVH.Says.dec c 107 rfl)
    (PVH.Says.dec c 108 rfl)
    (PVH.Says.dec c 109 rfl)
    (PVH.Says.dec c 110 rfl)
    (PVH.Says.dec c 111 rfl)
    (PVH.Says.dec c 112 rfl)
    (PVH.Says.dec c 113 rfl)
    (PVH.Says.dec c 114 rfl)
    (PVH.Says.dec c 115 rfl)
    (PVH.Says.dec c 116 rfl)
    (PVH.Says.dec c 117 rfl)
    (PVH.Says.dec c 118 rfl)
    (PVH.Says.at_ c 119 rfl)
    (PVH.Says.dec c 120 rfl)
    (PVH.Says.at_ c 121 rfl)
    (PVH.Says.dec c 122 rfl)
    (PVH.Says.at_ c 123 rfl)
    (PVH.Says.dec c 124 rfl)
    (PVH.Says.at_ c 125 rfl)
    (PVH.Says.dec c 126 rfl)
    (PVH.Says.at_ c 127 rfl)
    (PVH.Says.dec c 128 rfl)
    (PVH.Says.dec c 129 rfl)
    (PVH.Says.dec c 130 rfl)
    (PVH.Says.dec c 131 rfl)
    (PVH.Says.dec c 132 rfl)
    (PVH.Says.dec c 133 rfl)
    (PVH.Says.dec c 134 rfl)
    (PVH.Says.dec c 135 rfl)
    (PVH.Says.dec c 136 rfl)
    (PVH.Says.dec c 137 rfl)
    (PVH.Says.dec c 138 rfl)
    (PVH.Says.dec c 139 rfl)
    (PVH.Says.dec c 140 rfl)
    (PVH.Says.dec c 141 rfl)
    (PVH.Says.dec c 142 rfl)
    (PVH.Says.dec c 143 rfl)
    (PVH.Says.dec c 144 rfl)
    (PVH.Says.dec c 145 rfl)
    (PVH.Says.dec c 146 rfl)
    (PVH.Says.dec c 147 rfl)
    (PVH.Says.dec c 148 rfl)
    (PVH.Says.dec c 149 rfl)
    (PVH.Says.dec c 150 rfl)
    (PVH.Says.dec c 151 rfl)
    (PVH.Says.dec c 152 rfl)
    (PVH.Says.dec c 153 rfl)
    (PVH.Says.dec c 154 rfl)
    (PVH.Says.dec c 155 rfl)
    (PVH.Says.dec c 156 rfl)
    (PVH.Says.dec c 157 rfl)
    (PVH.Says.dec c 158 rfl)
    (PVH.Says.dec c 159 rfl)
    (PVH.Says.dec c 160 rfl)
    (PVH.Says.dec c 161 rfl)
    (PVH.Says.dec c 162 rfl)
    (PVH.Says.dec c 163 rfl)
    (PVH.Says.dec c 164 rfl)
    (PVH.Says.dec c 165 rfl)
    (PVH.Says.dec c 166 rfl)
    (PVH.Says.dec c 167 rfl)
    (PVH.Says.dec c 168 rfl)
    (PVH.Says.dec c 169 rfl)
    (PVH.Says.dec c 170 rfl)
    (PVH.Says.dec c 171 rfl)
    (PVH.Says.dec c 172 rfl)
    (PVH.Says.dec c 173 rfl)
    (PVH.Says.dec c 174 rfl)
    (PVH.Says.at_ c 175 rfl)
    (PVH.Says.at_ c 176 rfl)
    (PVH.Says.at_ c 177 rfl)
    (PVH.Says.dec c 178 rfl)
    (PVH.Says.at_ c 179 rfl)
    (PVH.Says.at_ c 180 rfl)
    (PVH.Says.at_ c 181 rfl)
    (PVH.Says.dec c 182 rfl)
end Ck82
open PySem PySem.W PySem.Calls PyProof.Rows in
set_option maxRecDepth 100000 in
set_option maxHeartbeats 0 in
theorem PySem.Challenge.cw_copyways_k82_texts_of_no_formula_holds : PySem.Challenge.rw_copyways_k82_texts_of_no_formula.Holds := by
  w_on; o_law
  refine HandSHeadRun.head_any (r := (OpenLaw.row PySem.Challenge.rw_copyways_k82_texts_of_no_formula)) (q := view (OpenLaw.row PySem.Challenge.rw_copyways_k82_texts_of_no_formula).prog [41]) (H := PVH.hook Ck82.seen Ck82.chk Ck82.fds) (ob := PVH.ob Ck82.seen Ck82.chk Ck82.fds) (M := 14000) (loose := Ck82.loose) (d := HandSHeadRun.topDef (OpenLaw.row PySem.Challenge.rw_copyways_k82_texts_of_no_formula).prog 41) (kwd := []) (PVH.ob_eq Ck82.seen Ck82.chk Ck82.fds)
    (by kernel_rfl) (fun s => by kernel_rfl) Ck82.run (by kernel_rfl) (by kernel_rfl) (by kernel_rfl) (by rfl) (by first | assumption | decide +kernel) (by decide +kernel) ⟨rfl, rfl, rfl, rfl, rfl, by decide +kernel⟩ ?hw ?hc
  case hw => w_witness2
  case hc =>
    refine PVH.walk_inE (l := PySem.Challenge.rw_copyways_k82_texts_of_no_formula) (n := 63) (k := 9) (x := "_law_script") (F := Ck82.F_law) rfl (by decide) (by kernel_rfl) ⟨rfl, by decide, by decide⟩ ?B Ck82.plain
    intro w mg fa h Y G hmg0
    obtain ⟨K, KX, c⟩ := Y
    have hmg : mg ("law" : PySem.Str) = some (.ref fa) := by
      have e : (HandSHeadRun.topDef (OpenLaw.row PySem.Challenge.rw_copyways_k82_texts_of_no_formula).prog 41).name = ("law" : PySem.Str) := by kernel_rfl
      rw [← e]
      exact hmg0
    obtain ⟨cm, fd, hb, hF⟩ := Ck82.facts (w := w) KX G hmg c
    exact ⟨K, cm, fd, KX, hb, hF⟩
